import PyProof.Rows.All
import KE.KTab
import KE.KItem
import KE.KRevIter
import KE.KSuper
import KE.KRevSl
import KE.KDictSum
import KE.KSortedM
import KE.KDictOf
import KE.KPar
import PySem.Challenge.RW_nn0431_01
set_option maxHeartbeats 0
set_option maxRecDepth 1000000
set_option linter.all false
set_option tactic.hygienic false
set_option genSizeOf false
set_option genInjectivity false
set_option bootstrap.genMatcherCode false
set_option Elab.async false
open And renaming intro->br
open Array renaming toList->cR
open Bool renaming and_eq_true_iff->dB,noConfusion->bU,or_true->Ak,or_false->SR,or_eq_true_iff->kv,and_eq_true->wB,false_ne_true->hz,false_and->KV,eq_iff_iff->p1,and_true->Pu,and_false->pU,or_eq_true->K6,or_eq_false_iff->Yx,true->Q,false->u
open Char renaming toNat_inj->Yc,toNat->DX
open Classical renaming propDecidable->nV,choose->Lo,choose_spec->RU,byContradiction->Eh
open Eq renaming trans->af,symm->a5
open Exists renaming elim->ah,intro->cM
open False renaming elim->b4
open Iff renaming mpr->ak,trans->jP
open Int renaming sub_sub->D7,le_trans->n3,sub_zero->AU,ofNat_le->jg,not_lt->hB,toNat->cK,natAbs->rr,not_le->yi,natCast_nonneg->cj,ofNat_sub->IW,max_eq_left->Rc,add_comm->CK,sub_nonneg_of_le->Qz,zero_add->KB,ofNat_lt->hn,lt_of_le_of_lt->O9,le_of_eq->O1,lt_trans->xI,max_comm->XE,zero_sub->JZ,toNat_of_nonneg->x6,le_of_lt->om,ne_of_gt->Sj,toNat_natCast->z8,toNat_sub->i_
open Int.ofNat renaming inj->eI
open Lean.JsonRpc renaming ErrorCode->QG
open Lean.JsonRpc.ErrorCode renaming workerCrashed->k6,parseError->I9,invalidRequest->JF,requestCancelled->Be,contentModified->C9,methodNotFound->qb,rpcNeedsReconnect->lY,unknownErrorCode->oP,workerExited->BD,internalError->vR,invalidParams->yd,serverNotInitialized->E9
open List renaming not_mem_nil->Sh,length->U,getElem?_eq_some_iff->kq,mem_singleton->qh,mem_append->pL,mem_cons->qV,map->R,mem_map->jD,all->cP,all_eq_true->gT,eq_nil_of_length_eq_zero->Hi,take->aF,isEmpty->tZ,replicate->dJ,reverse->f7,isPrefixOf->Cv,getLast?->cG,dropLast->ku,set->c5,range->e1,drop->cq,getLast?_eq_getElem?->yt,head?_drop->B4,drop_drop->Cn,length_cons->hS,getElem?_eq_getElem->bM,getElem?_eq_none->iu,getElem?_map->cf,length_range->fi,length_append->a4,contains->b6,length_map->bB,map_append->dq,Nodup->bw,filter->p6,append_nil->dw,getElem?_eq_none_iff->tF,getElem?_range->wg,drop_eq_getElem_cons->K2,mem_of_getElem?->aO,drop_eq_nil_of_le->Ew,mem_cons_self->b8,mem_cons_of_mem->cy,length_set->mX,map_reverse->CI,length_replicate->ig,mem_reverse->wD,contains_cons->Az,contains_iff_mem->gv,mem_append_right->fy,mem_append_left->gI,length_take->dS,append_assoc->dy,Pairwise->m5,pairwise_cons->rV,map_map->jC,mem_map_of_mem->hM,rec->jd,mem_flatMap->yy,head?->mj,take_of_length_le->zt,length_drop->vO,reverse_cons->JE,filterMap->eG,length_filterMap_le->zm,length_dropLast->Ze,dropLast_eq_take->Rl,length_reverse->uN,getElem?_zipIdx->Fw,length_zipIdx->Rp,find?->BC,filterMap_cons->xS,cons_eq_cons->Dm,pairwise_singleton->BJ,length_nil->RJ,drop_take->Uq,nodup_cons->jk,map_cons->tN,length_eq_zero_iff->Qs,toArray->gU
open List.Pairwise renaming nil->ip
open List.Perm renaming nodup_iff->uQ
open List.cons renaming inj->hq
open Nat renaming le_zero->vy,le_of_succ_le_succ->Ip,le_trans->ae,add_le_add_left->d5,sub_le_iff_le_add->Qg,add_assoc->cA,sub_le_iff_le_add'->I',le_refl->bb,le_of_lt_succ->lE,ble->js,le_of_ble_eq_true->ho,beq->aE,eq_of_beq_eq_true->eb,add_comm->eT,add_mul_mod_self_right->VY,mod_eq_of_lt->m_,lt_of_le_of_lt->cF,zero_le->cQ,add_right_cancel->Li,succ_pos->k9,add_right_comm->jN,zero_add->eF,le_antisymm->hJ,le_of_not_lt->j5,lt_trans->e8,succ_le_succ->b2,lt_of_lt_of_le->cc,lt_succ_self->ha,le_add_right->dO,le_succ_of_le->hI,le_of_eq->c6,shiftRight_eq_div_pow->Q?,lt_irrefl->j7,not_lt_zero->fC,lt_of_succ_lt_succ->zr,le_of_lt->bT,blt->dG,ble_eq_true_of_le->xv,succ_lt_succ->yT,not_lt->fS,lt_succ_of_lt->rM,min_le_right->oN,beq_refl->fJ,min_le_left->mq,ne_of_lt->fI,lt_succ_of_le->ic,lt_or_ge->hZ,succ_ne_zero->Je,add_le_add_right->f6,min_eq_right->Ij,min_eq_left->gf,noConfusion->Bu,sub_le->mi,le_succ->fh,le_add_left->mK,ne_of_beq_eq_false->Cr,le_total->ZQ,succ_ne_self->zO,succ_add->s?,lt_of_succ_lt->Fb
open Nat.succ renaming inj->fZ
open Ne renaming symm->me
open Option renaming map->b7,map_eq_some_iff->oI,bind->er,isSome->d7,getD->dN,isSome_iff_exists->vH,bind_eq_some_iff->iv,some->J,none->A
open Option.some renaming inj->aC
open Or renaming elim->aP,inr->aw,inl->aL,resolve_left->Ce
open Prod renaming fst->NX,snd->f9,ext->qo
open Prod.mk renaming inj->rN
open PySem renaming CmpOp->yk,PyData->JJ
open PySem.CmpOp renaming Eq->fD,In->uA,Gt->j8,Lt->fE,NotEq->hb,GtE->uW,IsNot->kS,Is->rp,NotIn->x7,LtE->HC
open PySem.Operator renaming rec->iA
open PySem.PyData renaming eqv->sL,eqvAll->PV,canLay0->C5,canLayAll0->Nz,depthAll->G0,list->S5
open PySem.Sqlite renaming Aff->rt
open PySem.Sqlite.Aff renaming integer->h9,text->j3,real->pA,blob->jS,numeric->pD
open PySem.Str renaming ofString->Dd,ofString_eq_toList->Ht
open String renaming length->lM,ofList->qE,toList->hN,toList_append->PW
open _root_ renaming List->aa,absurd->ay,Option->ba,Nat->O,congrArg->aq,Int->au,True->bh,trivial->a3,Bool->bc,String->bo,cond->aD,False->bX,rfl->Y,congrFun->qG,if_pos->aJ,if_neg->aS,of_decide_eq_true->ao,Unit->ki,decide_eq_true->eV,decide_eq_false->gn,beq_self_eq_true->jT,beq_iff_eq->ru,decide_eq_true_iff->mx
noncomputable section
namespace Zq
section
open PySem PySem.W PyProof.Rows
section
open PySem.W.Fast PySem.Challenge
def sd2:tw8326940854005059898 {strict:=Q,foot:=J<|tw797321630700447069 rw_nn0431_01,writes:=rw_nn0431_01.writes,may:=tw9572597257264208301 rw_nn0431_01} rw_nn0431_01.footing=true:=by kernel_rfl
def sd3:tw17960256430627541270 (tw2368527892694137696 rw_nn0431_01)=true:=by kernel_rfl
def sd4:tw16286561074155671207 rw_nn0431_01=true:=by kernel_rfl
def Ų:rw_nn0431_01.wellSaid=true:=by
 rw [te9446332074065402090];unfold tw9446332074065402090;rw [sd2,sd3,sd4]
 kernel_rfl
end
end
section
@[elab_as_elim] theorem W{c:Sort d}{a b}{M:c->Prop}(e:a=b)(p:M b):M a:=e▸p
@[elab_as_elim] theorem ax{c:Sort d}{a b}{M:c->Prop}(e:b=a)(p:M b):M a:=e▸p
def aI{a:Type c}{x:a}{b:Prop}(h:A=J x):b:=nomatch h
def iG{a:Type c}{x:a}{b:Prop}(h:J x=A):b:=nomatch h
def AV{a:Type c}{x}{l:aa a}{b:Prop}(h:[]=x::l):b:=nomatch h
def jJ{a:Type c}{x}{l:aa a}{b:Prop}(h:x::l=[]):b:=nomatch h
def wC{a:Prop}(h:0=n+1):a:=nomatch h
def vY{a:Prop}(h:n+1=0):a:=nomatch h
def bG{a:Type c}{x}{b:Prop}(h:x∈([]:aa a)):b:=ay h Sh
def lO{a:Prop}(h:u=Q):a:=nomatch h
def E7{a:Prop}(h:Q=u):a:=nomatch h
def dK{G:Prop}(h:a/\b)(f:a->b->G):G:=by obtain⟨c,d⟩:=h;exact f c d
def Ai{G:Prop}(h:a/\b/\c)(f:a->b->c->G):G:=by obtain⟨d,e,g⟩:=h;exact f d e g
def ahU{G:Prop}(h:a/\b/\c/\d/\e/\f/\g)(j:a->b->c->d->e->f->g->G):G:=by obtain⟨k,l,m,n,o,p,q⟩:=h;exact j k l m n o p q
def bp{c:Type}{b:c->Prop}{G:Prop}(h:∃a,b a)(f:∀a,b a->G):G:=by obtain⟨a,d⟩:=h;exact f a d
def aA{d:Type}{b c:d->Prop}{G:Prop}(h:∃a,b a/\c a)(f:∀a,b a->c a->G):G:=by obtain⟨a,e,g⟩:=h;exact f a e g
def hv{e:Type}{b c d:e->Prop}{G:Prop}(h:∃a,b a/\c a/\d a)(f:∀a,b a->c a->d a->G):G:=by obtain⟨a,g,j,k⟩:=h;exact f a g j k
def yV{f:Type}{b c d e:f->Prop}{G:Prop}(h:∃a,b a/\c a/\d a/\e a)(g:∀a,b a->c a->d a->e a->G):G:=by obtain⟨a,j,k,l,m⟩:=h;exact g a j k l m
def alh{g:Type}{b c d e f:g->Prop}{G:Prop}(h:∃a,b a/\c a/\d a/\e a/\f a)(j:∀a,b a->c a->d a->e a->f a->G):G:=by obtain⟨a,k,l,m,n,o⟩:=h;exact j a k l m n o
def Vz{j:Type}{b c d e f g h:j->Prop}{G:Prop}(k:∃a,b a/\c a/\d a/\e a/\f a/\g a/\h a)(l:∀a,b a->c a->d a->e a->f a->g a->h a->G):G:=by obtain⟨a,m,n,o,p,q,r,s⟩:=k;exact l a m n o p q r s
def DE{d e:Type}{c:d->e->Prop}{G:Prop}(h:∃a b,c a b)(f:∀a b,c a b->G):G:=by obtain⟨a,b,g⟩:=h;exact f a b g
def ht{e f:Type}{c d:e->f->Prop}{G:Prop}(h:∃a b,c a b/\d a b)(g:∀a b,c a b->d a b->G):G:=by obtain⟨a,b,j,k⟩:=h;exact g a b j k
def gw{f g:Type}{c d e:f->g->Prop}{G:Prop}(h:∃a b,c a b/\d a b/\e a b)(j:∀a b,c a b->d a b->e a b->G):G:=by obtain⟨a,b,k,l,m⟩:=h;exact j a b k l m
def rK{g h:Type}{c d e f:g->h->Prop}{G:Prop}(j:∃a b,c a b/\d a b/\e a b/\f a b)(k:∀a b,c a b->d a b->e a b->f a b->G):G:=by obtain⟨a,b,l,m,n,o⟩:=j;exact k a b l m n o
def zl{e f g:Type}{d:e->f->g->Prop}{G:Prop}(h:∃a b c,d a b c)(j:∀a b c,d a b c->G):G:=by obtain⟨a,b,c,k⟩:=h;exact j a b c k
def LB{j k l:Type}{d e f g h:j->k->l->Prop}{G:Prop}(m:∃a b c,d a b c/\e a b c/\f a b c/\g a b c/\h a b c)(n:∀a b c,d a b c->e a b c->f a b c->g a b c->h a b c->G):G:=by obtain⟨a,b,c,o,p,q,r,s⟩:=m;exact n a b c o p q r s
def hK{f g h j:Type}{e:f->g->h->j->Prop}{G:Prop}(k:∃a b c d,e a b c d)(l:∀a b c d,e a b c d->G):G:=by obtain⟨a,b,c,d,m⟩:=k;exact l a b c d m
def Cb{h j k l:Type}{e f g:h->j->k->l->Prop}{G:Prop}(m:∃a b c d,e a b c d/\f a b c d/\g a b c d)(n:∀a b c d,e a b c d->f a b c d->g a b c d->G):G:=by obtain⟨a,b,c,d,o,p,q⟩:=m;exact n a b c d o p q
def Vv{j k l m:Type}{e f g h:j->k->l->m->Prop}{G:Prop}(n:∃a b c d,e a b c d/\f a b c d/\g a b c d/\h a b c d)(o:∀a b c d,e a b c d->f a b c d->g a b c d->h a b c d->G):G:=by obtain⟨a,b,c,d,p,q,r,s⟩:=n;exact o a b c d p q r s
def TQ{h j k l m n:Type}{g:h->j->k->l->m->n->Prop}{G:Prop}(o:∃a b c d e f,g a b c d e f)(p:∀a b c d e f,g a b c d e f->G):G:=by obtain⟨a,b,c,d,e,f,q⟩:=o;exact p a b c d e f q
def gl{b:Type}{a}{x:b}(h:a[c]?=J x):c<U a:=(kq.mp h).1
def ms{b:Type}{x a:b}(h:x∈[a]):x=a:=qh.mp h
def hf{a:Type}{x:a}:x∈[x]:= .head _
def ma{a:Type}{x}{s t:aa a}(h:x∈s++t):x∈s\/x∈t:=pL.mp h
def mc{b:Type}{x a}{s:aa b}(h:x∈a::s):x=a\/x∈s:=qV.mp h
def mm{c d:Type}{f}{b:d}{s:aa c}(h:b∈R f s):∃a,a∈s/\f a=b:=jD.mp h
def iN(h:(a&&b)=Q):a=Q/\b=true:=dB.mp h
def oW{a:Type}{p}{s:aa a}(h:cP s p=Q):∀x∈s,p x=true:=gT.mp h
def fA{c d:Type}{f}{o:ba c}{b:d}(h:b7 f o=J b):∃a,o=J a/\f a=b:=oI.mp h
def jR{a:O->Prop}{b c x d:O}(h:[b,c][d]?=J x)(p:b=x->a 0)(q:c=x->a 1):a d:=by
 cases d with
 |zero=>exact p<|aC h|succ d=>cases d with
  |zero=>exact q<|aC h|succ d=>exact aI h
def xT{b:Type}{a:aa b}(h:U a=1):∃x,a=[x]:=List.length_eq_one_iff.mp h
def N'{b:Type}{a}{x:b}(h:U a=1)(e:a[0]?=J x):a=[x]:=ah (xT h) λy q=>by rw [q] at e⊢;exact aq (λz=>[z])<|aC e
def l1m{f:Type}{a}{c d:f}(h:U a<=1)(b:c∈a)(e:d∈a):c=d:=by
 induction a with
 |nil=>exact bG b|cons x r=>rw [Hi<|vy.mp<|Ip h] at b e;exact af (ms b) (ms e).symm
def ia1{x c:au}{k:O}(h:x<=c-k):x-1<=c-(k+1:O):=D7 c k 1▸Int.sub_le_sub_right h 1
def ia2{x:au}{p q r s:O}(a:x<=p-q)(b:r<=q)(c:p<=s+r):x<=s-(0:O):=n3 a<|AU (s:au)▸Int.sub_right_le_of_le_add (jg.mpr<|ae c<|d5 b s)
def ia4{x:au}(z:x-1<=0)(e:x-1≠0):x<=0:=Int.le_of_sub_one_lt<|Int.lt_iff_le_and_ne.mpr<|br z e
def ia6(z:p+3<=s+q)(l:3*(n-1)<=p)(a:q<=3)(b:s<=m)(c:m<=9):n<=4:=Qg.mp<|Nat.le_of_mul_le_mul_left (ae l<|ae (Nat.le_of_add_le_add_right<|ae z<|d5 a s)<|ae b c)<|Nat.zero_lt_succ 2
def ia7{a b:O}(h:a+3<=b):¬(b:au)-(a:au)<3:=hB.mpr<|Int.le_sub_left_of_add_le<|jg.mpr h
def Ε:s+q<=s+1+(q-1):=cA .. ▸d5 (I'.mp<|bb _) _
def ia9(k:O):¬(0:au)<=-k-1:=by lia
def ajG(k): -(-k-1)-1=k:=by lia
def aeL(a:0<=m)(b:cK m<=16777216):m<=16777216:=Int.toNat_le.mp b
def r_{a:O->Prop}(h:d<2)(b:a 0)(c:a 1):a d:=aP (Nat.le_one_iff_eq_zero_or_eq_one.mp<|lE h) (λe=>e▸b) λe=>e▸c
def bl{a b:O}(h:js a b=Q):a<=b:=ho h
open PySem.Operator renaming Add->V,Sub->J1,Mult->J2,MatMult->J3,Div->J4,Mod->J5,Pow->J6,LShift->J7,RShift->J8,BitOr->J9,BitXor->o_,BitAnd->TX,FloorDiv->Zq
@[reducible] def t'(a)(k):=iA (motive:=λZ=>Prop) a bh bh bh bh bh bh bh bh bh bh bh bh k
@[reducible] def uJ(a):=∀k,t' a k
def iB(b:a):uJ a:=λk=>iA (motive:=t' a) b a3 a3 a3 a3 a3 a3 a3 a3 a3 a3 a3 a3 k
@[reducible] def Jt(a b)(k):=iA (motive:=λZ=>Prop) a b bh bh bh bh bh bh bh bh bh bh bh k
@[reducible] def e7(a b):=∀k,Jt a b k
def cp(c:a)(d:b):e7 a b:=λk=>iA (motive:=Jt a b) c d a3 a3 a3 a3 a3 a3 a3 a3 a3 a3 a3 k
@[reducible] def tu(a b c)(k):=iA (motive:=λZ=>Prop) a b c bh bh bh bh bh bh bh bh bh bh k
@[reducible] def fR(a b c):=∀k,tu a b c k
def bZ(d:a)(e:b)(f:c):fR a b c:=λk=>iA (motive:=tu a b c) d e f a3 a3 a3 a3 a3 a3 a3 a3 a3 a3 k
@[reducible] def HH(a b c d)(k):=iA (motive:=λZ=>Prop) a b c d bh bh bh bh bh bh bh bh bh k
@[reducible] def hW(a b c d):=∀k,HH a b c d k
def dV(e:a)(f:b)(g:c)(h:d):hW a b c d:=λk=>iA (motive:=HH a b c d) e f g h a3 a3 a3 a3 a3 a3 a3 a3 a3 k
@[reducible] def u9(a b c d e)(k):=iA (motive:=λZ=>Prop) a b c d e bh bh bh bh bh bh bh bh k
@[reducible] def j4(a b c d e):=∀k,u9 a b c d e k
def ec(f:a)(g:b)(h:c)(j:d)(k:e):j4 a b c d e:=λl=>iA (motive:=u9 a b c d e) f g h j k a3 a3 a3 a3 a3 a3 a3 a3 l
@[reducible] def ZS(a b c d e f)(k):=iA (motive:=λZ=>Prop) a b c d e f bh bh bh bh bh bh bh k
@[reducible] def oj(a b c d e f):=∀k,ZS a b c d e f k
def eY(g:a)(h:b)(j:c)(k:d)(l:e)(m:f):oj a b c d e f:=λn=>iA (motive:=ZS a b c d e f) g h j k l m a3 a3 a3 a3 a3 a3 a3 n
@[reducible] def Ic(a b c d e f g)(k):=iA (motive:=λZ=>Prop) a b c d e f g bh bh bh bh bh bh k
@[reducible] def uk(a b c d e f g):=∀k,Ic a b c d e f g k
def kb(h:a)(j:b)(k:c)(l:d)(m:e)(n:f)(o:g):uk a b c d e f g:=λp=>iA (motive:=Ic a b c d e f g) h j k l m n o a3 a3 a3 a3 a3 a3 p
@[reducible] def O0(a b c d e f g h)(k):=iA (motive:=λZ=>Prop) a b c d e f g h bh bh bh bh bh k
@[reducible] def Hf(a b c d e f g h):=∀k,O0 a b c d e f g h k
def uw(j:a)(k:b)(l:c)(m:d)(n:e)(o:f)(p:g)(q:h):Hf a b c d e f g h:=λr=>iA (motive:=O0 a b c d e f g h) j k l m n o p q a3 a3 a3 a3 a3 r
@[reducible] def e'(a b c d e f g h j)(k):=iA (motive:=λZ=>Prop) a b c d e f g h j bh bh bh bh k
@[reducible] def O7(a b c d e f g h j):=∀k,e' a b c d e f g h j k
def ľ(k:a)(l:b)(m:c)(n:d)(o:e)(p:f)(q:g)(r:h)(s:j):O7 a b c d e f g h j:=λt=>iA (motive:=e' a b c d e f g h j) k l m n o p q r s a3 a3 a3 a3 t
@[reducible] def YM(a b c d e f g h j k)(l):=iA (motive:=λZ=>Prop) a b c d e f g h j k bh bh bh l
@[reducible] def GR(a b c d e f g h j k):=∀l,YM a b c d e f g h j k l
def Kw(l:a)(m:b)(n:c)(o:d)(p:e)(q:f)(r:g)(s:h)(t:j)(v:k):GR a b c d e f g h j k:=λx=>iA (motive:=YM a b c d e f g h j k) l m n o p q r s t v a3 a3 a3 x
@[reducible] def H!(a b c d e f g h j k l m n)(o):=iA (motive:=λZ=>Prop) a b c d e f g h j k l m n o
@[reducible] def Yn(a b c d e f g h j k l m n):=∀o,H! a b c d e f g h j k l m n o
def aeZ(o:a)(p:b)(q:c)(r:d)(s:e)(t:f)(v:g)(x:h)(y:j)(z:k)(B:l)(C:m)(E:n):Yn a b c d e f g h j k l m n:=λG=>iA (motive:=H! a b c d e f g h j k l m n) o p q r s t v x y z B C E G
end
set_option genCtorIdx false
open PySem.Operator renaming Add->V,Sub->J1,Mult->J2,MatMult->J3,Div->J4,Mod->J5,Pow->J6,LShift->J7,RShift->J8,BitOr->J9,BitXor->o_,BitAnd->TX,FloorDiv->Zq
section
mutual
inductive ai where
|none|bool (b:bc)|int (c:au)|str (s:bo)|tup (a:aa ai)|lst (a:aa ai)|oT (d:aa<|ai×ai)|obj (e:O) (f:aW)|ref (g:O)
inductive aW where
|nil|c (x:O) (v:ai) (r:aW)
end
set_option genCtorIdx true in
inductive AK where|neg|len|abs|sum|str|FC|list|tuple|sorted|dict|rev
inductive E where
|lit (v:ai)|var (x:O)|glob (x:O)|and (a b:E)|or (a b:E)|not (a:E)|ite (d a b:E)|CC (f:AK) (a:E)|EA (f:QG) (a b:E)|cmp (f:yk) (a b:E)|Ym (f g:yk) (a b d:E)|slice (a e h:E)|nil|cons (a r:E)|list (c:E)|tup (c:E)|LK|attr (a:E) (n:O)|pop (a:E)|m1 (f:rt) (a b:E)|K! (a k j:E)|call (f:O) (c:E)|z7 (a:E) (m:O) (c:E)|sup (x f:O) (c:E)|comp (l t:E) (k:rt) (a b d:E) (o:aa<|O×O)
inductive S where
|nil|seq (s r:S)|expr (e:E)|assign (t e:E)|ret (e:E)|ite (c:E) (a b:S)|while (c:E) (b:S)|for (t:E) (k:rt) (a b:E) (s:S)|cont|raise (d:E)|AZ (t e:E) (x c:O)|stuck|del (f:aa O)
structure Fn where
e4:aa O
p7:aa ai
gZ:S
noncomputable def ai.ctorIdx(e):=ai.casesOn (motive_1:=λZ=>O) e 0 (λZ=>1) (λZ=>2) (λZ=>3) (λZ=>4) (λZ=>5) (λZ=>6) (λZ Z=>7) λZ=>8
noncomputable def E.ctorIdx(e):=E.casesOn (motive:=λZ=>O) e (λZ=>0) (λZ=>1) (λZ=>2) (λZ Z=>3) (λZ Z=>4) (λZ=>5) (λZ Z Z=>6) (λZ Z=>7) (λZ Z Z=>8) (λZ Z Z=>9) (λZ Z Z Z Z=>10) (λZ Z Z=>11) 12 (λZ Z=>13) (λZ=>14) (λZ=>15) 16 (λZ Z=>17) (λZ=>18) (λZ Z Z=>19) (λZ Z Z=>20) (λZ Z=>21) (λZ Z Z=>22) (λZ Z Z=>23) λZ Z Z Z Z Z Z=>24
noncomputable def S.ctorIdx(e):=S.casesOn (motive:=λZ=>O) e 0 (λZ Z=>1) (λZ=>2) (λZ Z=>3) (λZ=>4) (λZ Z Z=>5) (λZ Z=>6) (λZ Z Z Z Z=>7) 8 (λZ=>9) (λZ Z Z Z=>10) 11 λZ=>12
end
open Zq.ai renaming bool->bS,oT->g0,int->ag,lst->aN,none->bk,obj->od,ref->aj,str->aG,tup->aR
open Zq.E renaming attr->fL,Ym->yo,comp->nj,cons->j1,LK->rm,K!->wL,lit->kr,m1->hL,nil->ta,CC->ti,EA->hC,pop->vZ,sup->qk,tup->oO,var->d9
open Zq.aW renaming nil->ar
open Zq.AK renaming FC->yq,sorted->Du,str->sv,tuple->q6
open Zq.S renaming assign->nK,expr->uD,nil->ck,raise->AH,ret->v5,seq->fH,stuck->yW
open Zq.Fn renaming mk->a8
section
namespace Q
noncomputable def i(n):=kr<|ag n
noncomputable def s(n):=kr<|aG n
noncomputable def N:=kr bk
noncomputable def T:=kr<|bS Q
noncomputable def a(x n):=fL (d9 x) n
def z(n):=a 64 n
noncomputable def x(a b):=hC k6 a b
noncomputable def p(a b):=hC I9 a b
noncomputable def m(a b):=hC JF a b
noncomputable def ln(a):=ti .len a
noncomputable def l0:E:= .list ta
noncomputable def k1(a):=j1 a ta
def k2(a b):=j1 a<|k1 b
def k3(a b c):=j1 a<|k2 b c
def k4(a b c d):=j1 a<|k3 b c d
noncomputable def w(m:O)(a:E):E:= .z7 (d9 64) m a
noncomputable def A(x)(e)(r):=fH (nK (d9 x) e) r
def B(n)(e)(r):=fH (nK (z n) e) r
noncomputable def C(t e)(r):=fH (nK t e) r
noncomputable def D(o e)(r):=fH (uD<|hL h9 o e) r
noncomputable def X(e)(r):=fH (uD e) r
noncomputable def R(e):=fH (v5 e) ck
noncomputable def I(c)(a r):=fH (.ite c a ck) r
noncomputable def J(c)(a b r):=fH (.ite c a b) r
noncomputable def K(a)(r):=fH (.del a) r
def F(t e)(b r):=fH (.for t h9 e N b) r
noncomputable def G(t)(k)(e f)(b r):=fH (.for t k e f b) r
noncomputable def H(c)(b r):=fH (.while c b) r
noncomputable def Ct(r):=fH .cont r
end Q
section
open Zq.Q
open Zq.E renaming nil->e,LK->d0,var->v,glob->gg,EA->o2,CC->o1,cmp->c,and->an,or->oo,not->n,ite->y,list->l,tup->t,cons->k,slice->sl,call->f,z7->h
open Zq.S renaming nil->Z
def b3(a)(b):=x (v a) b
def bz:=i 0
def cD:=i 1
noncomputable def cE:=v 183
def ee(a b):=t<|k2 a b
noncomputable def eM(a)(b)(d):=c a (v b) d
def jx(a)(b)(c)(d)(e):=B a b<|B c d e
noncomputable def dT:=v 61
def eg(a b):=b3 a<|v b
noncomputable def fg:=v 201
def fP(a):=k1<|v a
def fp(a)(b)(c):=X (w a b) c
noncomputable def hQ(a b c d e)(f):=nj a b h9 c d e f
noncomputable def fY:=v 94
def fN(a)(b c):=f a<|k2 b c
noncomputable def fU:=v 67
def di(a)(b):=x (z a) b
noncomputable def An(a):=o1 .neg a
def hp:=An cD
def ib(a)(b)(c)(d e):=I (eM a b c) d e
def b9(a):=K a Z
def fc(a)(b)(c)(d)(e):=A a b<|A c d e
noncomputable def hY:=v 243
noncomputable def h6:=v 115
noncomputable def hl:=v 40
def ll(a)(b)(c)(d)(e)(f)(g)(h)(j):=jx a b c d<|jx e f g h j
noncomputable def jI:=v 130
def gJ(a):=ln<|v a
def gC:=i 2
noncomputable def j2:=v 168
def gO(a)(b):=ee a<|v b
def iH(a):=l<|k1 a
def o6(a b c)(d e):=G a j3 b c d e
def fb(a)(b d)(e f):=I (c a b d) e f
def i7(a)(b c d):=f a<|k3 b c d
def sg:=s "error"
noncomputable def i9:=v 13
def fj(a)(b)(c):=D (v a) b c
noncomputable def l7(a):=o1 .list a
def lb(a)(b):=f a<|k1 b
noncomputable def ou:=v 112
def i6(a b)(c):=h (z a) b c
def oB:=z 181
def nB(a b)(c)(d):=C (eg a b) c d
def oc(a):=t<|k1 a
def hT(a):=p a cD
def oK(a b):=f a<|fP b
noncomputable def pH:=v 52
noncomputable def xg(a):=o1 Du a
def lW(a)(b)(c d):=ib fD a b c d
def iS(a)(b c d)(e f):=A a b<|F c d e f
def qa(a)(b c)(d):=C (b3 a b) c d
noncomputable def qB:=v 11
def jA(a):=b3 a bz
def mH(a)(b):=eM fD a b
def B6:=s "endless"
noncomputable def lx:E:=kr<|bS u
def N5:=a8 [64,38,69,3,140] [bk]<|ll 38 (v 38) 69 (v 69) 3 (v 3) 140 (y (eM uA 140 N) (v 69)<|v 140) Z
def LW:=a8 [64] []<|R<|ee (z 38)<|z 69
def Pb:=a8 [47] []<|A 94 l0<|fc 3 bz 40 (v 47)<|K [47]<|H (eM j8 40 bz) (fb fD (o2 Be hl cD) cD (D fY (v 3) Z)<|fc 40 (o2 C9 hl cD) 3 (hT<|v 3) Z)<|R fY
def Nv:=a8 [201,104] []<|fc 94 (l7<|v 104) 206 l0<|fc 137 (hQ l0 cE fY N T [(2,0),(183,0)]) 119 l0<|K [104]<|F dT (a 201 124) (iS 208 bz cE (a 61 123) (I (n<|b3 94 cE) (A 208 (hT<|v 208)<|D (b3 137 cE) (a 61 168) Z)<|b9 [183])<|fj 206 (v 208)<|b9 [208,61,183])<|K [208,61,183]<|F dT (a 201 124) (I (an (c fD (b3 206<|a 61 168) bz)<|n<|b3 94<|a 61 40) (qa 94 (a 61 40) T<|fj 119 (a 61 40) Z)<|b9 [61])<|A 3 bz<|K [61]<|H (eM fE 3<|gJ 119) (F j2 (b3 137<|eg 119 3) (nB 206 168 (m (eg 206 168) cD)<|A 40 (fL (x (a 201 124) j2) 40)<|I (an (c fD (eg 206 168) bz)<|n<|eg 94 40) (nB 94 40 T<|fj 119 hl Z)<|b9 [40,168])<|A 3 (hT<|v 3)<|b9 [40,168])<|R fY
def RI:=a8 [201] []<|R<|fN 180 fg<|o2 qb (iH lx)<|h fg 303 e
def MV:=a8 [216,253,161] []<|iS 47 bz cE (v 216) (A 47 (o2 lY (v 47)<|b3 161 cE)<|I (n<|b3 253 cE) (R<|ee (v 47) lx)<|b9 [183])<|R<|ee (v 47) T
def KJ:=a8 [201] []<|fc 253 (lb 239 fg) 161 l0<|o6 cE (h fg 303 e) N (fj 161 (y (h fg 290<|k1 cE) (o2 oP cD cE) bz)<|b9 [183])<|A 233 T<|K [183]<|H (v 233) (iS 233 lx dT (a 201 124) (A 47 (o2 lY (b3 161<|a 61 40)<|x (i7 230 (a 61 123) (v 253)<|v 161) bz)<|ib hb 47 (b3 161<|a 61 40) (qa 161 (a 61 40) (v 47)<|A 233 T Z)<|b9 [47,61])<|b9 [47,61])<|R<|v 161
def Qp:=a8 [201] []<|fc 253 (lb 239 fg) 161 (lb 289 fg)<|fc 200 (o2 qb (iH bz)<|h fg 303 e) 233 T<|H (v 233) (iS 233 lx dT (a 201 124) (A 150 (b3 200<|a 61 40)<|G cE pA (a 61 123) N (I (h fg 290<|k1 cE) (A 150 (b3 161 cE)<|K [183]<|Ct Z)<|fb hb (o2 lY (b3 200 cE)<|v 150) (b3 200 cE) (qa 200 cE (o2 lY (b3 200 cE)<|v 150)<|A 233 T Z)<|A 150 (y (b3 253 cE) (o2 lY (v 150)<|b3 161 cE)<|b3 161 cE)<|b9 [183])<|b9 [150,61,183])<|b9 [150,61,183])<|R<|v 200
def QQ:=a8 [60] []<|A 94 (l7<|v 60)<|K [60]<|o6 (v 167) (ln fY) N (o6 qB (ln fY) N (fb fD (o2 Be (o2 C9 (eg 94 11)<|v 167) cD) cD (nB 94 11 (o2 lY (eg 94 11)<|eg 94 167) Z)<|b9 [11])<|b9 [167,11])<|R fY
def KO:=a8 [64,168,163,183] []<|jx 168 j2 163 (v 163)<|ll 183 cE 102 l0 110 d0 277 l0 Z
def Ox:=a8 [64,183] []<|R<|wL (z 110) cE<|gg 20
def Mo:=a8 [64,201] []<|B 201 fg<|iS 60 (o2 qb (iH bz)<|h fg 303 e) dT (a 201 124) (fb j8 (ln<|a 61 123) bz (qa 60 (a 61 40) (o2 lY (b3 60<|a 61 40)<|o2 oP cD<|x (a 61 123) bz) Z)<|b9 [61])<|B 161 (oK 281 60) Z
def Nf:=a8 [64,163] []<|iS 47 bz (v 36) (v 163) (A 183 (i6 201 80<|fP 36)<|fb uW cE bz (A 47 (o2 lY (o2 lY (v 47)<|o2 oP cD cE)<|di 161 cE) Z)<|b9 [36,183])<|R<|v 47
def Sv:=a8 [64,163] []<|iS 94 l0 cE (lb 24<|w 187<|fP 163) (F j2 (i6 201 242<|k1 cE) (A 36 (i6 201 36<|k2 j2 bz)<|ib kS 36 (v 163) (D fY (v 36) Z)<|b9 [36,168])<|b9 [36,168,183])<|R<|xg fY
def N6:=a8 [64,163] []<|R<|p (xg<|v 163)<|w 79<|fP 163
def OR:=a8 [201,36] []<|R<|h fg 36<|k2 (h fg 214<|fP 36)<|hT<|h fg 156<|fP 36
def NP:=a8 [201,102] []<|iS 94 d0 (v 36) (v 102) (A 183 (h fg 80<|fP 36)<|fb uW cE bz (fb kS cE fY (qa 94 cE l0 Z)<|D (b3 94 cE) (fN 318 fg<|v 36) Z)<|b9 [36,183])<|A 211 d0<|K [201,36,102,183]<|F cE (xg fY) (qa 211 cE (o1 q6<|xg<|b3 94 cE)<|b9 [183])<|R<|v 211
def Nd:=a8 [201,102] []<|iS 94 l0 (v 36) (v 102) (I (an (c fE (h fg 80<|fP 36) bz)<|c hb (h fg 214<|fP 36) bz) (D fY (h fg 214<|fP 36) Z)<|b9 [36])<|R<|xg fY
def Q7:=a8 [64,201,181] []<|jx 201 fg 181 (v 181) Z
def OP:=a8 [64,130,183] []<|R<|h (di 181 jI) 34<|k1 cE
def Rv:=a8 [64,201] []<|ll 201 fg 153 (lb 143 fg) 181 l0 209 d0 Z
def Ry:=a8 [64,163,183] []<|ib kS 163 (z 209) (C (di 209<|v 163) (ln oB)<|D oB (i7 192 (ln oB) (v 163) cE) Z)<|R<|di 209<|v 163
def PJ:=a8 [64,130] []<|C (a 130 102) (i6 153 87<|k1<|a 130 163)<|C (a 130 277) (fN 313 (z 201)<|a 130 102)<|iS 150 (fN 316 (z 201)<|a 130 102) cE (v 150) (C (x (a 130 110) cE) (w 254<|k2 (b3 150 cE) cE)<|b9 [183]) Z
def Ml:=a8 [64] []<|fp 254 (k2 (oc<|i6 201 36<|k2 bz bz)<|gg 20)<|A 3 bz<|H (eM fE 3<|ln oB) (fp 157 (k1<|di 181<|v 3)<|A 3 (hT<|v 3) Z)<|R<|fN 244 (z 201) oB
def O3:=a8 [201] []<|R<|h (lb 188 fg) 85 e
def PR:=a8 [88,240,109] []<|fc 173 (l7<|v 109) 204 (o2 qb (iH bz)<|v 88)<|fc 28 (hT<|v 88) 57 l0<|K [109]<|o6 (v 129) (v 88) N (fb hb (eg 204 129) bz (K [95,162,39,129,0,1]<|Ct Z)<|fj 57 (v 129)<|nB 204 129 (gJ 57)<|A 162 (iH<|l<|k3 (v 129) (gJ 57) bz)<|H (v 162) (fc 95 (b3 162 hp) 0 (jA 95)<|fb fE (b3 95 gC) (ln<|eg 240 0) (A 1 (x (eg 240 0)<|b3 95 gC)<|fb fD (eg 204 1) bz (fj 57 (v 1)<|nB 204 1 (gJ 57)<|fj 162 (l<|k3 (v 1) (gJ 57) bz)<|K [95,39,0,1]<|Ct Z)<|qa 95 gC (hT<|b3 95 gC)<|fb fE (eg 204 1) (eg 204 0) (nB 204 0 (eg 204 1) Z)<|nB 173 0 (o2 lY (eg 173 0)<|eg 173 1)<|K [95,39,0,1]<|Ct Z)<|X (vZ<|v 162)<|fb fD (eg 204 0) (b3 95 cD) (A 39 hp<|K [95,1]<|H (eM hb 39<|v 0) (A 39 (vZ<|v 57)<|nB 204 39 (v 28)<|nB 173 39 (eg 173 0) Z) Z)<|b9 [95,39,0,1])<|b9 [95,162,39,129,0,1])<|R<|v 173
def Qf:=a8 [64,249] []<|ll 249 (v 249) 253 (lb 239<|a 249 201) 295 l0 100 d0<|fp 325 e<|jx 155 l0 122 l0<|fp 270 e<|B 231 (hQ l0 (v 0) (z 295) N T [(2,0),(0,0)])<|jx 136 (hQ l0 (v 0) (z 295) N T [(2,0),(0,0)]) 237 d0<|fp 306 e<|A 88 (ln<|z 295)<|B 276 (i7 199 (v 88) (z 122)<|z 155)<|jx 301 (i7 199 (v 88) (z 231)<|z 276) 109 (w 302 e) Z
def Mr:=a8 [64] []<|iS 201 (fL (z 249) 201) jI (fL (z 249) 181) (F cE (xg<|a 130 110) (I (n<|h fg 290<|k1 cE) (C (di 100<|ee (a 130 168) cE) (ln<|z 295)<|D (z 295) (ee (a 130 168) cE) Z)<|b9 [183])<|b9 [130,183]) Z
def QK:=a8 [64] []<|iS 201 (fL (z 249) 201) (ee jI cE) (z 295) (fc 33 (i6 249 34<|k2 jI cE) 47 bz<|fc 14 l0 110 (fL (x (fL (z 249) 181)<|v 33) 110)<|F (v 105) (xg<|v 110) (J (h fg 290<|fP 105) (A 47 (o2 lY (v 47)<|o2 oP cD<|v 105) Z) (I (di 253<|v 105) (fj 14 (di 100<|gO (v 33) 105) Z) Z)<|b9 [105])<|D (z 155) (v 47)<|D (z 122) (v 14)<|b9 [33,105,47,110,14,130,183]) Z
def SS:=a8 [64] []<|iS 201 (fL (z 249) 201) jI (fL (z 249) 181) (F dT (a 130 277) (C (di 237<|ee (a 130 168) dT) l0<|b9 [61])<|b9 [61,130])<|K [61,130]<|o6 (v 0) (ln<|z 295) N (C (ee (v 93) hl) (di 295<|v 0)<|F dT (h fg 242<|fP 40) (A 123 (fL (x (a 201 124) dT) 123)<|fc 30 (w 255<|fP 123) 3 (v 93)<|o6 fU (gJ 123) N (A 183 (eg 123 67)<|I (an (eM uW 67<|v 30)<|n<|h fg 290<|k1 cE) (A 101 (di 100<|ee (v 3) cE)<|X (fN 224 (di 231<|v 101)<|v 0)<|lW 67 bz (X (fN 224 (di 136<|v 101)<|v 0) Z) Z)<|A 3 (i6 249 34<|k2 (v 3) cE)<|b9 [101,67,183])<|X (fN 224 (di 237<|ee (v 3) dT)<|v 0)<|b9 [3,30,101,123,61,67,183])<|b9 [3,30,93,101,40,123,61,67,183,0]) Z
def My:=a8 [64,123] []<|A 67 (gJ 123)<|H (an (eM j8 67 bz)<|di 253<|b3 123<|m fU cD) (A 67 (m fU cD) Z)<|R<|o2 BD (m fU cD) bz
def R0:=a8 [64] []<|iS 109 d0 (v 55) (z 237) (iS 47 bz (v 0) (di 237<|v 55) (A 47 (o2 lY (v 47)<|di 301<|v 0)<|b9 [0])<|nB 109 55 (v 47)<|b9 [47,55,0])<|R<|v 109
def RT:=a8 [14,168] []<|ib kS 168 (v 14) (fj 14 j2 Z) Z
def RZ:=a8 [249] []<|R<|fL (oK 260 249) 109
def Rk:=a8 [249] []<|fc 200 (lb 301<|a 249 201) 109 d0<|F jI (a 249 181) (F dT (a 130 277) (qa 109 (ee (a 130 168) dT) (b3 200<|fL (x (fL (a 249 201) 124) dT) 40)<|b9 [61])<|b9 [61,130])<|R<|v 109
def KU:=a8 [64,112,317,106,207,194] []<|B 112 ou<|jx 317 (v 317) 106 (v 106)<|ll 207 (v 207) 194 (v 194) 227 l0 209 d0<|K [194,106,207]<|o6 j2 (v 317) N (C (di 209<|eg 112 168) j2<|b9 [168]) Z
def Mi:=a8 [64,52] []<|R<|wL (z 209) pH<|gg 322
def ON:=a8 [64,61] []<|R<|di 106 dT
def PU:=a8 [64,61] []<|R<|di 207 dT
def Nw:=a8 [64,61] []<|R<|di 194 dT
def Rj:=a8 [64,130] []<|R<|di 227 jI
def NT:=a8 [64,130,243] []<|A 70 (w 229<|k2 jI hY)<|lW 70 (gg 142) (R bz)<|lW 70 bz (R<|An<|w 198<|fP 130)<|R<|v 70
def K5:=a8 [64,130] []<|A 94 l0<|o6 hY (z 317) N (I (an (eM hb 243<|gg 297)<|eM hb 243<|gg 322) (A 70 (w 229<|k2 jI hY)<|I (an (eM hb 70 bz)<|eM hb 70<|gg 142) (D fY hY Z) Z)<|b9 [243,70])<|R fY
def Pa:=a8 [64,130] []<|fb fD (w 198<|fP 130) bz (R lx)<|o6 hY (z 317) N (fb hb (w 229<|k2 jI hY) bz (R lx)<|b9 [243])<|R T
def OJ:=a8 [64,130,243,17,124,152] []<|B 130 jI<|ll 243 hY 17 (v 17) 124 (v 124) 152 (v 152) Z
def ND:=a8 [64,201,60,97,227,250,215,48] []<|A 106 (hQ (a 61 40) dT (a 201 124) N T [(2,0),(61,0)])<|fc 207 (hQ (ln<|a 61 123) dT (a 201 124) N T [(2,0),(61,0),(9,2)]) 194 (hQ (a 61 149) dT (a 201 124) N T [(2,0),(61,0)])<|X (qk 64 382<|k (a 201 112)<|k4 (a 201 317) (v 106) (v 207)<|v 194)<|B 201 fg<|jx 60 (v 60) 97 (v 97)<|ll 227 (v 227) 250 (v 250) 215 (v 215) 48 (v 48) Z
def Px:=a8 [64,130,243] []<|R<|x (di 60 jI) hY
def SQ:=a8 [64,130,293] []<|R<|wL (di 97 jI) (v 293) hp
def Oc:=a8 [201,61,243] []<|fc 12 (hL pA (a 201 165)<|fL (x (a 201 124) dT) 236) 114 (hL pA (a 201 165) hY)<|I (oo (eM uA 12 N)<|eM uA 114 N) (R N)<|fb j8 (jA 12) (jA 114) (R<|s "reduce")<|fb fE (jA 12) (jA 114) (R<|s "shift")<|fb fD (b3 114 cD) (s "left") (R<|s "reduce")<|fb fD (b3 114 cD) (s "right") (R<|s "shift")<|fb fD (b3 114 cD) (s "nonassoc") (R<|s "bar")<|R N
def L2:=a8 [64,201,130,109] []<|ll 201 fg 168 (a 130 168) 177 d0 97 d0<|F cE (a 130 110) (J (c fD cE<|gg 259) (C (di 177 cE) (gg 141) Z) (J (c fE cE<|a 201 317) (C (di 177 cE) (x (a 130 110) cE) Z) (C (di 97 cE) (x (a 130 110) cE) Z) Z)<|b9 [183])<|B 107 l0<|K [201,183]<|F dT (a 130 277) (D (z 107) (l<|k2 dT<|wL (v 109) (ee (a 130 168) dT) bz)<|b9 [61])<|jx 148 bz 215 l0 Z
def SN:=a8 [64] []<|F (v 44) (z 107) (F hY (lb 24<|b3 44 cD) (A 17 N<|ib rp 243 (z 177) (A 17 (i7 176 (z 201) (jA 44) hY) Z)<|ib x7 17 N (fp 278 (k3 (v 44) hY<|v 17) Z)<|b9 [243,17])<|b9 [44,243,17]) Z
def LG:=a8 [64] []<|A 14 (o2 qb (iH bz)<|fL (z 201) 317)<|G (v 44) pA (z 107) N (F hY (lb 24<|b3 44 cD) (nB 14 243 (An<|jA 44)<|b9 [243])<|b9 [44,243])<|K [44,243]<|F hY (z 177) (nB 14 243 (di 177 hY)<|b9 [243])<|K [243]<|F hY (lb 24<|z 148) (nB 14 243 (gg 142)<|b9 [243])<|R<|v 14
def Mu:=a8 [64,14] []<|A 94 l0<|o6 hY (fL (z 201) 317) N (A 124 (hQ (jA 44) (v 44) (z 107) N (o2 Be (b3 44 cD)<|o2 oP cD hY) [(2,0),(44,0),(243,1)])<|I (an (v 124)<|eM rp 243<|z 177) (D fY (f 219<|k (z 168)<|k4 hY (s "shift/reduce") (o1 q6<|v 124)<|eg 14 243) Z)<|F (v 114) (sl (v 124) cD N) (A 55 (gO (jA 124) 114)<|D fY (f 219<|k (z 168)<|k4 hY (s "reduce/reduce") (v 55)<|eg 14 243)<|b9 [114,55])<|b9 [114,55,124,243])<|R fY
def Km:=a8 [14] []<|fb j8 (b3 14<|gg 297) bz (R bz)<|iS 154 d0 j2 (v 14) (I (yo fE fE (gg 142) j2 bz) (qa 154 (An j2) (hT<|wL (v 154) (An j2) bz) Z)<|b9 [168])<|A 23 bz<|K [168,14]<|F dT (xg<|v 154) (I (oo (mH 23 bz)<|c j8 (b3 154 dT)<|eg 154 23) (A 23 dT Z)<|b9 [61])<|R<|v 23
def SF:=a8 [14,61] []<|R<|hQ (y (mH 168<|An dT) bz j2) j2 (v 14) N T [(2,0),(168,0),(61,1)]
def Nl:=a8 [249,109,311,48] [aG "lalr"]<|A 60 l0<|fc 97 l0 227 l0<|fc 250 l0 215 l0<|F jI (a 249 181) (A 108 (i7 220 (a 249 201) jI<|v 109)<|X (h (v 108) 310 e)<|A 14 (h (v 108) 14 e)<|X (hL j3 (v 250)<|h (v 108) 250<|fP 14)<|X (hL j3 (v 215)<|a 108 215)<|A 61 bz<|I (v 311) (A 61 (oK 268 14) Z)<|ib hb 61 bz (A 14 (fN 218 (v 14) dT) Z)<|fj 60 (v 14)<|fj 97 (a 108 97)<|fj 227 dT<|b9 [108,14,61,130])<|R<|f 284<|k (a 249 201)<|k (v 60)<|k (v 97)<|k4 (v 227) (v 250) (v 215)<|v 48
def QN:=a8 [201,311] [bS Q]<|A 249 (lb 84 fg)<|R<|lb 196<|f 32<|k4 (v 249) (oK 273 249) (v 311)<|s "lalr"
def N1:=a8 [201,311] [bS Q]<|A 249 (lb 84 fg)<|R<|lb 196<|f 32<|k4 (v 249) (oK 257 249) (v 311)<|s "slr"
def Q9:=a8 [201,48,311] [aG "lalr",bS Q]<|lW 48 (s "lalr") (R<|fN 291 fg<|v 311)<|lW 48 (s "slr") (R<|fN 279 fg<|v 311)<|lW 48 (s "canonical") (R<|fN 323 fg<|v 311)<|fH yW Z
def Mp:=a8 [184] []<|A 187 (fL (a 184 201) 158)<|ib x7 187 N (C (gO (v 177) 277) (oK 320 184)<|ib j8 277 bz (fH yW Z)<|ib hb 177 (v 187) (fH yW Z) Z)<|R<|v 184
def OF:=a8 [64,133,130,228,100] [ag<| -1]<|ll 133 (v 133) 130 jI 228 (v 228) 100 (v 100) Z
def QZ:=a8 [64] []<|R<|t<|k3 (fL (z 133) 38) (z 130)<|l7<|z 228
def R6:=a8 [64,223,138,159,110] []<|ll 223 (v 223) 138 (v 138) 159 (v 159) 110 (v 110) Z
def QX:=a8 [64,185] []<|jx 185 (v 185) 3 bz Z
def Pr:=a8 [64] []<|fb uW (z 3) (ln<|z 185) (R<|i7 77 (s "$end") (s "") N)<|A 133 (di 185<|z 3)<|fb hb (a 133 38) (s "$end") (B 3 (hT<|z 3) Z)<|R<|v 133
def Mf:=a8 [64,184,202,50] [bk,ag 5000]<|ll 184 (v 184) 202 (y (eM uA 202 N) (f 191 e)<|v 202) 50 (v 50) 43 d0<|fp 82 e Z
def Ku:=a8 [64] []<|ll 181 (iH bz) 186 l0 166 N 88 bz<|ll 147 (s "more") 138 N 159 l0 110 l0 Z
def M1:=a8 [64] []<|R<|f 193<|k4 (c fD (z 147)<|s "accepted") (z 138) (l7<|z 159)<|l7<|z 110
def QO:=a8 [64,185] []<|R<|w 58<|k1<|oK 221 185
def Hj:=a8 [64,179] []<|fp 82 e<|H (c fD (z 147)<|s "more") (I (w 113 e) (fp 44 (k1<|h (v 179) 275 e) Z)<|fp 68 e Z)<|R<|w 212 e
def Ra:=a8 [64] []<|R<|an (c uA (z 166) N)<|c fD (w 252<|k1<|di 181 hp) bz
def Si:=a8 [64,133] []<|jx 166 (v 133) 88 (hT<|z 88) Z
def Ka:=a8 [64,130] []<|ib kS 130 (z 43) (C (di 43 jI) (y (i6 184 307<|fP 130) (i6 184 198<|fP 130) bz) Z)<|R<|di 43 jI
def Se:=a8 [64,133] []<|A 168 (i6 184 243<|k1<|a 133 38)<|R<|y (mH 168<|gg 296) (gg 321) j2
def Qo:=a8 [64,51] []<|fb uW (ln<|z 110) (z 50) (fH (AH<|k2 (p (p (s "more than ")<|o1 sv<|z 50)<|s " moves")<|w 118 e) Z)<|D (z 110) (v 51) Z
def Q6:=a8 [64] []<|R<|y (c uA (z 166) N) N<|fL (z 166) 3
def RY:=a8 [64,147,138] []<|jx 147 (v 147) 138 (v 138) Z
def RO:=a8 [64] []<|fc 130 (di 181 hp) 43 (w 252<|fP 130)<|ib j8 43 bz (fp 172 (fP 43)<|R N)<|fc 243 (w 294<|k1<|z 166) 146 (i6 184 146<|k2 jI hY)<|J (mH 146<|gg 141) (fp 54 (k1<|oc<|s "accept")<|fp 160 (k2 (s "accepted")<|di 186 hp) Z) (J (eM j8 146 bz) (fp 126 (fP 146) Z) (J (an (eM fE 146 bz)<|w 315<|fP 243) (fp 172 (k1<|m bz<|v 146) Z) (fp 31 (fP 243) Z) Z) Z) Z
def SO:=a8 [64,33] []<|fp 54 (k1<|gO (s "shift") 33)<|D oB (v 33)<|D (z 186) (i6 202 126<|k1<|z 166)<|B 166 N Z
def Rx:=a8 [64,61] []<|fp 54 (k1<|ee (s "reduce") dT)<|fc 164 (i6 184 164<|k1 dT) 93 (m (m (ln<|z 186)<|v 164)<|i6 184 149<|k1 dT)<|fc 138 (w 5<|k2 dT<|sl (z 186) (v 93) N) 37 (m (ln<|z 186)<|v 164)<|jx 186 (sl (z 186) N<|v 37) 181 (sl oB N<|hT<|v 37)<|fp 96 (k2 dT<|v 138) Z
def SA:=a8 [64,61,138] []<|A 33 (i6 184 34<|k2 (di 181 hp)<|i6 184 40<|k1 dT)<|ib fE 33 bz (fH (AH<|k2 (p (s "no state behind rule ")<|o1 sv dT)<|w 118 e) Z)<|D oB (v 33)<|D (z 186) (v 138) Z
def Q4:=a8 [64] []<|R<|i6 184 228<|k1<|di 181 hp
def QI:=a8 [64] []<|A 112 (hQ (x (fL (z 184) 112) j2) j2 (w 228 e) N T [(2,0),(168,0),(64,1)])<|D (z 159) (f 75<|k4 (z 166) (di 181 hp) ou<|m (z 88) cD) Z
def p':=a8 [64,243] []<|fp 280 e<|fp 160 (k2 (s "aborted") N) Z
def Nm:=a8 [64,170] []<|B 170 (v 170) Z
def NV:=a8 [64,184,202,50,203] [bk,ag 5000,bS u]<|X (qk 64 360<|k3 (v 184) (v 202)<|v 50)<|jx 203 (v 203) 197 (oK 189 64) Z
def Rz:=a8 [64] []<|X (qk 64 332 e)<|jx 182 bz 74 (s "") Z
def Sk:=a8 [64,133] []<|X (qk 64 327<|fP 133)<|B 234 lx Z
def PY:=a8 [64] []<|B 166 N Z
def Oa:=a8 [64,243] []<|I (an (z 203)<|n<|z 234) (B 234 (f 282<|k4 (z 184) oB hY<|z 50)<|R<|z 234)<|R T
def Mk:=a8 [64,33] []<|X (qk 64 337<|fP 33)<|fb j8 (z 182) bz (B 182 (m (z 182) cD) Z) Z
def RA:=a8 [64,61,186] []<|R<|i6 202 172<|k3 dT (v 186)<|z 197
def Mh:=a8 [64,61,138] []<|A 74 (z 74)<|B 74 (s "")<|J (mH 74<|s "abort") (fp 160 (k2 (s "aborted") N) Z) (J (mH 74<|s "accept") (fp 54 (k1<|oc<|s "accept")<|fp 160 (k2 (s "accepted")<|v 138) Z) (J (mH 74 sg) (fp 213 e Z) (X (qk 64 333<|k2 dT<|v 138) Z) Z) Z) Z
def Ll:=a8 [64] []<|I (z 203) (R<|i7 314 (z 184) oB<|z 50)<|R<|qk 64 361 e
def JP:=a8 [64,243] []<|fb fD (z 182) bz (fp 280 e Z)<|fb fD (z 182) (gg 76) (lW 243 (gg 258) (fp 160 (k2 (s "aborted") N)<|R N)<|fp 54 (k1<|ee (s "discard") hY)<|fp 29 e Z)<|fp 213 e Z
def MU:=a8 [64] []<|jx 182 (gg 76) 234 lx<|H (c fD (w 269 e) bz) (fb fD (ln oB) cD (fp 160 (k2 (s "aborted") N)<|R N)<|fp 54 (k1<|ee (s "pop")<|di 181 hp)<|jx 181 (sl oB N hp) 186 (sl (z 186) N hp) Z)<|A 33 (w 269 e)<|fp 54 (k1<|gO sg 33)<|D oB (v 33)<|D (z 186) (i6 202 213 e) Z
def SZ:=a8 [64] []<|A 146 (i6 184 229<|k2 (di 181 hp)<|gg 296)<|R<|y (yo fE fE bz (v 146)<|gg 141) (v 146) bz
def KM:=a8 [64,168,40,123,236,146,41,149] [ag<| -1,bk,ag 0,ag 0]<|B 168 j2<|jx 40 hl 123 (v 123)<|ll 236 (v 236) 146 (v 146) 41 (v 41) 149 (v 149) Z
def Py:=a8 [64,112,317,124,165,158,129] []<|B 112 ou<|ll 317 (v 317) 124 (v 124) 165 (v 165) 158 (v 158)<|ll 129 (v 129) 195 (hQ l0 pH (z 112) N T [(2,0),(52,0)]) 210 l0 169 l0<|K [158,165,112,124,129,317]<|F dT (z 124) (D (di 195<|a 61 40) (a 61 168)<|D (z 210) (ln<|z 169)<|X (hL j3 (z 169)<|o2 qb (iH<|a 61 168)<|hT<|ln<|a 61 123)<|b9 [61])<|B 272 (ln<|z 169) Z
def MM:=a8 [64] []<|R<|ln<|z 112
def L1:=a8 [64,183] []<|R<|c fE cE<|z 317
def NK:=a8 [64,183] []<|R<|l7<|di 195 cE
def Mj:=a8 [64,61,6] []<|R<|p (di 210 dT)<|v 6
def Sf:=a8 [64,36] []<|R<|di 169<|v 36
def RF:=a8 [64,36] []<|R<|m (v 36)<|di 210<|di 169<|v 36
def QS:=a8 [64,36] []<|fc 123 (fL (di 124<|di 169<|v 36) 123) 6 (m (v 36)<|di 210<|di 169<|v 36)<|R<|y (eM fE 6<|gJ 123) (eg 123 6) hp
def KS:=a8 [123,317] []<|iS 94 hp cE (v 123) (fb fE cE (v 317) (A 94 cE Z)<|b9 [183])<|R fY
def Qe:=a8 [115,129] [bk]<|iS 106 l0 (gO hl 117) h6 (I (oo (mH 40 sg)<|c rp (sl hl N cD)<|t<|k3 (s "") (s "$")<|s "'") (fH yW Z)<|ib kS 40 (v 106) (fj 106 hl Z)<|b9 [40,117])<|A 82 (y (oo (eM x7 129 N)<|mH 106 l0) (v 129)<|jA 106)<|ib kS 82 (v 106) (fH yW Z)<|A 112 (l7<|gg 304)<|K [40,117,129]<|F (gO hl 117) h6 (F pH (v 117) (I (an (eM kS 52<|v 106)<|eM kS 52 ou) (fj 112 pH Z)<|b9 [52])<|b9 [40,52,117])<|A 88 (gJ 112)<|fc 112 (p (p ou<|iH<|s "$accept")<|v 106) 124 (iH<|f 21<|k4 bz (v 88) (ee (hL jS ou<|v 82)<|gg 283)<|gg 283)<|K [40,106,52,117]<|F (gO hl 117) h6 (A 123 (o1 q6<|hQ (hL jS ou pH) pH (v 117) N T [(2,0),(52,0),(112,1)])<|fj 124 (f 21<|k4 (gJ 124) (hL jS ou hl) (v 123)<|fN 308 (v 123)<|v 88)<|b9 [40,117,123])<|R<|f 190<|k ou<|k (v 88)<|k4 (v 124) d0 N<|hL jS ou<|v 82
def OL:=a8 [64,52,61,226] []<|B 52 pH<|jx 61 dT 226 (l7<|v 226) Z
def M6:=a8 [64] []<|R lx
def Ma:=a8 [64] []<|iS 28 l0 (v 53) (oK 256 64) (J (h (v 53) 205 e) (fj 28 (h (a 53 133) 70 e) Z) (fc 129 (m (gJ 28)<|ln<|a 53 226) 28 (p (sl (v 28) N<|v 129)<|iH<|p (oc<|a 53 52)<|o1 q6<|sl (v 28) (v 129) N) Z)<|b9 [53,129])<|R<|jA 28
def Mm:=a8 [64,133] []<|ll 52 (a 133 38) 61 bz 226 l0 133 (v 133) Z
def Lh:=a8 [64] []<|R T
def LA:=a8 [71] []<|fc 94 l0 41 (l<|fP 71)<|K [71]<|H (eM hb 41 l0) (A 53 (vZ<|v 41)<|D fY (v 53)<|F (v 86) (a 53 226) (fj 41 (v 86)<|b9 [86])<|b9 [86,53])<|R<|o1 .rev fY
def OX:=a8 [64,112] []<|B 112 ou Z
def Ls:=a8 [64,133] []<|R<|oK 19 133
def LR:=a8 [64,61,186,197] []<|A 52 (di 112 dT)<|I (hL pD pH<|s "$@") (R<|i7 22 pH dT l0)<|R<|i7 22 pH dT<|v 186
def Mn:=a8 [64] []<|R<|lb 19<|i7 77 sg (s "") N
def Ph:=a8 [184] []<|R<|hQ (x (a 184 112) hl) hl (a 184 106) N T [(2,0),(40,0),(184,1)]
def Sx:=a8 [13,46] []<|fb j8 (b3 13 gC) bz (A 89 (o2 vR (b3 13 gC)<|v 46)<|qa 13 gC (o2 yd (b3 13 gC)<|v 46)<|R<|v 89)<|A 67 (b3 13 cD)<|qa 13 cD (hT fU)<|ib uW 67 (ln<|jA 13) (R<|o2 vR (o2 yd (o2 qb (o2 qb (p (b3 13<|i 3)<|i 5)<|p fU<|i 3)<|p fU<|i 11)<|i 7)<|v 46)<|A 25 (x (jA 13) fU)<|fb fE (o1 .abs<|v 25) (o2 E9 (i 10)<|i 18) (R<|o2 vR (v 25)<|v 46)<|A 98 (p (o2 qb gC<|m (o1 .abs<|v 25)<|o2 E9 (i 10)<|i 18)<|y (eM fE 25 bz) cD bz)<|qa 13 gC (o2 yd (v 98)<|v 46)<|R<|o2 vR (v 98)<|v 46
def Pk:=a8 [13,139,50] []<|R<|o1 q6<|nj (b3 139<|fN 246 i9<|gJ 139) (v 72) j3 (fN 246 i9<|v 50) N T [(2,0),(72,0),(246,2),(9,2),(13,1),(139,1)]
def Ly:=a8 [13] []<|A 17 (fN 246 i9<|i 6)<|ib fE 17 (i 4) (A 115 (l7<|x (gg 286)<|v 17)<|fb fD (fN 246 i9 gC) cD (A 40 (x (s "st")<|fN 246 i9 gC)<|D h6 (ee hl<|i7 247 i9 (t<|k (s "a")<|k (s "b")<|k4 (s "c") sg (s "s")<|s "t")<|i 4) Z)<|R h6)<|C (gO h6 106) (ee l0<|sl (t<|k3 (s "s") (s "t")<|s "u") N<|m (v 17) gC)<|K [40,17]<|F hl (v 106) (D h6 (ee hl<|i7 247 i9 (t<|k4 (s "a") (s "b") (s "c") sg)<|i 3)<|o6 (v 72) (p cD<|fN 246 i9 gC) N (D h6 (ee hl<|i7 247 i9 (p (t<|k4 (s "a") (s "b") (s "c") sg)<|v 106)<|i 4)<|b9 [72])<|b9 [40,72])<|R h6
def GQ:=a8 [13,115,52,26] []<|A 174 (hQ (v 123) (gO hl 123) h6 N (mH 40 pH) [(2,0),(40,0),(123,0),(52,1)])<|lW 174 l0 (R<|y (eM hb 52 sg) (l<|fP 52)<|l7<|x (t<|k (oc<|s "a")<|k4 (t e) (ee (s "c")<|s "c") (oc<|s "q")<|oc<|s "b")<|fN 246 i9<|i 5)<|A 94 l0<|K [52]<|F (v 56) (y (mH 26 bz) (jA 174)<|b3 174<|fN 246 i9<|gJ 174) (A 94 (p fY<|f 305<|k4 i9 h6 (v 56)<|m (v 26) cD)<|b9 [56])<|R fY
def Mz:=a8 [13,115] []<|A 17 (fN 246 i9<|i 3)<|lW 17 bz (R<|l7<|i7 247 i9 (t<|k (s "a")<|k (s "b")<|k (s "c")<|k4 (s "a") (s "b") (s "c")<|s "q")<|i 10)<|A 103 (sl (f 305<|k4 i9 h6 (s "s")<|i 3) N<|i 9)<|I (an (mH 17 gC)<|eM hb 103 l0) (fc 67 (fN 246 i9<|gJ 103) 103 (p (p (sl (v 103) N fU)<|l7<|x (t<|k (t e)<|k4 (oc<|s "a") (oc<|s "b") (oc<|s "c")<|ee (s "q")<|s "q")<|fN 246 i9<|i 5)<|sl (v 103) (hT fU) N) Z)<|R<|sl (v 103) N<|i 9
def Hv:=a8 [45,115,103,50] []<|C (gO ou 14) (ee (sl (a 45 112) N<|a 45 317)<|p (l7<|v 103)<|iH<|s "$end")<|C (t<|k (v 128)<|k (v 134)<|k (v 159)<|k4 (v 110) (v 171) fU<|v 120) (t<|k (iH bz)<|k l0<|k l0<|k4 l0 l0 bz bz)<|K [103]<|H (c HC (gJ 110)<|v 50) (fc 63 (y (c rp (eg 14 67) ou) (hL jS ou<|eg 14 67) gC) 5 (h (v 45) 229<|k2 (b3 128 hp)<|v 63)<|lW 5 bz (A 5 (m bz<|h (v 45) 198<|k1<|b3 128 hp) Z)<|lW 5 (o2 oP cD<|i 20) (fj 110 (oc<|s "accept")<|R<|gO (y (c j8 (gJ 110)<|v 50) (iH B6)<|l<|k4 T (b3 134 hp) (v 159)<|v 110) 171)<|J (eM j8 5 bz) (fj 110 (gO (s "shift") 5)<|fj 128 (v 5)<|fj 134 (ee (eg 14 67)<|p (eg 14 67)<|o1 sv fU)<|C (gO fU 120) (ee (hT fU)<|o2 BD bz<|m (v 120) cD) Z) (J (an (eM fE 5 bz)<|eM hb 5<|m bz<|o2 oP cD<|i 20) (C (gO hl 123) (b3 115<|m (m bz<|v 5) cD)<|fj 110 (ee (s "reduce")<|m bz<|v 5)<|fc 66 (m (gJ 134)<|gJ 123) 53 (p (t<|fP 40)<|o1 q6<|sl (v 134) (v 66) N)<|C (gO (v 128) 134) (ee (sl (v 128) N<|hT<|v 66)<|p (sl (v 134) N<|v 66)<|l<|fP 53)<|fj 128 (h (v 45) 34<|k2 (b3 128 hp)<|hL jS (a 45 112) hl) Z) (lW 120 bz (fc 59 (nj (c kS (h (v 45) 229<|k2 (b3 128 hp) qB)<|ee bz<|m bz<|o2 oP cD<|i 20) qB j3 (gJ 112) N T [(2,0),(11,0),(45,1),(128,1)]) 111 (nj (eg 112 11) qB j3 (gJ 112) N (an (eg 59 11)<|eM kS 11<|ee cD gC) [(2,0),(11,0),(112,1),(59,1)])<|fj 159 (t<|k3 (eg 14 67) (b3 128 hp)<|v 111)<|fj 171 fU Z)<|I (an (mH 120<|i 3)<|c fD (eg 14 67)<|s "$end") (R<|gO (l<|k4 lx N (v 159)<|v 110) 171)<|lW 120 (i 3) (fj 110 (gO (s "discard") 63)<|A 67 (hT fU) Z)<|A 120 (i 3)<|K [5,111,59,63]<|H (an (c j8 (gJ 128) cD)<|n<|yo fE fE bz (h (v 45) 229<|k2 (b3 128 hp) cD)<|o2 oP cD<|i 20) (fj 110 (ee (s "pop")<|vZ<|v 128)<|X (vZ<|v 134) Z)<|I (n<|yo fE fE bz (h (v 45) 229<|k2 (b3 128 hp) cD)<|o2 oP cD<|i 20) (R<|gO (y (c j8 (gJ 110)<|v 50) (iH B6)<|l<|k4 lx N (v 159)<|v 110) 171)<|fj 128 (h (v 45) 229<|k2 (b3 128 hp) cD)<|fj 134 (ee sg<|s "")<|fj 110 (ee sg<|b3 128 hp) Z) Z)<|b9 [5,40,111,53,59,123,63,66])<|R<|gO (iH B6) 171
def Oj:=a8 [45,103,50] []<|A 14 (nj (i7 77 (v 38) (p (v 38)<|o1 sv fU) N) (gO fU 38) pD (v 103) N T [(2,0),(67,0),(38,0),(77,2),(15,2)])<|C (t<|k3 (v 170) (v 151) fY) (t<|k3 (i7 144 (v 45) (lb 285<|oK 274 45)<|v 50) N N)<|fH (.AZ fY (h (v 170) 116<|fP 14) 91 151)<|ib x7 151 N (R<|iH B6)<|A 71 (y (a 94 223) (h (a 94 138) 70 e)<|a 94 138)<|R<|l<|k4 (a 94 223) (v 71) (hQ (h (v 92) 70 e) (v 92) (a 94 159) N T [(2,0),(92,0)])<|a 94 110
def FD:=a8 [115,71] []<|I (an (c fD (gJ 71) gC)<|o1 yq<|b3 71 cD) (R<|iH<|b3 71 cD)<|iS 94 (y (c rp (ee (jA 71)<|o1 q6<|hQ (jA 86) (v 86) (sl (v 71) cD N) N T [(2,0),(86,0)]) h6) l0<|iH<|s "?") (v 86) (sl (v 71) cD N) (A 94 (p fY<|fN 287 h6<|v 86)<|b9 [86])<|R fY
def OU:=a8 [115] []<|iS 94 l0 (v 72) h6 (F (gO hl 123) h6 (I (an (eM kS 40 fY)<|c fD (hQ pH pH (v 123) N (eM kS 52 fY) [(2,0),(52,0),(94,1)]) l0) (D fY hl Z)<|b9 [40,123])<|b9 [40,123,72])<|R fY
def Kk:=a8 [115,103] []<|C (t<|k3 (v 90) (v 65)<|v 125) (t<|k3 (oK 263 115) l0<|iH<|t<|k4 (s "$") (oc<|s "s") bz bz)<|o6 fU (hT<|gJ 103) N (C (t<|k3 (v 41) (v 104)<|v 35) (t<|k3 (l7<|v 125) (o1 .dict<|hQ (ee (v 62) T) (v 62) (v 125) N T [(2,0),(62,0)]) bz)<|K [125]<|H (eM fE 35<|gJ 41) (C (t<|k4 hl (v 123) (v 6)<|v 83) (eg 41 35)<|C (gO (v 35) 49) (ee (hT<|v 35) l0)<|J (eM fE 6<|gJ 123) (A 49 (hQ (t<|k4 qB (v 114) bz fU) (gO qB 114) h6 N (mH 11<|eg 123 6) [(2,0),(11,0),(114,0),(6,1),(123,1),(67,1)])<|fb rp (eg 123 6) (v 90) (fj 49 (t<|k4 hl (v 123) (hT<|v 6)<|v 83) Z) Z) (ib fE 83 fU (fc 217 (hQ qB qB (eg 65 83) N (an (c fE (b3 11 gC)<|ln<|b3 11 cD)<|c fD (x (b3 11 cD)<|b3 11 gC) hl) [(2,0),(11,0),(9,2),(40,1)]) 49 (hQ (t<|k4 (jA 11) (b3 11 cD) (hT<|b3 11 gC)<|b3 11<|i 3) qB (v 217) N T [(2,0),(11,0)]) Z) Z)<|K [83,6,40,123,217]<|F qB (v 49) (ib kS 11 (v 104) (nB 104 11 T<|fj 41 qB Z)<|b9 [11])<|b9 [83,6,40,49,11,123,217])<|fj 65 (v 41)<|lW 67 (gJ 103) (R<|ee fU<|c rp (t<|k4 (s "$") (oc<|s "s") cD bz)<|v 104)<|A 125 (hQ (t<|k4 (jA 11) (b3 11 cD) (hT<|b3 11 gC)<|b3 11<|i 3) qB (v 41) N (c fD (sl (b3 11 cD) (b3 11 gC)<|hT<|b3 11 gC)<|oc<|eg 103 67) [(2,0),(11,0),(103,1),(67,1)])<|lW 125 l0 (R<|ee fU lx)<|b9 [83,6,35,104,40,41,49,11,123,67,217])<|R<|ee bz lx
def zA:=a8 [45,115,103] []<|C (gO (v 7) 171) (f 299<|k4 (v 45) h6 (v 103)<|i 60)<|A 99 (i7 264 (v 45) (v 103)<|i 60)<|ib hb 99 (v 7) (R lx)<|lW 99 (iH B6) (R T)<|fb hb (nj fU fU jS cD (gJ 171) (c fE (m (eg 171 67)<|b3 171<|m fU cD)<|i 3) [(2,0),(67,0),(171,1)]) l0 (R lx)<|I (jA 99) (fc 132 (hQ (v 69) (v 69) (fN 287 h6<|b3 99 cD) N (eM hb 69<|s "") [(2,0),(69,0)]) 127 (nj fU (gO fU 38) pD (v 103) N (c rp (p (v 38)<|o1 sv fU)<|v 132) [(2,0),(67,0),(38,0),(15,2),(132,1)])<|I (oo (c hb (hQ (p (eg 103 67)<|o1 sv fU) fU (v 127) N T [(2,0),(67,0),(15,2),(103,1)])<|v 132)<|c hb (x (b3 99 cD) bz)<|s "s") (R lx) Z)<|K [127,132]<|C (gO (v 81) 235) (fN 265 h6<|v 103)<|A 232 (an (jA 99)<|c fD (b3 99 gC) l0)<|fb hb (a 45 250) l0 (R<|oo (v 235)<|n<|v 232)<|R<|an (mH 232<|v 235)<|oo (v 235)<|c fD (sl (v 171) N cD)<|l<|fP 81
def Lu:=a8 [175] []<|fc 13 (l<|k4 (l7<|sl (v 175) N<|i 63) bz bz<|o2 vR (o1 .abs<|o1 .sum<|sl (v 175) N<|i 63)<|i 1009) 115 (oK 266 13)<|fc 48 (x (ee (s "lalr")<|s "slr")<|fN 246 i9 gC) 45 (i7 292 (fN 309 h6<|s "s") (v 48)<|c fD (fN 246 i9 gC) cD)<|K [48,175]<|o6 (v 72) gC N (I (n<|i7 267 (v 45) h6<|fN 248 i9 h6) (R lx)<|b9 [72])<|R T
end
def iR:=[
 (376,N5),(340,LW),(24,Pb),(180,Nv),(239,RI),(230,MV),(289,KJ),(301,Qp),(281,QQ),(390,KO),(352,Ox),(377,Mo),(359,Nf),(347,Sv),(348,N6),(318,OR),(316,NP),(313,Nd),(399,Q7),(369,OP),(385,Rv),(393,Ry),(370,PJ),(358,Ml),(84,O3),(199,PR),(403,Qf),(417,Mr),(412,QK),(416,SS),(407,My),(415,R0),(224,RT),(273,RZ),(257,Rk),(382,KU),(384,Mi),(346,ON),(367,PU),(366,Nw),(375,Rj),(365,NT),(383,K5),(410,Pa),(394,OJ),(408,ND),(409,Px),(392,SQ),(176,Oc),(396,L2),(414,SN),(356,LG),(400,Mu),(268,Km),(218,SF),(32,Nl),(291,QN),(279,N1),(292,Q9),(196,Mp),(372,OF),(338,QZ),(391,R6),(397,QX),(404,Pr),(360,Mf),(332,Ku),(349,M1),(335,QO),(329,Hj),(334,Ra),(327,Si),(371,Ka),(387,Se),(328,Qo),(336,Q6),(341,RY),(330,RO),(337,SO),(342,Rx),(333,SA),(361,Q4),(378,QI),(326,p'),(386,Nm),(380,NV),(353,Rz),(345,Sk),(343,PY),(413,Oa),(355,Mk),(339,RA),(354,Mh),(381,Ll),(344,JP),(374,MU),(395,SZ),(364,KM),(388,Py),(406,MM),(402,L1),(389,NK),(350,Mj),(379,Sf),(373,RF),(362,QS),(308,KS),(309,Qe),(368,OL),(357,M6),(331,Ma),(363,Mm),(351,Lh),(256,LA),(411,OX),(398,Ls),(401,LR),(405,Mn),(274,Ph),(246,Sx),(247,Pk),(266,Ly),(305,GQ),(248,Mz),(299,Hv),(264,Oj),(287,FD),(263,OU),(265,Kk),(267,zA),(8,Lu)]
noncomputable def tS:=[
 (77,376),(192,390),(143,377),(244,399),(188,385),(260,403),(145,382),(219,394),(284,408),(220,396),(75,372),(193,391),(221,397),(18,360),(189,386),(144,380),(21,364),(190,388),(22,368),(19,363),(285,411)]
noncomputable def Ap:=[
 (77,[(70,340)]),(192,[(34,352)]),(143,[(187,359),(79,347),(87,348)]),(244,[(34,369)]),(188,[(254,393),(157,370),(85,358)]),(260,[(325,417),(270,412),(306,416),(255,407),(302,415)]),(145,[(243,384),(40,346),(164,367),(149,366),(198,375),(146,365),(228,383),(307,410)]),(219,[]),(284,[(243,384),(40,346),(164,367),(149,366),(198,375),(146,365),(228,383),(307,410),(229,409),(34,392)]),(220,[(310,414),(14,356),(250,400)]),(75,[(70,338)]),(193,[]),(221,[(275,404)]),(18,[(82,332),(212,349),(116,335),(58,329),(113,334),(44,327),(252,371),(294,387),(54,328),(118,336),(160,341),(68,330),(126,337),(172,342),(96,333),(228,361),(280,378),(31,326)]),(189,[]),(144,[(82,353),(212,349),(116,335),(58,329),(113,334),(44,345),(252,371),(294,387),(54,328),(118,336),(160,341),(68,330),(126,355),(172,342),(96,354),(228,381),(280,378),(31,344),(29,343),(315,413),(5,339),(213,374),(269,395)]),(21,[]),(190,[(303,406),(290,402),(242,389),(36,350),(214,379),(156,373),(80,362)]),(22,[(205,357),(70,331)]),(19,[(205,351),(70,331)]),(285,[(126,398),(172,401),(213,405)])]
noncomputable def tq:=[
 (284,[382]),(144,[360,332,361,333,327,337])]
noncomputable def oM:=[
 (77,[38,69,3,140]),(192,[168,163,183,102,110,277]),(143,[201,161]),(244,[201,181]),(188,[201,153,181,209]),(260,[249,253,295,100,155,122,231,136,237,276,301,109]),(145,[112,317,106,207,194,227,209]),(219,[130,243,17,124,152]),(284,[112,317,106,207,194,227,209,201,60,97,250,215,48]),(220,[201,168,177,97,107,148,215]),(75,[133,130,228,100]),(193,[223,138,159,110]),(221,[185,3]),(18,[184,202,50,43,181,186,166,88,147,138,159,110]),(189,[170]),(144,[184,202,50,43,181,186,166,88,147,138,159,110,203,197,182,74,234]),(21,[168,40,123,236,146,41,149]),(190,[112,317,124,165,158,129,195,210,169,272]),(22,[52,61,226]),(19,[52,61,226,133]),(285,[112])]
noncomputable def Fx:=[
 (20,ag<| -1),(141,ag 1048576),(142,ag<| -1048576),(259,ag 0),(297,ag 1),(322,ag 2),(258,ag 0),(296,ag 1),(321,ag 2),(76,ag 3),(283,ag 0),(304,aR [aG "$end",aG "error",aG "$undefined"]),(286,aR [aR [aR [aG "s",aR []],aR [aG "s",aR [aG "s",aG "t",aG "b"]],aR [aG "s",aR [aG "s",aG "error",aG "b"]],aR [aG "t",aR [aG "a"]],aR [aG "t",aR [aG "t",aG "c",aG "a"]]],aR [aR [aG "s",aR [aG "a"]],aR [aG "s",aR [aG "b",aG "t",aG "c"]],aR [aG "s",aR [aG "b",aG "error",aG "c"]],aR [aG "t",aR []],aR [aG "t",aR [aG "t",aG "s"]]],aR [aR [aG "s",aR [aG "a"]],aR [aG "s",aR [aG "error"]],aR [aG "s",aR [aG "s",aG "c",aG "t"]],aR [aG "t",aR [aG "b"]],aR [aG "t",aR [aG "b",aG "error"]]],aR [aR [aG "s",aR [aG "a"]],aR [aG "s",aR [aG "error",aG "a"]],aR [aG "s",aR [aG "b",aG "s",aG "c"]],aR [aG "s",aR [aG "b",aG "error",aG "b"]],aR [aG "s",aR [aG "t",aG "s"]],aR [aG "t",aR [aG "c"]],aR [aG "t",aR [aG "error",aG "c"]]]])]
noncomputable def ahp:=[
 (376,222),(340,70),(390,222),(352,34),(377,222),(359,187),(347,79),(348,87),(399,222),(369,34),(385,222),(393,254),(370,157),(358,85),(403,222),(417,325),(412,270),(416,306),(407,255),(415,302),(382,222),(384,243),(346,40),(367,164),(366,149),(375,198),(365,146),(383,228),(410,307),(394,222),(408,222),(409,229),(392,34),(396,222),(414,310),(356,14),(400,250),(372,222),(338,70),(391,222),(397,222),(404,275),(360,222),(332,82),(349,212),(335,116),(329,58),(334,113),(327,44),(371,252),(387,294),(328,54),(336,118),(341,160),(330,68),(337,126),(342,172),(333,96),(361,228),(378,280),(326,31),(386,222),(380,222),(353,82),(345,44),(343,29),(413,315),(355,126),(339,5),(354,96),(381,228),(344,31),(374,213),(395,269),(364,222),(388,222),(406,303),(402,290),(389,242),(350,36),(379,214),(373,156),(362,80),(368,222),(357,205),(331,70),(363,222),(351,205),(411,222),(398,126),(401,172),(405,213)]
noncomputable def cm{a:Type}:aa (O×a)->O->ba a
|[],_=>A|(y,v)::r,x=>aD (aE y x) (J v)<|cm r x
def jq(t:aa<|O×aa O)(c f:O):=(cm t c).any λt=>t.any<|aE f
inductive m2 where
|list (a:aa ai)|dict (b:aa<|ai×ai) (n:O)|inst (c:O) (d:aW)
abbrev aT:=O->ba m2
noncomputable def aT.dn(a:aT)(b:O)(o:m2):aT:=λc=>aD (aE c b) (J o)<|a c
noncomputable def cu:=16777216
noncomputable def cW:aW->O->ba ai
|ar,_=>A| .c y v r,x=>aD (aE y x) (J v)<|cW r x
noncomputable def ez:aW->O->ai->aW
|ar,x,v=> .c x v ar| .c y a r,x,v=>aD (aE y x) (.c x v r)<| .c y a<|ez r x v
noncomputable def kX:aW->O->aW
|ar,_=>ar| .c y a r,x=>aD (aE y x) (kX r x)<| .c y a<|kX r x
noncomputable def aW.iW:aW->O
|ar=>0| .c _ _ r=>r.iW+1
def D2(a:ai->ai->Prop):aW->aW->Prop
|ar,l=>l=ar| .c x v r,l=>∃b s,l= .c x b s/\a v b/\D2 a r s
noncomputable def q2:aa O->aa ai->aW
|[],_=>ar|_,[]=>ar|x::r,v::s=> .c x v<|q2 r s
def bE{a:Type}(o:ba a)(b:a->Prop):=match o with
|some a=>b a|none=>bX
def dH(t)(a B:Prop):=match t with
|true=>a|false=>B
noncomputable def oa(v):=ai.casesOn (motive_1:=λZ=>ba au) v A (λZ=>A) J (λZ=>A) (λZ=>A) (λZ=>A) (λZ=>A) (λZ Z=>A) λZ=>A
noncomputable def vg(v):=ai.casesOn (motive_1:=λZ=>ba bo) v A (λZ=>A) (λZ=>A) J (λZ=>A) (λZ=>A) (λZ=>A) (λZ Z=>A) λZ=>A
noncomputable def G1(v):=ai.casesOn (motive_1:=λZ=>ba<|aa ai) v A (λZ=>A) (λZ=>A) (λZ=>A) J (λZ=>A) (λZ=>A) (λZ Z=>A) λZ=>A
noncomputable def YA(v):=ai.casesOn (motive_1:=λZ=>ba O) v A (λZ=>A) (λZ=>A) (λZ=>A) (λZ=>A) (λZ=>A) (λZ=>A) (λZ Z=>A) J
def qO(v:ai):=aE v.ctorIdx 0
noncomputable def mV(o):=er o λo=>m2.casesOn (motive:=λZ=>ba<|aa ai) o J (λZ Z=>A) λZ Z=>A
noncomputable def l2(o):=er o λo=>m2.casesOn (motive:=λZ=>ba<|aa (ai×ai)×O) o (λZ=>A) (λa n=>J (a,n)) λZ Z=>A
noncomputable def LV(o):=er o λo=>m2.casesOn (motive:=λZ=>ba<|O×aW) o (λZ=>A) (λZ Z=>A) λc a=>J (c,a)
def ES(a:aT)(v):=ai.casesOn (motive_1:=λZ=>ba<|aa ai) v A (λZ=>A) (λZ=>A) (λZ=>A) (λZ=>A) J (λZ=>A) (λZ Z=>A) λb=>mV<|a b
def eR(a:aT)(v):=ai.casesOn (motive_1:=λZ=>ba<|aa ai) v A (λZ=>A) (λZ=>A) (λZ=>A) J J (λZ=>A) (λZ Z=>A) λb=>mV<|a b
def pR(a:aT)(v):=ai.casesOn (motive_1:=λZ=>ba<|aa<|ai×ai) v A (λZ=>A) (λZ=>A) (λZ=>A) (λZ=>A) (λZ=>A) J (λZ Z=>A) λb=>b7 (·.1)<|l2<|a b
noncomputable def dg(s):=Dd s
noncomputable def toPs(f:ai->ba JJ):aa ai->ba (aa JJ)
|[]=>J []|x::r=>er (f x) λd=>b7 (d::·)<|toPs f r
noncomputable def toP:O->ai->ba JJ
|0,_=>A|n+1,v=>ai.casesOn (motive_1:=λZ=>ba JJ) v (J .none) (λb=>J<| .bool b) (λa=>J<| .int a) (λs=>J<| .str<|dg s) (λc=>(toPs (toP n) c).map .tuple) (λc=>(toPs (toP n) c).map .list) (λZ=>A) (λZ Z=>A) λZ=>A
def xA(n)(a v):=er (toP n a) λa=>(toP n v).map λb=>sL a b
noncomputable def xt:=200
def qC(a b):=if U a=U b then xA xt (aN a) (aN b) else J u
noncomputable def vJ(n:O)(a:au):=
if 0<=a then(if a<n then J (cK a) else A) else(if 0<=a+n then J (cK<|a+n) else A)
noncomputable def CD(n:O)(v)(d):=ai.casesOn (motive_1:=λZ=>ba O) v (J d) (λZ=>A) (λa=>J (if a<0 then cK (a+n) else min (cK a) n)) (λZ=>A) (λZ=>A) (λZ=>A) (λZ=>A) (λZ Z=>A) λZ=>A
noncomputable def gK{a:Type}(b:aa a)(lo c):=(aF c b).drop lo
noncomputable def ZH(f)(v):=ai.casesOn (motive_1:=λZ=>bc) v u (λZ=>u) (λZ=>Q) (λZ=>Q) f (λZ=>u) (λZ=>u) (λZ Z=>u) λZ=>u
noncomputable def UO:O->aa ai->bc
|0,_=>u|n+1,a=>cP a<|ZH<|UO n
abbrev kU(n:O):ai->Bool:=ZH<|UO n
def gz(v):=kU 3 v
noncomputable def kh(v):=ai.casesOn (motive_1:=λZ=>O) v 0 (λZ=>0) (λZ=>1) (λZ=>2) (λZ=>3) (λZ=>0) (λZ=>0) (λZ Z=>0) λZ=>0
def il(a:aa<|ai×ai)(k):=gz k=Q/\∀e∈a,kh e.1=kh k
section
open Classical
noncomputable def dU:aa (ai×ai)->ai->ba ai
|[],_=>A|e::r,x=>if e.1=x then J e.2 else dU r x
noncomputable def eW:aa (ai×ai)->ai->ai->aa (ai×ai)
|[],x,v=>[(x,v)]|e::r,x,v=>if e.1=x then(e.1,v)::r else e::eW r x v
def WI:dU (e::r) x=if e.1=x then J e.2 else dU r x:=Y
def Rg:eW (e::r) x v=if e.1=x then(e.1,v)::r else e::eW r x v:=Y
def nr(x)(a:aa ai):=if gz x=Q/\∀y∈a,gz y=Q then J (@decide (x∈a) (propDecidable _)) else A
end
noncomputable def vT:aa ai->ba (aa bo)
|[]=>J []|v::r=>er (vg v) λs=>b7 (s::·)<|vT r
noncomputable def oi:aa ai->ba (aa au)
|[]=>J []|v::r=>er (oa v) λa=>b7 (a::·)<|oi r
noncomputable def tI(x:au):aa au->aa au
|[]=>[x]|y::r=>if x<=y then x::y::r else y::tI x r
def V?:tI x (y::r)=if x<=y then x::y::r else y::tI x r:=Y
noncomputable def Eb:aa au->aa au
|[]=>[]|x::r=>tI x<|Eb r
noncomputable def g8(s:bo):aa bo->ba O
|[]=>A|t::r=>if t=s then J 0 else b7 (·+1)<|g8 s r
def afI:g8 s (t::r)=if t=s then J 0 else b7 (·+1) (g8 s r):=Y
noncomputable def τ:aa ai->ba (ai×ai)
|[]=>A|k::r=>r.casesOn A λv r=>r.casesOn (J (k,v)) λZ Z=>A
noncomputable def yG:aa ai->ba (aa<|ai×ai)
|[]=>J []|x::r=>er (er (G1 x) τ) λp=>b7 (p::·)<|yG r
@[irreducible] noncomputable def nx(a j:au):=@decide (a<j) (nV _)
@[irreducible] noncomputable def uY(a j:au):=@decide (a<=j) (nV _)
@[irreducible] noncomputable def eX(a j:au):=@decide (a=j) (nV _)
@[irreducible] noncomputable def nh(a j:bo):=@decide (a=j) (nV _)
def Yl{b:Type}(a:b):∃x,x=a:=cM a rfl
noncomputable def ih(a:b):=Lo<|Yl a
def iO(a:b):ih a=a:=RU<|Yl a
abbrev QT:=ai->aT->Prop
def y!(a:aT)(b)(c:QT):=∀n d,a d=A->c (aj d) (a.dn d<| .dict b n)
@[irreducible] def AD:=ih y!
def Ug:AD=y! :=by unfold AD;exact iO _
def Ut(a:aT)(o)(b:QT):=∀c,a c=A->b (aj c) (a.dn c o)
@[irreducible] def iC:=ih Ut
def Zd:iC=Ut:=by unfold iC;exact iO _
def Mb(o)(K):=bE (mV o) K
@[irreducible] def ni:=ih Mb
def ze:ni=Mb:=by unfold ni;exact iO _
def Vr(o)(a:aa (ai×ai)->Prop):=bE (l2 o) λp=>a p.1
@[irreducible] def yv:=ih Vr
def JT:yv=Vr:=by unfold yv;exact iO _
def Zn(o)(a:O->aW->Prop):=bE (LV o) λp=>a p.1 p.2
@[irreducible] def s8:=ih Zn
def Fe:s8=Zn:=by unfold s8;exact iO _
def dj(a:aT)(v)(K):=ai.casesOn (motive_1:=λZ=>Prop) v bX (λZ=>bX) (λZ=>bX) (λZ=>bX) (λZ=>bX) K (λZ=>bX) (λZ Z=>bX) λb=>ni (a b) K
def kN(a)(v)(K):=ai.casesOn (motive_1:=λZ=>Prop) v (dj a v K) (λZ=>dj a v K) (λZ=>dj a v K) (λZ=>dj a v K) K (λZ=>dj a v K) (λZ=>dj a v K) (λZ Z=>dj a v K) λZ=>dj a v K
def tR(a:aT)(v)(K):=ai.casesOn (motive_1:=λZ=>Prop) v bX (λZ=>bX) (λZ=>bX) (λZ=>bX) (λZ=>bX) (λZ=>bX) K (λZ Z=>bX) λb=>yv (a b) K
def ri(a:aT)(v)(K):=ai.casesOn (motive_1:=λZ=>Prop) v bX (λZ=>bX) (λZ=>bX) (λZ=>bX) (λZ=>bX) (λZ=>bX) (λZ=>bX) K λb=>s8 (a b) K
def wX(a:aT)(v)(b:O->aa ai->Prop):=bE (YA v) λc=>ni (a c)<|b c
def kE(a:bc->Prop):aa ai->Prop:=λb=>a<| !tZ b
def mU(a)(v)(K):=ai.casesOn (motive_1:=λZ=>Prop) v (K u) K (λb=>K<| !eX b 0) (λZ=>kN a v<|kE K) (λZ=>kN a v<|kE K) (λZ=>kN a v<|kE K) (λZ=>kN a v<|kE K) (λZ Z=>kN a v<|kE K) λZ=>kN a v<|kE K
def Qi(a:aa ai)(b:bc->Prop):aa ai->Prop:=λc=>bE (qC a c) b
def kQ1(b:ai)(a:aT)(c:bc->Prop):aa ai->Prop:=λd=>dj a b<|Qi d c
def sQ(a)(b c)(d):=dj a b<|kQ1 c a d
def MT(c b)(d)(a):=ai.casesOn (motive_1:=λZ=>Prop) c (sQ d c b a) (λe=>bE (xA xt (bS e) b) a) (λe=>bE (oa b) λj=>a<|eX e j) (λe=>bE (vg b) λj=>a<|nh e j) (λe=>bE (xA xt (aR e) b) a) (λZ=>sQ d c b a) (λZ=>sQ d c b a) (λZ Z=>sQ d c b a) λZ=>sQ d c b a
def inR(a)(b)(o):=Option.casesOn (motive:=λZ=>Prop) o bX λo=>m2.casesOn (motive:=λZ=>Prop) o (λc=>bE (nr a c) b) (λd Z=>il d a/\b (d7<|dU d a)) λZ Z=>bX
def Mc(a c)(d:aT)(b):=ai.casesOn (motive_1:=λZ=>Prop) c bX (λZ=>bX) (λZ=>bX) (λZ=>bX) (λe=>bE (nr a e) b) (λe=>bE (nr a e) b) (λf=>il f a/\b (d7<|dU f a)) (λZ Z=>bX) λr=>inR a b<|d r
@[irreducible] def mW:=ih Mc
def q8:mW=Mc:=by unfold mW;exact iO _
def i2(a b)(c:au->au->Prop):=bE (oa a) λd=>bE (oa b) λj=>c d j
def VL(a:bc->Prop):bc->Prop:=λr=>a<| !r
def OY(f)(a b:ai)(d:aT)(c:bc->Prop):=match f with
|fD=>MT a b d c|hb=>MT a b d<|VL c|rp=>mW a b d c|kS=>mW a b d<|VL c|uA=>qO b=Q/\c (qO a)|x7=>qO b=Q/\c (!qO a)|fE=>i2 a b λe j=>c<|nx e j|HC=>i2 a b λe j=>c<|uY e j|j8=>i2 a b λe j=>c<|nx j e|uW=>i2 a b λe j=>c<|uY j e
def adQ(a:aa ai)(b:aT)(c:QT):aa ai->Prop:=λd=>U a+U d<=cu/\iC b (.list<|a++d) c
def A1(b:ai)(a:aT)(c:QT):aa ai->Prop:=λd=>dj a b<|adQ d a c
def ali(d b)(a)(c):=ai.casesOn (motive_1:=λZ=>Prop) d (dj a d<|A1 b a c) (λZ=>dj a d<|A1 b a c) (λe=>bE (oa b) λj=>c (ag<|e+j) a) (λs=>bE (vg b) λt=>lM (s++t)<=4096/\c (aG<|s++t) a) (λf=>bE (G1 b) λg=>U f+U g<=cu/\c (aR<|f++g) a) (λZ=>dj a d<|A1 b a c) (λZ=>dj a d<|A1 b a c) (λZ Z=>dj a d<|A1 b a c) λZ=>dj a d<|A1 b a c
def vs(b)(c)(d)(a):=bE (oa b) λn=>bE (a[0]?) λx=>(U a=1/\0<=n/\cK n<=cu)/\iC c (.list<|dJ (cK n) x) d
def ajc(b c)(a)(d):=ai.casesOn (motive_1:=λZ=>Prop) b (dj a b<|vs c a d) (λZ=>dj a b<|vs c a d) (λe=>bE (oa c) λj=>rr e<4611686018427387904/\d (ag<|e*j) a) (λZ=>dj a b<|vs c a d) (λZ=>dj a b<|vs c a d) (λZ=>dj a b<|vs c a d) (λZ=>dj a b<|vs c a d) (λZ Z=>dj a b<|vs c a d) λZ=>dj a b<|vs c a d
def kI1(a:QT)(k:au)(b:aT):aa ai->Prop:=λc=>bE (vJ (U c) k) λn=>bE (c[n]?) λx=>a x b
def kI2(b:QT)(a:ai)(c:aT):aa (ai×ai)->Prop:=λd=>il d a/\bE (dU d a) λx=>b x c
def L_(o b)(a)(c):=∀G:Prop,(∀k,b=ag k->kN a o (kI1 c k a)->G)->(tR a o (kI2 c b a)->G)->
(∀s k d,o=aG s->b=ag k->0<=k->k<64->s.toList[cK k]?=J d->c (aG<|qE [d]) a->G)->G
@[irreducible] def ko:=ih L_
def E8:ko=L_:=by unfold ko;exact iO _
def T!(a b)(c)(d:QT):=i2 a b λe j=>d (ag<|e-j) c
@[irreducible] def xD:=ih T!
def Me:xD=T! :=by unfold xD;exact iO _
def ZV(f)(a b:ai)(c:aT)(d:QT):=match f with
|I9=>ali a b c d|JF=>xD a b c d|qb=>ajc a b c d|yd=>i2 a b λe j=>0<j/\d (ag<|e/j) c|vR=>i2 a b λe j=>0<j/\d (ag<|e%j) c|oP=>i2 a b λe j=>(e=1/\0<=j/\j<4096)/\d (ag ((2^cK j:O):au)) c|C9=>i2 a b λe j=>(0<=e/\0<=j/\j<4096)/\d (ag ((cK e>>>cK j:O):au)) c|Be=>i2 a b λe j=>(0<=e/\0<=j)/\d (ag ((cK e&&&cK j:O):au)) c|lY=>i2 a b λe j=>(0<=e/\0<=j)/\d (ag ((cK e|||cK j:O):au)) c|E9=>i2 a b λe j=>(e=10/\j=18)/\d (ag 1000000000000000000) c|BD=>i2 a b λe j=>d (ag<|max e j) c|k6=>ko a b c d
def Cj(a:aT)(v:ai):ba (aa ai):=match eR a v with
|some b=>J b|none=>b7 (·.map (·.1))<|pR a v
def akL(v)(a)(b:QT):=bE (oa v) λc=>(0<=c/\c<=cu)/\b (aG<|toString c) a
def y'(v)(a)(b:QT):=ai.casesOn (motive_1:=λZ=>Prop) v bX (λZ=>bX) (λZ=>bX) (λZ=>b (bS Q) a) (λZ=>b (bS u) a) (λZ=>bX) (λZ=>bX) (λZ Z=>bX) λZ=>bX
def Oz(v)(a)(b):=bE (Cj a v) λc=>bE (oi c) λd=>U d<64/\iC a (.list<|R ag<|Eb d) b
@[irreducible] def Ff:=ih Oz
def TF:Ff=Oz:=by unfold Ff;exact iO _
def Sr(a:QT)(b:aT):aa ai->Prop:=λc=>a (ag<|U c) b
def WU(a:QT)(b:aT):aa ai->Prop:=λc=>iC b (.list c) a
def UH(a:QT)(b:aT):aa ai->Prop:=λc=>a (aR c) b
def kRe(a:QT)(b:aT):aa ai->Prop:=λc=>iC b (.list<|f7 c) a
def P!(a:QT)(b:aT):aa ai->Prop:=λc=>bE (oi c) λd=>a (ag d.sum) b
def RN(f:AK)(v:ai)(a:aT)(b:QT):Prop:=match f with
| .neg=>bE (oa v) λc=>b (ag<| -c) a| .len=>kN a v<|Sr b a| .abs=>bE (oa v) λc=>b (ag<|rr c) a| .sum=>dj a v<|P! b a|sv=>akL v a b|yq=>y' v a b| .list=>kN a v<|WU b a|q6=>dj a v<|UH b a|Du=>Ff v a b| .dict=>dj a v λd=>bE (yG d) λe=>(U e<=cu/\∀g∈e,kh g.1=3/\gz g.1=Q)/\AD a (e.foldl (λd g=>eW d g.1 g.2) []) b| .rev=>dj a v<|kRe b a
def Nr(f)(v:ai)(b:aT)(a:Prop):=match f with
|h9=>wX b v λZ Z=>a|j3=>wX b v λZ Z=>a|jS=>dj b v λZ=>a|pA=>tR b v λZ=>a|pD=>bE (vg v) λZ=>a
@[irreducible] def pF:=ih Nr
def rG:pF=Nr:=by unfold pF;exact iO _
def YC(f)(v b:ai)(a:aT)(c:QT):=match f with
|h9=>wX a v λd e=>U e<cu/\c bk (a.dn d<| .list<|e++[b])|j3=>wX a v λd e=>dj a b λg=>(U e+U g<=cu/\b≠v)/\c bk (a.dn d<| .list<|e++g)|jS=>dj a v λe=>bE (vg b) λs=>bE (vT e) λh=>bE (g8 s h) λk=>c (ag k) a|pA=>tR a v λj=>il j b/\c (dN (dU j b) bk) a|pD=>bE (vg v) λs=>bE (vg b) λp=>c (bS<|Cv (hN p)<|hN s) a
@[irreducible] def lG:=ih YC
def pV:lG=YC:=by unfold lG;exact iO _
def d'(v)(a)(b:QT):=wX a v λc d=>bE (cG d) λx=>b x<|a.dn c<| .list<|ku d
@[irreducible] def AW:=ih d'
def Y3:AW=d':=by unfold AW;exact iO _
def kGe(k d:ai)(a:QT)(b:aT):aa (ai×ai)->Prop:=λc=>il c k/\a (dN (dU c k) d) b
def δ(v k d)(a)(b):=tR a v<|kGe k d b a
def AP(a)(lo b)(c:aa ai->Prop):=bE (CD (U a) lo 0) λd=>bE (CD (U a) b<|U a) λb=>c<|gK a d b
@[irreducible] def mh:=ih AP
def yI:mh=AP:=by unfold mh;exact iO _
def y4(lo a:ai)(b:QT)(c:aT):aa ai->Prop:=λd=>mh d lo a<|WU b c
def U?(o lo b)(a)(c):=ai.casesOn (motive_1:=λZ=>Prop) o (dj a o<|y4 lo b c a) (λZ=>dj a o<|y4 lo b c a) (λZ=>dj a o<|y4 lo b c a) (λs=>(qO lo=Q/\b=ag 1)/\c (aG<|qE<|aF 1<|hN s) a) (λd=>mh d lo b<|UH c a) (λZ=>dj a o<|y4 lo b c a) (λZ=>dj a o<|y4 lo b c a) (λZ Z=>dj a o<|y4 lo b c a) λZ=>dj a o<|y4 lo b c a
def S3(o b v)(a)(c:aT->Prop):=∀G:Prop,(∀k,b=ag k->0<=k->(wX a o λd e=>k<U e/\c (a.dn d<| .list<|c5 e (cK k) v))->G)->
(∀d f n,o=aj d->a d=J (.dict f n)->il f b->U f<cu->(∀n,c<|a.dn d<| .dict (eW f b v) n)->G)->G
@[irreducible] def qe:=ih S3
def Sw:qe=S3:=by unfold qe;exact iO _
def Z3(o)(n)(v)(a:aT)(b:aT->Prop):=∀G:Prop,(∀c d e,o=aj c->a c=J (.inst d e)->jq oM d n=Q->e.iW<=60->b (a.dn c<| .inst d<|ez e n v)->G)->G
@[irreducible] def Bq:=ih Z3
def e?:Bq=Z3:=by unfold Bq;exact iO _
abbrev og:=aT->ba (aa ai)
def w8(a:aT)(v):=ai.casesOn (motive_1:=λZ=>O) v 0 (λZ=>0) (λZ=>0) (λZ=>0) (λZ=>0) (λZ=>0) (λZ=>0) (λZ Z=>0) λb=>dN (b7 (·.2)<|l2<|a b) 0
def qU(b)(v)(a):=if w8 a v=w8 b v then b7 (·.map (·.1)) (pR a v) else A
def tL(a):= -4611686018427387904<=a/\a<4611686018427387904
noncomputable def m4(lo a):=(e1<|cK<|a-lo).map λ(k:O)=>ag<|lo+(k:au)
noncomputable def qi(a:aa ai):=a.zipIdx.map λp=>aR [ag p.2,p.1]
def Wc(b)(a)(c:og->aa ai->Prop):=∀G:Prop,(kN a b (c λa=>eR a b)->G)->((tR a b λd=>c (qU a b)<|R (·.1) d)->G)->G
@[irreducible] def w9:=ih Wc
def Ke:w9=Wc:=by unfold w9;exact iO _
def kIr(a:ai)(b:og->aa ai->Prop):aa ai->Prop:=λc=>b (λd=>b7 f7<|eR d a)<|f7 c
def ŧ(a:ai)(b:og->aa ai->Prop):aa ai->Prop:=λc=>b (λd=>b7 qi<|ES d a)<|qi c
def Il(k)(a d:ai)(c:aT)(b:og->aa ai->Prop):=match k with
|h9=>w9 a c b|j3=>bE (oa a) λe=>tL e/\b (λZ=>J<|m4 0 e) (m4 0 e)|jS=>i2 a d λe j=>(tL e/\tL j)/\b (λZ=>J<|m4 e j) (m4 e j)|pA=>kN c a<|kIr a b|pD=>dj c a<|ŧ a b
abbrev PT:=O->aa ai->aT->QT->(aT->Prop)->Prop
abbrev sj:=aW->ai->aT->(aW->aT->Prop)->Prop
def E4(c:aW->aT->(bc->aT->Prop)->Prop)(d:aW->aT->QT->Prop)(e:sj)(b:og)(all:aa ai)(l:aW)(a:O):aa ai->aa ai->aT->(aT->Prop)->Prop
|[],_,f,K=>K f|x::r,g,f,K=>e l x f λh f=>c h f λt f=>
 dH t (d h f λv f=>((f a=J (.list g)/\U g<cu)/\b (f.dn a<| .list<|g++[v])=J all)/\E4 c d e b all l a r (g++[v]) (f.dn a<| .list<|g++[v]) K)
  ((f a=J (.list g)/\b f=J all)/\E4 c d e b all l a r g f K)
def j_(c)(d)(e)(b)(all)(l)(a:aT)(f:QT):=
∀g,a g=A->b (a.dn g<| .list [])=J all/\E4 c d e b all l g all [] (a.dn g<| .list []) λa=>f (aj g) a
@[irreducible] def yQ:=ih j_
def ZT:yQ=j_:=by unfold yQ;exact iO _
def kT(a B:Prop):bc->Prop:=λt=>dH t a B
noncomputable def sy:aa (O×O)->aW->aW
|[],l=>l|p::r,l=>aD (aE p.2 0) (sy r<|kX l p.1)<|sy r l
abbrev ET:=aW->aT->QT->Prop
abbrev LT:=aW->aT->Prop
abbrev VT:=aa ai->aT->Prop
abbrev ST:=aW->aT->VT->Prop
def η(f:ET)(l:aW)(a:QT):QT:=λv b=>mU b v<|kT (f l b a)<|a v b
def kOr(f:ET)(l:aW)(a:QT):QT:=λv b=>mU b v<|kT (a v b)<|f l b a
def kNt(a:QT)(b:aT):bc->Prop:=λt=>a (bS<| !t) b
def ach(a:QT):QT:=λv b=>mU b v<|kNt a b
def ahr(f g:ET)(l:aW)(a:QT):QT:=λv b=>mU b v<|kT (f l b a)<|g l b a
def Zo(o:AK)(a:QT):QT:=λv b=>RN o v b a
def Tp(o:QG)(a:ai)(b:QT):QT:=λv c=>ZV o a v c b
def kOp(o:QG)(f:ET)(l:aW)(a:QT):QT:=λb c=>f l c<|Tp o b a
def kB(a:QT)(b:aT):bc->Prop:=λr=>a (bS r) b
def R'(o:yk)(a:ai)(b:QT):QT:=λv c=>OY o a v c<|kB b c
def kCm(o:yk)(f:ET)(l:aW)(a:QT):QT:=λb c=>f l c<|R' o b a
def kD3(o p:yk)(g:ET)(b:ai)(l:aW)(a:QT):QT:=λv c=>OY o b v c λr=>dH r (g l c<|R' p v a)<|a (bS u) c
def kD2(o p:yk)(f g:ET)(l:aW)(a:QT):QT:=λb c=>f l c<|kD3 o p g b l a
def kS3(o a:ai)(b:QT):QT:=λv c=>U? o a v c b
def kS2(o:ai)(g:ET)(l:aW)(a:QT):QT:=λb c=>g l c<|kS3 o b a
def kS1(f g:ET)(l:aW)(a:QT):QT:=λo b=>f l b<|kS2 o g l a
def aiU(a:QT):VT:=λb c=>iC c (.list b) a
def akz(a:QT):VT:=λb c=>a (aR b) c
def kA(n:O)(a:QT)(b:aT):O->aW->Prop:=λZ c=>bE (cW c n) λd=>a d b
def kAt(n:O)(a:QT):QT:=λv b=>ri b v<|kA n a b
def Xc(a:QT):QT:=λv b=>AW v b a
def kM2(o:rt)(v:ai)(a:QT):QT:=λb c=>lG o v b c a
def Β(o:rt)(f:ET)(l:aW)(a:QT):QT:=λv b=>pF o v b<|f l b<|kM2 o v a
def kG3(v k:ai)(a:QT):QT:=λd b=>δ v k d b a
def kG2(v:ai)(g:ET)(l:aW)(a:QT):QT:=λk b=>g l b<|kG3 v k a
def kG0(a:Prop):aa (ai×ai)->Prop:=λZ=>a
def kG1(f g:ET)(l:aW)(a:QT):QT:=λv b=>tR b v<|kG0<|f l b<|kG2 v g l a
def afQ(a:PT)(b:aT->Prop)(f:O)(c:QT):VT:=λd e=>a f d e c b
def Vm(a:PT)(b:aT->Prop)(f:O)(v:ai)(c:QT):VT:=λd e=>a f (v::d) e c b
def kMf(a:PT)(b:aT->Prop)(g:ST)(m:O)(l:aW)(c:QT)(v:ai)(d:aT):O->aW->Prop:=λe Z=>bE (cm Ap e) λt=>bE (cm t m) λf=>g l d<|Vm a b f v c
def kMe(a:PT)(b:aT->Prop)(g:ST)(m:O)(l:aW)(c:QT):QT:=λv d=>ri d v<|kMf a b g m l c v d
def al4(a:bc->aT->Prop)(b:aT):bc->Prop:=λt=>a t b
def kTs(a:bc->aT->Prop):QT:=λv b=>mU b v<|al4 a b
def H0(f:ET):aW->aT->(bc->aT->Prop)->Prop:=λl a b=>f l a<|kTs b
def Ye(c e:ET)(t:sj)(l:aW)(a:aT)(b:QT):og->aa ai->Prop:=λd f=>yQ (H0 c) e t d f l a b
def aeG(c e:ET)(t:sj)(k:rt)(a:ai)(l:aW)(b:QT):QT:=λd f=>Il k a d f<|Ye c e t l f b
def kCo(b c e:ET)(t:sj)(k:rt)(a:aa<|O×O)(l:aW)(d:QT):QT:=λf g=>b l g<|aeG c e t k f (sy a l) d
def Ŧ(v:ai)(a:VT):VT:=λb c=>a (v::b) c
def kCn(f:ST)(l:aW)(a:VT):QT:=λv b=>f l b<|Ŧ v a
def kTa(n:O)(l:aW)(v:ai)(a:LT):QT:=λo b=>Bq o n v b<|a l
def ac6(o:ai)(l:aW)(v:ai)(a:LT):QT:=λk b=>qe o k v b<|a l
def kTi(f:ET)(l:aW)(v:ai)(a:LT):QT:=λo b=>f l b<|ac6 o l v a
def kTt(f:aW->aa ai->aT->LT->Prop)(a:aa ai)(b:LT):LT:=λl c=>f l a c b
mutual
def cN(b:PT)(d:aT->Prop):E->aW->aT->QT->Prop
|kr v,_,a,c=>c v a|d9 x,l,a,c=>bE (cW l x) λv=>c v a| .glob x,_,a,c=>bE (cm Fx x) λv=>c v a| .and e f,l,a,c=>cN b d e l a<|η (cN b d f) l c| .or e f,l,a,c=>cN b d e l a<|kOr (cN b d f) l c| .not e,l,a,c=>cN b d e l a<|ach c| .ite m e f,l,a,c=>cN b d m l a<|ahr (cN b d e) (cN b d f) l c|ti h e,l,a,c=>cN b d e l a<|Zo h c|hC h e f,l,a,c=>cN b d e l a<|kOp h (cN b d f) l c| .cmp h e f,l,a,c=>cN b d e l a<|kCm h (cN b d f) l c|yo h o e f m,l,a,c=>cN b d e l a<|kD2 h o (cN b d f) (cN b d m) l c| .slice g e f,l,a,c=>cN b d g l a<|kS1 (cN b d e) (cN b d f) l c|ta,_,_,_=>bX|j1 _ _,_,_,_=>bX| .list k,l,a,c=>w6 b d k l a<|aiU c|oO k,l,a,c=>w6 b d k l a<|akz c|rm,_,a,c=>AD a [] c|fL g n,l,a,c=>cN b d g l a<|kAt n c|vZ g,l,a,c=>cN b d g l a<|Xc c|hL h g e,l,a,c=>cN b d g l a<|Β h (cN b d e) l c|wL g e f,l,a,c=>cN b d g l a<|kG1 (cN b d e) (cN b d f) l c| .call h k,l,a,c=>w6 b d k l a<|afQ b d h c| .z7 g p k,l,a,c=>cN b d g l a<|kMe b d (w6 b d k) p l c|qk x h k,l,a,c=>bE (cW l x) λs=>ri a s λm _=>jq tq m h=Q/\w6 b d k l a (Vm b d h s c)|nj q t y e f m z,l,a,c=>cN b d e l a<|kCo (cN b d f) (cN b (λ_=>bX) m) (cN b (λ_=>bX) q) (mJ b (λ_=>bX) t) y z l c
def w6(b:PT)(d:aT->Prop):E->aW->aT->(aa ai->aT->Prop)->Prop
|ta,_,a,c=>c [] a|j1 g r,l,a,c=>cN b d g l a<|kCn (w6 b d r) l c|_,_,_,_=>bX
def mJ(b:PT)(d:aT->Prop):E->sj
|d9 x,l,v,a,j=>j (ez l x v) a|fL g n,l,v,a,j=>cN b d g l a<|kTa n l v j|hC k6 g B,l,v,a,j=>cN b d g l a<|kTi (cN b d B) l v j|oO C,l,v,a,j=>bE (G1 v) λG=>yj b d C l G a j|_,_,_,_,_=>bX
def yj(b:PT)(d:aT->Prop):E->aW->aa ai->aT->(aW->aT->Prop)->Prop
|ta,l,[],a,j=>j l a|j1 t r,l,x::H,a,j=>mJ b d t l x a<|kTt (yj b d r) H j|_,_,_,_,_=>bX
end
def GC(a:sj)(b:aW->aT->(aW->aT->Prop)->Prop)(c:og)(all:aa ai)(N:aW->aT->Prop):aa ai->aW->aT->Prop
|[],l,d=>N l d|x::r,l,d=>a l x d λl d=>b l d λl d=>c d=J all/\GC a b c all N r l d
def H?(a)(b)(c)(all)(l)(d)(N):=GC a b c all N all l d
@[irreducible] def Bb:=ih H?
def X8:Bb=H?:=by unfold Bb;exact iO _
def Z9(b:aW->aT->(bc->aT->Prop)->Prop)(c:aW->aT->(aW->aT->Prop)->Prop)(l)(a)(N:aW->aT->Prop):=
∃I:O->aW->aT->Prop,(∃n,I n l a)/\∀n l a,I n l a->b l a λt a=>dH t (c l a λl a=>∃m,m<n/\I m l a)<|N l a
@[irreducible] def DU:=ih Z9
def UW:DU=Z9:=by unfold DU;exact iO _
abbrev WT:=aW->aT->LT->QT->LT->Prop
def Gh(f:WT)(N:LT)(a:QT)(C:LT):LT:=λl b=>f l b N a C
def G3(l:aW)(N:LT):QT:=λZ a=>N l a
def Sp(t:sj)(l:aW)(N:LT):QT:=λv a=>t l v a N
def Υ(f g:WT)(l:aW)(N:LT)(a:QT)(C:LT):QT:=λv b=>mU b v<|kT (f l b N a C)<|g l b N a C
def QE(f:WT)(a:QT):aW->aT->LT->Prop:=λl b c=>f l b c a c
def C?(f:WT)(t:sj)(l:aW)(N:LT)(a:QT)(b:aT):og->aa ai->Prop:=λc d=>Bb t (QE f a) c d l b N
def akI(f:WT)(t:sj)(k:rt)(a:ai)(l:aW)(N:LT)(b:QT):QT:=λc d=>Il k a c d<|C? f t l N b d
def kFo(b:ET)(f:WT)(t:sj)(k:rt)(l:aW)(N:LT)(a:QT):QT:=λc d=>b l d<|akI f t k c l N a
def ś(a:aT->Prop):VT:=λZ b=>a b
def kTr(l:aW)(c x:O)(N:LT):aT->Prop:=λa=>∀b,a b=A->N (kX (ez l c<|aj b) x) a
def c1(a:PT)(b:aT->Prop):S->aW->aT->(aW->aT->Prop)->QT->(aW->aT->Prop)->Prop
|ck,l,c,N,_,_=>N l c|fH s r,l,c,N,d,C=>c1 a b s l c (Gh (c1 a b r) N d C) d C|uD e,l,c,N,_,_=>cN a b e l c<|G3 l N|nK t e,l,c,N,_,_=>cN a b e l c<|Sp (mJ a b t) l N|v5 e,l,c,_,d,_=>cN a b e l c d| .ite f g h,l,c,N,d,C=>cN a b f l c<|Υ (c1 a b g) (c1 a b h) l N d C| .while f h,l,c,N,d,_=>DU (H0<|cN a b f) (QE (c1 a b h) d) l c N| .for t k g h s,l,c,N,d,_=>cN a b g l c<|kFo (cN a b h) (c1 a (λZ=>bX) s) (mJ a (λZ=>bX) t) k l N d| .cont,l,c,_,_,C=>C l c|AH j,l,c,_,_,_=>w6 a b j l c<|ś b| .AZ t e x f,l,c,N,_,_=>cN a (kTr l f x N) e l c<|Sp (mJ a (λZ=>bX) t) l N|yW,_,_,_,_,_=>bX| .del m,l,c,N,_,_=>N (m.foldl kX l) c
class inductive gA{b c:Type}(a:b->c->Prop):aa b->aa c->Prop
|nil:gA a [] []|cons {d e r s}:a d e->gA a r s->gA a (d::r) (e::s)
def kW(p:O->Prop)(a:aT):O->ai->ai->Prop
|0,v,b=>v=b|n+1,v,b=>v=b\/(∃c d,v=aR c/\b=aR d/\gA (kW p a n) c d)\/(∃c d,v=aN c/\b=aN d/\gA (kW p a n) c d)\/
 ∃e,v=aj e/\p e/\((∃c d,a e=J (.list c)/\b=aN d/\gA (kW p a n) c d)\/
  (∃f m g,a e=J (.dict f m)/\b=g0 g/\gA (λh j=>h.1=j.1/\kW p a n h.2 j.2) f g)\/
  ∃c f g,a e=J (.inst c f)/\b=od c g/\D2 (kW p a n) f g)
def VQ(b:QT)(v)(a):=∃(n:O) (p:O->Prop) (c:ai) (d:aT),kW p a n v c/\(∀e,(p e/\d e=A)\/(¬p e/\d e=a e))/\b c d
@[irreducible] def ei:=ih VQ
def IJ:ei=VQ:=by unfold ei;exact iO _
def yZ(a)(c b):=
aD (js (U b) (U a)&&js (U a) (U b+U c)) (J<|q2 a<|b++cq (U b+U c-U a) c) A
def wU:O->PT
|0,_,_,_,_,_=>bX|n+1,f,a,b,c,d=>match cm iR f with
 |some e=>bE (yZ e.e4 e.p7 a) λl=>c1 (wU n) d e.gZ l b (λZ b=>ei c bk b) (ei c) λZ Z=>bX|none=>bE (cm tS f) λg=>∀h,b h=A->wU n g (aj h::a) (b.dn h<| .inst f ar) (λv b=>qO v=Q/\ei c (aj h) b) d
@[irreducible] def aK:=ih wU
def zw(n):aK n=wU n:=by unfold aK;exact qG (iO _) n
end
open Zq.gA renaming cons->iy,nil->nG
open Zq.m2 renaming dict->dC,inst->cw,list->az
section
def g5(h:a<j->b)(c:j<=a->B):dH (nx a j) b B:=by
 unfold nx
 by_cases q:a<j
 .exact W (@decide_eq_true _ (nV _) q)<|h q
 .exact W (@decide_eq_false _ (nV _) q)<|c<|hB.mp q
def Ji(h:a<=j->b)(c:j<a->B):dH (uY a j) b B:=by
 unfold uY
 by_cases q:a<=j
 .exact W (@decide_eq_true _ (nV _) q)<|h q
 .exact W (@decide_eq_false _ (nV _) q)<|c<|yi.mp q
def lC(h:a=j->b)(c:a≠j->B):dH (eX a j) b B:=by
 unfold eX
 by_cases q:a=j
 .exact W (@decide_eq_true _ (nV _) q)<|h q
 .exact W (@decide_eq_false _ (nV _) q)<|c q
def QB(h:a=j->b)(c:a≠j->d):dH (eX a j) b (dH (eX a j) C d):=lC h λq=>lC (λz=>ay z q) c
def rW(h:a=j->b)(c:a≠j->B):dH (nh a j) b B:=by
 unfold nh
 by_cases q:a=j
 .exact W (@decide_eq_true _ (nV _) q)<|h q
 .exact W (@decide_eq_false _ (nV _) q)<|c q
def jh(h:dH t B a):dH (!t) a B:=by cases t<;>exact h
def KH(h:a≠j->b)(c:a=j->B):dH (!eX a j) b B:=jh<|lC c h
def Ro(h:a≠j->b)(c:a=j->B):dH (!nh a j) b B:=jh<|rW c h
def ef(h:t=Q->a)(b:t=u->B):dH t a B:=by
 induction t
 .exact b Y
 .exact h Y
def MB(h:a≠[]->b)(c:a=[]->B):dH (!tZ a) b B:=by
 induction a
 .exact c Y
 .exact h jJ
def xe:nx a j=decide (a<j):=by unfold nx;by_cases q:a<j<;>simp [q]
def C':uY a j=decide (a<=j):=by unfold uY;by_cases q:a<=j<;>simp [q]
def pB:eX a j=decide (a=j):=by unfold eX;by_cases q:a=j<;>simp [q]
def wq:nh a j=decide (a=j):=by unfold nh;by_cases q:a=j<;>simp [q]
def q?{a:aT}:(a.dn b o) b=J o:=by simp [aT.dn]
def CE{c:aT}(h:b≠a):(c.dn a o) b=c b:=by
 have d:aE b a=false:=by cases q:aE b a with
  |false=>rfl|true=>exact ay (eb q) h
 unfold aT.dn;exact W d Y
inductive Cs where
|nil|c (a:O) (o:m2) (r:Cs)
noncomputable def Cs.at:Cs->O->ba (O×m2)
| .nil,_=>A| .c a o r,k=>match k with
 |0=>J (a,o)|k+1=>r.at k
noncomputable def Cs.g9:Cs->O->m2->Cs
| .nil,_,_=> .nil| .c a o r,k,b=>match k with
 |0=> .c a b r|k+1=> .c a o<|r.g9 k b
noncomputable def Cs.cB:Cs->O->m2->Cs
| .nil,a,o=> .c a o .nil| .c b p r,a,o=> .c b p<|r.cB a o
noncomputable def Cs.mZ:Cs->Cs->Cs
| .nil,d=>d| .c b p r,d=> .c b p<|r.mZ d
noncomputable def Cs.oZ:Cs->O
| .nil=>0| .c _ _ r=>r.oZ+1
def eD(a b:aT):Cs->Prop
| .nil=>bh| .c c o r=>a c=A/\b c=J o/\(∀k d p,r.at k=J (d,p)->d≠c)/\eD a b r
def Fr(a b)(c):=e7 (eD a b c)<|∀d o,a d=J o->b d=J o
def ml(d:eD a b e)(ext:∀c o,a c=J o->b c=J o):Fr a b e:=cp d ext
def eD.get:∀{a} {k b} {o},eD c d a->a.at k=J (b,o)->c b=A/\d b=J o:=by
 intro a;refine @(a.rec (λZ e=>aI e) λx y r f=>?_);intro k b o h e
 induction k with
 |zero=>have q:=rN<|aC e;exact q.1▸q.2▸br h.1 h.2.1|succ k=>exact f h.2.2.2 e
def Gz:∀{a:Cs} {k c b} {o p},(a.cB c o).at k=J (b,p)->a.at k=J (b,p)\/b=c:=by
 intro a
 induction a with
 |nil=>intro k c b o p e;induction k with
  |zero=>exact aw (rN<|aC e).1.symm|succ k=>exact aI e
 |c x y r d=>intro k c b o p e;induction k with
  |zero=>exact aL e|succ k=>exact d e
def eD.add(n:c a=A)(e:d a=A):∀{b},eD d c b->eD d (c.dn a o) (b.cB a o):=by
 intro b;refine b.rec (λZ=>⟨e,q?,λZ Z Z f=>aI f,a3⟩) λb p r g=>λh=>?_;have j:b≠a:=λz=>by have k:=h.2.1;rw [z,n] at k;exact aI k
 exact⟨h.1,W (CE j) h.2.1,λk c q f=>aP (Gz f) (h.2.2.1 k c q) λf=>W f j.symm,g h.2.2.2⟩
def ags:∀{a:Cs} {k j b} {o p},(a.g9 j o).at k=J (b,p)->∃q,a.at k=J (b,q):=by
 intro a;refine @(a.rec (λe=>aI e) λx y r c=>?_);intro k j b o p e;cases k with
 |zero=>induction j with
  |zero=>exact cM _<|congrArg (λz=>some (z,y)) (rN<|aC e).1|succ j=>exact cM _ e
 |succ k=>induction j with
  |zero=>exact cM _ e|succ j=>exact c e
def ad9:∀{a},(∀k b p,a.at k=J (b,p)->b≠c)->eD d e a->eD d (e.dn c o) a:=by intro a;exact a.rec (λZ Z=>trivial) λb p r f=>λn h=>⟨h.1,W (CE<|n 0 b p Y) h.2.1,h.2.2.1,f (λk=>n<|k+1) h.2.2.2⟩
def eD.set:∀{a} {k},eD c d a->a.at k=J (b,o)->eD c (d.dn b e) (a.g9 k e):=by
 intro a;refine @(a.rec (λZ e=>aI e) λf p r g=>?_);intro k h e
 induction k with
 |zero=>obtain rfl:f=b:=(rN<|aC e).1;exact⟨h.1,q?,h.2.2.1,ad9 h.2.2.1 h.2.2.2⟩|succ k=>exact⟨h.1,W (CE (h.2.2.1 k b o e).symm) h.2.1,λj c q z=>bp (ags z) λl m=>h.2.2.1 j c l m,g h.2.2.2 e⟩
def aek:∀{r:Cs} {k},r.at k=J x->(r.mZ d).at k=J x:=by
 intro r
 induction r with
 |nil=>exactλe=>aI e|c b p s a=>intro k e;induction k with
  |zero=>exact e|succ k=>exact a e
def eD.cut:∀{a},eD b c (a.mZ d)->eD b c a:=by intro a;exact a.rec (λZ=>trivial) λb p r e=>λh=>⟨h.1,h.2.1,λk c q f=>h.2.2.1 k c q<|aek f,e h.2.2.2⟩
def wc{a:Cs}:(a.cB b o).at a.oZ=J (b,o):=a.rec Y λb p r c=>c
def I7:∀{a:Cs} {k} {x},a.at k=J x->(a.cB b o).at k=J x:=by
 intro a
 induction a with
 |nil=>exactλe=>aI e|c b p s c=>intro k x e;induction k with
  |zero=>exact e|succ k=>exact c e
def eD.L6:∀{a},eD c d (a.cB b o)->eD c d (.c b o a):=by
 intro a;refine a.rec (λh=>h) λe p r f=>λh=>?_;have g:=f h.2.2.2;refine⟨g.1,g.2.1,λk c q e=>?_,h.1,h.2.1,λk c q e=>h.2.2.1 k c q<|I7 e,g.2.2.2⟩
 induction k with
 |zero=>exact(rN<|aC e).1▸(h.2.2.1 r.oZ b o wc).symm|succ k=>exact g.2.2.1 k c q e
def eD.DY:∀{a},eD b c (.c d o a)->eD b c (a.cB d o):=by intro a;exact a.rec (λh=>h) λb p r e=>λh=>⟨h.2.2.2.1,h.2.2.2.2.1,λk c q f=>aP (Gz f) (h.2.2.2.2.2.1 k c q) λz=>W z (h.2.2.1 0 b p Y).symm,e ⟨h.1,h.2.1,λk=>h.2.2.1<|k+1,h.2.2.2.2.2.2⟩⟩
def Fr.bN(h:Fr a b<|c.cB d o):Fr a b (.c d o c):=ml (h V).L6<|h J1
def Fr.Bx(h:Fr a b<| .c c o d):Fr a b (d.cB c o):=ml (h V).DY<|h J1
def Fr.zZ(h:Fr b c<| .c d p<| .c a o e):Fr b c ((e.cB a o).cB d p):=
ml (eD.DY ⟨(h V).1,(h V).2.1,λk c q e=>aP (Gz e) (λe=>(h V).2.2.1 (k+1) c q e) λe=>W e<|(h V).2.2.1 0 a o Y,eD.DY (h V).2.2.2⟩)<|h J1
def Fr.EV{a:Cs}(h:Fr b d<|(a.cB c p).cB f q):Fr b d ((a.cB f q).cB c p):=by
 have g:=(h V).L6;have j:=g.2.2.2.L6;refine ml (eD.DY ⟨j.1,j.2.1,λk b o e=>?_,eD.DY ⟨g.1,g.2.1,λk b o e=>g.2.2.1 k b o<|I7 e,j.2.2.2⟩⟩)<|h J1;rcases Gz e with e|e
 .exact j.2.2.1 k b o e
 .exact W e (g.2.2.1 a.oZ c p wc).symm
def de:Fr a a .nil:=ml a3 λZ Z h=>h
def Fr.c9(h:Fr d a b)(e:b.at k=J (c,o)):a c=J o:=((h V).get e).2
def Fr.hO(h:Fr b c d)(n:c a=A):Fr b (c.dn a o) (d.cB a o):=by
 refine ml ((h V).add n ?_) λe f e=>?_
 .cases z:b a with
  |none=>rfl|some f=>exact iG<|(h J1) _ _ z▸n
 .exact W (CE λz=>by rw [z] at e;exact iG<|(h J1) _ _ e▸n)<|(h J1) _ _ e
def Fr.upd(h:Fr b c a)(e:a.at k=J (d,o))(o'):Fr b (c.dn d o') (a.g9 k o'):=ml ((h V).set e) λb f g=>W (CE λz=>by rw [z,((h V).get e).1] at g;exact aI g)<|(h J1) _ _ g
def B!(d)(h:Fr a b<|c.mZ d):Fr a b c:=ml (h V).cut<|h J1
def Fr.tl(h:Fr a b<| .c d o c):Fr a b c:=ml (h V).2.2.2<|h J1
def Cm(e:cW a n=J b)(h:c b d):kA n c d f a:=by unfold kA;exact W e h
def VR(e:qC a b=J t)(h:K t):Qi a K b:=by unfold Qi;exact W e h
def HI(e:U a=n)(h:b (ag n) c):Sr b c a:=by unfold Sr;exact W e h
def bW(h:Fr g a b)(k)(e:b.at k=J (c,az d))(f:K d):ni (a c) K:=W ze<|W (h.c9 e) f
def d_(h:Fr g a b)(k)(e:b.at k=J (c,dC d n))(f:K d):yv (a c) K:=W JT<|W (h.c9 e) f
def aM(h:Fr g a b)(k)(e:b.at k=J (c,cw n d))(f:K n d):s8 (a c) K:=W Fe<|W (h.c9 e) f
def te(e:eR a v=J b)(c:K b):kN a v K:=by
 cases v with
 |tup d=>cases e;exact c|lst d=>cases e;exact c|ref f=>show ni (a f) K;refine W ze ?_;unfold Mb;exact W (show mV (a f)=J b from e) c|_=>cases e
def aV(h:Fr c d e)(f:∀a b,Fr c b (e.cB a o)->g (aj a) b):iC d o g:=W Zd λa n=>f a _ (h.hO n)
def PD(h:Fr e a f)(g:eR a v=J b)(j:∀c d,Fr e d (f.cB c<|az b)->k (aj c) d):kN a v λb=>iC a (az b) k:=te g<|aV h j
def m7(h:Fr c d e)(f:∀a n b,Fr c b (e.cB a<|dC g n)->j (aj a) b):AD d g j:=W Ug λm a n=>f a m _ (h.hO n)
def cH(h:Fr f a b)(k)(e:b.at k=J (c,az g))(d:K):pF h9 (aj c) a K:=by refine W rG ?_;exact bW h k e d
def MC(h:Fr f a b)(k)(e:b.at k=J (c,az g))(d:K):pF j3 (aj c) a K:=by refine W rG ?_;exact bW h k e d
def dD(h:Fr d f a)(k)(e:a.at k=J (g,az b))(j:U b<cu)
 (l:∀c,Fr d c (a.g9 k<|az<|b++[m])->n bk c):lG h9 (aj g) m f n:=by refine W pV ?_;exact bW h k e ⟨j,l _ (h.upd e _)⟩
def TT(h:k<n):vJ n (k:au)=J k:=by unfold vJ;exact W (aJ<|cj k)<|W (aJ<|by exact_mod_cast h) Y
def Iw{n a b x y:O}(c:b<n)(d:y<n)(h:a*n+b=x*n+y):a=x/\b=y:=by
 have e:=aq (·%n) h;have e:b=y:=by have e:(a*n+b)%n=(x*n+y)%n:=e;rw [eT,VY,eT<|x*n,VY,m_ c,m_ d] at e;exact e
 exact br (Nat.eq_of_mul_eq_mul_right (cF (cQ _) c)<|Li<|e▸h) e
def AO{n:O}(h:0<n):(n:au)-1=((n-1:O):au):=a5<|IW h
def a!(s:O):max ((s:au)-1) 0=((s-1:O):au):=by
 induction s with
 |zero=>rfl|succ n=>exact a5 (AO<|k9 n)▸Rc (cj n)
def ξ(h:0<n):vJ n (-1)=J (n-1):=
af (aS (λz=>nomatch z)) (af (aJ (show 0<=-1+(n:au) from CK (n:au) (-1)▸Qz (ak jg h)))<|aq J (show cK (-1+(n:au))=n-1 from CK (n:au) (-1)▸aq cK (AO h)))
def t2(e:o=J a)(c:K a):bE o K:=W e c
def MF(e:pR a v=J b)(c:K b):tR a v K:=by
 cases v with
 |oT d=>cases e;exact c|ref f=>refine ah (oI.mp e) λp h=>?_;show yv (a f) K;exact W JT<|t2 h.1<|h.2▸c|_=>cases e
def bJ{k:O}(c:eR a o=J d)(b:d[k]?=J x)(e:f x a):ko o (ag k) a f:=W E8 λG g Z Z=>g k Y<|te c<|t2 (TT (kq.mp b).1)<|t2 b e
def tG(d:pR a o=J b)(e:il b c)(f:dU b c=J x)(g:h x a):ko o c a h:=W E8 λG Z j Z=>j<|MF d ⟨e,t2 f g⟩
def aiA{k:O}(a:k<64)(b:s.toList[k]?=J x)(c:d (aG<|qE [x]) e):ko (aG s) (ag k) e d:=W E8 λG Z Z g=>g s k x Y Y (cj k) (by exact_mod_cast a) b c
def Fr.lt(h:Fr f a c)(k)(e:c.at k=J (b,az d)):eR a (aj b)=J d:=by show mV (a b)=_;exact aq _ (h.c9 e)
def Fr.ld(h:Fr f a c)(k)(e:c.at k=J (b,dC d n)):pR a (aj b)=J d:=by show b7 (·.1) (l2<|a b)=_;exact W (h.c9 e) Y
def dc(h:Fr m a d)(k){b c:O}(e:d.at k=J (b,az f))(g:f[c]?=J x)(j:l x a):ko (aj b) (ag c) a l:=bJ (h.lt k e) g j
def jW(h:Fr l c d)(k)(e:d.at k=J (f,az a))(b:cG a=J x)(g:j x c):ko (aj f) (ag<| -1) c j:=(by
 have m:0<U a:=by cases a<;>simp at b⊢
 rw [yt] at b;exact W E8 λG n Z Z=>n (-1) Y<|te (h.lt k e)<|t2 (ξ m)<|t2 b g)
def ZG(h:Fr n a d)(k)(e:d.at k=J (f,dC b o))(g:il b c)(j:dU b c=J x)(l:m x a):ko (aj f) c a m:=tG (h.ld k e) g j l
def qA(h:Fr f g b)(k)(e:b.at k=J (j,az c))(l:a<U c)
 (m:∀d,Fr f d (b.g9 k<|az<|c5 c a v)->K d):qe (aj j) (ag a) v g K:=W Sw λG g Z=>g a Y (cj a)<|bW h k e ⟨by exact_mod_cast l,m _ (h.upd e _)⟩
def vb(h:Fr g j b)(k)(e:b.at k=J (c,dC a n))(l:il a d)(m:U a<cu)
 (o:∀n f,Fr g f (b.g9 k<|dC (eW a d v) n)->K f):qe (aj c) d v j K:=W Sw λG Z g=>g c a n Y (h.c9 e) l m λm=>o m _ (h.upd e _)
def d3(h:Fr g j b)(k)(e:b.at k=J (d,cw c a))(l:jq oM c n=Q)(m:a.iW<=60)
 (o:∀f,Fr g f (b.g9 k<|cw c<|ez a n v)->K f):Bq (aj d) n v j K:=W e? λG f=>f d c a Y (h.c9 e) l m<|o _ (h.upd e _)
def HZ(h:Fr d f a)(k)(e:a.at k=J (g,az b))(j:cG b=J x)
 (l:∀c,Fr d c (a.g9 k<|az<|ku b)->m x c):AW (aj g) f m:=W Y3<|bW h k e<|t2 j<|l _ (h.upd e _)
def vd(c:a (ag<|b-j) d):xD (ag b) (ag j) d a:=by refine W Me ?_;exact c
def pf{a j d:O}(e:a=j+d)(c:b (ag d) f):xD (ag a) (ag j) f b:=vd<|W e<|W (ak Int.sub_eq_iff_eq_add' Y:((j+d:O):au)-_=d) c
def cb(e:eR a b=J c)(d:K (λa=>eR a b) c):w9 b a K:=W Ke λG g Z=>g<|te e d
def aid(I:O->aW->aT->Prop)(f:I 0 l a)
 (g:∀k x l a b,all[k]?=J x->I k l a->(∀l a,c a=J all->I (k+1) l a->b l a)->d l x a λl a=>e l a b)(h:∀l a,I (U all) l a->N l a):Bb d e c all l a N:=by
 have j:∀r k l a,cq k all=r->k+U r=U all->I k l a->GC d e c all N r l a:=by
  refineλr=>r.rec ?_ λx r m=>?_
  .intro k l a e q n;subst q;exact h l a n
  .intro k l a e q n;have o:all[k]?=J x:=by refine ax (B4)<|W e ?_;rfl
   have p:cq (k+1) all=r:=by exact ax Cn<|W e Y
   exact g k x l a _ o n λl a c s=>br c<|m _ l a p (ax q<|W hS (jN ..)) s
 exact W X8<|j all 0 l a Y (eF _) f
def n8(g:h->j->O)(L:h->j->aW)(C:h->j->Cs)(f:h->j->Prop)(a)(b)
 (n:Fr k c<|C a b)(o:f a b)
 (p:∀a b c m,f a b->Fr k c (C a b)->(∀d e l,g d e<g a b->f d e->Fr k l (C d e)->m (L d e) l)->q (L a b) c λt c=>dH t (r (L a b) c m)<|N (L a b) c):DU q r (L a b) c N:=by
 refine W UW<|⟨λs v c=>∃a b,s=g a b/\v=L a b/\f a b/\Fr k c (C a b),⟨_,a,b,Y,Y,o,n⟩,λs v c h=>?_⟩;obtain⟨x,y,rfl,rfl,z,f⟩:=h;exact p x y c _ z f λd e l B G H=>⟨_,B,d,e,Y,Y,G,H⟩
def cv{o:O->H->ai}(n:∀k,all[k]?=b7 (o k) (e[k]?))
 (L:O->p->q->aW)(C:O->p->q->Cs)(h:O->p->q->Prop)(a)(b)
 (r:Fr j c<|C 0 a b)(s:h 0 a b)(t:∀k a b d,Fr j d (C k a b)->v d=J all)
 (y:∀k x a b c m,e[k]?=J x->h k a b->Fr j c (C k a b)->(∀f g d,h (k+1) f g->Fr j d (C (k+1) f g)->m (L (k+1) f g) d)->z (L k a b) (o k x) c λl c=>B l c m)
 (G:∀a b d,h (U e) a b->Fr j d (C (U e) a b)->N (L (U e) a b) d):Bb z B v all (L 0 a b) c N:=by
 have I:U all=U e:=by
  refine hJ (j5 λq=>?_)<|j5 λq=>?_
  .have M:=n<|U e;rw [bM q,iu<|bb _] at M;cases M
  .have M:=n<|U all;rw [bM q,iu<|bb _] at M;cases M
 refine aid (λk l c=>∃a b,l=L k a b/\h k a b/\Fr j c (C k a b)) ⟨a,b,Y,s,r⟩ (λk x l c m T Z o=>?_) λl c Z=>?_
 .obtain⟨p,v,rfl,z,B⟩:=Z;rw [n] at T;obtain⟨N,H,rfl⟩:=oI.mp T;exact y k N p v c m H z B λf g d a b=>o _ _ (t _ f g d b) ⟨f,g,Y,a,b⟩
 .obtain⟨p,v,rfl,z,B⟩:=Z;rw [I] at z B⊢;exact G p v c z B
def d8{a:aa b}{g:b->ai}:∀k:O,(R g a)[k]?=b7 g (a[k]?):=λk=>cf ..
def mR{m:O}:∀k:O,(m4 0 m)[k]?=((e1 m)[k]?).map λ(x:O)=>ag x:=λk=>by refine W (cf) ?_;exact aq (λf=>b7 f _[k]?)<|funext λx=>aq _ (KB ..)
def lu(h:(e1 m)[k]?=J x):x=k/\k<m:=by obtain⟨q,e⟩:=kq.mp h;rw [List.getElem_range] at e;rw [fi] at q;exact br (a5 e) q
def VS{a:Cs}:(a.cB b o).g9 a.oZ p=a.cB b p:=a.rec Y λb q r c=>aq _ c
def wu(h:Fr e a j)(I:O->aa ai->Cs->Prop)(l:I 0 [] j)
 (g:∀k b c d z f,Fr e f (c.cB d z)->I k b c->m f=J all)
 (B:∀k x b c d a (n:QT) (o:aT->Prop),all[k]?=J x->I k b c->Fr e a (c.cB d<|az b)->(∀v a c,Fr e a (c.cB d<|az b)->I (k+1) (b++[v]) c->n v a)->
  (∀a c,Fr e a (c.cB d<|az b)->I (k+1) b c->o a)->p q x a λr a=>s r a λC a=>dH C (t r a n)<|o a)
 (G:U all<cu)(H:∀d b c a,Fr e a (c.cB d<|az b)->I (U all) b c->y (aj d) a):yQ s t p m all q a y:=by
 refine W ZT λd L=>?_;have M:∀r k b c a,cq k all=r->k+U r=U all->U b<=k->Fr e a (c.cB d<|az b)->I k b c->E4 s t p m all q d r b a λa=>y (aj d) a:=by
  refineλr=>r.rec ?_ λx r N=>?_
  .intro k b c a e q T Z n;subst q;exact H d b c a Z n
  .intro k b c a e q T Z n;have o:all[k]?=J x:=by refine ax (B4)<|W e ?_;rfl
   have z:cq (k+1) all=r:=by exact ax Cn<|W e Y
   rw [hS,<-cA,jN] at q;refine B k x b c d a _ _ o n Z (λv f C I m=>?_) (λf C I m=>?_)
   .have p:=I.upd wc<|az<|b++[v];rw [VS] at p;refine⟨⟨⟨I.c9 wc,cF T<|e8 ?_ G⟩,g _ _ _ _ _ _ p m⟩,N _ _ C _ z q (W a4<|b2 T) p m⟩;exact ax q<|cc (ha k)<|dO _ _
   .exact⟨⟨I.c9 wc,g _ _ _ _ _ _ I m⟩,N _ b C f z q (hI T) I m⟩
 exact⟨g _ _ _ _ _ _ (h.hO L) l,M all 0 [] j _ Y (eF _) (bb _) (h.hO L) l⟩
def bf(c:b v a):ei b v a:=W IJ<|⟨0,λZ=>bX,v,a,Y,λb=>aw ⟨id,Y⟩,c⟩
abbrev x3(a:aT):O->Prop:=λb=>a b=A
def mG(h:Fr a b g)(n)(f:kW (x3 a) b n v c)(d:e c a):ei e v b:=by
 refine W IJ ?_;exact⟨n,x3 a,c,a,f,λb=>by
  cases q:a b with
  |none=>exact aL ⟨q,Y⟩|some o=>exact aw ⟨λe=>aI<|af (e:a b=A).symm q,a5<|(h J1) b o q⟩,d⟩
def m8(h:Fr a b e)(c:d v a):ei d v b:=mG h 0 Y c
def dQ(n)(v):kW p a n v v:=by
 induction n
 .exact Y
 .exact aL Y
def j6(h:∀a,c a a)(b):gA c b b:=b.rec nG λa r d=>iy (h a) d
def ams(h:∀a,b a a)(l):D2 b l l:=
aW.rec (motive_1:=λZ=>bh) (motive_2:=λl=>D2 b l l) (motive_3:=λZ=>bh) (motive_4:=λZ=>bh) (motive_5:=λZ=>bh) a3 (λZ=>trivial) (λZ=>trivial) (λZ=>trivial) (λZ Z=>trivial) (λZ Z=>trivial) (λZ Z=>trivial) (λZ Z Z=>trivial) (λZ=>trivial) Y (λZ v r Z c=>⟨v,r,Y,h v,c⟩) a3 (λZ Z Z Z=>trivial) a3 (λZ Z Z Z=>trivial) (λZ Z Z Z=>trivial) l
def Fr.e9(h:Fr a d b)(k)(e:b.at k=J (c,o)):x3 a c:=((h V).get e).1
def jb(h:Fr c d f)(k)(e:f.at k=J (b,az a))(g:j (aN a) c):ei j (aj b) d:=
mG h 1 (aw<|aw<|aw ⟨b,Y,h.e9 k e,aL ⟨a,a,h.c9 e,Y,j6 (λZ=>rfl) a⟩⟩) g
def Kr(h:Fr c d f)(k)(e:f.at k=J (b,dC a m))(g:j (g0 a) c):ei j (aj b) d:=
mG h 1 (aw<|aw<|aw ⟨b,Y,h.e9 k e,aw<|aL ⟨a,m,a,h.c9 e,Y,j6 (λZ=>⟨Y,Y⟩) a⟩⟩) g
def EL(h:Fr c d f)(k)(e:f.at k=J (b,cw m a))(g:j (od m a) c):ei j (aj b) d:=
mG h 1 (aw<|aw<|aw ⟨b,Y,h.e9 k e,aw<|aw ⟨m,a,a,h.c9 e,Y,ams (λZ=>rfl) a⟩⟩) g
def a6(d)(l)(g:cm iR f=J d)(h:yZ d.e4 d.p7 j=J l)
 (c:c1 (aK n) b d.gZ l a (λZ a=>ei e bk a) (ei e) λZ Z=>bX):aK (n+1) f j a e b:=by
 rw [zw] at c⊢;show(match cm iR f with
  |some d=>bE _ λl=>c1 _ b d.gZ l a _ _ _|none=>_)
 refine W g (?_:bE _ _);exact W h c
def jL(e:cm iR f=A)(h:cm tS f=J g)
 (c:∀a,b a=A->aK n g (aj a::j) (b.dn a<|cw f ar) (λv b=>qO v=Q/\ei k (aj a) b) d):aK (n+1) f j b k d:=by
 rw [zw] at c⊢;show(match cm iR f with
  |some l=>_|none=>bE _ λg=>∀a,b a=A->wU n g _ _ _ d)
 exact W e<|W h c
def ej(h:Fr e a<| .c b (cw n c) r)(d:K n c):s8 (a b) K:=aM h 0 Y d
def hF(h:Fr e a<| .c b (az c) r)(d:K c):ni (a b) K:=bW h 0 Y d
def bP(h:Fr d f<| .c a (cw c b) r)(e:(jq oM c n&&js b.iW 60)=Q)(k:∀s,Fr d s (.c a (cw c<|ez b n v) r)->K s):Bq (aj a) n v f K:=d3 h 0 Y (dB.mp e).1 (ho (dB.mp e).2) k
end
section
open Bool renaming true_and->r',eq_false_iff->UA,false_or->Ww,not_or->b'
open Decidable renaming byContradiction->agt
open Exists renaming choose_spec->BX
open Iff renaming rfl->Fl
open Int renaming neg_inj->p9,neg_neg->NG,neg_zero->Nk,neg_nonpos_of_nonneg->VG,neg_neg_of_pos->O5,neg_eq_zero->VX
open List renaming length_filter_le->Al,range_succ->AG,filter_append->F5,nodup_range->Vf,mem_filter->sJ,mem_range->tQ,getD->F,getD_eq_getElem?_getD->cY,getElem?_set->Aj,mem_or_eq_of_mem_set->Cg,mem_iff_getElem?->gs,map_set->Fc,map_replicate->I4,mem_replicate->LJ,count->tE,countP_cons->ĳ,count_cons->L?,count_append->HW,count_singleton->Y8,getElem?_replicate->uU,replicate_succ'->Gv,take_add_one->nM,count_singleton_self->XN,take_length->dI,getElem?_append_right->h8,cons_append->KZ,flatMap_cons->R2,flatMap->wJ,take_sublist->Ri,flatMap_append->WC,filter_cons_of_neg->S?,length_take_le'->lA,filter_cons_of_pos->TO,nodup_append->n5,map_congr_left->K1,getElem_inj->zQ,ext_getElem?->Em,mem_of_mem_take->BW,filter_eq_nil_iff->Zh,getElem?_take->g6,map_inj_right->Qr,getElem?_append_left->hh,contains_eq_mem->QD,pairwise_map->Ju,pairwise_flatMap->XJ,getElem?_set_self->Fi,getElem?_set_ne->H5,dropLast_concat->wW,getLast?_concat->pn,dropLast_concat_getLast->ro,foldl_append->Gp,length_singleton->GV,getElem?_drop->Jl,getElem_mem->y9,take_append_drop->wR,reverse_append->FO,filterMap_cons_none->QP,filterMap_cons_some->Qw,mem_filterMap->y2,map_take->si,map_drop->IS,filterMap_eq_map->B7,zip->A0,take_left->B5,map_filterMap->Oy,drop_left->O4,length_pos_iff->Y4,map_snd_zip->Wu,find?_append->X0,filter_cons->xX,map_eq_nil_iff->S1,mem_of_mem_drop->Wg,filterMap_eq_nil_iff->q',flatten->hc,flatten_append->ua,take_take->LI,append_right_inj->TR,Sublist->yA,take_append_of_le_length->m?,sublist_append_left->Yo,isEmpty_iff->ZB
open List.Nodup renaming sublist->SM,length_le_of_subset->Rb
open List.Pairwise renaming filter->RR,cons->lI,imp_of_mem->QF
open List.Perm renaming eq_of_pairwise->ajC
open List.Sublist renaming refl->ZC,trans->agN
open Nat renaming testBit->eJ,lt_of_not_le->zF,pow_le_pow_right->CS,and_comm->Ie,mod_two_eq_zero_or_one->o!,and_one_is_mod->M?,zero_testBit->vj,add_sub_cancel'->zD,succ_add_eq_add_succ->u',lt_of_le_of_ne->xJ,two_pow_pos->tP,add_lt_add_right->DD,sub_lt_sub_left->zg,add_lt_add_left->so,testBit_or->xw,pow_lt_pow_right->FN,testBit_two_pow_self->MN,lt_succ_iff_lt_or_eq->i4,or_self->X4,add_le_add->d2,mul_le_mul_left->ky,sub_self->ql,lt_add_of_pos_right->NW,testBit_two_pow->R7,add_sub_cancel_left->uh,add_zero->Zy,add_left_cancel->PC,succ_mul->r9,mul_le_mul_right->ry,le_of_succ_le->uM,one_pos->EI,exists_eq_succ_of_ne_zero->Sy,ne_of_gt->jt,le_of_sub_eq_zero->zy,lt_one_iff->Ds,lt_of_lt_of_eq->T6,pos_of_ne_zero->qz,lt_min->Xd,add_lt_add_of_le_of_lt->S7,not_le->xN,sub_lt->Tq,testBit_and->n?,sub_add_cancel->Ao,succ_sub_succ->GJ,add_sub_cancel->vM,sub_pos_of_lt->WJ,mul_le_mul->Uu,sub_le_sub_right->o?,lt_or_eq_of_le->DJ,succ->I1,add_pos_left->W!,not_succ_le_self->OG
open Option renaming toList->xa,isSome_map->Z',not_isSome_iff_eq_none->V0,isNone_iff_eq_none->W4,map_map->T1
open Or renaming imp_right->X5,imp_left->Ow
open PySem.PyData renaming tuple->Sq,strOk->aco
open PySem.SeqAt renaming eqv_refl->agY
open Relation renaming TransGen->Ej
open _root_ renaming of_decide_eq_false->C1,beq_false_of_ne->x4,exists_congr->Uh,and_congr_right->Gx
open Zq.Cs renaming nil->bO
section
noncomputable def iV(a:aa O):=a.map λ(k:O)=>ag k
noncomputable def sV(a:aa bo):=R aG a
structure Ru where
aY:O
aQ:aa O
Th:au
structure Gr where
cI:aa bo
nT:O
a9:aa Ru
iU:O
def r5(k:O)(r:Ru):=od 21<| .c 168 (ag k)<| .c 40 (ag r.aY)<| .c 123 (aR<|iV r.aQ)<| .c 236 (ag r.Th)<| .c 146 bk<| .c 41 (ag 0)<| .c 149 (ag 0) ar
noncomputable def nk:O->aa Ru->aa ai
|_,[]=>[]|k,r::t=>r5 k r::nk (k+1) t
noncomputable def uX:O->aa Ru->aa O
|_,[]=>[]|k,r::t=>k::uX (k+(U r.aQ+1)) t
noncomputable def mF:O->aa Ru->aa O
|_,[]=>[]|k,r::t=>dJ (U r.aQ+1) k++mF (k+1) t
noncomputable def jX(s:O):O->aa Ru->aa O
|_,[]=>[]|k,r::t=>aD (aE r.aY s) (k::jX s (k+1) t)<|jX s (k+1) t
def Gr.o9(G:Gr):=uX 0 G.a9
def Gr.hX(G:Gr):=mF 0 G.a9
def Gr.jY(G:Gr)(s):=jX s 0 G.a9
noncomputable def Gr.nS(G:Gr):=U G.cI
def IZ(G:Gr):=(e1 G.nS).map λs=>aN<|iV<|G.jY s
def Gr.V(G):=od 190<| .c 112 (aN<|sV G.cI)<| .c 317 (ag G.nT)<| .c 124 (aN<|nk 0 G.a9)<| .c 165 (g0 [])<| .c 158 bk<| .c 129 (ag G.iU)
 (.c 195 (aN<|IZ G)<| .c 210 (aN<|iV G.o9)<| .c 169 (aN<|iV G.hX)<| .c 272 (ag<|U G.hX) ar)
def wK(p:bo×aa bo):=aR [aG p.1,aR<|sV p.2]
def gS(a:aa<|bo×aa bo):=aN<|R wK a
abbrev gj:=aa<|bo×aa bo
noncomputable def e3:=["a","b","c","error"]
def u2(a:gj)(l:bo):Bool:=match a.find? λq=>q.1==l with
|some q=>cP q.2<|b6 e3|none=>u
noncomputable def oC(a)(q:bo×aa bo):=aD (b6 a q.1) a<|a++[q.1]
def pG(c b)(m t)(a):=j4 (∀q∈a,q.1∈b/\U q.2<=3/\∀x∈q.2,x∈e3++c) (∀l∈b,u2 a l=Q) (a.foldl oC []=b) (U a<=m)<|(R (·.2.length-1) a).sum<=t
def cU(a)(b):=e7 (a=["s","t"]\/a=["s","t","u"])<|pG a a 9 15 b
noncomputable def iK:=["a","b","c","q"]
def yO(a):=e7 (∀k∈a,k∈iK)<|U a<=9
def So(c:O)(f)(x:O):=aD (nx (x:au) (c:au)) (x:au) f
def Z4(c)(a:aa O):=a.foldl (So c)<| -1
noncomputable def nO(b a)(x:bo):=aD (b6 b x) a<|aD (b6 a x) a<|a++[x]
def zc(a)(b)(q:bo×aa bo):=q.2.foldl (nO a) b
noncomputable def p8:=["$end","error","$undefined"]
def hi(a)(b:gj):=b.foldl (zc a) p8
def eH(a)(b):=hi a b++["$accept"]++a
def jU(a)(x):=dN (g8 x a) 0
def A6(a:aa bo)(c:O)(q:bo×aa bo):Ru:=⟨jU a q.1,R (jU a) q.2,Z4 c<|R (jU a) q.2⟩
def gy(b:aa bo)(a:gj):Gr:=⟨eH b a,U<|hi b a,⟨U<|hi b a,[jU (eH b a) "s",0],0⟩::R (A6 (eH b a)<|U<|hi b a) a,jU (eH b a) "s"⟩
def BS(b)(a:gj):=∀n (c:aT) d (e:aT->Prop) f (s:bo),(s="lalr"\/s="slr")->
(∀v,(∀g h j k l,yO g->k (bS Q) j->aK (h+62) 267 [v,gS a,aN<|sV g] j k l)->d v c)->aK (n+9) 292 [(gy b a).V,aG s,bS f] c d e
noncomputable def lp:aa bo×gj:=@Classical.epsilon _ ⟨([],[])⟩ λp=>¬(cU p.1 p.2->BS p.1 p.2)
def ls:=lp.1
def D:=lp.2
abbrev k8:=cU ls D
def aiI(h:k8->BS ls D):cU l p->BS l p:=Eh λn=>@Classical.epsilon_spec _ (λp=>¬(cU p.1 p.2->BS p.1 p.2)) ⟨(l,p),n⟩ h
def VK:∃G,G=gy ls D:=cM _ rfl
noncomputable def G:=Lo VK
def A5:G=gy ls D:=RU VK
def du:U (iV a)=U a:=bB _
def fV{a k:O}(h:b[a]?=J k):(iV b)[a]?=J (ag k):=by unfold iV;simp only [cf,h];rfl
def ob:iV a++[.int k]=iV (a++[k]):=by unfold iV;exact W dq Y
def cg(h:k<=1000):k<cu:=cF h<|ao Y
def h0{a b:O}(h:a<b->c)(d:b<=a->B):dH (nx (a:au) (b:au)) c B:=g5 (λq=>h<|hn.mp q) λq=>d<|jg.mp q
def xo{a b:O}(h:a<=b->c)(d:b<a->B):dH (uY (a:au) (b:au)) c B:=Ji (λq=>h<|jg.mp q) λq=>d<|hn.mp q
def hk{a b:O}(h:a=b->c)(d:a≠b->B):dH (eX (a:au) (b:au)) c B:=lC (λq=>h<|eI q) λq=>d λz=>q<|z▸Y
def yY{a b:O}(h:a≠b->c)(d:a=b->B):dH (!eX (a:au) (b:au)) c B:=jh<|hk d h
def LH(a:aa O)(m):=∀x,x∈a↔eJ m x=Q
def F1(c:m<2^64)(h:∀a,LH a m->bw a->U a<=64->d (aN<|iV a) b):aK (n+1) 24 [ag m] b d e:=by
 refine a6 Pb (.c 47 (ag m) ar) Y Y<|aV de λa b f=>n8 (λg (_:ki)=>m>>>g) (λg Z=> .c 94 (aj a)<| .c 3 (ag (g:O))<| .c 40 (ag (m>>>g:O)) ar) (λg Z=> .c a (az<|iV<|p6 (eJ m)<|e1 g) bO) (λg Z=>g<=64) 0 () f (ao Y) λg Z s j k f l=>?_;have o:U (p6 (eJ m)<|e1 g)<=g:=ae (Al ..)<|c6 fi;refine h0 (a:=0) (λq=>?_) λq=>?_
 .have p:g<64:=by refine zF λr=>?_;rw [Q?,Nat.div_eq_of_lt<|cc c<|CS (ao Y) r] at q;exact j7 0 q
  have t:=λv=>l (g+1) () v (Nat.div_lt_self q<|ao Y) p;rw [AG,F5] at t;refine br (⟨cj _,of_decide_eq_true rfl⟩) ?_;have x:eJ m g=(1&&&(m>>>g) !=0):=Y;refine hk (a:=(m>>>g)&&&1) (b:=1) (λe=>?_) λe=>?_
  .rw [Ie,e] at x;rw [show p6 (eJ m) [g]=[g] by simp [x],<-ob] at t;exact cH f 0 Y<|dD f 0 Y (W du<|cg<|ae o<|ae k<|ao Y) λs f=>⟨⟨cj _,by decide⟩,t s f⟩
  .have y:eJ m g=false:=by
    refine W x<|W (Ie ..) ?_;rcases o! (m>>>g) with z|z<;>rw [<-M?] at z
    .exact W z Y
    .exact ay z e
   rw [show p6 (eJ m) [g]=[] by simp [y],dw] at t;exact⟨⟨cj _,by decide⟩,t s f⟩
 .refine jb f 0 Y<|h _ (λx=>?_) (RR _ Vf) (ae o k);rw [sJ,tQ];exact⟨λz=>z.2,λz=>⟨(by refine zF λr=>?_;have y:eJ m (g+(x-g))=false:=ax (Nat.testBit_shiftRight ..)<|W (vy.mp q)<|W (vj ..) Y;rw [zD r,z] at y;exact bU y),z⟩⟩
def acu:∀{b} {k a} {r},b[a]?=J r->(nk k b)[a]?=J (r5 (k+a) r):=by
 intro b
 induction b with
 |nil=>exactλh=>aI h|cons x t c=>intro k a r h;induction a with
  |zero=>exact aC h▸Y|succ a=>exact W (a5 (u' k a):k+_=k+1+a)<|c h
def Ax(h:b[a]?=J r):(nk 0 b)[a]?=J (r5 a r):=by have c:=acu (k:=0) h;rw [eF] at c;exact c
def K7:∀{a} {k},U (nk k a)=U a:=by intro a;exact @(a.rec Y λx t b=>aq _ b)
def xy(k):(nk 0 a)[k]?=b7 (r5 k) (a[k]?):=by
 cases q:a[k]? with
 |some r=>exact Ax q|none=>exact iu<|W K7<|tF.mp q
def At(G:Gr)(a r d o)(b):=j4 (G.hX[a]?=J r) (G.o9[r]?=J o) (a=o+d) (G.a9[r]?=J b)<|d<=U b.aQ
def Jc(h:a (ag G.nS) b):aK (n+1) 406 [G.V] b a c:=by refine a6 MM (.c 64 G.V ar) Y Y<|bf ?_;rw [show G.nS=U (sV G.cI) from a5<|bB _] at h;exact h
def CZ{a:QT}(h:a (bS<|decide (s<G.nT)) b):aK (n+1) 402 [G.V,ag s] b a c:=a6 L1 (.c 64 G.V<| .c 183 _ ar) Y Y<|bf<|W xe<|W (ak decide_eq_decide hn:decide _=decide _) h
def Lg{r d o:O}(a:G.o9[r]?=J o)(h:b (ag (o+d:O)) c):aK (n+1) 350 [G.V,ag r,ag d] c b e:=a6 Mj _ Y Y (bJ Y (fV a)<|bf h)
def Rr{a r:O}(b:G.hX[a]?=J r)(h:c (ag r) d):aK (n+1) 379 [G.V,ag a] d c e:=a6 Sf (.c 64 G.V<| .c 36 _ ar) Y Y<|bJ Y (fV b)<|bf h
def ajR(a:At G b r d o f)(h:c (ag d) e):aK (n+1) 373 [G.V,ag b] e c g:=by refine a6 RF (.c 64 G.V<| .c 36 _ ar) Y Y<|bJ Y (fV<|a V)<|bJ Y (fV<|a J1)<|pf (a J2)<|bf h
def aey(a:s<G.nS):(IZ G)[s]?=J (aN<|iV<|G.jY s):=by unfold IZ;simp only [cf,wg a];rfl
def V1(b:s<G.nS)(h:c (aN<|iV<|G.jY s) a):aK (n+1) 389 [G.V,ag s] a c d:=a6 NK (.c 64 G.V<| .c 183 _ ar) Y Y<|bJ Y (aey b)<|aV de λe a f=>jb f 0 Y h
noncomputable def ů(o:ba O):=match o with
|some s=>(s:au)|none=> -1
def ahF(a:At G c r d o b)(h:e (ag<|ů b.aQ[d]?) f):aK (n+1) 362 [G.V,ag c] f e g:=by
 refine a6 QS (.c 64 G.V<| .c 36 _ ar) Y Y<|bJ Y (fV<|a V)<|bJ Y (Ax<|a J3)<|bJ Y (fV<|a V)<|bJ Y (fV<|a J1) ?_;have j:U (iV b.aQ)=U b.aQ:=du;refine pf (a J2)<|h0 (λq=>?_) λq=>?_
 .rw [j] at q;rw [bM q] at h;exact bJ Y (fV<|bM q)<|bf h
 .rw [j] at q;rw [iu q] at h;exact bf h
noncomputable def bV(a:aa bc):=R bS a
def xi{a:O}(h:b[a]?=J c):(bV b)[a]?=J (bS c):=by unfold bV;simp only [cf,h];rfl
def ik(f:Fr a c d)(h:eR a v=J b):eR c v=J b:=by
 cases v with
 |tup _=>exact h|lst _=>exact h|ref e=>
  refine(?_:mV (c e)=J b);have h:mV (a e)=J b:=h;cases q:a e with
  |none=>rw [q] at h;exact aI h|some o=>exact W ((f J1) e o q)<|ax q h
 |_=>exact aI h
def Jy{b:Type}{a:aa b}{x}(h:a[k]?=J x):cq k a=x::cq (k+1) a:=by obtain⟨q,e⟩:=kq.mp h;exact ax e<|K2 q
noncomputable def fo(N:aa bc)(a:aa O):aa O->O->O×bc
|[],m=>(m,Q)|y::r,m=>aD (F N y u) (fo N a r<|m|||F a y 0) (m|||F a y 0,u)
def Fd:fo N a (y::r) m=aD (F N y u) (fo N a r<|m|||F a y 0) (m|||F a y 0,u):=Y
def e6{c:Type}{a}{d:c}(h:b<U a):a[b]?=J (F a b d):=by simp only [cY,bM h];rfl
def alm(f:eR c d=J (bV N))(g:eR c e=J (iV a))(j:∀y∈b,y<U N/\y<U a)
 (h:k (aR [ag (fo N a b 0).1,bS (fo N a b 0).2]) c):aK (n+1) 230 [aR<|iV b,d,e] c k l:=by
 refine a6 MV _ Y Y (cb Y<|cv d8 (λZ m Z=> .c 216 _ (.c 253 d<| .c 161 e<| .c 47 (ag (m:O)) ar)) (λZ Z Z=>bO) (λk m Z=>fo N a b 0=fo N a (cq k b) m) 0 () de Y (λZ Z Z Z Z=>rfl) ?_ ?_)
 .intro k y m _ s o p q r t;have l:=j y<|aO p;rw [Jy p,Fd] at q;refine bJ (ik r g) (fV<|e6 (d:=0) l.2)<|⟨⟨cj _,cj _⟩,bJ (ik r f) (xi<|e6 (d:=u) l.1)<|jh<|ef (λv=>?_) λv=>?_⟩
  .rw [v] at q;exact t _ () s q r
  .rw [v] at q;rw [q] at h;exact m8 r h
 .intro m _ s q r;rw [Ew<|bb _] at q;rw [q] at h;exact m8 r h
def oL(h:a<2^e)(k:b<2^e):a|||b<2^e:=Nat.or_lt_two_pow h k
def B?{a b:O}(h:a|||b≠a):a<a|||b:=xJ Nat.left_le_or h.symm
def ju(h:∀f∈a,f<2^e)(y):F a y 0<2^e:=by
 refine W (cY) ?_;cases q:a[y]? with
 |none=>exact tP e|some f=>exact h f<|aO q
def gL{c:Type}{a}{d x:c}(h:b<U a):F (c5 a b x) j d=if b=j then x else F a j d:=by
 refine W (cY)<|W (cY)<|W (Aj) ?_
 by_cases q:b=j
 .exact W (aJ q)<|W (aJ q)<|W (aJ h) Y
 .exact W (aS q)<|W (aS q) Y
noncomputable def mL(a:aa O):=(R (2^64-·) a).sum
def Ĳ(c:m<2^64):∀{a} {b},b<U a->F a b 0<m->mL (c5 a b m)<mL a:=by
 intro a
 induction a with
 |nil=>exactλh=>ay h<|fC _|cons f r d=>intro b h k;induction b with
  |zero=>exact DD (zg (e8 k c) k) _|succ b=>exact so (d (zr h) k) _
def v_(h:∀f∈b,f<2^e):∀{a} {m},m<2^e->(fo N b a m).1<2^e:=by
 intro a;refine @(a.rec (λk=>k) λy r c=>?_);intro m k;refine W Fd ?_;cases F N y u with
 |true=>exact c<|oL k<|ju h y|false=>exact oL k<|ju h y
structure GW(G:Gr):Prop where
nS:G.nS<=12
nT:G.nT<G.nS
t3:3<=G.nT
oV:U G.a9<=10
lt:∀o∈G.a9,(G.nT<=o.aY/\o.aY<G.nS)/\∀z∈o.aQ,z<G.nS
yx:∀o∈G.a9,U o.aQ<=3
abbrev e5:=GW G
def GW.Kh(a:e5)(h:m<2^G.nT):m<2^64:=cc h<|CS (ao Y)<|ae (bT a.nT)<|ae a.nS<|ao Y
class inductive m6(G:Gr):O->Prop
|mk (r:Ru) (h:r∈G.a9) (a:∀y∈r.aQ,m6 G y):m6 G r.aY
def Q0(G)(N):=e7 (U N=G.nS)<|∀s,m6 G s->F N s u=Q
def Sb(m k):=∀t,eJ m t=Q->eJ k t=Q
def Iv(G)(a):=hW (U a=G.nS) (∀f∈a,f<2^G.nT) (∀t<G.nT,eJ (F a t 0) t=Q)<|∀r∈G.a9,∀b c d,r.aQ=b++c::d->(∀y∈b,m6 G y)->Sb (F a c 0) (F a r.aY 0)
def Sb.Bo(h:Sb a b):Sb a (b|||c):=λt q=>by exact W (xw ..)<|W (h t q) Y
def Sb.wO(h:Sb a c):Sb a (b|||c):=λt q=>by simp only [xw,h t q,Ak]
def Sb.sO(h:Sb a b)(k:Sb b c):Sb a c:=λt q=>k t<|h t q
def ahd:∀{a} {m},Sb m (fo N b a m).1:=by
 intro a;refine @(a.rec (λZ q=>q) λy r c=>?_);intro m;refine W Fd ?_;cases F N y u with
 |true=>exact Sb.sO (Sb.Bo λZ q=>q) c|false=>exact Sb.Bo λZ q=>q
def ab1:∀{a} {m},(∀y∈a,F N y u=Q)->Sb (F b c 0) (fo N b (a++c::d) m).1:=by
 intro a
 induction a with
 |nil=>
  intro m _;refine W Fd ?_;cases F N c u with
  |true=>exact Sb.sO (Sb.wO λZ q=>q) ahd|false=>exact Sb.wO λZ q=>q
 |cons y r e=>intro m h;exact((W Fd<|W (h y (b8 ..))<|e λz q=>h z<|cy _ q):Sb _ (fo N b (y::_) m).1)
def mQ{m:O}(h:m<=1000000):tL m:=⟨n3 (ao Y)<|cj m,O9 (ak jg h)<|ao Y⟩
noncomputable def mP(G:Gr)(k):=(e1 k).map λs=>aD (dG s G.nT) (2^s) 0
def YI:U (mP G k)=k:=by unfold mP;rw [bB,fi]
def ahV(h:s<k):F (mP G k) s 0=aD (dG s G.nT) (2^s) 0:=by refine W (cY) ?_;unfold mP;simp only [cf,wg h];rfl
def kR:dG a b=decide (a<b):=by
 cases q:dG a b with
 |true=>exact a5<|eV<|ho q|false=>exact a5 (gn λz=>by have c:=xv z;unfold dG at q;exact bU<|c▸q)
def Od(G:Gr)(N:aa bc)(a:O)(r:aW):aW:= .c 201 G.V<| .c 253 (aN<|bV N)<| .c 161 (aj a) r
def Fm(G:Gr)(N:aa bc)(a):=fR (U a=G.nS) (∀f∈a,f<2^G.nT)<|∀t<G.nT,eJ (F a t 0) t=Q
def Fm.grow(h:Fm G N b)(c:a<G.nS)(d:m<2^G.nT)(e:Sb (F b a 0) m):Fm G N (c5 b a m):=by
 refine bZ (W mX<|h V) (λf g=>?_) λt j=>?_
 .rcases Cg g with q|q
  .exact(h J1) f q
  .exact W q d
 .refine W (gL<|by rw [h V];exact c) ?_
  by_cases q:a=t
  .exact W (aJ q)<|(q▸e) t<|(h J2) t j
  .exact W (aS q)<|(h J2) t j
def Hz(N)(a)(r:Ru):=F a r.aY 0|||(fo N a r.aQ 0).1=F a r.aY 0
def W2(G)(N)(a)(g):=e7 (Fm G N a)<|g=u->∀r∈G.a9,Hz N a r
def CW(G)(N)(b)(k:O)(a)(g):=hW (Fm G N a) (mL a<=mL b) (g=Q->mL a<mL b)<|g=u->∀c<k,∀r,G.a9[c]?=J r->Hz N a r
def RQ(c:Fm G N a)(d:mL a<=mL b)(e:g=Q->mL a<mL b)(f:g=u->∀h<k,∀r,G.a9[h]?=J r->Hz N a r):CW G N b k a g:=dV c d e f
def CW.end(h:CW G N b (U G.a9) a g):W2 G N a g:=
cp (h V) λe r c=>bp (gs.mp c) λd f=>(h J3) e d (gl f) r f
def mu(a)(g):=aD g (mL a+1) 0
def CW.mu(h:CW G N a k b g):mu b g<mu a true:=by
 induction g with
 |true=>exact yT<|(h J2) Y|false=>exact k9 _
def Gj:iV (c5 a b m)=c5 (iV a) b (ag m):=Fc
abbrev uI:=Q0 G
def ahR(b:e5)(e:∀c (d:QT),(∀N,uI N->d (aN<|bV N) c)->aK (n+2) 239 [G.V] c d f)(h:∀a,Iv G a->d (aN<|iV a) c):aK (n+3) 289 [G.V] c d f:=by
 refine a6 KJ (.c 201 G.V ar) Y Y<|e _ _ λN g=>aV de λj s k=>Jc<|⟨mQ<|ae b.nS<|ao Y,cv mR (λX (_ _:ki)=>Od G N j ar) (λl X X=> .c j (az<|iV<|mP G l) bO) (λX X X=>bh) () () k a3 (λX X X X X=>rfl) ?_ ?_⟩
 .intro l x _ _ s m o _ k p;have o:=lu o;refine W o.1 ?_;have q:=o.2;refine cH k 0 Y<|CZ ?_;have r:U (iV<|mP G l)<cu:=by rw [du,YI];exact cg<|ae (bT q)<|ae b.nS<|by decide
  have t:=λv=>p () () v a3;have y:mP G (l+1)=mP G l++[aD (dG l G.nT) (2^l) 0]:=by unfold mP;simp only [AG,dq];rfl
  rw [y,<-ob,kR] at t;refine ef (λB=>?_) λB=>?_
  .rw [B] at t;exact⟨⟨Y,cj _,ak hn<|cc q<|ae b.nS<|by decide⟩,dD k 0 Y r t⟩
  .rw [B] at t;exact dD k 0 Y r t
 .intro _ _ s _ k;rw [fi] at k;refine n8 mu (λa C=>Od G N j<| .c 233 (bS C) ar) (λa X=> .c j (az<|iV a) bO) (W2 G N) _ Q k (cp ((by
   refine bZ YI (λf H=>?_) λt I=>?_
   .obtain⟨s,L,rfl⟩:=mm H;cases B:dG s G.nT with
    |true=>exact FN (ao Y)<|ho B|false=>exact tP _
   .refine W (ahV<|e8 I b.nT)<|W kR<|W (eV I) ?_;exact MN)) E7) ?_
  intro a C s m o k p
  induction C with
  |false=>exact jb k 0 Y<|h a<|dV ((o V) V) ((o V) J1) ((o V) J2) (λr M T Z c e d=>by
  have c:=(o J1) Y r M;unfold Hz at c;rw [e] at c;exact Sb.sO (ab1 λy n=>(g J1) y<|d y n)<|ax c<|Sb.wO λX B=>B)
  |true=>
   refine cb Y<|cv xy (λX a C=>Od G N j<| .c 233 (bS C) ar) (λX a X=> .c j (az<|iV a) bO) _ a u k (RQ (o V) (bb _) lO λX x v=>ay v<|fC x) (λX X X X X=>rfl) ?_ ?_
   .intro l r a C s m M f k p;have t:=b.lt r<|aO M;have gl:=fV<|e6 (d:=0)<|W ((f V) V) t.1.2;refine dc k 0 Y gl<|alm Y (k.lt 0 Y) (λz h=>⟨W (g V)<|t.2 z h,W ((f V) V)<|t.2 z h⟩)<|bJ Y Y<|⟨⟨cj _,cj _⟩,dc k 0 Y gl<|yY (λB=>?_) λB=>?_⟩
    .exact qA k 0 Y (by simp only [du,(f V) V];exact t.1.2) λs k=>p _ Q s ((by have q:=cc (Ĳ (b.Kh<|oL (ju ((f V) J1) _)<|v_ ((f V) J1)<|tP _) (W ((f V) V) t.1.2)<|B? B)<|f J1;exact RQ ((f V).grow t.1.2 (oL (ju ((f V) J1) _)<|v_ ((f V) J1)<|tP _)<|Sb.Bo λH B=>B) (bT q) (λH=>q) E7)) (W Gj k)
    .exact p a C s (RQ (f V) (f J1) (f J2) (λe x v I L=>by
  rcases i4.mp v with z|z
  .exact(f J3) e x z I L
  .rw [z,M] at L;exact ax (aC L) B)) k
   .exactλT C s n k=>p T C s n.mu n.end k
def LC:iV (dJ m k)=dJ m (ag k):=I4
def aeH{a:aa b}{g:b->ai}(k:O):(R g a).reverse[k]?=b7 g (a.reverse[k]?):=ax CI (cf ..)
noncomputable def pW(b)(N)(a)(c y):=if y<b then F a y 0 else aD (F N y u) (c|||F a y 0)<|F a y 0
def qL(a:O)(N:aa bc)(c b:aa O):aa O->O->Prop
|[],_=>bh|y::r,d=>(a<=y->F b y 0|||d=F b y 0)/\qL a N c b r (pW a N c d y)
def JD(G:Gr)(N:aa bc)(b a:aa O):=e7 (U a=G.nS)<|∀f∈a,f<2^G.nT
def KQ(G)(N)(b a)(g):=e7 (JD G N b a)<|g=u->∀r∈G.a9,qL G.nT N b a (f7 r.aQ)<|F a r.aY 0
def t_(c:JD G N b a)(d:g=u->∀r∈G.a9,qL G.nT N b a (f7 r.aQ)<|F a r.aY 0):KQ G N b a g:=cp c d
def wH(G)(N)(b c)(k:O)(a)(g):=hW (JD G N b a) (mL a<=mL c) (g=Q->mL a<mL c)<|g=u->∀d<k,∀r,G.a9[d]?=J r->qL G.nT N b a (f7 r.aQ) (F a r.aY 0)
def wI(G)(N)(c d)(e)(r:Ru)(k)(a)(b:bc×O):=fR (wH G N c d e a b.1) (b.2<2^G.nT)<|b.1=u->qL G.nT N c a (cq k<|f7 r.aQ) b.2->qL G.nT N c a (f7 r.aQ) (F a r.aY 0)
def L4(d:wH G N c e f a b.1)(g:b.2<2^G.nT)(h:b.1=u->qL G.nT N c a (cq k<|f7 r.aQ) b.2->qL G.nT N c a (f7 r.aQ) (F a r.aY 0)):wI G N c e f r k a b:=bZ d g h
def wI.next(h:wI G N a f g r k b c)(d:∀j∈a,j<2^G.nT)(l:r.aQ.reverse[k]?=J y)
 (m:G.nT<=y->F b y 0|||c.2=F b y 0):wI G N a f g r (k+1) b (c.1,pW G.nT N a c.2 y):=by
 refine L4 (h V) ?_ λe c=>(h J2) e ?_
 .show pW _ _ _ _ _<_;unfold pW;split
  .exact ju d y
  .cases F N y u with
   |true=>exact oL (h J1)<|ju d y|false=>exact ju d y
 .exact W (Jy l)<|⟨m,c⟩
def wI.end(h:wI G N b c a r (U<|f7 r.aQ) d e)(f:G.a9[a]?=J r):wH G N b c (a+1) d e.1:=
dV ((h V) V) ((h V) J1) ((h V) J2) (λe j g k l=>by refine aP (i4.mp g) (λz=>(h V) J3 e j z k l) λz=>?_;rw [z,f] at l;exact ax (aC l)<|(h J2) e<|by refine W (Ew<|bb _) ?_;trivial)
def wH.end(h:wH G N a c (U G.a9) b g):KQ G N a b g:=
t_ (h V) λe r d=>bp (gs.mp d) λf j=>(h J3) e f (gl j) r j
def wH.mu(h:wH G N c a k b g):mu b g<mu a true:=by
 induction g with
 |true=>exact yT<|(h J2) Y|false=>exact k9 _
def GO(G:Gr)(N:aa bc)(a:aa O)(b:O)(g:bc)(r:aW):aW:= .c 201 G.V<| .c 253 (aN<|bV N)<| .c 161 (aN<|iV a)<| .c 200 (aj b)<| .c 233 (bS g) r
def aaz(e:e5)(f:∀n (c:aT) d,(∀N,uI N->d (aN<|bV N) c)->aK (n+2) 239 [G.V] c d g)
 (h:∀N b a,uI N->Iv G b->KQ G N b a u->d (aN<|iV a) c):aK (n+4) 301 [G.V] c d g:=by
 refine a6 Qp (.c 201 G.V ar) Y Y<|f _ _ _ λN j=>ahR e (f n) λb k=>aV de λl s m=>Jc<|hF m ⟨⟨Y,cj _,bT<|cg<|ae e.nS<|ao Y⟩,aV m λo s m=>?_⟩;have m:=m.tl;rw [show dJ _ (ag 0)=iV _ from a5 LC] at m;have p:JD G N b (dJ G.nS 0):=cp ig λÀ q=>W (LJ.mp q).2<|tP _;refine n8 mu (λX g=>GO G N b o g ar) (λa X=> .c o (az<|iV a) bO) _ _ Q m (t_ p E7) λa g s r t m v=>?_
 induction g with
 |false=>exact jb m 0 Y<|h N b a j k t|true=>
  refine cb Y<|cv xy (λX X g=>GO G N b o g ar) (λX a X=> .c o (az<|iV a) bO) (wH G N b a) a u m (dV (t V) (bb _) lO λX x y=>ay y<|fC x) (λX X X X X=>rfl) ?_ ?_
  .intro x z B g s r C H m v;have I:=e.lt z<|aO C;refine dc m 0 Y (fV<|e6 (d:=0)<|W ((H V) V) I.1.2) ?_;refine cv aeH (λX X L=>GO G N b o L.1<| .c 61 _ (.c 150 (ag (L.2:O)) ar)) (λX a X=> .c o (az<|iV a) bO) _ B (g,F B z.aY 0) m (L4 H (ju ((H V) J1) _) λX M=>M) (λX X X X X=>rfl) ?_ ?_
   .intro T y Z L s r l H m v;have p:=I.2 y<|wD.mp<|aO l;refine CZ<|ef (λh=>?_) λh=>?_
    .have h:=ao h;refine bJ Y (fV<|e6 (d:=0)<|W (k V) p) ?_;have t:=v Z _ s (H.next (k J1) l λB=>ay h<|ak fS B) m;unfold pW at t;rw [aJ h] at t;exact t
    .have h:=C1 h;have gl:=fV<|e6 (d:=0)<|W ((H V) V V) p;have M:∀I (f:bc) s,wI G N b a x z (T+1) I (f,pW G.nT N b L.2 y)->Fr c s (.c o (az<|iV I) bO)->
      c1 (aK<|n+3) (λX=>bX) (fH (nK (d9 150)<| .ite (hC k6 (d9 253)<|d9 183) (hC lY (d9 150)<|hC k6 (d9 161)<|d9 183)<|hC k6 (d9 161)<|d9 183)<|fH (.del [183]) ck)
       (GO G N b o f<| .c 61 (r5 x z)<| .c 150 (ag (L.2:O))<| .c 183 (ag y) ar) s r (ei d) r:=by
      intro I f s H m;have t:=v I _ s H m;unfold pW at t;rw [aS h] at t;refine bJ Y (xi<|e6 (d:=u)<|W (j V) p)<|ef (λh=>?_) λh=>?_
      .rw [h] at t;exact bJ Y (fV<|e6<|W (k V) p) ⟨⟨cj _,cj _⟩,t⟩
      .rw [h] at t;exact bJ Y (fV<|e6<|W (k V) p) t
     refine dc m 0 Y gl ⟨⟨cj _,cj _⟩,dc m 0 Y gl<|yY (λB=>?_) λB=>?_⟩
     .refine dc m 0 Y gl ⟨⟨cj _,cj _⟩,?_⟩;have c:wI G N b a x z T (c5 Z y<|F Z y 0|||L.2) (Q,L.2):=by have d:=oL (ju ((H V) V J1) y)<|H J1;have n:=cc (Ĳ (e.Kh d) (W ((H V) V V) p)<|B? B)<|(H V) J1;exact L4 (dV (cp (W mX<|(H V) V V) λÀ q=>aP (Cg q) ((H V) V J1 À) λe=>e▸d) (bT n) (λX=>n) E7) (H J1) E7
      exact qA m 0 Y (by simp only [du,(H V) V V];exact p) λs m=>M _ Q s (c.next (k J1) l λX=>W (gL<|by rw [(H V) V V];exact p)<|W (aJ Y)<|W (Nat.or_assoc ..)<|aq _ (X4 ..)) (by rw [Gj];exact m)
     .exact M Z L.1 s (H.next (k J1) l λX=>B) m
   .exactλZ L s H m=>v Z L.1 s (H.end C) m
  .exactλj g s l m=>v j g s l.mu l.end m
def ZK:(x>>>m)&&&1=1↔eJ x m=true:=by have a:eJ x m=(1&&&_ !=0):=Y;refine W a<|W (Ie ..) ?_;rcases o! _ with z|z<;>rw [<-M?,Ie] at z<;>refine W z ?_<;>decide
noncomputable def bt(a)(b c):=eJ (F a b 0) c
def Tr(b a)(m):=oj (U a=U b) (∀f∈a,f<2^64) (∀c,Sb (F b c 0)<|F a c 0) (∀c d,bt a c d=Q->∃e,(e=c\/bt a c e=Q)/\bt b e d=Q) (∀k<m,∀c d,bt a c k=Q->bt a k d=Q->bt a c d=Q)<|∀c d,bt a c d=Q->Ej (λc d=>bt b c d=Q) c d
def q1(a)(m b):=aD (bt a b m) (F a b 0|||F a m 0)<|F a b 0
def IM(a)(m j)(b):=e7 (U b=U a) (∀c,F b c 0=if c<j then q1 a m c else F a c 0)
def akx:q1 a m m=F a m 0:=by
 unfold q1;cases bt a m m with
 |true=>exact X4 _|false=>rfl
def akF:eJ (q1 a m b) c=(bt a b c||(bt a b m&&bt a m c)):=by
 unfold q1;cases q:bt a b m with
 |true=>exact xw ..|false=>exact a5<|SR _
set_option tactic.hygienic true in
def Tr.next(h:Tr c a m)(k:IM a m (U a) b):Tr c b (m+1):=by
 have d:∀f,F b f 0=q1 a m f:=λf=>by
  refine W (k J1 _) ?_;split
  .rfl
  .rename_i z;have:F a f 0=0:=by refine W (cY)<|W (iu<|j5 z) ?_;rfl
   unfold q1 bt;exact W this<|W (vj ..) Y
 have g:∀f j,bt b f j=(bt a f j||_):=λf j=>by exact ax akF<|ax (d ..) Y
 refine eY (af (k V)<|h V) (λl n=>?_) (λf=>?_) (λf j e=>?_) (λc o f j p q=>?_) λf j e=>?_
 .refine bp (gs.mp n) λr s=>?_;have:l=F b r 0:=by refine W (cY)<|W s ?_;rfl
  refine W this<|W (d ..) ?_;unfold q1;cases bt a r m with
  |true=>exact oL (ju (h J1) _)<|ju (h J1) _|false=>exact ju (h J1) _
 .exact((h J2) f).sO λt q=>W (show eJ (F b f 0) t=bt b f t from Y)<|W (g ..)<|W (show bt a f t=Q from q) Y
 .rw [g] at e;rcases kv.mp e with e|e
  .exact aA ((h J3) f j e) λc o r=>⟨c,o.imp_right λz=>by refine W (g ..)<|W z ?_;rfl,r⟩
  .refine dK ((wB ..).mp e) λv x=>aA ((h J3) m j x) λc o r=>⟨c,aw<|W (g ..)<|W v ?_,r⟩;rcases o with rfl|o
   .exact W v Y
   .exact W o<|W (r' ..) (Ak ..)
 .rw [g] at p q⊢;rw [kv,wB] at p q⊢;rcases i4.mp o with o|rfl
  .rcases p with p|p<;>rcases q with q|q
   .exact aL<|(h J4) c o f j p q
   .exact aw ⟨(h J4) c o f m p q.1,q.2⟩
   .exact aw ⟨p.1,(h J4) c o m j p.2 q⟩
   .exact aw ⟨p.1,q.2⟩
  .exact aw ⟨aP p id And.left,aP q id And.right⟩
 .rw [g] at e;rcases kv.mp e with e|e
  .exact(h J5) f j e
  .exact dK ((wB ..).mp e) λv x=>((h J5) f m v).trans<|(h J5) m j x
def ad3(a T):=oj (U T=U a) (∀f∈T,f<2^64) (∀b,Sb (F a b 0)<|F T b 0) (∀b c,bt T b c=Q->∃d,(d=b\/bt T b d=Q)/\bt a d c=Q) (∀k b c,bt T b k=Q->bt T k c=Q->bt T b c=Q)<|∀b c,bt T b c=Q->Ej (λb c=>bt a b c=Q) b c
def agw{a}{v}(d:eR b v=J (iV a))(c:U a<=12)(e:∀f∈a,f<2^64)(h:∀T,ad3 a T->g (aN<|iV T) b):aK (n+1) 281 [v] b g j:=by
 refine a6 QQ (.c 60 v ar) Y Y<|PD de d λk s l=>?_;have m:∀o s,U o=U a->Fr b s (.c k (az<|iV o) bO)->(∀p,_->ni (s k) p)/\tL (U (iV o):O):=λo s q l=>⟨λp r=>hF l r,mQ<|by rw [du,q];exact ae c<|ao Y⟩
 refine(m a s Y l).1 _ ⟨(m a s Y l).2,cv mR (λX X X=> .c 94 _ ar) (λX o X=> .c k (az<|iV o) bO) (λt o X=>Tr a o t) a () l (eY Y e (λX X x=>x) (λk b q=>⟨k,aL Y,q⟩) (λr y=>ay y<|fC r) λX X q=> .single q) (λX X X X X=>rfl) ?_ ?_⟩
 .intro t z o _ s p B C l H;have I:=lu B;refine W I.1 ?_;have L:t<U a:=by have M:=I.2;rw [du] at M;exact M
  refine(m o s (C V) l).1 _ ⟨(m o s (C V) l).2,cv mR (λX X X=> .c 94 _ _) (λX o X=> .c k (az<|iV o) bO) (λj N X=>IM o t j N) o () l (cp Y λk=>W (aS<|fC k) Y) (λX X X X X=>rfl) ?_ ?_⟩
  .intro j z N _ s p B Z l H;have v:=lu B;refine W v.1 ?_;have T:j<U o:=by have M:=v.2;rw [du] at M;exact M
   have d:=fV<|e6 (d:=0)<|W (Z V) T;have f:=fV<|e6 (a:=N) (d:=0)<|by simp only [Z V,C V];exact L
   have g:F N j 0=F o j 0:=W ((Z J1) _)<|aS<|j7 j;rw [g] at d;have n:F N t 0=F o t 0:=by
    refine W ((Z J1) _) ?_;split
    .exact akx
    .rfl
   rw [n] at f;refine dc l 0 Y d<|⟨⟨cj _,cj _,ak hn<|cc L<|ae c<|by decide⟩,⟨cj _,ao Y⟩,hk (λx=>?_) λx=>?_⟩
   .have x:bt o j t=true:=ZK.mp x;refine dc l 0 Y d<|dc l 0 Y f ⟨⟨cj _,cj _⟩,qA l 0 Y (by simp only [du,Z V];exact T) λs l=>?_⟩;have e:IM o t (j+1) (c5 N j<|q1 o t j):=by
     refine cp (W mX<|Z V) λk=>W (gL<|by rw [Z V];exact T)<|W ((Z J1) _) ?_
     by_cases x:j=k
     .subst x;rw [aJ Y,aJ<|ha j]
     .rw [aS x]
      by_cases z:k<j
      .rw [aJ z,aJ<|rM z]
      .rw [aS z,aS λy=>aP (i4.mp y) z λq=>x q.symm]
    have a:=e;unfold q1 at a;rw [x] at a;exact H _ () s a (W Gj l)
   .have I (x:bt o j t=u):IM o t (j+1) N:=by
     refine cp (Z V) λk=>W ((Z J1) _) ?_
     by_cases z:k<j
     .exact W (aJ z)<|W (aJ<|rM z) Y
     .refine W (aS z) ?_
      by_cases y:k<j+1
      .refine W (aJ y)<|W (hJ (lE y)<|j5 z) ?_;unfold q1;exact W x Y
      .exact W (aS y) Y
    exact H N () s (I<|ak UA λz=>x<|ak ZK z) l
  .intro N _ s Z l;rw [fi,du] at Z;exact H N () s (C.next Z) l
 .intro o _ s C l;rw [fi,du,<-(C V)] at C;exact jb l 0 Y<|h o<|eY (C V) (C J1) (C J2) (C J3) (λr k b p x=>by
 by_cases z:r<U o
 .exact(C J4) r z k b p x
 .have M:F o r 0=0:=by refine W (cY)<|W (iu<|j5 z) ?_;rfl
  unfold bt at x;rw [M,vj] at x;exact bU x)<|C J5
noncomputable def wh{a:Type}(g:a->m2):aa O->aa a->Cs
|b::r,x::s=> .c b (g x)<|wh g r s|_,_=>bO
def V':∀{a} {b} {s c},a[s]?=J c->b[s]?=J x->(wh g a b).at s=J (c,g x):=by
 intro a
 induction a with
 |nil=>exactλh=>aI h|cons v r d=>intro b s c h k;cases b with
  |nil=>exact aI k|cons y t=>induction s with
   |zero=>exact aC h▸aC k▸Y|succ s=>exact d h k
def afG:∀{a} {b} {s},(wh g a b).g9 s (g x)=wh g a (c5 b s x):=by
 intro a
 induction a with
 |nil=>exact Y|cons v r c=>intro b s;cases b with
  |nil=>rfl|cons y t=>induction s with
   |zero=>rfl|succ s=>exact aq _ c
def YQ:∀{b} {a},U b=U a->(wh g b a).cB c (g x)=wh g (b++[c]) (a++[x]):=by
 intro b
 induction b with
 |nil=>intro a h;induction a with
  |nil=>rfl|cons y t=>exact wC h
 |cons v r d=>intro a h;induction a with
  |nil=>exact vY h|cons y t=>exact aq _ (d<|fZ h)
def hA:=wh λx=>az<|iV x
noncomputable def fO(a:aa O):=R aj a
def rR{s a:O}(h:b[s]?=J a):(fO b)[s]?=J (aj a):=by unfold fO;simp only [cf,h];rfl
def pg(h:a[s]?=J b)(k:c[s]?=J d):(hA a c).at s=J (b,az<|iV d):=V' (g:=λx=>az<|iV x) h k
def Gq:(hA a b).g9 s (az<|iV c)=hA a (c5 b s c):=afG (g:=λx=>az<|iV x)
def BM(h:U a=U b):(hA a b).cB c (az [])=hA (a++[c]) (b++[[]]):=YQ (g:=λx=>az<|iV x) (x:=[]) h
def HB:U (bV a)=U a:=bB _
def VO:bV (c5 a b c)=c5 (bV a) b (bS c):=Fc
def agn:bV (dJ m b)=dJ m (bS b):=I4
def Us(G:Gr)(b)(c)(a):=j4 (U a=G.nS) (∀j<b,∀r,G.a9[j]?=J r->∀s<G.nS,tE s r.aQ<=tE j (F a s [])) (∀s<G.nS,tE s c<=tE b (F a s [])) (∀s<G.nS,U (F a s [])<=3*b+U c)<|∀s<G.nS,∀x∈F a s [],x<U G.a9
noncomputable def zV(a:aa au):=R ag a
def Dl{a:O}(h:b[a]?=J k):(zV b)[a]?=J (ag k):=by unfold zV;simp only [cf,h];rfl
def EE:U (zV a)=U a:=bB _
def k':zV (c5 a b c)=c5 (zV a) b (ag c):=Fc
def N?:zV a++[ag k]=zV (a++[k]):=by unfold zV;exact W dq Y
noncomputable def lk(a b:aa O):=b.countP λy=> !b6 a y
def adj:lk b a<=lk (b++[s]) a+tE s a:=by
 refine a.rec (bb _) λy r c=>?_;unfold lk at c⊢;refine W ĳ<|W ĳ<|W L?<|W List.contains_append ?_;cases b6 b y with
 |true=>exact ae c<|d5 (dO _ _) _|false=>
  cases q:(y==s) with
  |true=>
   have d:b6 [s] y=true:=by exact W Az<|W q Y
   exact W d<|b2 c
  |false=>
   have d:b6 [s] y=false:=by exact W Az<|W q Y
   exact W d<|W (jN ..)<|b2 c
def acG(h:∀y∈a,y∈b):lk b a=0:=ak List.countP_eq_zero λy c=>a5 (ak gv<|h y c)▸hz
def Aa(G:Gr)(b c:aa O)(k)(a)(q)(L):=uk (U a=G.nS) (tE Q a=U q) (∀s∈q,s<G.nS) (∀s,F a s u=Q->s∈q) (U L=U G.a9) (∀d r,G.a9[d]?=J r->F L d 0<=(lk b r.aQ:au)-tE d c)<|∀d r,d<k->G.a9[d]?=J r->F L d 0<=0->F a r.aY u=Q
abbrev oR:=Aa G
def Aa.Ob(h:oR a sub k b q L):U q<=G.nS:=by simp only [<-(h J1),<-(h V)];exact List.count_le_length
set_option tactic.hygienic true in
def Aa.mark(h:oR d sub k a q L)(b:s<G.nS)(c:F a s u=u):oR d sub k (c5 a s Q) (q++[s]) L:=by
 have ls:=a5 (h V)▸b;refine kb (af mX<|h V) ?_ (λx e=>?_) (λx e=>?_) (h J4) (h J5) λf r g j z=>?_
 .have l:a[s]=false:=by rw [cY,bM ls] at c;exact c
  exact W (List.count_set ls)<|W l<|W a4<|ax (h J1) Y
 .rcases ma e with e|e
  .exact(h J2) x e
  .exact a5 (ms e)▸b
 .rw [gL ls] at e;split at e
  .rename_i m;exact a5 m▸fy _ hf
  .exact gI _ ((h J3) x e)
 .refine W (gL ls) ?_;split
  .rfl
  .exact(h J6) f r g j z
def Aa.step(h:oR b sub k a q L)(c:G.a9[k]?=J r)(z:F L k 0<=0->F a r.aY u=Q):oR b sub (k+1) a q L:=
kb (h V) (h J1) (h J2) (h J3) (h J4) (h J5) (λd e f g=>by refine aP (i4.mp f) (λy=>(h J6) d e y g) λy=>?_;rw [y,c] at g;exact ax (aC g)<|a5 y▸z)
def Aa.dec(h:oR d sub (U G.a9) b q L)(c:G.a9[a]?=J r)(z:F L a 0-1<=0->F b r.aY u=Q):
 oR d (sub++[a]) (U G.a9) b q (c5 L a<|F L a 0-1):=by
 have e:a<U L:=W (h J4)<|gl c;refine kb (h V) (h J1) (h J2) (h J3) (W mX<|h J4) (λj f g=>?_) λj f k g=>?_
 .have l:=(h J5) j f g;refine W (gL e)<|W HW<|W Y8 ?_
  by_cases m:a=j
  .refine W (aJ m)<|W m<|W (jT ..)<|W (aJ Y)<|W m<|ia1 l
  .exact W (aS m)<|W (x4 m) l
 .refine W (gL e) ?_
  by_cases m:a=j
  .refine W (aJ m) ?_;subst m;rw [c] at g;obtain rfl:=aC g;exact z
  .exact W (aS m)<|(h J6) j f k g
def Aa.turn(h:oR b c (U G.a9) d q L)(e:∀a r,G.a9[a]?=J r->tE s r.aQ<=tE a c):oR (b++[s]) [] (U G.a9) d q L:=
kb (h V) (h J1) (h J2) (h J3) (h J4) (λa r f=>by exact W List.count_nil<|ia2 ((h J5) a r f) (e a r f)<|adj (b:=b) (s:=s) (a:=r.aQ))<|h J6
def En(G:Gr)(a b c d:O)(r:aW):aW:= .c 201 G.V<| .c 94 (aj a)<| .c 206 (aj b)<| .c 137 (aj c)<| .c 119 (aj d) r
def uS(b c d e:O)(a:aa O)(f:aa bc)(L:aa au)(q:aa O)(g:aa<|aa O):Cs:= .c e (az<|iV q)<| .c d (az<|fO a)<| .c b (az<|bV f)<| .c c (az<|zV L)<|hA a g
noncomputable def Ib(r:Ru):=(U r.aQ:au)
def sp0:oR [] [] 0 (dJ G.nS u) [] (R Ib G.a9):=by
 refine kb ig (ak List.count_eq_zero λz=>bU (LJ.mp z).2) (λZ h=>bG h) (λs a=>?_) (bB _) (λb r c=>?_) λb r d=>ay d<|fC b
 .rw [cY,uU] at a;split at a<;>exact bU a
 .have e {f:aa O}:lk [] f=U f:=ak List.countP_eq_length λZ Z=>rfl;simp only [cY,cf,c,e];exact O1 (AU _).symm
set_option tactic.hygienic true in
def aaj(a:e5)(c:eR b v=J (bV<|dJ G.nS u))(À:∀N,uI N->d (aN<|bV N) b):aK (n+1) 180 [G.V,v] b d e:=by
 refine a6 Nv (.c 201 G.V<| .c 104 v ar) Y Y<|PD de c λf s g=>aV g λb s g=>cb (g.lt 0 Y) ?_;have Á:=a.nS;refine wu g (λk l m=>∃o,U o=k/\l=fO o/\m= .c f _ (.c b _ (hA o<|dJ k []))) ⟨[],Y,Y,Y⟩ (λk l m c p s g q=>by obtain⟨o,_,_,rfl⟩:=q;exact g.lt 0 Y) ?_ ?_ ?_
 .refineλk x l m c s r t y q g B C=>aV g λH s g=>?_
  obtain⟨o,I,rfl,rfl⟩:=q;refine B _ s _ g.EV ⟨o++[H],W a4<|W I Y,?_,W Gv<|ax (BM<|W I<|W ig Y) Y⟩;unfold fO;exact W dq Y
 .exact W HB<|W ig<|cg<|ae Á<|by decide
 intro c l m s g q;obtain⟨o,I,rfl,rfl⟩:=q;rw [HB,ig] at I g;have g:=g.bN;refine aV g λd s g=>?_;have g:=g.bN;have L:Us G 0 [] _:=ec ig (λM T=>ay T<|fC M) (λs _=>cQ _) (λs Z=>W (cY)<|W (uU)<|W (aJ Z)<|bb _) λs Z x y=>by rw [cY,uU,aJ Z] at y;exact bG y
 refine cb Y<|cv xy (λ_ _ _=>En G f b c d ar) (λk v _=>uS f b c d o _ ((aF k G.a9).map Ib) [] v) (λk v _=>Us G k [] v) _ () g L (λ_ _ _ _ _=>rfl) ?_ ?_
 .intro q r v _ s Â n e g p;have t:=gl n;have C:=a.lt r<|aO n;refine cb Y<|cv d8 (λk _ _=>En G f b c d<| .c 61 _ (.c 208 (ag (k:O)) ar)) (λ_ v _=>uS f b c d o _ _ [] v) (λk v _=>Us G q (aF k r.aQ) v) v () g e (λ_ _ _ _ _=>rfl) ?_ ?_
  .intro k l v _ s Â m e g p;have B:=C.2 l<|aO m;obtain⟨H,L⟩:∃H,o[l]?=some H:=cM _<|bM<|a5 I▸B;have h:=e6 (d:=[])<|a5 (e V)▸B;refine dc g 2 Y (xi<|W (uU)<|aJ B) ?_;refine dc g 1 Y (rR L)<|cH g (l+4) (pg L h)<|dD g (l+4) (pg L h) ?_ λs g=>?_
   .exact W du<|cg<|ae ((e J3) l B)<|W dS<|ae (d2 (ky 3<|bT<|cc t a.oV)<|ae (oN ..)<|a.yx r<|aO n)<|ao Y
   .refine p (c5 v l<|F v l []++[q]) () s ?_ ?_
    .exact W nM<|W m<|(by
      have j:∀s,F (c5 v l<|F v l []++[q]) s []=if l=s then F v s []++[q] else F v s []:=λs=>by
       refine W (gL<|a5 (e V)▸B) ?_
       by_cases N:l=s
       .exact W (aJ N)<|W (aJ N)<|W N Y
       .exact W (aS N)<|W (aS N) Y
      refine ec (af mX<|e V) (λM T r n s Z=>?_) (λs Z=>?_) (λs Z=>?_) λs Z x y=>?_
      .refine ae ((e J1) M T r n s Z)<|W (j ..) ?_;split
       .exact W HW<|dO _ _
       .exact bb _
      .refine W (j ..)<|W HW ?_;split
       .rename_i N;exact W HW<|W XN<|W N<|W XN<|b2<|(e J2) s Z
       .rename_i N;exact W Y8<|W (x4 N)<|(e J2) s Z
      .refine W (j ..)<|W a4 ?_;split
       .exact a5 a4▸b2 ((e J3) s Z)
       .exact hI<|(e J3) s Z
      .rw [j] at y;split at y
       .rcases ma y with y|y
        .exact(e J4) s Z x y
        .exact a5 (ms y)▸t
       .exact(e J4) s Z x y)
    .unfold uS;exact ax Gq<|ax ob g
  .intro v _ s e g;rw [dI] at e;refine cH g 3 Y<|dD g 3 Y ?_ λs g=>?_
   .exact W EE<|W (bB ..)<|W dS<|cg<|ae (oN _ _)<|ae a.oV<|ao Y
   .refine p v () s (ec (e V) (λM T y j s Z=>by
  rcases i4.mp T with z|z
  .exact(e J1) M z y j s Z
  .rw [z,n] at j;refine ax (aC j) ?_;exact a5 z▸(e J2) s Z) (λs Z=>cQ _) (λs Z=>ae ((e J3) s Z)<|d5 (a.yx r<|aO n) _)<|e J4)<|W nM<|W n<|W dq ?_
    unfold uS;exact W (a5 N?:zV _=zV _++[ag _]) g
 intro v _ s h g;rw [dI] at g;refine cb Y<|cv xy (λ_ _ _=>En G f b c d ar) (λ_ M N=>uS f b c d o M _ N v) (λk M N=>oR [] [] k M N _) _ [] g sp0 (λ_ _ _ _ _=>rfl) ?_ ?_
 .intro q r M N s Â n e g p;have C:=(a.lt r<|aO n).1.2;exact dc g 3 Y (Dl<|e6 (a:=R Ib G.a9) (d:=0)<|W (bB ..)<|gl n)<|QB (λT=>dc g 2 Y (xi<|e6 (d:=u)<|a5 (e V)▸C)<|jh<|ef (λz=>p M N s (e.step n λ_=>z) g) λz=>qA g 2 Y (W HB<|W (e V) C) λs g=>cH g 0 Y<|dD g 0 Y (a5 du▸cg (ae e.Ob<|ae Á<|by decide)) λs g=>p _ _ s ((e.mark C z).step n λ_=>W (gL<|a5 (e V)▸C)<|aJ Y) (by unfold uS;exact W VO<|ax ob g)) λT=>p M N s (e.step n λz=>ay (Int.le_antisymm z<|W (cY)<|W (cf)<|W n<|cj _) T) g
 intro M N s e g;refine n8 (λ_ x=>G.nS-U x.1) (λ_ x=>En G f b c d<| .c 3 (ag (U x.1:O)) ar) (λM x=>uS f b c d o M x.2.2 (x.1++x.2.1) v)
  (λM x=>oR x.1 [] (U G.a9) M (x.1++x.2.1) x.2.2) M ([],N,R Ib G.a9) g e ?_
 intro M x s Â e g p;obtain⟨y,j,N⟩:=x;refine hF g<|h0 (a:=U y) (b:=U<|iV<|y++j) (λT=>?_) λT=>?_
 .rw [du] at T;obtain⟨l,Ã,rfl⟩:∃l Ã,j=l::Ã:=by
   cases j with
   |nil=>rw [dw] at T;exact ay T<|j7 _|cons l Ã=>exact⟨l,Ã,Y⟩
  have B:=(e J2) l<|fy _ (b8 ..);obtain⟨H,L⟩:∃H,o[l]?=some H:=⟨_,bM<|a5 I▸B⟩;have m:=e6 (d:=[])<|a5 (h V)▸B;have H:=e.Ob;rw [a4] at H;refine dc g 0 Y (fV<|by refine W (h8<|bb _)<|W (ql ..) ?_;rfl) ?_;refine dc g 1 Y (rR L)<|cb (g.lt (l+4)<|pg L m) ?_;refine cv d8 (λ_ _ (_:aa O×aa au)=>En G f b c d<| .c 3 (ag (U y:O)) ar) (λ_ M x=>uS f b c d o M x.2 (y++l::x.1) v)
   (λk M x=>oR y (aF k<|F v l []) (U G.a9) M (y++l::x.1) x.2) M (Ã,N) g e (λ_ _ _ s g=>g.lt (l+4)<|pg L m) ?_ ?_
  .intro k q M x s Â t e g p;obtain⟨j,N⟩:=x;have I:=(h J4) l B q<|aO t;have n:=bM I;have C:=(a.lt _ (aO n)).1.2;refine dc g 3 Y (Dl<|e6 (a:=N) (d:=0)<|a5 (e J4)▸I)<|vd<|qA g 3 Y (W EE<|W (e J4) I) λs g=>?_;rw [<-k'] at g;refine bJ Y (Ax n)<|dc g 3 Y (Dl<|W (Aj)<|W (aJ Y)<|aJ<|a5 (e J4)▸I) ?_;have b:=λM j s=>p M (j,c5 N q<|F N q 0-1) s;rw [nM,t] at b;refine QB (λT=>?_) λT=>?_
   .refine dc g 2 Y (xi<|e6 (d:=u)<|a5 (e V)▸C)<|jh<|ef (λz=>?_) λz=>?_
    .exact b M j s (e.dec n λ_=>z) g
    .refine qA g 2 Y (W HB<|W (e V) C) λs g=>cH g 0 Y<|dD g 0 Y ?_ λs g=>?_
     .exact a5 du▸cg (ae e.Ob<|ae Á<|by decide)
     .have k:=e.mark C z;rw [dy,KZ] at k;refine b _ _ s (k.dec n λ_=>W (gL<|a5 (e V)▸C)<|aJ Y) ?_;unfold uS;exact W VO<|ax KZ<|ax (dy ..)<|ax ob g
   .exact b M j s (e.dec n λz=>(e J6) q _ I n (ia4 z T)) g
  .intro M x s e g;obtain⟨j,N⟩:=x;rw [dI] at e;have b:=p M (y++[l],j,N) s;have o:U (y++[l])=U y+1:=a4;rw [show U (y++[l],j,N).1=U y+1 from o] at b;refine b (zg ?_<|ha _) ?_ ?_
   .exact cc (NW<|k9<|U Ã) H
   .exact W (dy ..)<|e.turn λq r n=>(h J1) q (gl n) r n l B
   .exact W (dy ..) g
 .rw [du,a4] at T;have:j=[]:=Hi<|vy.mp<|Nat.le_of_add_le_add_left (T:_<=U y+0);subst this;rw [dw] at e;exact jb g 2 Y<|À M<|(by refine cp (e V) λs Z=>Z.rec λr n f c=>?_;obtain⟨q,t⟩:=gs.mp n;refine(e J6) q r (gl t) t<|n3 ((e J5) q r t)<|W (acG λl m=>(e J3) l<|c l m)<|Int.le_refl 0)
def X1(a:e5)(h:∀N,uI N->b (aN<|bV N) c):aK (n+2) 239 [G.V] c b d:=by refine a6 RI (.c 201 G.V ar) Y Y<|aV de λe s f=>Jc<|hF f ⟨⟨Y,cj _,bT<|cg<|ae a.nS<|ao Y⟩,aV f λe s f=>aaj a (a5 agn▸f.lt 1 Y) λN g=>m8 f<|h N g⟩
def qw(h:Fr m a d)(k)(e:d.at k=J (f,az<|iV b))(l:c<U b)(g:j (ag (F b c 0:O)) a):ko (aj f) (ag c) a j:=
dc h k e (fV<|e6 l) g
def Hg(l:a<U b)(c:d (ag (F b a 0:O)) e):ko (aN<|iV b) (ag a) e d:=bJ Y (fV<|e6 l) c
def uC(h:Fr e f a)(k)(g:a.at k=J (j,az<|iV b))(l:c<U b)
 (m:∀d,Fr e d (a.g9 k<|az<|iV<|c5 b c n)->K d):qe (aj j) (ag c) (ag n) f K:=qA h k g (W du l)<|Gj▸m
def rh(h:Fr f g a)(k){b m:O}(j:a.at k=J (b,az<|iV c))(l:U c<=1000)
 (d:∀e,Fr f e (a.g9 k<|az<|iV<|c++[m])->n bk e):lG h9 (aj b) (ag m) g n:=by
 rw [<-ob] at d;exact dD h k j (W du<|cg l) d
def Rw(G:Gr)(k:O)(a):=hW (U a=G.nS) (∀f∈a,f<2^64) (∀b<k,∀r y t,G.a9[b]?=J r->r.aQ=y::t->bt a r.aY y=Q)<|∀c b,bt a c b=Q->∃r t,r∈G.a9/\r.aY=c/\r.aQ=b::t
def qy(G:Gr)(T):=oj (U T=G.nS) (∀f∈T,f<2^64) (∀r y t,r∈G.a9->r.aQ=y::t->bt T r.aY y=Q) (∀k a b,bt T a k=Q->bt T k b=Q->bt T a b=Q) (∀a b,bt T a b=Q->∃r t,r∈G.a9/\(r.aY=a\/bt T a r.aY=Q)/\r.aQ=b::t)<|∀a b,bt T a b=Q->Ej (λa b=>∃r t,r∈G.a9/\r.aY=a/\r.aQ=b::t) a b
def Bl(G:Gr)(T):=od 143<| .c 201 G.V<| .c 161 (aN<|iV T) ar
def afq(a:e5)(h:∀T,qy G T->c (Bl G T) b):aK (n+3) 143 [G.V] b c d:=by
 refine jL Y Y λe f=>?_;have g:=de.hO (o:=cw 143 ar) f;refine a6 Mo (.c 64 _ (.c 201 G.V ar)) Y Y<|bP g Y λs g=>aV g λj s g=>Jc<|bW g 1 Y ⟨⟨Y,cj _,bT<|cg<|ae a.nS<|ao Y⟩,aV g λc s g=>?_⟩;have g:Fr b s (.c c (az<|iV<|dJ G.nS 0)<| .c e _ bO):=W LC g.EV.bN.tl.bN;refine cb Y ?_;refine cv xy (λX X X=> .c 64 _ _) (λX k X=> .c c (az<|iV k) _) (λl k X=>Rw G l k) _ () g
  (dV ig (λf m=>W (LJ.mp m).2<|tP 64) (λo p=>ay p<|fC o) λe j q=>?_) (λX X X X X=>rfl) ?_ ?_
 .unfold bt at q;rw [cY,uU] at q;split at q
  .rw [show dN (J 0) 0=0 from Y,vj] at q;exact bU q
  .rw [show dN _ 0=0 from Y,vj] at q;exact bU q
 .intro l r k _ s t v x g y;have B:=a.lt r<|aO v;have C:r.aY<U k:=W (x V) B.1.2;refine h0 (λq=>?_) λq=>?_
  .rw [du] at q;obtain⟨H,t,I⟩:∃H t,r.aQ=H::t:=List.exists_cons_of_length_pos q;have L:H<64:=cc (B.2 H (I▸b8 ..))<|ae a.nS<|by decide
   refine qw g 0 Y C<|bJ Y (by refine W I ?_;rfl) ?_;refine⟨⟨Y,cj _,ak hn<|e8 L<|ao Y⟩,⟨cj _,cj _⟩,?_⟩;have M:Rw G (l+1) (c5 k r.aY<|F k r.aY 0|||2^H):=by
    have C:r.aY<U k:=W (x V) B.1.2;have N:∀e j,bt (c5 k r.aY<|F k r.aY 0|||2^H) e j=(bt k e j||(decide (r.aY=e)&&decide (H=j))):=λe j=>by
     unfold bt;refine W (gL C) ?_
     by_cases q:r.aY=e
     .exact W (aJ q)<|W (xw ..)<|W q<|W R7<|W (eV Y) (r' ..)
     .exact W (aS q)<|W (gn q)<|W (KV ..)<|W (SR ..) Y
    refine dV (W mX<|x V) (λf m=>aP (Cg m) ((x J1) f) λI=>I▸oL (ju (x J1) _) (FN (ao Y) L)) (λo p Z n d b B=>?_) λe j q=>?_
    .refine W (N ..) ?_;rcases i4.mp p with z|z
     .exact W ((x J2) o z Z n d b B) Y
     .rw [z,v] at b;cases b;rw [I] at B;cases B;exact W (eV Y)<|W (eV Y)<|Ak _
    .rw [N] at q;rcases kv.mp q with q|q
     .exact(x J3) e j q
     .exact dK ((wB ..).mp q) λm L=>⟨r,t,aO v,ao m,ao L▸I⟩
   exact uC g 0 Y C λs g=>y _ () s M g
  .have N (I:r.aQ=[]):Rw G (l+1) k:=by
    refine dV (x V) (x J1) (λo p Z n d b B=>?_)<|x J3;rcases i4.mp p with z|z
    .exact(x J2) o z Z n d b B
    .rw [z,v] at b;obtain rfl:=aC b;rw [I] at B;exact AV B
   exact y k () s (N<|Hi<|vy.mp<|du▸q) g
 .intro k _ s x g;exact agw (g.lt 0 Y) (W (x V) a.nS) (x J1) λT C=>d3 g 1 Y Y (bl Y) λs g=>(bf ⟨Y,EL g 1 Y<|h T<|(by
   refine eY (af (C V)<|x V) (C J1) (λr H t v I=>?_) (C J4) (λe j q=>aA ((C J3) e j q) λc M q=>gw ((x J3) c j q) λr t v I f=>⟨r,t,v,I▸M,f⟩) λe j q=>?_
   .exact bp (gs.mp v) λo p=>(C J2) _ _ ((x J2) o (gl p) r H t p I)
   .have m:=(C J5) e j q;clear q;exact m.rec (λI=> .single<|(x J3) _ _ I) λX I L=> .tail L<|(x J3) _ _ I)⟩)
def bH(G:Gr)(a:O):=er (G.hX[a]?) λr=>er (G.a9[r]?) λb=>er (G.o9[r]?) λo=>b.aQ[a-o]?
def At.bH(b:At G c r d o a):bH G c=a.aQ[d]?:=by show(er (G.hX[c]?) λr=>er (G.a9[r]?) λa=>er (G.o9[r]?) λo=>a.aQ[c-o]?)=_;exact W (b V)<|((W (b J3)<|W (b J1)<|W (b J2)<|aq _ (uh ..)):(er (G.a9[r]?) λa=>er (G.o9[r]?) λo=>a.aQ[c-o]?)=_)
def Va(G)(a):=∃r d o b,At G a r d o b
def Pm(v:Va G a)(d:∀s,bH G a=J s->b (ag (s:O)) c)(e:bH G a=A->b (ag<| -1) c):aK (n+1) 362 [G.V,ag a] c b f:=by
 refine hK v λr g o h j=>ahF j<|ax j.bH ?_;cases k:bH G a with
 |some s=>exact d s k|none=>exact e k
def Fg(G)(T)(a:aa O)(b):=∃c∈a,∃s,bH G c=J s/\(b=s\/bt T s b=Q)
def Wt(G)(T)(a)(m):=e7 (m<2^64)<|∀b,eJ m b=Q↔Fg G T a b
def acS:Wt G T [] 0:=cp (tP 64) λb=>⟨λz=>ay z<|W (vj ..) hz,λa=>aA a λj c Z=>bG c⟩
def afZ(d:e5)(c:qy G T)(e:∀a∈b,Va G a)(f:∀a∈b,∀s,bH G a=J s->s<G.nS)(h:∀m,Wt G T b m->g (ag (m:O)) j):aK (n+2) 359 [Bl G T,aR<|iV b] j g k:=by
 refine a6 Nf (.c 64 _ (.c 163 _ ar)) Y Y<|cb Y<|cv d8 (λX m X=> .c 64 _ (.c 163 _ (.c 47 (ag (m:O)) ar))) (λX X X=>bO) (λk m X=>Wt G T (aF k b) m) 0 () de acS (λX X X X X=>rfl) ?_ ?_
 .intro k a m _ s l o p q r;have t:=aO o;have v:aF (k+1) b=aF k b++[a]:=by simp only [nM,o];rfl
  rw [v] at r;refine Pm (e a t) (λy e=>?_) λe=>?_
  .refine xo (λX=>?_) λx=>ay x<|fC _;have z:=f a t y e;have B:y<64:=cc z<|ae d.nS<|ao Y;refine⟨⟨Y,cj _,ak hn<|e8 B<|ao Y⟩,⟨cj _,cj _⟩,?_⟩;have C:Wt G T ((aF k b)++[a]) (m|||2^(cK ↑y)|||F T (cK ↑y) 0):=by
    refine cp (oL (oL (p V)<|FN (ao Y) B)<|ju (c J1)<|cK ↑y) λb=>W (xw ..)<|W (xw ..)<|W R7 ?_;rw [kv,kv,p J1]
    constructor
    .rintro ((⟨j,H,I⟩|x)|x)
     .exact⟨j,gI _ H,I⟩
     .exact⟨a,fy _ (hf),cK ↑y,e,aL (ao x).symm⟩
     .exact⟨a,fy _ hf,cK ↑y,e,aw x⟩
    .rintro ⟨j,H,L,M,I⟩
     rcases ma H with H|H
     .exact aL<|aL ⟨j,H,L,M,I⟩
     .rw [ms H,e] at M;exact W (aC M)<|aP I (λN=>aL<|aw<|eV N.symm) aw
   exact Hg (W (c V) z) ⟨⟨cj _,cj _⟩,r _ () s C q⟩
  .exact Ji (λx=>ay x<|ao Y) λX=>r m () s ((by
    refine cp (p V) λb=>jP ((p J1) b) ⟨λZ=>aA Z λj H I=>⟨j,gI _ H,I⟩,λh=>aA h λj H h=>aA h λL M I=>?_⟩;rcases ma H with H|H
    .exact⟨j,H,L,M,I⟩
    .rw [ms H,e] at M;exact aI M)) q
 .intro m _ s p q;rw [dI] at p;exact m8 q<|h m p
noncomputable def xQ(x:O):aa O->aa O
|[]=>[x]|y::r=>if x<=y then x::y::r else y::xQ x r
def LY:xQ x (y::r)=if x<=y then x::y::r else y::xQ x r:=Y
noncomputable def eu:aa O->aa O
|[]=>[]|x::r=>xQ x<|eu r
def Wn(x)(a):(xQ x a).Perm (x::a):=by
 refine a.rec (.refl _) λy r b=>W LY ?_;split
 .exact .refl _
 .exact(b.cons y).trans (.swap ..)
def sG(a):(eu a).Perm a:=a.rec (.refl _) λx r b=>(Wn x _).trans<|b.cons x
set_option tactic.hygienic true in
def afo(x)(a)(h:m5 (·<=·) a):m5 (·<=·) (xQ x a):=by
 induction a with
 |nil=>exact lI (λ_ h=>bG h) ip|cons y r b=>
  have c:=rV.mp h;refine W LY ?_;split
  .rename_i q;exact lI (λz d=>aP (mc d) (λe=>e▸q) λd=>ae q<|c.1 z d) h
  .rename_i q;refine lI (λz d=>?_)<|b c.2;rcases mc ((Wn x r).mem_iff.mp d) with e|d
   .exact W e<|Nat.le_of_not_le q
   .exact c.1 z d
def q_(a):m5 (·<=·) (eu a):=a.rec ip λx r b=>afo x _ b
def iq:x∈eu a↔x∈a:=(sG a).mem_iff
def Bz:U (eu a)=U a:=(sG a).length_eq
def akA(x:O)(a):tI x (a.map λ(k:O)=>(k:au))=(xQ x a).map λ(k:O)=>(k:au):=by
 refine a.rec Y λy r b=>W LY ?_;show(if(x:au)<=y then _ else _::tI x _)=_;refine W b ?_
 by_cases q:x<=y
 .exact W (aJ q)<|W (aJ<|ak jg q) Y
 .exact W (aS q)<|W (aS λz=>q<|jg.mp z) Y
def vI(h:Fr e b f)(g:Cj b v=J (iV a))(l:U a<64)(j:∀c d,Fr e d (f.cB c<|az<|iV<|eu a)->k (aj c) d):Ff v b k:=by
 refine W TF ?_;unfold Oz;refine W g (?_:bE (oi<|iV a) _);have m (n:aa O):oi (iV n)=J (n.map λ(k:O)=>(k:au)):=n.rec Y λx r o=>((aq _ o):b7 _ (oi<|iV r)=_);refine W (m ..)<|⟨W (bB ..) l,?_⟩;have p (n:aa O):Eb (n.map λ(k:O)=>(k:au))=(eu n).map λ(k:O)=>(k:au):=by refine n.rec Y λx r o=>(?_:tI x _=_);exact W o<|akA x _
 rw [p,jC];exact aV h j
def Qk(h:Fr f b c)(k)(e:c.at k=J (d,az a)):Cj b (aj d)=J a:=by show(match eR b _ with|some a=>J a|none=>_)=_;exact W (h.lt k e) Y
def F4{d:Type}{g}{x}{c:aa d}(k:∀a,gz (g a)=Q)(e:∀a b,g a=g b->a=b)(f:b=Q↔x∈c):nr (g x) (R g c)=J b:=by unfold nr;exact W (aJ ⟨k x,λy h=>by obtain⟨a,_,rfl⟩:=mm h;exact k a⟩)<|aq J<|ak p1<|jP (@decide_eq_true_iff _ (nV _))<|jP ⟨λh=>aA (mm h) λa m j=>ax (e _ _ j) m,λh=>hM h⟩ f.symm
def NH{x:O}(a):nr (ag x) (iV a)=J (b6 a x):=
F4 (g:=λk:O=>ag k) (λZ=>rfl) (λa b e=>by injection e with e;exact eI e) gv
def ajN{a:bc->Prop}(e:b=aR (iV c)\/b=aN (iV c))(d:a<|b6 c x):mW (ag x) b f a:=by
 refine W q8 ?_;rcases e with rfl|rfl
 .show bE _ a;exact W (NH ..) d
 .show bE _ a;exact W (NH ..) d
def d4(h:a≠b):aE a b=false:=by
 cases q:aE a b with
 |false=>rfl|true=>exact ay (eb q) h
def aiw(c):∀{k r},r∈jX s k c↔∃a b,r=k+a/\c[a]?=J b/\b.aY=s:=by
 refine @(c.rec ⟨bG,λd=>gw d λa b Z h Z=>aI h⟩ λx t e=>?_);intro k r;have f:(∃a b,r=k+a/\(x::t)[a]?=J b/\b.aY=s)↔(r=k/\x.aY=s)\/∃a b,r=k+1+a/\t[a]?=J b/\b.aY=s:=by
  constructor
  .rintro ⟨a,b,g,h,q⟩
   induction a with
   |zero=>refine W (aC h) ?_;exact aL ⟨g,q⟩|succ a=>exact aw ⟨a,b,W g<|W (cA ..)<|W (eT 1 a) Y,h,q⟩
  .rintro (⟨g,q⟩|⟨a,b,g,h,q⟩)
   .exact⟨0,x,g,Y,q⟩
   .exact⟨a+1,b,W g<|W (cA ..)<|aq _ (eT 1 a),h,q⟩
 rw [f,<-e];show r∈(aD _ _ _:aa O)↔_;cases q:aE x.aY s with
 |true=>exact jP qV<|or_congr ⟨λg=>br g<|eb q,λg=>g.1⟩ Fl|false=>exact⟨aw,λz=>aP z (λg=>ay q<|W g.2<|W (fJ ..) bU) id⟩
def u0:r∈G.jY s↔∃a,G.a9[r]?=J a/\a.aY=s:=by refine jP (aiw G.a9) ⟨λb=>ht b λc a e h=>?_,λd=>bp d λa h=>⟨r,a,a5<|eF r,h⟩⟩;rw [eF] at e;exact cM a<|e▸h
def Zs(a)(h:bw b):∀k,U (b.flatMap λs=>jX s k a)<=U a:=by
 refine a.rec (λk=>c6<|aq U<|ak List.flatMap_eq_nil_iff λZ Z=>rfl) λx t c=>λk=>?_;have d:∀e:aa O,U (e.flatMap λs=>jX s k<|x::t)=U (e.flatMap λs=>jX s (k+1) t)+tE x.aY e:=by
  refineλe=>e.rec Y λy r c=>?_
  simp only [R2,R2,a4,a4,c,L?];show U (aD _ _ _:aa O)+_=_;have e:aE x.aY y=(y==x.aY):=by
   by_cases q:y=x.aY
   .rw [q,jT];exact fJ _
   .exact W (x4 q)<|d4<|me q
  refine W e ?_;cases y==x.aY with
  |true=>refine W (aJ Y) ?_;refine(?_:_+1+_=_);rw [jN,<-cA,<-cA]|false=>rw [aS hz,Zy,<-cA];rfl
 exact W (d ..)<|d2 (c _)<|List.nodup_iff_count.mp h x.aY
def jG(G:Gr)(a b:aa O):=(R (F G.o9 · 0) b).filter λx=> !b6 a x
def l!(a):∀k,U (uX k a)=U a:=a.rec (λk=>rfl) λr t b k=>aq _ (b _)
def T?(h:bw a):U (jG G b<|wJ G.jY a)<=U G.a9:=
ae (Al ..) (W (bB ..)<|Zs G.a9 h 0)
def b_:jG G a (b++c)=jG G a b++jG G a c:=by unfold jG;simp only [dq,F5]
def Ο(d:e5)(e:qy G T)(g:∀c∈b,Va G c)(f:∀c∈b,∀s,bH G c=J s->s<G.nS)
 (h:∀a m,Wt G T b m->LH a m->bw a->j (aN<|iV<|eu<|jG G b<|wJ G.jY a) k):aK (n+3) 347 [Bl G T,aR<|iV b] k j l:=by
 refine a6 Sv (.c 64 _ (.c 163 _ ar)) Y Y<|aV de λo s p=>afZ d e g f λm q=>F1 (q V) λa r t v=>cb Y ?_;have x:∀k y,U y<=U ((aF k a).flatMap G.jY)->U (jG G b y)<=1000:=λk y z=>ae (Al ..) (W (bB ..)<|ae z<|ae (Zs G.a9 (SM (Ri ..) t) 0)<|ae d.oV<|ao Y)
 refine cv d8 (λX (_ _:ki)=> .c 64 _ (.c 163 _ _)) (λk X X=> .c o (az<|iV<|jG G b<|(aF k a).flatMap G.jY) bO) (λX X X=>bh) () () p a3 (λX X X X X=>rfl) ?_ ?_
 .intro k y _ _ s B C _ p H;have I:(aF (k+1) a).flatMap G.jY=(aF k a).flatMap G.jY++G.jY y:=by simp only [nM,C,WC];exact aq _ (dw _)
  have L:y<G.nS:=by
   refine aA (((q J1) y).mp<|(r y).mp<|aO C) λc M N=>aA N λs Z z=>?_;rcases z with rfl|z
   .exact f c M y Z
   .exact gw ((e J4) s y z) λT j n X Z=>(d.lt T n).2 y (Z▸b8 ..)
  have l:=x<|k+1;rw [I] at l H;refine V1 L<|cb Y<|cv d8 (λX (_ _:ki)=> .c 64 _ _) (λj X X=> .c o (az<|iV<|jG G b<|(aF k a).flatMap G.jY++aF j (G.jY y)) bO) (λX X X=>bh) () () (by simp only [List.take_zero,dw];exact p) a3 (λX X X X X=>rfl) ?_ ?_
  .refineλj T X X s B n X p H=>aA (u0.mp<|aO n) λg v X=>?_
   refine Lg (e6 (a:=G.o9) (d:=0)<|W (l! .. :U G.o9=_)<|gl v) ?_;have C:=H () () s a3;rw [nM,n,<-dy,b_] at C;refine ajN (aL Y)<|jh<|ef (λz=>?_) λz=>?_
   .rw [show jG G b (xa<|J T)=[] from S?<|W z hz,dw] at C;exact C p
   .refine cH p 0 Y<|rh p 0 Y (l _ ?_) λs p=>?_
    .simp only [a4,a4];exact d5 (lA ..) _
    .have C:=H () () s a3;rw [nM,n,<-dy,b_] at C;rw [show jG G b (xa<|J T)=[F G.o9 T 0] from TO<|aq _ z] at C;exact C p
  .intro _ _ s _ p;rw [dI] at p;exact H () () s a3 p
 .intro _ _ s _ p;rw [dI] at p;exact vI p (Qk p 0 Y) (cF (T? t)<|cF d.oV<|ao Y) λb s p=>jb p 1 Y<|h a m q r t
noncomputable def nd(g:a->ai)(b:aa<|O×a):=b.map λp=>(ag p.1,g p.2)
noncomputable def cL{a:Type}(b:aa<|O×a)(s:O):ba a:=jd A (λp Z c=>aD (aE p.1 s) (J p.2) c) b
noncomputable def ot{a:Type}(b:aa<|O×a)(s:O)(v:a):aa (O×a):=jd [(s,v)] (λp r c=>aD (aE p.1 s) ((s,v)::r)<|p::c) b
def yb{a b:O}:(ag a=ag b)↔a=b:=⟨λh=>eI<|by injection h,λh=>h▸Y⟩
open Classical in
def r3{a:aa<|O×b}{s:O}:dU (nd g a) (ag s)=b7 g (cL a s):=by
 refine a.rec Y λp r c=>(?_:(if ag p.1=ag s then J (g p.2) else dU (nd g r) _)=b7 g (aD _ _ (cL r s)))
 by_cases q:p.1=s
 .exact W (aJ<|ak yb q)<|W q<|W (fJ ..) Y
 .exact W (aS λz=>q<|yb.mp z)<|W (d4 q)<|W c Y
open Classical in
def Zl{s:O}{v:b}:eW (nd g a) (ag s) (g v)=nd g (ot a s v):=by
 refine a.rec Y λp r c=>(?_:(if ag p.1=ag s then(ag p.1,g v)::nd g r else(ag p.1,g p.2)::eW (nd g r) _ (g v))=nd g (aD _ _ (p::ot r s v)))
 by_cases q:p.1=s
 .exact W (aJ<|ak yb q)<|W q<|W (fJ ..) Y
 .exact W (aS λz=>q<|yb.mp z)<|W (d4 q)<|W c Y
def pX{a:Type}{g}{b:aa<|O×a}:il (nd g b) (ag s):=⟨Y,λe c=>by obtain⟨p,_,rfl⟩:=mm c;rfl⟩
def x8{a:aa<|O×b}:R (·.1) (nd g a)=iV (R (·.1) a):=by unfold nd iV;simp only [jC,jC];rfl
def c_{a:aa<|O×b}:U (nd g a)=U a:=bB _
def lF{a:aa<|O×b}:cL a s=A↔s∉R (·.1) a:=by
 refine a.rec ⟨λZ h=>bG h,λZ=>rfl⟩ λp r c=>(?_:aD _ _ (cL r s)=A↔s∉p.1::R (·.1) r);rw [qV,not_or]
 by_cases q:p.1=s
 .exact W q<|W (fJ ..)<|⟨iG,λh=>ay Y h.1⟩
 .exact W (d4 q)<|⟨λh=>⟨me q,c.mp h⟩,λh=>ak c h.2⟩
def s3{v:b}(h:cL a s=A):ot a s v=a++[(s,v)]:=by
 induction a with
 |nil=>rfl|cons p r c=>have d:=lF.mp h;have q:p.1≠s:=λz=>d (z▸b8 ..);refine(?_:aD _ _ _=p::(r++[(s,v)]));simp only [d4 q,<-c (ak lF λz=>d<|cy _ z)];rfl
def I?{v:b}(h:cL a s=A):cL (a++[(s,v)]) s=J v:=by
 induction a with
 |nil=>refine(?_:aD _ _ _=_);exact W (fJ ..) Y|cons p r c=>have d:=lF.mp h;have q:p.1≠s:=λz=>d (z▸b8 ..);refine(?_:aD _ _ _=_);exact W (d4 q)<|c<|ak lF λz=>d<|cy _ z
def El{v:b}(h:cL a s=J v):∃j:O,a[j]?=J (s,v):=by
 induction a with
 |nil=>exact aI h|cons p r c=>
  have h:aD _ _ (cL r s)=J v:=h
  by_cases q:p.1=s
  .rw [q,fJ] at h;exact ax (aC h)<|⟨0,by refine ax q ?_;rfl⟩
  .rw [d4 q] at h;exact bp (c h) λj d=>⟨j+1,d⟩
def acs(a:At G b r e o f)(h:c (ag (b+1:O)) d):aK (n+2) 318 [G.V,ag b] d c g:=by refine a6 OR (.c 201 G.V<| .c 36 _ ar) Y Y<|Rr (a V)<|ajR a<|Lg (a J1) ?_;rw [a J2] at h;exact bf h
def fG(G)(a:aa O)(s):=R (·+1)<|a.filter λb=>bH G b==J s
def R9:fG G (b++[a]) s=fG G b s++aD (bH G a==J s) [a+1] []:=by
 unfold fG;simp only [F5,dq];cases q:bH G a==J s with
 |true=>exact aq (λx=>_++R _ x)<|TO (p:=λa=>bH G a==J s) q|false=>exact aq (λx=>_++R _ x)<|S? (p:=λa=>bH G a==J s) λz=>bU<|af q.symm z
def iI(K):=aR<|iV K
def Kb(G)(b:aa O)(a:aa<|O×O):=e7 (bw<|R (·.1) a)<|∀s,s∈R (·.1) a↔∃c∈b,bH G c=J s
def Dx(G:Gr)(d e:O)(b:aa O)(a:aa<|O×O):Cs:= .c d (dC (nd aj a) e)<|hA (R (·.2) a)<|a.map λp=>fG G b p.1
def Kb.old{a}{b s}(h:Kb G a c)(e:bH G b=J s)(m:s∈R (·.1) c):Kb G (a++[b]) c:=
cp (h V) λt=>jP ((h J1) t) ⟨λd=>aA d λj f x=>⟨j,gI _ f,x⟩,λg=>aA g λj f x=>aP (ma f) (λf=>⟨j,f,x⟩) λf=>by rw [ms f,e] at x;refine ax (aC x) ?_;exact((h J1) s).mp m⟩
def Kb.add(h:Kb G c a)(e:bH G b=J s)(m:s∉R (·.1) a):Kb G (c++[b]) (a++[(s,d)]):=by
 refine cp ?_ λt=>?_
 .exact W dq<|ak n5 ⟨h V,lI (λZ h=>bG h) ip,λa f g j z=>m<|(af z (ms j):a=s)▸f⟩
 .refine W dq ?_;rw [pL,(h J1) t]
  constructor
  .rintro (⟨k,l,x⟩|j)
   .exact⟨k,gI _ l,x⟩
   .exact W (ms j)<|⟨b,fy _ hf,e⟩
  .rintro ⟨k,l,x⟩
   rcases ma l with l|l
   .exact aL ⟨k,l,x⟩
   .rw [ms l,e] at x;exact W (aC x)<|aw hf
def Ŝ{a:aa<|O×O}(h:∀s∈R (·.1) a,bH G b≠J s):(a.map λp=>fG G (c++[b]) p.1)=a.map λp=>fG G c p.1:=
K1 λp d=>W R9<|W (x4<|h p.1<|hM d)<|dw _
def ye(h:bw a){b j:O}(c:a[b]?=J x)(d:a[j]?=J x):b=j:=by obtain⟨a,p⟩:=kq.mp c;obtain⟨b,q⟩:=kq.mp d;exact(zQ h).mp<|af p q.symm
def Z1(h:Fr e a c)(k)(q:c.at k=J (b,dC d f)):Cj a (aj b)=J (R (·.1) d):=by show(match mV (a b) with|some g=>J g|none=>(b7 NX<|l2<|a b).map _)=_;exact W (h.c9 q) Y
def Tu(h:Fr g b e)(k){c:aa<|O×j}{a:bc->Prop}(q:e.at k=J (d,dC (nd l c) m))(f:a<|d7<|cL c s):mW (ag s) (aj d) b a:=by refine W q8 ((W (h.c9 q)<|⟨pX,?_⟩):inR _ a (b d));simp only [r3,Z'];exact f
def Ah(h:Fr l a c)(k){b:aa<|O×m}(q:c.at k=J (d,dC (nd g b) n))(e:cL b s=J v)(f:j (g v) a):ko (aj d) (ag s) a j:=
ZG h k q pX (by simp only [r3,e];rfl) f
def y0(h:Fr f j a)(k)(g)(v:p)(q:a.at k=J (l,dC (nd g b) e))(m:n=g v)(o:U b<=1000)
 (c:∀e d,Fr f d (a.g9 k<|dC (nd g<|ot b s v) e)->K d):qe (aj l) (ag s) n j K:=by
 rw [<-Zl] at c;exact W m<|vb h k q pX (W c_<|cg o) c
def qs(h:bw a)(l:∀x∈a,x<m):U a<=m:=by have b:=Rb h λx c=>ak tQ<|l x c;rw [fi] at b;exact b
def kbV(G)(a b):=g0<|nd iI<|(eu b).map λs=>(s,eu<|fG G a s)
def Vs:U (fG G a s)<=U a:=W (bB ..) (Al ..)
def aal(f:e5)(g:∀b∈a,Va G b)(h:∀b∈a,∀s,bH G b=J s->s<G.nS)(l:U a<64)
 (Ã:∀d,bw d->(∀s,s∈d↔∃b∈a,bH G b=J s)->e (kbV G a d) c):aK (n+3) 316 [G.V,aN<|iV a] c e k:=by
 refine a6 NP (.c 201 G.V<| .c 102 _ ar) Y Y<|m7 de λd m s o=>cb Y<|cv d8 (λX X X=> .c 201 G.V<| .c 102 _ _) (λk p m=>Dx G d m (aF k a) p) (λk p X=>Kb G (aF k a) p) [] m o (cp ip λs=>⟨bG,λq=>aA q λr t X=>bG t⟩) (λX X X X X=>rfl) ?_ ?_
 .intro k b p m s v x y o z;have B:=aO x;have C:aF (k+1) a=aF k a++[b]:=by exact W nM<|W x Y
  rw [C] at z;refine hK (g b B) λH I L M À=>?_;have Å:∀p (Z r q m:O) s,bw (R (·.1) p)->bH G b=J Z->p[r]?=J (Z,q)->Kb G (aF k a++[b]) p->Fr c s (Dx G d m (aF k a) p)->
   c1 (aK<|n+2) (λX=>bX) (fH (uD<|hL h9 (hC k6 (d9 94)<|d9 183)<| .call 318<|j1 (d9 201)<|j1 (d9 36) ta) ck)
    (.c 201 G.V<| .c 102 (aN<|iV a)<| .c 94 (aj d)<| .c 36 (ag b)<| .c 183 (ag Z) ar) s (λl c=>c1 (aK<|n+2) (λX=>bX) (fH (.del [36,183]) ck) l c v (ei e) v) (ei e) v:=by
   intro p Z r q m s nd C t H o;have I:(R (·.2) p)[r]?=J q:=by refine W (cf)<|W t ?_;rfl
   have L:(p.map λM=>fG G (aF k a) M.1)[r]?=J (fG G (aF k a) Z):=by refine W (cf)<|W t ?_;rfl
   have Â:cL p Z=J q:=by
    cases n:cL p Z with
    |none=>exact ay (hM<|aO t)<|lF.mp n|some N=>refine bp (El n) λÁ e=>?_;have j:=ye nd (by refine W (cf)<|W t ?_;rfl) (by refine W (cf)<|W e ?_;rfl);rw [j,e] at t;cases t;rfl
   refine Ah o 0 Y Â<|cH o (r+1) (pg I L)<|acs À<|rh o (r+1) (pg I L) (ae Vs<|ae (lA ..)<|ae (bT l)<|ao Y) λs o=>z p m s H ?_;unfold Dx;have Ä:(p.map λM=>fG G ((aF k a)++[b]) M.1)=c5 (p.map λM=>fG G (aF k a) M.1) r (fG G (aF k a) Z++[b+1]):=by
    refine Em λe=>W (Aj)<|W (cf)<|W (bB ..) ?_
    by_cases n:r=e
    .refine W (aJ n)<|ax n<|W t<|W (aJ<|gl t) ?_;show J (fG G _ Z)=_;exact W R9<|W C<|W (jT ..) Y
    .refine W (aS n)<|W (cf) ?_;cases H:p[e]? with
     |none=>rfl|some M=>refine((W R9 ?_):J (fG G _ M.1)=J _);rw [x4];exact W (rfl:aD u [b+1] []=[])<|aq _ (dw ..);intro e;rw [C] at e;exact n<|ye nd (by refine W (cf)<|W t ?_;rfl)<|W (cf)<|W H e.symm
   exact W Ä<|ax Gq o
  refine Pm (g b B) (λZ C=>?_) λC=>?_
  .refine xo (λX=>Tu o 0 Y<|jh<|ef (λn=>?_) λn=>?_) λn=>ay n<|fC _
   .exact bp (vH.mp n) λq I=>bp (El I) λr t=>Å p Z r q m s (y V) C t (y.old C<|hM<|aO t) o
   .have n:=V0.mp λH=>bU<|af n.symm H;have g:=lF.mp n;refine aV o λq s o=>y0 o 0 aj q Y Y ?_ λm s o=>?_
    .have j:=qs (y V) λB e=>aA (((y J1) B).mp e) λr t T=>h r (BW t) B T;rw [bB] at j;exact ae j<|ae f.nS<|by decide
    .rw [s3 n] at o;refine Å _ Z (U p) q m s ((y.add C g) V) C (by refine W (h8<|bb _)<|W (ql ..) ?_;rfl) (y.add C g) ?_;have j:fG G (aF k a) Z=[]:=aq _ (ak Zh λr t H=>g<|ak ((y J1) Z) ⟨r,t,eq_of_beq H⟩);unfold Dx;exact W dq<|W dq<|((W j<|ax (BM<|by rw [bB,bB]) o):Fr c s<| .c d _ (hA _ ((p.map λM=>fG G _ M.1)++[fG G _ Z])))
  .exact Ji (λn=>ay n<|ao Y) λX=>z p m s (cp (y V) λs=>jP ((y J1) s) ⟨λc=>aA c λr t T=>⟨r,gI _ t,T⟩,λd=>aA d λr t T=>aP (ma t) (λt=>⟨r,t,T⟩) λt=>by
  rw [ms t,C] at T;exact aI T⟩) (by unfold Dx;exact W (Ŝ λs X H=>aI<|af C.symm H) o)
 .intro p m s y o;rw [dI] at y o;have g:=ae (qs (y V) λB e=>aA (((y J1) B).mp e) λr t T=>h r t B T) f.nS;refine m7 o λj m s o=>?_;have o:=o.bN;refine vI o (by rw [Z1 o 1 Y,x8]) (cF g<|ao Y) λc s o=>cb (o.bN.lt 0 Y) ?_;refine cv d8 (λX X X=> .c 94 _ (.c 211 _ ar)) (λk m X=> .c c _ (.c j (dC (nd iI<|((eu<|R (·.1) p).take k).map λs=>(s,eu<|fG G a s)) m) _))
   (λX X X=>bh) m () o.bN a3 (λX X X s o=>o.lt 0 Y) ?_ ?_
  .intro k Z m _ s v C _ o z;have d:=iq.mp<|aO C;refine aA (mm d) λM f h=>?_;obtain⟨q,I⟩:∃q,cL p Z=some q:=by
    cases n:cL p Z with
    |none=>exact ay d<|lF.mp n|some N=>exact cM N rfl
   refine bp (El I) λr t=>?_;have T:(R (·.2) p)[r]?=J q:=by rw [cf,t];rfl
   have L:(p.map λM=>fG G a M.1)[r]?=J (fG G a Z):=by rw [cf,t];rfl
   refine Ah o 2 Y I<|vI o (Qk o (r+3)<|pg T L) (cF Vs l) λc s o=>hF o.bN ?_;have o:=o.bN.tl;have v:U (aF k<|eu _)<=12:=ae (lA ..)<|W Bz g;refine y0 o 1 iI _ Y Y (by rw [bB];exact ae v<|by decide) λm s o=>z m () s a3 ?_;rw [nM,C,dq];rw [s3] at o
   .exact o
   .refine ak lF λH=>?_;rw [jC] at H;refine aA (mm H) λB e j=>?_;have j:B=Z:=j;refine bp (gs.mp e) λb x=>?_;have f:=gl x;rw [dS] at f;rw [g6,aJ<|cc f<|mq _ _,j] at x;exact fI (cc f<|mq _ _)<|ye (ak (uQ<|sG _)<|y V) x C
  .exactλm X s X o=>Kr (dI▸o) 1 Y<|Ã _ (y V) (y J1)
def cr(G)(a):=aD ((bH G a).isNone&& !(aE (F G.hX a 0) 0)) [F G.hX a 0] []
def w3(G)(a:aa O):=eu<|wJ (cr G) a
def ZP(a):U (wJ (cr G) a)<=U a:=by
 refine a.rec (bb 0) λx r b=>?_;rw [R2,a4,hS,eT];refine d2 b ?_;unfold cr;cases(bH G x).isNone&& !(aE (F G.hX x 0) 0) with
 |true=>exact bb 1|false=>exact cQ 1
def θ(c:∀a∈b,Va G a)(l:U b<64)(h:d (aN<|iV<|w3 G b) e):aK (n+2) 313 [G.V,aN<|iV b] e d f:=by
 refine a6 Nd (.c 201 G.V<| .c 102 (aN<|iV b) ar) Y Y<|aV de λg s j=>cb Y<|cv d8 (λZ (_ _:ki)=> .c 201 G.V<| .c 102 (aN<|iV b)<| .c 94 (aj g) ar) (λk Z Z=> .c g (az<|iV<|(aF k b).flatMap<|cr G) bO) (λZ Z Z=>bh) () () j a3 (λZ Z Z Z Z=>rfl) ?_ ?_
 .intro k a _ _ s m o _ j p;have q:=λr=>p () () r a3;rw [nM,o,WC,show wJ (cr G) (xa<|J a)=cr G a from dw _] at q;refine hK (c a<|aO o) λr d o t v=>?_;have x:F G.hX a 0=r:=by refine W (cY)<|W (v V) ?_;rfl
  refine Pm ⟨r,d,o,t,v⟩ (λy z=>?_) λz=>?_
  .rw [show cr G a=[] by unfold cr;refine W z ?_;rfl,dw] at q;exact h0 (a:=y) (b:=0) (λB=>ay B<|fC y) λZ=>h0 (a:=y) (b:=0) (λB=>ay B<|fC y) λZ=>q s j
  .refine g5 (λZ=>Rr (v V)<|yY (a:=r) (b:=0) (λB=>?_) λB=>?_) λB=>ay B<|ao Y
   .rw [show cr G a=[r] by unfold cr;refine W z<|W x<|W (d4 B) ?_;rfl] at q;exact cH j 0 Y<|Rr (v V)<|rh (m:=r) j 0 Y (ae (ZP _)<|ae (lA ..)<|ae (bT l)<|ao Y) q
   .rw [show cr G a=[] by unfold cr;refine W z<|W x<|W B ?_;rfl,dw] at q;exact q s j
 .intro _ _ s _ j;rw [dI] at j;exact vI j (Qk j 0 Y) (cF (ZP _) l) λb s j=>jb j 1 Y h
def rF(G)(a b:aa O):=eu a++eu (jG G a<|wJ G.jY b)
def adJ(d:e5)(e:qy G T)(f:∀c∈a,Va G c)(g:∀c∈a,∀s,bH G c=J s->s<G.nS)(l:U a<64)
 (h:∀b m,Wt G T a m->LH b m->bw b->j (aN<|iV<|rF G a b) k):aK (n+4) 348 [Bl G T,aR<|iV a] k j o:=by
 refine a6 N6 (.c 64 (Bl G T)<| .c 163 (aR<|iV a) ar) Y Y<|vI de Y l λp s q=>Ο d e f g λb m r t nd=>hF q ⟨?_,?_⟩
 .simp only [du,du,Bz,Bz];exact bT<|cg<|ae (d2 (bT l)<|ae (T? nd) d.oV)<|ao Y
 .exact aV q λv s q=>jb q 1 Y<|W (show iV (eu a)++iV (eu<|jG G a<|wJ G.jY b)=iV (rF G a b) from a5 (dq ..))<|h b m r t nd
structure SC where
p:O
m:O
e:O
sym:au
b5:aa O
vi:ai
vr:ai
mv:aa<|O×O
noncomputable def nI(k:O):=ag k
def SC.i(x:SC)(k:O):=cw 192<| .c 168 (ag k)<| .c 163 (iI x.b5)<| .c 183 (ag x.sym)<| .c 102 x.vi<| .c 110 (aj x.m)<| .c 277 x.vr ar
def SC.d(x:SC):=dC (nd nI x.mv) x.e
def uZ(a:aa SC):O->Cs:=jd (λZ=>bO) (λx Z b k=> .c x.p (x.i k)<| .c x.m x.d<|b<|k+1) a
def k7(a:aa SC):O->aa (ai×ai):=jd (λZ=>[]) (λx Z b k=>(iI x.b5,ag k)::b (k+1)) a
def ak2:∀{j k} {x},a[j]?=J x->(uZ a k).at (2*j)=J (x.p,x.i<|k+j):=by
 refine @(a.rec (λh=>aI h) λy r b=>?_);intro j k x h
 induction j with
 |zero=>exact W (aC h) Y|succ j=>exact ax (cA ..)<|W (jN ..)<|b h
def age:∀{j k} {x},a[j]?=J x->(uZ a k).at (2*j+1)=J (x.m,x.d):=by
 refine @(a.rec (λh=>aI h) λy r b=>?_);intro j k x h
 induction j with
 |zero=>exact W (aC h) Y|succ j=>exact b h
def aca:∀{j k} {x y},a[j]?=J x->y.p=x.p->y.m=x.m->y.d=x.d->(uZ a k).g9 (2*j) (y.i<|k+j)=uZ (c5 a j y) k:=by
 refine @(a.rec (λh=>aI h) λz r b=>?_);intro j k x y h c d e
 induction j with
 |zero=>obtain rfl:=aC h;refine(?_:Cs.c z.p (y.i k) _=Cs.c y.p _ _);simp only [c,d,e]|succ j=>exact ax (cA ..)<|W (jN ..)<|aq (λf=>Cs.c z.p _ (.c z.m z.d f))<|b h c d e
def aic:∀{j k} {x y},a[j]?=J x->y.p=x.p->y.m=x.m->(∀k,y.i k=x.i k)->(uZ a k).g9 (2*j+1) y.d=uZ (c5 a j y) k:=by
 refine @(a.rec (λh=>aI h) λz r b=>?_);intro j k x y h c d e
 induction j with
 |zero=>obtain rfl:=aC h;refine(?_:Cs.c z.p _ (.c z.m y.d _)=Cs.c y.p _ _);simp only [c,d,e]|succ j=>exact aq (λf=>Cs.c z.p _ (.c z.m z.d f))<|b h c d e
def ad0:∀{k},((uZ a k).cB x.p<|x.i<|k+U a).cB x.m x.d=uZ (a++[x]) k:=by refine @(a.rec Y λy r b=>?_);intro k;exact W hS<|ax (cA ..)<|W (jN ..)<|aq (λc=>Cs.c y.p _ _) b
def XD(h:iI K=iI L):K=L:=by
 have h:iV K=iV L:=by injection h
 exact(Qr λa b e=>yb.mp e).mp h
def LN:∀k,il (k7 a k) (iI K):=by
 refineλk=>⟨(by refine ak gT λv b=>?_;obtain⟨k,_,rfl⟩:=mm b;rfl),?_⟩
 induction a generalizing k with
 |nil=>intro e h;cases h|cons x r c=>
  intro e h;rcases mc h with h|h
  .exact W h Y
  .exact c _ e h
open Classical in
def ad6:∀k,(dU (k7 a k) (iI K)=A/\K∉R (·.b5) a)\/∃j x,a[j]?=J x/\x.b5=K/\dU (k7 a k) (iI K)=J (ag (k+j:O)):=by
 refine a.rec (λk=>aL ⟨Y,bG⟩) λx r b=>λk=>?_;have e:dU (k7 (x::r) k) _=if iI x.b5=iI K then J (ag k) else dU (k7 r _) _:=Y
 by_cases q:x.b5=K
 .exact aw ⟨0,x,Y,q,by refine W e<|W (aJ<|by rw [q]) ?_;rfl⟩
 .rw [e,aS λz=>q<|XD z];rcases b _ with h|⟨j,y,c,d,h⟩
  .exact aL ⟨h.1,λz=>aP (qV.mp z) (λz=>q z.symm) h.2⟩
  .exact aw ⟨j+1,y,c,d,by rw [h,cA,eT 1 j]⟩
open Classical in
def Xo:∀k,x.b5∉R (·.b5) a->eW (k7 a k) (iI x.b5) (ag (k+U a:O))=k7 (a++[x]) k:=by
 refine a.rec (λk Z=>rfl) λy r b=>λk h=>?_;have e:eW (k7 (y::r) k) _ (ag (k+U (y::r):O))=if iI y.b5=iI x.b5 then _::k7 r _ else _::eW (k7 r _) _ _:=Y
 exact W e<|W (aS λz=>h<|ak qV<|aL (XD z).symm)<|W hS<|ax (cA ..)<|W (jN ..)<|W (b _ λz=>h<|cy _ z) Y
def aiJ:∀k,U (k7 a k)=U a:=a.rec (λk=>rfl) λx r b k=>aq _ (b _)
open Classical in
def ajg:dU (eW a k v) k=J v:=by
 refine a.rec (by refine(?_:_=_);exact aJ Y) λe r b=>?_;refine(?_:dU (if e.1=k then _::r else e::eW r k v) k=_)
 by_cases q:e.1=k
 .exact W (aJ q) ((aJ q):_=_)
 .exact W (aS q) ((W (aS q) b):(if e.1=k then _ else dU _ k)=_)
def M9(h:Fr j a e)(k)(q:e.at k=J (b,dC c l))(f:il c d)(g:K<|d7<|dU c d):mW d (aj b) a K:=by exact W q8 ((W (h.c9 q)<|⟨f,g⟩):inR _ K (a b))
noncomputable def tb(a:aa SC):=a.map λx=>aj x.p
structure BA where
b:O
s:O
d:O
def BA.o(a:BA)(G)(T):=cw 188<| .c 201 G.V<| .c 153 (Bl G T)<| .c 181 (aj a.s)<| .c 209 (aj a.d) ar
def jl(G:Gr)(T:aa O)(a:BA)(e:O)(b:aa SC):Cs:= .c a.b (a.o G T)<| .c a.s (az<|tb b)<| .c a.d (dC (k7 b 0) e)<|uZ b 0
def ab8(a:Fr c d e)(h:∀x:SC,x.b5=K->x.sym=y->x.mv=[]->∀b,Fr c b ((e.cB x.p<|x.i k).cB x.m x.d)->f (aj x.p) b):aK (n+2) 192 [ag k,iI K,ag y] d f g:=by refine jL Y Y λj l=>?_;have a:=(a.hO (o:=cw 192 ar) l).bN;refine a6 KO (.c 64 _ (.c 168 _ (.c 163 _ (.c 183 _ ar)))) Y Y<|bP a Y λs a=>bP a Y λs a=>bP a Y λs a=>aV a λm s a=>?_;have a:=a.bN.tl;refine bP a Y λs a=>m7 a λo e s a=>?_;have a:=a.bN;refine d3 a 1 Y Y (bl Y) λs a=>aV a λr s a=>?_;have a:=a.bN.tl;exact d3 a 1 Y Y (bl Y) λs a=>bf ⟨Y,bf<|h ⟨j,o,e,y,K,aj m,aj r,[]⟩ Y Y Y s a.zZ⟩
def Num(a)(K)(y)(b)(j:O):=e7 (b=a\/(K∉R (·.b5) a/\∃x,b=a++[x]/\x.b5=K/\x.mv=[]/\x.sym=y))<|∃x:SC,b[j]?=J x/\x.b5=K
def z!(a:Fr h d<|jl G T f e b)(l:U b<2^20)(m:∀e c j k,Num b K y c j->Fr h k (jl G T f e c)->g (ag (j:O)) k):
 aK (n+3) 393 [aj f.b,iI K,ag y] d g o:=by
 refine a6 Ry (.c 64 _ (.c 163 _ (.c 183 _ ar))) Y Y ?_;have p:∀e c j s,dU (k7 c 0) (iI K)=J (ag (j:O))->Num b K y c j->Fr h s (jl G T f e c)->
  c1 (aK<|n+2) o (fH (v5<|hC k6 (fL (d9 64) 209)<|d9 163) ck) (.c 64 (aj f.b)<| .c 163 (iI K)<| .c 183 (ag y) ar) s (λZ d=>ei g bk d) (ei g) (λZ Z=>bX):=λe c j s g q a=>aM a 0 Y<|ZG a 2 Y (LN 0) g<|bf<|m e c j s q a
 refine aM a 0 Y<|M9 a 2 Y (LN 0) ?_;rcases ad6 0 with g|⟨j,x,r,t,g⟩
 .refine W g.1<|aM a 0 Y<|bW a 1 Y<|aM a 0 Y<|vb a 2 Y (LN 0) (W (aiJ ..)<|e8 l<|by decide) λe s a=>aM a 0 Y<|cH a 1 Y<|aM a 0 Y<|bW a 1 Y ?_;have v:U (tb b)=U b:=bB _;rw [v] at a;refine HI v<|ab8 a λx t z B s a=>dD a 1 Y (W v<|e8 l<|by decide) λs a=>p e _ (U b) s ?_ (cp (aw ⟨g.2,x,Y,t,B,z⟩) ⟨x,by refine W (h8<|bb _)<|W (ql ..) ?_;rfl,t⟩) ?_
  .exact ax (Xo 0<|by rw [t];exact g.2)<|W t<|W (eF ..) ajg
  .unfold jl;rw [<-Xo 0 (by rw [t];exact g.2),<-ad0,t,eF,show tb (b++[x])=tb b++[aj x.p] from dq];exact a
 .rw [g];rw [eF] at g;exact p e b j d g (cp (aL Y) ⟨x,r,t⟩) a
def al6(a):∀{k o r d} {b},a[r]?=J b->d<=U b.aQ->∃p,(uX o a)[r]?=J (o+p)/\(mF k a)[p+d]?=J (k+r):=by
 refine @(a.rec (λh=>aI h) λx t c=>?_);intro k o r d b h e;have f:mF k (x::t)=dJ _ k++mF _ t:=Y
 induction r with
 |zero=>obtain rfl:=aC h;refine⟨0,Y,W f<|W (eF ..)<|W (hh<|by rw [ig];exact ic e)<|W (uU)<|W (aJ<|ic e) ?_⟩;rfl|succ r=>
  refine aA (c (k:=k+1) (o:=o+(U x.aQ+1)) h e) λp g j=>⟨U x.aQ+1+p,?_,?_⟩
  .rw [<-cA];exact g
  .rw [f,h8 (by rw [ig,cA];exact dO ..),ig,cA,uh,j];exact aq J (by rw [cA,eT 1 r])
def c8(G:Gr)(r):=F G.o9 r 0
def gW(h:G.a9[r]?=J a)(b:d<=U a.aQ):At G (c8 G r+d) r d (c8 G r) a:=by
 refine aA (al6 G.a9 (k:=0) (o:=0) h b) λp c e=>?_;rw [eF] at c e;have f:c8 G r=p:=by unfold c8;refine W (cY)<|W (c:G.o9[r]?=J p) ?_;rfl
 exact W f<|ec e c Y h b
def At.c8(a:At G b r d o c):o=c8 G r:=by unfold Zq.c8;rw [cY,a J1];rfl
def At.uT(a:At G c r d o e)(b:At G c f g j h):r=f/\d=g/\e=h:=by have e:=aC<|af (a V).symm<|b V;obtain rfl:=e;obtain rfl:=aC<|af (a J1).symm<|b J1;exact⟨Y,PC<|af (a J2).symm<|b J2,aC<|af (a J3).symm<|b J3⟩
def Tn(h:G.a9[r]?=J c)(b:G.a9[a]?=J d)(e:c8 G r=c8 G a):r=a:=
((gW h<|cQ _).uT<|e▸gW b (cQ _)).1
def Va.sym(a:e5)(v:Va G b)(e:bH G b=J s):s<G.nS:=hK v λr d o c f=>(a.lt c<|aO<|f J3).2 s<|aO<|f.bH▸e
def Va.lt(a:e5)(v:Va G b):b<40:=by refine hK v λr d o c e=>cc (gl<|e V) ?_;have f:∀g k,(∀r∈g,U r.aQ<=3)->U (mF k g)<=U g*4:=λg=>g.rec (λk Z=>bb 0) λx t h=>λk j=>W a4<|W ig<|W hS<|W (r9 ..)<|W (eT ..)<|d2 (h _ λr l=>j r<|cy _ l)<|b2<|j x (b8 ..);exact ae (f G.a9 0 a.yx)<|ry 4 a.oV
def x?(c:e5)(nd:bw b)(d:∀a∈b,Va G a):U b<64:=
cF (qs nd λa e=>(d a e).lt c) (ao Y)
def aah(s)(a):∀k,m5 (·<·) (jX s k a)/\∀r∈jX s k a,k<=r:=by
 refine a.rec (λk=>br ip λZ h=>bG h) λx t b=>λk=>?_;have c:=b<|k+1;refine(?_:m5 _ (aD _ _ _:aa O)/\∀r∈(aD _ _ _:aa O),k<=r);cases aE x.aY s with
 |true=>exact⟨lI c.2 c.1,λr d=>aP (mc d) (λe=>c6 e.symm) λd=>uM<|c.2 r d⟩|false=>exact br c.1<|λr d=>uM<|c.2 r d
def Cw(G)(T K a):=e7 (bw a)<|∀b,b∈a↔Fg G T K b
def tW:b∈rF G K c↔b∈K\/∃r a,G.a9[r]?=J a/\a.aY∈c/\b=c8 G r:=by
 unfold rF jG;rw [pL,iq,iq,sJ,jD]
 constructor
 .rintro (h|⟨⟨r,d,e⟩,_⟩)
  .exact aL h
  .exact aA (yy.mp d) λs f d=>aA (u0.mp d) λa h q=>aw ⟨r,a,h,q▸f,a5 e⟩
 .rintro (h|⟨r,a,h,g,e⟩)
  .exact aL h
  .by_cases q:b∈K
   .exact aL q
   .exact aw ⟨⟨r,ak yy ⟨_,g,ak u0 ⟨a,h,Y⟩⟩,a5 e⟩,W (QD ..)<|W (gn q) Y⟩
def Q2(h:bw K)(k:bw a):bw (rF G K a):=by
 refine ak n5 ⟨ak (uQ<|sG _) h,ak (uQ<|sG _)<|RR _ ?_,λb c d e f=>?_⟩
 .refine ak Ju ?_;have g:bw (wJ G.jY a):=by refine ak XJ ⟨λs Z=>(aah s G.a9 0).1.imp fI,k.imp λ{s t} q x j y l f=>aA (u0.mp j) λm n o=>aA (u0.mp l) λp r v=>?_⟩;rw [f,r] at n;obtain rfl:=aC n;exact q<|af o.symm v
  exact QF (λ{x y} j l q f=>aA (yy.mp j) λs Z j=>aA (yy.mp l) λt Z l=>aA (u0.mp j) λm n Z=>aA (u0.mp l) λp o Z=>q<|Tn n o f) g
 .have e:=(sJ.mp<|iq.mp e).2;rw [<-f,QD,eV<|iq.mp c] at e;exact bU e
def Dh(h:∀a∈K,Va G a):∀a∈rF G K b,Va G a:=λa c=>aP (tW.mp c) (h a) λd=>gw d λr e f Z e=>⟨_,_,_,_,e▸gW f (cQ _)⟩
def w7:x∈fG G b s↔∃a∈b,bH G a=J s/\x=a+1:=by unfold fG;rw [jD];exact⟨λc=>aA c λa h e=>⟨a,(sJ.mp h).1,eq_of_beq (sJ.mp h).2,a5 e⟩,λd=>hv d λa h q e=>⟨a,ak sJ ⟨h,ak ru q⟩,a5 e⟩⟩
def Œ(h:∀a∈b,Va G a):∀a∈fG G b s,Va G a:=λx c=>hv (w7.mp c) λa d e q=>W q<|(by refine hK (h a d) λr d o f a=>?_;rw [a.bH] at e;have g:=gW (a J3) (d:=d+1)<|gl e;rw [<-a.c8,<-cA,<-(a J2)] at g;exact⟨_,_,_,_,g⟩)
def aei{a b:aa O}(c:m5 (·<=·) a)(d:bw a)(e:m5 (·<=·) b)(f:bw b)(h:∀x,x∈a↔x∈b):a=b:=ajC (λa b Z Z=>hJ) c e<|ak (List.perm_ext_iff_of_nodup d f) h
structure GX(G:Gr):Prop extends GW G where
acc:∀o∈G.a9,G.nT∉o.aQ
st:G.nT<G.iU
l3:G.nS<=G.nT+4
SJ:(G.a9.tail.map λo=>U o.aQ-1).sum<=15
e0:∀z o,G.a9[z+1]?=J o->0∉o.aQ
t6:G.nT<=6
r0:G.a9[0]?=J ⟨G.nT,[G.iU,0],0⟩
rs:∀z o,G.a9[z+1]?=J o->o.aY≠G.nT
inductive Gt(G:Gr)(T a d:aa O):Prop
|mk (b:aa O) (s:O) (e:Cw G T a b) (f:d=eu (fG G (rF G a b) s)) (c:O) (g:c∈rF G a b) (h:bH G c=J s)
def lQ(G)(T)(a):=hW (bw a) (a[0]?=J [0]) (∀b∈a,b=[0]\/∃c∈a,Gt G T c b)<|∀b∈a,bw b/\∀d∈b,Va G d
def lQ.add(h:lQ G T a)(n:K∉a)(m:b∈a)(g:Gt G T b K):lQ G T (a++[K]):=by
 refine dV (ak n5 ⟨h V,lI (λZ h=>bG h) ip,λa c d e f=>n<|(ms e▸f)▸c⟩) ?_ (λL j=>?_) λL j=>?_
 .exact W (hh<|gl<|h J1)<|h J1
 .rcases ma j with j|j
  .exact((h J2) L j).imp id λk=>aA k λM l q=>⟨M,gI _ l,q⟩
  .exact W (ms j)<|aw ⟨b,gI _ m,g⟩
 .rcases ma j with j|j
  .exact(h J3) L j
  .refine W (ms j) ?_;obtain⟨o,s,c,f,p,r,a⟩:=g;have o:=(h J3) b m;exact W f<|⟨ak (uQ<|sG _)<|ak Ju<|(RR _ (Q2 o.1<|c V)).imp λq f=>q<|fZ f,λp r=>Œ (Dh o.2) p<|iq.mp r⟩
def dt(G)(a):=a-c8 G (F G.hX a 0)
def At.dt(a:At G b r d o c):dt G b=d:=by unfold Zq.dt;rw [show F G.hX b 0=r by rw [cY,a V];rfl,<-a.c8,a J2];exact uh ..
noncomputable def qH(p:O->bc)(L:aa O):Nat:=jd 0 (λx Z a=>2*a+aD (p x) 1 0) L
def K3:qH p (x::L)=2*qH p L+aD (p x) 1 0:=Y
def WY:2*a+0≠2*b+1:=by lia
def ar3(a:n<=l)(b:l<s)(c:l≠n)(d:s<=n+4):l-(n+1)<3/\n+1+(l-(n+1))=l:=
 have k:=xJ a c.symm
 ⟨Nat.sub_lt_left_of_lt_add k<|jN n 1 3▸cc b d,zD k⟩
def ZO(h:2*a+c=2*b+c):a=b:=by lia
def Js(L):qH p L<2^U L:=by refine L.rec EI λx r a=>?_;have b {c:O} {d:O} {m:O} (h:d<=1) (k:c<m):2*c+d<m*2:=Nat.mul_comm 2 m▸cc (so (ic h) _) (ky 2 k);exact b (by cases(p x)<;>decide) a
def Xl(h:qH p L=qH q L):∀x∈L,p x=q x:=by
 induction L with
 |nil=>exactλZ h=>bG h|cons y r a=>
  rw [K3,K3] at h;have b:p y=q y/\qH p r=qH q r:=by
   cases c:p y<;>cases d:q y<;>rw [c,d] at h
   .exact br rfl<|ZO h
   .exact ay h WY
   .exact ay h.symm WY
   .exact⟨Y,ZO h⟩
  exactλx e=>aP (mc e) (λe=>e▸b.1)<|a b.2 x
def HQ(G:Gr)(a:aa Ru):O->aa Nat:=jd (λZ=>[]) (λr Z b k=>R (c8 G k+2+·) (e1<|U r.aQ-1)++b (k+1)) a
def bg(G):=HQ G G.a9.tail 1
def J?(a):∀k,U (HQ G a k)=(a.map λr=>U r.aQ-1).sum:=by refine a.rec (λk=>rfl) λr t b=>λk=>(?_:U (R _ (e1 _)++HQ G t _)=_);simp only [a4,bB,fi,b];rfl
def acj(a):∀{k r d} {b},a[r]?=J b->d+2<=U b.aQ->c8 G (k+r)+(d+2)∈HQ G a k:=by
 refine @(a.rec (λh=>aI h) λx t c=>?_);intro k r d b h e
 induction r with
 |zero=>exact W (aC h)<|gI _ (ak jD ⟨d,ak tQ<|Nat.lt_sub_of_add_lt e,by rw [cA,eT 2 d];rfl⟩)|succ r=>have f:=c (k:=k+1) h e;rw [cA,eT 1 r] at f;exact fy _ f
noncomputable def BB(G:Gr):=R (G.nT+1+·)<|e1 3
def B0(G)(a:aa O)(b)(c:O->bc):=oj (b<12) (∀x∈a,2<=dt G x\/∃r d,G.a9[r]?=J d/\c d.aY=Q/\d.aQ[0]?=J b/\x=c8 G r+1) (∀r d,G.a9[r]?=J d->c d.aY=Q->d.aQ[0]?=J b->c8 G r+1∈a) (∀e,c e=Q->e≠G.nT) (∀x∈a,∃f,x=f+1/\bH G f=J b)<|∀x∈a,2<=dt G x->F G.hX x 0≠0
def D5(G)(K):=fR (m5 (·<=·) K) (bw K)<|∀a∈K,Va G a
noncomputable def c3(d p a):=if d=0 then 262146+(p*12+a) else 2+(d*8+p)
def Qq(a:p<8)(b:d<32768):2+(d*8+p)<262146:=so (cc (so a _)<|r9 d 8▸ry 8 b) 2
def l'(a:p<8)(b:c<12)(d:e<32768):c3 e p c<262242:=by
 unfold c3;split
 .exact so (cc (so b _)<|r9 p 12▸ry 12 a) _
 .exact cc (Qq a d)<|bl Y
def tw(G)(K):=qH (b6 K)<|bg G
inductive Cd(G:Gr)(T:aa O)(a:aa O):O->Prop
|z (h:a=[0]):Cd G T a 0|o (h:∀x,x∈a↔x=1\/∃r b,G.a9[r]?=J b/\Fg G T [0] b.aY/\b.aQ[0]?=J G.iU/\x=c8 G r+1):Cd G T a 1|e (h:∀x,x∈a↔x=2):Cd G T a 262242|t (c:O) (d:O->bc) (h:B0 G a c d):Cd G T a<|c3 (tw G a) (qH d<|BB G) c
def Vt(d p a):2<=c3 d p a:=by unfold c3;split<;>exact Nat.le_add_right_of_le<|bl Y
def uG{a:aa O}:b6 a x=Q↔x∈a:=by refine W (QD ..) ?_;rw [mx]
abbrev fm:=GX G
def B0.sub(g:fm)(a:D5 G K)(h:B0 G K b c)(k:B0 G L d e)(f:∀x∈bg G,b6 K x=b6 L x)(j:∀x∈BB G,c x=e x)(l:b=d):∀x∈K,x∈L:=by
 intro x m;rcases(h J1) x m with q|⟨r,n,o,p,s,e⟩
 .have t (v:Va G x) (y:F G.hX x 0≠0):x∈bg G:=by refine hK v λr d z n B=>?_;rw [show F G.hX x 0=r by refine W (cY)<|W (B V) ?_;rfl] at y;obtain⟨r,rfl⟩:=Sy y;rw [B.dt] at q;obtain⟨e,rfl⟩:=Nat.exists_eq_add_of_le q;have C:=acj G.a9.tail (k:=1) (W (List.getElem?_tail)<|B J3)<|W (eT ..)<|B J4;rw [eT 1 r,<-B.c8,eT e 2,<-(B J2)] at C;exact C
  exact uG.mp<|af (f x<|t ((a J2) x m)<|(h J5) x m q).symm<|ak uG m
 .refine W e<|(k J2) r n o (af (j n.aY ?_).symm p)<|l▸s;have l:=(g.lt n<|aO o).1;have C:=ar3 l.1 l.2 ((h J3) _ p) g.l3;exact ak jD ⟨n.aY-_,ak tQ C.1,C.2⟩
def aj1(b:p<8)(c:a<12)(e:d<32768)(h:c3 d p a=0\/c3 d p a=1\/c3 d p a=262242):False:=by
 rcases h with h|h|h
 .exact ay (h▸Vt d p a)<|ao Y
 .exact ay (h▸Vt d p a) (by decide)
 .exact ay (h▸l' b c e)<|ao Y
def Cd.inj(g:fm)(a:D5 G K)(b:D5 G L)(h:Cd G T K c)(k:Cd G T L c):K=L:=by
 have d:=λf=>Js (p:=f)<|BB G;have j:∀M,tw G M<32768:=λM=>cc (Js<|bg G)<|CS (ao Y) (show U (bg G)<=15 by unfold bg;exact W (J? ..) g.SJ);have l:=λ{M m f} (h:B0 G M m f)=>aj1 (d f) (h V)<|j M;refine aei (a V) (a J1) (b V) (b J1) λx=>?_
 induction h with
 |z h=>
  generalize e:0=c at k
  induction k with
  |z k=>rw [h,k]|o k=>cases e|e k=>cases e|t m f k=>exact b4<|l k<|aL e.symm
 |o h=>
  generalize e:1=c at k
  induction k with
  |z k=>cases e|o k=>exact jP (h x) (k x).symm|e k=>cases e|t m f k=>exact b4<|l k<|aw<|aL e.symm
 |e h=>
  generalize e:262242=c at k
  induction k with
  |z k=>cases e|o k=>cases e|e k=>exact jP (h x) (k x).symm|t m f k=>exact b4<|l k<|aw<|aw e.symm
 |t m f h=>
  generalize e:c3 _ _ m=c at k
  induction k with
  |z k=>exact b4<|l h<|aL e|o k=>exact b4<|l h<|aw<|aL e|e k=>exact b4<|l h<|aw<|aw e|t n q k=>
   have r:(tw G K)=(tw G L)/\(Zq.qH f<|Zq.BB G)=(Zq.qH q<|Zq.BB G)/\((tw G K)=0->m=n):=by
    unfold c3 at e
    by_cases z:(tw G K)=0
    .rw [aJ z] at e
     by_cases y:(tw G L)=0
     .rw [aJ y] at e;have s:=Iw (h V) (k V)<|PC e;exact⟨af z y.symm,s.1,λX=>s.2⟩
     .rw [aS y] at e;exact ay (e▸Qq (d q) (j L))<|ak fS (dO ..)
    .rw [aS z] at e
     by_cases y:(tw G L)=0
     .rw [aJ y] at e;exact ay (e▸Qq (d f) (j K))<|ak fS (dO ..)
     .rw [aS y] at e;have s:=Iw (d f) (d q)<|PC e;exact⟨s.1,s.2,λq=>ay q z⟩
   refine Ai r λv B C=>?_;have H:=Xl v;have I:=Xl B;have N:m=n:=by
    by_cases z:tw G K=0
    .exact C z
    .have Z {p:O->bc} {L:aa O} (h:qH p L≠0):∃x∈L,p x=true:=by
      induction L with
      |nil=>exact ay Y h|cons y r T=>
       cases q:p y with
       |true=>exact⟨y,b8 ..,q⟩|false=>rw [K3,q] at h;exact aA (T λz=>h<|aq _ z) λx M e=>⟨x,cy _ M,e⟩
     refine aA (Z z) λy c q=>aA ((h J4) y<|uG.mp q) λl d f=>aA ((k J4) y<|uG.mp<|af (H y c).symm q) λj s v=>?_;rw [fZ<|af d.symm s,v] at f;exact a5<|aC f
   exact⟨h.sub g a k H I N x,k.sub g b h (λy c=>a5<|H y c) (λy c=>a5<|I y c) N.symm x⟩
def Fg.nt(g:fm)(c:qy G T)(v:∀a∈K,Va G a)(h:Fg G T K b):b≠G.nT:=by
 refine aA h λa d z=>aA z λs e q=>?_;intro z;rcases q with q|q
 .exact hK (v a d) λr d o f a=>g.acc f (aO<|a J3)<|z▸q▸aO (a.bH▸e)
 .exact gw ((c J4) s b q) λr t j Z e=>g.acc r j<|W e<|W z (b8 ..)
def u6(g:fm):At G 0 0 0 0 ⟨G.nT,[G.iU,0],0⟩:=by
 have a:=gW g.r0<|cQ _;have e:c8 G 0=0:=by
  have h:=g.r0;unfold c8 Gr.o9;cases e:G.a9 with
  |nil=>rw [e] at h;cases h|cons x t=>rfl
 rw [e] at a;exact a
open Classical in
def s_{d:Type}(b:d->O->Prop){a}(nd:bw a)(h:∀x∈a,∃c,c<N/\b x c)(e:∀x∈a,∀y∈a,∀c,b x c->b y c->x=y):U a<=N:=by
 let f:d->Nat:=λx=>if q:∃c,c<N/\b x c then q.choose else 0
 have g:∀x∈a,f x<N/\b x (f x):=λx j=>by show(dite _ _ _:O)<N/\b x (dite _ _ _);exact W (dif_pos _)<|BX<|h x j
 have k:bw (R f a):=ak Ju<|QF (λ{x y} j l q m=>q<|e x j y l (f x) (g x j).2<|m▸(g y l).2) nd;have n:=qs k λc o=>by obtain⟨x,j,rfl⟩:=jD.mp o;exact(g x j).1
 rw [bB] at n;exact n
def lQ.j'(h:lQ G T a)(m:K∈a):D5 G K:=by
 have b (c:m5 (·<=·) K):D5 G K:=bZ c ((h J3) K m).1<|((h J3) K m).2;refine b ?_;rcases(h J2) K m with e|⟨d,_,f,s,g,e,_,_,_⟩
 .exact W e<|lI (λZ h=>bG h) ip
 .exact W e<|q_ _
def lQ.Ec(g:fm)(Ç:qy G T)(h:lQ G T a):U a<=262243:=by
 refine s_ (Cd G T) (h V) (λb m=>?_) λb m L e Ç Â q=>Â.inj g (h.j' m) (h.j' e) q;rcases(h J2) b m with f|⟨j,e,q⟩
 .exact⟨0,ao Y, .z f⟩
 .have À (l:∀n∈j,Va G n) (d:j=[0]\/∀n∈j,1<=dt G n) (h:Gt G T j b):∃o,o<262243/\Cd G T b o:=by
   have Á:∀M,tw G M<32768:=λM=>cc (Js<|bg G)<|CS (ao Y) (show U (bg G)<=15 by unfold bg;rw [J?];exact g.SJ);obtain⟨s,t,v,f,n,x,a⟩:=h;have y:=Dh (b:=s) l;have z:=cc ((y n x).sym g.toGW a) g.nS;have B:∀C,C∈b↔∃n,(n∈j\/∃H I,G.a9[H]?=J I/\I.aY∈s/\n=c8 G H)/\bH G n=J t/\C=n+1:=λC=>by refine W f ?_;rw [iq,w7];exact Uh λn=>and_congr_left λX=>tW
   have N:∀H I,G.a9[H]?=J I->(bH G (c8 G H)=J t↔I.aQ[0]?=J t):=λH I Z=>by rw [show bH G (c8 G H)=I.aQ[0]? from (gW Z<|cQ _).bH]
   have Ã:∀m,Va G m->bH G m=J t->F G.hX _ 0=0->2<=dt G _->m=1/\t=0:=λm M q k r=>hK M λH d M I p=>by rw [p.bH] at q;have L:=gW (p J3) (d:=d+1)<|gl q;rw [<-p.c8,<-cA,<-(p J2)] at L;rw [show F G.hX _ 0=H by refine W (cY)<|W (L V) ?_;rfl] at k;rw [L.dt] at r;subst k;obtain rfl:=aC<|af (p J3).symm g.r0;obtain rfl:=aC<|af ((u6 g) J1).symm<|p J1;have L:=jR (a:=λd=>2<=d+1->d=1/\t=0) q (λX h=>ay h<|by decide) (λf X=>br rfl f.symm) r;exact br (af (p J2)<|af (eF _) L.1) L.2
   have L:t≠0->(∀n∈j,bH G n=J t->1<=dt G n)->∃o,o<262243/\Cd G T b o:=λT Å=>by
    refine⟨_,rM<|l' ((λÄ=>Js (p:=Ä)<|BB G) _) z<|Á b, .t t (b6 s)<|eY z (λC o=>?_) (λH I Z Æ c=>?_) (λÈ É=>?_) (λC o=>?_) λC o r k=>?_⟩
    .obtain⟨n,h,q,rfl⟩:=(B C).mp o;rcases h with h|⟨H,I,Z,b,rfl⟩
     .refine hK (l n h) λH d M I p=>?_;have z:=Å n h q;rw [p.dt] at z;rw [p.bH] at q;have:=gW (p J3) (d:=d+1)<|gl q;rw [<-p.c8,<-cA,<-(p J2)] at this;exact aL<|W this.dt<|b2 z
     .exact aw ⟨H,I,Z,ak uG b,(N H I Z).mp q,Y⟩
    .exact ak (B _) ⟨_,aw ⟨H,I,Z,uG.mp Æ,Y⟩,ak (N H I Z) c,Y⟩
    .exact(((v J1) È).mp<|uG.mp É).nt g Ç l
    .exact hv ((B C).mp o) λn X q f=>⟨n,f,q⟩
    .rw [f,iq,w7] at o;obtain⟨m,l,q,rfl⟩:=o;exact T (Ã m (y m l) q k r).2
   by_cases T:t=0
   .have z:∀m,Va G m->bH G m=J t->m=1:=λm k q=>hK k λH d M I p=>by
     rw [p.bH,T] at q
     induction H with
     |succ H=>exact ay (aO q)<|g.e0 H I<|p J3|zero=>obtain rfl:=aC<|af (p J3).symm g.r0;obtain rfl:=aC<|af ((u6 g) J1).symm<|p J1;exact af (p J2)<|af (eF _)<|jR (a:=(·=1)) q (λf=>ay (f▸g.st:G.nT<0)<|fC _) λX=>rfl
    refine⟨262242,ao Y, .e λC=>?_⟩;rw [f,iq,w7];exact⟨λr=>hv r λm l q k=>by rw [k,z m (y m l) q],λk=>⟨n,x,a,by rw [k,z n (y n x) a]⟩⟩
   have L:=L T;rcases d with rfl|d
   .have a:=(u6 g).bH
    by_cases q:t=G.iU
    .refine⟨1,ao Y, .o λC=>jP (B C) ⟨?_,?_⟩⟩
     .rintro ⟨n,h|⟨H,I,Z,b,rfl⟩,y,rfl⟩
      .exact W (ms h)<|aL Y
      .exact aw ⟨H,I,Z,((v J1) _).mp b,q▸(N H I Z).mp y,Y⟩
     .rintro (rfl|⟨H,I,Z,b,c,rfl⟩)
      .exact⟨0,aL hf,q▸a,Y⟩
      .exact⟨_,aw ⟨H,I,Z,ak ((v J1) _) b,Y⟩,ak (N H I Z)<|q▸c,Y⟩
    .refine L λn x f=>?_;rw [ms x,a] at f;exact ay (aC f).symm q
   .exact L λn x X=>d n x
  exact À ((h J3) j e).2 ((by refine((h J2) j e).imp id λq C o=>aA q λm T q=>?_;obtain⟨s,t,v,f,_,_,_⟩:=q;rw [f] at o;obtain⟨n,x,q,rfl⟩:=w7.mp<|iq.mp o;refine hK (Dh ((h J3) m T).2 n x) λH d M I p=>?_;rw [p.bH] at q;have:=gW (p J3) (d:=d+1)<|gl q;rw [<-p.c8,<-cA,<-(p J2)] at this;exact W this.dt<|b2<|cQ d)) q
def lQ.len(g:fm)(c:qy G T)(h:lQ G T a):U a<2^20:=cF (h.Ec g c)<|ao Y
def LM(c:K (qU b<|g0 a)<|R (·.1) a):w9 (g0 a) b K:=W Ke λG Z g=>g c
def Mv:qU b (g0 a) c=J (R (·.1) a):=aJ Y
noncomputable def SC.wi(x:SC)(v:ai):SC:=⟨x.p,x.m,x.e,x.sym,x.b5,v,x.vr,x.mv⟩
noncomputable def SC.wr(x:SC)(v:ai):SC:=⟨x.p,x.m,x.e,x.sym,x.b5,x.vi,v,x.mv⟩
noncomputable def SC.wm(x:SC)(a:O)(b:aa<|O×O):SC:=⟨x.p,x.m,a,x.sym,x.b5,x.vi,x.vr,b⟩
section
set_option tactic.hygienic true
def V4(h:a[j]?=J x)(e:y.p=x.p):tb (c5 a j y)=tb a:=by
 unfold tb;refine W Fc<|W e<|Em λk=>W (Aj)<|W (cf) ?_;split
 .rename_i q;exact ax q<|W h<|W (bB ..)<|W (aJ<|gl h) Y
 .rfl
def He{a:aa SC}(h:a[j]?=J x)(e:y.b5=x.b5):R (·.b5) (c5 a j y)=R (·.b5) a:=by
 refine W Fc<|W e<|Em λk=>W (Aj)<|W (cf) ?_;split
 .rename_i q;exact ax q<|W h<|W (bB ..)<|W (aJ<|gl h) Y
 .rfl
end
def Ł:∀{a} {k},R (·.b5) b=R (·.b5) a->k7 b k=k7 a k:=by
 induction b with
 |nil=>
  intro a k h
  induction a with
  |nil=>rfl|cons x r=>cases h
 |cons y s c=>
  intro a k h
  induction a with
  |nil=>cases h|cons x r=>have h:=hq h;refine(?_:_::k7 s _=_::k7 r _);exact W (c h.2)<|W (show y.b5=x.b5 from h.1) Y
def yD(h:a[j]?=J x):(jl G T b e a).at (2*j+3)=J (x.p,x.i j):=by have c:=ak2 (k:=0) h;rw [eF] at c;exact c
def Xv(h:a[j]?=J x):(jl G T b e a).at (2*j+1+3)=J (x.m,x.d):=age h
def Yd(h:a[j]?=J x)(b:y.p=x.p)(c:y.m=x.m)(d:y.d=x.d)(e:y.b5=x.b5):(jl G T f g a).g9 (2*j+3) (y.i j)=jl G T f g (c5 a j y):=by have k:=aca (k:=0) h b c d;rw [eF] at k;unfold jl;simp only [V4 h b,Ł<|He h e,<-k];rfl
def aej(h:a[j]?=J x)(b:y.p=x.p)(c:y.m=x.m)(d:∀k,y.i k=x.i k)(e:y.b5=x.b5):(jl G T f g a).g9 (2*j+1+3) y.d=jl G T f g (c5 a j y):=by unfold jl;simp only [V4 h b,Ł<|He h e,<-aic (k:=0) h b c d];rfl
def ψ:∀k:O,(R (·.1)<|nd iI<|(eu a).map λs=>(s,eu<|fG G b s))[k]?=((eu a)[k]?).map λ(s:O)=>ag s:=λk=>by refine W x8 ?_;unfold iV;simp only [cf,cf,cf];cases(eu a)[k]?<;>rfl
def Ep(G)(x:SC)(a b)(k)(c:aa SC)(y:SC):=uk (y.p=x.p) (y.m=x.m) (y.b5=x.b5) (y.vi=aN (iV a)) (y.vr=aN (iV<|w3 G a)) (R (·.1) y.mv=aF k (eu b))<|∀s t,(s,t)∈y.mv->∃z,c[t]?=J z/\z.b5=eu (fG G a s)
def Gw(a b:aa SC)(j):=fR (∀(c:O) d,a[c]?=J d->∃e,b[c]?=J e/\e.b5=d.b5) (∀c,c<U a->c≠j->b[c]?=a[c]?)<|∀c (z:SC),U a<=c->b[c]?=J z->z.mv=[]
def Es(G)(T)(b)(x)(j)(c d)(k)(a)(y):=hW (Gw b a j) (lQ G T<|R (·.b5) a) (a[j]?=J y)<|Ep G x c d k a y
def υ:Gw a a j:=bZ (λb a h=>⟨a,h,Y⟩) (λZ Z Z=>rfl) λb z h e=>ay (gl e)<|ak fS h
def Gw.len(h:Gw b a j):U b<=U a:=by refine j5 λq=>aA ((h V) (U a) _ (bM q)) λb c Z=>?_;exact ay (gl c)<|j7 _
def Gw.set(h:Gw a b j)(d:j<U a)(e:b[j]?=J y)(k:c.b5=y.b5):Gw a (c5 b j c) j:=by
 refine bZ (λf a g=>?_) (λf g l=>?_) λf z g m=>?_
 .refine aA ((h V) f a g) λb n q=>?_
  by_cases z:j=f
  .rw [<-z,e] at n;obtain rfl:=aC n;exact⟨c,ax z<|Fi<|gl e,af k q⟩
  .exact⟨b,W (H5 z) n,q⟩
 .exact W (H5 l.symm)<|(h J1) f g l
 .rw [H5<|fI<|cc d g] at m;exact(h J2) f z g m
def Es.next(h:Es G T d x j f g k b y)(m:j<U d)(n:bw g)(l:(eu g)[k]?=J s)(o:Gt G T x.b5<|eu<|fG G f s)(c:Num b (eu<|fG G f s) p a t):
 Es G T d x j f g (k+1) (c5 a j<|y.wm e<|ot y.mv s t) (y.wm e<|ot y.mv s t)/\a[j]?=J y:=by
 have q:x.b5∈R _ b:=ax ((h J3) J2)<|hM<|aO<|h J2;have r:a[j]?=J y:=by
  refine aP (c V) (λe=>?_) λz=>?_
  .exact W e<|h J2
  .refine dK z λX z=>aA z λz e X=>?_;exact W e<|W (hh<|gl<|h J2)<|h J2
 have v:Gw d a j:=by
  refine aP (c V) (λe=>?_) λz=>?_
  .exact W e<|h V
  .refine dK z λX z=>yV z λz e X B X=>?_;exact W e<|(by
    refine bZ (λC H I=>?_) (λC I L=>?_) λC M I N=>?_
    .exact aA ((h V) V C H I) λZ f g=>⟨Z,W (hh<|gl f) f,g⟩
    .exact W (hh<|cc I (h V).len)<|(h V) J1 C I L
    .rcases hZ C (U b) with g|g
     .rw [hh g] at N;exact(h V) J2 C M I N
     .rw [h8 g] at N;exact W (ms<|aO N) B)
 have k:lQ G T (R (·.b5) a):=by
  refine aP (c V) (λe=>?_) λz=>?_
  .exact W e<|h J1
  .refine dK z λp z=>yV z λz e g B X=>?_;simp only [e,dq];show lQ G T<|R _ b++[z.b5];exact W g<|(h J1).add p q o
 have x:∀C H,b[C]?=J H->a[C]?=J H:=λC H I=>by
  refine aP (c V) (λe=>?_) λz=>?_
  .exact W e I
  .refine dK z λX z=>aA z λz e X=>?_;exact W e<|W (hh<|gl I) I
 have d:s∉R (·.1) y.mv:=by refine W ((h J3) J5) λg=>bp (gs.mp g) λC I=>?_;have L:=gl I;rw [dS] at L;have L:=cc L<|mq _ _;rw [g6,aJ L] at I;exact fI L<|ye (ak (uQ<|sG _) n) I l
 have Z:∀C (z:SC),a[C]?=J z->∃M:SC,(c5 a j<|y.wm e<|ot y.mv s t)[C]?=J M/\M.b5=z.b5:=λC z f=>by
  by_cases g:j=C
  .rw [<-g,r] at f;exact ax (aC f) ⟨y.wm e _,ax g<|Fi<|gl r,Y⟩
  .exact⟨z,W (H5 g) f,Y⟩
 refine br (dV (v.set m r rfl) ?_ (Fi<|gl r)<|kb (h J3 V) (h J3 J1) (h J3 J2) (h J3 J3) (h J3 J4) ?_ λT o q=>?_) r
 .exact W (He (y:=y.wm e _) r Y) k
 .refine(?_:R (·.1) (ot y.mv s t)=_);simp only [s3<|ak lF d,dq,(h J3) J5,nM,l];rfl
 .rcases(by rw [s3<|ak lF d] at q;exact(ma q).imp id ms) with g|g
  .exact aA ((h J3) J6 T o g) λz f B=>aA (Z o z<|x o z f) λM N p=>⟨M,N,af p B⟩
  .cases g;exact aA (c J1) λz f B=>aA (Z t z f) λM N p=>⟨M,N,af p B⟩
def Ed(G)(T)(b:aa SC)(x:SC)(a):=oj (x.vi=aN (iV a)) (x.vr=aN (iV<|w3 G a)) (∃c,Cw G T x.b5 c/\a=rF G x.b5 c) (∀s,s∈R (·.1) x.mv↔∃d∈a,bH G d=J s) ((R (·.1) x.mv).Pairwise (·<·))<|∀s t,(s,t)∈x.mv->∃z,b[t]?=J z/\z.b5=eu (fG G a s)
def ſ(k:fm)(l:qy G T)(a:Fr m q<|jl G T g e f)(n:lQ G T<|R (·.b5) f)(c:f[j]?=J x)(o:x.mv=[])
 (h:∀e b y d p,Gw f b j->lQ G T (R (·.b5) b)->b[j]?=J y->Ed G T b y d->Fr m p (jl G T g e b)->r bk p):aK (s+5) 370 [aj g.b,aj x.p] q r t:=by
 have v:=k.toGW;have z:x.b5∈R _ f:=hM<|aO c;have B:=(n J3) _ z;have C:=gl c;refine a6 PJ (.c 64 _ (.c 130 _ ar)) Y Y<|aM a 0 Y<|aM a _ (yD c) (adJ v l B.2 (λH I s L=>(B.2 H I).sym v L) (x? v B.1 B.2) λM N Z p nd=>?_);have q:=cp nd λr=>jP (p r)<|(Z J1) r;generalize t:rF G x.b5 M=d;have z:=t▸Dh B.2;have N:=x? v (t▸Q2 B.1 nd) z;refine d3 a _ (yD c) Y (bl Y) λs a=>?_;have a:=Yd (y:=x.wi<|aN _) c Y Y Y Y▸a;have Z:=Fi (a:=x.wi<|aN<|iV d) C;refine aM a 0 Y<|aM a _ (yD (x:=x.wi<|aN _) Z) (θ z N<|d3 a _ (yD (x:=x.wi<|aN _) Z) Y (bl Y) λs a=>?_);have a:Fr m s (jl G T g e<|c5 f j _):=ax (List.set_set _)<|Yd (y:=(x.wi<|aN _).wr<|aN<|iV _) Z Y Y Y Y▸a;have Z:=Fi (a:=(x.wi<|aN<|iV d).wr<|aN<|iV<|w3 G d) C;refine aM a 0 Y<|aM a _ (yD (x:=(x.wi<|aN _).wr _) Z) (aal v z (λH I s L=>(z H I).sym v L) N λp r B=>LM ?_);refine cv ψ (λX X X=> .c 64 _ (.c 130 _ _)) (λX (e:O) b=>jl G T g e b) (λm X b=>∃y,Es G T f x j d p m b y) e _ a
  ⟨_,dV (υ.set C c Y) (W (He (y:=(x.wi<|aN _).wr _) c Y) n) Z (kb Y Y Y Y Y (aq _ o) λs L N=>by have N:=N;exact bG<|o▸N)⟩ (λX X X X X=>Mv) ?_ ?_
 .intro m y e b s g f j a c;have n:=aO f;refine aA ((B y).mp<|iq.mp n) λH I o=>?_;have Z:Gt G T x.b5 _:=⟨M,y,q,W t Y,H,W t I,o⟩;have m:U b<2^20:=by refine bp j λX j=>?_;have g:=(j J1).len k l;rw [bB] at g;exact g
  have T {k:Type} {l:O->k} {s:O} (k:aa O) (h:s∈k):cL (k.map λs=>(s,l s)) s=J (l s):=by
   induction k with
   |nil=>cases h|cons x k k=>
    refine(?_:aD (aE x s) (J<|l x) (cL _ s)=_)
    by_cases N:x=s
    .exact W N<|W (fJ ..) Y
    .exact W (d4 N)<|k<|aP (mc h) (λx=>ay x.symm N) id
  refine ej a<|tG Y pX (by refine W r3<|W (T _ n) ?_;rfl) ?_;refine z! a m λe l L s k a=>bp j λx j=>?_;have N:=λe=>j.next (e:=e) C r f Z k
  have lk:U x.mv<=1000:=by have n:=aq U<|(j J3) J5;rw [bB] at n;exact W n<|ae (lA ..)<|W Bz<|ae (qs r λL m=>aA ((B L).mp m) λH I o=>(z H I).sym v o)<|ae v.nS<|ao Y
  refine aM a _ ((j J3) V▸yD (N 0).2) ?_;exact y0 a _ nI L (Xv (N 0).2) Y lk λT s a=>c e _ s ⟨_,(N T).1⟩ (aej (y:=x.wm T _) (N 0).2 Y Y (λX=>rfl) Y▸a)
 .refineλe b s j a=>bp j λy j=>?_
  have l:=(j J3) J5;dsimp only [Ic] at l;rw [dI] at l;have C (h:bw p):m5 (·<·) (eu p):=by have g:=(q_ p).and<|ak (uQ<|sG p) h;exact g.imp λh=>xJ h.1 h.2
  refine bf<|h e b y d s (j V) (j J1) (j J2) (eY ((j J3) J3) ((j J3) J4) ⟨M,(j J3) J2▸q,W ((j J3) J2)<|W t Y⟩ (λs=>W l ?_) (l▸C r)<|(j J3) J6) a;rw [iq];exact B s
structure FS where
b5:aa O
sym:au
it:aa O
mv:aa (O×O)
rd:aa O
def Et(k:O)(f:FS):=od 192<| .c 168 (ag k)<| .c 163 (iI f.b5)<| .c 183 (ag f.sym)<| .c 102 (aN<|iV f.it)<| .c 110 (g0<|nd nI f.mv)<| .c 277 (aN<|iV f.rd) ar
def Ex(a:aa FS):O->aa ai:=jd (λZ=>[]) (λf Z b k=>Et k f::b (k+1)) a
def q9(G:Gr)(a):=od 244<| .c 201 G.V<| .c 181 (aN<|Ex a 0) ar
def dv(G)(T)(a:aa FS):=GR (qy G T) (∃f,a[0]?=J f/\f.b5=[0]) (U a<2^20) (U a<=262243) (∀f∈a,∃b,Cw G T f.b5 b/\f.it=rF G f.b5 b) (∀f∈a,f.rd=w3 G f.it) (∀f∈a,∀s,s∈R (·.1) f.mv↔∃c∈f.it,bH G c=J s) (∀f∈a,(R (·.1) f.mv).Pairwise (·<·)) (∀f∈a,∀s t,(s,t)∈f.mv->∃d,a[t]?=J d/\d.b5=eu (fG G f.it s))<|∀f∈a,bw f.b5/\∀c∈f.b5,Va G c
def Fz(x:SC)(f:FS):=j4 (f.b5=x.b5) (f.sym=x.sym) (x.vi=aN (iV f.it)) (f.mv=x.mv)<|x.vr=aN (iV f.rd)
def ahu{b:d->e->Prop}(h:∀x∈c,∃y,b x y):∃a,gA b c a:=by
 induction c with
 |nil=>exact cM ([]) nG|cons x r f=>exact bp (h x (b8 ..)) λy g=>bp (f λz j=>h z<|cy _ j) λa k=>⟨y::a,iy g k⟩
def gA.get{b:aa e}{c:aa f}(h:gA d b c):∀(a:O) x,b[a]?=J x->∃y,c[a]?=J y/\d x y:=by
 refine h.rec (λa x h=>aI h) λp Z g=>λa x h=>?_
 induction a with
 |zero=>refine ax (aC h) ?_;exact⟨_,Y,p⟩|succ a=>exact g a x h
def gA.get'{b:aa e}{c:aa f}(h:gA d b c):∀(a:O) y,c[a]?=J y->∃x,b[a]?=J x/\d x y:=by
 refine h.rec (λa x h=>aI h) λp Z g=>λa x h=>?_
 induction a with
 |zero=>refine ax (aC h) ?_;exact⟨_,Y,p⟩|succ a=>exact g a x h
def gA.len{a:aa c}{b:aa d}(h:gA e a b):U b=U a:=h.rec Y λZ Z f=>aq _ f
def gA.imp{a S:d->e->Prop}(h:gA a b c)(k:∀x y,a x y->S x y):gA S b c:=h.rec nG λp Z f=>iy (k _ _ p) f
def aeM(b:Fr e f c)(h:gA Fz d g):∀k,(∀j (x:SC),d[j]?=J x->(∃a,c.at a=J (x.p,x.i<|k+j))/\∃a,c.at a=J (x.m,x.d))->gA (kW (x3 e) f 2) (tb d) (Ex g k):=by
 induction h with
 |nil=>exactλZ Z=>nG|@cons x f r s p _ l=>
  intro k m;refine iy ?_ (l _ λj x n=>by have o:=m (j+1) x n;simp only [cA,eT 1 j];exact o)
  obtain⟨⟨a,q⟩,l,t⟩:=m 0 x Y;exact aw<|aw<|aw ⟨x.p,Y,b.e9 a q,aw<|aw ⟨_,_,_,b.c9 q,Y,⟨_,_,Y,dQ 1 _,_,_,Y,W (p V)<|dQ 1 _,_,_,Y,W (p J1)<|dQ 1 _,_,_,Y,W (p J2)<|dQ 1 _,_,_,Y,aw<|aw<|aw ⟨x.m,Y,b.e9 l t,aw<|aL ⟨_,_,_,b.c9 t,Y,W (p J3)<|j6 (λZ=>⟨Y,Y⟩) _⟩⟩,_,_,Y,W (p J4)<|dQ 1 _,Y⟩⟩⟩
def BI(G)(T)(k)(a):=hW (lQ G T<|R (·.b5) a) (k<=U a) (∀b,b<k->∀x,a[b]?=J x->∃c,Ed G T a x c)<|∀b,k<=b->∀x,a[b]?=J x->x.mv=[]
def Ed.keep(h:Ed G T d x e)(k:∀(a:O) c,d[a]?=J c->∃b,f[a]?=J b/\b.b5=c.b5):Ed G T f x e:=
eY (h V) (h J1) (h J2) (h J3) (h J4) λs t q=>aA ((h J5) s t q) λz g e=>aA (k t z g) λb j l=>⟨b,j,af l e⟩
def BI.Γ(g:fm)(c:qy G T)(h:BI G T (U a) a):∃b,gA Fz a b/\dv G T b:=by
 have d:∀x∈a,∃f,Fz x f/\Ed G T a x f.it/\f.rd=w3 G f.it:=λx e=>bp (gs.mp e) λj k=>bp ((h J2) j (gl k) x k) λl q=>⟨⟨x.b5,x.sym,l,x.mv,w3 G l⟩,ec Y Y (q V) Y<|q J1,q,Y⟩;refine bp (ahu d) λb m=>?_;have n:∀f∈b,∃x∈a,Fz x f/\Ed G T a x f.it/\f.rd=w3 G f.it:=λf o=>bp (gs.mp o) λj k=>aA (m.get' j f k) λx e q=>⟨x,aO e,q⟩;have l:=(h V).len g c;have p:=(h V).Ec g c;rw [bB] at l p;refine⟨b,m.imp λZ Z r=>r.1,Kw c ?_ (W m.len l) (W m.len p) (λf o=>?_) (λf o=>?_) (λf o=>?_) (λf o=>?_) (λf o s t q=>?_) λf o=>?_⟩
 .exact aA (fA<|cf▸((h V) J1)) λx e v=>aA (m.get 0 x e) λf m q=>⟨f,m,af (q.1 V) v⟩
 .exact yV (n f o) λx Z z q Z=>W (z V)<|q J2
 .exact yV (n f o) λx Z z q v=>v
 .exact yV (n f o) λx Z z q Z=>W (z J3)<|q J3
 .exact yV (n f o) λx Z z q Z=>W (z J3)<|q J4
 .exact yV (n f o) λx Z z k Z=>aA ((k J5) s t<|(z J3)▸q) λy B v=>aA (m.get t y B) λC H r=>⟨C,H,af (r.1 V) v⟩
 .exact hv (n f o) λx m z Z=>W (z V)<|(h V) J3 _ (hM m)
def aj0(g:fm)(j:qy G T)(a:Fr l m<|jl G T c e [])(h:∀d e b f k,gA Fz b f->dv G T f->Fr l k (.c d (cw 244<| .c 201 G.V<| .c 181 (aj c.s) ar)<|jl G T c e b)->n (aj d) k):
 aK (o+6) 358 [aj c.b] m n p:=by
 have q:=u6 g;refine a6 Ml (.c 64 _ ar) Y Y<|aM a 0 Y<|aM a 0 Y<|Lg (q J1)<|z! (K:=[0]) a (ao Y) λe b s s t a=>?_;have v:BI G T 0 b:=by
  rcases(t V) with x|⟨_,y,x,z,B,_⟩
  .refine aA (t J1) λy C X=>?_;rw [x] at C;cases C
  .exact W x<|dV ((W z<|dV (lI (λX h=>bG h) ip) Y (λr H=>aL<|ms H) λr H=>W (ms H)<|⟨lI (λX h=>bG h) ip,λI L=>W (ms L)<|⟨_,_,_,_,q⟩⟩):lQ G T [y.b5]) (cQ _) (λI L=>ay L<|fC I) λI X M N=>W (ms<|aO N) B
 refine n8 (λk X=>2^20-k) (λk X=> .c 64 _ (.c 3 (ag (k:O)) ar)) (λX p=>jl G T c p.1 p.2) (λk p=>BI G T k p.2) 0 (e,b) a v λk p s r Z a H=>?_;have l:U (tb p.2)=U p.2:=bB _;have m:=(Z V).len g j;rw [bB] at m;refine aM a 0 Y<|bW a 1 Y<|h0 (λx=>?_) λx=>?_
 .rw [l] at x;have C:=bM x;refine aM a 0 Y<|aM a 0 Y<|dc a 1 Y (by unfold tb;simp only [cf,C];rfl) ?_;exact ſ g j a (Z V) C ((Z J3) k (bb k) _ C) λe b M n s o t N z a=>H _ (e,b) s (zg (e8 x m)<|ha k) ((by
   refine dV t (ae x o.len) (λI L y C=>?_) λI L y C=>?_
   .rcases i4.mp L with q|q
    .rw [(o J1) I (e8 q x)<|fI q] at C;exact bp ((Z J2) I q y C) λn q=>⟨n,q.keep<|o V⟩
    .rw [q,N] at C;exact ax (aC C)<|⟨n,z⟩
   .rcases hZ I (U<|f9 p) with q|q
    .rw [(o J1) I q<|jt L] at C;exact(Z J3) I (uM L) y C
    .exact(o J2) I y q C)) a
 .rw [l] at x;have Z:=hJ (Z J1) x▸Z;refine aA (Z.Γ g j) λf B T=>aM a 0 Y<|aM a 0 Y<|jL Y Y λc r=>?_;have a:=(a.hO (o:=cw 244 ar) r).bN;exact a6 Q7 (.c 64 _ (.c 201 G.V<| .c 181 _ ar)) Y Y<|bP a Y λv a=>bP a Y λv a=>bf ⟨Y,bf<|(λd s a=>bf<|h d p.1 p.2 f s B T a) c v a⟩
def ael(g:fm)(a:Fr d f bO)(h:∀b e T c,qy G T->Fr d c (jl G T b e [])->j (aj b.b) c):aK (n+5) 188 [G.V] f j k:=by refine jL Y Y λb l=>?_;have a:=a.hO (o:=cw 188 ar) l;exact a6 Rv (.c 64 _ (.c 201 G.V ar)) Y Y<|bP a Y λs a=>afq g.toGW λT c=>bP a Y λs a=>aV a λt s a=>bP a Y λs a=>m7 a λd e s a=>bP a Y λs a=>bf ⟨Y,bf<|h ⟨b,t,d⟩ e T s c a⟩
def Yy(g:fm)(h:∀T a,dv G T a->b (q9 G a) c):aK (n+7) 84 [G.V] c b d:=by refine a6 O3 (.c 201 G.V ar) Y Y<|ael g de λe f T s c j=>ej j<|aj0 g c j λb f k a s l m j=>mG j 4 ?_<|h T a m;exact aw<|aw<|aw ⟨b,Y,j.e9 0 Y,aw<|aw ⟨_,_,_,j.c9 (k:=0) Y,Y,⟨_,_,Y,dQ 3 _,_,_,Y,aw<|aw<|aw ⟨e.s,Y,j.e9 2 Y,aL ⟨_,_,j.c9 (k:=2) Y,Y,aeM j l 0 λo x p=>⟨⟨2*o+3+1,W (eF ..)<|yD (T:=T) (b:=e) (e:=f) p⟩,2*o+1+3+1,Xv (T:=T) (b:=e) (e:=f) p⟩⟩⟩,Y⟩⟩⟩
structure DP where
n:O
rel:aa (aa O)
ms:aa O
b:O
noncomputable def DP.r(a:DP)(x):=F a.rel x []
structure HR where
h:O->O
r:O->O
def Sm(S a:HR)(z):=e7 (a.h z=S.h z)<|a.r z=S.r z
def Ab(S:HR)(z x):=e7 (Sb (S.r z)<|S.r x)<|S.h x<=S.h z
inductive vk(a:DP)(S:HR)(b:aa O)(z y:O):Prop
|d (h:S.h y=a.n+1) (s:Sb (S.r y)<|S.r z)|o (l:O) (h:b[l]?=J y) (s:S.h z<=l+1)
def Su(a)(S)(b)(z)(c:aa O):=∀y∈c,vk a S b z y
structure o7 where
x:O
h:O
i:O
def o7.y(a:DP)(f:o7):=(a.r f.x)[f.i]?
def RK(a)(x)(b:aa o7):=∀f r,b=f::r->f.y a=J x
inductive Sg(S:HR)(q:ba O)(x:O)(a:aa O)(z:O):Prop
|a (h:Ab S z x)|p (y:O) (m:y∈a) (h:q=J y) (b:Ab S z y)
def Kx(a)(S)(q)(f:o7)(b d c):=j4 (b=d++f.x::c) (f.h=U d+1) (∀z∈c,Sg S q f.x b z) (∀z∈c,Su a S b z<|a.r z)<|Su a S b f.x<|aF f.i<|a.r f.x
class inductive DS(a:DP)(S:HR):aa o7->ba O->aa O->Prop
|nil {q:ba O}:DS a S [] q []|cons {f:o7} {b:aa o7} {q:ba O} {c:aa O} (d e:aa O) (l:Kx a S q f c d e) (k:RK a f.x b) (g:DS a S b A d):DS a S (f::b) q c
def Dk(a:DP)(S b):=∀y,S.h y=a.n+1->Sm S b y
def Ab.to(a:Ab b z x)(p:Sm b c z)(q:Sm b c x):Ab c z x:=cp (by simp only [p J1,q J1];exact a V)<|by simp only [p V,q V];exact a J1
def vk.to(a:Sm b c z)(e:Dk f b c)(g:vk f b h z y):vk f c h z y:=g.rec (λh s=> .d (af ((e y h) V) h)<|by simp only [(e y h) J1,a J1];exact s) λl h s=> .o l h<|W (a V) s
def DS.to(c:Dk d e f)(h:DS d e g q a):∀{b},(∀z∈a,Sm e f z)->(∀y∈a,q=J y->b=J y)->DS d f g b a:=by
 induction h with
 |nil=>exactλZ Z=> .nil|@cons f g q a j k l m d n=>intro b o p;have r:=(l V)▸fy _ (b8 ..);have ms:∀z∈k,z∈a:=λz s=>(l V)▸fy _ (cy _ s);exact .cons j k (ec (l V) (l J1) (λz s=>((l J2) z s).casesOn (λa=> .a<|a.to (o z<|ms z s)<|o _ r) λy t e b=> .p y t (p y t e)<|b.to (o z<|ms z s)<|o y t) (λz s y v=>((l J3) z s y v).to (o z<|ms z s) c) λy v=>((l J4) y v).to (o _ r) c) m<|n (λz s=>o z<|(l V)▸gI _ s) λZ Z h=>aI h
def Pos(a:DP)(S:HR)(z b):=fR (z<a.n) (0<S.h z)<|S.h z<=b
def DI(a)(k)(S)(b)(c):=Hf (∀z<a.n,S.h z=0\/S.h z=a.n+1\/z∈b) (∀l z,b[l]?=J z->Pos a S z (l+1)) (bw b) (∀z<a.n,Sb (F a.ms z 0)<|S.r z) (∀z<a.n,S.h z=a.n+1->∀y∈a.r z,vk a S [] z y) (∀z<k,0<S.h z) (∀x<a.n,∀y∈a.r x,y<a.n)<|DS a S c (er (mj c)<|o7.y a) b
def DI.lt(h:DI a k c b d)(z)(m:z∈b):z<a.n:=(h J1) _ z (BX<|gs.mp m) V
def DI.len(h:DI a k c b d):U b<=a.n:=qs (h J2) h.lt
def DI.L9(h:DI c k a b d)(m:z∈b):0<a.h z:=(h J1) _ z (BX<|gs.mp m) J1
def DI.hle(h:DI a k b c d)(m:z∈c):b.h z<=a.n:=bp (gs.mp m) λl e=>ae ((h J1) l z e J2)<|ae (gl e) h.len
def DI.T8(h:DI a k b c d)(m:z∈c):b.h z≠a.n+1:=fI<|ic<|h.hle m
noncomputable def upd(H:O->O)(y v z):=if y=z then v else H z
def FH:upd H y v y=v:=aJ Y
def DI.push(h:DI c k b a d)(e:RK c y d)(f:y<c.n)(g:b.h y=0):DI c k ⟨upd b.h y<|U a+1,b.r⟩ (a++[y]) (⟨y,U a+1,0⟩::d):=by
 have j:∀z,z≠y->Sm b ⟨upd b.h y<|U a+1,b.r⟩ z:=λz l=>cp (aS<|me l) Y;have n:∀z∈a,z≠y:=λz m l=>jt (h.L9 m)<|l▸g;have nd:Dk c b ⟨upd b.h y _,b.r⟩:=λz m=>j z λl=>by rw [l,g] at m;cases m
 have o:bw (y::a):=lI (λp q=>(n p q).symm)<|h J2;refine uw (λz r=>?_) (λs z t=>?_) ?_ (h J3) (λz r v x B=>?_) (λz r=>?_) (h J6)<| .cons a [] (ec Y Y (λz h=>bG h) (λz h=>bG h) λz h=>bG h) e<|(h J7).to nd (λz m=>j z<|n z m) λz m l=>?_
 .by_cases l:z=y
  .exact aw<|aw<|fy _ (ak qh l)
  .exact W ((j z l) V)<|((h V) z r).imp_right<|X5<|gI _
 .have C:a[s]?=J z\/z=y/\s=U a:=by
   rcases hZ s (U a) with H|H
   .rw [hh H] at t;exact aL t
   .rw [h8 H] at t;exact aw ⟨ms<|aO t,hJ (zy<|Ds.mp<|gl t) H⟩
  rcases C with l|⟨l,H⟩
  .have I:=(h J1) s z l;have s:=(j z<|n z<|aO l) V;exact bZ (I V) (s▸(I J1))<|s▸(I J2)
  .simp only [l,H];exact bZ f (T6 (k9 _) FH.symm)<|c6 FH
 .exact ak n5 ⟨h J2,lI (λZ h=>bG h) ip,λp q b L=>(ms L)▸n p q⟩
 .have M:z≠y:=λl=>j7 _ (cc (ic<|qs o λp q=>aP (mc q) (λl=>l▸f)<|h.lt p)<|c6<|af (l▸v).symm FH);exact((h J4) z r (af ((j z M) V).symm v) x B).to (j z M) nd
 .by_cases l:z=y
  .exact W l<|T6 (k9 _) FH.symm
  .exact W ((j z l) V)<|(h J5) z r
 .induction d with
  |nil=>cases l|cons g r=>exact ay (aC<|af (e g r Y).symm l).symm<|n z m
def Mg(S a)(x y):=j4 (0<a.h x) (a.h x<=S.h x) (a.h x<=S.h y) (∀z,z≠x->Sm S a z)<|a.r x=S.r x|||S.r y
def Mg.le(g:Mg a b x y)(z):b.h z<=a.h z:=by
 by_cases e:z=x
 .exact W e<|g J1
 .exact c6<|(g J3) z e V
def Mg.ge(g:Mg a b x y)(z):Sb (a.r z) (b.r z):=by
 by_cases e:z=x
 .exact W e<|W (g J4)<|Sb.Bo λZ q=>q
 .exact W ((g J3) z e J1) λZ q=>q
def Mg.ed(g:Mg b c x y)(nd:Dk d b c)(e:vk d b f z a):vk d c f z a:=e.rec (λh b=> .d (af ((nd a h) V) h)<|W ((nd a h) J1)<|b.sO<|g.ge z) λl h b=> .o l h<|ae (g.le z) b
def VW(c a b:aa O)(x):=j4 (bw a) (∀z∈b,z≠x) (∀z∈a,z∉x::b) (∀z∈x::b,z∈c)<|c[U a]?=J x
def Np(e:a=c++x::b)(d:bw a):VW a c b x:=by have n:=d;rw [e] at n;have n:=n5.mp n;have f (g:∀z∈b,z≠x) (h:∀z∈c,z∉x::b) (j:∀z∈x::b,z∈a) (k:a[U c]?=J x):VW a c b x:=ec n.1 g h j k;exact f (λz l e=>(rV.mp n.2.1).1 z l e.symm) (λz l q=>n.2.2 z l z q Y) (λz l=>e▸fy _ l) (by refine W e<|W (h8<|bb _)<|W (ql ..) ?_;rfl)
def DI.Jo(h:DI c k d e<|⟨x,m,b⟩::f)(a:(c.r x)[b]?=J y)(j:0<d.h y)(g:Mg d l x y):DI c k l e (⟨x,m,b+1⟩::f):=by
 cases(h J7) with|cons n o l p d=>
 have q:=Np (l V)<|h J2;have r:=(q J3) x (b8 ..);have nd:=λz e=>(g J3) z λs=>h.T8 r<|s▸e;refine uw (λz t=>?_) (λl z v=>?_) (h J2) (λz t=>((h J3) z t).sO<|g.ge z) (λz v B C hw=>?_) (λz t=>?_) (h J6)<| .cons n o (ec (l V) (l J1) (λz m=>?_) (λz m y a=>g.ed nd<|(l J3) z m y a) λC hw=>?_) p<|d.to nd (λz m=>(g J3) z λe=>(q J2) z m (e▸b8 ..)) λZ Z s=>s
 .by_cases e:z=x
  .exact aw<|aw<|e▸r
  .exact W ((g J3) z e V)<|(h V) z t
 .have p:=(h J1) l z v;refine bZ (p V) ?_<|ae (g.le z)<|p J2
  by_cases e:z=x
  .exact W e<|g V
  .exact W ((g J3) z e V)<|p J1
 .have H:z≠x:=λe=>j7 _ (cc (ic<|ae (g J1)<|h.hle r)<|c6 (e▸B).symm);exact((h J4) z v (af ((g J3) z H V).symm B) C hw).to ((g J3) z H) nd
 .by_cases e:z=x
  .exact W e<|g V
  .exact W ((g J3) z e V)<|(h J5) z t
 .have I:=(g J3) z<|(q J1) z m;refine .a ?_;rcases(l J2) z m with L|⟨C,_,e,L⟩
  .exact cp ((I J1)▸(L V).sO (g.ge x))<|(I V)▸ae (g J1) (L J1)
  .obtain rfl:=aC<|af a.symm e;exact cp (by simp only [g J4,I J1];exact(L V).wO)<|(I V)▸ae (g J2) (L J1)
 .rw [nM,show _[b]?=J y from a] at hw;rcases ma hw with hw|hw
  .exact g.ed nd<|(l J4) C hw
  .refine W (ms hw) ?_;rcases(h V) y ((h J6) x (h.lt x r) y<|aO a) with s|s|s
   .exact ay s<|jt j
   .exact .d (af ((nd y s) V) s) (by simp only [(nd y s) J1,g J4];exact Sb.wO λZ s=>s)
   .exact bp (gs.mp s) λl v=> .o l v<|ae (g J2)<|(h J1) l y v J2
def Kx.end(l:Kx a c (f.y a) f e h g)(d:U (a.r f.x)<=f.i)(z)(b:z∈f.x::g):Ab c z f.x/\Su a c e z (a.r z):=by
 rcases mc b with e|b
 .have j:=l J4;dsimp only [u9] at j;rw [zt d] at j;exact W e<|⟨cp (λZ q=>q)<|bb _,j⟩
 .refine br ?_<|(l J3) z b;rcases(l J2) z b with s|⟨k,_,e,_⟩
  .exact s
  .exact aI<|(af (iu d).symm) e
def DI.fin(h:DI a k b c<|f::d)(e:U (a.r f.x)<=f.i)(g:b.h f.x≠f.h):DI a k b c d:=by
 refine uw (h V) (h J1) (h J2) (h J3) (h J4) (h J5) (h J6) ?_;cases(h J7) with|cons j l l m d=>
 have n:=l.end e;have o:=(Np (l V)<|h J2) J4;cases d with
 |nil=>have p:=(h J1) _ f.x o;exact ay (af (hJ (p J2)<|p J1) (l J1).symm) g|@cons g r _ _ q s t v x=>
  have y:∀{l} {z},j[l]?=J z->c[l]?=J z:=λe=>W (l V)<|W (hh<|gl e) e;have B:∀{C z},vk a b j C z->vk a b c C z:=λe=>match e with
   | .d a b=> .d a b| .o l a b=> .o l (y a) b
  refine .cons q _ (ec (by refine W (l V)<|W (t V)<|W (dy ..) ?_;rfl) (t J1) (λC H=>?_) (λC H z I=>?_) λz I=>B<|(t J4) z I) v x
  .rcases ma H with H|H
   .exact((t J2) C H).casesOn .a λZ Z q=>aI q
   .exact .p f.x (aO o) (m g r Y) (n C H).1
  .rcases ma H with H|H
   .exact B<|(t J3) C H z I
   .exact(n C H).2 z I
def YV(b:DP)(S a:HR)(x z):=e7 (a.h z=b.n+1)<|a.r z=S.r x
def aao(b)(k)(S)(d)(e)(x)(c a):=e7 (d=c++x::a)<|∀f,(∀z∈x::a,YV b S f x z)->(∀z,z∉x::a->Sm S f z)->DI b k f c e
def DI.root(h:DI c k d e<|f::g)(j:U (c.r f.x)<=f.i)(l:d.h f.x=f.h):∃b a,aao c k d e g f.x b a:=by
 cases(h J7) with|cons b a m n d=>
 refine⟨b,a,cp (m V) λo p q=>?_⟩;have r:=m.end j;have s:=Np (m V)<|h J2;have nd:=λz e=>q z λt=>h.T8 ((s J3) z t) e;refine uw (λz v=>?_) (λj z x=>?_) (s V) (λz v=>?_) (λz v y B C=>?_) (λz v=>?_) (h J6)<|d.to nd (λz H=>q z<|(s J2) z H) λZ Z t=>aI t
 .by_cases e:z∈f.x::a
  .exact aw<|aL<|(p z e) V
  .refine W ((q z e) V)<|((h V) z v).imp_right<|X5 λt=>?_;rw [m V] at t;exact aP (ma t) id λt=>ay t e
 .have I:=(h J1) j z (by rw [m V,hh<|gl x];exact x);have L:=(q z<|(s J2) z<|aO x) V;exact bZ (I V) (L▸(I J1))<|L▸(I J2)
 .by_cases e:z∈f.x::a
  .exact W ((p z e) J1)<|((h J3) z v).sO<|(r z e).1 V
  .exact W ((q z e) J1)<|(h J3) z v
 .by_cases e:z∈f.x::a
  .rcases(r z e).2 B C with ⟨M,b⟩|⟨j,M,b⟩
   .exact .d (af ((nd B M) V) M) (by simp only [(p z e) J1,(nd B M) J1];exact b.sO<|(r z e).1 V)
   .rw [m V,h8<|Ip<|ae (c6<|af (m J1).symm l.symm)<|ae ((r z e).1 J1) b] at M;have t:=p B<|aO M;exact .d (t V) (by simp only [(p z e) J1,t J1];exactλZ t=>t)
  .exact((h J4) z v (af ((q z e) V).symm y) B C).to (q z e) nd
 .by_cases e:z∈f.x::a
  .exact W ((p z e) V)<|k9 _
  .exact W ((q z e) V)<|(h J5) z v
def xE(a)(v)(b:aa<|aa O):=∃c,eR a v=J c/\∀(k:O) r,b[k]?=J r->∃d,c[k]?=J d/\eR a d=J (iV r)
def X9{b:DP}(h:xE e v b.rel)(d:Fr e c j)(l:x<U b.rel)(f:∀a,eR c a=J (iV<|b.r x)->g a c):ko v (ag x) c g:=aA h λk e k=>aA (k x _ (e6 l)) λa m g=>bJ (ik d e) m<|f a<|ik d g
def oX(a:DP)(H:O->O)(L:aa O):Nat:=jd 0 (λz Z b=>aD (aE (H z) 0) (U (a.r z)+2) 0+b) L
def Ch(a:DP)(b:aa o7):Nat:=jd 0 (λf Z c=>U (a.r f.x)-f.i+1+c) b
def u5(a:DP)(H:O->O)(z):=aD (aE (H z) 0) (U (a.r z)+2) 0
def Za(h:H z≠0->a z≠0):u5 b a z<=u5 b H z:=by
 unfold u5;cases q:aE (a z) 0 with
 |false=>exact cQ _|true=>have c:=eb q;exact W (agt λe=>h e c:H z=0)<|bb _
def R5(h:∀z,H z≠0->a z≠0)(L):oX b a L<=oX b H L:=L.rec (bb 0) λx r c=>d2 (Za<|h x) c
def af5(h:∀z,H z≠0->b z≠0)(c:H y=0)(d:b y≠0)(L)(m:y∈L):oX a b L+(U (a.r y)+2)<=oX a H L:=by
 induction L with
 |nil=>cases m|cons x r e=>
  refine(?_:u5 a b x+oX a b r+_<=u5 a H x+oX a H r)
  by_cases f:y=x
  .have g:u5 a b x=0:=by unfold u5;exact ax f<|W (d4 d) Y
   have j:u5 a H x=U (a.r y)+2:=by unfold u5;exact ax f<|W c Y
   exact W g<|W j<|W (eF ..)<|W (eT ..)<|d5 (R5 h r) _
  .exact W (cA ..)<|d2 (Za<|h x)<|e<|aP (mc m) (λz=>ay z f) id
def p2(a:aa<|O×o7):Cs:=jd bO (λf Z b=>b.cB f.1<|az<|iV [f.2.x,f.2.h,f.2.i]) a
noncomputable def xm(a:aa<|O×o7):aa ai:=jd [] (λf Z b=>b++[aj f.1]) a
structure DA where
r:O
h:O
p:O
structure DV where
R:aa O
H:aa O
P:aa O
noncomputable def DV.s(d:DV):HR:=⟨λz=>F d.H z 0,λz=>F d.R z 0⟩
def s5(a:DA)(d:DV)(r:Cs):Cs:= .c a.r (az<|iV d.R)<| .c a.h (az<|iV d.H)<| .c a.p (az<|iV d.P) r
noncomputable def QU(b:DP)(v:ai)(a:DA)(r:aW):aW:= .c 88 (ag b.n)<| .c 240 v<| .c 173 (aj a.r)<| .c 204 (aj a.h)<| .c 28 (ag (b.n+1:O))<| .c 57 (aj a.p) r
def DW(a)(k)(d:DV)(b):=hW (U d.R=a.n) (U d.H=a.n) (∀f∈d.R,f<2^a.b)<|DI a k d.s d.P b
def JY(a:DP)(b):=hW (U b=a.n) (∀f∈b,f<2^a.b) (∀z<a.n,Sb (F a.ms z 0)<|F b z 0)<|∀z<a.n,∀y∈a.r z,Sb (F b y 0)<|F b z 0
def DI.all{S}(h:DI a k S [] [])(z)(b:z<a.n):S.h z=0\/S.h z=a.n+1:=((h V) z b).imp_right λq=>aP q id λq=>bG q
def DW.nil(h:DW a k d []):d.P=[]:=by have b:=(h J3) J7;dsimp only [O0] at b;generalize d.P=c at b;cases b;rfl
def DI.up{S}(h:DI a k S b c)(p:0<S.h k):DI a (k+1) S b c:=
uw (h V) (h J1) (h J2) (h J3) (h J4) (λz d=>aP (i4.mp d) ((h J5) z) λe=>e▸p) (h J6)<|h J7
def DW.push(h:DW a k d b)(f:RK a y b)(c:y<a.n)(g:F d.H y 0=0)(e:m=U (iV<|d.P++[y])):DW a k ⟨d.R,c5 d.H y m,d.P++[y]⟩ (⟨y,m,0⟩::b):=by rw [du,a4] at e;refine W e<|dV (h V) (W mX<|h J1) (h J2) ?_;have j:=(h J3).push f c g;unfold DV.s;exact W (funext λz=>gL<|by rw [h J1];exact c) j
def DW.up(h:DW a k d b)(p:0<F d.H k 0):DW a (k+1) d b:=dV (h V) (h J1) (h J2)<|(h J3).up p
def DW.mP(b:U a.ms=a.n)(c:∀f∈a.ms,f<2^a.b)(d:∀x<a.n,∀y∈a.r x,y<a.n):DW a 0 ⟨a.ms,dJ a.n 0,[]⟩ []:=by
 have z:∀x,F (dJ a.n 0) x 0=0:=λx=>by simp only [cY,uU];split<;>rfl
 exact dV b ig c<|uw (λx Z=>aL<|z x) (λZ Z h=>aI h) ip (λZ Z Z q=>q) (λx Z e=>wC<|(af (z x).symm) e) (λx h=>ay h<|fC x) d .nil
def aaa(h:DW a k d f)(b:y<a.n)(c:F d.H y 0=0)(e:m=U (iV<|d.P++[y])):oX a (λz=>F (c5 d.H y m) z 0) (e1 a.n)+(U (a.r y)+2)<=oX a (λz=>F d.H z 0) (e1 a.n):=by
 have g:m≠0:=W e<|W du<|W a4<|Je _;have j:y<U d.H:=W (h J1) b;refine af5 (y:=y) (λz l=>?_) c ?_ _ (ak tQ b)
 .refine W (gL j) ?_;split
  .exact g
  .exact l
 .exact W (gL j)<|W (aJ Y) g
def DS.aet{S}(h:DS c S a q b):U a<=U b:=by refine h.rec (bb 0) λd e l k d f=>?_;simp only [l V,a4,hS,hS];exact ae (b2 f)<|d5 (b2<|cQ _) _
def X'(a):U (xm a)=U a:=by refine a.rec Y λf r b=>by refine(?_:U (xm r++[_])=_);simp only [a4,b];rfl
def DW.N3(h:DW a k d c)(b:a.n<cu):U d.P<cu:=cF (h J3).len b
def zU(h:Fr f g a)(k){b m:O}(j:a.at k=J (b,az<|iV c))(l:U c<cu)
 (d:∀e,Fr f e (a.g9 k<|az<|iV<|c++[m])->n bk e):lG h9 (aj b) (ag m) g n:=by
 rw [<-ob] at d;exact dD h k j (W du l) d
def YU(h:Fr g j a)(k){b z:O}(e:a.at k=J (b,az<|iV<|c++[z]))(d:∀f,Fr g f (a.g9 k<|az<|iV c)->l (ag z) f):AW (aj b) j l:=by rw [<-ob] at e;rw [<-wW (l₁:=iV c)] at d;exact HZ h k e pn d
def DW.Jo(h:DW c k d<|⟨x,m,f⟩::g)(j:(c.r x)[f]?=J y)(a:F d.H y 0≠0)(l:U b=c.n)(e:F b x 0=min (F d.H x 0) (F d.H y 0))(n:∀z,z≠x->F b z 0=F d.H z 0):
 DW c k ⟨c5 d.R x<|F d.R x 0|||F d.R y 0,b,d.P⟩ (⟨x,m,f+1⟩::g):=by
 have a:=qz a;have o:x∈d.P:=by cases(h J3) J7 with|cons p q r _ _=>exact(r V)▸fy _ (b8 ..)
 have s:x<U d.R:=W (h V)<|(h J3).lt x o;have t:=(h J3).L9 o;have v {S:HR} {B:HR} (p:0<B.h x) (r:B.h x<=S.h x) (C:B.h x<=S.h y) (H:∀z,z≠x->Sm S B z) (I:B.r x=S.r x|||S.r y):Mg S B x y:=ec p r C H I;refine dV (W mX<|h V) l (λf L=>aP (Cg L) ((h J2) f) λM=>M▸oL (ju (h J2) _) (ju (h J2) _))<|(h J3).Jo j a<|v ?_ ?_ ?_ (λz N=>cp (n z N) ?_) ?_
 .show 0<F b x 0;exact W e<|ak Xd ⟨t,a⟩
 .exact ae (c6 e)<|mq _ _
 .exact ae (c6 e)<|oN _ _
 .exact((W (gL s)<|W (aS N.symm) Y):F (c5 d.R x _) z 0=_)
 .exact((W (gL s)<|W (aJ Y) Y):F (c5 d.R x _) x 0=_)
def Rt(a)(d:DV)(x)(e s)(b H)(c:au):=j4 (∃t,e=s++t/\(∀z∈t,YV a d.s (DV.s ⟨b,H,[]⟩) x z)/\∀z,z∉t->Sm d.s (DV.s ⟨b,H,[]⟩) z) (U b=a.n) (U H=a.n) (∀f∈b,f<2^a.b)<|c=x/\s=[]\/c≠x/\s≠[]
def Rt.pop(h:Rt c d x (x::a) (s++[z]) b H f)(nd:bw<|x::a)(e:z<c.n):Rt c d x (x::a) s (c5 b z<|F b x 0) (c5 H z<|c.n+1) z:=by
 refine hv (h V) λt g j k=>?_;have l:z<U b:=W (h J1) e;have m:z<U H:=W (h J2) e;have n:F b x 0=F d.R x 0:=by
  by_cases q:x∈t
  .exact(j x q) J1
  .exact(k x q) J1
 refine ec ⟨z::t,by simp only [g,dy];rfl,λo p=>?_,λo p=>?_⟩ (W mX<|h J1) (W mX<|h J2) (λf r=>aP (Cg r) ((h J3) f) λg=>g▸ju (h J3) x) ?_
 .by_cases q:z=o
  .exact cp (af (gL m)<|aJ q)<|af (gL l)<|af (aJ q) n
  .have v:=j o<|aP (mc p) (λg=>ay g.symm q) id;exact cp (af (gL m)<|af (aS q)<|v V)<|af (gL l)<|af (aS q)<|v J1
 .have q:z≠o:=λg=>p (g▸b8 ..);have v:=k o λy=>p<|cy _ y;exact cp (af (gL m)<|af (aS q)<|v V)<|af (gL l)<|af (aS q)<|v J1
 .induction s with
  |nil=>have g:=(hq (af g Y:x::a=z::t)).1;exact aL ⟨W g Y,Y⟩|cons B s=>refine aw ⟨λq=>?_,λq=>jJ q⟩;exact(rV.mp nd).1 z (W (hq (af g Y:x::a=B::_)).2<|gI _ (fy _ hf)) (eI q).symm
def ai4(h:a+(l+2)<=b):a+(l-0+1+s)<b+s:=cc (ax (cA ..)<|ax (cA ..)<|DD (ha _) s)<|f6 h s
def F'{v d}(Ã:xE b v a.rel)(l:eR b d=J (iV a.ms))(c:a.n<cu)(Ä:U a.rel=a.n)(m:U a.ms=a.n)(n:∀f∈a.ms,f<2^a.b)(Å:∀x<a.n,∀y∈a.r x,y<a.n)
 (h:∀k,JY a k->o (aN<|iV k) b):aK (q+1) 199 [ag a.n,v,d] b o s:=by
 refine a6 PR (.c 88 (ag a.n)<| .c 240 v<| .c 109 d ar) Y Y<|PD de l λr s t=>aV t λz s t=>hF t.bN ⟨⟨Y,cj _,bT c⟩,aV t.bN λB s t=>aV t.tl λp s t=>⟨⟨n3 (ao Y)<|cj a.n,xI (ak hn c)<|ao Y⟩,?_⟩⟩;have t:Fr b s (s5 ⟨r,B,p⟩ ⟨a.ms,dJ a.n 0,[]⟩ bO):=by unfold s5;exact a5 LC▸t
 refine cv mR (λX (_:DV) _=>QU a v ⟨r,B,p⟩ ar) (λX d X=>s5 ⟨r,B,p⟩ d bO) (λk d X=>DW a k d []/\d.P=[]) ⟨a.ms,dJ a.n 0,[]⟩ () t ⟨.mP m n Å,Y⟩ (λX X X X X=>rfl) ?_ ?_
 .intro k x d _ s C H I t Ç;have H:=lu H;refine W H.1 ?_;have M:=H.2;have N:=a5 (I.1 J1)▸M;refine qw t 1 Y N<|yY (a:=F d.H k 0) (b:=0) (λq=>?_) λq=>?_
  .exact Ç d () s ⟨I.1.up<|qz q,I.2⟩ t
  .refine cH t 2 Y<|zU (m:=k) t 2 Y (I.1.N3 c) λs t=>bW t 2 Y<|uC (n:=U<|iV<|d.P++[k]) t 1 Y N λs t=>bW t 2 Y<|aV t λZ s t=>aV t λf s t=>?_;have l:=I.1.push (m:=U<|iV<|d.P++[k]) (λX X o=>AV o) M q Y;have t:Fr b s (s5 ⟨r,B,p⟩ ⟨d.R,c5 d.H k<|U<|iV<|d.P++[k],d.P++[k]⟩<| .c f (az<|xm [(Z,⟨k,U<|iV<|d.P++[k],0⟩)])<|p2 [(Z,⟨k,U<|iV<|d.P++[k],0⟩)]):=Fr.EV (a:= .c (Zq.DA.r {r:=r,h:=B,p:=p}) (az<|iV<|Zq.DV.R d)<| .c (Zq.DA.h {r:=r,h:=B,p:=p}) (az<|iV<|c5 (Zq.DV.H d) k<|U<|iV<|Zq.DV.P d++[k])<| .c (Zq.DA.p {r:=r,h:=B,p:=p}) (az<|iV<|Zq.DV.P d++[k]) bO) t;refine n8 (λd (z:aa<|O×o7)=>oX a (λn=>F d.H n 0) (e1 a.n)+Ch a (R f9 z)) (λX X=>QU a v ⟨r,B,p⟩<| .c 129 (ag k)<| .c 162 (aj f) ar) (λd z=>s5 ⟨r,B,p⟩ d<| .c f (az<|xm z)<|p2 z) (λd (z:aa<|O×o7)=>DW a (k+1) d<|R f9 z) _ _ t (l.up ?_) ?_
   .exact(l J3).L9<|fy _ hf
   .refineλd z s C I t H=>bW t 3 Y<|MB (λq=>?_) λq=>?_
    .cases z with
     |nil=>exact ay Y q|cons À z=>
     obtain⟨Z,x,m,M⟩:=À;have k:(s5 ⟨r,B,p⟩ d<| .c f (az<|xm<|(Z,⟨x,m,M⟩)::z)<|p2<|(Z,⟨x,m,M⟩)::z).at ((p2 z).oZ+4)=J (Z,az<|iV [x,m,M]):=wc;have C:=(I J3).lt x (by cases(I J3) J7 with|cons Æ Á Â _ _=>exact(Â V)▸fy _ (b8 ..));have e:=a5 (I J1)▸C;have È:=a5 (I V)▸C;refine jW t 3 Y pn ?_;refine dc t ((p2 z).oZ+4) k (c:=0) (x:=ag x) Y<|dc t ((p2 z).oZ+4) k (c:=2) (x:=ag M) Y<|X9 Ã t (a5 Ä▸C) λj N=>te N<|h0 (a:=M) (b:=U<|iV<|a.r x) (λq=>?_) λq=>?_
     .rw [du] at q;have L:=bM q;have g:=Å x C _ (aO L);generalize (a.r x)[M]=y at L g;have É:=a5 (I J1)▸g;have Ê:=a5 (I V)▸g;refine X9 Ã t (a5 Ä▸C) λj N=>dc t ((p2 z).oZ+4) k (c:=2) (x:=ag M) Y<|bJ N (fV L)<|qw t 1 Y É<|hk (a:=F d.H y 0) (b:=0) (λl=>?_) λË=>?_
      .refine cH t 2 Y<|zU (m:=y) t 2 Y (I.N3 c) λs t=>bW t 2 Y<|uC (n:=U<|iV<|d.P++[y]) t 1 Y É λs t=>cH t 3 Y<|bW t 2 Y<|aV t λÌ s t=>?_;refine dD t 3 Y ((by refine W (X' ..) ?_;have Í:=((I J3) J7).aet;rw [bB] at Í;exact cF Í<|I.N3 c)) λs t=>H ⟨d.R,c5 d.H y<|U<|iV<|d.P++[y],d.P++[y]⟩ ((Ì,⟨y,U<|iV<|d.P++[y],0⟩)::(Z,⟨x,m,M⟩)::z) s ?_ (I.push (λX X o=>by cases o;exact L) g l Y) t
       exact ai4<|aaa I g l Y
      .have mu:∀c,(∀n,F d.H n 0≠0->F c n 0≠0)->oX a (λn=>F c n 0) (e1 a.n)+(U (a.r x)-(M+1)+1+Ch a (R f9 z))<oX a (λn=>F d.H n 0) (e1 a.n)+(U (a.r x)-M+1+Ch a (R f9 z)):=λc o=>S7 (R5 o _) (DD (yT<|zg q<|ha M) _)
       refine dc t ((p2 z).oZ+4) k (c:=2) (x:=ag M) Y<|uC (n:=M+1) t ((p2 z).oZ+4) k (bl Y) λs t=>?_;have t:=Eq.mp (aq (λg=>Fr b s<|s5 ⟨r,B,p⟩ d<| .c f _ g) VS) t;refine qw t 1 Y É<|qw t 1 Y e<|h0 (λn=>?_) λn=>?_
       .refine qw t 1 Y É<|uC t 1 Y e λs t=>qw t 0 Y È<|qw t 0 Y Ê ⟨⟨cj _,cj _⟩,uC t 0 Y È λs t=>H _ ((Z,⟨x,m,M+1⟩)::z) s (mu _ λj N=>?_) (I.Jo L Ë (af mX<|I J1) ?_ λj N=>W (gL e)<|aS N.symm) t⟩
        .refine W (gL e) ?_;split
         .exact Ë
         .exact N
        .exact W (gL e)<|W (aJ Y)<|W (Ij<|bT n) Y
       .exact qw t 0 Y È<|qw t 0 Y Ê ⟨⟨cj _,cj _⟩,uC t 0 Y È λs t=>H ⟨c5 d.R x _,d.H,d.P⟩ ((Z,⟨x,m,M+1⟩)::z) s (mu _ λX h=>h) (I.Jo L Ë (I J1) (gf n).symm λX X=>rfl) t⟩
     .rw [du] at q;have mu:∀c:aa O,(∀n,F d.H n 0≠0->F c n 0≠0)->oX a _ (e1 a.n)+Ch a (R f9 z)<oX a _ _+(U (a.r x)-M+1+Ch a _):=λc o=>S7 (R5 o _) (Nat.lt_add_of_pos_left<|k9 _)
      refine HZ t 3 Y pn λs t=>?_;have t:Fr b s ((s5 ⟨r,B,p⟩ d<| .c f _ (p2 z)).cB Z<|az<|iV [x,m,M]):=wW (l₁:=xm z)▸t;refine qw t 1 Y e<|dc t ((p2 z).oZ+4) k Y<|hk (λn=>?_) λn=>?_
      .have t:=t.bN.tl;refine DE ((I J3).root q n) λÆ Á Z=>?_;have nd:=(n5.mp<|(Z V)▸(I J3) J2).2.1;have t:Fr b s (s5 ⟨r,B,p⟩ ⟨d.R,d.H,Æ++(x::Á)⟩<| .c f (az<|xm z)<|p2 z):=(Z V)▸t;refine n8 (λs X=>U s) (λX T=>QU a v ⟨r,B,p⟩<| .c 129 _ (.c 162 _ (.c 0 _ (.c 39 (ag T.2) ar)))) (λs T=>s5 ⟨r,B,p⟩ ⟨T.1.1,T.1.2,Æ++s⟩ _) (λs T=>Rt a d x _ s T.1.1 T.1.2 T.2) _ ((d.R,d.H),-1) t
        (ec ⟨[],a5<|dw _,λX h=>bG h,λX X=>cp Y Y⟩ (I V) (I J1) (I J2)<|aw ⟨λo=>Int.noConfusion<|o,λo=>jJ o⟩) ?_
       rintro M ⟨⟨k,c⟩,T⟩ s e g t Ç
       refine KH (λn=>?_) λn=>?_
       .obtain⟨M,j,rfl⟩:∃x j,M=x++[j]:=⟨_,_,a5<|ro<|aP (g J4) (λo=>ay o.1 n) (·.2)⟩;have f:=(I J3).lt j (by refine aA (g V) λx o X=>?_;simp only [Z V,o];exact fy _ (gI _ (fy _ hf)))
        have t:=dy .. ▸t;exact YU t 2 Y λs t=>uC t 1 Y (a5 (g J2)▸f) λs t=>qw t 0 Y (a5 (g J1)▸C)<|uC t 0 Y (a5 (g J1)▸f) λs t=>Ç M ((_,_),_) s (a5 a4▸ha _) (g.pop nd f) t
       .have b:=aP (g J4) (·.2) λo=>ay n o.1;refine hv (g V) λx o v B=>?_;rw [b] at o;rw [b,dw] at t;refine H ⟨k,c,Æ⟩ z s (mu _ λj N l=>?_) (dV (g J1) (g J2) (g J3)<|(Z J1) _ (o▸v) (o▸B)) t
        by_cases m:j∈x
        .exact Bu<|af ((v j m) V).symm l
        .exact N<|af ((B j m) V).symm l
      .exact H d z s (mu _ λX h=>h) (dV (I V) (I J1) (I J2)<|(I J3).fin q n) t.bN.tl
    .have o:z=[]:=by
      cases z with
      |nil=>rfl|cons À z=>have Í:=aq U q;rw [X'] at Í;cases Í
     rw [o] at I t;exact Ç d () s ⟨I,I.nil⟩<|B! _ t
 .intro d _ s I t;rw [fi] at I;have T (h:DW a a.n d []) (o:d.P=[]):JY a d.R:=by
   have e:=h J3;dsimp only [HH] at e;rw [o] at e;refine dV (h V) (h J2) (e J3) λn C y L=>?_;rcases e.all n C with q|q
   .exact ay q<|jt<|(e J5) n C
   .exact((e J4) n C q y L).casesOn (λX s=>s) λÂ h X=>aI h
  exact jb t 0 Y<|h _ (T I.1 I.2)
def iP(a:aa FS)(p b:O):=∃f,a[p]?=J f/\b∈f.it
def go(a:aa FS)(p s:O):=er (a[p]?) λf=>cL f.mv s
def yS(h:a[p]?=J f):go a p s=cL f.mv s:=by show er (a[p]?) _=_;exact W h Y
def wx(h:go a p s=J q):∃f,a[p]?=J f/\cL f.mv s=J q:=iv.mp h
def qc{v:b}(h:cL a s=J v):(s,v)∈a:=let⟨_,e⟩:=El h;aO e
def AE{a:aa<|O×b}(h:s∈R (·.1) a):∃v,cL a s=J v:=by
 cases q:cL a s with
 |none=>exact ay h<|lF.mp q|some v=>exact cM v rfl
def dv.Gf(b:dv G T c)(m:f∈c):∀a∈f.b5,a∈f.it:=λa d=>aA ((b J4) f m) λe Z e=>W e<|ak tW<|aL d
def dv.va(a:dv G T b)(m:f∈b):∀c∈f.it,Va G c:=aA ((a J4) f m) λd Z e=>W e<|Dh ((a J9) f m).2
def dv.Di(c:dv G T b)(h:go b p s=J q):∃f a,b[p]?=J f/\b[q]?=J a/\(s,q)∈f.mv/\a.b5=eu (fG G f.it s):=aA (wx h) λf e h=>aA ((c J8) f (aO e) s q<|qc h) λa d g=>⟨f,a,e,d,qc h,g⟩
def dv.pQ(b:dv G T c)(h:iP c p a)(e:bH G a=J s):∃q,go c p s=J q/\iP c q (a+1):=by refine aA h λf d g=>bp (AE<|ak ((b J6) f (aO d) s) ⟨a,g,e⟩) λq j=>?_;have k:=af (yS d) j;refine rK (b.Di k) λl m n o Z r=>?_;rw [d] at n;obtain rfl:=aC n;exact⟨q,k,m,o,b.Gf (aO o) _ (by refine W r ?_;rw [iq];exact ak w7 ⟨a,g,e,Y⟩)⟩
def dv.M3(a:dv G T c)(h:iP c p d)(e:bH G d=J b.aY)(f:G.a9[r]?=J b):iP c p (c8 G r):=by
 refine aA h λg j k=>aA ((a J4) g<|aO j) λl m n=>⟨g,j,?_⟩;rw [n] at k⊢;refine ak tW<|aw ⟨r,b,f,ak ((m J1) _) ?_,Y⟩;rcases tW.mp k with o|⟨q,s,t,v,rfl⟩
 .exact⟨d,o,_,e,aL Y⟩
 .refine aA (((m J1) _).mp v) λj x z=>aA z λy B C=>?_;rw [show bH G (c8 G q)=s.aQ[0]? from (gW t<|cQ _).bH] at e;have H:bt T s.aY b.aY=true:=by
   obtain⟨I,L,z⟩:∃I L,s.aQ=I::L:=by
    cases M:s.aQ with
    |nil=>exact aI<|M▸e|cons I L=>exact⟨I,L,Y⟩
   rw [z] at e;exact ax (aC e)<|(a V) J2 s _ L (aO t) z
  exact⟨j,x,y,B,aw<|aP C (λC=>C▸H) λC=>(a V) J3 _ _ _ C H⟩
def dv.red(c:dv G T b)(h:iP b p a)(d:At G a r j o k)(e:bH G a=A)(g:r≠0):∃f,b[p]?=J f/\r∈f.rd:=by refine aA h λf l m=>⟨f,l,W ((c J5) f<|aO l)<|ak iq<|ak yy ⟨a,m,?_⟩⟩;unfold cr;rw [e,show F G.hX a 0=r by rw [cY,d V];rfl,d4 g];exact hf
def pv(a)(p)(b:aa O):=b.foldl (λo s=>er o λp=>go a p s)<|J p
def G6:pv a p (b++[s])=er (pv a p b) λq=>go a q s:=Gp
def dv.F0(c:dv G T b){p d g r:O}(h:iP b p d)(f:bH G d=J a.aY)(e:G.a9[r]?=J a):∀k,k<=U a.aQ->∃q,pv b p (aF k a.aQ)=J q/\iP b q (c8 G r+k):=by
 refineλk=>k.rec (λZ=>⟨p,Y,c.M3 h f e⟩) λk j=>λl=>aA (j<|uM l) λq m n=>?_
 have o:=(gW e<|uM l).bH;rw [bM l] at o;refine aA (c.pQ n o) λs t v=>⟨s,?_,v⟩;simp only [nM,bM l];show pv b p (aF k a.aQ++[a.aQ[k]])=_;simp only [G6,m];exact t
def dv.wa(b:dv G T a)(h:go a p s=J q):q<U a:=gw (b.Di h) λZ Z Z c Z=>gl c
def akE:∀{b} {k a} {f},b[a]?=J f->(Ex b k)[a]?=J (Et (k+a) f):=by
 intro b;refine @(b.rec (λh=>aI h) λx t c=>?_);intro k a f h
 induction a with
 |zero=>exact W (aC h) Y|succ a=>exact W (a5 (u' k a):k+_=k+1+a)<|c h
def agm:∀{a} {k},U (Ex a k)=U a:=by intro a;exact @(a.rec Y λx t b=>aq _ b)
def Au(k):(Ex a 0)[k]?=b7 (Et k) (a[k]?):=by
 cases q:a[k]? with
 |some r=>have b:=akE (k:=0) q;rw [eF] at b;exact b|none=>exact iu<|W agm<|tF.mp q
def I!(a:go b p s=J q)(h:c (ag q) d):aK (n+2) 369 [q9 G b,ag p,ag s] d c e:=by refine aA (wx a) λf g e=>a6 OP _ Y Y (bJ Y (by simp only [Au,g];rfl) ?_);refine a6 Ox _ Y Y (⟨pX,?_⟩);rw [r3,e];exact bf<|bf h
noncomputable def pK(p:O×O):=aR [ag p.1,ag p.2]
def Xn(h:pK p=pK q):p=q:=by
 have h:[ag p.1,ag p.2]=[ag q.1,ag q.2]:=by injection h
 have h:=hq h;exact qo (yb.mp h.1)<|yb.mp (hq h.2).1
def zE(a:aa<|O×O):aa ai->aa (ai×ai):=jd (λZ=>[]) (λk Z b c=>match c with
|[]=>[]|v::r=>(pK k,v)::b r) a
def uu:∀{a},il (zE b a) (pK p):=by
 intro a;refine br rfl ?_
 induction b generalizing a with
 |nil=>exactλZ h=>bG h|cons k r c=>
  induction a with
  |nil=>exactλZ h=>bG h|cons v s=>exactλe h=>aP (mc h) (λq=>by refine W q ?_;rfl)<|c e
open Classical in
def FW(nd:bw b):∀{a} {j:O} {v},b[j]?=J p->a[j]?=J v->dU (zE b a) (pK p)=J v:=by
 induction b with
 |nil=>intro a j v h;exact aI h|cons k r c=>
  intro a j v h d;cases a with
  |nil=>exact aI d|cons e s=>
   refine(?_:(if pK k=pK p then J e else dU (zE r s)<|pK p)=J v)
   induction j with
   |zero=>refine W (aC h) ?_;exact W (aC d)<|aJ Y|succ j=>exact W (aS λe=>(rV.mp nd).1 p (aO h)<|Xn e)<|c (rV.mp nd).2 h d
open Classical in
def IU(m:p∉b):∀{a},U a=U b->eW (zE b a) (pK p) v=zE (b++[p]) (a++[v]):=by
 induction b with
 |nil=>intro a h;induction a with
  |nil=>rfl|cons _ _=>cases h
 |cons k r c=>
  intro a h
  induction a with
  |nil=>cases h|cons d s=>exact((W (aS λe=>m ((Xn e:k=p)▸b8 ..))<|aq _ (c (λq=>m<|cy _ q)<|fZ h)):(if pK k=pK p then _::zE r s else _::eW (zE r s) (pK p) v)=_::zE _ _)
def JR:∀{a},U a=U b->U (zE b a)=U b:=by
 refine @(b.rec (λZ=>rfl) λk r c=>?_);intro a h
 induction a with
 |nil=>cases h|cons d s=>exact aq _ (c<|fZ h)
def aeT:∀{a},U a=U b->R (·.1) (zE b a)=R pK b:=by
 refine @(b.rec (λZ=>rfl) λk r c=>?_);intro a h
 induction a with
 |nil=>cases h|cons d s=>exact aq _ (c<|fZ h)
def aeu(b:Fr g c d)(e:d.at k=J (m,az<|iV a))(n:U a<cu)(h:∀f j,(∀x,x∈f↔x∈a\/x=y)->(bw a->bw f)->Fr g j (d.g9 k<|az<|iV f)->l bk j)(o:y∈a->l bk c):
 aK (p+1) 224 [aj m,ag y] c l q:=by
 have r (h:Fr g c d) {s:O} {x:O} {t:bc->Prop} (q:d.at k=J (s,az<|iV a)) (v:t<|b6 a x):mW (ag x) (aj s) c t:=by refine W q8 ((W (h.c9 q) (?_:bE _ t)):inR _ t (c s));exact W (NH ..) v
 refine a6 RT (.c 14 _ (.c 168 _ ar)) Y Y<|r b e<|jh<|ef (λq=>?_) λq=>?_
 .exact bf<|o<|uG.mp q
 .have z:y∉a:=λB=>bU<|af q.symm<|ak uG B;refine cH b k e<|zU b k e n λC b=>bf<|h _ C (λx=>?_) (λnd=>?_) b
  .rw [pL,qh]
  .exact ak n5 ⟨nd,lI (λZ h=>bG h) ip,λs H b I e=>z<|(ms I▸e)▸H⟩
def eD.ne:∀{b},eD e f b->∀{a j},b.at a=J (c,o)->b.at j=J (d,p)->a≠j->d≠c:=by
 intro b;refine b.rec (λZ a j e=>by cases e) λg q r h=>λk a j e f l=>?_;cases a with
 |zero=>cases e;induction j with
  |zero=>exact ay Y l|succ j=>exact k.2.2.1 j d p f
 |succ a=>induction j with
  |zero=>cases f;exact(k.2.2.1 a c o e).symm|succ j=>exact h k.2.2.2 e f λz=>l<|aq _ z
def Fr.base(h:Fr g c f)(k)(e:f.at k=J (a,o)):∃d,Fr d c (.c a o bO)/\Fr g d bO/\∀j b p,j≠k->f.at j=J (b,p)->d b=J p:=by
 have g:=(h V).get e;have l:∀b,b≠a->(if b=a then A else c b)=c b:=λb q=>aS q;refine⟨λb=>if b=a then A else c b,ml ⟨aJ Y,g.2,λk b p e=>aI e,a3⟩ λb p e=>?_,ml a3 λb p e=>?_,λj b p m q=>af (l b<|(h V).ne e q m.symm)<|h.c9 q⟩
 .by_cases q:b=a
  .rw [aJ q] at e;exact aI e
  .exact af (l b q).symm e
 .have q:b≠a:=λz=>by rw [z,g.1] at e;exact aI e
  exact af (l b q)<|(h J1) b p e
def Fr.Jj(h:Fr b d e)(k:Fr d c a):Fr b c a:=by
 refine ml ?_ λf o e=>(k J1) f o<|(h J1) f o e;have g:∀a,eD d c a->eD b c a:=by
  refineλa=>a.rec (λZ=>trivial) λf p r j=>λz=>⟨?_,z.2.1,z.2.2.1,j z.2.2.2⟩
  cases q:b f with
  |none=>rfl|some o=>exact iG<|(af ((h J1) f o q).symm) z.1
 exact g a<|k V
def sD(a:aa<|O×O):=R pK a
def wQ(a):=zE a<|iV<|e1<|U a
def vp:U (sD a)=U a:=bB _
def Zx{a:aa<|O×O}:U (iV<|e1<|U a)=U a:=by simp only [du,fi]
def E!{j:O}(nd:bw a)(h:a[j]?=J p):dU (wQ a) (pK p)=J (ag j):=
FW nd h (fV<|wg<|gl h)
def ke(c:O->Prop)(g:FS->aa O)(d:aa FS)(k)(b)(a):=fR (bw a) (∀q s,(q,s)∈a↔c s/\((q<k/\∃f,d[q]?=J f/\s∈g f)\/(q=k/\s∈b)))<|U a<=12*k+U b
def Ii(b:O->Prop)(g:FS->aa O)(c:aa FS)(a:aa<|O×O):=fR (bw a) (∀q s,(q,s)∈a↔b s/\∃f,c[q]?=J f/\s∈g f)<|U a<cu
noncomputable def FS.zX(f:FS):=R (·.1) f.mv
abbrev FX(G:Gr):=Ii (G.nT<=·) FS.zX
def ke.mP:ke a g b 0 [] []:=bZ ip (λq s=>⟨bG,λz=>aP z.2 (λz=>ay z.1<|fC q) λz=>bG z.2⟩)<|bb 0
def ke.end(c:ke d g a (U a) [] b)(l:U a<2^20):Ii d g a b:=by
 have e (f:∀q s,(q,s)∈b↔d s/\∃h,a[q]?=J h/\s∈g h) (j:U b<cu):Ii d g a b:=bZ (c V) f j;refine e (λq s=>jP ((c J1) q s)<|Gx λZ=>⟨?_,λk=>aA k λh m n=>aL ⟨gl m,h,m,n⟩⟩) ?_
 .rintro (z|z)
  .exact z.2
  .exact bG z.2
 .exact cF (c J2)<|cF (ky 12<|bT l)<|ao Y
def ke.lim(h:ke d g e k a b)(c:k<2^20)(l:U a<=12):U b<cu:=
cF (h J2) (cF (d2 (ky 12<|bT c) l)<|ao Y)
def dv.As(a:dv G T c)(b:e5)(m:f∈c):bw (R (·.1) f.mv)/\(∀s∈R (·.1) f.mv,s<G.nS)/\U (R (·.1) f.mv)<=12:=by have nd:=((a J7) f m).imp fI;have d:=λs e=>aA (((a J6) f m s).mp e) λg h e=>(a.va m g h).sym b e;exact⟨nd,d,ae (qs nd d) b.nS⟩
def ke.next(h:ke d g a k b j)(c:a[k]?=J f)(e:∀s,s∈b↔s∈g f)(l:U b<=12):ke d g a (k+1) [] j:=by
 refine bZ (h V) (λq s=>jP ((h J1) q s)<|and_congr Fl ⟨?_,?_⟩)<|ae (h J2)<|d5 l _
 .rintro (⟨a,b⟩|⟨rfl,b⟩)
  .exact aL ⟨rM a,b⟩
  .exact aL ⟨ha _,f,c,(e s).mp b⟩
 .rintro (⟨a,g,m,b⟩|⟨_,b⟩)
  .rcases i4.mp a with a|rfl
   .exact aL ⟨a,g,m,b⟩
   .rw [c] at m;obtain rfl:=aC m;exact aw ⟨Y,ak (e s) b⟩
  .exact bG b
def ke.add(h:ke b g d k c a)(e:b s)(m:s∉c):(k,s)∉a/\ke b g d k (c++[s]) (a++[(k,s)]):=by
 have f:(k,s)∉a:=λq=>by
  rcases(((h J1) k s).mp q).2 with z|z
  .exact j7 k z.1
  .exact m z.2
 refine br f<|bZ (ak n5 ⟨h V,lI (λZ h=>bG h) ip,λa j b l n=>f<|(ms l▸n)▸j⟩) (λq t=>?_) ?_
 .rw [pL,qh,(h J1) q t,pL,qh]
  constructor
  .rintro (⟨a,b⟩|b)
   .exact br a<|b.imp id λb=>br b.1<|aL b.2
   .cases b;exact br e<|aw ⟨rfl,aw rfl⟩
  .rintro ⟨a,b|⟨rfl,b|rfl⟩⟩
   .exact aL ⟨a,aL b⟩
   .exact aL ⟨a,aw ⟨Y,b⟩⟩
   .exact aw Y
 .exact W a4<|W a4<|f6 (h J2) 1
def O_(G:Gr)(a:aa FS)(N:aa bc)(t b:O)(r:aW):aW:= .c 249 (q9 G a)<| .c 253 (aN<|bV N)<| .c 295 (aj t)<| .c 100 (aj b) r
def Dz(G:Gr)(c:aa FS)(N:aa bc)(s t a e:O)(b:aa<|O×O):Cs:= .c s (cw 260<|O_ G c N t a ar)<| .c t (az<|sD b)<| .c a (dC (wQ b) e) bO
def fQ{b:Type}{a:aa b}{x}(h:a[k]?=J x):aF (k+1) a=aF k a++[x]:=by simp only [nM,h];rfl
def EZ{b:Type}{a}(nd:bw a){x:b}(h:a[k]?=J x):x∉aF k a:=λq=>by refine bp (gs.mp q) λc d=>?_;have e:=gl d;rw [dS] at e;have e:=cc e<|mq _ _;rw [g6,aJ e] at d;exact fI e<|ye nd d h
def aj5(j:e5)(f:dv G T c)(a:Fr k l<|Dz G c N d t g e [])(m:∀b e h,FX G c b->Fr k h (Dz G c N d t g e b)->n bk h):
 aK (o+2) 417 [aj d] l n p:=by
 refine a6 Mr (.c 64 _ ar) Y Y<|ej a<|ej a<|cb Y<|cv Au (λX X X=> .c 64 _ _) (λX b e=>Dz G c N d t g e b) (λk b X=>ke (G.nT<=·) FS.zX c k [] b) [] e a .mP (λX X X X X=>rfl) ?_ ?_
 .intro k q b e s r v x a y;have z:=f.As j<|aO v;refine vI a (by refine(?_:J _=_);exact aq _ x8) (cF z.2.2<|ao Y) λB s a=>?_;have C:=ak (uQ<|sG _) z.1;have H:U (eu _)<=12:=W Bz z.2.2;have a:=a.bN;refine cb (a.lt 0 Y) ?_;generalize I:eu _=S at a C H;refine cv d8 (λX X X=> .c 64 _ _) (λX b e=> .c B _ (Dz G c N d t g e b)) (λj b X=>ke _ FS.zX c k (aF j S) b) b e a x (λX X X s a=>a.lt 0 Y) ?_ ?_
  .intro j L b e s r M x a y;rw [fQ M] at y;refine CZ<|jh<|ef (λq=>?_) λq=>?_
   .exact y b e s ((by refine bZ (x V) (λZ t=>jP ((x J1) Z t)<|Gx λh=>or_congr Fl<|Gx λX=>?_)<|ae (x J2)<|d5 (by exact W a4<|dO _ _) _;rw [pL,qh];exact⟨aL,λZ=>aP Z id λe=>ay (e▸h)<|ak xN<|ao q⟩)) a
   .have l:=x.add (j5<|C1 q)<|EZ C M;have n:=x.lim (e8 (gl v)<|f J2)<|ae (lA ..) H;refine aM a 1 Y<|bW a 2 Y<|aM a 1 Y<|vb a 3 Y (d:=pK (k,L)) uu (W (JR Zx) n) λe s a=>?_;have T:eW (wQ b) (pK (k,L)) (ag (U (sD b):O))=wQ (b++[(k,L)]):=by unfold wQ;simp only [IU l.1 Zx,vp,a4,GV,AG,<-ob]
    rw [T] at a;refine aM a 1 Y<|cH a 2 Y<|dD a 2 Y (W vp n) λs a=>y _ e s l.2 ?_;unfold Dz sD;exact W dq a
  .exactλb e s x a=>y b e s ((dI▸x).next v (λs=>I▸iq) H) a.tl
 .exactλb e s x a=>bf<|m b e s (x.end (f J2)) a
def TZ:∀{b} {a} {c} {x},U b=U a->(hA b a).cB c (az<|iV x)=hA (b++[c]) (a++[x]):=by
 intro b
 induction b with
 |nil=>intro a c x h;induction a with
  |nil=>rfl|cons _ _=>cases h
 |cons v r d=>intro a c x h;induction a with
  |nil=>cases h|cons y t=>exact aq _ (d<|fZ h)
def RE(G:Gr)(N)(c)(g:O)(a)(m)(b):=j4 (m<2^G.nT) (∀t∈a,t<G.nT->eJ m t=Q) (∀d∈a,G.nT<=d->F N d u=Q->∀j,c[j]?=J (g,d)->j∈b) (∀x∈b,x<U c)<|U b<=U a
def v'(G)(c)(N)(d)(k)(e a:aa O)(b):=j4 (U e=U b) (U a=k) (U b=k) (∀f∈a,f<2^G.nT)<|∀g<k,∀p h,d[g]?=J (p,h)->∃j f,go c p h=J j/\c[j]?=J f/\RE G N d j (eu<|R (·.1) f.mv) (F a g 0) (F b g [])
set_option tactic.hygienic true in
def zd{c:Type}{a}{x d:c}(e:U a=k):F (a++[x]) b d=if b=k then x else F a b d:=by
 rw [cY,cY];split
 .rename_i q;simp only [q,<-e,h8<|bb _,ql];rfl
 .rename_i q;rcases hZ b (U a) with z|z
  .exact W (hh z) Y
  .refine W (iu z) ?_;rw [iu];exact W a4<|xJ z λy=>q<|af y.symm e
def VV(G)(a)(N)(t b d r)(l):=O_ G a N t b<| .c 155 (aj d)<| .c 122 (aj r) l
def Ey(G:Gr)(b:aa FS)(N:aa bc)(c t e d r:O)(a f:aa O)(g:aa<|aa O):Cs:= .c c (cw 260<|VV G b N t e d r ar)<| .c d (az<|iV f)<| .c r (az<|fO a)<|hA a g
def Hc:fO a++[aj b]=fO (a++[b]):=by unfold fO;exact W dq Y
def D3:U (fO a)=U a:=bB _
def KY(f:Fr a c d)(h:pR a v=J b):pR c v=J b:=by
 cases v with
 |oT _=>exact h|ref e=>
  refine(?_:b7 (·.1) (l2<|c e)=J b);have h:b7 (·.1) (l2<|a e)=J b:=h;cases q:a e with
  |none=>rw [q] at h;cases h|some o=>exact W ((f J1) e o q)<|ax q h
 |_=>cases h
def Κ(p:e5)(q:dv G T f)(g:FX G f j)(Â:uI N)(b:eR n (aj t)=J (sD j))(c:pR n (aj e)=J (wQ j))(a:Fr n x<|Ey G f N k t e o r [] [] [])
 (h:∀d l m s,v' G f N j (U j) d l m->Fr n s (Ey G f N k t e o r d l m)->y bk s):aK (z+3) 412 [aj k] x y B:=by
 refine a6 QK (.c 64 _ ar) Y Y<|ej a<|ej a<|cb (ik a b)<|cv d8 (λX X X=> .c 64 _ _) (λX (d:aa O) C=>Ey G f N k t e o r d C.1 C.2) (λH d (C:aa O×aa _)=>v' G f N j H d C.1 C.2) [] ([],[]) a (ec Y Y Y (λI h=>bG h) λe c=>ay c<|fC e) (λX X X s a=>ik a b) ?_ ?_
 .intro H L d C s À Z n a x;obtain⟨Ä,T⟩:=L;obtain⟨l,m⟩:=C;refine dK (((g J1) Ä T).mp<|aO Z) λz z=>aA z λB H L=>?_;refine bp (AE L) λB L=>?_;have L:=af (yS H) L;refine rK (q.Di L) λX I X H X X=>?_;have M:=q.As p<|aO H;have kT:=gl Z;refine ej a<|I! L<|aV a λq s a=>ej a<|bJ Y (by refine W (Au ..)<|W H ?_;rfl) ?_;refine vI a.bN (by refine(?_:J _=_);exact aq _ x8) (cF M.2.2<|ao Y) λC s a=>?_;have Á:U (eu _)<=12:=W Bz M.2.2;have a:=a.bN;refine cb (a.lt 0 Y) ?_;refine cv d8 (λX v X=> .c 64 _ (.c 201 G.V<| .c 130 (ag Ä)<| .c 183 (ag T)<| .c 33 _ (.c 47 (ag (v:O))<| .c 14 _ _)))
   (λX X T=> .c C _ (.c q (az<|iV T)<|Ey G f N k t e o r d l m)) (λf v T=>RE G N j B ((eu<|R (·.1) I.mv).take f) v T) 0 [] a (ec (tP _) (λt h=>bG h) (λt h=>bG h) (λt h=>bG h)<|bb 0) (λX X X s a=>a.lt 0 Y) ?_ ?_
  .intro f r v T s À N n a x;rw [fQ N] at x;have Ã:=iq.mp<|aO N;have f:=M.2.1 r Ã;have N:r<64:=cc f<|ae p.nS<|ao Y;refine CZ<|ef (λM=>?_) λM=>?_
   .refine⟨⟨Y,cj _,ak hn<|e8 N<|ao Y⟩,⟨cj _,cj _⟩,?_⟩;exact x _ T s ((by
     refine ec (oL (n V)<|FN (ao Y)<|ao M) (λt b p=>?_) (λN j p=>?_) (n J3)<|ae (n J4)<|W a4<|dO _ _
     .refine W (xw ..) ?_;rcases ma b with b|b
      .exact W ((n J1) t b p) Y
      .exact W (ms b)<|W MN (Ak ..)
     .rcases ma j with j|j
      .exact(n J2) N j p
      .exact ay (ao M)<|ak fS<|ms j▸p)) a
   .have y:=j5<|C1 M;refine aM a 2 Y<|bJ Y (xi<|e6 (d:=u)<|W (Â V) f)<|ef (λz=>?_) λz=>?_
    .refine bp (gs.mp<|ak ((g J1) B r) ⟨y,I,H,Ã⟩) λo f=>cH a 1 Y<|aM a 2 Y<|tG (KY a c) (uu (p:=(B,r))) (E! (g V) f) ?_;exact zU a 1 Y (cF (n J4)<|cF (ae (lA ..) Á)<|ao Y) λs a=>x v _ s ((by
      refine ec (n V) (λt b p=>?_) (λN j p M e c=>?_) (λo r=>?_)<|by simp only [a4,a4];exact f6 (n J4) _
      .rcases ma b with b|b
       .exact(n J1) t b p
       .exact ay (ms b▸p)<|ak fS y
      .rcases ma j with j|j
       .exact gI _ ((n J2) N j p M e c)
       .refine fy _ (ak qh ?_);rw [ms j] at c;obtain⟨k,C⟩:=kq.mp c;obtain⟨Å,k⟩:=kq.mp f;exact(zQ<|g V).mp<|af C k.symm
      .rcases ma r with r|r
       .exact(n J3) o r
       .exact W (ms r)<|gl f)) a
    .exact x v T s ((by
      refine ec (n V) (λt b p=>?_) (λN j p M=>?_) (n J3)<|ae (n J4)<|W a4<|dO _ _
      .rcases ma b with b|b
       .exact(n J1) t b p
       .exact ay (ms b▸p)<|ak fS y
      .rcases ma j with j|j
       .exact(n J2) N j p M
       .rw [ms j,z] at M;exact bU M)) a
  .intro v T s b a;rw [dI] at b;refine aM a 2 Y<|cH a 3 Y<|zU a 3 Y (W (n J1)<|e8 kT<|g J2) λs a=>aM a 2 Y<|cH a 4 Y ?_;refine dD a 4 Y (W D3<|W (n V)<|W (n J2)<|e8 kT<|g J2) λs a=>x (d++[q]) (l++[v],m++[T]) s ((by
    refine ec (by simp only [a4,a4,n V];rfl) (by simp only [a4,n J1];rfl) (by simp only [a4,n J2];rfl) (λo r=>?_) λe c t z M=>?_
    .rcases ma r with r|r
     .exact(n J3) o r
     .exact W (ms r)<|b V
    .simp only [zd<|n J1,zd<|n J2];rcases i4.mp c with c|rfl
     .simp only [aS<|fI c,aS _];exact(n J4) e c t z M
     .rw [Z] at M;cases M;rw [aJ Y,aJ Y];exact⟨B,I,L,H,b⟩)) ?_
   have a:=a.tl.Bx;unfold Ey;exact ax Hc<|ax (TZ<|n V) a
 .exactλd C s n a=>bf<|h d C.1 C.2 s n a
def UC:∀{a:Cs},(a.mZ b).cB c o=a.mZ (b.cB c o):=by intro a;exact a.rec Y λb p r d=>aq _ d
def aev:∀{b} {a},U b=U a->(hA b a).mZ (hA c d)=hA (b++c) (a++d):=by
 intro b
 induction b with
 |nil=>intro a h;induction a with
  |nil=>rfl|cons _ _=>cases h
 |cons e r f=>intro a h;induction a with
  |nil=>cases h|cons x t=>exact aq _ (f<|fZ h)
def W6(c:Fr g b d)(h:∀o s,Fr g s (d.mZ o)->p s=J all)(q:U all<cu)
 (j:∀e a k,U a=U all->Fr g k (.c e (az<|fO a)<|d.mZ<|hA a<|dJ (U all) [])->r (aj e) k):
 yQ (λl b f=>cN m n (kr<|bS Q) l b λv b=>mU b v λt=>f t b) (λl b f=>cN m n (.list ta) l b f) (λl v b f=>mJ m n (d9 x) l v b f) p all l b r:=by
 have y:d=d.mZ bO:=by clear c h j;exact d.rec Y λb p r z=>aq _ z
 refine wu c (λk B C=>∃a,U a=k/\B=fO a/\C=d.mZ (hA a<|dJ k [])) ⟨[],Y,Y,y⟩ (λk B C e o s f H=>?_) ?_ q ?_
 .obtain⟨a,_,_,rfl⟩:=H;rw [UC] at f;exact h _ s f
 .refineλk y B C I s L M N H c T Z=>aV c λl s c=>?_
  obtain⟨a,v,rfl,rfl⟩:=H;exact T _ s _ c.EV ⟨a++[l],W a4<|W v Y,Hc,W Gv<|ax (BM<|by rw [v,ig]) UC⟩
 .intro e B C s f H;obtain⟨a,v,rfl,rfl⟩:=H;exact j e a s v f.bN
def MR{a b:O}(h:a<b->c)(d:b<=a->e):dH (nx (a:au) (b:au)) c (dH (nx (a:au) (b:au)) C e):=h0 h λq=>h0 (λz=>ay z<|ak fS q) λZ=>d q
def acO{a b:O}(h:a<=b->c)(d:b<a->e):dH (uY (a:au) (b:au)) c (dH (uY (a:au) (b:au)) C e):=xo h λq=>xo (λz=>ay z<|ak xN q) λZ=>d q
def akG(j:Fr o f k)(e:k.at p=J (c,cw l g))(m:cW g 253=J (aN<|bV N))(d:∀y∈a,y<U N)
 (n:∀e,(∀b,(∀y∈cq (b+1) a,F N y u=Q)->e<=b)->h (ag e) f):aK (q+1) 407 [aj c,aR<|iV a] f h r:=by
 refine a6 My _ Y Y (n8 (λs Z=>s) (λs Z=> .c 64 _ (.c 123 _ (.c 67 (ag (s:O)) ar))) (λZ Z=>bO) (λs Z=>s<=U a) (U<|iV a) () de (c6 du) λs Z t v x f z=>?_);have B:(s=0\/∃y,a[s-1]?=J y/\F N y u=u)->ei h (ag<|max _ 0) t:=λC=>by
  refine W (a! s)<|m8 f<|n _ λb H=>?_;rcases C with C|⟨y,d,I⟩
  .exact W C<|cQ _
  .refine j5 λq=>?_;have L:y∈cq (b+1) a:=aO (i:=s-1-(b+1)) (by simp only [Jl,zD q];exact d);exact bU<|H y L▸I
 have M:∀{v},v l g->s8 (t c) v:=λ{v} C=>W Fe<|W ((f J1) c _ (j.c9 e)) C;refine MR (λq=>?_) λq=>?_
 .have T:=cc (Tq q EI) x;refine M<|Cm m<|pf (zD q).symm<|bJ Y (fV<|bM T) ?_;exact bJ Y (xi<|e6 (d:=u)<|d _ (y9 T))<|ef (λC=>pf (zD q).symm<|z _ () t (Tq q EI) (bT T) f) λC=>vd<|B<|aw ⟨_,bM T,C⟩
 .exact vd<|B<|aL<|vy.mp q
def dv.we(b:dv G T c)(d:GW G)(m:f∈c):bw f.rd/\(∀r∈f.rd,r≠0/\∃a,G.a9[r]?=J a/\c8 G r+U a.aQ∈f.it)/\U f.rd<=12:=by
 have nd:bw f.rd:=W ((b J5) f m)<|(by
  refine ak (uQ<|sG _)<|ak XJ ⟨λe X=>?_,QF (λ{e j} g h q x k y l n=>?_)<|aA ((b J4) f m) λo p n=>W n<|Q2 ((b J9) f m).1<|p V⟩
  .unfold cr;cases(bH G e).isNone&& !(aE _ 0) with
   |true=>exact lI (λX s=>bG s) ip|false=>exact ip
  .have t:∀e x,x∈cr G e->bH G e=A/\x=F G.hX e 0:=λe x k=>by
    unfold cr at k;cases z:(bH G e).isNone&& !(aE _ 0) with
    |true=>rw [z] at k;exact⟨W4.mp ((wB ..).mp z).1,ms k⟩|false=>rw [z] at k;exact bG k
   refine dK (t e x k) λv B=>dK (t j y l) λC H=>hK ((b.va m) e g) λr I o a L=>hK ((b.va m) j h) λM N Z c jR=>?_;have T:F G.hX e 0=r:=by refine W (cY)<|W (L V) ?_;rfl
   have p:F G.hX j 0=M:=by refine W (cY)<|W (jR V) ?_;rfl
   obtain rfl:=af T.symm<|af B.symm<|af n<|af H p;obtain rfl:=aC<|af (L J3).symm<|jR J3;obtain rfl:=aC<|af (L J1).symm<|jR J1;exact q<|af (L J2)<|af (hJ (L J4)<|tF.mp<|L.bH▸v) (hJ (jR J4)<|tF.mp<|jR.bH▸C).symm▸a5 (jR J2))
 have x:∀r∈f.rd,r≠0/\∃a,G.a9[r]?=J a/\c8 G r+U a.aQ∈f.it:=λr k=>by
  rw [(b J5) f m] at k;refine aA (yy.mp<|iq.mp k) λe g y=>hK (b.va m e g) λM I o a l=>?_;have T:F G.hX e 0=M:=by refine W (cY)<|W (l V) ?_;rfl
  unfold cr at y;cases z:(bH G e).isNone&& !(aE _ 0) with
  |false=>exact bG<|z▸y|true=>
   rw [z] at y;have z:=(wB ..).mp z;refine W (ms y)<|W T ?_;have t:=W4.mp z.1;rw [l.bH] at t;refine⟨λn=>?_,a,l J3,?_⟩
   .rw [T,n] at z;exact lO z.2
   .exact ax (hJ (l J4)<|tF.mp t)<|ax l.c8<|ax (l J2) g
 exact⟨nd,x,ae (qs nd λr k=>let⟨_,a,s,_⟩:=x r k;(gl s))<|ae d.oV<|ao Y⟩
abbrev IE:=Ii (λZ=>bh) FS.rd
def FI(m)(a:aa<|aa O):=e7 (∀j,bw<|F a j [])<|∀j,∀x∈F a j [],x<m
def mw(m)(b a):=fR (U a=U b) (∀j,∀x∈F b j [],x∈F a j [])<|FI m a
def mw.EJ(a:mw m c d)(b:mw m d e):mw m c e:=bZ (af (b V)<|a V) (λj x h=>(b J1) j x<|(a J1) j x h)<|b J2
def mw.refl(h:FI m a):mw m a a:=bZ Y (λZ Z h=>h) h
def CN(G:Gr)(c)(N)(d:aa<|O×O)(e)(k p:O)(a:Ru)(b):=uJ<|∀f q,a.aQ[b]?=J f->pv c p (aF b a.aQ)=J q->G.nT<=f->(∀y∈cq (b+1) a.aQ,F N y u=Q)->∃j,d[j]?=J (q,f)/\k∈F e j []
def BF(G)(c)(N)(a e:aa<|O×O)(d)(k p r)(b):=e7 (∀f<U b.aQ,CN G c N a d k p b f)<|∀q,pv c p b.aQ=J q->∃j,e[j]?=J (q,r)/\k∈F d (U a+U a+j) []
def Br(G)(b)(N)(a c)(d)(k):=uJ<|∀p e,a[k]?=J (p,e)->∀r∈G.jY e,∀f,G.a9[r]?=J f->BF G b N a c d k p r f
def CN.up(h:CN G a N b c k p d e)(g:mw m c f):CN G a N b f k p d e:=
iB λj q a b c d=>((h V) j q a b c d).imp λj e=>br e.1<|(g J1) j k e.2
def BF.up(h:BF G a N b c d k p r e)(g:mw m d f):BF G a N b c f k p r e:=
cp (λj l=>((h V) j l).up g) λq e=>((h J1) q e).imp λj e=>br e.1<|(g J1) _ k e.2
def Br.up(h:Br G a N b c d k)(g:mw m d e):Br G a N b c e k:=iB λp f e r j l n=>((h V) p f e r j l n).up g
structure IA where
a:O
t:O
i:O
d:O
r:O
b:O
u:O
l:O
def fiL(G)(b)(N)(a:IA)(x):=VV G b N a.t a.i a.d a.r<| .c 231 (aj a.b)<| .c 136 (aj a.u)<| .c 237 (aj a.l) x
def ox(G:Gr)(d:aa FS)(N:aa bc)(a:IA)(b c ls:aa O)(e:aa<|O×O)(f:O)(g:aa<|aa O):Cs:=
.c a.l (dC (zE e<|fO ls) f) (.c a.u (az<|fO c)<| .c a.b (az<|fO b)<| .c a.a (cw 260<|fiL G d N a ar)<|hA (b++(c++ls)) g)
set_option tactic.hygienic true in
def PO{c:aa<|O×O}{ls}(d:Fr t l<|ox G m N n f g ls o e a)(v:(f++(g++ls))[j]?=J p)(q:j<U a)(b:FI (U c) a)(x:k<U c)(y:U c<cu)
 (r:∀h s,mw (U c) a h->k∈F h j []->Fr t s (ox G m N n f g ls o e h)->z bk s):aK (B+1) 224 [aj p,ag k] l z C:=by
 have H:(ox G m N n f g ls o e a).at (j+4)=J (p,az<|iV<|F a j []):=pg v<|e6 q;refine aeu d H (cF (qs ((b V) j)<|(b J1) j) y) (λI s m nd d=>?_) λm=>r a l (.refl b) m d;have L:∀M,F (c5 a j I) M []=if j=M then I else F a M []:=λM=>gL q
 refine r (c5 a j I) s (bZ (mX ..) (λM T Z=>?_)<|cp (λM=>?_) λM T Z=>?_) ?_ ?_
 .refine W (L ..) ?_;split
  .rename_i q;rw [<-q] at Z;exact ak (m T)<|aL Z
  .exact Z
 .refine W (L ..) ?_;split
  .exact nd<|(b V) j
  .exact(b V) M
 .rw [L] at Z;split at Z
  .exact aP ((m T).mp Z) ((b J1) j T) λe=>e▸x
  .exact(b J1) M T Z
 .exact W (L ..)<|W (aJ Y)<|ak (m k)<|aw Y
 .unfold ox;exact ax Gq d
def sz(G:Gr)(d)(N:aa bc)(a b:aa<|O×O)(e f ls:aa O)(c):=oj (U e=U a) (U f=U a) (U ls=U b) (U c=U a+U a+U b) (IE d b)<|FI (U a) c
def sz.v(h:sz G g N c k a d e m)(f:j<U c):∃b,a[j]?=J b/\(a++(d++e))[j]?=J b:=by have q:j<U a:=W (h V) f;exact⟨a[j],bM q,W (hh q)<|bM q⟩
def sz.l(h:sz G k N b d e f a m)(g:j<U d):∃c,a[j]?=J c/\(e++(f++a))[U b+U b+j]?=J c:=by have q:j<U a:=W (h J2) g;refine⟨a[j],bM q,?_⟩;exact W (h8<|by simp only [h V,cA];exact dO _ _)<|W (h V)<|W (cA ..)<|W (uh ..)<|W (h8<|by rw [h J1];exact dO _ _)<|W (h J1)<|W (uh ..)<|bM q
def sz.up(h:sz G b N a c d e f j)(g:mw (U a) j k):sz G b N a c d e f k:=eY (h V) (h J1) (h J2) (af (g V)<|h J3) (h J4)<|g J2
def aiH:(hA (a++(b++c))<|dJ (U<|a++(b++c)) []).cB d (az [])=hA (a++(b++(c++[d]))) (dJ (U<|a++(b++(c++[d]))) []):=by have e:a++(b++(c++[d]))=(a++(b++c))++[d]:=ax (dy ..)<|ax (dy ..)<|ax (dy ..) Y;exact W (BM<|by exact W ig Y)<|W e<|W (a4 (bs:=[d]))<|W GV<|W Gv Y
def Jf(G)(a)(N)(b f:aa<|O×O)(k p r)(c)(e)(s q)(d):=hW (pv a p (aF s c.aQ)=J q) (iP a q<|c8 G r+s) (mw (U b) e d)<|∀g<s,CN G a N b d k p c g
def Jf.next(h:Jf G a N b m k p r c n s q o)(e:c.aQ[s]?=J y)(t:go a q y=J f)(d:iP a f<|c8 G r+s+1)(g:mw (U b) o j)(v:G.nT<=y->(∀y∈cq (s+1) c.aQ,F N y u=Q)->∃l,b[l]?=J (q,y)/\k∈F j l []):
 Jf G a N b m k p r c n (s+1) f j:=by
 refine dV ?_ d ((h J2).EJ g) λx d=>?_
 .simp only [fQ e,G6,h V];exact t
 .refine aP (i4.mp d) (λz=>?_) λz=>?_
  .exact((h J3) x z).up g
  .refine W z<|iB λB C a b H d=>?_;rw [e] at a;obtain rfl:=aC a;rw [h V] at b;obtain rfl:=aC b;exact v H d
def ť(á:GW G)(o:dv G Ã c)(q:FX G c d)(Æ:Q0 G N)(Ê:eR é (aj l.t)=J (sD d))(n:pR é (aj l.i)=J (wQ d))(Ì:U g=U d)(Í:U e=U d)
 (Å:∀p s,G.nT<=s->∀t,c[p]?=J t->s∈t.zX->∃m,iP c p m/\bH G m=J s)(È:∀r h,G.a9[r]?=J h->G.nT<h.aY->r≠0)
 (Ç:∀p s,(p,s)∈d->G.nT<s)
 (a:Fr é À<|ox G c N l g e [] [] f<|dJ (U<|g++(e++[])) [])
 (Î:∀j ls f b I,sz G c N d j g e ls b->(∀k<U d,Br G c N d j b k)->Fr é I (ox G c N l g e ls j f b)->Á bk I):aK (Â+4) 416 [aj l.a] À Á Ä:=by
 refine a6 SS (.c 64 (aj l.a) ar) Y Y<|aM a 3 Y<|aM a 3 Y<|cb Y<|cv Au (λX X X=> .c 64 (aj l.a)<| .c 201 G.V ar) (λX (I:aa (O×O)×aa O) f=>ox G c N l g e I.2 I.1 f<|dJ (U<|g++(e++I.2)) []) (λk I X=>ke (λX=>bh) FS.rd c k [] I.1/\U I.2=U I.1) ([],[]) f a ⟨.mP,Y⟩ (λX X X X X=>rfl) ?_ ?_
 .intro k t I f s M Ð Z a T;have É:=aO Ð;have B:=o.we á É;have Ë:=e8 (gl Ð)<|o J2;refine cb Y<|cv d8 (λX X X=> .c 64 (aj l.a)<| .c 201 G.V<| .c 130 (Et k t) ar) (λX (I:aa (O×O)×aa O) f=>ox G c N l g e I.2 I.1 f<|dJ (U<|g++(e++I.2)) []) (λC I X=>ke (λX=>bh) FS.rd c k (aF C t.rd) I.1/\U I.2=U I.1) I f a Z (λX X X X X=>rfl) ?_ ?_
  .intro C t I f s M H Z a T;obtain⟨j,ls⟩:=I;have y:=Z.2;rw [fQ H] at T;have Ï:=Z.1.add a3<|EZ B.1 H;refine aV a λL s a=>aM a 3 Y<|vb a 0 Y (d:=pK (k,t)) uu (W (JR<|af D3 y)<|Z.1.lim Ë<|ae (lA ..) B.2.2) λf s a=>T (j++[(k,t)],ls++[L]) f s ⟨Ï.2,by simp only [a4,a4,y];rfl⟩ ?_;unfold ox;exact ax aiH<|ax Hc<|ax (IU Ï.1<|af D3 y) a
  .intro I f s Z a;rw [dI] at Z;exact T I f s ⟨Z.1.next Ð (λX=>Fl) B.2.2,Z.2⟩ a
 .intro I f s Z a;obtain⟨j,ls⟩:=I;have I:=Z.1.end (o J2);have y:=Z.2;have Ñ:sz G c N d j g e ls (dJ (U<|g++(e++ls)) []):=by
   have z:∀C,F (dJ (U<|g++(e++ls)) ([]:aa O)) C []=[]:=λC=>by simp only [cY,uU];split<;>rfl
   exact eY Ì Í y (W ig<|W a4<|W a4<|W Ì<|W Í<|W y<|W (cA ..) Y) I<|cp (λC=>W (z ..) ip) λC Ó B=>by rw [z] at B;exact bG B
  refine aM a 3 Y<|te (ik a Ê) ?_;have Ò:tL (U (sD d):O):=a5 vp▸⟨n3 (ao Y)<|cj _,xI (ak hn<|q J2)<|ao Y⟩;refine br Ò<|cv mR (λX X X=> .c 64 _ (.c 201 G.V ar)) (λX b X=>ox G c N l g e ls j f b) (λk b X=>sz G c N d j g e ls b/\∀m<k,Br G c N d j b m) _ () a ⟨Ñ,λm n=>absurd n<|fC m⟩ (λX X X X X=>rfl) ?_ ?_
  .intro k Ó b _ s M B Z a T;have B:=lu B;refine W B.1 ?_;have Ø:k<U d:=by have Ô:=B.2;exact vp▸Ô
   have Õ:=bM Ø;generalize d[k]=Ö at Õ;obtain⟨p,I⟩:=Ö;have Ù:=aO Õ;refine dK (((q J1) p I).mp Ù) λÚ z=>aA z λÛ Ü Ý=>?_;refine aA (Å p I Ú Û Ü Ý) λÞ ß à=>?_;refine aM a 3 Y<|bJ (ik a Ê) (by unfold sD;simp only [cf,Õ];rfl) ?_;refine V1 ((o.As á<|aO Ü).2.1 I Ý)<|cb Y<|cv d8 (λX X X=> .c 64 _ (.c 201 G.V<| .c 0 _ (.c 93 (ag p)<| .c 40 (ag I) ar))) (λX b X=>ox G c N l g e ls j f b) (λC v X=>mw (U d) b v/\∀r∈aF C (G.jY I),∀h,G.a9[r]?=J h->BF G c N d j v k p r h) b () a ⟨.refl<|Z.1 J5,λr Î=>bG Î⟩ (λX X X X X=>rfl) ?_ ?_
   .intro C r â _ s M ä ã a T;have T:=λb s=>T b () s;rw [fQ ä] at T;refine aA (u0.mp<|aO ä) λh C y=>?_;have å:=Z.1.up ã.1;have æ:bH G Þ=J h.aY:=a5 y▸à;refine bJ Y (Ax C)<|aM a 3 Y<|akG a (p:=3) Y Y (λt H=>a5 (Æ V)▸(á.lt h<|aO C).2 t H) λç è=>?_;refine br (a5 du▸mQ (ae (á.yx h<|aO C)<|of_decide_eq_true rfl)) ?_;refine cv mR (λX (x:O) _=> .c 64 _ (.c 201 G.V<| .c 0 _ (.c 93 _ (.c 40 _ (.c 61 _ (.c 123 _ (.c 30 _ (.c 3 (ag x) ar))))))))
     (λX X b=>ox G c N l g e ls j f b) (λs x b=>Jf G c N d j k p r h â s x b) p â a (dV Y (o.M3 ß æ C) (.refl<|å J5) λm n=>ay n<|fC m) (λX X X X X=>rfl) ?_ ?_
    .intro ê Ó x ó s M B N a T;have B:=lu B;refine W B.1 ?_;have ë:ê<U h.aQ:=by have Ô:=B.2;exact ax du Ô
     have H:=bM ë;generalize h.aQ[ê]=t at H;have B:=å.up<|N J2;refine aA (o.pQ (N J1)<|af ((gW C<|bT ë).bH) H) λì í î=>bJ Y (fV H) ?_;have ï:∀v s,mw (U d) ó v->_->Fr é s _->
      aK (Â+3) 369 [q9 G c,ag x,ag t] s (λc s=>M (.c 64 _ (.c 201 G.V<| .c 0 _ (.c 93 _ (.c 40 _ (.c 61 _ (.c 123 _ (.c 30 _ (.c 3 c ar)))))))) s) (λX=>bX):=
      λv s M ñ a=>I! í<|T ì v s (N.next H í î M ñ) a
     refine acO (λz=>?_) λz=>?_
     .refine CZ<|jh<|ef (λH=>?_) λH=>?_
      .have H:=ao H;exact aM a 3 Y<|ï ó s (.refl<|B J5) (λx=>ay H<|ak fS x) a
      .have ð:=j5<|C1 H;refine aA (wx í) λò ô X=>bp (gs.mp<|ak ((q J1) x t) ⟨ð,ò,ô,hM<|qc<|af (yS ô).symm í⟩) λH l=>?_;have c:=gl l;refine aA (B.v c) λL õ ö=>aM a 3 Y<|tG (KY a n) (uu (p:=(x,t))) (E! (q V) l)<|aM a 3 Y<|dc a 2 Y (rR õ)<|PO a ö (by simp only [B J3,cA];exact cc c<|dO _ _) (B J5) Ø (q J2) λv s M ø a=>?_;have t:=B.up M;refine hk (λù=>?_) λù=>?_
       .have ú:∃L,e[H]?=J L/\(g++(e++ls))[U d+H]?=J L:=by have x:H<U e:=W (t J1) c;refine⟨e[H],bM x,?_⟩;exact W (h8<|by rw [t V];exact dO _ _)<|W (t V)<|W (uh ..)<|W (hh x)<|bM x
        exact aA ú λd e g=>aM a 3 Y<|dc a 1 Y (rR e)<|PO a g (a5 (t J3)▸cc (so c _) (dO _ _)) (t J5) Ø (q J2) λd s t e a=>aM a 3 Y<|ï d s (M.EJ t) (λX X=>⟨H,l,(t J1) H k ø⟩) a
       .exact aM a 3 Y<|ï v s M (λX X=>⟨H,l,ø⟩) a
     .exact aM a 3 Y<|ï ó s (.refl<|B J5) (λX ñ=>ay (è ê ñ)<|ak xN z) a
    .intro x ó s N a;rw [fi,du] at N;have B:=å.up<|N J2;have g:=N V;dsimp only [HH] at g;rw [dI] at g;have k:=gW C<|bb _;refine aA (o.red (N J1) k (af k.bH<|iu<|bb _)<|È r h C<|y▸Ç p I Ù) λò ô d=>?_;refine bp (gs.mp<|ak ((Z.1 J4) J1 x r) ⟨a3,ò,ô,d⟩) λH l=>?_;have c:=gl l;refine aA (B.l c) λL õ ö=>aM a 3 Y<|tG (a.ld 0 Y) (uu (p:=(x,r))) (FW ((Z.1 J4) V) l<|rR õ)<|PO a ö (a5 (B J3)▸so c _) (B J5) Ø (q J2) λv s M ø a=>T v s ⟨ã.1.EJ<|(N J2).EJ M,λt e o y=>?_⟩ a;rcases ma e with e|e
     .exact(ã.2 t e o y).up<|(N J2).EJ M
     .rw [ms e] at y⊢;exact ax (aC<|af C.symm y)<|cp (λm n=>((N J3) m n).up M) λI k=>ax (aC<|af g.symm k)<|⟨H,l,ø⟩
   .intro v _ s N a;rw [dI] at N;refine T v () s ⟨Z.1.up N.1,λm n=>?_⟩ a;rcases i4.mp n with z|z
    .exact(Z.2 m z).up N.1
    .refine W z<|iB λp q L r ä h C=>?_;cases af Õ.symm L;exact N.2 r ä h C
  .intro b _ s Z a;rw [fi,vp] at Z;exact bf<|Î j ls f b s Z.1 Z.2 a
def aba(h:a l=J (dC b e))(c:K (qU a<|aj l)<|R (·.1) b):w9 (aj l) a K:=W Ke λG Z g=>g<|MF (show b7 (·.1) (l2<|a l)=_ by rw [h];rfl) c
def adW(h:b l=J (dC c e))(d:a l=J (dC c e)):qU b (aj l) a=J (R (·.1) c):=by
 have f:∀s,s l=J (dC c e)->w8 s (aj l)=e:=λs h=>by show dN (b7 (·.2)<|l2<|s l) 0=e;exact W h Y
 refine(?_:(if w8 a _=w8 b _ then b7 _ (pR a _) else A)=_);simp only [f b h,f a d,aJ Y];show(b7 (·.1)<|l2<|a l).map _=_;exact W d Y
def alg(h:U b=U a):∀k:O,(R (·.1)<|zE a b)[k]?=b7 pK (a[k]?):=λk=>W (aeT h) (cf ..)
def Jm(b)(a)(c)(k)(M):=fR (U M=k) (∀f∈M,f<2^b)<|∀j<k,∀x∈F c j [],Sb (F a x 0)<|F M j 0
def acz(a:Fr o g<| .c k (cw p q) bO)(t:cW q 237=J (aj l))(Ã:cW q 301=J (aN<|iV d))(n:o l=J (dC (zE c<|fO r) L))
 (s:IE N c)(y:U r=U c)(T:U e=U c)(Ä:∀j<U c,∃m,r[j]?=J m/\o m=J (az<|iV<|F e j []))(Á:∀j,∀x∈F e j [],x<U d)(Å:∀f∈d,f<2^b)
 (h:∀M,Jm b d e (U c) M->I (g0<|zE c<|iV M) g):aK (Z+1) 415 [aj k] g I À:=by
 have ext:∀{I} {L},Fr g I L->I k=J _/\∀b N,o b=J N->I b=J N:=λf=>⟨(f J1) k _ (a.c9 (k:=0) Y),λb N Z=>(f J1) b N<|(a J1) b N Z⟩;have o:∀{I} {L} {N},Fr g I L->N p q->s8 (I k) N:=λf z=>W Fe<|W (ext f).1 z;refine a6 R0 (.c 64 _ ar) Y Y<|m7 de λq C I a=>o a<|Cm t<|aba ((ext a).2 l _ n) ?_;have Â:U (fO r)=U c:=W D3 y;refine cv (alg Â) (λX X X=> .c 64 _ _) (λT M C=> .c q (dC (zE (aF T c)<|iV M) C) bO) (λT M X=>Jm b d e T M) [] C a (bZ Y (λX h=>bG h) λj r=>ay r<|fC j) (λX X X y y=>adW ((ext a).2 l _ n)<|(ext y).2 l _ n) ?_ ?_
 .intro T y M C I N v B a H;have Æ:=gl v;refine aA (Ä T Æ) λm Ç È=>o a<|Cm t<|tG (by refine(?_:b7 (·.1) (l2<|I l)=_);refine W ((ext a).2 l _ n) ?_;rfl) uu (FW (s V) v<|rR Ç) ?_;have l:∀{I} {L},Fr g I L->eR I (aj m)=J (iV _):=λf=>by show mV _=_;exact aq _ ((ext f).2 m _ È)
  refine cb (l a)<|cv d8 (λX (x:O) _=> .c 64 _ (.c 109 _ (.c 55 (pK y)<| .c 47 (ag (x:O)) ar))) (λX X X=> .c q _ bO) (λj x X=>x<2^b/\∀n∈aF j (F e T []),Sb (F d n 0) x) 0 () a ⟨tP b,λn h=>bG h⟩ (λX X X I a=>l a) ?_ ?_
  .refineλj n x X I N t g a H=>o a<|Cm Ã<|Hg (Á T n<|aO t) ⟨⟨cj _,cj _⟩,H _ () I ⟨oL g.1<|ju Å n,λm hw=>?_⟩ a⟩
   rw [fQ t] at hw;rcases ma hw with hw|hw
   .exact(g.2 m hw).Bo
   .exact W (ms hw)<|Sb.wO λX Z=>Z
  .intro x _ I g a;rw [dI] at g;have L:y∉aF T c:=λZ=>by refine bp (gs.mp Z) λN l=>?_;have o:=gl l;rw [dS] at o;have o:=cc o<|mq _ _;rw [g6,aJ o] at l;obtain⟨k,b⟩:=kq.mp l;obtain⟨n,t⟩:=kq.mp v;exact fI o<|(zQ<|s V).mp<|af b t.symm
   have m:U (iV M)=U (aF T c):=W du<|W (B V)<|W dS<|W (gf<|bT Æ) Y;have Z {y:aa O} {q:O} (h:Jm b d e T M) (N:q<2^b) (g:F e T []=y) (p:∀x∈y,Sb (F d x 0) q):Jm b d e (T+1) (M++[q]):=by
    refine bZ (by refine W a4<|W (h V) ?_;rfl) (λf k=>?_) λj r x l=>?_
    .rcases ma k with k|k
     .exact(h J1) f k
     .exact W (ms k) N
    .refine W (zd<|h V) ?_;rcases i4.mp r with z|z
     .exact W (aS<|fI z)<|(h J2) j z x l
     .refine W (aJ z) ?_;rw [z,g] at l;exact p x l
   exact vb a 0 Y uu (W (JR m)<|cF (lA ..)<|s J2) λC I a=>H _ C I (Z B g.1 Y g.2) (W (fQ v)<|ax ob<|ax (IU L m) a)
 .exactλM C I B a=>Kr (dI▸a) 0 Y<|h M B
def Bn(G)(b)(N)(a c)(e)(f d)(g h M):=Hf (Q0 G N) (FX G b a) (IE b c) (∀j<U a,∀p k,a[j]?=J (p,k)->∃l m,go b p k=J l/\b[l]?=J m/\RE G N a l (eu<|R (·.1) m.mv) (F e j 0) (F f j [])) (∀k<U a,Br G b N a c d k) (JY ⟨U a,f,e,G.nT⟩ g) (JY ⟨U a,aF (U a) d,g,G.nT⟩ h)<|Jm G.nT h (cq (U a+U a) d) (U c) M
def dv.lK(d:dv G T b)(c:b[p]?=J f)(m:s∈f.zX):∃a,iP b p a/\bH G a=J s:=aA (((d J6) f (aO c) s).mp m) λa e g=>⟨a,⟨f,c,e⟩,g⟩
def dv.key_ne(a:dv G T b)(g:fm){p s:O}(c:b[p]?=J f)(m:s∈f.zX):s≠G.nT:=by obtain⟨d,⟨e,h,j⟩,k⟩:=a.lK c m;exact hK (a.va (aO h) d j) λr d o l n=>λz=>g.acc l (aO<|n J3)<|z▸aO (n.bH▸k)
def UJ{b:Type}{a}{d:b}(h:j<m):F (aF m a) j d=F a j d:=by simp only [cY,cY,g6,aJ h]
def Pq{b:Type}{a}{d:b}:F (cq m a) j d=F a (m+j) d:=by simp only [cY,cY,Jl]
def al1(Ô:fm)(d:dv G T k)(Á:∀e m n N a f g c b h Ë M,Bn G k N a f g c b h Ë M->cW m 109=J (g0<|zE f<|iV M)->Fr p n (.c e (cw 260 m) bO)->q (aj e) n):
 aK (r+6) 260 [q9 G k] p q s:=by
 have t:=Ô.toGW;refine jL Y Y λe v=>?_;have x:=de.hO (o:=cw 260 ar) v;refine a6 Qf (.c 64 _ (.c 249 _ ar)) Y Y<|bP x Y λs x=>X1 t λN Ù=>bP x Y λs x=>aV x λÉ s x=>bP x Y λs x=>m7 x λB C s x=>bP x Y λs x=>ej x<|aj5 t d x λa C s H x=>hv (x.base 0 Y) λI x Ã Z=>?_;have m:eR I (aj É)=J (sD a):=by show mV _=_;exact aq _ (Z 1 _ _ (by decide) Y)
 have n:pR I (aj B)=J (wQ a):=by show b7 _ (l2 _)=_;exact W (Z 2 _ _ (by decide) Y) Y
 refine aV x λÄ s x=>bP x Y λs x=>aV x λÇ s x=>bP x Y λs x=>ej x<|Κ t d H Ù m n x λÂ g c s T x=>hv (x.base 0 Y) λv x I Z=>?_;have m:=ik I m;have n:=KY I n;have À:eR v (aj Ä)=J (iV g):=by show mV _=_;exact W (Z 1 _ _ (by decide) Y) Y
 have Ý:xE v (aj Ç) c:=by refine⟨fO Â,by show mV _=_;exact aq _ (Z 2 _ _ (by decide) Y),λq L p=>?_⟩;have Å:=e6 (d:=0)<|W (T V)<|gl p;exact⟨_,rR Å,by show mV _=_;exact aq _ (Z (q+3) _ _ vY (pg Å p))⟩
 have Æ:=Ã.Jj I;refine ej x<|cb (ik x m) ?_;have Ê:U (sD a)<cu:=W vp<|H J2;refine W6 x (λÓ s r=>ik r m) Ê λÈ z s I x=>d3 x 1 Y Y (bl Y) λs x=>aM x 1 Y<|cb (ik x m)<|W6 x (λÓ s r=>ik r m) Ê λl Ì s Í x=>d3 x 2 Y Y (bl Y) λs x=>m7 x λÎ C s x=>?_;have x:=x.bN;refine d3 x 3 Y Y (bl Y) λs x=>aM x 3 Y ?_;have x:Fr v s (ox G k N ⟨e,É,B,Ä,Ç,È,l,Î⟩ z Ì [] [] C<|dJ (U<|z++(Ì++[])) []):=by unfold ox;exact W (dw ..)<|W a4<|W I<|W Í<|ax List.replicate_append_replicate<|ax (aev<|by rw [ig,I]) x
 rw [vp] at I Í;refine ť t d H Ù m n I Í (λk s X r v I=>d.lK v I) (λÏ Ð Ñ Ò Z=>?_) (λk s I=>?_) x λf ls C b s j Õ x=>?_
 .rw [Z,Ô.r0] at Ñ;obtain rfl:=aC Ñ;exact j7 _ Ò
 .refine dK (((H J1) k s).mp I) λI Z=>aA Z λr v Ö=>?_;exact xJ I λZ=>d.key_ne Ô v Ö Z.symm
 refine hv (x.base 3 Y) λd x v I=>?_;have Ø:xE d (aj È) (aF (U a) b):=by refine⟨fO z,by show mV _=_;rw [I 2 _ _ (ao Y) Y];rfl,λq L p=>?_⟩;have y:=gl p;rw [dS] at y;have y:=cc y<|mq _ _;rw [g6,aJ y] at p;exact aA (j.v y) λy Ú Û=>⟨_,rR Ú,by show mV _=_;rw [I (q+4) _ _ (λZ=>nomatch Z) (pg Û p)];rfl⟩
 have Ü:∀o<U f,∃l,ls[o]?=J l/\d l=J (az<|iV<|F (cq _ b) o []):=λo l=>by refine aA (j.l l) λy Ú Û=>⟨y,Ú,I (U a+U a+o+4) _ _ (λZ=>nomatch Z) (pg Û ?_)⟩;rw [Pq];exact e6 (by rw [j J3];exact so l _)
 have Ý:xE d _ c:=aA Ý λz Z q=>⟨z,ik v Z,λo L p=>(q o L p).imp λt C=>br C.1<|ik v C.2⟩;refine ej x<|te (ik x<|ik v m)<|HI vp<|ej x<|ej x ?_;have l:∀{y} {b} {s} {Ó},xE d y b->Fr d s Ó->xE s y b:=λm r=>aA m λz Z q=>⟨z,ik r Z,λo L p=>(q o L p).imp λt C=>br C.1<|ik r C.2⟩;have d:∀B<U a,∃k y,a[B]?=J (k,y):=λB n=>⟨_,_,bM n⟩;refine F' (a:=⟨U a,c,g,G.nT⟩) (l Ý x) (ik x<|ik v À) (H J2) (T J2) (T J1) (T J3) (λL p t q=>?_) λh r=>?_
 .exact DE (d L p) λk y C=>gw ((T J4) L p k y C) λX X X X Ï=>(Ï J3) t q
 refine bP x Y λs x=>ej x<|ej x<|F' (a:=⟨U a,aF (U a) b,h,G.nT⟩) (l Ø x) Y (H J2) (by rw [dS,j J3,cA,gf<|dO _ _]) (r V) (r J1) (λL p t q=>?_) λË z=>?_
 .have q:t∈F (aF (U a) b) L []:=q;rw [UJ p] at q;exact(j J5) J1 L t q
 refine bP x Y λs x=>ej x<|acz x Y Y (I 0 _ _ (ao Y) Y) (j J4) (j J2) (by rw [vO,j J3,uh]) Ü (λo L p=>?_) (z J1) λM Z=>?_
 .exact W (z V)<|(j J5) J1 _ L (Pq▸p)
 exact bP x Y λs x=>bf ⟨Y,bf<|Á e _ s N a f g c b h Ë M (uw Ù H (j J4) (T J4) Õ r z Z) Y ((Æ.Jj v).Jj x)⟩
class inductive FT(G:Gr):O->O->Prop
|t {t:O} (h:t<G.nT):FT G t t|r {a:Ru} {t:O} (b:aa O) (c:O) (d:aa O) (h:a∈G.a9) (e:a.aQ=b++c::d) (n:∀y∈b,m6 G y) (f:FT G c t):FT G a.aY t
inductive Fs(G:Gr)(c:aa O)(t:O):Prop
|mk (a:aa O) (b:O) (d:aa O) (e:c=a++b::d) (n:∀y∈a,m6 G y) (f:FT G b t)
structure Rat(G:Gr)(Z:aa FS)(À Á:O)(o:Ru):Prop where
it:∃z,iP Z À z/\bH G z=J o.aY
h:G.a9[Á]?=J o
n:o.aY≠G.nT
structure Go(G:Gr)(z:aa FS)(Z Â:O)(o:Ru)(À Á Ã:O):Prop extends Rat G z Z Â o where
y:o.aQ[À]?=J Á
t:G.nT<=Á
pa:pv z Z (aF À o.aQ)=J Ã
def EH(G)(b)(c a:O->O->O->Prop):=hW (∀p r d e f q,Go G b p r d e f q->∀t,Fs G (cq (e+1) d.aQ) t->a q f t) (∀p r d e f q,Go G b p r d e f q->(∀y∈cq (e+1) d.aQ,m6 G y)->∀t,a p d.aY t->a q f t) (∀p r d q t,Rat G b p r d->pv b p d.aQ=J q->a p d.aY t->c q r t)<|a 0 G.iU 0
def CH(a:aa<|O×O)(M)(q r t):=∃j,a[j]?=J (q,r)/\eJ (F M j 0) t=Q
def A3(G)(b)(a)(M):=hW (IE b a) (U M=U a) (∀f∈M,f<2^G.nT)<|∃c,EH G b (CH a M) c
def FT.bit(h:Iv G c){a b}(f:FT G a b):eJ (F c a 0) b=true:=f.rec (λd=>(h J2) _ d) λe a g j k n f l=>(h J3) _ j e a g k n _ l
def ahz:Sb (F a y 0) (pW b N a c y):=by
 unfold pW;split
 .exactλZ q=>q
 .cases F N y u with
  |true=>exact Sb.wO λZ q=>q|false=>exactλZ q=>q
def m6.ge(a:e5)(h:m6 G y):G.nT<=y:=by induction h with|mk r b _=>exact(a.lt r b).1.1
def akV(a:e5)(b:uI N)(h:m6 G y):Sb c (pW G.nT N d c y):=by unfold pW;exact W (aS<|ak fS<|h.ge a)<|W ((b J1) y h)<|Sb.Bo λZ q=>q
def Ek(a:O)(N:aa bc)(b:aa O)(c:O)(d:aa O):Nat:=jd c (λy Z e=>pW a N b e y) d
def Zf(b:e5)(c:uI N)(h:∀y∈a,m6 G y):Sb (Ek G.nT N d e f) (Ek G.nT N d e<|a++f):=by
 induction a with
 |nil=>exactλZ q=>q|cons y r g=>exact(g λz j=>h z<|cy _ j).sO<|akV b c<|h y (b8 ..)
def TP(a:e5)(b:uI N)(c:Iv G d)(h:Fs G e t):eJ (Ek G.nT N d f e) t=true:=by
 induction h with|mk g j k e n f=>
 exact W e<|Zf a b n t<|ahz t<|f.bit c
def Ş:∀{a} {c} {b},qL d N e f (f7 b++a) c->qL d N e f a (Ek d N e c b):=by
 intro a c b
 induction b generalizing a with
 |nil=>exact id|cons y r g=>intro h;rw [JE,dy] at h;exact(g h).2
def ı{b:Ru}(e:qL G.nT N f d (f7 b.aQ)<|F d b.aY 0)(g:b.aQ[a]?=J c)(h:G.nT<=c):Sb (Ek G.nT N f (F d b.aY 0)<|cq (a+1) b.aQ) (F d c 0):=by
 have j {k:aa O} (l:k[a]?=J c):f7 k=f7 (cq (a+1) k)++c::f7 (aF a k):=by
  have m:k=aF a k++c::cq (a+1) k:=by simp only [<-Jy l,wR]
  have n:=aq f7 m;rw [FO,JE,dy] at n;exact n
 rw [j g] at e;exact ax ((Ş e).1 h)<|Sb.wO λZ q=>q
def dv.end_(c:dv G T a)(g:fm)(h:Rat G a p r b)(d:pv a p b.aQ=J q):∃f,a[q]?=J f/\r∈f.rd:=by refine aA h.it λe j e=>aA (c.F0 (g:=b.aY) j e h.h (U b.aQ)<|bb _) λk l m=>?_;rw [dI,d] at l;refine W (aC l) ?_;have n:=gW h.h<|bb _;refine c.red m n (W n.bH<|iu<|bb _) λz=>h.n ?_;have o:=h.h;rw [z,g.r0] at o;exact ax (aC o) Y
class inductive FR(G:Gr)(a:aa FS):O->O->Prop
|t {g t:O} (h:t<G.nT) (k:∃q,go a g t=J q):FR G a g t|c {g t:O} (C b:O) (h:go a g C=J b) (n:m6 G C) (f:FR G a b t):FR G a g t
def dv.i!(f:dv G T b)(h:G.a9[r]?=J c)(j:∀g e,iP b g e->bH G e=J k->FR G b g t):∀a (g d:O),iP b g (c8 G r+d)->cq d c.aQ=a++k::l->(∀y∈a,m6 G y)->FR G b g t:=by
 intro a;have m:∀{d y} {n},cq d c.aQ=y::n->bH G _=J y/\cq (d+1) c.aQ=n:=λ{d y n} e=>by
  have o:c.aQ[d]?=J y:=by refine ax (B4)<|W e ?_;rfl
  exact⟨W (gW h<|bT<|gl o).bH o,by refine ax Cn<|W e ?_;rfl⟩
 refine a.rec (λg d h e Z=>j g _ h (m e).1) λy a p=>λg d h e n=>?_;have q:=m e;exact aA (f.pQ h q.1) λs v x=> .c y s v (n y (b8 ..))<|p s _ x q.2 λz B=>n z<|cy _ B
def dv.fr(b:dv G T c)(f:FT G d t):∀g a,iP c g a->bH G a=J d->FR G c g t:=f.rec (λh=>λg a e j=> .t h<|(b.pQ e j).imp λq h=>h.1) λk d l m j n f o=>λg a e p=>bp (gs.mp m) λr m=>b.i! m o k g 0 (b.M3 e p m) j n
def Bn.tr(l:Bn G c N b e f g h k m M)(d:go c p a=J o)(n:G.nT<=a):∃j,b[j]?=J (p,a)/\j<U b:=aA (wx d) λf q e=>bp (gs.mp<|ak ((l J1) J1 p a) ⟨n,f,q,hM<|qc e⟩) λj r=>⟨j,r,gl r⟩
def Bn.rd1(b:e5)(l:Bn G c N d h k m n e o M)(f:FR G c g t):∀j p a,d[j]?=J (p,a)->go c p a=J g->eJ (F e j 0) t=true:=by
 induction f with
 |t h k=>intro j p a q r;have s:=gl q;refine gw ((l J3) j s p a q) λv f x y z=>?_;obtain rfl:=aC<|af r.symm x;exact bp k λB C=>(l J5) J2 j s _ ((z J1) _ (ak iq<|hM<|qc<|af (yS y).symm C) h)|c C v h n f H=>intro j p a q r;have s:=gl q;refine gw ((l J3) j s p a q) λI f x y z=>?_;obtain rfl:=aC<|af r.symm x;exact aA (l.tr h<|n.ge b) λL T Z=>(l J5) J3 j s L ((z J2) C (ak iq<|hM<|qc<|af (yS y).symm h) (n.ge b) ((l V) J1 C n) L T) _ (H L _ C T h)
def ahi(g:fm)(a:dv G T b)(l:Bn G b N c e m n d h f M):EH G b (CH e M) λp k t=>∃j,c[j]?=J (p,k)/\eJ (F f j 0) t=true:=by
 have o:=g.toGW;have q:∀{r s v t},go b r s=J v->G.nT<=s->FR G b v t->∃j,c[j]?=J (r,s)/\eJ (F f j 0) t=true:=λx n f=>aA (l.tr x n) λj y z=>⟨j,y,(l J6) J2 j z _ (l.rd1 o f j _ _ y x)⟩;have B:∀{p C H},Rat G b p C H->∀{I},c[I]?=J _->BF G b N c e d I p C H:=@λp C H L I Z=>(l J4) I (gl Z) V _ _ Z _ (ak u0 ⟨_,L.h,Y⟩) _ L.h
 refine dV (λp C H M s r L t T=>?_) (λp C H M s r L m t T=>?_) (λp C H r t L e T=>?_) ?_
 .have N:=gl L.y;refine aA L.it λp t C=>aA (a.F0 (g:=H.aY) t C L.h M<|bT N) λk H t=>ax (aC<|af H.symm L.pa)<|aA (a.pQ t<|W (gW L.h<|bT N).bH L.y) λv x C=>q x L.t ?_
  induction T with|mk k N H t n f=>
  exact a.i! L.h (a.fr f) k v _ C t n
 .refine aA T λI Z N=>aA ((B L.toRat Z) V M (gl L.y) V s r L.y L.pa L.t λH v=>(l V) J1 H<|m H v) λj y m=>?_;have z:=gl y;have m:I∈DP.r ⟨U c,aF (U c) d,h,G.nT⟩ j:=by show I∈F (aF (U c) d) j [];exact W (UJ z) m
  exact⟨j,y,(l J6) J3 j z I m _ N⟩
 .exact aA T λI Z N=>aA ((B L Z) J1 r e) λj y m=>⟨j,y,(l J7) J2 j (gl y) I (W Pq m) _ N⟩
 .refine aA (a J1) λn f C=>?_;have k:=u6 g;have p:iP b 0 0:=⟨n,f,a.Gf (aO f) 0<|W C hf⟩;refine aA (a.pQ p k.bH) λt x s=>q x (bT g.st)<| .t (cc (ao Y) o.t3) ?_;have M:=(gW g.r0 (d:=1)<|bl Y).bH;rw [<-k.c8] at M;exact(a.pQ s M).imp λr L=>L.1
def ae4(g:fm)(b:dv G T c)(h:∀a M,A3 G c a M->d (g0<|zE a<|iV M) e):aK (n+7) 273 [q9 G c] e d f:=
(by exact a6 RZ (.c 249 _ ar) Y Y<|al1 g b λj k s l m o p q r t v x y z B=>ej B<|Cm z<|m8 B<|(λN C a H I L Z c M d=>h a M<|dV (d J2) ((d J7) V) ((d J7) J1) ⟨_,ahi g b d⟩) l m o p q r t v x y)
def Ar(G:Gr)(b)(a:aa<|O×O)(M):=fR (U M=U a) (∀f∈M,f<2^G.nT)<|∀j q r,a[j]?=J (q,r)->∀c,G.a9[r]?=J c->F M j 0=F b c.aY 0
def Ar.add(h:Ar G b a M)(e:G.a9[r]?=J c)(d:F b c.aY 0<2^G.nT):Ar G b (a++[(k,r)]) (M++[F b c.aY 0]):=by
 have f {a:aa<|O×O} {M:aa O} (g:U M=U a) (d:∀j∈M,j<2^G.nT) (l:∀m q r,a[m]?=J (q,r)->∀c,G.a9[r]?=J c->F M m 0=F b c.aY 0):Ar G b a M:=bZ g d l;refine f (by simp only [a4,a4,h V];rfl) (λj n=>?_) λm q o p s t=>?_
 .rcases ma n with n|n
  .exact(h J1) j n
  .exact W (ms n) d
 .refine W (zd<|h V) ?_;rcases hZ m (U a) with z|z
  .exact W (aS<|fI z)<|(h J2) m q o (hh z▸p) s t
  .rw [h8 z] at p;have m:=ms<|aO p;cases m;cases af e.symm t;exact aJ<|hJ (zy<|Ds.mp<|gl p) z
def acp(g:fm)(c:dv G T a)(h:∀b M,A3 G a b M->d (g0<|zE b<|iV M) e):aK (n+5) 257 [q9 G a] e d f:=by
 have j:=g.toGW;refine a6 Rk (.c 249 _ ar) Y Y<|aaz j (λn e d k=>X1 j k) λN l m o p fo=>m7 de λq e s r=>cb Y<|cv Au (λX X X=> .c 249 _ _) (λX (t:aa _×aa O) e=> .c q (dC (zE t.1<|iV t.2) e) bO) (λv t X=>ke (λX=>bh) FS.rd a v [] t.1/\Ar G m t.1 t.2) ([],[]) e r ⟨.mP,bZ Y (λX h=>bG h) λX X X h=>aI h⟩ (λX X X X X=>rfl) ?_ ?_
 .intro v f t e s x y z r B;have C:=c.we j<|aO y;refine cb Y<|cv d8 (λX X X=> .c 249 _ _) (λX (t:aa _×aa O) e=> .c q (dC (zE t.1<|iV t.2) e) bO) (λH t X=>ke _ FS.rd a v (aF H f.rd) t.1/\Ar G m t.1 t.2) t e r z (λX X X X X=>rfl) ?_ ?_
  .intro H I t e s x L z r B;obtain⟨b,M⟩:=t;rw [fQ L] at B;have Z:=z.1.add a3<|EZ C.1 L;refine dK (C.2.1 I<|aO L) λX T=>aA T λd n X=>?_;have N:d.aY<U m:=W ((fo V) V) (j.lt d<|aO n).1.2;have x:U (iV M)=U b:=W du<|z.2 V;exact bJ Y (Ax n)<|Hg N<|vb r 0 Y (d:=pK (v,I)) uu (W (JR x)<|z.1.lim (e8 (gl y)<|c J2)<|ae (lA ..) C.2.2) λe s r=>B (b++[(v,I)],M++[F m d.aY 0]) e s ⟨Z.2,z.2.add n<|ju ((fo V) J1) _⟩<|ax ob<|ax (IU Z.1 x) r
  .intro t e s z r;rw [dI] at z;exact B t e s ⟨z.1.next y (λX=>Fl) C.2.2,z.2⟩ r
 .intro t e s z r;have T:=z.1.end (c J2);have N:EH G a (CH (NX t)<|f9 t) λX b M=>eJ (F m b 0) M=true:=by
   have j:=g.toGW;have e:=λ{s v d L B C} (h:Go G a s v d L B C)=>ı ((fo J1) Y d<|aO h.h) h.y h.t;refine dV (λs v d L B C h M Z=>e h M<|TP j o p Z) (λs v d L B C h k M Z=>e h M ?_) (λs v d C M h n Z=>?_) ?_
   .have x:=Zf j (d:=l) (f:=[]) o k M Z;rw [dw] at x;exact x
   .exact aA (c.end_ g h n) λf y q=>bp (gs.mp<|ak ((T J1) C v) ⟨a3,f,y,q⟩) λH m=>⟨H,m,W ((z.2 J2) H C v m d h.h) Z⟩
   .exact ı ((fo J1) Y _ (aO g.r0)) (a:=0) Y (bT g.st) 0<|TP j o p ⟨[],0,[],Y,λI h=>bG h, .t<|cc (ao Y) j.t3⟩
  exact Kr r 0 Y<|h t.1 t.2<|dV T (z.2 V) (z.2 J1) ⟨_,N⟩
noncomputable def sY(a)(p:O×O):=aD (dG p.1 a) (J (p.1,aD (aE p.1 0) 1048576 p.2)) A
noncomputable def uf(a)(p:O×O):=aD (dG p.1 a) A<|J p
def pb(a)(b:aa<|O×O):=eG (sY a) b
def uO(a)(b:aa<|O×O):=eG (uf a) b
def zi{b c:Type}{g:b->ba c}{a}{x}:eG g (a++[x])=eG g a++xa (g x):=by
 refine W List.filterMap_append ?_;cases h:g x with
 |none=>exact aq _ (QP h)|some y=>exact aq _ (Qw h)
def ag9(h:s∈R (·.1) (pb a b)):s∈R (·.1) b:=by
 obtain⟨p,c,rfl⟩:=mm h;refine aA (y2.mp c) λq d e=>ak jD ⟨q,d,?_⟩;unfold sY at e;cases z:dG q.1 a with
 |true=>rw [z] at e;exact ax (aC e) Y|false=>rw [z] at e;exact aI e
def adp(h:s∈R (·.1) (uO a b)):s∈R (·.1) b:=by
 obtain⟨p,c,rfl⟩:=mm h;refine aA (y2.mp c) λq d e=>ak jD ⟨q,d,?_⟩;unfold uf at e;cases z:dG q.1 a with
 |true=>rw [z] at e;exact aI e|false=>rw [z] at e;exact aq _ (aC e)
noncomputable def IX(p:O×O):=[p.1,p.2]
def Hm(a:aa<|O×O):=a.map λp=>aN<|iV<|IX p
def Aw(G:Gr)(k:O)(a b):=od 220<| .c 201 G.V<| .c 168 (ag k)<| .c 177 (g0<|nd nI<|pb G.nT a)<| .c 97 (g0<|nd nI<|uO G.nT a)<| .c 107 (aN<|Hm b)<| .c 148 (ag 0)<| .c 215 (aN []) ar
def Wo(G:Gr)(k a go:O)(r:aW):aW:= .c 201 G.V<| .c 168 (ag k)<| .c 177 (aj a)<| .c 97 (aj go) r
def Zt(c:Fr d e f)(m)(b):∀a,U b=U a->(∀k x,(hA b a).at k=J x->∃j,f.at j=J x)->gA (kW (x3 d) e<|m+1) (fO b) (a.map λx=>aN<|iV x):=by
 induction b with
 |nil=>intro a h _;induction a with
  |nil=>exact nG|cons _ _=>cases h
 |cons g r l=>intro a h n;induction a with
  |nil=>cases h|cons x t=>exact bp (n 0 _ Y) λj o=>iy (aw<|aw<|aw ⟨g,Y,c.e9 j o,aL ⟨_,_,c.c9 o,Y,j6 (λZ=>dQ m _) _⟩⟩)<|l t (fZ h) λk x e=>n (k+1) x e
def LD(b:aa<|O×O)(M)(k)(c)(a:aa<|O×O):=e7 (R (·.1) a=c)<|∀p∈a,∃j,b[j]?=J (k,p.1)/\p.2=F M j 0
def afX(b:e5)(e:dv G T g)(c:A3 G g d M)(j:g[k]?=J f)(h:∀a,LD d M k f.rd a->l (Aw G k f.mv a) m):aK (n+2) 220 [G.V,Et k f,g0<|zE d<|iV M] m l o:=by
 have p:=aO j;have q:=e.As b p;refine jL Y Y λr s=>?_;have t:=de.hO (o:=cw 220 ar) s;refine a6 L2 (.c 64 _ (.c 201 G.V<| .c 130 _ (.c 109 _ ar))) Y Y<|bP t Y λs t=>bP t Y λs t=>m7 t λv x s t=>bP t Y λs t=>m7 t λgo y s t=>bP t Y λs t=>LM ?_;refine cv (e:=f.mv) (o:=λX z=>ag z.1) (λk=>by refine W x8 ?_;unfold iV;simp only [cf,cf,T1];rfl) (λX X X=> .c 64 _ _)
  (λB x y=> .c r (cw 220<|Wo G k v go ar)<| .c v (dC (nd nI<|pb G.nT<|aF B f.mv) x)<| .c go (dC (nd nI<|uO G.nT<|aF B f.mv) y) bO) (λX X X=>bh) x y t a3 (λX X X X X=>Mv) ?_ ?_
 .intro B z x y s C H _ t I;have I:=λx y s=>I x y s a3;rw [fQ H] at I;unfold pb uO at I;rw [zi,zi] at I;have L:(R (·.1) f.mv)[B]?=J z.1:=by simp only [cf,H];rfl
  have N:z.1∉(aF B f.mv).map (·.1):=W si<|EZ q.1 L;have Z:cL f.mv z.1=J z.2:=by refine bp (AE<|aO L) λl m=>bp (El m) λT n=>?_;have:=ye q.1 L (j:=T) (by simp only [cf,n];rfl);rw [this,n] at H;exact W m<|aq (λo=>J o.2)<|aC H
  have l:∀(g:O×O->ba (O×O)),U ((aF B f.mv).filterMap g)<=1000:=λg=>ae (zm ..)<|ae (lA ..) (by have:=q.2.2;rw [bB] at this;exact ae this<|by decide)
  have L:=ak lF λm=>N<|ag9 (a:=G.nT) m;refine hk (λm=>?_) λm=>?_
  .refine ej t<|y0 t 1 nI 1048576 Y Y (l _) λx s t=>?_;have T:dG z.1 G.nT=true:=by rw [m,kR];exact eV<|cc (ao Y) b.t3
   rw [show sY G.nT z=J (z.1,1048576) by unfold sY;refine W T<|W m ?_;rfl,show uf G.nT z=A by unfold uf;refine W T ?_;rfl,show xa (A:ba _)=[] from Y,dw] at I;exact I x y s<|s3 L▸t
  .refine h0 (λT=>?_) λT=>?_
   .refine tG Y pX (by simp only [r3,Z];rfl)<|ej t<|y0 t 1 nI z.2 Y Y (l _) λx s t=>?_;have T:dG z.1 G.nT=true:=W kR<|eV T;rw [show sY G.nT z=J _ by unfold sY;rw [T,d4 m];rfl,show uf G.nT z=A by unfold uf;refine W T ?_;rfl,show xa (A:ba _)=[] from Y,dw] at I;exact I x y s<|s3 L▸t
   .refine tG Y pX (by simp only [r3,Z];rfl)<|ej t<|y0 t 2 nI z.2 Y Y (l _) λy s t=>?_;have T:dG z.1 G.nT=false:=W kR<|gn<|ak fS T;rw [show sY G.nT z=A by unfold sY;refine W T ?_;rfl,show uf G.nT z=J _ by unfold uf;refine W T ?_;rfl,show xa (A:ba _)=[] from Y,dw] at I;exact I x y s<|s3 (ak lF λm=>N<|adp m)▸t
 .intro x y s _ t;rw [dI] at t;refine aV t λT s t=>bP t Y λs t=>cb Y ?_;refine cv d8 (λX X X=> .c 64 _ (.c 130 _ (.c 109 _ ar))) (λX (n:aa O) a=> .c r (cw 220<|Wo G k v go _)<| .c v _ (.c go _ (.c T (az<|fO n)<|hA n<|R IX a)))
   (λB n a=>LD d M k (aF B f.rd) a/\U n=U (R IX a)) [] [] t ⟨cp Y λz h=>bG h,Y⟩ (λX X X X X=>rfl) ?_ ?_
  .intro B o n a s C q H t I;rw [fQ q] at I;refine bp (gs.mp<|ak ((c V) J1 k o) ⟨a3,f,j,aO q⟩) λg y=>?_;have N:g<U M:=W (c J1)<|gl y;have Z:U a<=12:=by have:=aq U<|H.1 V;rw [bB] at this;exact W this<|ae (lA ..) (e.we b p).2.2
   refine ej t<|cH t 3 Y<|⟨uu (p:=(k,o)),W (FW ((c V) V) y (fV<|e6 N):dU _ _=J (ag (F M g 0:O)))<|aV t λl s t=>dD t 3 Y (by simp only [D3,H.2,bB];exact cg<|ae Z<|by decide) λs t=>I (n++[l]) (a++[(o,F M g 0)]) s ⟨cp (by simp only [dq,H.1 V];rfl) λz L=>?_,by simp only [dq,a4,a4,H.2];rfl⟩ ?_⟩
   .exact aP (ma L) (λL=>(H.1 J1) z L) λL=>W (ms L)<|⟨g,y,Y⟩
   .rw [dq,<-Hc];exact ax (TZ H.2) t
  .intro n a s H t;rw [dI] at H;refine bP t Y λs t=>aV t λm s t=>?_;have t:=t.bN;refine d3 t 1 Y Y (bl Y) λs t=>bf ⟨Y,mG t 4 (aw<|aw<|aw ⟨r,Y,t.e9 1 Y,aw<|aw ⟨_,_,_,t.c9 (k:=1) Y,Y,⟨_,_,Y,dQ 3 _,_,_,Y,dQ 3 _,_,_,Y,?_,_,_,Y,?_,_,_,Y,?_,_,_,Y,dQ 3 _,_,_,Y,?_,Y⟩⟩⟩)<|h a H.1⟩
   .exact aw<|aw<|aw ⟨v,Y,t.e9 2 Y,aw<|aL ⟨_,_,_,t.c9 (k:=2) Y,Y,j6 (λX=>⟨Y,dQ 2 _⟩) _⟩⟩
   .exact aw<|aw<|aw ⟨go,Y,t.e9 3 Y,aw<|aL ⟨_,_,_,t.c9 (k:=3) Y,Y,j6 (λX=>⟨Y,dQ 2 _⟩) _⟩⟩
   .refine aw<|aw<|aw ⟨T,Y,t.e9 4 Y,aL ⟨_,_,t.c9 (k:=4) Y,Y,?_⟩⟩;have:=Zt t 1 n _ H.2 λk d x=>cM (k+5) x;rw [jC] at this;exact this
   .exact aw<|aw<|aw ⟨m,Y,t.e9 0 Y,aL ⟨_,_,t.c9 (k:=0) Y,Y,nG⟩⟩
def ahB{r t:O}(c:G.a9[r]?=J d)(h:b bk a):aK (n+1) 176 [G.V,ag r,ag t] a b e:=by
 refine a6 Oc _ Y Y ?_;have f:∀g,il [] (ag g):=λg=>br rfl<|λe h=>bG h;have j:∀Z (b:QT) a,b bk a->lG pA (g0 []) _ a b:=λg b a h=>by refine W pV ?_;exact br (f g) h
 have k:∀a (l:Prop),l->pF pA (g0 []) a l:=λa l h=>by refine W rG ?_;exact h
 refine k _ _ (bJ Y (Ax c)<|j _ _ _ (k _ _ (j _ _ _ ⟨Y,bf h⟩)))
def Y1{a:aa<|O×d}{b:bc->Prop}(c:b<|d7<|cL a s):mW (ag s) (g0<|nd g a) e b:=by refine W q8<|⟨pX,?_⟩;simp only [r3,Z'];exact c
def U1(j:O):(Hm a)[j]?=(a[j]?).map λp=>aN (iV<|IX p):=cf ..
def Iy(G:Gr)(a:aa<|O×O):=hW (∀p∈a,0<p.1/\p.1<U G.a9) (∀p∈a,p.2<2^G.nT) (bw<|R (·.1) a)<|U a<=9
def air(r:∀p∈a,0<p.1/\p.1<U G.a9)(m:∀p∈a,p.2<2^G.nT)(nd:bw<|R (·.1) a)(l:U a<=9):Iy G a:=dV r m nd l
def aeb(a:e5)(l:Iy G b)(h:c bk d):aK (n+2) 414 [Aw G k e b] d c f:=by refine a6 SN (.c 64 _ ar) Y Y<|cb Y<|cv U1 (λZ Z Z=> .c 64 _ ar) (λZ Z Z=>bO) (λZ Z Z=>bh) () () de a3 (λZ Z Z Z Z=>rfl) (λj p Z Z s g m Z o q=>?_) λZ Z s Z o=>m8 o h;have r:=aO m;exact bJ Y Y<|F1 (a.Kh<|(l J1) p r) λt Z Z Z=>cb Y<|cv d8 (λZ Z Z=> .c 64 _ _) (λZ Z Z=>bO) (λZ Z Z=>bh) () () o a3 (λZ Z Z Z Z=>rfl) (λv t Z Z s g x Z o q=>Y1<|ef (λZ=>bJ Y Y<|ahB (bM ((l V) p r).2) ⟨Y,q () () s a3 o⟩) λZ=>br rfl<|q () () s trivial o) λZ Z s Z o=>q () () s trivial o
def Yt(h:Fr e f a)(k)(g:a.at k=J (j,az<|zV b))(l:c<U b)
 (m:∀d,Fr e d (a.g9 k<|az<|zV<|c5 b c n)->K d):qe (aj j) (ag c) (ag n) f K:=qA h k g (W EE l)<|k'▸m
def RV(l:a<U b)(c:d (ag<|F b a 0) e):ko (aN<|zV b) (ag a) e d:=bJ Y (Dl<|e6 l) c
def G_(b)(c:aa<|O×O)(a):=e7 (U a=b)<|∀t<b,(∃p∈c,eJ p.2 t=Q/\F a t 0= -(p.1:au))\/(F a t 0=0/\∀p∈c,eJ p.2 t=u)
def a_(a)(c d:aa<|O×O)(b:aa au):=fR (U b=a) (∀t<a,∀v,cL (pb a c) t=J v->F b t 0=(v:O))<|∀t<a,cL (pb a c) t=A->(∃p∈d,eJ p.2 t=Q/\F b t 0= -(p.1:au))\/(F b t 0=0/\∀p∈d,eJ p.2 t=u)
def BN(b)(v:O->au)(c:aa O)(a):=fR (U a=U b) (∀t∈c,F a t 0=v t)<|∀t,t∉c->F a t 0=F b t 0
set_option tactic.hygienic true in
def BN.add(h:BN b v c a)(l:t<U b):BN b v (c++[t]) (c5 a t<|v t):=by
 have g:∀s,F (c5 a t<|v t) s 0=if t=s then v t else F a s 0:=λs=>gL<|W (h V) l
 refine bZ (W mX<|h V) (λs d=>?_) λs d=>?_
 .refine W (g ..) ?_;split
  .rename_i e;exact aq _ e
  .rename_i e;exact(h J1) s<|aP (ma d) id λz=>ay (ms z).symm e
 .exact W (g ..)<|W (aS λe=>d<|fy _ (ak qh e.symm))<|(h J2) s λz=>d<|gI _ z
def aea(c:e5)(l:Iy G d)(f:∀t∈R (·.1) (pb G.nT b),t<G.nT)(h:∀a,a_ G.nT b d a->g (aN<|zV a) e):aK (n+2) 356 [Aw G k b d] e g j:=by
 refine a6 LG (.c 64 _ ar) Y Y<|aV de λm s o=>hF o ⟨⟨Y,cj _,bT<|cg<|ae (bT c.nT)<|ae c.nS<|ao Y⟩,aV o λp s o=>?_⟩;have o:Fr e s (.c p (az<|zV _) bO):=W (show zV _=dJ G.nT _ from I4) o.tl;have q:G_ G.nT [] (dJ G.nT 0):=cp ig λt r=>aw ⟨by refine W (cY)<|W (uU)<|W (aJ r) ?_;rfl,λv h=>bG h⟩;refine cv (λk=>by exact ax CI (cf ..)) (λX X X=> .c 64 _ _) (λX a X=> .c p (az<|zV a) bO) (λj a X=>G_ G.nT (aF j<|f7 d) a) _ () o q (λX X X X X=>rfl) ?_ ?_
 .intro j v a _ s x y z o B;have C:=wD.mp<|aO y;refine bJ Y Y<|F1 (c.Kh<|(l J1) v C) λH I X X=>cb Y<|cv d8 (λX X X=> .c 64 _ _) (λX a X=> .c p (az<|zV a) bO) (λL M X=>BN a (λX=> -(v.1:au)) (aF L H) M) a () o (bZ Y (λt h=>bG h) λX X=>rfl) (λX X X X X=>rfl) ?_ ?_
  .intro L t M _ s x r N o B;have T:t<U a:=W (z V)<|zF λq=>bU<|Nat.testBit_lt_two_pow (cc ((l J1) v C)<|CS (ao Y) q)▸(I t).mp (aO r);exact bJ Y Y<|Yt o 0 Y (W (N V) T) λs o=>B _ () s (W (fQ r)<|N.add T) o
  .intro M _ s N o;rw [dI] at N;refine B M () s ?_ o;exact W (fQ y)<|(by
    refine cp (af (N V)<|z V) λt r=>?_;cases e:eJ v.2 t with
    |true=>exact aL ⟨v,fy _ hf,e,(N J1) t<|ak (I t) e⟩|false=>
     refine W ((N J2) t λZ=>bU<|af e.symm<|(I t).mp Z)<|((z J1) t r).imp (λ⟨q,g,n⟩=>⟨q,gI _ g,n⟩) λ⟨n,y⟩=>br n<|λq g=>?_;rcases ma g with g|g
     .exact y q g
     .exact W (ms g) e)
 .intro a _ s z o;rw [dI] at z;refine LM<|cv (λk=>by refine W x8 ?_;exact cf ..) (λX X X=> .c 64 _ (.c 14 _ ar)) (λX a X=> .c p (az<|zV a) bO) (λL M X=>BN a (λt=>((dN (cL (pb G.nT b) t) 0:O):au)) ((R (·.1)<|pb G.nT b).take L) M) a () o (bZ Y (λt h=>bG h) λX X=>rfl) (λX X X X X=>Mv) ?_ ?_
  .intro L t M _ s x r N o B;have m:=aO r;have T:t<U a:=W (z V)<|f t m;refine bp (AE m) λv d=>tG Y pX (by refine W r3<|W d ?_;rfl) ?_;refine Yt o 0 Y (W (N V) T) λs o=>B _ () s ?_ o;have c:=N.add T;refine W (fQ r) ?_;simp only [d,Option.getD_some] at c;exact c
  .intro M _ s N o;rw [dI] at N;refine F1 (ao Y) λH I X X=>?_;refine W (ak List.eq_nil_iff_forall_not_mem λn m=>bU<|af ((I n).mp m).symm<|vj n)<|cb Y<|cv d8 (λX X X=> .c 64 _ _) (λX X X=> .c p _ bO) (λX (_ _:ki)=>bh) () () o a3 (λX X X X X=>rfl) (λj n X X X X h=>aI h) λX X s X o=>jb o 0 Y<|h M<|bZ (af (N V)<|z V) (λt r v d=>?_) λt r l=>?_
   .have:=(N J1) t<|hM<|qc d;refine W this ?_;show((dN (cL _ t) 0:O):au)=_;exact W d Y
   .exact W ((N J2) t<|lF.mp l)<|((z J1) t r).imp (λ⟨q,g,n⟩=>⟨q,wD.mp g,n⟩) λ⟨n,y⟩=>br n<|λq g=>y q<|ak wD g
def aab(h:eJ m t=Q->a)(b:eJ m t=u->B):dH (!eX ((m&&&2^t:O):au) ((0:O):au)) a B:=by
 have e:m&&&2^t=0↔eJ m t=false:=by
  refine⟨λz=>?_,λz=>Nat.eq_of_testBit_eq λc=>?_⟩
  .have d:=aq (λx=>eJ x t) z;rw [n?,MN,Pu,vj] at d;exact d
  .simp only [n?,R7,vj]
   by_cases q:t=c
   .rw [<-q,z];rfl
   .simp only [gn q,pU]
 refine yY (λq=>?_) λq=>b<|e.mp q;cases z:eJ m t with
 |true=>exact h z|false=>exact ay (ak e z) q
def M_(h:∀v,a v b):aK (n+2) 219 [c,d,e,f,g] b a j:=by refine jL Y Y λk l=>?_;have m:=de.hO (o:=cw 219 ar) l;exact a6 OJ _ Y Y (bP m Y λs m=>bP m Y λs m=>bP m Y λs m=>bP m Y λs m=>bP m Y λs m=>bf ⟨Y,EL m 0 Y<|h _⟩)
noncomputable def Ag(t)(p:O×O):=aD (eJ p.2 t) (J p.1) A
def rl(a:aa<|O×O)(t):=eG (Ag t) a
def C_(b)(c a)(t):=e7 (rl a t=[]\/cL (pb b c) t=A)<|U (rl a t)<=1
def To(b)(c d)(k)(a:aa ai):=e7 (a=[]->∀t<k,C_ b c d t)<|U a<=k*9
def CO(h:a++b=[]):a=[]/\b=[]:=List.append_eq_nil_iff.mp h
def ab4(b:c<=d+j)(e:d<=f+(r-g))(h:j<=r-1)(k:f<=54)(a:r<=9):c<=1000:=by have l:r-g<=9:=ae (mi ..) a;exact ae b<|ae (d2 (ae e<|d2 k l)<|ae h<|ae (mi ..) a)<|ao Y
def ag6(m:e5)(e:G.nT<=6)(l:Iy G b)(j:U f=G.nT)(h:∀a,To G.nT d b G.nT a->g (aN a) c):aK (n+3) 400 [Aw G k d b,aN<|zV f] c g o:=by
 refine a6 Mu (.c 64 _ (.c 14 _ ar)) Y Y<|aV de λp s q=>⟨mQ<|ae e<|ao Y,cv mR (λX X X=> .c 64 _ (.c 14 _ _)) (λX a X=> .c p (az a) bO) (λk a X=>To G.nT d b k a) [] () q (cp (λX t r=>ay r<|fC t)<|bb 0) (λX X X X X=>rfl) ?_ ?_⟩
 .intro t x a _ s v y z q B;have y:=lu y;refine W y.1 ?_;have C:=y.2;have H:t<U f:=W j C;have I:=ae (z J1)<|ry 9<|ae (bT C) e;refine cb Y<|wu q (λj L M=>M= .c p _ bO/\L=iV (rl (aF j b) t)) ⟨Y,Y⟩ (λX X X X X X X X=>rfl) ?_ ?_ ?_
  .intro j N L M T s Z m o y q Á À;rw [U1] at o;obtain⟨m,Z,rfl⟩:=fA o;have r:=fQ Z;refine bJ Y Y<|⟨⟨Y,cj _,ak hn<|e8 C<|cF e<|ao Y⟩,⟨cj _,cj _⟩,aab (m:=m.2) (t:=t) (λo=>?_) λo=>?_⟩
   .refine bJ Y Y<|Á _ s M q ⟨y.1,?_⟩;simp only [y.2,r];unfold rl;exact W zi<|W (show Ag t m=J m.1 by unfold Ag;rw [o];rfl) ob
   .refine À s M q ⟨y.1,?_⟩;simp only [y.2,r];unfold rl;rw [zi,show Ag t m=A by unfold Ag;rw [o];rfl];exact a5<|aq iV<|dw _
  .exact cg (by unfold Hm;rw [bB];exact ae (l J3)<|ao Y)
  .intro T L M s q y;obtain⟨rfl,rfl⟩:=y;rw [show U (Hm b)=U b from bB _,dI] at q;have e:U (rl b t)<=U b:=zm ..;have r:=ae e<|l J3;generalize C:rl b t=L at q r;have M:∀y s,Fr c s (.c p (az y)<| .c T (az<|iV L) bO)->(y=[]->a=[]/\(L=[]\/cL (pb G.nT d) t=A))->U y<=U a+(U L-U (cq 1 L))->
    dj s (aj T) λm=>mh m (ag 1) bk λe=>iC s (az e) λN s=>w9 N s λe m=>
     Bb (λl N c v=>mJ (aK<|n+2) (λX=>bX) (d9 114) l N c v) (λl c v=>c1 (aK<|n+2) (λX=>bX) (fH (nK (d9 55)<|oO<|j1 (hC k6 (d9 124)<|kr<|ag 0)<|j1 (d9 114) ta)
      (fH (uD<|hL h9 (d9 94)<| .call 219<|j1 (fL (d9 64) 168)<|j1 (d9 243)<|j1 (kr<|aG "reduce/reduce")<|j1 (d9 55)<|j1 (hC k6 (d9 14)<|d9 243) ta)
      (fH (.del [114,55]) ck))) l c v (ei g) v) e m (.c 64 (Aw G k d b)<| .c 14 (aN<|zV f)<| .c 94 (aj p)<| .c 243 (ag t)<| .c 124 (aj T) ar) s λl c=>v ([114,55,124,243].foldl kX l) c:=by
    intro y s q b l;have c {m:aa ai} {v:aa ai->Prop} (h:v<|cq 1 m):mh m (ag 1) bk v:=by
     refine W yI (?_:bE (J _) _);refine W (aS<|ao Y) ((W dI ?_):v<|(aF (U m) m).drop _)
     induction m with
     |nil=>exact h|cons x f=>exact h
    refine bW q 1 Y<|c ?_;rw [show cq 1 (iV L)=iV _ from a5 (IS ..)];refine aV q λk s q=>cb (q.lt 2 Y)<|cv d8 (λX X X=> .c 64 _ _) (λX g X=> .c p (az g)<| .c T _ _) (λj g X=>(g=[]->y=[]/\j=0)/\U g<=U y+j) y () q ⟨λo=>br o rfl,bb _⟩ (λX X X s q=>q.lt 2 rfl) ?_ ?_
    .intro j y g _ s v n Z q B;have e:=gl n;rw [vO] at e;have x:∃f,L[0]?=J f:=by
      induction L with
      |nil=>exact ay e<|fC _|cons f _=>exact cM f rfl
     exact bp x λf m=>dc q 1 Y (fV m)<|cH q 0 Y<|RV H<|M_ λN=>dD q 0 Y (cg<|ab4 Z.2 l (bT e) I r) λs q=>B _ () s ⟨λo=>ay (CO o).2 jJ,by rw [a4];exact b2 Z.2⟩ q
    .refineλg X s Z q=>B g () s (cp (λo=>?_) ?_)<|B! _ q
     .refine dK (Z.1 o) λc k=>dK (b c) λp j=>λv n=>?_;rcases i4.mp n with x|x
      .exact(z V) p v x
      .exact W x<|cp (C▸j)<|C▸zy (vO▸k)
     .have B:=Z.2;rw [vO] at B l;have g {T:O} {e:O} {m:O} {f:O} (b:T<=e+(f-1)) (c:e<=m+(f-(f-1))) (n:m<=t*9) (C:f<=9):T<=(t+1)*9:=by have e:(f-(f-1))+_=f:=Ao (mi ..);have:T<=m+f:=ax e<|ax (cA ..)<|ae b<|f6 c _;exact W (r9 ..)<|ae this<|d2 n C
      exact g B l (z J1) r
   have k:L≠[]->∀t,cL (pb G.nT d) t=A\/d7 (cL _ t)=true:=λX t=>by
    cases cL _ t with
    |none=>exact aL Y|some N=>exact aw Y
   refine bW q 1 Y<|MB (λx=>?_) λx=>?_
   .have p:L≠[]:=λo=>x (by rw [o];rfl);have j:U L-U (cq 1 L)=1:=by
     induction L with
     |nil=>exact ay Y p|cons f t=>exact uh ..
    exact Y1<|ef (λo=>cH q 0 Y<|bW q 1 Y<|RV H<|M_ λN=>dD q 0 Y (cg<|ae I<|ao Y) λs q=>M _ s q (λo=>ay (CO o).2 jJ) (by simp only [j,a4];exact bb _)) λo=>M a s q (λy=>br y<|aw<|aP (k p t) id λy=>bU<|af y.symm o)<|dO _ _
   .have p:L=[]:=by
     cases L with
     |nil=>rfl|cons f t=>cases x
    exact bW q 1 Y<|MB (λo=>ay x o) λX=>M a s q (λy=>br y<|aL p)<|dO _ _
 .intro a _ s z q;rw [fi] at z;exact jb q 0 Y<|h a z
def DcI(a:aa au)(k:O)(b:aa<|O×O):Prop:=e7 (∀m:O,m∈R (·.1) b->0<m/\∃t<U a,F a t 0= -(m:au))<|U b<=k
def acb{s v:O}:U (ot a s v)<=U a+1:=by
 refine a.rec (bb 1) λp r b=>(?_:U (aD _ _ (p::ot r s v))<=_);cases aE p.1 s with
 |true=>exact fh _|false=>exact b2 b
def aik{s v m:O}(h:m∈R (·.1) (ot a s v)):m∈R (·.1) a\/m=s:=by
 induction a with
 |nil=>exact aw<|ms h|cons p r b=>
  have h:m∈R (·.1) (aD _ _ (p::ot r s v)):=h;cases q:aE p.1 s with
  |true=>rw [q] at h;exact aP (mc h) aw λh=>aL<|cy _ h|false=>rw [q] at h;exact aP (mc h) (λe=>aL (e▸b8 ..)) λh=>Ow (cy _)<|b h
def YZ(k:O):(zV a)[k]?=b7 ag (a[k]?):=cf ..
def abr(c:1<U a)(b:U a<=6)(h:∀d:O,(d=0\/∃t<U a,F a t 0= -(d:au))->e (ag d) f):aK (n+1) 268 [aN<|zV a] f e g:=by
 refine a6 Km (.c 14 _ ar) Y Y<|bJ Y (Dl<|e6 (d:=0) c)<|g5 (λX=>bf<|h 0<|aL Y) λX=>m7 de λj e s k=>cb Y<|cv YZ (λX X X=> .c 14 _ _) (λX l e=> .c j (dC (nd nI l) e) bO) (λm l X=>DcI a m l) [] e k (cp (λX h=>bG h)<|bb 0) (λX X X X X=>rfl) ?_ ?_
 .intro t o l e s p q r k v;have x:=gl q;have y:F a t 0=o:=by refine W (cY)<|W q ?_;rfl
  have skip:=λs k=>v l e s (cp (r V)<|hI<|r J1) k;refine g5 (λX=>g5 (λq=>?_) λX=>skip s k) λX=>skip s k
  induction o with
  |ofNat m=>exact ay q<|ak hB<|cj m|negSucc m=>
  have z:∀B,qe _ _ _ s _:=λB=>y0 k 0 nI B Y Y (ae (r J1)<|ae (bT x)<|ae b<|by decide) λe s k=>v _ e s (cp (λC H=>aP (aik H) ((r V) C) λI=>W I<|⟨k9 m,t,x,y⟩)<|ae acb<|b2<|r J1) k;refine d_ k 0 Y<|d_ k 0 Y ⟨pX,W (r3:dU _ _=b7 nI (cL l _)) ?_⟩;cases cL l _ with
  |none=>exact z 1|some B=>exact z _
 .refineλl e s r k=>vI k (W (Z1 k 0 Y)<|aq _ x8) (W (bB ..)<|cF (r J1)<|cF b<|by decide) λb s k=>cb (k.lt 1 Y)<|cv d8 (λX (d:O) _=> .c 154 _ (.c 23 (ag d) ar)) (λX X X=> .c j _ _) (λX d X=>d=0\/d∈R (·.1) l) 0 () k (aL Y) (λX X X s k=>k.lt 1 Y) ?_ ?_
  .intro L M d _ s p N T k v;have Z:=iq.mp<|aO N;have c {j:O} {b:O} {f:Prop} {n:Prop} {C:Prop} (h:j=b->f) (g:j≠b->C):dH (eX (j:au) (b:au)) (dH (eX (j:au) (b:au)) f n) C:=hk (λq=>hk h λI=>ay q I) g;exact bp (AE Z) λB a=>c (λX=>v M () s (aw Z) k) λq=>bp (AE<|Ce T q) λo H=>Ah k 0 Y a<|Ah k 0 Y H<|g5 (λX=>v M () s (aw Z) k) λX=>v d () s T k
  .refineλd X s T k=>m8 k<|h d<|T.imp_right λm=>((r V) d m).2
def wo(d:O)(a):=aD (eX a<| -(d:au)) 0 a
def aaU{d:O}(b:U a<=6)(h:c (aN<|zV<|R (wo d) a) e):aK (n+1) 218 [aN<|zV a,ag d] e c f:=by
 refine a6 SF (.c 14 _ (.c 61 _ ar)) Y Y<|cb Y<|wu de (λj g k=>k=bO/\g=zV ((aF j a).map<|wo d)) ⟨Y,Y⟩ (λZ Z Z Z Z Z Z Z=>rfl) ?_ (W EE<|cg<|ae b<|ao Y) ?_
 .intro j v g k c s l m o p q r t;rw [YZ] at o;obtain⟨x,y,rfl⟩:=fA o;have z:=λv B=>r v s k q ⟨p.1,B⟩;rw [fQ y,dq,show R (wo d) [x]=[wo d x] from Y,<-N?,<-p.2] at z;unfold wo at z;refine(?_:dH _ (l _ s) (l _ s));cases B:eX x _ with
  |true=>exact z _ (by refine W B ?_;rfl)|false=>exact z _ (by refine W B ?_;rfl)
 .intro c g k s q p;obtain⟨rfl,rfl⟩:=p;rw [EE,dI] at q;exact jb q 0 Y h
def iZ{n:Type}{c}{l:O->n->ai}(j:∀k,all[k]?=b7 (l k) (c[k]?))(o)(q:Fr e a d)
 (r:∀b o f,Fr e f (d.cB b o)->s f=J all)(t:U c<cu)
 (y:∀k x b p a (g:QT) (h:aT->Prop),c[k]?=J x->Fr e a (d.cB b p)->(∀v a,o x=J v->Fr e a (d.cB b p)->g v a)->(∀a,o x=A->Fr e a (d.cB b p)->h a)->
  z B (l k x) a λm a=>C m a λH a=>dH H (I m a g)<|h a)
 (L:∀b a,Fr e a (d.cB b<|az<|eG o c)->M (aj b) a):yQ C I z s all B a M:=by
 have N:U all=U c:=by
  refine hJ (j5 λT=>?_)<|j5 λT=>?_
  .have Z:=j<|U c;rw [bM T,iu<|bb _] at Z;cases Z
  .have Z:=j<|U all;rw [bM T,iu<|bb _] at Z;cases Z
 refine wu q (λk e l=>l=d/\e=(aF k c).filterMap o) ⟨Y,Y⟩ (λk e l b p f m n=>by obtain⟨rfl,_⟩:=n;exact r b p f m) ?_ (N▸t) ?_
 .rintro k s e l b a g h z ⟨rfl,rfl⟩ m B C
  rw [j] at z;obtain⟨x,H,rfl⟩:=fA z;refine y k x b _ a g h H m (λv a I m=>B v a l m ⟨Y,?_⟩) λa I m=>C a l m ⟨Y,?_⟩
  .simp only [fQ H,zi,I];rfl
  .simp only [fQ H,zi,I];exact a5<|dw _
 .rintro b e l a m ⟨rfl,rfl⟩
  rw [N,dI] at m;exact L b a m
def zM{a:aa b}{g:b->ai}:eG (λx=>J<|g x) a=R g a:=qG B7 a
def J_(h:Fr g j c)(k){d}{a b}(e:c.at k=J (d,az a))(l:U a+U b<=cu)(m:∀f,Fr g f (c.g9 k<|az<|a++b)->n bk f):lG j3 (aj d) (aN b) j n:=W pV<|bW h k e ⟨⟨l,λz=>nomatch z⟩,m _ (h.upd e _)⟩
noncomputable def sE(a:aa bo):O->aa (ai×ai):=jd (λZ=>[]) (λs Z b k=>(aG s,ag k)::b (k+1)) a
def Ua:∀{k},il (sE a k) (aG s):=by
 intro k;refine br rfl ?_
 induction a generalizing k with
 |nil=>exactλZ h=>bG h|cons t r b=>exactλe h=>aP (mc h) (λq=>by refine W q ?_;rfl)<|b e
def YB(h:aG s=aG t):s=t:=by injection h
open Classical in
def afb:∀{k},dU (sE b k) (aG s)=(g8 s b).map λa=>ag ((k+a:O):au):=by
 refine @(b.rec Y λt r c=>?_);intro k;refine(?_:(if aG t=aG s then J (ag k) else dU (sE r _) _)=b7 _ (if t=s then J 0 else b7 _ (g8 s r)))
 by_cases q:t=s
 .exact W (aJ<|aq aG q)<|W (aJ q) Y
 .exact W (aS λz=>q<|YB z)<|W (aS q)<|W c<|W (T1 ..)<|aq (λf=>b7 f _)<|funext λa=>W (cA ..)<|W (eT 1 a) Y
open Classical in
def aeF(m:s∉a):∀{k},eW (sE a k) (aG s) (ag ((k+U a:O):au))=sE (a++[s]) k:=by
 induction a with
 |nil=>intro k;rfl|cons t r b=>intro k;refine(?_:(if aG t=aG s then _::sE r _ else _::eW (sE r _) _ _)=_::sE _ _);exact W (aS λz=>m<|ak qV<|aL (YB z).symm)<|W hS<|ax (cA ..)<|W (jN ..)<|aq _ (b λz=>m<|cy _ z)
def afj:∀{k},U (sE a k)=U a:=@(a.rec Y λt r b=>aq _ b)
structure Tb where
th:aa (aa au)
nQ:aa (aa<|O×O)
rg:aa O
n1:aa ai
md:ai
def Nj(G:Gr)(a b c d e:ai)(r:aW):aW:= .c 112 (aN<|sV G.cI)<| .c 317 (ag G.nT)<| .c 106 a<| .c 207 b<| .c 194 c<| .c 227 d<| .c 209 e r
def D!(G)(a b c d e f g h j m):=Nj G a b c d e<| .c 201 G.V<| .c 60 f<| .c 97 g<| .c 250 h<| .c 215 j<| .c 48 m ar
def Jd(a:aa<|aa au):=a.map λr=>aN<|zV r
def IG(a:aa<|aa<|O×O):=a.map λg=>g0<|nd nI g
noncomputable def N2(G:Gr):=R (·.aY) G.a9
noncomputable def f'(G:Gr):=R (·.aQ.length) G.a9
noncomputable def ZZ(G:Gr):=G.a9.map λZ=>0
def h7(G)(B:Tb):=od 284<|D! G (aN<|iV<|N2 G) (aN<|iV<|f' G) (aN<|iV<|ZZ G) (aN<|iV B.rg) (g0<|sE (aF G.nT G.cI) 0) (aN<|Jd B.th) (aN<|IG B.nQ) (aN B.n1) (aN []) B.md
def kt{a:O}(h:b[a]?=J s):(sV b)[a]?=J (aG s):=by unfold sV;simp only [cf,h];rfl
def Fr.comb(h:Fr d e a)(k:Fr e f b):Fr d f (a.mZ b):=by
 refine ml ?_ λg o j=>(k J1) g o<|(h J1) g o j;have l:∀m g p,b.at m=J (g,p)->e g=none:=λm g p j=>((k V).get j).1;have n:∀a,eD d e a->eD d f (a.mZ b):=by
  refineλa=>a.rec (λZ=>(h.Jj k) V) λg p r q=>λz=>⟨z.1,(k J1) g p z.2.1,λm c s j=>?_,q z.2.2.2⟩
  have n:∀(r:Cs) m,(r.mZ b).at m=J (c,s)->(∃t,r.at t=J (c,s))\/∃t,b.at t=J (c,s):=by
   intro r
   induction r with
   |nil=>exactλm j=>aw ⟨m,j⟩|c x y v q=>exactλm j=>match m,j with
    |0,j=>aL ⟨0,j⟩|m+1,j=>(q m j).imp_left λB=>bp B λt h=>cM (t+1) h
  rcases n r m j with ⟨t,h⟩|⟨t,h⟩
  .exact z.2.2.1 t c s h
  .exactλy=>aI<|(af (l t g s<|y▸h).symm) z.2.1
 exact n a<|h V
def ac7(nd:bw G.cI)(k:G.nT<U G.cI)(h:G.nT<=6)(a:Fr l n<| .c b (cw 284 ar) o)(p:∀c m e j,Fr l j (.c b (cw 284<|Nj G d f g (aj c) (aj m) ar)<|(o.cB c<|az []).cB m<|dC (sE (aF G.nT G.cI) 0) e)->q bk j):
 aK (r+1) 382 [aj b,aN<|sV G.cI,ag G.nT,d,f,g] n q s:=by
 refine a6 KU (.c 64 _ (.c 112 _ (.c 317 _ (.c 106 d<| .c 207 f<| .c 194 g ar)))) Y Y<|bP a Y λs a=>bP a Y λs a=>bP a Y λs a=>bP a Y λs a=>bP a Y λs a=>aV a λc s a=>bP a Y λs a=>m7 a λm e s a=>bP a Y λs a=>⟨mQ<|ae h<|ao Y,?_⟩;have a:=Fr.bN (c:= .c b _ _) a;refine cv mR (λX X X=> .c 64 _ (.c 112 _ (.c 317 _ ar))) (λt (e:O) _=> .c m (dC (sE (aF t G.cI) 0) e)<| .c b (cw 284<|Nj G d f g _ _ ar) _) (λX X X=>bh) e () a a3 (λX X X X X=>rfl) ?_ ?_
 .intro t x e _ s v y _ a z;have y:=lu y;refine W y.1 ?_;have B:=e8 y.2 k;have C:=bM B;refine aM a 1 Y<|bJ Y (kt C) ?_;have H:G.cI[t]∉aF t G.cI:=λq=>by refine bp (gs.mp q) λI L=>?_;have M:=gl L;rw [dS] at M;have M:=cc M<|mq _ _;rw [g6,aJ M] at L;obtain⟨b,N⟩:=kq.mp L;exact fI M<|(zQ nd).mp N
  have T:U (aF t G.cI)=t:=by simp only [dS,gf<|bT B]
  refine vb a 0 Y Ua (by simp only [afj,T];exact cg<|ae (bT y.2)<|ae h<|by decide) λe s a=>z e () s a3 ?_;have Z:=aeF H (k:=0);rw [T,eF] at Z;simp only [fQ C,<-Z];exact a
 .exactλe X s X a=>bf<|p c m e s<|Fr.Bx<|fi▸a
def Ot(f:e5)(g:Fr h a j)(m:∀k r s (b:QT),G.a9[k]?=J r->b (ag<|n r) s->cN d e o (ez l x<|r5 k r) s b)
 (p:∀c s,Fr h s (j.cB c<|az<|iV<|R n G.a9)->q (aj c) s):
 yQ (λl a b=>cN d e (kr<|bS Q) l a λv a=>mU a v λt=>b t a) (λl a b=>cN d e o l a b) (λl v a b=>mJ d e (d9 x) l v a b) (λZ=>J<|nk 0 G.a9) (nk 0 G.a9) l a q:=by
 refine iZ xy _ g (λZ Z Z Z=>rfl) (cg<|ae f.oV<|bl Y) (λk r c y s z B C f H Z=>m k r s z C<|H _ s Y f) λc s f=>p c s ?_;rw [zM] at f;unfold iV;exact W jC f
def ahh(a:e5)(nd:bw G.cI)(j:G.nT<=6)(k:∀b d c e f z g h,Fr l h (.c b (cw 284<|D! G (aj d) (aj c) (aj e) m (aj z) n o p q r)<| .c d (az<|iV<|N2 G)<| .c c (az<|iV<|f' G)<| .c e (az<|iV<|ZZ G)<| .c f (az [])<| .c z (dC (sE (aF G.nT G.cI) 0) g) bO)->s (aj b) h):
 aK (t+3) 284 [G.V,n,o,m,p,q,r] l s v:=by
 refine jL Y Y λb x=>?_;have y:=de.hO (o:=cw 284 ar) x;refine a6 ND _ Y Y (cb Y<|Ot a y (λB r s C H c=>c) λd s y=>cb Y<|Ot (n:=(·.aQ.length)) a y (λB r s C H c=>?_) λc s y=>?_)
 .rw [<-du] at c;exact c
 exact cb Y<|Ot a y (λB r s C H c=>c) λe s y=>ej y ⟨Y,ac7 nd a.nT j y λf z g s y=>bP y Y λs y=>bP y Y λs y=>bP y Y λs y=>bP y Y λs y=>bP y Y λs y=>bP y Y λs y=>bP y Y λs y=>bf ⟨Y,bf<|k b d c e f z g s y⟩⟩
inductive r?(a:aa au)(d:O)(b:aa au):Prop
|z (h:d=0) (e:b=a)|d (h:d≠0) (m:∃t<U a,F a t 0= -(d:au)) (e:b=R (wo d) a)
def X2(G:Gr)(a)(M)(q)(f:FS)(g)(d)(b)(c:Prop):=e7 (g=uO G.nT f.mv)<|∃e h,LD a M q f.rd e/\a_ G.nT f.mv e h/\r? h d b/\(c->∀t<G.nT,C_ G.nT f.mv e t)
def Bt(G)(a:aa FS)(b)(M)(k)(B:Tb):=j4 (U B.th=k) (U B.nQ=k) (U B.rg=k) (U B.n1<=k*54)<|∀q f,a[q]?=J f->q<k->X2 G b M q f (F B.nQ q []) (F B.rg q 0) (F B.th q []) (B.n1=[])
def IY(a b c d e:O)(B:Tb):Cs:= .c a (az<|Jd B.th)<| .c b (az<|IG B.nQ)<| .c c (az<|iV B.rg)<| .c d (az B.n1)<| .c e (az []) bO
def UK(g:fm)(nd:bw G.cI)(d:dv G T a)(Ä:A3 G a b M)(h:∀B,Bt G a b M (U a) B->k (h7 G B) È):aK (n+4) 32 [q9 G a,g0<|zE b<|iV M,bS e,c] È k l:=by
 have m:=g.toGW;refine a6 Nl (.c 249 (q9 G a)<| .c 109 (g0<|zE b<|iV M)<| .c 311 (bS e)<| .c 48 c ar) Y Y<|aV de λo s p=>aV p λq s p=>aV p λr s p=>aV p λt s p=>aV p λv s p=>cb Y ?_;refine cv Au (λX X X=> .c 249 (q9 G a)<| .c 109 (g0<|zE b<|iV M)<| .c 311 (bS e)<| .c 48 c<| .c 60 (aj o)<| .c 97 (aj q)<| .c 227 (aj r)<| .c 250 (aj t)<| .c 215 (aj v) ar) (λX B (_:ki)=>IY o q r t v B) (λk B X=>Bt G a b M k B/\B.md=c) ⟨[],[],[],[],c⟩ () p
  ⟨ec Y Y Y (bb 0) λx y X h=>ay h<|fC x,Y⟩ (λX X X X X=>rfl) ?_ ?_
 .intro k y B _ s Á H I p Â;have Ã:=gl H;have Z:k<cu:=cc (e8 Ã<|d J2)<|ao Y;refine afX m d Ä H λT lk=>?_;have n:=(by
   have m:=g.toGW;have l:=d.we m<|aO H;have À:∀C∈T,C.1∈y.rd:=λC I=>(lk V)▸hM I;have L:∀N∈y.rd,0<N/\N<U G.a9:=λN f=>by refine dK (l.2.1 N f) λÅ z=>aA z λÆ Ç X=>?_;exact br (qz Å)<|gl Ç
   refine air (λC I=>L _ (À C I)) (λC I=>?_) ((lk V)▸l.1) ?_
   .exact aA ((lk J1) C I) λj X v=>W v<|ju (Ä J2) j
   .have É:bw (0::y.rd):=lI (λN f=>fI (L N f).1) l.1;have l:=qs É λN f=>aP (mc f) (λv=>by refine W v ?_;decide) λf=>cc (L N f).2 m.oV;have v:=aq U<|lk V;rw [bB] at v;exact W v<|Ip l)
  refine aeb m n<|aea m n (λL N=>?_) λf l=>?_
  .obtain⟨C,I,rfl⟩:=mm N;refine aA (y2.mp I) λx Ì v=>?_;unfold sY at v;cases z:dG x.1 G.nT with
   |true=>rw [z] at v;exact ax (aC v)<|ho z|false=>rw [z] at v;exact aI v
  refine MC p 3 Y<|ag6 m g.t6 n (l V) λN Ë=>?_;have Ê:=ae (Ë J1)<|ry 9 g.t6;refine J_ p 3 Y (ae (d2 (I.1 J3) Ê) ?_) λs p=>?_
  .exact ax (r9 ..)<|ae (ry 54<|ae Ã<|d J3)<|ao Y
  refine MC p 4 Y<|J_ p 4 Y (cQ _) λs p=>?_;have d:∀n (C:aa au) s,r? f n C->Fr È s (IY o q r t v ⟨B.th,B.nQ,B.rg,B.n1++N,B.md⟩)->
   pF h9 (aj o) s (lG h9 (aj o) (aN<|zV C) s λX s=>pF h9 (aj q) s<|ri s (Aw G k y.mv T) λX Í=>bE (cW Í 97) λm=>lG h9 (aj q) m s λX s=>pF h9 (aj r) s<|lG h9 (aj r) (ag n) s λX s=>Á (.c 249 (q9 G a)<| .c 109 (g0<|zE b<|iV M)<| .c 311 (bS e)<| .c 48 c<| .c 60 (aj o)<| .c 97 (aj q)<| .c 227 (aj r)<| .c 250 (aj t)<| .c 215 (aj v) ar) s):=by
   refineλn C s c p=>cH p 0 Y<|dD p 0 Y (by unfold Jd;simp only [bB,I.1 V];exact Z) λs p=>cH p 1 Y<|dD p 1 Y (by unfold IG;simp only [bB,I.1 J1];exact Z) λs p=>cH p 2 Y<|zU (m:=n) p 2 Y (W (I.1 J2) Z) λs p=>?_
   have Z {f:aa au} {t:O} (h:Bt G a b M k B) (s:X2 G b M k y (uO G.nT y.mv) t f<|N=[]) (Î:U N<=54):Bt G a b M (k+1) ⟨B.th++[f],B.nQ++[uO G.nT y.mv],B.rg++[t],B.n1++N,B.md⟩:=by
    refine ec (by simp only [a4,h V];rfl) (by simp only [a4,h J1];rfl) (by simp only [a4,h J2];rfl) ?_ λx a b Ì=>?_
    .simp only [a4,r9];exact d2 (h J3) Î
    .simp only [zd<|h J1,zd<|h J2,zd<|h V];rcases i4.mp Ì with z|z
     .simp only [aS<|fI z,aS _,aS _];have M:=(h J4) x a b z;exact rK (M J1) λT C o q r t=>cp (M V) ⟨T,C,o,q,r,λv=>t (CO v).1⟩
     .simp only [aJ z,aJ z,aJ z];rw [z,H] at b;obtain rfl:=aC b;exact W z<|rK (s J1) λT C o q r t=>cp (s V) ⟨T,C,o,q,r,λv=>t (CO v).2⟩
   refine Â ⟨B.th++[C],B.nQ++[uO G.nT y.mv],B.rg++[n],B.n1++N,B.md⟩ () s ⟨Z I.1 (cp Y ⟨T,f,lk,l,c,Ë V⟩) Ê,I.2⟩ ?_;unfold IY Jd IG;simp only [dq,dq];exact p
  have c:1<U f:=W (l V)<|cc (ao Y) m.t3;have y:U f<=6:=W (l V) g.t6
  induction e with
  |false=>exact yY (a:=0) (b:=0) (λz=>ay Y z) λX=>d 0 f s (.z Y Y) p|true=>exact abr c y λn H=>yY (a:=n) (b:=0) (λz=>aaU y<|d n _ s (.d z (Ce H z) Y) p) λz=>d n f s (.z z Y) p
 .refineλB X s I p=>ahh m nd g.t6 λL T N C Z z a M b=>?_
  have p:=p.comb b;have e:∀{j l c},(IY o q r t v B|>.mZ _).at j=J (l,az c)->kW _ M 3 _ _:=λx=>aw (aw<|aw ⟨_,Y,p.e9 _ x,aL ⟨_,_,p.c9 x,Y,j6 (λX=>dQ 2 _) _⟩⟩)
  refine mG p 4 ?_<|h B I.1;exact aw<|aw<|aw ⟨L,Y,p.e9 5 Y,aw<|aw ⟨_,_,_,p.c9 (k:=5) Y,Y,⟨_,_,Y,dQ 3 _,_,_,Y,dQ 3 _,_,_,Y,e (j:=6) Y,_,_,Y,e (j:=7) Y,_,_,Y,e (j:=8) Y,_,_,Y,e (j:=2) Y,_,_,Y,aw<|aw<|aw ⟨z,Y,p.e9 10 Y,aw<|aL ⟨_,_,_,p.c9 (k:=10) Y,Y,j6 (λX=>⟨Y,dQ 2 _⟩) _⟩⟩,_,_,Y,dQ 3 _,_,_,Y,e (j:=0) Y,_,_,Y,e (j:=1) Y,_,_,Y,e (j:=3) Y,_,_,Y,e (j:=4) Y,_,_,Y,W I.2<|dQ 3 _,Y⟩⟩⟩
def afT(G)(B):=uJ<|∃T a b M,dv G T a/\A3 G a b M/\Bt G a b M (U a) B
def Y2(h:a (h7 G B) b):aK (n+1) 196 [h7 G B] b a c:=a6 Mp (.c 184 _ ar) Y Y<|⟨Y,bf h⟩
def alR(g:fm)(nd:bw G.cI)(a:s="lalr"\/s="slr")(h:∀B,afT G B->b (h7 G B) c):aK (n+9) 292 [G.V,aG s,bS d] c b e:=a6 Q9 (.c 201 G.V<| .c 48 _ (.c 311 _ ar)) Y Y<|rW (λZ=>a6 QN (.c 201 G.V<| .c 311 _ ar) Y Y<|Yy g λT f j=>ae4 g j λk M l=>UK g nd j l λB m=>Y2<|bf<|bf<|h B<|iB ⟨T,f,k,M,j,l,m⟩) λz=>rW (λZ=>a6 N1 (.c 201 G.V<| .c 311 _ ar) Y Y<|Yy g λT f j=>acp g j λk M l=>UK g nd j l λB m=>Y2<|bf<|bf<|h B<|iB ⟨T,f,k,M,j,l,m⟩) λo=>ay (Ce a z) o
def Md(G)(T)(a)(b)(M)(B):=hW (GX G) (dv G T a) (A3 G a b M)<|Bt G a b M (U a) B
noncomputable def xp(B:Tb)(q t):=F (F B.th q []) t 0
noncomputable def df(B:Tb)(q):=F B.rg q 0
def el(B)(q t):=aD (eX (xp B q t) 0) (-(df B q:au))<|xp B q t
def Eg(h:xp B q t≠0):el B q t=xp B q t:=by unfold el;exact W pB<|W (gn h) Y
def ED(h:xp B q t=0):el B q t= -(df B q:au):=by unfold el;exact W pB<|W (eV h) Y
def P_{c s:O}{h:O->O->ba O}(b:∀p,g p=b7 (p.1,·) (h p.1 p.2)):∀{a},bw (R (·.1) a)->cL (eG g a) s=er (cL a s) (h s):=by
 intro a;refine a.rec (λZ=>rfl) λp r d=>λnd=>?_;have nd:=rV.mp nd;have e:cL (p::r) s=aD _ _ (cL r s):=Y;refine W e ?_
 by_cases q:p.1=s
 .refine W q<|W (fJ ..) (?_:_=h s p.2);cases z:h s p.2 with
  |none=>refine W (QP<|by rw [b,q,z];rfl)<|W (d nd.2) ?_;have f:cL r s=none:=ak lF λm=>nd.1 s m q;rw [f];rfl|some v=>rw [Qw<|by rw [b,q,z];rfl];show aD _ _ _=_;rw [fJ];rfl
 .rw [d4 q];show _=er (cL r s) (h s);rw [<-d nd.2];cases z:h p.1 p.2 with
  |none=>rw [QP<|by rw [b,z];rfl]|some v=>rw [Qw<|by rw [b,z];rfl];show aD _ _ _=_;rw [d4 q];rfl
def JC{d:O}(h:a≠-(d:au)):wo d a=a:=by unfold wo;exact W pB<|W (gn h) Y
def WG{d:O}(h:a= -(d:au)):wo d a=0:=by unfold wo;exact W pB<|W (eV h) Y
def WV{e f:Type}{g}{a:aa e}{b}{c:f}(h:g b=c):F (R g a) d c=g (F a d b):=by
 simp only [cY,cY,cf];cases a[d]? with
 |none=>exact a5 h|some x=>rfl
def mC{a b:O}(h:0<b):(a:au)≠-(b:au):=by lia
def dv.Jk(a:dv G T b)(h:go b p s=J q):q≠0:=by refine rK (a.Di h) λf c d e Z g=>aA (a J1) λj z k=>λl=>?_;rw [l,z] at e;obtain rfl:=aC e;rw [k] at g;exact hv (w7.mp<|iq.mp<|g▸hf) λm Z Z z=>wC z
inductive R1(a:aa FS)(f:FS)(q t:O)(x:au):Prop
|s (b:O) (h:go a q t=J b) (e:x=(aD (aE t 0) 1048576 b:O))|r (h:go a q t=A) (r:O) (m:r∈f.rd) (e:x= -(r:au))|z (h:go a q t=A) (e:x=0)
def Md.K8(m:Md G T b d M B)(c:b[q]?=J f)(a:t<G.nT):R1 b f q t (xp B q t)/\(df B q=0\/df B q∈f.rd):=by
 refine rK ((m J3) J4 q f c (gl c) J1) λe g lk h j X=>?_;have k:∀p∈e,p.1∈f.rd:=λp l=>(lk V)▸hM l;have n:∀t<G.nT,R1 b f q t _:=λt a=>by
  have o {r:O} {s:aa<|O×O} (nd:(R (·.1) s).Nodup) (v:t<r):cL (pb r s) t=(cL s t).map λx=>aD (aE t 0) 1048576 x:=by
   have y:dG t r=true:=W kR<|eV v;refine(P_ (c:=r) (h:=λz x=>aD (dG z r) (J<|aD (aE z 0) 1048576 x) A) (λp=>?_) nd).trans ?_
   .unfold sY;cases dG p.1 r<;>rfl
   .refine W y ?_;cases cL s t<;>rfl
  have C:=o (((m J1).As ((m V).toGW)<|aO c).1) a;rw [<-yS c] at C;cases z:go b q t with
  |some H=>rw [z] at C;exact .s H z<|(h J1) t a _ C|none=>
   rw [z] at C;rcases(h J2) t a C with ⟨p,l,_,e⟩|⟨e,_⟩
   .exact .r z p.1 (k p l) e
   .exact .z z e
 have I:∀d:O,d≠0->(∃t<g.length,g.getD t 0= -(d:au))->d∈f.rd:=λd L N=>aA N λt Z e=>by
  rw [h V] at Z;rcases n t Z with ⟨H,v,x⟩|⟨v,r,k,x⟩|⟨v,x⟩
  .exact ay (x.symm.trans e)<|mC<|qz L
  .rw [e] at x;exact W (eI<|p9.mp x) k
  .exact ay (eI<|p9.mp<|e▸x) L
 rcases j with ⟨L,T⟩|⟨L,M,T⟩
 .exact⟨by unfold xp;exact W T<|n t a, .inl L⟩
 .refine br ?_<| .inr<|I _ L M;unfold xp;refine W T<|W (WV<|JC<|mC<|qz L) ?_
  by_cases e:g.getD t 0= -(B.rg.getD q 0:au)
  .refine W (WG e) ?_;rcases n t a with ⟨H,v,x⟩|⟨v,r,k,x⟩|⟨v,x⟩
   .exact ay (x.symm.trans e)<|mC<|qz L
   .exact .z v Y
   .exact .z v Y
  .exact W (JC e)<|n t a
def Md.qq(m:Md G T a e M B)(b:a[q]?=J f)(c:t<G.nT):R1 a f q t (el B q t):=by
 refine dK (m.K8 b c) λe d=>?_
 by_cases z:xp B q t=0
 .refine W (ED z) ?_;have n:go a q t=none:=by
   rcases e with ⟨g,h,x⟩|⟨h,r,j,x⟩|⟨h,x⟩
   .rw [x] at z;have z:=eI z;cases b:aE t 0 with
    |true=>rw [b] at z;exact vY z|false=>rw [b] at z;exact ay z<|(m J1).Jk h
   .exact h
   .exact h
  rcases d with d|d
  .exact .z n (by refine W d ?_;rfl)
  .exact .r n _ d Y
 .exact W (Eg z) e
structure Y6 where
T:aa O
i:aa FS
X:aa (O×O)
M:aa O
B:Tb
PI:aa bo
def HL(y:Y6):=k8->Md G y.T y.i y.X y.M y.B->yO y.PI->∀n (a:aT) b (c:aT->Prop),b (bS Q) a->aK (n+62) 267 [h7 G y.B,gS D,aN<|sV y.PI] a b c
noncomputable def y6:=@Classical.epsilon _ ⟨⟨[],[],[],[],⟨[],[],[],[],bk⟩,[]⟩⟩ λy=>¬HL y
noncomputable def T:=y6.T
def i:=y6.i
def X:=y6.X
def M:=y6.M
def B:=y6.B
def P:=y6.PI
def akl(h:HL ⟨T,i,X,M,B,P⟩)(y):HL y:=Eh λn=>@Classical.epsilon_spec _ (λy=>¬HL y) ⟨y,n⟩ h
def l6(i)(st a):=fR (U st=U a+1) (st[0]?=J 0)<|∀b s,a[b]?=J s->∃p q,st[b]?=J p/\st[b+1]?=J q/\go i p s=J q
abbrev g4:=l6 i
def Bm:g4 [0] []:=bZ Y Y λZ Z h=>aI h
def l6.tH(h:g4 st a)(b:st[U a]?=J p)(c:Zq.go i p s=J q):g4 (st++[q]) (a++[s]):=by
 have d:0<U st:=W (h V)<|k9 _;refine bZ (by refine W a4<|W a4<|W (h V) ?_;rfl) (W (hh d)<|h J1) λe f g=>?_;rcases hZ e (U a) with z|z
 .rw [hh z] at g;exact gw ((h J2) e f g) λa j k l m=>⟨a,j,W (hh<|gl k) k,W (hh<|gl l) l,m⟩
 .rw [h8 z] at g;exact W (hJ (zy<|Ds.mp<|gl g) z)<|W (ms<|aO g) ⟨p,q,W (hh<|gl b) b,by refine ax (h V)<|W (h8<|bb _)<|W (ql ..) ?_;rfl,c⟩
def l6.cut(h:g4 st b)(a:k<=U b):g4 (aF (k+1) st) (aF k b):=by refine bZ (W dS<|W dS<|W (h V)<|W (gf<|b2 a)<|W (gf a) Y) (W (g6)<|W (aJ<|k9 _)<|h J1) λc s d=>?_;have l:=gl d;rw [dS,gf a] at l;rw [g6,aJ l] at d;exact gw ((h J2) c s d) λa b e f g=>⟨a,b,W (g6)<|W (aJ<|rM l) e,W (g6)<|W (aJ<|yT l) f,g⟩
def l6.top(h:g4 st a):∃p,st[U a]?=J p:=cM _<|bM<|W (h V)<|ha _
abbrev xZ:=iP i
abbrev qv:=dv G T i
def dv.Wf(a:qv)(h:Zq.go i p s=J q)(b:i[q]?=J f)(m:c∈f.b5):∃j,c=j+1/\xZ p j/\bH G j=J s:=by refine rK (a.Di h) λd e g k Z e=>?_;rw [b] at k;obtain rfl:=aC k;exact hv (w7.mp<|iq.mp<|e▸m) λj l n z=>⟨j,z,⟨d,g,l⟩,n⟩
def iP.va(b:qv)(h:xZ p a):Va G a:=aA h λf c m=>b.va (aO c) a m
def HS(a:At G b r d o c)(e:bH G b=J s):At G (b+1) r (d+1) (c8 G r) c/\c.aQ[d]?=J s:=by rw [a.bH] at e;have f:=gW (a J3) (d:=d+1)<|gl e;rw [<-a.c8,<-cA,<-(a J2),a.c8] at f;exact br f e
def l6.b5(h:g4 st d)(n:fm)(e:qv)(a:st[k]?=J p)(f:i[p]?=J l)(m:g∈l.b5):(k=0/\g=0)\/∃c b s j,k=c+1/\st[c]?=J b/\d[c]?=J s/\g=j+1/\xZ b j/\bH G j=J s:=by
 induction k with
 |zero=>rw [h J1] at a;obtain rfl:=aC a;refine aA (e J1) λo z q=>?_;rw [f] at z;obtain rfl:=aC z;exact aL ⟨Y,ms<|q▸m⟩|succ k=>
  have r:k<U d:=by have t:=gl a;rw [h V] at t;exact zr t
  refine gw ((h J2) k _ (bM r)) λb q v x y=>?_;rw [a] at x;obtain rfl:=aC x;exact hv (e.Wf y f m) λj e C H=>aw ⟨k,b,_,j,Y,v,bM r,e,C,H⟩
def Bck(i)(G)(st a:aa O)(k r d:O)(b:Ru):=fR (d<=k) (∃p,st[k-d]?=J p/\iP i p (c8 G r))<|∀j<d,a[k-d+j]?=b.aQ[j]?
def l6.back(h:g4 st c)(g:fm)(a:qv){r}{b}(e:G.a9[r]?=J b):∀d k p,d<=U b.aQ->st[k]?=J p->xZ p (c8 G r+d)->Bck i G st c k r d b:=by
 refineλd=>d.rec (λk p Y f j=>bZ (cQ _) ⟨p,f,j⟩ λj l=>ay l<|fC j) λd m=>?_
 intro k p n f ⟨o,q,s⟩;have t:=gW e n;refine aA ((a J4) o<|aO q) λv Y e=>?_;rw [e] at s;rcases tW.mp s with x|⟨y,C,H,_,I⟩
 .rcases h.b5 g a f q x with ⟨_,z⟩|⟨L,N,s,j,rfl,Z,b,c,l,d⟩
  .have p:At G (c8 G r+_) 0 0 0 ⟨G.nT,[G.iU,0],0⟩:=W z<|u6 g;exact vY<|(t.uT p).2.1
  .refine hK (l.va a) λk o v e jR=>dK (HS jR d) λh f=>?_;rw [<-c] at h;refine Ai (t.uT h) λq x C=>?_;obtain rfl:=fZ x;obtain rfl:=C;have s:=m L N (uM n) Z (by rw [<-fZ c] at l;exact l);refine bZ (b2<|s V) (W (GJ ..)<|s J1) λj l=>W (GJ ..) ?_;rcases i4.mp l with z|z
   .exact(s J2) j z
   .simp only [z,Ao<|s V,b];exact a5 f
 .have jR:=gW H<|cQ _;rw [show c8 G y+0=c8 G r+_ from a5 I] at jR;exact vY<|(t.uT jR).2.1
def l6.WA(h:g4 st j)(g:fm)(a:qv){r k p}(d:G.a9[r]?=J e)(f:st[k]?=J p)(c:xZ p<|c8 G r):(k=0/\r=0)\/(e.aY≠G.nT/\∃b,xZ p b/\bH G b=J e.aY):=by
 refine aA c λl m n=>?_;have o:=aO m;refine aA ((a J4) l o) λq s e=>?_;have t:=gW d<|cQ _;rw [e] at n;rcases tW.mp n with v|⟨x,y,z,C,H⟩
 .rcases h.b5 g a f m v with ⟨I,L⟩|⟨N,Z,p,j,rfl,k,q,n,h,f⟩
  .have v:At G (c8 G r+0) 0 0 0 ⟨G.nT,[G.iU,0],0⟩:=W (L:c8 G r+0=0)<|u6 g;exact aL ⟨I,(t.uT v).1⟩
  .refine hK (h.va a) λx y N Z jR=>dK (HS jR f) λj X=>?_;rw [<-n] at j;exact wC<|(t.uT j).2.1
 .obtain rfl:=Tn d z H;obtain rfl:=aC<|af d.symm z;have k:=((s J1) _).mp C;refine aw ⟨k.nt g (a V) ((a J9) l o).2,?_⟩;refine aA k λb c L=>aA L λp q r=>?_;rcases r with r|r
  .exact⟨b,⟨l,m,a.Gf o b c⟩,r▸q⟩
  .exact gw ((a V) J4 p _ r) λx t I h v=>bp (gs.mp I) λy N=>⟨c8 G y,⟨l,m,W e<|ak tW<|aw ⟨y,x,N,ak ((s J1) _) ⟨b,c,p,q,h⟩,Y⟩⟩,W ((gW N<|cQ _).bH:bH G _=x.aQ[0]?)<|W v Y⟩
def Rdc(G)(i)(st b:aa O)(r:O)(a)(p q):=uk (G.a9[r]?=J a) (U a.aQ<=U b) (cq (U b-U a.aQ) b=a.aQ) (st[U b-U a.aQ]?=J p) (∃c,iP i p c/\bH G c=J a.aY) (a.aY≠G.nT)<|Zq.go i p a.aY=J q
def l6.red(h:g4 st d)(g:fm)(a:qv)(j:st[U d]?=J p)(e:i[p]?=J f)(m:r∈f.rd):∃b c q,Rdc G i st d r b c q:=by
 refine dK ((a.we g.toGW<|aO e).2.1 r m) λk z=>aA z λb l n=>?_;have o:=h.back g a l _ _ _ (bb _) j ⟨f,e,n⟩;refine aA (o J1) λc s t=>?_;refine aP (h.WA g a l s t) (λz=>?_) λz=>?_
 .exact ay z.2 k
 .refine dK z λn z=>aA z λv x y=>?_;refine aA (a.pQ x y) λq C Z=>⟨b,c,q,kb l (o V) (Em λj=>W (Jl) ?_) s ⟨v,x,y⟩ n C⟩;rcases hZ j (U b.aQ) with z|z
  .exact(o J2) j z
  .refine W (iu z) ?_;refine iu ?_;exact ax (eT j ..)<|ae (c6 (Ao<|o V).symm)<|W (eT ..)<|f6 z _
def l6.acc(h:g4 st b)(g:fm)(a:qv)(c:st[U b]?=J p)(d:Zq.go i p 0=J q):b=[G.iU]:=by
 refine aA (wx d) λf e j=>?_;obtain⟨k,⟨l,m,n⟩,o⟩:=a.lK e<|hM<|qc j;rw [e] at m;obtain rfl:=aC m;refine hK (a.va (aO e) k n) λr d s t v=>dK (HS v o) λZ x=>?_;have y:r=0:=by
  induction r with
  |zero=>rfl|succ r=>exact ay (aO x)<|g.e0 r t<|v J3
 subst y;obtain rfl:=aC<|af (v J3).symm g.r0;have z:d=1:=jR (a:=(·=1)) x (λj=>ay ((show G.iU=0 from j)▸g.st:G.nT<0)<|fC _) λZ=>rfl;subst z;rw [v J2,v.c8] at n;have C:=h.back g a g.r0 1 _ _ (bl Y) c ⟨f,e,n⟩;refine aA (C J1) λH I L=>?_;rcases h.WA g a g.r0 I L with z|⟨n,_⟩
 .have l:=hJ (zy z.1)<|C V;have N:=(C J2) 0<|ao Y;exact N' l (by rw [l] at N;exact N)
 .exact ay Y n
structure tD where
k:bo
q:O
ns:aa bo
structure Cf where
st:aa O
ts:aa ai
fl:aa tD
mv:aa ai
pl:aa O
sp:O
qu:O
noncomputable def n9(a):=aR [aG a]
noncomputable def dz(a)(b:O):=aR [aG a,ag b]
noncomputable def xj(k)(a:O):=aR [aG k,aG<|k++toString (a:au)]
noncomputable def vf:=aR [aG "error",aG ""]
noncomputable def lV(l)(a):=aR<|aG l::a
def tn(G:Gr)(k):=dN (g8 k<|aF G.nT G.cI) 2
noncomputable def fB(a):=a++["$end"]
def r4(B)(q t):= !eX (xp B q t) 0&& !eX (xp B q t) (-1048576)
def yF(G:Gr)(B)(q t):=aD (r4 B q t&&(!aE t 1&& !aE t 2)) (J<|F G.cI t "") A
def p4(G)(B)(q):=eG (yF G B q)<|e1 G.nT
def h5(B)(q):=0<xp B q 1/\xp B q 1<1048576
class inductive gH(B:Tb):aa O->aa ai->aa ai->aa O->aa ai->aa ai->Prop
|ok {st a b q} (h:cG st=J q) (o:h5 B q):gH B st a b st a b|one {q a b}:gH B [q] a b [q] a b|pop {st a b c d e q v} (n:st≠[]) (o:¬h5 B q) (r:gH B st a (b++[dz "pop" q]) c d e):gH B (st++[q]) (a++[v]) b c d e
def eK(G)(B)(c:Cf)(k)(q):=aD (aE c.qu 0) (c.fl++[⟨k,q,p4 G B q⟩]) c.fl
noncomputable def eE(c:Cf):=aD (aE c.qu 0) (c.pl++[c.sp]) c.pl
def gD(c:Cf)(t):=aD (aE c.qu 3) (c.mv++[dz "discard" t]) c.mv
noncomputable def fz(c:Cf):=aD (aE c.qu 3) (c.sp+1) c.sp
inductive gB(G:Gr)(B:Tb)(b:aa bo)(c:Cf)(k:bo)(q:O):ba bc->Cf->Prop
|acc (h:el B q (tn G k)=1048576):gB G B b c k q (J Q) ⟨c.st,c.ts,c.fl,c.mv++[n9 "accept"],c.pl,c.sp,c.qu⟩|nc (a:O) (h:el B q (tn G k)=a) (p:0<a) (n:a<1048576):gB G B b c k q A ⟨c.st++[a],c.ts++[xj k c.sp],c.fl,c.mv++[dz "shift" a],c.pl,c.sp+1,c.qu-1⟩|red (r:O) (f:Ru) (p j:O) (m:O) (h:el B q (tn G k)= -(r:au)) (s:0<r) (t:G.a9[r]?=J f) (g:U c.ts=m+U f.aQ) (l:c.st[m]?=J p) (v:cL (F B.nQ p []) f.aY=J j):
 gB G B b c k q A ⟨aF (m+1) c.st++[j],aF m c.ts++[lV (F G.cI f.aY "")<|cq m c.ts],c.fl,c.mv++[dz "reduce" r],c.pl,c.sp,c.qu⟩
|rk (h:el B q (tn G k)=0) (g:c.qu=3) (x:k="$end"):gB G B b c k q (J u) c|oh {st d e} (h:el B q (tn G k)=0) (g:c.qu=3->k≠"$end") (D:gH B c.st c.ts (gD c<|tn G k) st d e) (p:O) (l:cG st=J p) (o:¬h5 B p):gB G B b c k q (J u) ⟨st,d,eK G B c k q,e,eE c,fz c,3⟩|mD {st d e} (h:el B q (tn G k)=0) (g:c.qu=3->k≠"$end") (D:gH B c.st c.ts (gD c<|tn G k) st d e) (p:O) (l:cG st=J p) (a:O) (o:h5 B p) (y:xp B p 1=a):gB G B b c k q A ⟨st++[a],d++[vf],eK G B c k q,e++[dz "error" a],eE c,fz c,3⟩
class inductive nN(G:Gr)(B:Tb)(a:aa bo):Cf->ba (bc×Cf)->Prop
|ov {c} (h:60<U c.mv):nN G B a c A|st {c b k q o} (h:U c.mv<=60) (e:(fB a)[c.sp]?=J k) (f:cG c.st=J q) (s:gB G B a c k q A b) (r:nN G B a b o):nN G B a c o|en {c b k q d} (h:U c.mv<=60) (e:(fB a)[c.sp]?=J k) (f:cG c.st=J q) (s:gB G B a c k q (J d) b) (l:U b.mv<=60):nN G B a c<|J (d,b)|eo {c b k q d} (h:U c.mv<=60) (e:(fB a)[c.sp]?=J k) (f:cG c.st=J q) (s:gB G B a c k q (J d) b) (l:60<U b.mv):nN G B a c A
abbrev fK:=Md G T i X M B
def tU(m:fK)(a:q<U i)(b:t<G.nT)(h:c (ag<|xp B q t) d):aK (n+1) 409 [h7 G B,ag q,ag t] d c e:=by
 have f:q<U B.th/\U (F B.th q [])=G.nT:=by
  refine rK ((m J3) J4 q _ (bM a) a J1) λg j Z k l Z=>?_;refine br (W ((m J3) V) a) ?_;rcases l with ⟨_,e⟩|⟨_,_,e⟩
  .exact W e<|k V
  .rw [e,bB];exact k V
 have rl:=f;refine a6 Px _ Y Y (bJ Y (by refine W (cf)<|W (e6 (d:=[]) rl.1) ?_;rfl) ?_);exact RV (W rl.2 b)<|bf h
def Ga(m:fK)(a:q<U i)(h:b (ag<|df B q) c):aK (n+1) 375 [h7 G B,ag q] c b d:=a6 Rj (.c 64 _ (.c 130 _ ar)) Y Y<|Hg (W ((m J3) J2) a)<|bf h
def XM(a:cL (F B.nQ p []) b=J q)(h:c (ag q) d):aK (n+1) 392 [h7 G B,ag p,ag b] d c e:=by
 refine a6 SQ _ Y Y ?_;have f:=zF λz=>by rw [cY,iu z] at a;exact aI a
 refine bJ Y (by refine W (cf)<|W (e6 (d:=[]) f) ?_;rfl) ?_;exact br pX<|W r3<|W a<|bf h
def adA(h:a (ag<|tn G k) b):aK (n+1) 384 [h7 G B,aG k] b a c:=by
 refine a6 Mi (.c 64 _ (.c 52 _ ar)) Y Y<|⟨Ua,W afb ?_⟩;unfold tn at h;cases e:g8 k _ with
 |none=>rw [e] at h;exact bf h|some d=>rw [e] at h;refine(?_:ei a (ag _) b);exact W (eF ..)<|bf h
def Bc{a d:Type}{b:aa a}{g:a->d}{c:O}{x}(h:b[c]?=J x):(R g b)[c]?=J (g x):=by simp only [cf,h];rfl
def agu{r:O}(a:G.a9[r]?=J b)(h:c (ag (U b.aQ:O)) d):aK (n+1) 367 [h7 G B,ag r] d c e:=a6 PU (.c 64 _ (.c 61 _ ar)) Y Y<|bJ Y (fV<|Bc a)<|bf h
def aeU{r:O}(a:G.a9[r]?=J b)(h:c (ag b.aY) d):aK (n+1) 346 [h7 G B,ag r] d c e:=a6 ON (.c 64 _ (.c 61 _ ar)) Y Y<|bJ Y (fV<|Bc a)<|bf h
def acZ{r:O}(a:G.a9[r]?=J d)(h:b (ag 0) c):aK (n+1) 366 [h7 G B,ag r] c b e:=a6 Nw (.c 64 _ (.c 61 _ ar)) Y Y<|bJ Y (fV<|Bc a)<|bf h
def Md.vK(m:fK)(a:f∈i)(h:r∈f.rd):0<r/\r<10:=by refine dK (((m J1).we (m V).toGW a).2.1 r h) λb z=>aA z λc d Z=>?_;exact⟨qz b,cc (gl d) (m V).oV⟩
def abD(m:fK)(a:q<U i)(b:t<G.nT)(h:c (ag<|el B q t) d):aK (n+2) 365 [h7 G B,ag q,ag t] d c e:=by
 refine a6 NT _ Y Y (tU m a b ?_);refine lC (λz=>ay z<|(by
  have f:=bM a;rcases(m.K8 f b).1 with ⟨g,h,x⟩|⟨h,r,j,x⟩|⟨h,x⟩
  .exact W x<|mC<|ao Y
  .refine W x λe=>?_;have k:=(m.vK (aO f) j).2;exact ay (eI (p9.mp e)▸k)<|ao Y
  .refine W x ?_;decide)) λZ=>lC (λz=>?_) λz=>?_
 .refine Ga m a ?_;rw [ED z] at h;exact bf h
 .rw [Eg z] at h;exact bf h
def pP(B)(q t):=aD (r4 B q t&&(!aE t 1&& !aE t 2)) (J t) A
def Gk(G:Gr)(B)(q):=eG (pP B q)<|e1 G.nT
def G9{a b:O}:eX (a:au) (b:au)=aE a b:=by
 refine W pB ?_
 by_cases q:a=b
 .exact W q<|W (fJ ..)<|eV Y
 .exact W (d4 q)<|gn λz=>q<|eI z
def TB{a B}(h:t=Q->dH b a B)(c:t=u->B):dH t (dH b a B) (dH t a B):=by
 induction t
 .exact c Y
 .exact h Y
def alj(m:fK)(a:q<U i)(h:b (aN<|iV<|Gk G B q) c):aK (n+2) 383 [h7 G B,ag q] c b d:=by
 refine a6 K5 (.c 64 _ (.c 130 _ ar)) Y Y<|aV de λe s f=>⟨mQ<|ae (m V).t6<|ao Y,cv mR (λZ Z Z=> .c 64 _ (.c 130 _ _)) (λk (_ _:ki)=> .c e (az<|iV<|eG (pP B q)<|e1 k) bO) (λZ Z Z=>bh) () () f a3 (λZ Z Z Z Z=>rfl) ?_ ?_⟩
 .intro t x _ _ s g j _ f l;have j:=lu j;refine W j.1 ?_;have o:=λs=>l () () s a3;rw [AG,zi] at o;have skip:pP B q t=A->g _ s:=λe=>o s<|W e<|W (rfl:xa (A:ba O)=[])<|W (dw ..) f;have p:U (eG (pP B q)<|e1 t)<=1000:=ae (zm ..)<|W fi<|ae (bT j.2)<|ae (m V).t6<|by decide
  have r:eX _ 1=aE t 1:=G9;have v:eX _ 2=aE t 2:=G9;exact TB (λy=>ef (λz=>tU m a j.2<|TB (λC=>ef (λH=>cH f 0 Y<|rh f 0 Y p λs f=>o s<|W (show pP B q t=J t by unfold pP r4;simp only [C,H,<-r,y,<-v,z];rfl) f) λH=>skip (by unfold pP r4;simp only [H,pU];rfl)) λC=>skip (by unfold pP r4;rw [C];rfl)) λz=>skip (by unfold pP;simp only [<-v,z,pU,pU];rfl)) λy=>skip (by unfold pP;simp only [<-r,y,KV,pU];rfl)
 .exactλZ Z s Z f=>jb (fi▸f) 0 Y h
def GZ(G:Gr)(B)(q v):=v=0\/(v=df B q/\∀t<G.nT,xp B q t=0)
def acU(m:fK)(a:q<U i)(h:∀b,(b=Q->∀t<G.nT,xp B q t=0)->c (bS b) d):aK (n+2) 410 [h7 G B,ag q] d c e:=by
 refine a6 Pa (.c 64 _ (.c 130 _ ar)) Y Y ?_;have f:=h u lO;refine Ga m a<|lC (λZ=>bf f) λZ=>⟨mQ<|ae (m V).t6<|ao Y,cv mR (λZ Z Z=> .c 64 _ _) (λZ Z Z=>bO) (λk (_ _:ki)=>∀t<k,xp B q t=0) () () de (λt g=>ay g<|fC t) (λZ Z Z Z Z=>rfl) ?_ ?_⟩
 .intro t x _ _ s j l o p r;have l:=lu l;refine W l.1<|tU m a l.2<|KH (λZ=>m8 p f) λz=>r () () s (λv y=>?_) p;rcases i4.mp y with y|y
  .exact o v y
  .exact W y z
 .intro _ _ s o p;rw [fi] at o;exact m8 p<|h Q λZ=>o
noncomputable def sF(s):=S.casesOn (motive:=λZ=>S) s ck (λs Z=>s) (λZ=>ck) (λZ Z=>ck) (λZ=>ck) (λZ Z Z=>ck) (λZ Z=>ck) (λZ Z Z Z Z=>ck) ck (λZ=>ck) (λZ Z Z Z=>ck) ck λZ=>ck
noncomputable def sR(s):=S.casesOn (motive:=λZ=>S) s ck (λZ r=>r) (λZ=>ck) (λZ Z=>ck) (λZ=>ck) (λZ Z Z=>ck) (λZ Z=>ck) (λZ Z Z Z Z=>ck) ck (λZ=>ck) (λZ Z Z Z=>ck) ck λZ=>ck
noncomputable def sA(s):=S.casesOn (motive:=λZ=>S) s ck (λZ Z=>ck) (λZ=>ck) (λZ Z=>ck) (λZ=>ck) (λZ a Z=>a) (λZ Z=>ck) (λZ Z Z Z Z=>ck) ck (λZ=>ck) (λZ Z Z Z=>ck) ck λZ=>ck
noncomputable def sB(s):=S.casesOn (motive:=λZ=>S) s ck (λZ Z=>ck) (λZ=>ck) (λZ Z=>ck) (λZ=>ck) (λZ Z b=>b) (λZ Z=>ck) (λZ Z Z Z Z=>ck) ck (λZ=>ck) (λZ Z Z Z=>ck) ck λZ=>ck
noncomputable def sW(s):=S.casesOn (motive:=λZ=>S) s ck (λZ Z=>ck) (λZ=>ck) (λZ Z=>ck) (λZ=>ck) (λZ Z Z=>ck) (λZ b=>b) (λZ Z Z Z b=>b) ck (λZ=>ck) (λZ Z Z Z=>ck) ck λZ=>ck
noncomputable def Cs.drop:O->Cs->Cs
|0,d=>d|_+1,bO=>bO|n+1, .c _ _ r=>r.drop n
noncomputable def Cs.pk(a t:Cs):aa O->Cs
|[]=>t|j::r=>match a.at j with
 |some x=> .c x.1 x.2<|a.pk t r|none=>a.pk t r
def aeR:∀{a:Cs} {k},(a.drop m).at k=a.at (m+k):=by
 induction m with
 |zero=>intro a k;exact W (eF ..) Y|succ m b=>
  intro a k
  induction a with
  |nil=>rfl|c a o r=>exact W (jN ..) b
def eD.drop:∀{a},eD b c a->eD b c (a.drop m):=by
 induction m with
 |zero=>exactλh=>h|succ m d=>intro a h;induction a with
  |nil=>exact h|c a o r=>exact d h.2.2.2
def abP{a t:Cs}{c}{p}:∀d {k:O},(a.pk t d).at k=J (c,p)->(∃j∈d,a.at j=J (c,p))\/∃b,t.at b=J (c,p):=by
 refine jd (λh=>aw ⟨_,h⟩) λj r e=>?_;intro k h;have h:(match a.at j with|some x=>Cs.c x.1 x.2 _|none=>a.pk t r).at k=J (c,p):=h;cases q:a.at j with
 |none=>exact(e<|q▸h).imp_left λf=>aA f λb g l=>⟨b,cy _ g,l⟩|some x=>
  rw [q] at h
  induction k with
  |zero=>cases h;exact aL ⟨j,b8 ..,q⟩|succ k=>exact(e h).imp_left λm=>aA m λb g l=>⟨b,cy _ g,l⟩
def Fr.pk(h:Fr c d a)(b)(m)(nd:bw b)(e:∀j∈b,j<m):Fr c d (a.pk (a.drop m) b):=by
 refine ml ?_<|h J1
 induction b with
 |nil=>exact(h V).drop|cons j r f=>
  have nd:=rV.mp nd;have g:=f nd.2 λx k=>e x<|cy _ k;refine(?_:eD c d (match a.at j with|some x=>Cs.c x.1 x.2 _|none=>a.pk _ r));cases q:a.at j with
  |none=>exact g|some x=>
   have l:=(h V).get q;refine⟨l.1,l.2,λk b p n=>?_,g⟩;rcases abP r n with ⟨g,o,n⟩|⟨g,n⟩
   .exact(h V).ne q n<|nd.1 g o
   .exact(h V).ne q (aeR▸n)<|fI<|cc (e j (b8 ..))<|dO _ _
def zS(e:c-j=k)(d:a (ag k) b):xD (ag c) (ag j) b a:=by refine W Me (?_:a _ b);exact W e d
def MJ(a):nr (aG s) (sV a)=J (b6 a s):=
F4 (λZ=>rfl) (λa b e=>by injection e) gv
def vV(h:Fr f a c)(k)(q:c.at k=J (b,az<|sV d))(e:K<|b6 d s):mW (aG s) (aj b) a K:=by refine W q8 ((W (h.c9 q) (?_:bE _ K)):inR _ K (a b));exact W (MJ ..) e
def Un(a):vT (sV a)=J a:=a.rec Y λs r b=>by refine((aq _ b):b7 _ (vT<|sV r)=_)
def Jq:b6 b s=Q↔∃a,g8 s b=J a:=by
 refine b.rec ⟨lO,λc=>bp c λZ h=>aI h⟩ λt r d=>(?_:_↔∃a,(if t=s then J 0 else b7 _ (g8 s r))=J a);refine W Az ?_
 by_cases q:t=s
 .exact W (aJ q)<|W q<|W (jT ..)<|⟨λZ=>cM 0 rfl,λZ=>rfl⟩
 .refine W (aS q)<|W (x4 λz=>q z.symm)<|W (Ww ..) ?_;rw [d];exact⟨λe=>bp e λa f=>⟨a+1,aq _ f⟩,λg=>bp g λa f=>aA (fA f) λj f Z=>cM j f⟩
def BE:∀{a},g8 s b=J a->b[a]?=J s:=by
 refine @(b.rec (λh=>aI h) λt r c=>?_);intro a h;have h:(if t=s then J 0 else b7 _ (g8 s r))=J a:=h
 by_cases q:t=s
 .rw [aJ q] at h;exact ax (aC h)<|aq _ q
 .rw [aS q] at h;obtain⟨j,e,rfl⟩:=fA h;exact c e
def NZ(nd:bw a)(h:a[b]?=J s):g8 s a=J b:=by refine bp (Jq.mp<|ak gv<|aO h) λj c=>?_;obtain⟨a,p⟩:=kq.mp h;obtain⟨b,q⟩:=kq.mp<|BE c;simp only [c,(zQ nd).mp<|af p q.symm]
def afU(h:g8 s a=J b)(c:v=aN (sV a))(d:e (ag b) f):lG jS v (aG s) f e:=by refine W c<|W pV (?_:bE _ _);exact W (Un ..) ((W h d):bE (g8 s a) _)
def D8(f:Fr m a c)(k)(e:c.at k=J (d,az<|sV b))(h:g8 s b=J g)(j:l (ag g) a):lG jS (aj d) (aG s) a l:=W pV<|bW f k e<|W (Un ..) ((W h j):bE (g8 s b) _)
def tg(a:e5)(k):tn G k<G.nT:=by
 unfold tn;cases h:g8 k _ with
 |none=>exact cc (ao Y) a.t3|some b=>have c:=gl<|BE h;exact cc (dS▸c)<|mq _ _
def lU(h:cG a=J q):cG (iV a)=J (ag q):=by unfold iV;simp only [List.getLast?_map,h];rfl
def GP(D)(G:Gr):=uk (U G.a9=U D+1) (∀k l a,D[k]?=J (l,a)->∃b,G.a9[k+1]?=J b/\G.cI[b.aY]?=J l/\a=R (F G.cI · "") b.aQ) (G.cI[G.iU]?=J "s") (G.cI[0]?=J "$end") (G.cI[1]?=J "error") (G.cI[2]?=J "$undefined")<|bw G.cI
structure MA where
mv:O
fa:O
pl:O
nm:O
rw:O
noncomputable def xP:aa O->aa tD->aa ai:=λa b=>List.zipWith (λc (f:tD)=>aR [aG f.k,ag f.q,aj c]) a b
def Gs(a)(b:aa tD):=(A0 a b).foldr (λp c=> .c p.1 (az<|sV p.2.ns) c) bO
noncomputable def Ba(G:Gr):=aF G.nT G.cI
def fv(G:Gr)(d:aa bo)(a:MA)(e f:O)(b:aa O)(c:Cf):Cs:=
.c e (az<|iV c.st) (.c f (az c.ts)<| .c a.mv (az c.mv)<| .c a.fa (az<|xP b c.fl)<| .c a.pl (az<|iV c.pl)<| .c a.nm (az<|sV<|Ba G)<| .c a.rw (az<|sV<|fB d)<|Gs b c.fl)
def gX(G:Gr)(B:Tb)(D:aa<|bo×aa bo)(a:MA)(b c d e:O)(r:aW):aW:=
.c 45 (h7 G B) (.c 115 (gS D)<| .c 50 (ag 60)<| .c 112 (aj a.nm)<| .c 14 (aj a.rw)<| .c 128 (aj b)<| .c 134 (aj c)<| .c 159 (aj a.fa)<| .c 110 (aj a.mv)<| .c 171 (aj a.pl)<| .c 67 (ag d)<| .c 120 (ag e) r)
def mB:=sW<|sF<|sR<|sR<|sR Hv.gZ
def V7:=sF<|sR<|sR<|sR<|sR mB
def K?:=sF<|sB V7
def A2:=sB K?
def Bd(c:Cf):=j4 (U c.mv<=60) (U c.st<=U c.mv+1) (U c.ts<=U c.mv) (U c.fl<=U c.mv)<|U c.pl<=U c.mv
def jc(h:k<=200):k<cu:=cF h<|ao Y
def adr(a:Fr l m<|fv G P b d e n c)(f:Bd c)(h:(fB P)[c.sp]?=J k)(o:lM (k++toString (c.sp:au))<=4096)(p:c.sp<=1000)
 (q:∀j,Fr l j (fv G P b d e n ⟨c.st++[g],c.ts++[xj k c.sp],c.fl,c.mv++[dz "shift" g],c.pl,c.sp+1,c.qu-1⟩)->N (gX G B D b d e (c.sp+1) (c.qu-1)<| .c 63 (ag t)<| .c 5 (ag g) ar) j):
 c1 r s (sA V7) (gX G B D b d e c.sp c.qu<| .c 63 (ag t)<| .c 5 (ag g) ar) m N v C:=by
 have m:=f V;dsimp only [u9] at m;refine cH a 2 Y<|dD a 2 Y (jc<|ae m<|by decide) λx a=>cH a 0 Y<|rh a 0 Y (ae (f J1)<|ae (b2 m)<|ao Y) λy a=>cH a 1 Y<|dc a 6 Y (kt h)<|dc a 6 Y (kt h)<|⟨⟨cj _,ak jg<|bT<|cg p⟩,o,dD a 1 Y (jc<|ae (f J2)<|ae m<|by decide) λz a=>vd ?_⟩;have e:max (0:au) ((c.qu:au)-1)=((c.qu-1:O):au):=af (XE ..)<|a! _;have H:=q z a;unfold gX at H;rw [<-e] at H;exact H
abbrev fW:=GP D G
def GP.rule(b:fW)(d:0<r)(c:G.a9[r]?=J a):∃k,r=k+1/\D[k]?=J (F G.cI a.aY "",R (F G.cI · "") a.aQ)/\G.cI[a.aY]?=J (F G.cI a.aY ""):=by
 obtain⟨k,rfl⟩:=Sy<|jt d;have e:k<U D:=by have:=gl c;rw [b V] at this;exact zr this
 have f:=bM e;refine hv ((b J1) k _ _ f) λg h j l=>?_;rw [show G.a9[k+1]?=J a from c] at h;obtain rfl:=aC h;have e:F G.cI a.aY ""=D[k].1:=by rw [cY,j];rfl
 exact⟨k,Y,by simp only [f,e,<-l];rfl,W e j⟩
def aeV(c:K):pF jS (aN a) b K:=by refine W rG ?_;exact c
def Wa{k m:O}:CD m (ag k) 0=J (min k m):=by show J _=_;exact aq _ (aS<|ak hB<|cj k)
def M5{k m d:O}:CD m (ag k) d=J (min k m):=by show J _=_;exact aq _ (aS<|ak hB<|cj k)
def AR(l:k<=U a)(h:K<|cq k a):mh a (ag k) bk K:=by refine W yI ?_;unfold AP;refine W Wa (?_:K<|(aF (U a) a).drop _);simp only [dI,gf l];exact h
def tp(l:k<=U a)(h:K<|aF k a):mh a bk (ag k) K:=by refine W yI ?_;unfold AP;exact W M5<|W (gf l) h
def Ŋ(j:fW)(a:Fr k t<|fv G P d e f l c)(g:Bd c)(v:0<r)(x:G.a9[r]?=J b)(h:U c.ts=m+U b.aQ)(n:m+1<=U c.st)(y:c.st[m]?=J p)(z:cL (F B.nQ p []) b.aY=J o)
 (C:∀e f q s,Fr k q (fv G P d e f l ⟨aF (m+1) c.st++[o],aF m c.ts++[lV (F G.cI b.aY "")<|cq m c.ts],c.fl,c.mv++[dz "reduce" r],c.pl,c.sp,c.qu⟩)->[5,40,111,53,59,123,63,66].foldl kX s=gX G B D d e f c.sp c.qu ar->N s q):
 c1 (aK<|H+1) I (sA K?) (gX G B D d e f c.sp c.qu<| .c 63 (ag L)<| .c 5 (ag<| -(r:au)) ar) t N Z À:=by
 obtain⟨e,rfl,f,r⟩:=j.rule v x;have q:(0:au)- -((e+1:O):au)=((e+1:O):au):=by simp only [JZ,NG]
 have s:=g V;have t:=g J2;refine zS q<|pf (a:=e+1) (j:=1) (d:=e) (eT e 1)<|bJ Y (Bc (g:=wK) f)<|cH a 2 Y<|zS q<|dD a 2 Y (jc<|ae s<|ao Y) λH a=>bW a 1 Y ?_;have I:U (sV<|R (F G.cI · "") b.aQ)=U b.aQ:=by unfold sV;simp only [bB,bB]
 refine pf (a:=U c.ts) (j:=U<|sV<|R (F G.cI · "") b.aQ) (d:=m) (W I<|W h (eT ..))<|bW a 1 Y<|AR (h▸dO _ _)<|aV a λN L a=>?_;have a:=a.bN;refine hF a<|⟨bT<|jc ?_,?_⟩
 .exact W vO<|ae (d5 (mi ..) 1)<|ae (d5 (ae t s) 1)<|ao Y
 have a:=a.tl;refine bW a 0 Y<|tp (k:=m+1) (W du n)<|aV a λZ v a=>?_;have a:=a.bN;refine bW a 2 Y<|tp (h▸dO _ _)<|aV a λx f a=>?_;have a:=a.bN;refine aV a λq H a=>?_;have a:=a.bN;refine bW a 1 Y<|hF a<|⟨?_,?_⟩
 .exact W dS<|bT<|jc<|ae (d2 (oN _ _)<|bb 1)<|ae (f6 (ae t s) 1)<|by decide
 refine aV a λN I a=>?_;have a:=a.bN;have a:Fr k I (fv G P d Z N l ⟨aF (m+1) c.st,aF m c.ts++[lV (F G.cI b.aY "")<|cq m c.ts],c.fl,c.mv++[dz "reduce"<|e+1],c.pl,c.sp,c.qu⟩):=by have a:=a.pk [3,0,6,7,8,9,10] 11 (ao Y)<|ao Y;unfold fv;exact W (show iV (aF (m+1) c.st)=aF (m+1) (iV c.st) from si ..) a
 refine cH a 0 Y<|jW a 0 Y (lU (q:=p) ?_) ?_
 .simp only [yt,dS,gf n,vM,g6,aJ<|ha m];exact y
 exact aeV<|afU (NZ (j J6) r) Y<|XM z<|rh (m:=o) a 0 Y (W dS<|ae (oN _ _)<|ae (g J1)<|ae (b2 s)<|ao Y) λL a=>C Z N L _ a Y
def l6.lt(c:qv)(h:g4 st d){a p:O}(b:st[a]?=J p):p<U i:=by
 induction a with
 |zero=>rw [h J1] at b;exact ax (aC b)<|aA (c J1) λf e Z=>gl e|succ a=>have l:=gl b;rw [h V] at l;refine gw ((h J2) a _ (bM<|zr l)) λg q Z j k=>?_;rw [b] at j;exact W (aC j)<|c.wa k
def l6.jw(h:g4 st a):cG st=st[U a]?:=by simp only [yt,h V,vM]
def l6.pop(h:g4 (st++[q]) a)(n:st≠[]):∃b s,a=b++[s]/\g4 st b:=by
 have l:=h V;dsimp only [tu] at l;rw [a4,GV] at l;have l:=fZ l;have c:a≠[]:=λz=>n<|Hi<|by rw [l,z];rfl
 have e:=a5<|ro c;have d:U a=U (ku a)+1:=by have f:=aq U e;rw [a4] at f;exact f
 refine⟨ku a,a.getLast c,e,?_⟩;have c:=h.cut<|W d<|fh _;rw [<-d,<-l,B5] at c;rw [show aF (U<|ku a) a=ku a by exact W Ze (Rl ..).symm] at c;exact c
def SG:=sF<|sR<|sR<|sR<|sR<|sR A2
def GK(B)(i)(c:Cf)(st)(a b):=fR (∀x y z,gH B st a b x y z->gH B c.st c.ts c.mv x y z) (∃d,l6 i st d/\U a=U d)<|U b+U st<=U c.mv+U c.st
def afd{a d e}(j:fK)(n:GK B i c a d e)(o:U c.mv+U c.st<=130)(b:Fr q r<|fv G P f g h k ⟨a,d,c.fl,e,c.pl,c.sp,c.qu⟩)
 (l:∀a d e p m,GK B i c a d e->cG a=J p->(h5 B p\/U a=1)->Fr q m (fv G P f g h k ⟨a,d,c.fl,e,c.pl,c.sp,c.qu⟩)->N (gX G B D f g h c.sp c.qu ar) m):
 c1 (aK<|s+1) t SG (gX G B D f g h c.sp c.qu ar) r N v C:=by
 refine n8 (λx X=>U x.1) (λX X=>gX G B D f g h c.sp c.qu ar) (λx y=>fv G P f g h k ⟨x.1,x.2,c.fl,y,c.pl,c.sp,c.qu⟩) (λx y=>GK B i c x.1 x.2 y) (a,d) e b n ?_;intro⟨a,d⟩ e z H I b L;refine aA (I J1) λZ m q=>bp m.top λp r=>?_;have N:=af m.jw r;refine bW b 0 Y<|MR (b:=U<|iV a) (λC=>?_) λC=>?_
 .refine jW b 0 Y (lU N)<|tU j (m.lt (j J1) r) (cc (ao Y) (j V).toGW.t3) ?_;have k:¬h5 B p->c1 (aK<|s+1) t (sW SG) (gX G B D f g h c.sp c.qu ar) z H v H:=λn=>by
   obtain⟨a,Z,rfl⟩:∃j Z,a=j++[Z]:=⟨_,_,a5<|ro λr=>aI<|r▸N⟩;have c:=aC<|pn▸N;subst c;have f:a≠[]:=λr=>j7 _ (r▸C);refine ht (m.pop f) λg h s t=>?_;obtain⟨d,v,rfl⟩:∃H v,d=H++[v]:=⟨_,_,a5<|ro (λr=>by rw [s,r,a4] at q;exact wC q)⟩
   have Z:=I J2;dsimp only [tu] at Z;rw [a4] at Z;refine cH b 2 Y<|YU b 0 Y λz b=>dD b 2 Y (jc<|ae (ae (dO _ _) Z)<|ae o<|ao Y) λz b=>HZ b 1 Y pn λz b=>?_;refine L (a,d) _ z (W a4<|ha _) (bZ (λj c r h=>(I V) j c r<| .pop f n h) ⟨g,t,?_⟩<|W a4<|ae (c6 (cA ..))<|ae (c6<|aq _ (eT ..)) Z) ?_
   .rw [s,a4,a4] at q;exact fZ q
   .rw [wW] at b;exact b
  exact g5 (λx=>⟨⟨Y,ao Y,ao Y⟩,jh<|g5 (λy=>l a d e p z I N (aL ⟨x,y⟩) b) λy=>k λr=>ay r.2<|ak hB y⟩) λx=>k λr=>ay r.1<|ak hB x
 .rw [du] at C;refine l a d e p z I N (aw ?_) b;have v:=m V;exact hJ C<|W v<|k9 _
def akQ:∀{b} {a},U b=U a->(Gs b a).cB c (az<|sV f.ns)=Gs (b++[c]) (a++[f]):=by
 intro b
 induction b with
 |nil=>intro a h;induction a with
  |nil=>rfl|cons _ _=>cases h
 |cons v r d=>intro a h;induction a with
  |nil=>cases h|cons g t=>exact aq _ (d<|fZ h)
def G?(c:K<|eX x a||eX x b):mW (ag x) (aR [ag a,ag b]) d K:=by
 refine W q8 (?_:bE (nr (ag x)<|R ag [a,b]) K);rw [F4 (λZ=>rfl) λZ Z e=>by injection e]
 .exact c
 .refine W pB<|W pB<|W (K6 ..) ?_;rw [mx,mx,qV,qh]
def aj7(h:t=Q->a)(b:t=u->c):dH t a (dH t d c):=by
 induction t
 .exact b Y
 .exact h Y
def aaD(e:Md G T i X M B)(a:Fr p s<|fv G P f g j b c)(k:Bd c)(d:U b=U c.fl)(v:(fB P)[c.sp]?=J l)(m:cG c.st=J q)(x:q<U i)
 (h:∀n r y o,U n=U (c.fl++[tD.mk l q<|p4 G B q])->Fr p o (fv G P f g j n ⟨c.st,c.ts,c.fl++[⟨l,q,p4 G B q⟩],c.mv,c.pl++[c.sp],c.sp,c.qu⟩)->N (gX G B D f g j c.sp c.qu<| .c 63 (ag t)<| .c 5 (ag z)<| .c 59 r<| .c 111 y ar) o):
 c1 (aK<|C+1) H (sA<|sF A2) (gX G B D f g j c.sp c.qu<| .c 63 (ag t)<| .c 5 (ag z) ar) s N I L:=by
 have Z:=(e V).toGW;have f:U (sV<|Ba G)=G.nT:=by unfold sV Ba;simp only [bB,dS];exact gf<|bT Z.nT
 have g:=f;have j:=k V;have l:U (sV _)<=6:=W g (e V).t6;refine bW a 5 Y<|br (mQ<|ae l<|by decide)<|iZ mR (λt=>some<|bS<|r4 B q t) a (λR R R R=>rfl) (W fi<|jc<|ae l<|by decide) (λn o r p s y N z a C R=>?_) λr s a=>?_
 .have z:=lu z;rw [z.1] at C⊢;refine jW a 0 Y (lU m)<|tU e x (g▸z.2)<|⟨⟨Y,ao Y,ao Y⟩,?_⟩;have H {o:au} {t:O} (h:xp B q t=o):(!(eX o 0||eX o (-1048576)))=r4 B q t:=by unfold r4;refine W h ?_;cases eX o 0<;>cases eX o _<;>rfl
  exact zS Y<|G?<|C _ s (ax (H Y) Y) a
 rw [zM] at a;refine bW a 5 Y ⟨mQ<|ae l<|by decide,?_⟩;have a:=a.bN;refine iZ mR (λt=>b7 aG<|yF G B q t) a (λR R R R=>rfl) (W fi<|jc<|ae l<|by decide) (λn o I p s y N z a C L=>?_) λI s a=>?_
 .have z:=lu z;rw [z.1] at C L⊢;have f:eX _ 1=aE n 1:=G9;have e:eX _ 2=aE n 2:=G9;refine dc a 0 Y (by simp only [cf,wg z.2];rfl) ?_;refine aj7 (λr=>?_) λr=>?_
  .refine G?<|ef (λy=>?_) λy=>?_
   .refine dc a 6 Y (kt (s:=F G.cI n "") ?_) ?_
    .unfold Ba;rw [g6,aJ<|g▸z.2];exact e6<|e8 (g▸z.2) Z.nT
    .refine C _ s ?_ a;unfold yF;simp only [r,<-f,<-e,<-b',y];rfl
   .refine L s ?_ a;unfold yF;simp only [r,<-f,<-e,<-b',y];rfl
  .refine L s ?_ a;unfold yF;exact W r Y
 have x:(e1<|U<|sV<|Ba G).filterMap (λt=>b7 aG<|yF G B q t)=sV (p4 G B q):=by refine W g ?_;unfold sV p4;exact W Oy Y
 rw [x] at a;have a:=a.tl;refine cH a 3 Y<|dc a 6 Y (kt v)<|jW a 0 Y (lU m) ?_;have l:U (xP b<|Zq.Cf.fl c)=U (Zq.Cf.fl c):=by unfold xP;simp only [List.length_zipWith,d,Nat.min_self]
 refine dD a 3 Y (W l<|jc<|ae (k J3)<|ae j<|ao Y) λs a=>cH a 4 Y<|rh a 4 Y (ae (k J4)<|ae j<|by decide) λs a=>h (b++[I]) _ _ s (by simp only [a4,a4,d];rfl) ?_;unfold fv;have o {I:O} {f:tD} {H:aa tD} (h:U b=U H):xP b H++[aR [aG f.k,ag f.q,aj I]]=xP (b++[I]) (H++[f]):=by unfold xP;exact W (List.zipWith_append h) Y
 simp only [<-akQ d,<-o d];exact a
noncomputable def nA(a:MA)(b)(v)(c:aa ai):=aD (dG 60<|U c) [aG "endless"] [bS b,v,aj a.fa,aj a.mv]
def Yg(j:Md G T i X M B)(x:∃n,g4 c.st n/\U c.ts=U n)(q:U c.mv+U c.st<=130)(y:([5,111,59,63].foldl kX<|ez z 120<|ag (3:O))=gX G B D e k l c.sp 3 ar)(a:Fr s t<|fv G P e k l v c)
 (C:∀d f b p (g:O) h,gH B c.st c.ts c.mv d f b->cG d=J p->h5 B p->xp B p 1=g->Fr s h (fv G P e k l v ⟨d++[g],f++[vf],c.fl,b++[dz "error" g],c.pl,c.sp,3⟩)->N (gX G B D e k l c.sp 3 ar) h)
 (H:∀d f b p r h,gH B c.st c.ts c.mv d f b->cG d=J p->¬h5 B p->Fr s h (.c r (az<|nA e u bk b)<|fv G P e k l v ⟨d,f,c.fl,b,c.pl,c.sp,3⟩)->m (aR [aj r,aj e.pl]) h):
 c1 (aK<|Z+1) I (sR<|sR<|sR A2) z t N m L:=by
 show c1 _ I SG _ t _ m L;refine W y<|afd (c:=⟨c.st,c.ts,c.fl,c.mv,c.pl,c.sp,3⟩) j (bZ (λR R R k=>k) x<|bb _) q a λd f b p s l t v a=>aA (l J1) λn y z=>?_;have N:=ae (l J2) q;have I:gH B c.st c.ts c.mv d f b:=by
  refine(l V) d f b ?_;rcases v with o|o
  .exact .ok t o
  .exact ah (xT o) λx L=>W L .one
 have Z:=y.lt (j J1)<|y.jw▸t;have k:U d<=1000:=ae (mK _ _)<|ae N<|by decide
 have n:¬h5 B p->dH (nx (60:O) (U b:O)) (iC s (az [aG "endless"]) λv s=>m (aR [v,aj e.pl]) s) (iC s (az [bS u,bk,aj e.fa,aj e.mv]) λv s=>m (aR [v,aj e.pl]) s):=λo=>by
  have q:=λr h=>H d f b p r h I t o;refine h0 (λc=>aV a λr s a=>q r s ?_) λc=>aV a λr s a=>q r s ?_
  .have L:dG 60 (U b)=true:=W kR<|eV c;unfold nA;exact W L a.bN
  .have L:dG 60 (U b)=false:=W kR<|gn<|ak fS c;unfold nA;exact W L a.bN
 have l:1<G.nT:=cc (ao Y) (j V).toGW.t3;refine jW a 0 Y (lU t)<|tU j Z l<|g5 (λg=>br (⟨rfl,of_decide_eq_true rfl,of_decide_eq_true rfl⟩) ?_) λg=>?_
 .refine jh<|g5 (λx=>?_) λx=>bW a 2 Y<|n λe=>ay e.2<|ak hB x;obtain⟨m,v⟩:∃m:Nat,xp B p 1=m:=⟨cK<|xp B p 1,a5<|x6<|om g⟩;refine cH a 0 Y<|jW a 0 Y (lU t)<|tU j Z l<|W v<|rh a 0 Y k λs a=>cH a 1 Y<|dD a 1 Y ?_ λs a=>?_
  .exact jc<|ae (W z<|ae (fh _)<|ae (c6 (y V).symm)<|mK _ _)<|ae N<|by decide
  refine cH a 2 Y<|jW a 0 Y (lU pn) ?_;exact dD a 2 Y (jc<|ae (dO _ _)<|ae N<|by decide) λs a=>C d f b p m s I t ⟨g,x⟩ v a
 .exact bW a 2 Y<|n λe=>ay e.1<|ak hB g
def acn(s:fK)(t:∃v,g4 c.st v/\U c.ts=U v)(x:U c.mv+U c.st<=129)(y:U c.mv<=60)(I:(fB P)[c.sp]?=J k)
 (z:∀C,([5,111,59,63].foldl kX<|ez (gX G B D e h j C c.qu<| .c 63 (ag<|tn G k)<| .c 5 L r) 120<|ag (3:O))=gX G B D e h j C 3 ar)(f:Fr o N<|fv G P e h j q c)
 (m:∀a d b p (l:O) g,(c.qu=3->k≠"$end")->gH B c.st c.ts (gD c<|tn G k) a d b->cG a=J p->h5 B p->xp B p 1=l->Fr o g (fv G P e h j q ⟨a++[l],d++[vf],c.fl,b++[dz "error" l],c.pl,fz c,3⟩)->Z (gX G B D e h j (fz c) 3 ar) g)
 (n:∀a d b p r g,(c.qu=3->k≠"$end")->gH B c.st c.ts (gD c<|tn G k) a d b->cG a=J p->¬h5 B p->Fr o g (.c r (az<|nA e u bk b)<|fv G P e h j q ⟨a,d,c.fl,b,c.pl,fz c,3⟩)->H (aR [aj r,aj e.pl]) g)
 (À:∀r g,c.qu=3->k="$end"->Fr o g (.c r (az<|nA e u bk c.mv)<|fv G P e h j q c)->H (aR [aj r,aj e.pl]) g):
 c1 (aK<|Á+1) Â (sR A2) (gX G B D e h j c.sp c.qu<| .c 63 (ag<|tn G k)<| .c 5 L r) N Z H Ã:=by
 by_cases e:c.qu=3
 .have g:aE c.qu 3=true:=by exact W e Y
  refine hk (λX=>dc f 6 Y (kt I)<|rW (λh=>?_) λh=>?_) λh=>ay e h
  .refine aV f λr j f=>À r j e h ?_;have o:dG 60 (U c.mv)=false:=W kR<|gn<|ak fS y;unfold nA;exact W o f.bN
  .refine hk (λX=>cH f 2 Y<|dD f 2 Y (jc<|ae y<|ao Y) λj f=>?_) λh=>ay e h;have q:gD c (tn G k)=c.mv++[dz "discard"<|tn G k]:=by unfold gD;exact W g Y
   have v:fz c=c.sp+1:=by unfold fz;exact W g Y
   rw [q,v] at m n;refine Yg (c:=⟨c.st,c.ts,c.fl,c.mv++[dz "discard" _],c.pl,c.sp+1,3⟩) s t ?_ (z _) f (λa d b p l j C=>m a d b p l j (λX=>h) C) λa d b p r j C=>n a d b p r j (λX=>h) C;simp only [a4,GV,jN];exact b2 x
 .have g:=d4 e;have q:gD c (tn G k)=c.mv:=by unfold gD;exact W g Y
  have v:fz c=c.sp:=by unfold fz;exact W g Y
  rw [q,v] at m n;exact hk (λh=>ay h e) λX=>hk (λh=>ay h e) λX=>hk (λh=>ay h e) λX=>Yg s t (hI x) (z c.sp) f (λa d b p l j C=>m a d b p l j (λh=>ay h e) C) λa d b p r j C=>n a d b p r j (λh=>ay h e) C
abbrev lT:=gB G B P
def agg(n:fK)(H:∃m,g4 c.st m/\U c.ts=U m)(j:Bd c)(s:U t=U c.fl)(v:(fB P)[c.sp]?=J k)(x:cG c.st=J q)(o:el B q (tn G k)=0)(b:Fr p y<|fv G P d f g t c)
 (Ã:∀a e l,U a=U e.fl->lT c k q A e->Fr p l (fv G P d f g a e)->N (gX G B D d f g e.sp e.qu ar) l)
 (z:∀a e r l,U a=U e.fl->lT c k q (J u) e->Fr p l (.c r (az<|nA d u bk e.mv)<|fv G P d f g a e)->C (aR [aj r,aj d.pl]) l):
 c1 (aK<|L+1) Á A2 (gX G B D d f g c.sp c.qu<| .c 63 (ag<|tn G k)<| .c 5 (ag h) ar) y N C À:=by
 have Â:U c.mv+U c.st<=129:=ae (d2 (j V)<|ae (j J1)<|b2<|j V)<|ao Y;refine aA H λm l H=>?_;have go:∀a (Z:Cf) r e,U a=U Z.fl->Z=⟨c.st,c.ts,eK G B c k q,c.mv,eE c,c.sp,c.qu⟩->Fr p e (fv G P d f g a Z)->
  (∀p,([5,111,59,63].foldl kX<|ez (gX G B D d f g p c.qu<| .c 63 (ag<|tn G k)<| .c 5 (ag h) r) 120<|ag (3:O))=gX G B D d f g p 3 ar)->
  c1 (aK<|L+1) Á (sR A2) (gX G B D d f g c.sp c.qu<| .c 63 (ag<|tn G k)<| .c 5 (ag h) r) e N C À:=by
  intro a Z r e d f b g;subst f;refine acn (c:=⟨c.st,c.ts,eK G B c k q,c.mv,eE c,c.sp,c.qu⟩) n ⟨m,l,H⟩ Â (j V) v g b (λN C L p h e Z m H f Ä b=>?_) (λN C L p r e Z m H f b=>z a ⟨N,C,eK G B c k q,L,eE c,fz c,3⟩ r e d (gB.oh o Z m p H f) b) λr e I g b=>?_
  .exact Ã a ⟨N++[h],C++[vf],eK G B c k q,L++[dz "error" h],eE c,fz c,3⟩ e d (gB.mD (c:=c) o Z m p H h f Ä) b
  .have h:aE c.qu 0=false:=by exact W I Y
   have N:eK G B c k q=c.fl:=by unfold eK;exact W h Y
   have C:eE c=c.pl:=by unfold eE;exact W h Y
   rw [N,C] at b;exact z a c r e (N▸d) (.rk o I g) b
 by_cases I:c.qu=0
 .have h:aE c.qu 0=true:=by exact W I Y
  have N:eK G B c k q=c.fl++[⟨k,q,p4 G B q⟩]:=by unfold eK;exact W h Y
  have C:eE c=c.pl++[c.sp]:=by unfold eE;exact W h Y
  exact hk (λX=>aaD n b j s v x (l.lt (n J1)<|l.jw▸x) λa r L e d b=>go a _ _ e d (W N<|W C Y) b λX=>rfl) λg=>ay I g
 .have h:=d4 I;have N:eK G B c k q=c.fl:=by unfold eK;exact W h Y
  have C:eE c=c.pl:=by unfold eE;exact W h Y
  exact hk (λg=>ay g I) λX=>go t c ar y s (W N<|W C Y) b λX=>rfl
def gH.len(h:gH B a f b c g e):U b<=U e/\U e+U c=U b+U a/\∃d,U c+d=U a/\U g=U f-d:=by
 induction h with
 |ok h o=>exact⟨bb _,Y,0,Y,Y⟩|one=>exact⟨bb _,Y,0,Y,Y⟩|@pop a f b c g e q v n o r j=>
  refine Ai j λk l z=>aA z λd e f=>?_;rw [a4] at k l;refine⟨uM k,?_,d+1,?_,?_⟩
  .simp only [a4,l];show U b+1+U a=U b+(U a+1);simp only [cA,eT 1]
  .simp only [a4,<-e];rfl
  .simp only [a4,f];exact W (GJ ..) Y
def gH.wk(h:gH B c d g e f j):∀{a},g4 c a->U d=U a->∃b,g4 e b/\U f=U b:=by
 induction h with
 |ok h o=>exactλk l=>⟨_,k,l⟩|one=>exactλk l=>⟨_,k,l⟩|@pop c d g e f j q v n o r m=>intro a k l;refine ht (k.pop n) λb s e h=>?_;rw [e,a4,a4] at l;exact m h<|fZ l
def Wb(i)(a:aa bo)(c:Cf):=oj (U c.st<=U c.mv+1) (U c.ts<=U c.mv) (U c.fl<=U c.mv) (U c.pl<=U c.mv) (∃b,l6 i c.st b/\U c.ts=U b)<|c.sp<=U a
def xq(h:(fB P)[a]?=J k)(l:a<=U P)(n:k≠"$end"):a+1<=U P:=by refine xJ l λe=>n ?_;unfold fB at h;rw [h8<|c6 e.symm,e,ql] at h;exact a5<|aC h
def B8(a:fW)(b:e5):tn G "$end"=0:=by
 unfold tn;rw [NZ<|SM (Ri ..)<|a J6]
 .rfl
 .exact W (g6)<|W (aJ<|cc (ao Y) b.t3)<|a J3
def Md.zj(a:fK)(n:G.nT<=b)(c:p<U i):cL (F B.nQ p []) b=J q↔go i p b=J q:=by
 have d:=bM c;have e {f:O} {t:O} {g:aa<|O×O} (nd:bw<|R (·.1) g) (h:f<=t):cL (uO f g) t=cL g t:=by
  have b:dG t f=false:=W kR<|gn<|ak fS h;refine af (P_ (c:=f) (h:=λs v=>aD (dG s f) A<|J v) (λp=>?_) nd) ?_
  .unfold uf;cases dG p.1 f<;>rfl
  .refine W b ?_;cases cL g t<;>rfl
 simp only [(a J3) J4 p _ d c V,e ((a J1).As (a V).toGW<|aO d).1 n,yS d]
def Md.Qv(b:fK){q t a:O}(c:q<U i)(d:t<G.nT)(h:el B q t=a)(p:0<a)(l:a<1048576):go i q t=J a/\t≠0:=by
 rcases b.qq (bM c) d with ⟨e,g,x⟩|⟨g,r,f,x⟩|⟨g,x⟩
 .have e:=eI<|af h.symm x;cases z:aE t 0 with
  |true=>rw [z] at e;exact ay l<|ak fS<|c6 e.symm|false=>rw [z] at e;exact⟨W e g,λy=>by rw [y] at z;exact bU z⟩
 .exact ay (af h.symm x)<|mC (b.vK (aO<|bM c) f).1
 .exact ay (eI<|af h.symm x)<|jt p
def Md.Yq(a:fK){p b:O}(c:p<U i)(o:h5 B p)(h:xp B p 1=b):go i p 1=J b:=by
 have d:1<G.nT:=cc (ao Y) (a V).toGW.t3;have e:0<b:=by have f:=o.1;exact hn.mp<|h▸f
 rcases(a.K8 (bM c) d).1 with ⟨g,j,x⟩|⟨j,r,k,x⟩|⟨j,x⟩
 .exact W (eI<|af h.symm x) j
 .exact ay (af h.symm x)<|mC (a.vK (aO<|bM c) k).1
 .exact ay (eI<|af h.symm x)<|jt e
def bK:U (a++[x])=U a+1:=a4
def gB.wb(b:fK)(Å:fW)(a:Wb i P c)(d:(fB P)[c.sp]?=J k)(Ì:cG c.st=J q)(s:lT c k q A e):Wb i P e/\U c.mv<U e.mv:=by
 refine aA (a J4) λh j l=>?_;have m:=j.jw▸Ì;have n:=j.lt (b J1) m;have o:=tg (b V).toGW k;generalize p:(A:ba bc)=r at s
 induction s with
 |acc t=>exact aI p|rk t v x=>exact aI p|oh t v y z C r=>exact aI p|nc Â t z I=>
  refine dK (b.Qv n o t z I) λL N=>?_;have Z:k≠"$end":=λx=>N<|W x<|B8 Å (b V).toGW;refine⟨eY ?_ ?_ ?_ ?_ ⟨_,j.tH m L,?_⟩<|xq d (a J5) Z,?_⟩<;>try dsimp only
  .simp only [bK,bK];exact b2<|a V
  .simp only [bK,bK];exact b2<|a J1
  .exact W bK<|hI<|a J2
  .exact W bK<|hI<|a J3
  .simp only [bK,bK,l]
  .exact W bK<|ha _
 |red Á N z À Z t I H v C Ã=>
  rcases b.qq (bM n) o with ⟨Ä,L,f⟩|⟨L,Æ,Ç,f⟩|⟨L,f⟩
  .exact ay (af f.symm t)<|mC I
  .have È:=eI<|p9.mp<|af t.symm f;subst È;refine zl (j.red (b V) (b J1) m (bM n) Ç) λÉ Ê Ë g=>?_;obtain rfl:=aC<|af H.symm<|g V;have L:Z=U h-U N.aQ:=by simp only [<-l,v,vM]
   have Í:c.st[Z]?=J Ê:=W L<|g J3;refine W (aC<|af C.symm Í) ?_;have g:Z<=U h:=W L (mi ..);have L:U (aF Z h)=Z:=by simp only [dS,gf g]
   have Î:U (aF (Z+1) c.st)=Z+1:=by simp only [dS,j V,gf<|b2 g]
   refine⟨eY ?_ ?_ ?_ ?_ ⟨_,(j.cut g).tH ?_<|(b.zj ((b V).toGW.lt N<|aO H).1.1<|j.lt (b J1) C).mp Ã,?_⟩<|a J5,?_⟩<;>try dsimp only
   .simp only [bK,bK,Î];exact b2<|b2<|ae g<|l▸(a J1)
   .simp only [bK,bK,dS];exact b2<|ae (oN _ _)<|a J1
   .exact W bK<|hI<|a J2
   .exact W bK<|hI<|a J3
   .rw [L,g6,aJ<|ha Z];exact C
   .simp only [bK,bK,L,dS,l,gf g]
   .exact W bK<|ha _
  .exact ay (eI<|p9.mp<|af t.symm<|af f (af Nk.symm Y:_= -((0:O):au)))<|jt I
 |@mD Ð Ô Ï t v y z C Â r H=>
  refine aA (y.wk j l) λÓ L I=>?_;refine Ai y.len λN Ñ x=>aA x λÒ f Z=>?_;have Õ:U c.mv<=U (gD c<|tn G k):=by
   unfold gD;cases aE c.qu 3 with
   |true=>exact W (rfl:aD Q _ c.mv=c.mv++[dz "discard" _])<|W bK<|fh _|false=>exact bb _
  have g:=ae Õ N;have Ö:U (eK G B c k q)<=U c.fl+1:=by
   unfold eK;cases aE c.qu 0 with
   |true=>exact c6 bK|false=>exact fh _
  have Ø:U (eE c)<=U c.pl+1:=by
   unfold eE;cases aE c.qu 0 with
   |true=>exact c6 bK|false=>exact fh _
  refine br (eY ?_ ?_ ?_ ?_ ⟨_,L.tH (L.jw▸C)<|b.Yq (L.lt (b J1)<|L.jw▸C) r H,?_⟩ ?_) ?_
  .simp only [bK,bK];exact b2<|ae (f▸dO _ _)<|ae (a V)<|b2 g
  .simp only [bK,bK,Z];exact b2<|ae (mi ..)<|ae (a J1) g
  .exact W bK<|ae Ö<|b2<|ae (a J2) g
  .exact W bK<|ae Ø<|b2<|ae (a J3) g
  .simp only [bK,bK,I]
  .show fz c<=U P;unfold fz;cases x:aE c.qu 3 with
   |true=>exact xq d (a J5)<|v<|eb x|false=>exact a J5
  .exact W bK<|ic g
def qx(f:tD):=aR [aG f.k,ag f.q,aN<|sV f.ns]
noncomputable def Zb:=aN [aG "endless"]
def Dy(b)(v)(c:Cf):=aN [bS b,v,aN<|R qx c.fl,aN c.mv]
def OV:ba (bc×Cf)->ai
|none=>Zb|some (b,c)=>Dy b (aD b (dN (cG c.ts) bk) bk) c
def aia(c:Fr d e f)(m):∀b (a:aa tD),U b=U a->(∀k x,(Gs b a).at k=J x->∃j,f.at j=J x)->gA (kW (x3 d) e<|m+3) (xP b a) (R qx a):=by
 intro b
 induction b with
 |nil=>intro a h _;induction a with
  |nil=>exact nG|cons _ _=>cases h
 |cons g r l=>intro a h n;induction a with
  |nil=>cases h|cons o t=>exact bp (n 0 _ Y) λj p=>iy (aw<|aL ⟨_,_,Y,Y,iy (dQ _ _)<|iy (dQ _ _)<|iy (aw<|aw<|aw ⟨g,Y,c.e9 j p,aL ⟨_,_,c.c9 p,Y,j6 (λZ=>dQ (m+1) _) _⟩⟩) nG⟩)<|l t (fZ h) λk x e=>n (k+1) x e
def VJ(e:U d=U c.fl)(a:Fr f g<| .c r (az<|nA b h v c.mv)<|fv G P b l m d c)
 (j:k (aR [aD (dG 60<|U c.mv) Zb<|Dy h v c,aN<|iV c.pl]) f):ei k (aR [aj r,aj b.pl]) g:=by
 refine mG a 7 (aw<|aL ⟨_,_,Y,Y,iy ?_<|iy ?_ nG⟩) j
 .have g:=a.c9 (k:=0) Y;have n:=a.e9 (c:=r) 0 Y;unfold nA at g;cases z:dG 60 (U c.mv) with
  |true=>rw [z] at g;exact aw<|aw<|aw ⟨r,Y,n,aL ⟨_,_,g,Y,j6 (λZ=>dQ 5 _) _⟩⟩|false=>rw [z] at g;exact aw<|aw<|aw ⟨r,Y,n,aL ⟨_,_,g,Y,iy (dQ _ _)<|iy (dQ _ _)<|iy (aw<|aw<|aw ⟨b.fa,Y,a.e9 4 Y,aL ⟨_,_,a.c9 (k:=4) Y,Y,aia a 1 d c.fl e λk x o=>cM (k+8) o⟩⟩)<|iy (aw<|aw<|aw ⟨b.mv,rfl,a.e9 3 rfl,aL ⟨_,_,a.c9 (k:=3) rfl,rfl,j6 (λZ=>dQ 4 _) _⟩⟩) nG⟩⟩
 .exact aw<|aw<|aw ⟨b.pl,Y,a.e9 5 Y,aL ⟨_,_,a.c9 (k:=5) Y,Y,j6 (λZ=>dQ 5 _) _⟩⟩
def Ez(h:Fr f a b)(k)(e:b.at k=J (c,az g))(d:K):pF jS (aj c) a K:=by refine W rG ?_;unfold Nr;exact bW h k e d
def ac0(b:Md G T i X M B)(Å:GP D G)(À:U P<=9)(Á:lM (k++toString (c.sp:au))<=4096)(l:Wb i P c)(Î:U c.mv<=60)(n:U o=U c.fl)(Ê:(fB P)[c.sp]?=J k)(Í:cG c.st=J q)(h:el B q (tn G k)=x)
 (a:Fr C H<|fv G P j f g o c)
 (Ô:∀e d f g m,U e=U d.fl->gB G B P c k q A d->Fr C m (fv G P j f g e d)->Ð (gX G B D j f g d.sp d.qu ar) m)
 (É:∀e d r v Ñ m,U e=U d.fl->gB G B P c k q (J Ñ) d->v=aD Ñ (dN (cG d.ts) bk) bk->Fr C m (.c r (az<|nA j Ñ v d.mv)<|fv G P j f g e d)->Æ (aR [aj r,aj j.pl]) m):
 c1 (aK<|Â+1) Ã (sR<|sR<|sR mB) (gX G B D j f g c.sp c.qu<| .c 63 (ag<|tn G k)<| .c 5 (ag x) ar) H Ð Æ Ä:=by
 refine aA (l J4) λm C Z=>?_;have Ø:=C.jw▸Í;have Ç:=C.lt (b J1) Ø;have È:=tg (b V).toGW k;have Ó:Bd c:=ec Î (l V) (l J1) (l J2)<|l J3;have y:=bM Ç;refine br (⟨rfl,by decide,by decide⟩) ?_;have Ë:x≠((2^cK (20:au):O):au)->c1 (aK<|Â+1) Ã (sR<|sR<|sR<|sR mB) (gX G B D j f g c.sp c.qu<| .c 63 (ag<|tn G k)<| .c 5 (ag x) ar) H Ð Æ Ä:=λÌ=>by
  rcases b.qq y È with ⟨H,j,z⟩|⟨j,r,t,z⟩|⟨j,z⟩
  .have Ï:=(b J1).Jk j;have N:H<1048576:=e8 ((b J1).wa j)<|(b J1) J2;have s:x=(H:au):=by
    simp only [<-h,z];cases x:aE (tn G k) 0 with
    |true=>rw [x] at z;exact ay (af h.symm z) Ì|false=>rfl
   subst s;exact h0 (a:=0) (b:=H) (λÒ=>adr a Ó Ê Á (ae (l J5)<|ae À<|ao Y) λl a=>Ô o ⟨c.st++[H],c.ts++[xj k c.sp],c.fl,c.mv++[dz "shift" H],c.pl,c.sp+1,c.qu-1⟩ f g l n (.nc H h Ò N) a) λÒ=>ay (vy.mp Ò) Ï
  .have I:=b.vK (aO y) t;have s:=af h.symm z;subst s;refine zl (C.red (b V) (b J1) Ø y t) λp Õ Ö L=>?_;have Ù:U c.ts=(U m-U p.aQ)+U p.aQ:=by simp only [Z,Ao<|L J1]
   have Ú:=ak (b.zj ((b V).toGW.lt p<|aO<|L V).1.1<|C.lt (b J1)<|L J3)<|L J6;have Û:U m-U p.aQ+1<=U c.st:=gl<|L J3;refine g5 (λx=>ay x<|ak hB<|VG<|cj r) λR=>g5 (λx=>⟨⟨Y,by decide,by decide⟩,zS (k:= -1048576) Y<|KH (λR=>?_) λx=>?_⟩) λx=>ay x<|ak yi<|O5<|ak hn I.1
   .refine Ŋ Å a Ó I.1 (L V) Ù Û (L J3) Ú λÜ Ý l Þ a ß=>?_;show Ð ([5,40,111,53,59,123,63,66].foldl kX Þ) l;exact W ß<|Ô o ⟨aF (U m-U p.aQ+1) c.st++[Ö],aF (U m-U p.aQ) c.ts++[lV (F G.cI p.aY "")<|cq (U m-U p.aQ) c.ts],c.fl,c.mv++[dz "reduce" r],c.pl,c.sp,c.qu⟩ Ü Ý l n (.red r p Õ Ö _ h I.1 (L V) Ù (L J3) Ú) a
   .have x:=eI<|p9.mp x;rw [x] at I;exact ay I.2<|ao Y
  .have s:=af h.symm z;subst s;exact g5 (λx=>ay x<|by decide) λR=>g5 (λx=>ay x<|by decide) λR=>g5 (λx=>ay x<|by decide) λR=>agg b ⟨m,C,Z⟩ Ó n Ê Í z a (λe d l m s a=>Ô e d f g l m s a) λe d r l m s a=>É e d r bk u l m s Y a
 refine lC (λx=>?_) Ë;have I:el B q (tn G k)=1048576:=af h x;refine cH a 2 Y<|dD a 2 Y (jc<|ae Î<|ao Y) λl a=>?_;have p:=λr l=>É o ⟨c.st,c.ts,c.fl,c.mv++[n9 "accept"],c.pl,c.sp,c.qu⟩ r (dN (cG c.ts) bk) Q l n (.acc I) Y;refine bW a 2 Y<|h0 (a:=60) (λL=>aV a λr l a=>p r l ?_) λL=>?_
 .have z:dG 60 (U<|c.mv++[n9 "accept"])=true:=W kR<|eV L;unfold nA;exact W z a.bN
 .have d:∃v,cG c.ts=J v:=by
   have j:∃H,go i q (tn G k)=J H/\tn G k=0:=by
    rcases b.qq y È with ⟨H,j,z⟩|⟨j,r,t,z⟩|⟨j,z⟩
    .cases x:aE (tn G k) 0 with
     |true=>exact⟨H,j,eb x⟩|false=>rw [x] at z;have N:=e8 ((b J1).wa j)<|(b J1) J2;have:=eI<|af I.symm z;rw [show aD u 1048576 H=H from Y] at this;rw [<-this] at N;exact ay N<|ao Y
    .exact ay (af I.symm z)<|mC (b.vK (aO y) t).1
    .exact ay (af I.symm z)<|ao Y
   refine aA j λH j e=>?_;rw [C.acc (b V) (b J1) Ø<|e▸j] at Z
   match h:c.ts,Z with
   |[v],_=>exact cM v rfl
  refine bp d λv f=>?_;rw [f] at p;refine jW a 1 Y f<|aV a λr l a=>p r l ?_;have z:dG 60 (U<|c.mv++[n9 "accept"])=false:=W kR<|gn<|ak fS L;unfold nA;exact W z a.bN
noncomputable def c0:Cf:=⟨[0],[],[],[],[],0,0⟩
abbrev jr:=nN G B P
def ai7(d:fK)(Î:fW)(g:U P<=9)(Á:∀k∈fB P,∀e≤9,lM (k++toString ((e:O):au))<=4096)
 (h:∀o a,jr c0 o->(∀b c,o=J (b,c)->a=c.pl)->Ã (aR [OV o,aN<|iV a]) f):aK (n+2) 299 [h7 G B,gS D,aN<|sV P,ag 60] f Ã Ç:=by
 have q:=(d V).toGW;refine a6 Hv (.c 45 _ (.c 115 _ (.c 103 _ (.c 50 _ ar)))) Y Y<|tp (W (bB ..)<|bT q.nT)<|aV de λr s t=>aV t λv s t=>aV t λx s t=>bW t 1 Y<|bW t 2 Y ⟨?_,?_⟩
 .exact W (bB ..)<|bT<|jc<|ae (f6 g 1)<|ao Y
 refine aV t λy s t=>aV t λz s t=>aV t λC s t=>aV t λH s t=>aV t λI s t=>aV t λa s t=>?_;have t:Fr f s (fv G P ⟨I,H,a,r,y⟩ z C [] c0):=by have t:=t.pk [4,5,7,6,8,0,3] 9 (ao Y)<|ao Y;unfold fv fB Ba sV;simp only [dq,si];exact t
 refine n8 (λc X=>61-U c.mv) (λc b=>gX G B D ⟨I,H,a,r,y⟩ b.1 b.2.1 c.sp c.qu ar) (λc b=>fv G P ⟨I,H,a,r,y⟩ b.1 b.2.1 b.2.2 c)
  (λc b=>Wb i P c/\U b.2.2=U c.fl/\∀o,jr c o->jr c0 o) c0 (z,C,[]) t ⟨eY (bb 1) (bb 0) (bb 0) (bb 0) ⟨[],Bm,Y⟩<|cQ _,Y,λX h=>h⟩ ?_
 intro c ⟨z,C,L⟩ s N Z t À;refine Ai Z λx Z v=>bW t 2 Y<|xo (λp=>?_) λp=>?_
 .refine aA (x J4) λÂ l Ä=>bp l.top λÅ Æ=>?_;have m:=af l.jw Æ;have È:=l.lt (d J1) Æ;have rl:c.sp<U (fB P):=W bK<|ic<|x J5;obtain⟨k,l⟩:∃k,_[c.sp]?=some k:=cM _<|bM rl;have É:∀s,Fr f s (fv G P ⟨I,H,a,r,y⟩ z C L c)->c1 (aK<|n+1) Ç (sR mB) (gX G B D ⟨I,H,a,r,y⟩ z C c.sp c.qu<| .c 63 _ ar) s N _ N:=λs t=>by
   refine jW t 0 Y (lU m)<|tU d È (tg q k) ?_;have Í:∀Ê s,el B Å _=Ê->Fr f s (fv G P ⟨I,H,a,r,y⟩ z C L c)->c1 (aK<|n+1) Ç _ _ s N (ei Ã) N:=λÊ s n t=>by
    refine ac0 d Î g (Á k (aO l) c.sp<|ae (x J5) g) x p Z l m n t (λN g Ì Ë s n q t=>?_) λN g j Ï b s n q Ð t=>VJ n t ?_
    .have Ñ:=q.wb d Î x l m;exact À g (Ì,Ë,N) s (zg (ic p) Ñ.2) ⟨Ñ.1,n,λo j=>v o<| .st p l m q j⟩ t
    .cases o:dG 60 (U g.mv) with
     |true=>exact h A g.pl (v A<| .eo p l m q<|ho o) λb c o=>aI o|false=>have x:U g.mv<=60:=j5<|C1<|kR▸o;refine W Ð ?_;exact h _ g.pl (v _ (.en p l m q x)) λb c o=>by cases o;rfl
   exact lC (λN=>jW t 0 Y (lU m)<|Ga d È<|zS (k:=el B Å _) (W (ED N) (JZ ..))<|Í _ s Y t) λN=>Í _ s (Eg N) t
  refine dc t 6 Y (kt l)<|vV t 5 Y<|ef (λN=>?_) λN=>?_
  .refine bp (Jq.mp N) λe n=>Ez t 5 Y<|dc t 6 Y (kt l) ?_;have g:tn G k=e:=by unfold tn;exact W (n:g8 k _=J e) Y
   exact D8 t 5 Y (g▸n)<|É s t
  .have g:tn G k=2:=by
    unfold tn;cases o:g8 k _ with
    |none=>rfl|some e=>exact bU<|af N.symm<|ak Jq ⟨e,o⟩
   have m:=É s t;rw [g] at m;exact m
 .refine aV t λj s t=>?_;have o:dG 60 (U c.mv)=true:=W kR<|eV p;have t:Fr f s (.c j (az<|nA ⟨I,H,a,r,y⟩ Q bk c.mv)<|fv G P ⟨I,H,a,r,y⟩ z C L c):=by unfold nA;exact W o t.bN
  exact VJ Z t<|W o<|h A c.pl (v A<| .ov p) λb c o=>aI o
noncomputable def jO(k a):=od 77<| .c 38 (aG k)<| .c 69 (aG a)<| .c 3 bk<| .c 140 (aG a) ar
def rq(k a):=od 19<| .c 52 (aG k)<| .c 61 (ag 0)<| .c 226 (aN [])<| .c 133 (jO k a) ar
noncomputable def u4(l)(r:O)(a):=od 22<| .c 52 (aG l)<| .c 61 (ag r)<| .c 226 (aN a) ar
noncomputable def u3(k a):=aR [aG k,aG a]
class inductive Tl:aa ai->aa ai->aa ai->Prop
|nil:Tl [] [] []|lf {k c a b e} (r:Tl a b e):Tl (rq k c::a) (u3 k c::b)<|rq k c::e|nd {l r d f a b g h} (j:Tl d f g) (m:Tl a b h):Tl (u4 l r d::a) (lV l f::b)<|g++u4 l r d::h
def Tl.len{a b c}(h:Tl a b c):U b=U a:=h.rec Y (λZ d=>aq (·+1) d) λZ Z Z d=>aq (·+1) d
def Tl.app{a b c d e f}(h:Tl a b c)(k:Tl d e f):Tl (a++d) (b++e) (c++f):=h.rec k (λZ g=> .lf g) λa Z Z g=>W (dy ..)<| .nd a g
def Tl.cut{b c e}(h:Tl b c e):∀k,∃d a,Tl (aF k b) (aF k c) d/\Tl (cq k b) (cq k c) a/\e=d++a:=by
 induction h with
 |nil=>exactλk=>⟨[],[],by cases k<;>exact .nil,by cases k<;>exact .nil,Y⟩|@lf f g b c e r j=>
  intro k
  induction k with
  |zero=>exact⟨[],_, .nil, .lf r,Y⟩|succ k=>exact gw (j k) λd a l m e=>⟨_::d,a, .lf l,m,aq _ e⟩
 |@nd n o p q b c s t l m _ j=>
  intro k
  induction k with
  |zero=>exact⟨[],_, .nil, .nd l m,Y⟩|succ k=>exact gw (j k) λd a c d e=>⟨_,a, .nd l c,d,by simp only [e,dy];rfl⟩
def Tl.snoc{c d e x}(h:Tl (c++[x]) d e):∃f t a b,d=f++[t]/\e=a++b/\Tl c f a/\Tl [x] [t] b:=by refine gw (h.cut<|U c) λa b g j e=>?_;rw [B5] at g;rw [O4] at j;refine bp (xT j.len) λt k=>?_;exact⟨_,t,a,b,ax k<|W (wR ..) Y,e,g,k▸j⟩
def Tl.cnt{a c b}(h:Tl a c b):U a<=U b:=by refine h.rec (bb 0) (λZ d=>b2 d) λZ Z Z d=>?_;simp only [a4,hS,hS];exact ae (b2 d)<|mK _ _
class inductive Rn:aa ai->aa ai->aa ai->Prop
|nil {d}:Rn d [] d|lf {k e d a b} (r:Rn (d++[u3 k e]) a b):Rn d (rq k e::a) b|td {l r f c d a b} (g:U c=U f) (h:Rn (d++[lV l c]) a b):Rn (d++c) (u4 l r f::a) b
def Tl.rn{f c e}(h:Tl f c e):∀{d a b},Rn (d++c) a b->Rn d (e++a) b:=by
 induction h with
 |nil=>intro d a b k;rw [dw] at k;exact k|lf _ g=>intro d a b k;exact .lf<|g<|W (dy ..) k|nd j _ l m=>intro d a b k;exact W (dy ..)<|l<| .td j.len<|m<|W (dy ..) k
def adq(h:a (u3 k b) c):aK (n+1) 340 [jO k b] c a d:=a6 LW (.c 64 _ ar) Y Y<|bf h
def Pj(h:a (jO k b) c):aK (n+2) 77 [aG k,aG b,bk] c a d:=by refine jL Y Y λa e=>?_;have f:=de.hO (o:=cw 77 ar) e;exact a6 N5 _ Y Y (bP f Y λs f=>bP f Y λs f=>bP f Y λs f=>⟨Y,bP f Y λs f=>bf ⟨Y,EL f 0 Y h⟩⟩)
def q!(h:a (rq k b) c):aK (n+2) 19 [jO k b] c a d:=by refine jL Y Y λa e=>?_;have f:=de.hO (o:=cw 19 ar) e;refine a6 Mm (.c 64 _ (.c 133 _ ar)) Y Y<|bP f Y λs f=>bP f Y λs f=>aV f λb s f=>bP f Y λs f=>bP f Y λs f=>bf ⟨Y,mG f 2 ?_ h⟩;exact aw<|aw<|aw ⟨a,Y,f.e9 0 Y,aw<|aw ⟨_,_,_,f.c9 (k:=0) Y,Y,⟨_,_,Y,dQ 1 _,_,_,Y,dQ 1 _,_,_,Y,aw<|aw<|aw ⟨b,Y,f.e9 1 Y,aL ⟨_,_,f.c9 (k:=1) Y,Y,nG⟩⟩,_,_,Y,dQ 1 _,Y⟩⟩⟩
def ω{a:QT}(c:eR b v=J d)(h:a (u4 l r d) b):aK (n+2) 22 [aG l,ag r,v] b a e:=by refine jL Y Y λa f=>?_;have g:=de.hO (o:=cw 22 ar) f;exact a6 OL (.c 64 _ (.c 52 _ (.c 61 _ (.c 226 v ar)))) Y Y<|bP g Y λs g=>bP g Y λs g=>te (ik g c)<|aV g λb s g=>bP g Y λs g=>bf ⟨Y,mG g 2 (aw<|aw<|aw ⟨a,Y,g.e9 0 Y,aw<|aw ⟨_,_,_,g.c9 (k:=0) Y,Y,⟨_,_,Y,dQ 1 _,_,_,Y,dQ 1 _,_,_,Y,aw<|aw<|aw ⟨b,Y,g.e9 1 Y,aL ⟨_,_,g.c9 (k:=1) Y,Y,j6 (λZ=>rfl) _⟩⟩,Y⟩⟩⟩) h⟩
def Xr(h:Fr p d b)(c j)(e:b.at c=J (f,az a))(g:b.at j=J (k,az []))(l:a≠[]->m)(n:a=[]->o):sQ d (aj f) (aj k) λr=>dH (!r) m o:=by
 refine bW h c e<|bW h j g ?_
 induction a with
 |nil=>exact n Y|cons x r=>exact l jJ
def Tl.nl{a c b}(h:Tl a c b)(e:a=[]):b=[]:=by
 induction h with
 |nil=>rfl|lf r=>exact jJ e|nd a b=>exact jJ e
def Tl.in1{a:Prop}(h:Tl [y] [t] e)(g:∀k b,y=rq k b->t=u3 k b->e=[rq k b]->a)(j:∀l r c d f,y=u4 l r c->t=lV l d->e=f++[u4 l r c]->Tl c d f->a):a:=by
 generalize m:[y]=n at h;generalize o:[t]=d at h
 induction h with
 |nil=>exact jJ m|lf r=>exact g _ _ (hq m).1 (hq o).1 (aq _ (r.nl (hq m).2.symm))|nd a b=>exact j _ _ _ _ _ (hq m).1 (hq o).1 (aq (_++_::·)<|b.nl (hq m).2.symm) a
def ajw(Ê:Tl [x] [Ë] a)(l:U a<=900)(h:È (aN a) b):aK (Ã+1) 256 [x] b È Â:=by
 refine a6 LA (.c 71 x ar) Y Y<|aV de λf s g=>aV g λj s g=>n8 (λm X=>U m) (λX X=> .c 94 _ (.c 41 _ ar)) (λX p=> .c f (az p.2.2)<| .c j (az p.1) bO) (λm p=>Tl p.1 p.2.1 m/\p.2.2++f7 m=f7 a) a ([x],[Ë],[]) g ⟨Ê,Y⟩ λm p s Ç o g q=>aV g λÆ s g=>Xr g 1 2 Y Y (λr=>?_) λr=>?_
 .have g:=g.bN.tl;have v:=o.1;have y:=o.2;rw [<-ro r] at v;have C:=aq U y;rw [a4,uN,uN] at C;have É:U p.2.2<=1000:=ae (dO _ _)<|ae (c6 C)<|ae l<|bl Y;refine HZ g 1 Y (List.getLast?_eq_some_getLast r) λs g=>?_;generalize p.1.getLast r=Å at v;refine cH g 0 Y<|dD g 0 Y (cg É) λs g=>Vv v.snoc λL Ä Z À Á e n Í=>?_;rw [e,FO,<-dy] at y;refine Í.in1 (λI Î k X d=>?_) λH c t Ì N k X d z=>?_
  .obtain rfl:=k;rw [d] at y;exact cb Y<|cv (d8 (a:=([]:aa O)) (g:=λX=>bk)) (λX X X=> .c 94 _ _) (λX X X=> .c f _ _) (λX (_ _:ki)=>bh) () () g a3 (λX X X X X=>rfl) (λX X X X X X h=>aI h) λX X s X g=>q Z (ku p.1,L,p.2.2++[rq I Î]) s (W e<|W d<|a5 a4▸ha _) ⟨n,y⟩ g
  .obtain rfl:=k;rw [d,FO] at y;have Ï:U (Z++N)<U m:=by rw [e,d,<-dy,a4 (as:=Z++N)];exact ha _
   have Ð:U (ku p.1++t)<=1000:=ae (n.app z).cnt<|ae (bT Ï)<|ae (mK _ _)<|ae (c6 C)<|ae l<|bl Y;have g:Fr b s (.c f (az<|p.2.2++[u4 H c t])<| .c j (az<|ku p.1++aF 0 t) bO):=a5 (dw _)▸g;refine cb Y<|cv (λI=>by cases t[I]?<;>rfl) (λX X X=> .c 94 _ _) (λI X X=> .c f _ (.c j (az<|ku p.1++aF I t) bO)) (λX (_ _:ki)=>bh) () () g a3 (λX X X X X=>rfl) ?_ ?_
   .refineλI Ñ X X s Ç Ò X g q=>cH g 1 Y<|dD g 1 Y (cg<|ae ?_ Ð) λs g=>?_
    .rw [a4,a4,dS];exact d5 (oN _ _) _
    .refine q () () s a3 ?_;rw [fQ Ò,<-dy];exact g
   .intro _ _ s _ g;rw [dI] at g;refine q _ (ku p.1++t,L++Ì,p.2.2++[u4 H c t]) s Ï ⟨n.app z,?_⟩ g;rw [<-y,FO];simp only [dy];rfl
 .have y:=o.2;rw [o.1.nl r] at y;have y:=y▸a5 (dw _);refine hF g<|aV g λc s g=>jb g 3 Y ?_;rw [y,List.reverse_reverse];exact h
def aeg(b:Tl [x] [t] a)(l:U a<=900)(h:c t d):aK (n+2) 331 [x] d c e:=by
 refine a6 Ma (.c 64 x ar) Y Y<|aV de λf s g=>ajw b l<|cb Y ?_;have j:Rn [] a [t]:=by have k:=b.rn (d:=[]) .nil;rw [dw] at k;exact k
 refine cv (λk=>by cases a[k]?<;>rfl) (λX f X=> .c 64 x<| .c 28 (aj f) ar) (λX f d=> .c f (az d) bO) (λk X d=>Rn d (cq k a) [t]/\U d<=k) f [] g ⟨j,bb 0⟩ (λX X X X X=>rfl) ?_ ?_
 .intro k v f d s m o p g q;have r:=ae (bT<|gl o) l;obtain⟨y,z⟩:=p;rw [Jy o] at y;cases y with
  |@lf C H _ _ _ y=>exact a6 Lh (.c 64 _ ar) Y Y<|bf<|cH g 0 Y<|adq<|dD g 0 Y (cg<|ae z<|ae r<|ao Y) λs g=>q f _ s ⟨y,W a4<|b2 z⟩ g|@td I L N Z c _ _ e y=>rw [a4] at z;refine a6 M6 (.c 64 _ ar) Y Y<|bf<|hF g<|pf (W a4<|W e (eT ..))<|hF g<|tp (W a4<|dO _ _)<|aV g λb s g=>hF g<|AR (W a4<|dO _ _)<|aV g λn s g=>bW g 2 Y<|W O4<|⟨bT<|cg<|ae (d5 (ae (ae (mK (U Z)<|U c) z) r) 1)<|ao Y,aV g λe s g=>bW g 1 Y<|bW g 3 Y ?_⟩;rw [B5] at g⊢;exact⟨bT<|cg<|ae (f6 (ae (ae (dO (U c)<|U Z) z) r) 1)<|by decide,aV g λa s g=>q a _ s ⟨y,W a4<|b2<|ae (dO _ _) z⟩ (g.pk [4] 5 (ao Y)<|ao Y)⟩
 .intro f d s p g;obtain⟨y,_⟩:=p;rw [Ew<|bb _] at y;cases y;exact dc g 0 Y Y<|m8 g h
structure PA where
p:O
mv:O
fa:O
ln:O
sr:O
rw:O
ct:O
structure FP where
f:tD
tx:bo
ix:au
structure Ps where
sa:O
va:O
ka:aa ai
lk:ai
cn:au
an:bo
vl:ai
fu:aa (O×O)
ft:aa FP
jZ:O
lo:aa (O×O)
le:O
tr:aW
def F3(G):=R (F G.cI · "")<|N2 G
def QC(G):=od 285<| .c 112 (aN<|sV<|F3 G) ar
def Wr(G:Gr)(B:Tb)(b:PA)(a:Ps)(c:O)(r:aW):aW:=
.c 184 (h7 G B) (.c 202 (QC G)<| .c 50 (ag 60)<| .c 43 (aj b.ln)<| .c 181 (aj a.sa)<| .c 186 (aj a.va)<| .c 166 a.lk<| .c 88 (ag a.cn)<| .c 147 (aG a.an)<| .c 138 a.vl<| .c 159 (aj b.fa)<| .c 110 (aj b.mv)<| .c 182 (ag c)<| .c 74 (aG "") r)
def Ee(G)(B)(a)(b)(c):=Wr G B a b c<| .c 203 (bS u)<| .c 197 (aj a.ct) b.tr
def Ia(p:FP)(a:O×O):=cw 75<| .c 133 (jO p.f.k p.tx)<| .c 130 (ag p.f.q)<| .c 228 (aj a.2)<| .c 100 (ag p.ix) ar
def ym(a)(b):=(A0 a b).foldr (λp c=> .c p.1.2 (az<|sV p.2.f.ns)<| .c p.1.1 (Ia p.2 p.1) c) bO
def zP(a:aa bo):=a.zipIdx.map λp=>jO p.1<|p.1++toString (p.2:au)
def fe(G:Gr)(B:Tb)(d:aa bo)(a:PA)(b:Ps)(c:Cf):Cs:=
.c a.p (cw 144<|Ee G B a b c.qu) (.c b.sa (az<|iV c.st)<| .c b.va (az b.ka)<| .c a.mv (az c.mv)<| .c a.fa (az<|b.fu.map λe=>aj e.1)<| .c a.ln (dC (nd nI b.lo) b.le)<| .c a.sr (cw 221<| .c 185 (aj a.rw)<| .c 3 (ag b.jZ) ar)<| .c a.rw (az<|zP d)<| .c a.ct (cw 189<| .c 170 (aj a.p) ar)<|ym b.fu b.ft)
noncomputable def qd(b:aa bo)(a)(k):=aD (dG a<|U b) (k++toString (a:au)) ""
inductive Lk(b:aa bo)(a:O):ai->O->Prop
|n:Lk b a bk a|t (k:bo) (h:(fB b)[a]?=J k):Lk b a (jO k<|qd b a k)<|min (a+1) (U b)
def Bk(G)(B)(i:aa FS)(a:aa<|O×O):=fR (bw<|R (·.1) a) (∀q∈R (·.1) a,q<U i)<|∀p∈a,GZ G B p.1 p.2
noncomputable def Cf.wmv(c:Cf)(a:aa ai):Cf:=⟨c.st,c.ts,c.fl,a,c.pl,c.sp,c.qu⟩
def Lk.inv{lk}(e:Lk P b lk c):lk=bk\/∃k a,lk=jO k a:=e.rec (aL Y) λk h=>aw ⟨k,_,Y⟩
def al7(a:Fr g b<|fe G B P d c j)(e:Lk P k c.lk l)(h:∀v,f v b):aK (n+1) 336 [aj d.p] b f m:=by
 refine a6 Q6 (.c 64 _ ar) Y Y ?_;obtain⟨_,_,_,lk,_,_,_,_,_,_,_,_,_⟩:=c;refine aM a 0 Y ?_;rcases e.inv with o|⟨k,p,o⟩
 .have o:lk=_:=o;exact W o<|⟨Y,bf<|h _⟩
 .subst o;exact br rfl<|aM a 0 rfl<|bf<|h _
def Ae(a:Fr g b<|fe G B P d e c)(h:Lk P o e.lk p)(l:U c.mv<=60)(j:U c.mv<60->∀f,Fr g f (fe G B P d e<|c.wmv<|c.mv++[v])->k bk f)(m:U c.mv=60->n b):
aK (q+2) 328 [aj d.p,v] b k n:=a6 Qo (.c 64 _ (.c 51 v ar)) Y Y<|aM a 0 Y<|bW a 3 Y<|aM a 0 Y<|xo (λq=>aM a 0 Y<|⟨⟨ao Y,ao Y⟩,⟨ao Y,by decide,aM a 0 Y<|al7 a h λZ=>m<|hJ l q⟩⟩) λq=>aM a 0 Y<|cH a 3 Y<|dD a 3 Y (jc<|ae l<|ao Y) λs a=>bf<|j q s a
def R4(b:Fr g h<|fe G B P c a e)(j:∀f,Fr g f (fe G B P c ⟨a.sa,a.va,a.ka,a.lk,a.cn,k,v,a.fu,a.ft,a.jZ,a.lo,a.le,a.tr⟩ e)->l bk f)(d:a.tr.iW<=4):
 aK (n+1) 341 [aj c.p,aG k,v] h l m:=by
 have o:∀l:aW,l.iW<=4->(Ee G B c a e.qu).iW<=60:=λZ Z=>ae (f6 d 16)<|ao Y;exact a6 RY (.c 64 _ (.c 147 _ (.c 138 v ar))) Y Y<|d3 b 0 Y Y (o _ d) λs b=>d3 b 0 Y Y (o _ d) λs b=>bf<|j s b
def Ŗ(h:Fr f j a)(k)(g)(v:p)(q:a.at k=J (l,dC (nd g b) e))(m:n=g v)(o:U b<cu)
 (c:∀e d,Fr f d (a.g9 k<|dC (nd g<|ot b s v) e)->K d):qe (aj l) (ag s) n j K:=by
 rw [<-Zl] at c;exact W m<|vb h k q pX (W c_ o) c
noncomputable def Ps.Dw(a:Ps)(b:aa<|O×O)(c:O):Ps:=⟨a.sa,a.va,a.ka,a.lk,a.cn,a.an,a.vl,a.fu,a.ft,a.jZ,b,c,a.tr⟩
def t?(f:Md G T i X M B)(b:Bk G B i c.lo)(g:q<U i)(a:Fr n d<|fe G B P j c o)(h:∀v k p m,GZ G B q v->Bk G B i k->cL k q=J v->(∀e,cL c.lo q=J e->e=v)->Fr n m (fe G B P j (c.Dw k p) o)->l (ag (v:O)) m):
 aK (r+3) 371 [aj j.p,ag q] d l s:=by
 refine a6 Ka (.c 64 _ (.c 130 _ ar)) Y Y<|aM a 0 Y<|Tu a 5 Y<|jh<|ef (λz=>?_) λz=>?_
 .exact bp (vH.mp z) λv t=>aM a 0 Y<|Ah a 5 Y t<|bf<|h v c.lo c.le d ((b J2) _ (qc t)) b t (λe x=>aC<|af x.symm t) a
 .have y:=V0.mp λC=>bU<|af z.symm C;have H:U c.lo<cu:=by have I:=qs (b V)<|b J1;rw [bB] at I;exact cF I<|e8 ((f J1) J2)<|ao Y
  have L:∀v,GZ G B q v->s8 _ λR i=>bE (cW i 43) λN=>qe N (ag q) _ d λZ=>c1 (aK<|r+2) s (sR Ka.gZ) (.c 64 (aj j.p)<| .c 130 (ag q) ar) Z (λR d=>ei l bk d) (ei l) (λR R=>bX):=λv k=>by
   refine aM a 0 Y<|Ŗ a 5 nI v Y Y H λm Z a=>aM a 0 Y<|Ah (v:=v) a 5 Y ?_<|bf ?_
   .exact W (s3 y)<|I? y
   .have n {b:aa<|O×O} (h:Bk G B i b) (o:cL b q=A) (t:GZ G B q v):Bk G B i (ot b q v):=by
     refine W (s3 o)<|bZ ?_ (λp z=>?_) λC c=>?_
     .exact W dq<|ak n5 ⟨h V,lI (λR h=>bG h) ip,λI N d j m=>lF.mp o<|(af m (ms j):I=q)▸N⟩
     .rw [dq] at z;exact aP (ma z) ((h J1) p) λm=>(ms m:p=q)▸g
     .exact aP (ma c) ((h J2) C) λm=>W (ms m) t
    exact h v _ m Z k (n b y k) (W (s3 y)<|I? y) (λe x=>aI<|af y.symm x) a
  refine aM a 0 Y<|acU f g λd j=>?_
  induction d with
  |false=>exact L 0<|aL Y|true=>exact aM a 0 Y<|Ga f g<|L _ (aw ⟨Y,j Y⟩)
def R?(c:fK)(f:cG g.st=J q)(h:q<U i)(a:Fr l b<|fe G B P j m g)(k:h5 B q->d (ag<|xp B q 1) b)(e:¬h5 B q->d (ag 0) b):
aK (n+2) 395 [aj j.p] b d o:=a6 SZ (.c 64 _ ar) Y Y<|aM a 0 Y<|aM a 0 Y<|jW a 1 Y (lU f)<|tU c h (cc (ao Y) (c V).toGW.t3)<|g5 (λa=>g5 (λb=>bf<|k ⟨a,b⟩) λb=>bf<|e λz=>ay z.2<|ak hB b) λa=>bf<|e λz=>ay z.1<|ak hB a
noncomputable def sf:aW:= .c 234 (bS u) ar
def ra(t):=t=ar\/t=sf
def ra.q3(h:ra t):(t.iW+16<=60):=by rcases h with rfl|rfl<;>exact ho Y
def ra.set(h:ra t):ez t 234 (bS u)=sf:=by rcases h with rfl|rfl<;>rfl
def ra.l4(h:ra t):t.iW<=4:=by rcases h with rfl|rfl<;>exact ho Y
noncomputable def Ps.lS(a:Ps)(b c:O)(d:aa ai)(e:aW):Ps:=⟨b,c,d,a.lk,a.cn,a.an,a.vl,a.fu,a.ft,a.jZ,a.lo,a.le,e⟩
noncomputable def Ps.FZ(a:Ps)(b:bo)(v:ai):Ps:=⟨a.sa,a.va,a.ka,a.lk,a.cn,b,v,a.fu,a.ft,a.jZ,a.lo,a.le,a.tr⟩
noncomputable def Cf.lS(c:Cf)(a:aa O)(b d:aa ai)(e:O):Cf:=⟨a,b,c.fl,d,c.pl,c.sp,e⟩
def H'(n:a≠[])(h:K<|ku a):mh a bk (ag<| -1) K:=by refine W yI ((W (?_:(aF (cK<| -1+(U a:au)) a).drop 0=ku a) h):K<|(aF (cK<| -1+(U a:au)) a).drop 0);rw [CK,Rl];exact aq (λk=>aF (cK k) a)<|AO<|ak Y4 n
def VI(a b)(c):=uJ<|∃d,Tl a b d/\U d<=c
def VI.pop(h:VI a b c)(n:a≠[]):VI (ku a) (ku b) c:=by refine aA (h V) λd t l=>?_;rw [a5<|ro n] at t;refine Vv t.snoc λe f g j k m a Z=>?_;rw [k,wW];rw [m,a4] at l;exact iB ⟨g,a,ae (dO _ _) l⟩
def VI.len(h:VI a b c):U b=U a:=let⟨_,t,_⟩:=h V;t.len
def VI.push(h:VI a b c):VI (a++[rq k d]) (b++[u3 k d]) (c+1):=aA (h V) λe t l=>iB ⟨_,t.app<| .lf .nil,W bK<|b2 l⟩
def RcI(B)(i)(c)(d)(st)(e a b):=fR (GK B i c st a b) (VI e a d)<|U b<=60
def ZW:∀b (a c:aa ai),U b=U a+1->∃d f e p,gH B b a c d f e/\cG d=J p/\U c<=U e:=by
 intro b;generalize g:U b=m
 induction m generalizing b with
 |zero=>intro a c l;cases l|succ m h=>
  intro a c l;have n:b≠[]:=λz=>by rw [z] at g;cases g
  obtain⟨b,q,rfl⟩:∃s q,b=s++[q]:=⟨_,_,a5<|ro n⟩
  by_cases o:h5 B q
  .exact⟨_,a,c,q, .ok pn o,pn,bb _⟩
  .cases b with
   |nil=>exact⟨_,a,c,q, .one,Y,bb _⟩|cons j r=>
    rw [bK] at g;have g:=fZ g;have l:=fZ l;have tn:a≠[]:=λz=>by rw [z] at l;rw [l] at g;cases g
    obtain⟨a,v,rfl⟩:∃s q,a=s++[q]:=⟨_,_,a5<|ro tn⟩;rw [bK] at l;refine Cb (h _ g a (c++[dz "pop" q]) l) λd f e p k t x=>?_;rw [bK] at x;exact⟨d,f,e,p, .pop jJ o k,t,uM x⟩
def ajD(Ú:Md G T i X M B)(Ç:∃ã,g4 c.st ã/\U c.ts=U ã)(Ê:VI f.ka c.ts j)(É:U c.mv<=60)(Î:U c.mv+U c.st<=130)(lk:Lk P c.sp f.lk À)(to:ra f.tr)(a:Fr o Ë<|fe G B P l f c)
 (Æ:∀b d e p (g:O) m n h k,gH B c.st c.ts c.mv b d e->cG b=J p->h5 B p->xp B p 1=g->U e<60->VI h d j->Fr o k (fe G B P l (f.lS m n (h++[rq "error" ""]) sf)<|c.lS (b++[g]) (d++[vf]) (e++[dz "error" g]) 3)->Ì bk k)
 (Å:∀b d e p m n h k,gH B c.st c.ts c.mv b d e->cG b=J p->¬h5 B p->U e<=60->VI h d j->Fr o k (fe G B P l ((f.lS m n h sf).FZ "aborted" bk)<|c.lS b d e 3)->Ì bk k)
 (Ð:∀b d e p Â Ä k,gH B c.st c.ts c.mv b d e->cG b=J p->(60<U e\/U e=60/\h5 B p)->Fr o k (fe G B P l Â Ä)->Ã k):
 aK (Á+4) 374 [aj l.p] Ë Ì Ã:=by
 refine a6 MU (.c 64 _ ar) Y Y<|d3 a 0 Y Y to.q3 λL a=>d3 a 0 Y Y to.q3 λL a=>?_;have a:Fr o L (fe G B P l (f.lS f.sa f.va f.ka sf)<|c.lS c.st c.ts c.mv 3):=ax to.set a;have Ò:(Ee G B l (f.lS f.sa f.va f.ka sf) 3).iW<=60:=ho Y;refine n8 (λg R=>U g.1) (λR R=> .c 64 _ ar) (λg j=>fe G B P l (f.lS j.2.2.1 j.2.2.2 j.2.1 sf)<|c.lS g.1 g.2 j.1 3) (λg N=>RcI B i c j g.1 N.2.1 g.2 N.1) (c.st,c.ts) (c.mv,f.ka,f.sa,f.va) a (bZ (bZ (λR R R Ö=>Ö) Ç<|bb _) Ê É) ?_;intro⟨b,d⟩ ⟨e,h,m,n⟩ L Ô Ù a È;have z:=Ù V;dsimp only [tu] at z;have y:=Ù J1;dsimp only [tu] at y;have C:=Ù J2;dsimp only [tu] at C;refine aA (z J1) λã t Í=>bp t.top λs Ï=>?_;have v:=af t.jw Ï;have Ñ:=t.lt (Ú J1) Ï;refine aM a 0 Y<|R? Ú v Ñ a (λZ=>?_) λZ=>?_
 .have Ó:=Z.1;refine lC (λH=>ay H<|Sj Ó) λR=>?_;obtain⟨g,Õ⟩:∃g:Nat,xp B s 1=g:=⟨cK<|xp B s 1,a5<|x6<|om Ó⟩;have I:=(z V) _ _ _ (.ok v Z);refine aM a 0 Y<|R? Ú v Ñ a (λR=>W Õ<|aM a 0 Y<|Ae (c:=c.lS b d e 3) a lk C (λØ L a=>aM a 0 Y<|cH a 1 Y ?_) λx=>Ð b d e s _ _ L I v (aw ⟨x,Z⟩) a) λH=>ay Z H;have q:=z J2;refine rh a 1 Y (ae (ae (mK _ _) q)<|ae Î<|ao Y) λL a=>aM a 0 Y<|cH a 2 Y<|aM a 0 Y<|a6 Mn (.c 64 _ ar) Y Y<|Pj<|q! <|bf ?_;have Û:=t V;refine dD a 2 Y (jc ?_) λL a=>?_
  .show U h<=200;simp only [<-y.len,Í];exact ae (ae (fh _)<|c6 Û.symm)<|ae (ae (mK _ _) q)<|ae Î<|by decide
  exact bf<|Æ b d e s g m n h L I v Z Õ Ø y a
 .refine lC (λR=>aM a 0 Y<|bW a 1 Y<|hk (a:=U<|iV b) (λH=>?_) λH=>?_) λH=>ay Y H
  .have I:gH B c.st c.ts c.mv b d e:=(z V) _ _ _ (ah (xT<|af du.symm H) λN x=>by rw [x];exact .one);exact aM a 0 Y<|R4 a (λL a=>bf<|Å b d e s m n h L I v Z C y a)<|ra.l4<|aw Y
  .have Ü:b≠[]:=λI=>by rw [I] at v;cases v
   obtain⟨b,Ý,rfl⟩:∃L s,b=L++[s]:=⟨_,_,a5<|ro Ü⟩;have Þ:=aC<|pn▸v;subst Þ;have ß:b≠[]:=λI=>H (by refine W I ?_;rfl);refine ht (t.pop ß) λà á Û â=>?_;have r:U d=U à+1:=by simp only [Í,Û,bK]
   have tn:d≠[]:=λI=>by rw [I] at r;cases r
   have ä:h≠[]:=λI=>by have å:=y.len;rw [I,r] at å;cases å
   obtain⟨d,æ,rfl⟩:∃L s,d=L++[s]:=⟨_,_,a5<|ro tn⟩;rw [bK] at r;have ç:=fZ r;have è:=y.pop ä;rw [wW] at è;have q:=z J2;dsimp only [tu] at q;rw [bK] at q;refine aM a 0 Y<|aM a 0 Y<|jW a 1 Y (lU v)<|Ae (c:=c.lS (b++[Ý]) (d++[æ]) e 3) a lk C (λØ L a=>?_) λx=>?_
   .have é {ê:aa O} {H:O} {Ô:aa ai->Prop} (Ö:Ô<|iV ê):mh (iV<|ê++[H]) bk (ag<| -1) Ô:=H' (ax ob λH=>jJ<|(CO H).2)<|ax ob<|W wW Ö;refine aM a 0 Y<|bW a 1 Y<|é<|aV a λë L a=>?_;have a:=a.bN;refine d3 a 1 Y Y Ò λL a=>aM a 1 Y<|bW a 3 Y<|H' ä<|aV a λì L a=>?_;have a:=a.bN;refine d3 a 2 Y Y Ò λL a=>È (b,d) (e++[dz "pop" Ý],ku h,ë,ì) L (W bK<|ha _) (bZ (bZ (λN I H í=>(z V) N I H<| .pop ß Z í) ⟨à,â,ç⟩ ?_) è<|W bK Ø)<|a.pk [2,1,0,5] 6 (ao Y)<|ao Y;rw [bK,jN];exact q
   .refine Cb (ZW b d (e++[dz "pop" Ý])<|W (â V)<|W ç Y) λò î ï p ð ñ q=>?_;rw [bK] at q;have ó:U e=60:=x;exact Ð ò î ï p _ _ L ((z V) _ _ _ (.pop ß Z ð)) ñ (aL<|ó▸q) a
noncomputable def Ps.VD(a:Ps)(b:aa<|O×O)(c:aa FP):Ps:=⟨a.sa,a.va,a.ka,a.lk,a.cn,a.an,a.vl,b,c,a.jZ,a.lo,a.le,a.tr⟩
noncomputable def Ps.wlk(a:Ps)(lk:ai):Ps:=⟨a.sa,a.va,a.ka,lk,a.cn,a.an,a.vl,a.fu,a.ft,a.jZ,a.lo,a.le,a.tr⟩
def abc:∀{b} {a},U b=U a->((ym b a).cB c.2<|az<|sV p.f.ns).cB c.1 (Ia p c)=ym (b++[c]) (a++[p]):=by
 intro b
 induction b with
 |nil=>intro a h;induction a with
  |nil=>rfl|cons _ _=>cases h
 |cons v r d=>intro a h;induction a with
  |nil=>cases h|cons g t=>exact aq (λc=>Cs.c v.2 _ _)<|d<|fZ h
def ag5(f:Md G T i X M B)(g:cG h.st=J q)(o:q<U i)(p:c.lk=jO k j)(l:U c.fu=U c.ft)(r:U c.ft<=100)(a:Fr m s<|fe G B P b c h)
 (t:∀d e v n,Fr m n (fe G B P b (c.VD (c.fu++[(d,e)])<|c.ft++[⟨⟨k,q,p4 G B q⟩,j,v⟩]) h)->x bk n):aK (y+5) 378 [aj b.p] s x z:=by
 obtain⟨C,H,I,lk,L,N,Z,h,n,s,v,x,y⟩:=c;subst p;refine a6 QI (.c 64 _ ar) Y Y<|aM a 0 Y<|a6 Ll (.c 64 _ ar) Y Y<|aM a 0 Y<|aM a 0 Y ⟨Y,a6 Q4 (.c 64 _ ar) Y Y<|aM a 0 Y<|aM a 0 Y<|jW a 1 Y (lU g)<|alj f o<|bf<|bf<|cb Y ?_⟩;have z:U (Gk G B q)<cu:=cF (zm ..)<|W fi<|jc<|ae (f V).t6<|ao Y;refine iZ d8 (λc=>J<|aG<|F G.cI c "") a (λR R R R=>rfl) z (λo c p p s I N Z a v R=>?_) λe s a=>?_
 .have x:c<U G.cI:=by
   refine aA (y2.mp<|aO Z) λy z o=>?_;unfold pP at o;cases p:(r4 B q y&&_) with
   |true=>rw [p] at o;obtain rfl:=aC o;exact e8 (tQ.mp z) (f V).toGW.nT|false=>rw [p] at o;exact aI o
  exact aM a 0 Y<|bJ Y (kt<|e6 x)<|v _ s Y a
 have I:eG (λc=>J<|aG<|F G.cI c "") (Gk G B q)=sV (p4 G B q):=by unfold Gk p4 sV;simp only [List.filterMap_filterMap,Oy];refine aq (λf=>eG f _)<|funext λy=>?_;unfold pP yF;cases(r4 B q y&&_)<;>rfl
 rw [I] at a;refine aM a 0 Y<|cH a 4 Y<|aM a 0 Y<|aM a 0 Y<|jW a 1 Y (lU g)<|aM a 0 Y<|vd<|jL Y Y λd N=>?_;have a:=(a.hO (o:=cw 75 ar) N).bN;refine a6 OF _ Y Y (bP a Y λs a=>bP a Y λs a=>bP a Y λs a=>bP a Y λs a=>bf ⟨Y,bf ?_⟩);have a:=a.Bx;refine dD a 4 Y (W (bB ..)<|jc<|ae (c6 l)<|ae r<|ao Y) λs a=>bf<|t d e (L-1) s (?_:Fr m s<| .c b.p _ (.c C _ (.c H _ (.c b.mv _ (.c b.fa (az<|(h++[(d,e)]).map λZ=>aj Z.1)<| .c b.ln _ (.c b.sr _ (.c b.rw _ (.c b.ct _ (ym (h++[(d,e)])<|n++[FP.mk ⟨k,q,p4 G B q⟩ j _])))))))));simp only [dq,<-abc l];exact a
def pY(G)(B)(i)(b)(c:Cf)(a:Ps):=uk (VI a.ka c.ts<|U c.mv) (Lk b c.sp a.lk a.jZ) (ra a.tr) (Bk G B i a.lo) (U a.fu=U a.ft) (R (·.f) a.ft=c.fl)<|a.an="more"
def F9(G:Gr)(c:Cf)(a:Ps)(b):=j4 (U c.mv<=60) (U a.fu=U a.ft) (R (·.f) a.ft=c.fl) (a.an=aD b "accepted" "aborted")<|aD b (∃v t,a.vl=v/\cG c.ts=J t/\VI [v] [t] 62)<|a.vl=bk
def VI.up(h:VI a b c)(l:c<=d):VI a b d:=let⟨e,t,f⟩:=h V;(iB ⟨e,t,ae f l⟩)
def v3(a):=e7 (U a<=9)<|∀k∈a,k≠"$end"/\k≠"error"
def v3.row{a:O}(h:v3 P)(b:(fB P)[a]?=J k):k≠"error":=by
 rcases ma (aO b) with m|m
 .exact((h J1) k m).2
 .refine W (ms m) ?_;decide
def aiD(a:fW)(b:e5)(h:k≠"error"):tn G k≠1:=λe=>by
 unfold tn at e;cases z:g8 k _ with
 |none=>rw [z] at e;cases e|some c=>rw [z] at e;have e:c=1:=e;have d:=BE z;rw [e,g6,aJ<|cc (ao Y) b.t3,a J4] at d;exact h (aC d).symm
def I2(a:fW)(b:e5):tn G k=0↔k="$end":=by
 refine⟨λe=>?_,λe=>e▸B8 a b⟩;unfold tn at e;cases z:g8 k _ with
 |none=>rw [z] at e;cases e|some c=>rw [z] at e;have e:c=0:=e;have d:=BE z;rw [e,g6,aJ<|cc (ao Y) b.t3,a J3] at d;exact a5<|aC d
def CF(G)(B)(i)(a)(b)(c)(d)(k)(q)(e:QT)(f:aT->Prop):=fR (∀g h j,gB G B a d k q A g->U g.mv<=60->pY G B i a g h->Fr c j (fe G B a b h g)->e bk j) (∀l g h j,gB G B a d k q (J l) g->F9 G g h l->Fr c j (fe G B a b h g)->e bk j)<|∀o g h m j,gB G B a d k q o g->60<U g.mv->Fr c j (fe G B a b h m)->f j
def ajJ(l:Md G T i X M B)(Å:fW)(z:v3 P)(m:Wb i P c)(g:U c.mv<=60)(d:pY G B i P c b)(Â:(fB P)[c.sp]?=J k)(Æ:cG c.st=J q)(h:el B q (tn G k)=0)(e:b.lk=jO k (qd P c.sp k))(Á:b.jZ=min (c.sp+1) (U P))
 (a:Fr p j<|fe G B P f b c)(o:CF G B i P f p c k q n r):aK (É+6) 344 [aj f.p,ag<|tn G k] j n r:=by
 refine aA (m J4) λÃ H È=>?_;have L:U c.mv+U c.st<=129:=ae (d2 g<|ae (m V)<|b2 g)<|ao Y;refine a6 JP (.c 64 (aj f.p)<| .c 243 (ag<|tn G k) ar) Y Y<|aM a 0 Y ?_;have Ñ:∀Z z,Z.ka=b.ka->Z.lk=b.lk->Z.jZ=b.jZ->Z.tr=b.tr->Z.lo=b.lo->Z.an=b.an->U Z.fu=U Z.ft->R (·.f) Z.ft=eK G B c k q->Fr p z (fe G B P f Z c)->
  c1 (aK<|É+5) r (sR JP.gZ) (.c 64 (aj f.p)<| .c 243 (ag<|tn G k) ar) z (λQ j=>ei n bk j) (ei n) (λQ Q=>bX):=by
  intro Z z Ò À Ó x Ô Ä Û t a;have Ç:∀I v z,I=⟨c.st,c.ts,eK G B c k q,gD c<|tn G k,eE c,fz c,c.qu⟩->(c.qu=3->k≠"$end")->U (gD c<|tn G k)<=60->Lk P I.sp v.lk v.jZ->v.ka=b.ka->v.tr=b.tr->v.lo=b.lo->v.an=b.an->U v.fu=U v.ft->R (·.f) v.ft=I.fl->Fr p z (fe G B P f v I)->
   aK (É+5) 374 [aj f.p] z (λQ j=>ei n bk j) r:=by
   intro I v z Í p r lk Î Ê Ë Ì Õ Ö a;subst Í;have Ï:U c.mv<=U (gD c<|tn G k):=by
    unfold gD;cases aE c.qu 3 with
    |true=>exact ae (fh _)<|c6 bK.symm|false=>exact bb _
   have Ð:U (gD c<|tn G k)+U c.st<=130:=ae (d2 r<|ae (m V)<|b2 g) (by decide);refine ajD (j:=U c.mv) (c:=⟨c.st,c.ts,eK G B c k q,gD c<|tn G k,eE c,fz c,c.qu⟩) l ⟨Ã,H,È⟩ (Î▸(d V)) r Ð lk (Ê▸(d J2)) a (λr N L y C Ù I Ø z n e Ú s Ü Ý a=>?_) (λr N L y Ù I Ø z n e Ú Þ Ý a=>?_) λr N L y ß à z n e á a=>?_
   .have â:U c.mv<=U L:=ae Ï n.len.1;refine bf<|(o V) ⟨r++[C],N++[vf],eK G B c k q,L++[dz "error" C],eE c,fz c,3⟩ (v.lS Ù I (Ø++[rq "error" ""]) sf) z (gB.mD (c:=c) h p n y e C Ú s) ?_ (kb ?_ lk (aw Y) (Ë▸(d J3)) Õ Ö<|af Ì<|d J6) a
    .show U (L++[dz "error" C])<=60;exact W bK Ü
    .exact(Ý.push (k:="error") (d:="")).up (by show U c.mv+1<=U (L++[dz "error" C]);exact W bK<|b2 â)
   .exact bf<|(o J1) u ⟨r,N,eK G B c k q,L,eE c,fz c,3⟩ ((v.lS Ù I Ø sf).FZ "aborted" bk) z (gB.oh (c:=c) h p n y e Ú) (ec Þ Õ Ö Y Y) a
   .by_cases v:h5 B y
    .obtain⟨C,s⟩:∃C:Nat,xp B y 1=C:=⟨cK<|xp B y 1,a5<|x6<|om v.1⟩;refine(o J2) A ⟨r++[C],N++[vf],eK G B c k q,L++[dz "error" C],eE c,fz c,3⟩ ß à z (gB.mD (c:=c) h p n y e C v s) ?_ a;show 60<U (L++[dz "error" C]);exact W bK<|aP á (λI=>rM I) λI=>ic<|c6 I.1.symm
    .exact(o J2) (J u) ⟨r,N,eK G B c k q,L,eE c,fz c,3⟩ ß à z (gB.oh (c:=c) h p n y e v) (á.resolve_right λI=>v I.2) a
  have å:Lk P c.sp Z.lk Z.jZ:=by simp only [À,Ó];exact d J1
  have ä:Z.tr.iW<=4:=(x▸(d J2)).l4;refine aM a 0 Y ?_
  by_cases I:c.qu=3
  .have N:aE c.qu 3=true:=by exact W I Y
   have L:aE c.qu 0=false:=by exact W I Y
   have æ:eK G B c k q=c.fl:=by unfold eK;exact W L Y
   have ã:eE c=c.pl:=by unfold eE;exact W L Y
   have r:gD c (tn G k)=c.mv++[dz "discard"<|tn G k]:=by unfold gD;exact W N Y
   have ç:fz c=c.sp+1:=by unfold fz;exact W N Y
   refine hk (a:=c.qu) (b:=3) (λQ=>hk (a:=tn G k) (b:=0) (λn=>?_) λn=>?_) λn=>ay I n
   .have p:=(I2 Å (l V).toGW).mp n;exact aM a 0 Y<|R4 a (λz a=>bf<|(o J1) u c (Z.FZ "aborted" bk) z (.rk h I p) (ec g Û (af t æ) Y Y) a) ä
   .have p:k≠"$end":=λè=>n<|ak (I2 Å (l V).toGW) è;refine aM a 0 Y<|Ae a å g (λÜ z a=>?_) λé=>?_
    .refine aM a 0 Y<|a6 PY (.c 64 (aj f.p) ar) Y Y<|d3 a 0 Y Y (x▸(d J2)).q3 λz a=>bf<|aM a 0 Y ?_;have f:Z.jZ=c.sp+1:=by simp only [Ó,Á,gf<|xq Â (m J5) p]
     exact Ç ⟨c.st,c.ts,c.fl,c.mv++[dz "discard"<|tn G k],c.pl,c.sp+1,c.qu⟩ (Z.wlk bk) z (W æ<|W ã<|W r<|W ç Y) (λQ=>p) (by simp only [r,bK];exact Ü) (by show Lk P (c.sp+1) bk Z.jZ;exact W f .n) Ò x Ô Ä Û (af t æ) a
    .refine Cb (ZW c.st c.ts (gD c<|tn G k)<|W (H V)<|W È Y) λë ê f y ì í î=>?_;have ï:60<U f:=by rw [r,bK,é] at î;exact î
     by_cases v:h5 B y
     .obtain⟨C,s⟩:∃C:Nat,xp B y 1=C:=⟨cK<|xp B y 1,a5<|x6<|om v.1⟩;refine(o J2) A ⟨ë++[C],ê++[vf],eK G B c k q,f++[dz "error" C],eE c,fz c,3⟩ _ _ z (gB.mD (c:=c) h (λQ=>p) ì y í C v s) ?_ a;show 60<U (f++[dz "error" C]);exact W bK<|rM ï
     .exact(o J2) (J u) ⟨ë,ê,eK G B c k q,f,eE c,fz c,3⟩ _ _ z (gB.oh (c:=c) h (λQ=>p) ì y í v) ï a
  .have N:aE c.qu 3=false:=d4 I;have r:gD c (tn G k)=c.mv:=by unfold gD;exact W N Y
   have ç:fz c=c.sp:=by unfold fz;exact W N Y
   exact hk (a:=c.qu) (b:=3) (λn=>ay n I) λQ=>aM a 0 Y<|Ç ⟨c.st,c.ts,eK G B c k q,c.mv,eE c,c.sp,c.qu⟩ Z z (W r<|W ç Y) (λn=>ay n I) (r▸g) å Ò x Ô Ä Û t a
 by_cases I:c.qu=0
 .have L:aE c.qu 0=true:=by exact W I Y
  refine hk (a:=c.qu) (b:=0) (λQ=>aM a 0 Y ?_) λn=>ay I n;have h:U b.ft<=100:=by have o:=aq U<|d J5;rw [bB] at o;exact W o<|ae (m J2)<|ae g<|ao Y
  refine ag5 l Æ (H.lt (l J1)<|H.jw▸Æ) e (d J4) h a λZ x t z a=>Ñ (b.VD (b.fu++[(Z,x)])<|b.ft++[FP.mk ⟨k,q,p4 G B q⟩ (qd P c.sp k) t]) z Y Y Y Y Y Y ?_ ?_ a
  .show U (b.fu++[(Z,x)])=U (b.ft++[_]);simp only [bK,bK,d J4]
  .show R (·.f) (b.ft++[FP.mk ⟨k,q,p4 G B q⟩ _ t])=_;simp only [dq,d J5];unfold eK;exact W L Y
 .have L:aE c.qu 0=false:=d4 I;refine hk (a:=c.qu) (b:=0) (λn=>ay n I) λQ=>Ñ b j Y Y Y Y Y Y (d J4) (W (d J5) ?_) a;unfold eK;exact W L Y
def VI.red(h:VI a b c):VI (aF m a++[u4 l r<|cq m a]) (aF m b++[lV l<|cq m b]) (c+1):=by refine aA (h V) λd t e=>gw (t.cut m) λf g a d j=>iB ⟨_,a.app<| .nd d .nil,?_⟩;rw [j,a4] at e;exact W a4<|W a4<|ax (cA ..)<|b2 e
def Ti{k:O}(h:0<k->a)(b:k=0->c):dH (nx 0 (k:au)) a c:=h0 h λz=>b<|vy.mp z
def ŉ{q b:O}(z:fK)(C:fW)(f:Wb i P c)(g:U c.mv<=60)(d:pY G B i P c e)(m:(fB P)[c.sp]?=J k)(h:e.lk=jO k (qd P c.sp k))(n:e.jZ=min (c.sp+1) (U P))(p:k≠"$end")(r:el B q (tn G k)=b)(s:0<b)(t:b<1048576)
 (a:Fr v j<|fe G B P l e c)(o:CF G B i P l v c k q x y):aK (H+6) 355 [aj l.p,ag b] j x y:=by
 have I:=xq m (f J5) p;have L:qd P c.sp k=k++toString (c.sp:au):=by unfold qd;exact W kR<|W (eV<|Nat.lt_of_succ_le I) Y
 rw [L] at h;obtain⟨N,Z,l,lk,v,À,y,z,C,H,m,p,x⟩:=e;subst h;refine a6 Mk (.c 64 _ (.c 33 _ ar)) Y Y<|aM a 0 Y ⟨Y,a6 SO (.c 64 _ (.c 33 _ ar)) Y Y<|aM a 0 Y ?_⟩;have e:lT c k q A ⟨c.st++[b],c.ts++[xj k c.sp],c.fl,c.mv++[dz "shift" b],c.pl,c.sp+1,c.qu-1⟩:= .nc b r s t;refine Ae a (d J1) g (λh s a=>?_) λq=>(o J2) A _ _ _ j e (by refine W bK<|W q ?_;decide) a;refine aM a 0 Y<|cH a 1 Y<|rh a 1 Y (ae (f V)<|ae (b2 g)<|ao Y) λs a=>aM a 0 Y<|cH a 2 Y<|aM a 0 Y<|aM a 0 Y<|a6 Ls _ Y Y (q! <|bf<|dD a 2 Y (jc<|ae (c6 (d V).len.symm)<|ae (f J1)<|ae g<|ao Y) λs a=>?_);have to:ra x:=d J2;refine d3 a 0 Y Y to.q3 λs a=>bf ?_;have r:H=c.sp+1:=by have t:H=min _ (U P):=n;exact W t<|gf I
 have f:pY G B i P ⟨c.st++[b],c.ts++[xj k c.sp],c.fl,c.mv++[dz "shift" b],c.pl,c.sp+1,c.qu-1⟩ ⟨N,Z,l++[rq k _],bk,v,À,y,z,C,H,m,p,x⟩:=
  kb (by have t:=(d V).push (k:=k) (d:=k++toString (c.sp:au));exact t.up<|c6 bK.symm) (W r .n) to (d J3) (d J4) (d J5)<|d J6
 have g:U (c.mv++[dz "shift" b])<=60:=W bK h;refine aM a 0 Y<|Ti (λz=>?_) λz=>?_
 .exact aM a 0 Y<|pf (zD z).symm<|d3 a 0 Y Y to.q3 λs a=>bf<|(o V) _ _ s e g f a
 .have q:c.qu-1=c.qu:=W z Y;rw [q] at e f;exact bf<|(o V) _ _ s e g f a
def AY(G:Gr):=∀(r:O) a,G.a9[r]?=J a->("$@".toList.isPrefixOf<|hN<|F G.cI a.aY "")=u
def Ta{q r:O}(d:fK)(À:AY G)(h:Wb i P c)(j:U c.mv<=60)(b:pY G B i P c e)(x:(fB P)[c.sp]?=J k)(t:cG c.st=J q)(g:el B q (tn G k)= -(r:au))(l:0<r)
 (a:Fr n o<|fe G B P m e c)(p:CF G B i P m n c k q f v):aK (y+6) 342 [aj m.p,ag r] o f v:=by
 refine aA (h J4) λz C H=>?_;have I:=C.jw▸t;have L:=C.lt (d J1) I;have N:=bM L;have Z:r∈i[q].rd:=by
  rcases d.qq N (tg (d V).toGW k) with ⟨v,x,y⟩|⟨x,t,Z,y⟩|⟨x,y⟩
  .exact ay (af y.symm g)<|mC l
  .exact W (eI<|p9.mp<|af g.symm y) Z
  .exact ay (af y.symm g)<|mC l
 refine zl (C.red (d V) (d J1) I N Z) λL v I N=>?_;have Z:=(b V).len;obtain⟨x,t⟩:∃x,x=U z-U L.aQ:=cM _ rfl;have z:U c.ts=x+U L.aQ:=by simp only [H,t,Ao<|N J1]
 have H:=Z▸z;have s:c.st[x]?=J v:=t▸(N J3);have t:=ak (d.zj ((d V).toGW.lt L<|aO<|N V).1.1<|C.lt (d J1) s)<|N J6;have d:x+1<=U c.st:=gl s;have C:lT c k q A ⟨aF _ c.st++[I],aF x c.ts++[lV _ _],c.fl,c.mv++[dz "reduce" r],c.pl,c.sp,c.qu⟩:= .red r L v I x g l (N V) z s t;have to:=b J2;refine a6 Rx (.c 64 _ (.c 61 _ ar)) Y Y<|aM a 0 Y<|Ae a (b J1) j (λÁ g a=>aM a 0 Y<|agu (N V)<|aM a 0 Y<|bW a 2 Y<|pf (W H (eT ..))<|aM a 0 Y<|acZ (N V)<|pf (eF x).symm<|aM a 0 Y<|aM a 0 Y<|bW a 2 Y<|AR (H▸dO _ _)<|aV a λl g a=>?_) λy=>(p J2) A _ _ _ o C (by simp only [bK,y];decide) a;have a:=a.bN;refine a6 RA _ Y Y (aM a 1 Y<|aM a 1 Y<|a6 LR _ Y Y (bJ Y (kt<|Bc<|Bc<|N V) ?_));have z:∀g (o:bo) y,y->pF pD (aG o) g y:=λg o y l=>by refine W rG ?_;exact l
 have y:∀g (k o:bo) (f:QT),f _ g->lG pD (aG k) (aG o) g f:=λg k o f l=>by refine W pV ?_;exact l
 refine z _ _ _ (y _ _ _ _ (ef (λz=>bU<|af (À r L<|N V).symm z) λX=>ω (a.lt 0 Y)<|bf<|bf ?_));have a:=a.tl;refine aM a 0 Y<|bW a 2 Y<|pf (W H (eT ..))<|aM a 0 Y<|bW a 2 Y<|tp (H▸dO _ _)<|aV a λf g a=>?_;have a:=a.bN;refine d3 a 1 Y Y to.q3 λg a=>aM a 1 Y<|bW a 2 Y<|tp (W du d)<|aV a λo g a=>?_;have a:=a.bN;refine d3 a 2 Y Y to.q3 λg a=>?_;have a:Fr n g (fe G B P m (e.lS o f (aF x e.ka) e.tr) ⟨aF (x+1) c.st,c.ts,c.fl,c.mv++[dz "reduce" r],c.pl,c.sp,c.qu⟩):=by have a:=a.pk [2,0,1,5] 6 (ao Y)<|ao Y;unfold fe;exact W (show iV _=aF _ (iV c.st) from si ..) a
 refine aM a 0 Y<|a6 Mh (.c 64 _ (.c 61 _ (.c 138 _ ar))) Y Y<|aM a 0 Y<|d3 a 0 Y Y to.q3 λg a=>rW (λz=>ay z<|ao Y) λX=>rW (λz=>ay z<|by decide) λX=>rW (λz=>ay z<|by decide) λX=>aM a 0 Y ⟨Y,a6 SA (.c 64 _ (.c 61 _ (.c 138 _ ar))) Y Y<|aM a 0 Y<|aM a 0 Y<|jW a 1 Y (lU (q:=v) ?_) ?_⟩
 .simp only [yt,dS,gf d,vM,g6,aJ<|ha x];exact s
 refine aM a 0 Y<|aeU (N V)<|XM t<|h0 (λz=>ay z<|fC _) λX=>aM a 0 Y<|cH a 1 Y<|rh a 1 Y (W dS<|ae (oN _ _)<|ae (h V)<|ae (b2 j)<|ao Y) λg a=>aM a 0 Y<|cH a 2 Y<|dD a 2 Y (jc<|W dS<|ae (oN _ _)<|ae (Z▸ae (h J1) j)<|ao Y) λg a=>bf<|bf<|bf ?_;exact(p V) ⟨aF _ c.st++[I],aF x c.ts++[lV _ _],c.fl,c.mv++[dz "reduce" r],c.pl,c.sp,c.qu⟩ (e.lS o f _ e.tr) g C (W bK Á)
  (kb ((b V).red.up<|c6 bK.symm) (b J1) to (b J3) (b J4) (b J5)<|b J6) a
def aj2(h:VI a b c)(n:a≠[]):∃v t,cG a=J v/\cG b=J t/\VI [v] [t] c:=by refine aA (h V) λd e l=>?_;obtain⟨a,v,rfl⟩:∃s q,a=s++[q]:=⟨_,_,a5<|ro n⟩;obtain⟨f,t,g,j,rfl,rfl,_,k⟩:=e.snoc;exact⟨v,t,pn,pn,iB ⟨j,k,ae (mK _ _)<|a4▸l⟩⟩
def pY.TM(a:pY G B i P c b)(h:Bk G B i lo):pY G B i P c (b.Dw lo e):=kb (a V) (a J1) (a J2) h (a J4) (a J5)<|a J6
def adt{a:O}(h:P[a]?=J k):(zP P)[a]?=J (jO k<|k++toString (a:au)):=by unfold zP;simp only [cf,Fw,h];exact W (eF ..) Y
def UT:U (zP P)=U P:=by unfold zP;simp only [bB,Rp]
noncomputable def Ps.wat(a:Ps)(b:O):Ps:=⟨a.sa,a.va,a.ka,a.lk,a.cn,a.an,a.vl,a.fu,a.ft,b,a.lo,a.le,a.tr⟩
def abZ(g:v3 P)(j:c.sp<=U P)(l:b.jZ=c.sp)(a:Fr m d<|fe G B P e b c)(h:∀k f,(fB P)[c.sp]?=J k->Fr m f (fe G B P e (b.wat<|min (c.sp+1) (U P)) c)->n (jO k<|qd P c.sp k) f):
 aK (o+3) 404 [aj e.sr] d n p:=by
 obtain⟨q,r,s,lk,t,v,x,y,z,C,H,I,L⟩:=b;subst l;refine a6 Pr (.c 64 _ ar) Y Y<|aM a 6 Y<|aM a 6 Y<|bW a 7 Y<|xo (b:=c.sp) (λq=>?_) λq=>?_
 .rw [UT] at q;have e:=hJ j q;refine Pj<|bf ?_;have N:(fB P)[c.sp]?=J "$end":=by refine W e<|W (h8<|bb _)<|W (ql ..) ?_;rfl
  have Z:qd P c.sp "$end"="":=by unfold qd;exact W kR<|W (gn<|ak fS q) Y
  have f:=h "$end" d N;rw [Z] at f;exact f<|W (Ij<|hI q)<|ax e a
 .rw [UT] at q;have m:=bM q;generalize P[c.sp]=k at m;have N:(fB P)[c.sp]?=J k:=W (hh q) m;have Z:qd P c.sp k=k++toString (c.sp:au):=by unfold qd;exact W kR<|W (eV q) Y
  refine aM a 6 Y<|aM a 6 Y<|dc a 7 Y (adt m)<|Ro (λX=>aM a 6 Y<|d3 a 6 Y Y (bl Y) λs a=>bf ?_) λz=>ay z ((g J1) k<|aO m).1;have f:=h k s N;rw [Z] at f;exact f<|W (gf q) a
def xf(c:Cf)(a:Ps):=aD (nh a.an "more") (62-U c.mv) 0
def V2:=sF<|sR Hj.gZ
inductive PSt(G:Gr)(B:Tb)(i:aa FS)(a:aa bo)(c:Cf)(b:Ps):Prop
|r (e:Wb i a c) (m:U c.mv<=60) (p:pY G B i a c b) (h:∀o,nN G B a c o->nN G B a c0 o)|e (d:bc) (p:F9 G c b d) (h:nN G B a c0<|J (d,c))
def aiv(b:fK)(Í:fW)(Å:AY G)(Æ:v3 P)(h:PSt G B i P c k)(a:Fr Ñ x<|fe G B P d k c)
 (Á:jr c0 A->∀f g p,Fr Ñ p (fe G B P d f g)->l p)(À:∀j g f p,F9 G g f j->jr c0 (J (j,g))->Fr Ñ p (fe G B P d f g)->N (.c 64 (aj d.p)<| .c 179 (aj d.sr) ar) p):
 c1 (aK<|n+8) l V2 (.c 64 (aj d.p)<| .c 179 (aj d.sr) ar) x N È C:=by
 refine n8 xf (λX X=> .c 64 _ _) (λc k=>fe G B P d k c) _ c k a h (λc k H I h a Ã=>aM a 0 Y<|rW (λZ=>?_) λZ=>?_)
 .induction h with
  |e j Ç x=>have:=Ç J3;dsimp only [u9] at this;rw [Z] at this;cases j<;>exact ay this<|ao Y|r N C z É=>
  refine aA (N J4) λÂ ó Ä=>bp ó.top λô Î=>?_;have p:=af ó.jw Î;have rl:c.sp<U (fB P):=W bK<|ic<|N J5;obtain⟨q,y⟩:∃q,_[c.sp]?=some q:=cM _<|bM rl;have mu:xf c k=62-U c.mv:=by unfold xf;exact W wq<|W Z Y
  have Ê:∀{g f},U c.mv<U g.mv->xf g f<xf c k:=λ{g f} Ë=>by
   refine W mu ?_;unfold xf;cases nh f.an "more" with
   |true=>exact zg (cF C<|by decide) Ë|false=>exact WJ<|cF C<|by decide
  have Ì:∀m H,pY G B i P c m->((m.lk=jO q (qd P c.sp q)/\m.jZ=min (c.sp+1) (U P))\/∃Ö,cL m.lo ô=J Ö/\Ö≠0)->Fr Ñ H (fe G B P d m c)->
   c1 (aK<|n+8) l (sR<|sW V2) (.c 64 (aj d.p)<| .c 179 (aj d.sr) ar) H I È I:=by
   intro m H z Ï a;have Ð (o:CF G B i P d Ñ c q ô (G3 (aW.c 64 (aj<|PA.p d)<|aW.c 179 (aj<|PA.sr d) aW.nil)<|Gh (c1 (aK<|n+8) l ck) I È I) l):aK ((n+1)+7) 330 [aj d.p] H (G3 (aW.c 64 (aj<|PA.p d)<|aW.c 179 (aj<|PA.sr d) aW.nil)<|Gh (c1 (aK<|n+8) l ck) I È I) l:=by
    refine aA (N J4) λÂ ó Ä=>?_;have Î:=ó.jw▸p;have Ò:=ó.lt (b J1) Î;have Ó:=tg (b V).toGW q;have Ô:∀{Õ},(∀s,(G3 (aW.c 64 (aj<|PA.p d)<|aW.c 179 (aj<|PA.sr d) aW.nil)<|Gh (c1 (aK<|n+8) l ck) I È I) bk s->Õ bk s)->CF G B i P d Ñ c q ô Õ l:=λx=>bZ (λg f s d j l e=>x s<|(o V) g f s d j l e) (λj g f s d l e=>x s<|(o J1) j g f s d l e)<|o J2;refine a6 RO (.c 64 _ ar) Y Y<|aM a 0 Y<|jW a 1 Y (lU p)<|aM a 0 Y<|t? b (z J3) Ò a λÖ ç d s Ø Ü Ù Ú a=>?_;have z:pY G B i P c (m.Dw ç d):=z.TM Ü;refine Ti (λZ=>?_) λZ=>?_
    .have Û:el B ô (tn G q)= -(Ö:au):=by
      rcases Ø with l|⟨l,Ý⟩
      .exact ay l<|jt Z
      .exact W (ED<|Ý _ Ó)<|W l Y
     exact aM a 0 Y<|Ta b Å N C z y p Û Z a<|Ô λs x=>bf x
    .have Ï:=Ï.resolve_right λÞ=>aA Þ λß à á=>á<|af (Ú ß à) Z;have â:=Ï.1;refine dK Ï λã ä=>?_;obtain⟨å,æ,I,lk,è,é,ê,ë,ì,í,î,ï,ð⟩:=m;subst ã;refine aM a 0 Y<|aM a 0 Y<|a6 Se (.c 64 _ (.c 133 (jO q _) ar)) Y Y<|aM a 0 Y<|adA<|hk (λl=>ay l<|aiD Í (b V).toGW<|Æ.row y) λX=>bf<|aM a 0 Y<|abD b Ò Ó ?_;have ñ:=bM Ò;generalize m:el B ô _=ò;refine lC (λl=>?_) λl=>?_
     .have m:=af m l;have h:lT c q ô _ ⟨c.st,c.ts,c.fl,c.mv++[n9 "accept"],c.pl,c.sp,c.qu⟩:= .acc m;have L:∃v,go i ô 0=J v:=by
       rcases b.qq ñ Ó with ⟨v,L,e⟩|⟨L,r,õ,e⟩|⟨L,e⟩
       .cases Z:aE _ 0 with
        |true=>exact cM v<|eb Z▸L|false=>rw [Z] at e;have ö:=e8 ((b J1).wa L)<|(b J1) J2;have:=eI<|af m.symm e;rw [show aD u 1048576 v=v from Y] at this;rw [<-this] at ö;exact ay ö<|ao Y
       .exact ay (af m.symm e)<|mC (b.vK (aO ñ) õ).1
       .exact ay (af m.symm e)<|ao Y
      refine bp L λv L=>?_;have ø:I≠[]:=λZ=>by have:=(z V).len;rw [Ä,ó.acc (b V) (b J1) Î L,show(Ps.Dw ⟨å,æ,I,jO q _,è,é,ê,ë,ì,í,î,ï,ð⟩ ç d).ka=I from Y,Z] at this;exact vY this
      refine gw (aj2 ((z V):VI I c.ts<|U c.mv) ø) λù t ú û ü=>aM a 0 Y<|Ae a (z J1) C (λý s a=>?_) λe=>(o J2) _ _ _ _ s h (by refine W bK<|W e ?_;decide) a;exact aM a 0 Y<|aM a 0 Y<|jW a 2 Y ú<|R4 a (λs a=>bf<|(o J1) Q _ ((Ps.Dw ⟨å,æ,I,jO q _,è,é,ê,ë,ì,í,î,ï,ð⟩ ç d).FZ "accepted" ù) s h (ec (W bK ý) (z J4) (z J5) Y ⟨ù,t,Y,û,ü.up<|ae C<|ao Y⟩) a) (z J2).l4
     .rcases b.qq ñ Ó with ⟨v,L,e⟩|⟨L,r,õ,e⟩|⟨L,e⟩
      .have þ:=(b J1).Jk L;have ö:=e8 ((b J1).wa L)<|(b J1) J2;have L:tn G q≠0:=λZ=>by rw [m,Z] at e;exact l e
       have d:ò=(v:au):=by exact ax m<|W e<|W (d4 L) Y
       subst d;exact h0 (λl=>aM a 0 Y<|ŉ b Í N C z y â ä (λZ=>L<|ak (I2 Í (b V).toGW) Z) m l ö a<|Ô λs x=>bf x) λl=>ay (vy.mp l) þ
      .have v:=b.vK (aO ñ) õ;have d:=af m.symm e;subst d;exact g5 (λZ=>ay Z<|ak hB<|VG<|cj r) λX=>g5 (λZ=>aM a 0 Y<|a6 Oa (.c 64 _ (.c 243 _ ar)) Y Y<|aM a 0 Y<|bf<|aM a 0 Y<|zS (W (JZ ..) (NG ..))<|Ta b Å N C z y p e v.1 a<|Ô λs x=>bf x) λZ=>ay Z<|ak yi<|O5<|ak hn v.1
      .have d:=af m.symm e;subst d;exact g5 (λZ=>ay Z<|by decide) λX=>g5 (λZ=>ay Z<|by decide) λX=>g5 (λZ=>ay Z<|by decide) λX=>aM a 0 Y<|ajJ b Í Æ N C z y p e â ä a<|Ô λs x=>bf x
   refine aM a 0 Y<|Ð<|bZ (λg f H h m z a=>?_) (λj g f H h L a=>?_) λo g f l H h m a=>?_
   .have s:=h.wb b Í N y p;exact Ã g f H (Ê s.2) (.r s.1 m z λo r=>É o<| .st C y p h r) a
   .refine Ã g f H ?_ (.e j L<|É _ (.en C y p h<|L V)) a;have e:xf g f=0:=by unfold xf;refine W wq<|W (L J3) ?_;cases j<;>rfl
    exact W e<|W mu<|WJ<|cF C<|by decide
   .refine Á (É A ?_) f l H a
    induction o with
    |none=>exact .st C y p h<| .ov m|some j=>exact .eo C y p h m
  refine aM a 0 Y<|a6 Ra (.c 64 _ ar) Y Y ?_;obtain⟨å,æ,I,lk,è,é,ê,ë,ì,í,î,ï,ð⟩:=k;refine aM a 0 Y ?_;have v:Lk P c.sp lk í:=z J1;generalize f:lk=g at v;generalize o:í=m at v
  induction v with
  |t L l=>subst f o;cases af y.symm l;exact br rfl<|bf<|Ì _ H z (aL ⟨rfl,rfl⟩) a|n=>
   subst f o;refine br rfl<|aM a 0 rfl<|aM a 0 rfl<|jW a 1 rfl (lU p)<|t? b (z J3) (ó.lt (b J1) Î) a λÖ ç d H Ø Ü Ù Ú a=>bf<|hk (λs=>?_) λs=>?_
   .refine aM a 0 Y<|aM a 6 Y<|abZ Æ (N J5) Y a λL H l a=>?_;cases af y.symm l;refine a6 Sk (.c 64 _ (.c 133 _ ar)) Y Y<|aM a 0 Y ⟨Y,a6 Si (.c 64 _ (.c 133 _ ar)) Y Y ?_⟩;have to:ra ð:=z J2;exact d3 a 0 Y Y to.q3 λH a=>aM a 0 Y<|d3 a 0 Y Y to.q3 λH a=>bf<|d3 a 0 Y Y to.q3 λH a=>bf<|Ì ⟨å,æ,I,jO q _,è+1,é,ê,ë,ì,min _ (U P),ç,d,sf⟩ H (kb (z V) (.t q y) (aw Y) Ü (z J4) (z J5)<|z J6) (aL ⟨Y,Y⟩)<|ax to.set a
   .exact Ì _ H (z.TM Ü) (aw ⟨Ö,Ù,s⟩) a
 .exact h.rec (λN C z É=>ay (z J6) Z) λj Ç x=>À j c k H Ç x a
def YS(l){x}{v}:(ez l x v).iW<=l.iW+1:=by
 match l with
 |ar=>exact bb 1| .c y a r=>
  refine(?_:(aD _ (aW.c x v r) _).iW<=r.iW+1+1);cases aE y x with
  |true=>exact fh _|false=>exact b2<|YS r
def bgF(a)(b c d e):=ez (ez (ez (ez (ez (ez (ez (ez (ez (ez a 181<|aj b) 186<|aj c) 166 bk) 88<|ag 0) 147<|aG "more") 138 bk) 159<|aj d) 110<|aj e) 182<|ag 0) 74<|aG ""
def ŀ(l:f.iW<=40)(a:Fr k m<| .c g (cw 144 f) n)(h:∀b c d e j,Fr k j (.c g (cw 144<|bgF f b c d e)<|(((n.cB b<|az [ag 0]).cB c<|az []).cB d<|az []).cB e<|az [])->o bk j):
 aK (p+2) 353 [aj g] m o q:=by
 have r:∀{m} {k} {x} {v},k.iW<=m->(ez k x v).iW<=m+1:=λh=>ae (YS _)<|b2 h;have s:∀{m} {k:aW},k.iW<=m->m<=60->k.iW<=60:=ae;refine a6 Rz (.c 64 _ ar) Y Y<|ej a ⟨Y,a6 Ku (.c 64 _ ar) Y Y<|aV a λb t a=>d3 a 0 Y Y (s l<|ao Y) λt a=>?_⟩;have l:=r (x:=181) (v:=aj b) l;refine aV a λc t a=>d3 a 0 Y Y (s l<|by decide) λt a=>?_;have l:=r (x:=186) (v:=aj c) l;refine d3 a 0 Y Y (s l<|by decide) λt a=>?_;have l:=r (x:=166) (v:=bk) l;refine d3 a 0 Y Y (s l<|by decide) λt a=>?_;have l:=r (x:=88) (v:=ag 0) l;refine d3 a 0 Y Y (s l<|by decide) λt a=>?_;have l:=r (x:=147) (v:=aG "more") l;refine d3 a 0 Y Y (s l<|by decide) λt a=>?_;have l:=r (x:=138) (v:=bk) l;refine aV a λd t a=>d3 a 0 Y Y (s l<|by decide) λt a=>?_;have l:=r (x:=159) (v:=aj d) l;refine aV a λe t a=>d3 a 0 Y Y (s l<|by decide) λt a=>?_;have l:=r (x:=110) (v:=aj e) l;exact bf<|d3 a 0 Y Y (s l<|by decide) λt a=>d3 a 0 Y Y (s (r l)<|ao Y) λt a=>bf<|h b c d e t a
def Hh(h:Fr a b<|c.cB d o):Fr a b c:=h.bN.tl
noncomputable def P0(a b:O)(c:aW)(d e:O):Ps:=⟨a,b,[],bk,0,"more",bk,[],[],0,[],e,c⟩
def acP(a:Fr f j g)(k:∀(b:PA) c d l m e h,Fr f h (.c b.p (cw 144<|Ee G B ⟨b.p,m,l,b.ln,b.sr,b.rw,b.ct⟩ (P0 c d ar b.ln e) 0)<| .c b.ln (dC [] e)<| .c b.ct (cw 189<| .c 170 (aj b.p) ar) g)->n (aj b.p) h):
 aK (o+5) 144 [h7 G B,QC G,ag 60] j n p:=by
 refine jL Y Y λp q=>?_;have a:=(a.hO (o:=cw 144 ar) q).bN;refine a6 NV (.c 64 _ (.c 184 _ (.c 202 _ (.c 50 _ (.c 203 _ ar))))) Y Y<|ej a ⟨Y,a6 Mf (.c 64 _ (.c 184 _ (.c 202 _ (.c 50 _ ar)))) Y Y<|bP a Y λs a=>⟨Y,bP a Y λs a=>bP a Y λs a=>m7 a λr e s a=>?_⟩⟩;have a:=a.bN;refine d3 a 1 Y Y (bl Y) λs a=>?_;have a:=a.pk [1,0] 2 (ao Y)<|ao Y;refine ej a<|ŀ (bl Y) a λc d t v s a=>?_;have a:Fr f s (.c p (cw 144<|Wr G B ⟨p,v,t,r,0,0,0⟩ (P0 c d ar r e) 0 ar)<| .c r (dC [] e)<|(((g.cB c _).cB d _).cB t _).cB v _):=a;refine bf<|bP a Y λs a=>jL Y Y λx y=>?_;have a:=(a.hO (o:=cw 189 ar) y).bN;exact a6 Nm (.c 64 _ (.c 170 _ ar)) Y Y<|bP a Y λs a=>bf ⟨Y,bf<|d3 a 1 Y Y (bl Y) λs a=>bf ⟨Y,bf<|k ⟨p,v,t,r,0,0,x⟩ c d t v e s<|Hh<|Hh<|Hh<|Hh<|a.pk [1,2,0] 3 (ao Y)<|by decide⟩⟩
noncomputable def ouL(b:bc)(v:ai)(a c:O):aW:= .c 223 (bS b)<| .c 138 v<| .c 159 (aj a)<| .c 110 (aj c) ar
def IC(a:Ps)(d:Cf)(e:bc)(f b c:O):Cs:= .c f (cw 193<|ouL e a.vl b c)<| .c b (az<|a.fu.map λg=>aj g.1)<| .c c (az d.mv)<|ym a.fu a.ft
def Š(t:fK)(v:fW)(x:AY G)(y:v3 P)(a:Fr h z<| .c p (cw 144<|Ee G B ⟨p,o,q,e,0,0,r⟩ (P0 j k ar e l) 0)<| .c e (dC [] l)<| .c r (cw 189<| .c 170 (aj p) ar)<| .c s (az<|zP P) bO)
 (C:jr c0 A->∀H f,Fr h f H->I f)(L:∀b c d g m n f,F9 G c d b->jr c0 (J (b,c))->Fr h f (IC d c b g m n)->N (aj g) f):aK (Z+10) 335 [aj p,aj s] z N I:=by
 refine a6 QO (.c 64 _ (.c 185 _ ar)) Y Y<|ej a<|jL Y Y λf z=>?_;have a:=(a.hO (o:=cw 221 ar) z).bN;refine a6 QX _ Y Y (bP a Y λH a=>bP a Y λH a=>bf ⟨Y,bf<|a6 Hj (.c 64 _ (.c 179 _ ar)) Y Y<|aM a 1 Y ?_⟩);have a:=a.pk [1,0] 2 (ao Y)<|ao Y;refine ŀ (bl Y) a λj k q o H a=>?_;have a:Fr h H (fe G B P ⟨p,o,q,e,f,s,r⟩ (P0 j k ar e l) c0):=a.pk [0,5,6,8,7,2,1,4,3] 9 (ao Y) (by decide);have I:Wb i P c0:=eY (bb 1) (bb 0) (bb 0) (bb 0) ⟨[],Bm,Y⟩<|cQ _;have N:pY G B i P c0 (P0 j k ar e l):=kb (iB ⟨[], .nil,bb 0⟩) .n (aL Y) (bZ ip (λX h=>bG h) λX h=>bG h) Y Y Y;refine aiv (C:=λX X=>bX) t v x y (.r I (cQ _) N λX h=>h) a (λr d c H a=>C r _ H a) λb c d H Z r a=>aM a 0 Y<|a6 M1 (.c 64 (aj p) ar) Y Y ?_;have z:nh d.an "accepted"=b:=by refine W (Z J3)<|W wq ?_;cases b<;>rfl
 refine aM a 0 Y<|aM a 0 Y<|aM a 0 Y<|bW a 4 Y<|aV a λm H a=>?_;have a:=a.bN;refine aM a 1 Y<|bW a 4 Y<|aV a λn H a=>?_;have a:=a.bN;refine jL Y Y λg o=>?_;have a:=(a.hO (o:=cw 193 ar) o).bN;exact a6 R6 _ Y Y (bP a Y λH a=>bP a Y λH a=>bP a Y λH a=>bP a Y λH a=>bf ⟨Y,bf<|bf<|bf<|bf<|L b c d g m n H Z r<|ax z<|a.pk [0,2,1] 12 (ao Y)<|by decide⟩)
def ahS(a:e5)(h:b (aN<|sV<|F3 G) c):aK (n+1) 274 [h7 G B] c b d:=by
 refine a6 Ph (.c 184 _ ar) Y Y<|cb Y<|iZ d8 (λe=>J<|aG<|F G.cI e "") de (λZ Z Z Z=>rfl) (W (bB ..)<|cg<|ae a.oV<|ao Y) (λj e r p s f g k l m Z=>?_) λo s l=>?_
 .obtain⟨q,t,rfl⟩:=mm<|aO k;exact bJ Y (kt<|e6 (a.lt q t).1.2)<|m _ s Y l
 .rw [zM] at l;refine jb l 0 Y ?_;unfold F3 sV at h;rw [jC] at h;exact h
def afR(h:a (QC G) b):aK (n+2) 285 [aN<|sV<|F3 G] b a c:=by refine jL Y Y λa d=>?_;have e:=de.hO (o:=cw 285 ar) d;exact a6 OX (.c 64 _ (.c 112 _ ar)) Y Y<|bP e Y λs e=>bf ⟨Y,EL e 0 Y h⟩
def agZ(k:O):(qi<|sV a)[k]?=(a.zipIdx[k]?).map λp=>aR [ag p.2,aG p.1]:=by unfold qi sV;simp only [List.zipIdx_map,jC,cf];rfl
def n':∀{a} {b} {j} {c} {p},a[j]?=J c->b[j]?=J p->(ym a b).at (2*j)=J (c.2,az<|sV p.f.ns)/\(ym a b).at (2*j+1)=J (c.1,Ia p c):=by
 intro a;refine @(a.rec (λh=>aI h) λv r d=>?_);intro b j c p h k;cases b with
 |nil=>exact aI k|cons g t=>
  induction j with
  |zero=>refine W (aC h) ?_;exact W (aC k)<|⟨Y,Y⟩|succ j=>exact d h k
def Vh(a:Fr g e b)(c:b.at (k+1)=J (d.1,Ia p d))(h:b.at k=J (d.2,az<|sV p.f.ns))(j:∀f,Fr g f b->l (qx p.f) f):aK (n+1) 338 [aj d.1] e l m:=a6 QZ (.c 64 _ ar) Y Y<|aM a _ c (aM a _ c (aM a _ c (bW a k h<|aV de λd s f=>mG f 3 (aw<|aL ⟨_,_,Y,Y,iy (dQ _ _)<|iy (dQ _ _)<|iy (aw<|aw<|aw ⟨d,Y,f.e9 0 Y,aL ⟨_,_,f.c9 (k:=0) Y,Y,j6 (λZ=>dQ 1 _) _⟩⟩) nG⟩)<|j e a)))
def gB.It(h:lT c k q o a)(l:U c.fl<=U c.mv):U a.fl<=U a.mv+1/\(o=A->U a.fl<=U a.mv):=by
 have b:∀m,U c.fl<=U (c.mv++[m]):=λm=>W a4<|hI l;have d:U (eK G B c k q)<=U c.mv+1:=by
  unfold eK;cases aE c.qu 0 with
  |true=>exact ae (c6 a4)<|b2 l|false=>exact hI l
 have e:∀t,U c.mv<=U (gD c t):=λt=>by
  unfold gD;cases aE c.qu 3 with
  |true=>exact W a4<|fh _|false=>exact bb _
 induction h with
 |acc h=>exact⟨hI<|b _,λz=>iG z⟩|nc a h p l=>exact⟨hI<|b _,λZ=>b _⟩|red r f p g m h j n s v x=>exact⟨hI<|b _,λZ=>b _⟩|rk h s y=>exact⟨hI l,λz=>iG z⟩|oh h s D p v o=>exact⟨ae d<|b2<|ae (e _) D.len.1,λz=>iG z⟩|mD h s D p v a o C=>
  have z:=ae d (b2<|ae (e _) D.len.1)
  replace z:=ae z<|c6 (a4 (bs:=[dz "error" a])).symm
  exact⟨hI z,λZ=>z⟩
def nN.It(h:jr c o):U c.fl<=U c.mv->∀b a,o=J (b,a)->U a.fl<=U a.mv+1:=by
 induction h with
 |ov h=>exactλZ Z Z e=>aI e|st h d f s r g=>exactλl b a e=>g ((s.It l).2 Y) b a e|en h d f s j=>intro l b a e;cases e;exact(s.It l).1|eo=>exactλZ Z Z e=>aI e
def Yw:∀{a:aa<|O×O} {b:aa FP},U a=U b->∀k:O,(a.map λc=>aj c.1)[k]?=((A0 a b)[k]?).map λp=>aj p.1.1:=by
 intro a;refine @(a.rec (λZ k=>rfl) λc r d=>?_);intro b h k;cases b with
 |nil=>cases h|cons g t=>induction k with
  |zero=>rfl|succ k=>exact d (fZ h) k
def Ń{b:aa<|O×O}{a:aa FP}(h:U b=U a):R (λp=>qx p.2.f) (A0 b a)=(R (·.f) a).map qx:=W jC<|ax (Wu<|c6 h.symm)<|W jC<|W (Wu<|c6 h.symm) Y
def UL{j:O}{x:(O×O)×FP}(h:(A0 a b)[j]?=J x):a[j]?=J x.1/\b[j]?=J x.2:=by rw [List.getElem?_zip_eq_some] at h;exact h
def Ŵ(a:Tl [v] [t] d)(h:b 331):ri e v λc Z=>bE (cm Ap c) λt=>bE (cm t 70) b:=by
 cases a with
 |lf r=>exact h|nd a b=>exact h
def ĵ(a:Fr k l<| .c e (az [bS b,v,aj d,aj c])<|(IC g f b h j c).cB d<|az m):kW (x3 k) l 7 (aj e) (aN [bS b,v,aN m,aN f.mv]):=by have n:(Cs.c e (az [bS b,v,aj d,aj c])<|(IC g f b h j c).cB d<|az m).at ((IC g f b h j c).oZ+1)=J _:=wc;exact aw<|aw<|aw ⟨e,Y,a.e9 0 Y,aL ⟨_,_,a.c9 (k:=0) Y,Y,iy (dQ _ _)<|iy (dQ _ _)<|iy (aw<|aw<|aw ⟨d,Y,a.e9 _ n,aL ⟨_,_,a.c9 n,Y,j6 (λZ=>dQ 5 _) _⟩⟩)<|iy (aw<|aw<|aw ⟨c,Y,a.e9 3 Y,aL ⟨_,_,a.c9 (k:=3) Y,Y,j6 (λZ=>dQ 5 _) _⟩⟩) nG⟩⟩
def ajO(b:fK)(e:fW)(f:AY G)(a:v3 P)(g:∀k∈P,∀c≤9,lM (k++toString ((c:O):au))<=4096)(h:∀o,jr c0 o->j (OV o) d):
 aK (n+12) 264 [h7 G B,aN<|sV P,ag 60] d j l:=by
 refine a6 Oj (.c 45 _ (.c 103 _ (.c 50 _ ar))) Y Y<|iZ agZ (λp=>J<|jO p.1<|p.1++toString (p.2:au)) de (λX X X X=>rfl) (W Rp<|cg<|ae (a V)<|by decide) (λj p r o s m q t v x X=>?_) λy s v=>?_
 .obtain⟨k,c⟩:=p;rw [Fw] at t;refine aA (fA t) λz C H=>?_;cases H;have I:0+j<=9:=W (eF ..)<|ae (bT<|gl C)<|a V;exact⟨⟨cj _,ak jg<|bT<|cg<|ae I<|by decide⟩,g k (aO C) _ I,Pj<|x _ s Y v⟩
 rw [zM] at v;refine ahS (b V).toGW<|afR<|acP v λL N Z n l H s v=>?_;have o:∀c t,Fr d t c->jr c0 A->iC t _ _:=λc t v r=>aV v λy s v=>by have v:=v.bN;exact jb v 0 Y<|h A r
 refine ej v<|Š b e f a v (λr c s v=>?_) λb c z g C I s L r v=>?_
 .exactλa N=>br rfl<|o _ _ v r
 .refine br rfl ?_;have Z:=h _ r;have n:U (A0 z.fu z.ft)<cu:=by have l:=r.It (bb 0) _ _ Y;refine cg<|ae (W List.length_zip<|oN _ _) ?_;exact ax (bB (f:=(·.f)))<|W (L J2)<|ae l<|b2<|ae (L V)<|ao Y
  refine ej v<|ef (λH=>?_) λH=>?_
  .subst H;refine gw (L J4) λd t e b g=>aA (g V) λC I l=>?_;subst e;refine ej v<|Ŵ I<|aeg I (ae l<|ao Y)<|ej v<|ej v<|cb (v.lt 1 Y)<|iZ (Yw<|L J1) (λp=>J<|qx p.2.f) v (λX X X v=>v.lt 1 Y) n (λj a r p s m q o v x X=>?_) λy s v=>?_
   .refine dK (UL o) λN h=>?_;have z:=n' N h;exact aM v.bN (2*j+5) z.2<|Vh (k:=2*j+4) v.bN z.2 z.1 λs f=>x _ s Y f.Bx
   refine ej v ?_;rw [zM,Ń<|L J1,L J2] at v;refine aV v λd s v=>?_;have v:=v.bN;have g:OV (J (Q,c))=aN [bS Q,t,aN<|R qx c.fl,aN c.mv]:=by show Dy Q _ c=_;exact W b Y
   exact mG v 7 (ĵ v)<|ax g Z
  .subst H;refine ej v<|ej v<|ej v<|cb (v.lt 1 Y)<|iZ (Yw<|L J1) (λp=>J<|qx p.2.f) v (λX X X v=>v.lt 1 Y) n (λj a r p s m q o v x X=>?_) λy s v=>?_
   .refine dK (UL o) λN h=>?_;have z:=n' N h;exact aM v.bN (2*j+5) z.2<|Vh (k:=2*j+4) v.bN z.2 z.1 λs f=>x _ s Y f.Bx
   refine ej v ?_;rw [zM,Ń<|L J1,L J2] at v;refine aV v λd s v=>?_;have v:=v.bN;exact mG v 7 (ĵ v)<|W (L J4) Z
structure Pn where
a:O
b:O
ce:aa au
p3:O
l3:p3<1009
noncomputable def f3(p:Pn)(t q:O)(r:Cs):Cs:= .c p.a (az [aj p.b,ag t,ag q,ag p.p3])<| .c p.b (az<|R ag p.ce) r
def acm{m:O}(h:0<m):∃d:O,a%(m:au)=d/\d<m:=
 have e:=a5 (x6<|Int.emod_nonneg a<|ak Int.ofNat_ne_zero<|jt h)
 ⟨_,e,hn.mp<|e▸Int.emod_lt_of_pos a (ak hn h)⟩
def alv{m:O}(h:0<=a):∃d:O,a/(m:au)=d:=cM _<|a5<|x6<|Int.ediv_nonneg h<|cj m
def agz{a t:O}(h:a<1009)(k:t<=1000):rr (((a:au)+5)*((t:au)+3))<4611686018427387904:=
cF (show(a+5)*(t+3)<=1014*1003 from Uu (bT<|DD h 5)<|f6 k 3) (bl Y)
def ahc{a:O}(h:a<1009):rr ((a:au)+5)<4611686018427387904:=e8 (DD h 5:a+5<1014)<|bl Y
def agJ{c:au}(h:(1000000000000000000:au)<=(rr c:au)):∃g:O,(2:au)*((rr c:au)-1000000000000000000)=g:=⟨2*(rr c-1000000000000000000),aq (2*·) (IW<|jg.mp h).symm⟩
def AM{a:QT}(h:0<m)(k:∀d:O,d<m->a (ag d) b):0<(m:au)/\a (ag<|c%(m:au)) b:=aA (acm h) λd e l=>W e<|⟨ak hn h,k d l⟩
def SV{a:QT}{b m:O}(h:0<m)(k:∀d:O,a (ag d) c):0<(m:au)/\a (ag<|(b:au)/(m:au)) c:=bp (alv<|cj b) λd e=>W e<|⟨ak hn h,k d⟩
def agF{a:QT}{c:au}(h:(1000000000000000000:au)<=(rr c:au))(k:∀g:O,a (ag g) b):rr (2:au)<4611686018427387904/\a (ag<|2*((rr c:au)-1000000000000000000)) b:=bp (agJ h) λg e=>W e<|⟨ao Y,k g⟩
def oD{t q m:O}(a:Fr g j<|f3 p t q r)(k:t<=1000)(c:0<m)(h:∀d e b f,d<m->e<=t+1->Fr g f (f3 p e b r)->l (ag d) f):aK (n+1) 246 [aj p.a,ag m] j l o:=by
 refine a6 Sx (.c 13 _ (.c 46 _ ar)) Y Y<|dc a 0 Y Y<|g5 (λZ=>?_) λZ=>?_
 .exact dc a 0 Y Y<|AM c λd s=>dc a 0 Y Y<|SV c λb=>qA a 0 Y (bl Y) λv a=>bf<|h d t b v s (fh t) a
 .refine dc a 0 Y Y<|qA a 0 Y (bl Y) λv a=>?_;have x:=λd b v s a=>bf<|h d _ b v s (bb _) a;refine dc a 0 Y Y<|bW a 1 Y<|Ji (λZ=>?_) λy=>?_
  .exact dc a 0 Y Y<|⟨ahc p.l3,⟨agz p.l3 k,⟨(by decide:(0:au)<7),AM c λd s=>x d q v s a⟩⟩⟩
  .have y:t<U p.ce:=by rw [bB] at y;exact hn.mp y
   refine dc a 0 Y Y<|dc a 1 Y (by simp only [cf,bM y];rfl) ?_;generalize p.ce[t]=z;exact⟨⟨Y,Y⟩,g5 (λZ=>AM c λd s=>x d q v s a) λC=>⟨⟨Y,Y⟩,vd<|agF C λg=>g5 (λZ=>SV c λb=>qA a 0 (a:=2) Y (bl Y) λv a=>AM c λd s=>x d b v s a) λZ=>SV c λb=>qA a 0 (a:=2) Y (bl Y) λv a=>AM c λd s=>x d b v s a⟩⟩
def Pz(p)(a:aa bo)(t)(r)(k)(b)(c):=uJ<|∃d e f,b=sV d/\U d=k/\(∀x∈d,x∈a)/\e<=t+k/\c=f3 p e f r
def Pz.snoc{t k a c e:O}(f:U b=k)(g:∀x∈b,x∈d)(h:a<=t+k+1)(j:d[e]?=J x):Pz p d t r (k+1) (sV b++[aG x]) (f3 p a c r):=
iB ⟨b++[x],a,c,by unfold sV;refine W dq ?_;rfl,by refine W a4<|W f ?_;rfl,λy l=>aP (ma l) (g y) λz=>W (ms z)<|aO j,h,Y⟩
def Ss{d:O}:U (m4 0 (d:au))=d:=W (bB ..)<|W fi<|W (AU ..) Y
def HT(a:Fr j k<|f3 p t s r)(f:t<=900)(l:0<m)(n:m<=10)(o:0<U b)
 (h:∀c d e g,U c<m->(∀x∈c,x∈b)->d<=t+10->Fr j g (f3 p d e r)->q (aR<|sV c) g):aK (v+2) 247 [aj p.a,aR<|sV b,ag m] k q y:=by
 refine a6 Pk (.c 13 _ (.c 139 _ (.c 50 _ ar))) Y Y<|oD a (ae f<|ao Y) l λz C H s I L a=>?_;have N:=lE<|cc I n;refine⟨mQ<|ae N<|ao Y,wu a (Pz p b C r) (iB ⟨[],C,H,Y,Y,λX h=>bG h,bb _,Y⟩) (λX X X X X X X X=>rfl) (λk x Z m g s j l q v a y X=>?_) (W Ss<|cg<|ae N<|by decide) λg Z m s a v=>?_⟩
 .refine LB (v V) λc d e z n x C H=>?_;have k:=(by have Z:=gl q;rw [Ss] at Z;exact Z)
  subst z H;have ls:U (sV b)=U b:=bB ..;show aK _ _ [aj p.a,ag<|U<|sV b] _ _ _;refine W ls ?_;have m:d<=1000:=ae C<|ae (d2 (ae L<|b2 f)<|ae (bT k) N)<|ao Y;refine oD a m o λg j l s b q a=>bJ Y (kt<|bM b) ?_;exact y _ s (f3 p j l r) a (.snoc n x (ae q<|b2 C)<|bM b)
 .refine LB (v V) λc d e z n x C H=>?_;subst z H;rw [Ss] at n C;exact bW a _ wc (bf<|h c d e s (n▸I) x (ae C (d2 L N:_<=t+1+9))<|Fr.tl a.bN)
noncomputable def qg(a:aT)(b c:O):aT:=λx=>aD (aE x b||aE x c) A<|a x
noncomputable def BV(a b:aT)(c d:O):aT:=λx=>aD (aE x c||aE x d) (b x)<|a x
def zx(x a b:O):((aE x a||aE x b)=Q/\(x=a\/x=b))\/((aE x a||aE x b)=u/\x≠a/\x≠b):=by
 cases h:(aE x a||aE x b) with
 |true=>exact aL ⟨Y,(K6 _ _▸h).imp eb eb⟩|false=>rw [Yx] at h;exact aw ⟨Y,Cr h.1,Cr h.2⟩
def Lb(h:x=a\/x=b):qg c a b x=none:=by
 refine aP (zx x a b) (λz=>?_) λz=>?_
 .refine dK z λe Z=>?_;unfold qg;exact W e Y
 .refine dK z λZ z=>dK z λn m=>?_;exact b4<|aP h n m
def Hk(n:x≠a)(m:x≠b):qg c a b x=c x:=by
 rcases zx x a b with ⟨_,h⟩|⟨e,_⟩
 .exact b4<|aP h n m
 .unfold qg;exact W e Y
def NS(h:x=a\/x=b):BV d c a b x=c x:=by
 rcases zx x a b with ⟨e,_⟩|⟨_,n,m⟩
 .unfold BV;exact W e Y
 .exact b4<|aP h n m
def Fu(n:x≠a)(m:x≠b):BV c d a b x=c x:=by
 rcases zx x a b with ⟨_,h⟩|⟨e,_⟩
 .exact b4<|aP h n m
 .unfold BV;exact W e Y
def aff:∀{r},(∀k c o,r.at k=J (c,o)->a c=b c)->eD d b r->eD d a r:=by intro r;exact r.rec (λZ h=>h) λa o r e=>λg h=>⟨h.1,af (g 0 a o Y) h.2.1,h.2.2.1,e (λk=>g<|k+1) h.2.2.2⟩
def FQ(a:Fr c b<|f3 p t q r):Fr (qg b p.a p.b) b (f3 p t q bO):=
ml ⟨Lb<|aL Y,(a V).2.1,(λk c o e=>match k with|0=>(a V).2.2.1 0 c o e|_+1=>aI e),Lb<|aw Y,(a V).2.2.2.2.1,λZ Z Z e=>aI e,a3⟩ (λx o e=>by
 rcases zx x p.a p.b with ⟨_,z⟩|⟨_,n,m⟩
 .rw [Lb z] at e;exact aI e
 .rw [Hk n m] at e;exact e)
def xx(k)(a:Fr l e<|f3 p o s r)(b:Fr (qg e p.a p.b) f<|f3 p t q m)(g:m.at k=J (c,az d))
 (n:∀h,Fr l h (f3 p t q r)->j (aN d) h):ei j (aj c) f:=by
 have v (x:kW (λy=>qg e p.a p.b y=A/\y≠p.a/\y≠p.b) f 1 (aj c)<|aN d):ei j (aj c) f:=by
  refine W IJ<|⟨1,_,aN d,BV e f p.a p.b,x,λy=>?_,n _ (ml ⟨(a V).1,af (NS<|aL Y) (b V).2.1,λk z o C=>?_,(a V).2.2.2.1,af (NS<|aw Y) (b V).2.2.2.2.1,(a V).2.2.2.2.2.1,?_⟩ λy o C=>?_)⟩
  .refine aP (zx y p.a p.b) (λH=>?_) λH=>?_
   .obtain⟨_,H⟩:=H;exact aw ⟨λI=>aP H I.2.1 I.2.2,NS H⟩
   .obtain⟨_,n,k⟩:=H;cases C:e y with
    |none=>exact aL ⟨⟨af (Hk n k) C,n,k⟩,af (Fu n k) C⟩|some o=>exact aw ⟨(λI=>by have L:=af (Hk n k).symm I.1;exact iG<|C▸L),af (Fu n k)<|af C ((b J1) y o<|af (Hk n k) C).symm⟩
  .induction k with
   |zero=>cases C;exact(a V).2.2.1 0 p.b _ Y|succ k=>exact(a V).2.2.1 _ z o C
  .exact aff (λk z o C=>Fu ((a V).2.2.1 (k+1) z o C)<|(a V).2.2.2.2.2.1 k z o C) (a V).2.2.2.2.2.2
  .exact af (Fu (λH=>by have L:=(a V).1;rw [<-H,C] at L;exact iG L) (λH=>by have L:=(a V).2.2.2.1;rw [<-H,C] at L;exact iG L))<|(a J1) y o C
 refine v<|aw<|aw<|aw ⟨c,Y,⟨b.e9 (k+2) g,(b V).2.2.1 (k+1) c _ g,(b V).2.2.2.2.2.1 k c _ g⟩,aL ⟨d,d,b.c9 (k:=k+2) g,Y,j6 (λZ=>dQ 0 _) _⟩⟩
noncomputable def CB:aa gj:=[[("s",[]),("s",["s","t","b"]),("s",["s","error","b"]),("t",["a"]),("t",["t","c","a"])],[("s",["a"]),("s",["b","t","c"]),("s",["b","error","c"]),("t",[]),("t",["t","s"])],[("s",["a"]),("s",["error"]),("s",["s","c","t"]),("t",["b"]),("t",["b","error"])],[("s",["a"]),("s",["error","a"]),("s",["b","s","c"]),("s",["b","error","b"]),("s",["t","s"]),("t",["c"]),("t",["error","c"])]]
def c!{D a}(h:u2 D l=Q):u2 (D++a) l=true:=by
 unfold u2 at h⊢;refine W (X0) ?_;cases e:BC _ D with
 |none=>exact bU<|e▸h|some q=>rw [e] at h;exact h
def afm:∀D∈CB,pG ["s","t"] ["s","t"] 8 13 D:=by
 have a:∀D∈CB,(∀q∈D,q.1∈["s","t"]/\U q.2<=3/\∀x∈q.2,x∈e3++["s","t"])/\(∀l∈["s","t"],u2 D l=Q)/\D.foldl oC []=["s","t"]/\U D<=8/\(R (·.2.length-1) D).sum<=13:=by decide+kernel
 exactλD h=>ec (a D h).1 (a D h).2.1 (a D h).2.2.1 (a D h).2.2.2.1 (a D h).2.2.2.2
def pG.up{ls a}{D}(h:pG ls a m t D)(b:m<=c)(d:t<=e):pG ls a c e D:=ec (h V) (h J1) (h J2) (ae (h J3) b)<|ae (h J4) d
def Ż(h:l∉a):oC a (l,r)=a++[l]:=by
 unfold oC;cases e:b6 a l with
 |true=>exact ay (gv.mp e) h|false=>rfl
def TG{y:O}:(a++[y]).sum=a.sum+y:=by simp only [List.sum_append,List.sum_singleton]
def pG.add{ls a}{D}(h:pG ls a m t D)(b:l∈a)(c:U r<4)(d:∀x∈r,x∈e3++ls):pG ls a (m+1) (t+2) (D++[(l,r)]):=by
 refine ec (λq e=>aP (ma e) ((h V) q) λz=>?_) (λf g=>c! <|(h J1) f g) ?_ ?_ ?_
 .exact W (ms z)<|⟨b,lE c,d⟩
 .have j:oC a (l,r)=a:=by unfold oC;exact W (ak gv b) Y
  exact W Gp<|W (h J2) j
 .exact W a4<|b2<|h J3
 .exact W dq<|ae (c6 TG)<|d2 (h J4)<|o? (lE c) 1
def pG.nil{ls}:pG ls [] 0 0 []:=ec (λZ h=>bG h) (λZ h=>bG h) Y (bb _)<|bb _
def t7(D:gj):=R wK D
def N7{D}:t7 D++[aR [aG l,aR<|sV a]]=t7 (D++[(l,a)]):=by unfold t7;exact W dq Y
def Lc{D}:U (t7 D)=U D:=bB ..
noncomputable def mo1:=["a","b","c","error","s","t"]
def xW(p)(a t q)(D):=f3 p t q<| .c a (az<|t7 D) bO
def W3(p:Pn)(a:O)(ls:aa bo)(r:aW):aW:= .c 13 (aj p.a)<| .c 115 (aj a)<| .c 106 (aR<|sV ls) r
def w?(ls a)(m t T)(s:gj×O):=e7 (pG ls a m t s.1)<|s.2<=T
def l1{a b c k m:O}(h:a<=b+k)(g:b<=c+m):a<=c+(m+k):=ae h<|cA c m k▸f6 g k
def oH{n:O}(h:a<=b+k)(g:b<=m)(e:js (m+k) n=Q):a<=n:=ae h<|ae (f6 g k)<|ho e
def wN{n:O}(h:a<=b+k)(g:b<=c+m)(e:js (m+k) n=Q):a<=c+n:=ae (l1 h g)<|d5 (ho e) c
def alW(a:Fr j É<|f3 p t q r)(c:t<=600)(h:∀ls D b d f,cU ls D->b<=t+200->Fr j f (f3 p b d r)->g (gS D) f):aK (n+3) 266 [aj p.a] É g k:=by
 have Ç:=a;have a:=FQ a;refine a6 Ly (.c 13 _ ar) Y Y<|oD a (ae c<|bl Y) (bl Y) λm o Ã v Â y a=>h0 (λz=>?_) λz=>?_
 .have Ï:=bM (l:=CB) z;have I:=afm _ (aO Ï);generalize CB[m]=D at Ï I;have L:(CB.map λf=>aR<|t7 f)[m]?=J (aR<|t7 D):=by simp only [cf,Ï];rfl
  refine bJ Y L<|aV a λN v a=>?_;have Æ:∀D b d v,cU ["s","t"] D->b<=o+20->Fr _ v (xW p N b d D)->ei g _ v:=λD b d v g H a=>xx 0 Ç a Y (h _ D b d · g (wN H y Y));refine oD a (oH y c Y) (bl Y) λÁ Å Ë v L f a=>lC (λX=>?_) λX=>?_
  .have À {g:O} {d:Prop} (h:g<2) (j:∀x,"st".toList[g]?=J x->qE [x]∈["s","t"]->d):d:=by exact r_ (a:=λg=>(∀x,"st".toList[g]?=J x->qE [x]∈["s","t"]->d)->d) h (λj=>j 's' Y<|ao Y) (λj=>j 't' Y<|ao Y) j
   refine oD a (oH (l1 f y) c Y) (bl Y) λg g g v g s a=>À g λx Ä È=>aiA (e8 g<|bl Y) Ä ?_;generalize qE [x]=H at È;refine cH a 2 Y<|HT (b:=mo1) a (oH (l1 s<|l1 f y) c Y) (bl Y) (bl Y) (bl Y) λx g Z v l n e a=>dD a 2 Y (a5 Lc▸cg (ae (I J3)<|bl Y)) λv a=>Æ _ g Z v (cp (aL Y)<|I.add È l n) (wN e (l1 s f) Y) ?_;unfold xW;exact ax N7 a
  .exact Æ D Å Ë v (cp (aL Y)<|I.up (bl Y)<|bl Y) (wN f (dO o 0) Y) a
 .refine aV a λN v a=>?_;have f:∃j,m=2+j/\(j=2\/j=3):=aP (DJ<|lE Â) (λh=>⟨2,hJ (lE h) z,aL Y⟩) λh=>⟨3,h,aw Y⟩;obtain⟨j,rfl,m⟩:=f;have z {d:aa ai->Prop} (h:∀ls,(ls=["s","t"]\/ls=["s","t","u"])->d (sV ls)):mh [aG "s",aG "t",aG "u"] bk (ag j) d:=by
   rcases m with rfl|rfl
   .exact tp (ao Y)<|h _ (aL Y)
   .exact tp (by decide)<|h _ (aw Y)
  refine pf Y<|z λls Ê=>cb Y ?_;have s:U ls<=3:=by rcases Ê with rfl|rfl<;>exact ho Y
  refine cv d8 (λj X X=>W3 p N ls ar) (λj (v:gj×O) q=>xW p N v.2 q v.1) (λj v X=>w? ls (aF j ls) (3*j) (5*j) (o+40*j) v) ([],o) Ã a (cp .nil<|bb _) (λX X X X X=>rfl) (λm H z Ë v d f k a Ì=>?_) λz Ë v k a=>?_
  .obtain⟨D,b⟩:=z;have I:=k V;dsimp only [Jt] at I;have Í:b<=o+40*m:=k J1;have Î:=lE<|cc (gl f) s;have C:=ae Í<|d5 (ky 40 Î) _;have Ð:=ky 3 Î;have Ñ:=EZ (by rcases Ê with rfl|rfl<;>decide) f;rw [fQ f] at Ì;refine cH a 2 Y<|HT (b:=e3) a (oH (l1 C y) c Y) (bl Y) (bl Y) (bl Y) λx g Z v l n e a=>dD a 2 Y (a5 Lc▸cg (ae (I J3)<|ae Ð<|bl Y)) λv a=>?_;have a:Fr (qg É p.a p.b) v (xW p N g Z<|D++[(H,x)]):=by unfold xW;exact ax N7 a
   have Ò {Ó:aa bo} {Ô:O} {t:O} {r:aa bo} (h:pG ls Ó Ô t D) (f:H∉Ó) (Õ:U r<3) (l:∀Ö∈r,Ö∈e3):pG ls (Ó++[H]) (Ô+1) (t+1) (D++[(H,r)]):=by
    have t:BC (λq=>q.1==H) D=none:=ak List.find?_eq_none λq r Ï=>f (by have Ø:=((h V) q r).1;exact eq_of_beq Ï▸Ø);refine ec (λq r=>aP (ma r) (λr=>⟨gI _ ((h V) q r).1,((h V) q r).2⟩) λr=>?_) (λÙ Ú=>aP (ma Ú) (λr=>c! <|(h J1) Ù r) λr=>?_) ?_ ?_ ?_
    .exact W (ms r)<|⟨fy _ hf,ae (bT Õ)<|bb 3,λÖ h=>gI _ (l Ö h)⟩
    .refine W (ms r) ?_;unfold u2;rw [X0,t]
     simpa using l
    .rw [Gp,h J2];exact Ż f
    .exact W a4<|b2<|h J3
    .exact W dq<|ae (c6 TG)<|d2 (h J4)<|o? (lE Õ) 1
   have I:=Ò I Ñ l n;refine oD a (oH (l1 e<|l1 C y) c Y) (bl Y) λÁ f Ý v L Û a=>?_;have L:=d5 (lE L) 1;refine⟨mQ<|ae L<|bl Y,cv mR (λX X X=>W3 p N ls _) (λj (v:gj×O) q=>xW p N v.2 q v.1) (λr v X=>w? ls _ (3*m+1+r) (5*m+1+2*r) (o+40*m+11+10*r) v) (D++[(H,x)],f) Ý a (cp I<|l1 Û<|l1 e Í) (λX X X X X=>rfl) (λr Ü z t v d Þ k a Ì=>?_) λz t v k a=>?_⟩
   .obtain⟨D,b⟩:=z;have I:=k V;have q:=lE<|cc (lu Þ).2 L;have Í:b<=o+40*m+11+10*r:=k J1;have C:=ae Í<|d2 (f6 (d5 (ky 40 Î) o) 11)<|ky 10 q;have C:b<=o+101:=C;refine cH a 2 Y<|⟨bT<|cg<|ae (d5 (ae (c6 (bB ..)) s) 4)<|bl Y,HT (b:=e3++ls) a (oH (l1 C y) c Y) (bl Y) (bl Y) (a5 a4▸cc (ho Y:0<U e3) (dO _ _)) λx g Z v l n e a=>dD a 2 Y (a5 Lc▸cg (ae (I J3)<|ae (d2 (f6 Ð 1) q)<|bl Y)) λv a=>Ì (D++[(H,x)],g) Z v (cp (I.add (fy _ hf) l n)<|ae e<|f6 Í 10) ?_⟩;unfold xW;exact ax N7 a
   .rw [fi] at k;exact Ì z t v (cp ((k V).up (d5 L _)<|d5 (ky 2 L) _)<|ae (k J1)<|ae (d5 (ky 10 L) _)<|d5 (ho Y:31<=40) _) a
  .rw [dI] at k;exact xx 0 Ç a Y (h ls _ _ _ · (cp Ê<|(k V).up (ky 3 s)<|ky 5 s) (wN (ae (k J1)<|d5 (ky 40 s) _) y Y))
noncomputable def Iz:=[["a"],[],["c","c"],["q"],["b"]]
def ad8:∀X∈Iz,(∀k∈X,k∈iK)/\U X<=2:=by decide+kernel
noncomputable def qT(D:gj)(a):=R (·.2)<|D.filter λx=>decide (x.1=a)
def vG(a)(x:bo×aa bo):=aD (nh x.1 a) (J<|aR<|sV x.2) A
def Vu:eG (vG a) b=(qT b a).map λr=>aR (sV r):=by
 unfold qT vG;refine b.rec Y λx r c=>W xS<|W xX<|W wq ?_
 by_cases h:x.1=a
 .exact W (eV h)<|aq _ c
 .exact W (gn h) c
def afv(g:cU c a)(h:b∈e3):qT a b=[]:=by unfold qT;rw [ak Zh];exact List.map_nil;intro x d e;have f:=((g J1) V x d).1;rw [ao e] at f;revert h f;rcases(g V) with rfl|rfl<;>(unfold e3;simp;rintro (rfl|rfl|rfl|rfl)<;>decide)
def Fv(h:Fr p d b)(c j)(e:b.at c=J (f,az a))(g:b.at j=J (k,az []))(l:a=[]->m)(n:a≠[]->o):sQ d (aj f) (aj k) λr=>dH r m o:=by
 refine bW h c e<|bW h j g ?_
 induction a with
 |nil=>exact l Y|cons x r=>exact n λz=>jJ<|z
def ajX(g:cU v f)(c:b∈e3)(a:Fr j l<|f3 p t q r)(m:t<=990)(h:∀X d o e,(∀k∈X,k∈iK)->U X<=2->d<=t+1->Fr j e (f3 p d o r)->s (aN<|sV X) e):
 aK (n+2) 305 [aj p.a,gS f,aG b,ag x] l s y:=by
 have z:=a;have a:=FQ a;refine a6 GQ (.c 13 _ (.c 115 _ (.c 52 _ (.c 26 _ ar)))) Y Y<|cb Y<|iZ d8 (vG b) a (λV V V V=>rfl) (cg<|ae ((g J1) J3)<|ao Y) (λj x C o s H I L a N Z=>?_) λC s a=>?_
 .refine ef (λe=>N _ s (by unfold vG;refine W e ?_;rfl) a) λe=>Z s (by unfold vG;refine W e ?_;rfl) a
 rw [Vu,afv g c] at a;refine aV a λv s a=>Fv a 2 3 Y Y (λV=>Ro (λp=>?_) λe=>?_) λd=>ay Y d
 .have f {x:bo} (h:x∈e3) (n:x≠"error"):x∈iK:=by
   unfold e3 at h;unfold iK;simp at h⊢;rcases h with h|h|h|h
   .exact aL h
   .exact aw<|aL h
   .exact aw<|aw<|aL h
   .exact ay h n
  exact aV a λl s a=>xx 2 z a Y (h [b] t q · (λk r=>W (ms r)<|f c p) (fh 1) (fh t))
 .refine oD a (ae m<|ao Y) (ao Y) λd y j s o H a=>?_;have e:=bM (l:=Iz) o;have I:=ad8 _ (aO e);generalize Iz[d]=X at e I;have L:(Iz.map λf=>aR<|sV f)[d]?=J (aR<|sV X):=by simp only [cf,e];rfl
  exact bJ Y L<|aV a λl s a=>xx 2 z a Y (h X y j · I.1 I.2 H)
def xb(p)(D:gj)(n)(b:bo->Prop)(c)(a L):=uJ<|∀d,b d->∀e f (g:QT) h (t q:O) r,Fr e f (f3 p t q r)->t+a<=990->
(∀X j k l,(∀m∈X,m∈iK)->U X<=L->j<=t+a->Fr e l (f3 p j k r)->g (aN<|sV X) l)->aK n 305 [aj p.a,gS D,aG d,ag c] f g h
def h'(g:cU c a)(b):xb p a (n+2) (·∈e3) b 1 2:=
iB λd e f h j k t q r l m h=>ajX g e l (ae (dO _ _) m) h
def Ō{e:bo->Prop}(a:Fr l c<|f3 p t q<| .c d (az<|b.map λr=>aR<|sV r) r)(m:t<=990)(n:b≠[])
 (o:g=0->∀r,mj b=J r->∀x∈r,e x)(s:g≠0->∀r∈b,∀x∈r,e x)
 (h:∀f j v k,f∈b->(∀x∈f,e x)->j<=t+1->Fr l k (f3 p j v<| .c d (az<|b.map λr=>aR<|sV r) r)->K (aR<|sV f) k):
 dH (eX g 0) (ko (aj d) (ag 0) c K) (ni (c d) λy=>aK (z+1) 246 [aj p.a,ag<|U y] c (Tp k6 (aj d) K) C):=by
 have H:=ak Y4 n;refine lC (λe=>?_) λe=>?_
 .refine dc a 2 Y (by simp only [cf,bM H];rfl) ?_;exact h _ t q c (y9 H) (o e _ (W (List.head?_eq_getElem?)<|bM H)) (fh t) a
 .refine bW a 2 Y<|W (bB ..)<|oD a (ae m<|ao Y) H λd I L N Z r a=>dc a 2 Y (by simp only [cf,bM Z];rfl) ?_;exact h _ I L N (y9 Z) (s e _ (y9 Z)) r a
def WS(h:k<3):k*a+a<=3*a:=ax (r9 ..)<|ry _ h
def Y7(h:r∈qT a b):(b,r)∈a:=by obtain⟨x,c,rfl⟩:=mm h;have d:=sJ.mp c;exact ax (ao d.2) d.1
def xb.up(h:xb p b N c d e L)(a:e<=f)(g:L<=j):xb p b N c d f j:=
iB λk l m n o q t r s v x y=>(h V) k l m n o q t r s v (ae (d5 a t) x) λX z C H I Z p=>y X z C H I (ae Z g)<|ae p<|d5 a t
def G8(g:cU j a)(S:xb p a (n+2) e (c-1) b L)(Ä:L<=300)(d:1<=1+3*b)(l:2<=3*L)(f:c=0->∀x∈e3,e x)(h:c≠0->∀x∈e3++j,e x):xb p a (n+3) (·∈e3++j) c (1+3*b) (3*L):=by
 refine iB λm o q r s t v y z C H I=>aP (ma o) (λo=>?_) λo=>?_
 .exact(h' g c).up d l V m o q r s t v y z C H I
 .have À (Z:qT a m≠[]) (f:c=0->∀z,mj (qT a m)=J z->∀x∈z,e x) (h:c≠0->∀z∈qT a m,∀x∈z,e x) (j:∀z∈qT a m,U z<=3):aK ((n+1)+2) 305 [aj p.a,gS a,aG m,ag c] r s t:=by
   have Â:=C;have C:=FQ C;refine a6 GQ (.c 13 (aj p.a)<| .c 115 (gS a)<| .c 52 (aG m)<| .c 26 (ag c) ar) Y Y<|cb Y<|iZ d8 (vG m) C (λT T T T=>rfl) (cg<|ae ((g J1) J3)<|ao Y) (λq x e n s t q n C t q=>?_) λe s C=>?_
   .refine ef (λN=>t _ s (by unfold vG;refine W N ?_;rfl) C) λN=>q s (by unfold vG;refine W N ?_;rfl) C
   rw [Vu] at C;refine aV C λt s C=>Fv C 2 3 Y Y (λq=>ay (S1.mp q) Z) λT=>aV C λd s C=>?_;have C:Fr (qg r p.a p.b) s (f3 p v y<| .c e (az<|(qT a m).map λz=>aR<|sV z)<| .c t (az [])<| .c d (az []) bO):=C;refine Ō C (ae (dO v _)<|ae H<|bl Y) Z f h λright v Z s t Á Å C=>?_;have C:Fr (qg r p.a p.b) s (f3 p v Z<| .c d (az<|sV []) bO):=C.pk [0,1,4] 5 (ao Y)<|ao Y;have r:=j right t;refine cb Y<|cv d8 (λT (j:O) _=> .c 13 (aj p.a)<| .c 115 (gS a)<| .c 26 (ag c)<| .c 174 (aj e)<| .c 94 (aj j) ar) (λT j (c:aa bo×O×O)=>f3 p c.2.1 c.2.2<| .c j (az<|sV c.1) bO) (λe T c=>(∀x∈c.1,x∈iK)/\U c.1<=e*L/\c.2.1<=v+e*b) d ([],v,Z) C ⟨λT I=>bG I,cQ _,dO _ _⟩ (λT T T T T=>rfl) (λe x j c s p n d C Ã=>?_) λj c s d C=>?_
   .obtain⟨p,j,Æ⟩:=c;obtain⟨k,l,Z⟩:=d;have Ç:e<3:=cc (gl n) r;have È:e*b+b<=3*b:=WS Ç;have É:e*L+L<=3*L:=WS Ç;have l:U p<=e*L:=l;have Z:j<=v+e*b:=Z;refine vd<|(S V) x (Á x<|aO n) _ _ _ _ _ _ _ C (ae (f6 Z b)<|ae (c6 (cA ..))<|ae (d2 Å È)<|ae (c6 (cA ..)) H) λX L H s Ê lk e C=>?_;have e:L<=j+b:=e;refine bW C 2 Y ⟨by unfold sV;simp only [bB,bB];exact bT<|cg<|ae (d2 l lk)<|ae É<|ae (ky 3 Ä)<|bl Y,aV C λË s C=>Ã Ë (p++X,L,H) s ⟨λx n=>aP (ma n) (k x)<|Ê x,?_,W (r9 ..)<|ae e<|ae (f6 Z b)<|c6 (cA ..)⟩ ?_⟩
    .simp only [a4,r9];exact d2 l lk
    .unfold sV;exact W dq<|C.pk [0,1,3] 4 (ao Y)<|by decide
   .obtain⟨p,j,Æ⟩:=c;refine Ai d λk l Z=>?_;have s:U right*b<=3*b:=ry _ r;have Z:j<=v+U right*b:=Z;exact xx 0 Â C Y (I p j Æ · k (ae l<|ry _ r) (ae Z<|ae (d2 Å s)<|c6 (cA ..)))
  have c (I:u2 a m=Q):∃z,mj (qT a m)=J z/\∀x∈z,x∈e3:=by
   unfold u2 at I;refine W (List.head?_map)<|W (List.head?_filter) ?_;refine W (funext λx=>rfl:(λx:bo×aa bo=>decide _)=λy=>y.1==m) ?_;cases N:BC _ a with
   |none=>exact bU<|N▸I|some y=>rw [N] at I;exact⟨y.2,Y,λx n=>gv.mp<|oW I x n⟩
  refine aA (c<|(g J1) J1 m o) λd L H=>À (λq=>by rw [q] at L;cases L) (λq z t x n=>?_) (λq z t x n=>h q x<|((g J1) V _ (Y7 t)).2.2 x n) λz t=>((g J1) V _ (Y7 t)).2.1;rw [L] at t;obtain rfl:=aC t;exact f q x<|H x n
def alJ(g:cU b a):xb p a (n+6) (·∈e3++b) 3 121 162:=by have c:xb p a (n+3) _ 0 4 6:=G8 g (h' g _) (ao Y) (ao Y) (by decide) (λZ x h=>h) λz=>ay Y z;exact G8 g (c:=3) (G8 g (c:=2) (G8 g (c:=1) c (ao Y) (by decide) (ao Y) (λz=>nomatch z) λZ x h=>h) (ao Y) (by decide) (by decide) (λz=>nomatch z) λZ x h=>h) (ao Y) (by decide) (by decide) (λz=>nomatch z) λZ x h=>h
def DZ{k:O}(h:K<|aF k a):mh a bk (ag k) K:=by
 rcases ZQ k (U a) with l|l
 .exact tp l h
 .rw [zt l] at h;refine W yI ?_;unfold AP;refine W M5 (?_:K<|(aF _ a).drop 0);exact W (Ij l)<|W dI h
def yO.ok{X}(h:yO X):v3 X:=cp (h J1) (λk a=>by
 have b:=(h V) k a
 constructor<;>(rintro rfl;revert b;decide))
noncomputable def Yj:=["a","b","c","a","b","c","q"]
def aaP:∀x∈Yj,x∈iK:=by decide+kernel
noncomputable def De:=[[],["a"],["b"],["c"],["q","q"]]
def ahw:∀X∈De,(∀k∈X,k∈iK)/\U X<=2:=by decide+kernel
def OO:aF k (sV a)=sV (aF k a):=by unfold sV;exact W si Y
def af7:cq k (sV a)=sV (cq k a):=by unfold sV;exact W IS Y
def tJ:sV a++sV b=sV (a++b):=by unfold sV;exact W dq Y
def gm:U (sV a)=U a:=bB ..
def Wi{a:aa bo}{k:O}(h:∀x∈a,x∈iK):yO (aF 9 a):=cp (λx b=>h x<|BW b)<|W dS<|mq _ _
def abA(g:cU m d)(a:Fr k c<|f3 p t q r)(b:t<=800)(h:∀X e l f,yO X->e<=t+130->Fr k f (f3 p e l r)->j (aN<|sV X) f):aK (n+7) 248 [aj p.a,gS d] c j o:=by
 have s:=a;have a:=FQ a;refine a6 Mz (.c 13 (aj p.a)<| .c 115 (gS d) ar) Y Y<|oD a (ae b<|ao Y) (ao Y) λv x y z C H a=>lC (λT=>?_) λT=>?_
 .exact HT (b:=Yj) a (oH H b Y) (ao Y) (ao Y) (by decide) λI L N z Z e f a=>aV a λk z a=>xx 0 s a Y (h I L N · (cp (λl Z=>aaP l<|e l Z)<|lE Z) (wN f H Y))
 .refine(alJ (n:=n) g) V "s" (fy _ (by rcases(g V) with rfl|rfl<;>decide)) _ _ _ _ _ _ _ a (ae (f6 (oH H b Y:x<=801) 121)<|bl Y) λX L N z m lk f a=>DZ<|W OO<|aV a λk z a=>?_;have q:=Wi (k:=9) m;generalize aF 9 X=X at q a;have o:∀v (X:aa bo) (d:Cs) y g z,(∀l∈X,l∈iK)->y<=t+130->Fr (qg c p.a p.b) z (f3 p y g<| .c v (az<|sV X) bO)->ni (z v) λI=>mh I bk (ag 9) λn=>iC z (az n) (ei j):=λv X d y g z m x a=>by refine bW a 2 Y<|DZ<|aV a λe z a=>?_;rw [OO] at a;exact xx 1 s a Y (h _ y g · (Wi (k:=9) m) x)
  refine QB (λT=>?_) λT=>?_
  .refine aV a λv z a=>Xr a 2 3 Y Y (λt=>?_) λT=>?_
   .refine bW a 2 Y ?_;have j:0<U X:=by
     induction X with
     |nil=>exact ay Y t|cons _ _=>exact k9 _
    refine HI gm ?_;have a:Fr (qg c p.a p.b) z (f3 p L N<| .c k (az<|sV X) bO):=a.pk [0,1,2] 4 (by decide) (by decide);refine oD a (oH (l1 f H) b Y) j λn y g z h x a=>bW a 2 Y<|tp (W gm<|bT h)<|W OO<|aV a λs z a=>oD (r:= .c k (az<|sV X)<| .c s (az<|sV<|aF n X) bO) a (oH (l1 x<|l1 f H) b Y) (ao Y) λd m v z C e a=>?_;have p:=bM (l:=De) (i:=d) C;have c:=ahw _ (aO p);generalize De[d]=to at p c;have t:(De.map λj=>aR<|sV j)[d]?=J (aR<|sV to):=by simp only [cf,p];rfl
    refine bJ (d:=De.map λj=>aR<|sV j) Y t<|aV a λy z a=>bW a 3 Y<|bW a 4 Y ?_;have g:U (aF n X)<=9:=W dS<|ae (oN _ _)<|q J1;refine⟨by simp only [gm,gm];exact bT<|cg<|ae (d2 g c.2)<|ao Y,W tJ<|aV a λb z a=>bW a 2 Y<|AR (k:=n+1) (W gm h)<|W af7<|aV a λr z a=>bW a 5 Y<|bW a 6 Y ?_⟩;have s:U (cq (n+1) X)<=9:=W vO<|ae (mi _ _)<|q J1;refine⟨by simp only [gm,gm,a4];exact bT<|cg<|ae (d2 (d2 g c.2) s)<|ao Y,W tJ<|aV a λC z a=>o C _ bO m v z (λl Z=>?_) (wN e (l1 x<|l1 f H) Y) (a.pk [0,1,7] 8 (ao Y)<|by decide)⟩;rcases ma Z with Z|Z
    .rcases ma Z with Z|Z
     .exact(q V) l<|BW Z
     .exact c.1 l Z
    .exact(q V) l<|Wg Z
   .exact o k X bO L N z (q V) (wN f H Y)<|a.pk [0,1,2] 4 (by decide)<|by decide
  .exact o k X bO L N z (q V) (wN f H Y) a
noncomputable def jf(a)(x:bo×aa bo):=aD (b6 a x.1) a<|aD (cP x.2<|b6 a) (a++[x.1]) a
def qm(D:gj)(a):=D.foldl jf a
noncomputable def ir(D:gj):O->aa bo
|0=>[]|k+1=>qm D<|ir D k
noncomputable def DL(a)(x):=aD (b6 a x) A<|J<|aG x
def y_:eG (DL a) b=[]↔cP b (b6 a)=true:=by rw [q',gT];refine forall_congr' λx=>forall_congr' λZ=>?_;unfold DL;cases b6 a x<;>simp
def zJ{c d:Type}{f}{b:d}{a:aa c}{x}(h:a[k]?=J x):(aF (k+1) a).foldl f b=f ((aF k a).foldl f b) x:=by simp only [fQ h,Gp];rfl
def alw:U (jf a x)<=U a+1:=by
 unfold jf;cases b6 a x.1 with
 |true=>exact fh _|false=>cases cP x.2 (b6 a) with
  |true=>exact c6 a4|false=>exact fh _
def k_:∀{D},U (qm D a)<=U a+U D:=by
 intro D
 induction D generalizing a with
 |nil=>exact bb _|cons x r b=>exact ae b<|W hS<|ax (cA ..)<|W (jN ..)<|f6 alw _
def afc:∀k,U (ir a k)<=k*U a:=λk=>k.rec (cQ _) λk b=>W (r9 ..)<|ae k_<|f6 b _
def s'(h:t=Q->a)(b:t=u->c):dH (!t) c (dH (!t) C a):=by
 induction t
 .exact b Y
 .exact h Y
def acQ{D:gj}(l:U D<=9)(a:∀x∈D,U x.2<=3)(h:b (aN<|sV<|ir D<|U D) c):aK (n+1) 263 [gS D] c b d:=by
 refine a6 OU (.c 115 _ ar) Y Y<|aV de λe s f=>cb Y<|cv d8 (λX X X=> .c 115 _ _) (λk X X=> .c e (az<|sV<|ir D k) bO) (λk X X=>bh) () () f a3 (λX X X X X=>rfl) (λk x X X s g j X f m=>?_) λX X s X f=>jb f 0 Y h;refine cb Y<|cv d8 (λX X X=> .c 115 _ (.c 94 _ _)) (λo X X=> .c e (az<|sV<|(aF o D).foldl jf _) bO) (λk X X=>bh) () () f a3 (λX X X X X=>rfl) (λo y X X s g p X f m=>?_) λX X s X f=>?_
 .have m:=m () ();rw [zJ p] at m;have q:U ((aF o D).foldl jf _)<=90:=ae k_<|d2 (ae (afc k)<|Uu (bT<|cc (gl j) l) l)<|ae (lA ..) l;generalize (aF o D).foldl jf _=r at f m q;refine vV f 0 Y<|s' (λe=>m s a3<|by unfold jf;exact W e f) λe=>cb Y<|iZ d8 (DL r) f (λX X X X=>rfl) (cg<|ae (a y<|aO p)<|ao Y) (λt z v o s C H I f L N=>?_) λv s f=>?_
  .exact vV f 0 Y<|jh<|ef (λe=>N s (by unfold DL;refine W e ?_;rfl) f) λe=>L _ s (by unfold DL;refine W e ?_;rfl) f
  refine aV f λZ s f=>Fv f 1 2 Y Y (λz=>?_) λz=>?_
  .have z:=y_.mp z;refine cH f 0 Y<|dD f 0 Y (W gm<|cg<|ae q<|ao Y) λs f=>m s a3 ?_;unfold jf;exact W e<|W z<|ax tJ<|f.pk [0] 3 (by decide)<|by decide
  .have z:cP y.2 (b6 r)=false:=by
    cases q:cP y.2 (b6 r) with
    |true=>exact ay (ak y_ q) z|false=>rfl
   refine m s a3 ?_;unfold jf;exact W e<|W z<|f.pk [0] 3 (by decide)<|by decide
 .rw [dI] at f;exact m () () s a3 f
class inductive Lw(D:gj):O->aa ai->aa bo->aa (aa bo)->Prop
|nil {d}:Lw D d [] [] []|lf {d k e a b c} (r:Lw D d a b c):Lw D d (u3 k e::a) (k::b)<|[e]::c|nd {d l f g h a b c} (j:Lw D d f g h) (m:(l,g)∈D) (n:Lw D (d+1) a b c):Lw D (d+1) (lV l f::a) (l::b)<|hc h::c
def Lw.in0(l:Lw c m a d n):∀{t g y o p q} {b:Prop},a=t::o->d=g::p->n=y::q->(∀e,t=u3 g e->y=[e]->b)->(∀f h j k,m=f+1->t=lV g h->y=hc k->Lw c f h j k->(g,j)∈c->b)->b:=by
 induction l with
 |nil=>exactλe Z Z Z Z=>AV e|lf r=>exactλs v x z Z=>z _ ((hq v).1▸a5 (hq s).1) (hq x).1.symm|nd a m d=>exactλs v x Z C=>C _ _ _ _ Y ((hq v).1▸a5 (hq s).1) (hq x).1.symm a ((hq v).1▸m)
def Lw.inv{a:Prop}(j:Lw b k (t::n) (g::o)<|y::p)(l:∀c,t=u3 g c->y=[c]->a)(m:∀d e f h,k=d+1->t=lV g e->y=hc h->Lw b d e f h->(g,f)∈b->a):a:=j.in0 Y Y Y l m
def Lw.at_(h:Lw b d c e f):∀(k:O) a,c[k]?=J a->∃g y,e[k]?=J g/\f[k]?=J y/\Lw b d [a] [g] [y]:=by
 induction h with
 |nil=>intro k a e;exact aI e|lf r j=>intro k a e;induction k with
  |zero=>refine ax (aC e) ?_;exact⟨_,_,Y,Y, .lf .nil⟩|succ k=>exact j k a e
 |nd l m b _ j=>intro k a e;induction k with
  |zero=>refine ax (aC e) ?_;exact⟨_,_,Y,Y, .nd l m .nil⟩|succ k=>exact j k a e
def Lw.len(h:Lw d e a b c):U b=U a/\U c=U a:=h.rec ⟨Y,Y⟩ (λr f=>⟨aq I1 f.1,aq I1 f.2⟩) λa m b Z f=>⟨aq I1 f.1,aq I1 f.2⟩
def B2(h:dg s=dg t):s=t:=by
 unfold dg at h;rw [Ht,Ht] at h;injection h with h
 exact String.toList_inj.mp<|Qr (λa b h=>Yc.mp h)|>.mp (aq cR h)
def toPs_sV:∀{a},toPs (toP<|n+1) (sV a)=J (a.map λs=> .str<|dg s):=by intro a;exact a.rec Y λx r b=>aq (b7 _) b
def XB:sL (.str<|dg x) (.str<|dg y)=decide (x=y):=by show(dg x==dg y)=_;rw [p1,mx,ru];exact⟨B2,aq _⟩
def aki:∀{b a:aa bo},PV (b.map λs=> .str<|dg s) (a.map λs=> .str<|dg s)=decide (b=a):=by
 intro b
 induction b with
 |nil=>intro a;cases a<;>rfl|cons x r c=>intro a;induction a with
  |nil=>rfl|cons y s=>refine((W c<|W XB ?_):(sL _ _&&PV _ _)=_);rw [p1];refine W (wB ..) ?_;rw [mx,mx,mx,Dm]
def XG(h:sV a=sV b):a=b:=Qr (λa b e=>by cases e;rfl)|>.mp h
def ac9(h:wK x=wK y):x=y:=by
 injection h with h
 injection h with a h
 injection h with b _
 injection a with a
 injection b with b
 exact qo a<|XG b
def ad1:nr (wK x) (t7 a)=J (decide (x∈a)):=by
 have b {x:bo×aa bo}:gz (wK x)=true:=by show(Q&&cP (sV x.2) _&&Q:bc)=Q;exact W (ak gT λv c=>by obtain⟨s,_,rfl⟩:=mm c;rfl:cP (sV x.2) _=Q) Y
 exact F4 (λZ=>b) (λZ Z=>ac9) mx
end
open Zq.Lw renaming nil->qM
section
def Lw.FC(h:Lw e f [a] [g] [y])(c:b (bS u) d):y' a d b:=h.inv (λZ e Z=>W e c) λZ Z Z Z Z e Z Z Z=>W e c
def Lw.hd(h:Lw e f [a] [g] [y])(c:b (aG g) d):ko a (ag 0) d b:=h.inv (λZ e Z=>W e<|bJ Y Y c) λZ Z Z Z Z e Z Z Z=>W e<|bJ Y Y c
def Xa{D:gj}(h:a (aN<|sV [b]) c):aK (n+1) 287 [gS D,u3 k b] c a d:=a6 FD (.c 115 _ (.c 71 _ ar)) Y Y<|lC (λZ=>bJ Y Y<|bJ Y Y<|aV de λe s f=>jb f 0 Y h) λz=>ay Y z
def aiL(f:Lw e o a h b)(p:(l,h)∈e)(q:U h<=3)(m:U (hc b)<=100)
 (r:∀c g y d (j:QT) n,Lw e o [c] [g] [y]->U y<=100->j (aN<|sV y) d->aK s 287 [gS e,c] d j n)
 (k:j (aN<|sV<|hc b) d):aK (s+1) 287 [gS e,lV l a] d j n:=by
 have t {v:QT} (k:∀x,x=u->v (bS x) d):dH (eX (U (aG l::a):O) 2) (ko (lV l a) (ag 1) d<|Zo yq v) (v (bS<|eX (U (aG l::a):O) 2) d):=by
  refine lC (λz=>?_) λz=>k _ (W pB<|gn z)
  induction a with
  |nil=>exact ay (eI z) (by show¬0+1=2;decide)|cons c C=>exact gw (f.at_ 0 c Y) λg y H I L=>bJ Y Y<|L.FC<|k _ Y
 refine a6 FD (.c 115 _ (.c 71 _ ar)) Y Y<|t λx N=>ef (λz=>bU<|N▸z) λX=>bJ Y Y<|AR (mK 1 _)<|cb (c:=a) Y ?_;have j:=f.len;refine wu de (λn o s=>s=bO/\o=sV (aF n h)) ⟨Y,Y⟩ (λX X X X X X X X=>rfl) (λn x o d C s t z N t z À X=>?_) (cg<|ae (j.1▸q)<|ao Y) λC o d s z t=>?_
 .refine gw (f.at_ n x N) λg y H I L=>?_;obtain⟨rfl,rfl⟩:=t;exact L.hd<|À _ s bO z ⟨Y,by refine W (fQ H)<|ax tJ ?_;rfl⟩
 obtain⟨rfl,rfl⟩:=t;rw [<-j.1,dI] at z;have q {v:bc->Prop} (o:v Q):mW (wK (l,h)) (gS e) s v:=by refine W q8 (?_:bE (nr _ (t7 e)) v);simp only [ad1,eV p];exact o
 refine hF z<|q<|aV z λx s z=>AR (mK 1 _) ?_;have z:=z.pk [1] 2 (by decide) (by decide);refine cb Y<|cv (λn=>(show a[n]?=b7 id (a[n]?) by refine W Option.map_id ?_;rfl)) (λX (x:O) _=> .c 115 _ (.c 71 _ (.c 94 (aj x) ar))) (λX x (Z:aa bo)=> .c x (az<|sV Z) bO) (λn X Z=>Z=hc (aF n b)) x [] z Y (λX X X X X=>rfl) (λn c x Z s v N d z C=>?_) λx Z s d z=>?_
 .refine gw (f.at_ n c N) λg y H I L=>?_;have t:hc b=hc (aF (n+1) b)++hc (cq _ b):=ax ua<|W (wR ..) Y;have i:hc (aF _ b)=Z++y:=W (fQ I)<|W ua<|W d<|aq _ (dw _);rw [t,i,a4,a4] at m;exact r c g y s _ _ L (ae (ae (mK _ _)<|dO _ _) m) (hF z<|⟨W gm<|W gm<|bT<|cg<|ae (ae (dO _ _) m)<|ao Y,aV z λe s z=>C e _ s i.symm ((tJ▸z).pk [1] 2 (by decide)<|by decide)⟩)
 .rw [<-j.2,dI] at d;subst d;exact jb z 0 Y k
def aiF(f:∀x∈c,U x.2<=3):∀d {t:ai} {g} {y} {a} {b} {e},Lw c d [t] [g] [y]->U y<=100->b (aN<|sV y) a->aK (n+d+1) 287 [gS c,t] a b e:=Nat.rec (λh l j=>h.inv (λk m o=>W m<|Xa<|o▸j) λZ Z Z Z z Z Z Z Z=>wC z) λd p=>λh l j=>h.inv (λk m o=>W m<|Xa<|o▸j) λq r s v z m o C H=>W m<|aiL (fZ z▸C) H (f _ H) (o▸l) (λI g y a b e L k q=>p L k q)<|o▸j
def XX{b:QT}(h:b (r5 k a) c):aK (n+2) 21 [ag k,ag a.aY,aR<|iV a.aQ,ag a.Th] c b d:=by refine jL Y Y λa e=>?_;have f:=de.hO (o:=cw 21 ar) e;exact a6 KM (.c 64 _ (.c 168 _ (.c 40 _ (.c 123 _ (.c 236 _ (.c 146 bk _)))))) Y Y<|bP f Y λs f=>bP f Y λs f=>bP f Y λs f=>bP f Y λs f=>bP f Y λs f=>bP f Y λs f=>bP f Y λs f=>bf ⟨Y,EL f 0 Y h⟩
def als{a:QT}(h:a (ag<|Z4 c b) d):aK (n+1) 308 [aR<|iV b,ag c] d a e:=by
 refine a6 KS (.c 123 _ (.c 317 _ ar)) Y Y<|cb Y<|cv d8 (λk Z Z=> .c 123 _ (.c 317 _ (.c 94 (ag<|(aF k b).foldl (So c)<| -1) ar))) (λZ Z Z=>bO) (λZ Z Z=>bh) () () de a3 (λZ Z Z Z Z=>rfl) (λk x Z Z s f g Z j l=>?_) λZ Z s Z j=>?_
 .have l:=l () () s a3 j;rw [zJ g] at l;unfold So at l;refine ef (λe=>?_) λe=>?_
  .rw [e] at l;exact l
  .rw [e] at l;exact l
 .exact W dI<|mG j 0 Y h
def aio:∀{a} {k},mF k (a++[x])=mF k a++dJ (U x.aQ+1) (k+U a):=by intro a;refine @(a.rec (dw _) λy t b=>?_);intro k;refine(?_:dJ _ k++mF _ (t++[x])=dJ _ k++mF _ t++_);simp only [b,dy,hS,cA,eT 1]
def ahn:∀{a} {o k},uX o (a++[x])=uX o a++[o+U (mF k a)]:=by intro a;refine @(a.rec Y λy t b=>?_);intro o k;refine(?_:o::uX _ (t++[x])=o::uX _ t++[o+U (dJ _ k++mF _ t)]);simp only [b (k:=k+1),a4,ig,cA o];rfl
def acH:∀{a} {k},jX s k (a++[x])=jX s k a++aD (aE x.aY s) [k+U a] []:=by intro a;refine @(a.rec Y λy t b=>?_);intro k;refine(?_:aD _ (k::jX s _ (t++[x])) (jX s _ (t++[x]))=aD _ _ _++_);simp only [b,hS,cA,eT 1];cases aE y.aY s<;>rfl
def ui(m)(a):=(e1 m).map λs=>jX s 0 a
structure GA where
g:O
nm:O
rl:O
lv:O
bl:O
WL:O
ow:O
noncomputable def Ws(G:Gr)(a:GA)(r:aW):aW:= .c 112 (aj a.nm)<| .c 317 (ag G.nT)<| .c 124 (aj a.rl)<| .c 165 (aj a.lv)<| .c 158 bk<| .c 129 (ag G.iU) r
def z4(G:Gr)(a:GA)(c:aa O)(e:O)(b:aa Ru)(r:aW):Cs:= .c a.g (cw 190<|Ws G a<| .c 195 (aj a.bl)<| .c 210 (aj a.WL)<| .c 169 (aj a.ow) r)
 (.c a.nm (az<|sV G.cI)<| .c a.rl (az<|nk 0 G.a9)<| .c a.lv (dC [] e)<| .c a.bl (az<|fO c)<| .c a.WL (az<|iV<|uX 0 b)<| .c a.ow (az<|iV<|mF 0 b)<|hA c<|ui G.nS b)
def afB:ui m []=dJ m []:=af (List.map_const' ..)<|W fi Y
def aat(h:Fr l m a)(k j)(e:a.at k=J (b,az c))(n:a.at j=J (d,az f))(o:d≠b)(p:U c+U f<=cu)(q:∀g,Fr l g (a.g9 k<|az<|c++f)->r bk g):lG j3 (aj b) (aj d) m r:=W pV<|bW h k e<|bW h j n ⟨⟨p,λz=>o<|by cases z;rfl⟩,q _ (h.upd e _)⟩
def R8:iV a++iV b=iV (a++b):=by unfold iV;exact W dq Y
def ahg:∀{a} {k},U (jX s k a)<=U a:=by
 intro a;refine @(a.rec (bb _) λy t b=>?_);intro k;refine(?_:U (aD _ (k::jX s _ t) _)<=_);cases aE y.aY s with
 |true=>exact b2 b|false=>exact hI b
def abS:∀{a} {k},(∀r∈a,U r.aQ<=3)->U (mF k a)<=4*U a:=by intro a;refine @(a.rec (λZ=>bb _) λy t b=>?_);intro k h;exact W a4<|W ig<|W (Nat.mul_succ ..)<|W (eT ..)<|d2 (b λr c=>h r<|cy _ c)<|b2<|h y b8
def ad2{m:O}{x:O}:dJ (cK<|(m:au)+1) (ag x)=iV (dJ (m+1) x):=by unfold iV;exact W I4 Y
def agC{d rl f e}(g:GW b)(a:Fr j m<| .c d (az<|sV b.cI)<| .c rl (az<|nk 0 b.a9)<| .c f (dC [] e) bO)
 (h:∀k c l,U c=b.nS->Fr j l (z4 b k c e b.a9<| .c 272 (ag<|U b.hX) ar)->n (aj k.g) l):
 aK (o+2) 190 [aj d,ag b.nT,aj rl,aj f,bk,ag b.iU] m n p:=by
 refine jL Y Y λq r=>?_;have a:=(a.hO (o:=cw 190 ar) r).bN;refine a6 Py (.c 64 _ (.c 112 _ (.c 317 _ (.c 124 _ (.c 165 _ (.c 158 bk<| .c 129 _ ar)))))) Y Y<|bP a Y λs a=>bP a Y λs a=>bP a Y λs a=>bP a Y λs a=>bP a Y λs a=>bP a Y λs a=>ej a<|cb (a.lt 1 Y)<|wu a (λk t v=>∃c,U c=k/\t=fO c/\v= .c q (cw 190<|Ws b ⟨q,d,rl,f,0,0,0⟩ ar) (.c d _ (.c rl _ (.c f _ (hA c<|dJ k []))))) ⟨[],Y,Y,Y⟩ (λk t v x o s a y=>by obtain⟨c,_,_,rfl⟩:=y;exact a.lt 1 Y) ?_ ?_ ?_
 .refineλk z t v x s C H I y a L N=>aV a λZ s a=>?_
  obtain⟨c,l,rfl,rfl⟩:=y;refine L _ s _ a.EV ⟨c++[Z],?_,?_,W Gv<|ax (BM<|by rw [l,ig]) Y⟩
  .rw [a4,l];rfl
  .unfold fO;exact W dq Y
 .exact W gm<|cg<|ae g.nS<|ao Y
 intro x t v s a y;obtain⟨c,l,rfl,rfl⟩:=y;rw [gm] at l a;have a:=a.bN;refine d3 a 1 Y Y (bl Y) λs a=>aV a λo s a=>?_;have a:=a.bN;refine d3 a 2 Y Y (bl Y) λs a=>aV a λv s a=>?_;have a:=a.bN;refine d3 a 3 Y Y (bl Y) λs a=>?_;have m:dJ b.nS []=ui b.nS []:=a5 afB;have a:=a.pk [3,4,5,6,2,1,0] 7 (ao Y)<|ao Y;have a:Fr j s (z4 b ⟨q,d,rl,f,x,o,v⟩ c e [] ar):=by unfold z4;exact ax m a
 refine ej a<|cb (a.lt 2 Y)<|cv xy (λX X X=> .c 64 _ ar) (λk X X=>z4 b ⟨q,d,rl,f,x,o,v⟩ c e (aF k b.a9) ar) (λX X X=>bh) () () a a3 (λX X X X a=>a.lt 2 Y) (λk n X X s p r X a C=>?_) λX X s X a=>?_
 .have C:=λs=>C () () s a3;rw [fQ r] at C;have H:=ae (bT<|gl r) g.oV;have rl:=g.lt n<|aO r;have I:U (aF k b.a9)=k:=W dS<|gf<|bT<|gl r;have N:=g.yx n<|aO r;have t:U (mF 0 _)<=40:=ae (abS λL r=>g.yx L<|BW r)<|W I<|ky 4 H;generalize aF k b.a9=j at a C I t;have m:∃Z,c[n.aY]?=J Z:=cM _<|bM<|l▸rl.1.2;obtain⟨Z,m⟩:=m;have p:(ui b.nS j)[n.aY]?=J (jX n.aY 0 j):=by unfold ui;simp only [cf,wg rl.1.2];rfl
  refine aM a 0 Y<|dc a 4 Y (rR m)<|cH a (n.aY+7) (pg m p)<|dD a (n.aY+7) (pg m p) (by rw [du];exact cg<|ae ahg<|by rw [I];exact ae H<|by decide) λs a=>aM a 0 Y<|cH a 5 Y<|aM a 0 Y<|bW a 6 Y<|dD a 5 Y (by simp only [du,l!,I];exact cg<|ae H<|by decide) λs a=>aM a 0 Y<|MC a 6 Y<|aV a λg s a=>?_;have a:=a.bN;refine hF a<|⟨⟨Y,Int.le_add_one<|cj _,by rw [du];exact bT<|cg<|ae (b2 N)<|ao Y⟩,?_⟩;simp only [du,ad2];refine aV a.tl λr s a=>?_;have a:=a.bN;refine aat a 7 0 Y Y ((a V).2.2.1 6 _ _ Y).symm (by simp only [du,du,ig];exact bT<|cg<|ae (d2 t<|b2 N)<|ao Y) λs a=>C s ?_;have a:=a.tl;unfold z4;have L {m:O} {z:Ru} {j:aa Ru} (h:z.aY<m):ui m (j++[z])=c5 (ui m j) z.aY (jX z.aY 0 j++[U j]):=by
   refine Em λy=>W (Aj)<|W (bB ..)<|W fi<|W (cf)<|W (cf) ?_
   by_cases Z:y<m
   .refine W (wg Z) ?_;show J (jX y 0 _)=_;refine W acH<|W (eF ..) ?_
    by_cases e:z.aY=y
    .exact ax e<|W (aJ Y)<|W (aJ h)<|W (fJ ..) Y
    .exact W (aS e)<|W (ak UA λg=>e (eb g):aE z.aY y=u)<|aq J<|dw _
   .refine W (iu<|by rw [fi];exact j5 Z)<|W (aS λe:z.aY=y=>Z<|e▸h) ?_;rfl
  simp only [L rl.1.2,ahn (k:=0),aio,<-Gq,<-R8,<-R8,<-R8,eF,eF,I];rw [du] at a;exact a
 .rw [dI] at a;exact aM a 0 Y<|bW a 6 Y<|d3 a 0 Y Y (bl Y) λs a=>bf ⟨Y,bf<|h ⟨q,d,rl,f,x,o,v⟩ c s l<|du▸a⟩
def xG(a):=fR (bw a) (∀x∈a,x∈p8++["a","b","c"])<|∃r,a=p8++r
def TN(h:x∈e3):x∈p8++["a","b","c"]:=by
 have a:∀x∈e3,x∈p8++["a","b","c"]:=by decide+kernel
 exact a x h
def SI(g:a=["s","t"]\/a=["s","t","u"])(h:x∈p8++["a","b","c"]):x∉a:=by
 have b:∀x∈p8++["a","b","c"],x∉["s","t"]/\x∉["s","t","u"]:=by decide+kernel
 rcases g with rfl|rfl
 .exact(b x h).1
 .exact(b x h).2
def Ů{q:aa bo}:∀{a},xG a->(∀x∈q,x∈e3++b)->xG (q.foldl (nO b) a)/\(∀x∈a,x∈q.foldl (nO b) a)/\∀x∈q,x∈q.foldl (nO b) a\/x∈b:=by
 refine @(q.rec (λt Z=>⟨t,λZ h=>h,λZ h=>bG h⟩) λx r c=>?_);intro a t h;have d (h:x∈e3++b):xG (nO b a x)/\(x∈nO b a x\/x∈b):=by
  unfold nO;cases e:b6 b x with
  |true=>exact br t<|aw<|gv.mp e|false=>
   cases f:b6 a x with
   |true=>exact br t<|aL<|gv.mp f|false=>
    have g:x∉b:=λz=>by rw [ak gv z] at e;exact bU e
    have j:x∉a:=λz=>by rw [ak gv z] at f;exact bU f
    refine⟨bZ (ak n5 ⟨t V,BJ _ _,λy k z l e=>j ?_⟩) (λy k=>aP (ma k) ((t J1) y) λz=>W (ms z)<|TN<|aP (ma h) id λz=>ay z g) ?_,aL<|fy _ hf⟩
    .simp only [<-ms l,<-e];exact k
    .obtain⟨r,rfl⟩:=t J2;exact⟨r++[x],dy ..⟩
 have s:=d<|h x b8;have m:=c s.1 λy k=>h y<|cy _ k;refine⟨m.1,λy k=>m.2.1 y<|(by
  unfold nO;cases b6 b x with
  |true=>exact k|false=>cases b6 a x with
   |true=>exact k|false=>exact gI _ k),λy k=>?_⟩
 rcases mc k with rfl|k
 .exact Ow (m.2.1 y) s.2
 .exact m.2.2 y k
def ag2{ls}{D:gj}:∀{a},xG a->(∀q∈D,∀x∈q.2,x∈e3++ls)->xG (D.foldl (zc ls) a)/\(∀x∈a,x∈D.foldl (zc ls) a)/\∀q∈D,∀x∈q.2,x∈D.foldl (zc ls) a\/x∈ls:=by
 refine @(D.rec (λt Z=>⟨t,λZ h=>h,λZ h=>bG h⟩) λq r b=>?_);intro a t h;have s:=Ů t<|h q b8;have c:=b s.1 λy d=>h y<|cy _ d;refine⟨c.1,λy d=>c.2.1 y<|s.2.1 y d,λy d x e=>?_⟩;rcases mc d with rfl|d
 .exact Ow (c.2.1 x)<|s.2.2 x e
 .exact c.2.2 y d x e
def afl:xG p8:=bZ (by decide+kernel) (λx h=>gI _ h) ⟨[],Y⟩
def cU.tm(g:cU a b):xG (hi a b)/\∀q∈b,∀x∈q.2,x∈hi a b\/x∈a:=
 have c:=ag2 afl λq d=>((g J1) V q d).2.2
 ⟨c.1,c.2.2⟩
def cU.uR(g:cU a b):bw a/\U a<=3/\"s"∈a/\"$accept"∉a:=by rcases(g V) with rfl|rfl<;>decide+kernel
def cU.Ue(g:cU a b):bw (eH a b):=by
 have t:=g.tm.1;have l:=g.uR;refine ak n5 ⟨ak n5 ⟨t V,BJ _ _,λy c z d e=>?_⟩,l.1,λy c z d e=>?_⟩
 .have f:=(t J1) y c;rw [e,ms d] at f;revert f;decide+kernel
 .subst e;rcases ma c with h|h
  .exact SI (g V) ((t J1) y h) d
  .exact l.2.2.2<|ms h▸d
def cU.t6(g:cU a b):U (hi a b)<=6:=Rb (g.tm.1 V)<|g.tm.1 J1
def cU.t3(g:cU a b):3<=U (hi a b):=by refine bp (g.tm.1 J2) λr e=>?_;simp only [e,a4];exact dO 3 _
def I6:U (eH a b)=U (hi a b)+1+U a:=by unfold eH;simp only [a4,a4];rfl
def pj(h:x∈a):g8 x a=J (jU a x)/\a[jU a x]?=J x:=by refine bp (Jq.mp<|ak gv h) λb e=>?_;unfold jU;exact W e<|⟨Y,BE e⟩
def cU.wj(g:cU b a)(h:q∈a):q.1∈eH b a/\∀x∈q.2,x∈eH b a:=
⟨fy _ ((g J1) V q h).1,λx c=>aP (g.tm.2 q h x c) (λz=>gI _ (gI _ z)) λz=>fy _ z⟩
def cU.AJ(g:cU a b):"s"∈eH a b:=fy _ g.uR.2.2.1
def LZ:(eH a b)[U<|hi a b]?=J "$accept":=by unfold eH;refine W (dy ..)<|W (h8<|bb _)<|W (ql ..) ?_;rfl
def LQ(g:cU a b)(h:(eH a b)[d]?=J l)(c:l∈a):U (hi a b)<d:=by
 refine zF λq=>?_;rcases DJ q with q|rfl
 .unfold eH at h;rw [dy,hh q] at h;exact SI (g V) ((g.tm.1 J1) l<|aO h) c
 .rw [LZ] at h;exact g.uR.2.2.2<|W (aC h) c
def C2(g:cU b c){a:O}(h:p8[a]?=J x):(eH b c)[a]?=J x:=by refine bp (g.tm.1 J2) λr e=>?_;unfold eH;exact W e<|W (dy ..)<|W (dy ..)<|W (hh<|gl h) h
def L5(h:x∈a):jU a x<U a:=gl (pj h).2
def cU.sym(g:cU b a)(h:q∈a)(c:y∈R (jU<|eH b a) q.2):y<U (eH b a)/\y≠0/\y≠U (hi b a):=by
 obtain⟨x,d,rfl⟩:=mm c;have e:=pj<|(g.wj h).2 x d;have f:∀y∈e3++["s","t","u"],y≠"$end"/\y≠"$accept":=by decide+kernel
 have j:=f x (by
  rcases ma (((g J1) V q h).2.2 x d) with z|z
  .exact gI _ z
  .refine fy _ (aP (g V) (λk=>?_) λk=>?_)
   .rw [k] at z;exact gI ["u"] z
   .rw [k] at z;exact z)
 refine⟨L5<|(g.wj h).2 x d,λk=>?_,λk=>?_⟩
 .rw [k,C2 g Y] at e;exact j.1 (aC e.2).symm
 .rw [k,LZ] at e;exact j.2 (aC e.2).symm
def OS(h:(gy b a).a9[k+1]?=J r):∃q∈a,a[k]?=J q/\r=A6 (eH b a) (U<|hi b a) q:=by have h:(R _ a)[k]?=J r:=h;rw [cf] at h;obtain⟨q,e,rfl⟩:=fA h;exact⟨q,aO e,e,Y⟩
def cU.left(g:cU b a)(h:q∈a):U (hi b a)<jU (eH b a) q.1/\jU (eH b a) q.1<U (eH b a):=
⟨LQ g (pj (g.wj h).1).2 ((g J1) V q h).1,L5 (g.wj h).1⟩
def cU.gx(g:cU b a):GX (gy b a) where
 nS:=by show U (eH b a)<=12;exact W I6 (ae (d2 (b2 g.t6) g.uR.2.1)<|ao Y)
 nT:=by show U (hi b a)<U (eH b a);simp only [I6,cA];exact NW (W! EI _)
 t3:=g.t3
 oV:=by show U (_::R _ a)<=10;simp only [hS,bB];exact b2 ((g J1) J3)
 lt:=λr c=>by
  rcases mc c with rfl|c
  .refine⟨⟨bb _,?_⟩,λy d=>?_⟩
   .show U (hi b a)<U (eH b a);simp only [I6,cA];exact NW<|W! EI _
   .rcases mc d with rfl|d
    .exact L5 g.AJ
    .exact W (ms d)<|gl<|C2 g Y
  .obtain⟨q,e,rfl⟩:=mm c;exact⟨⟨bT (g.left e).1,(g.left e).2⟩,λy d=>(g.sym e d).1⟩
 yx:=λr c=>by
  rcases mc c with rfl|c
  .exact fh 2
  .obtain⟨q,e,rfl⟩:=mm c;exact W (bB ..) (((g J1) V q e).2.1)
 acc:=λr c z=>by
  rcases mc c with rfl|c
  .rcases mc z with z|z
   .exact fI (LQ g (pj g.AJ).2 g.uR.2.2.1) z
   .exact jt (cc (ao Y) g.t3)<|ms z
  .obtain⟨q,e,rfl⟩:=mm c;exact(g.sym e z).2.2 Y
 st:=LQ g (pj g.AJ).2 g.uR.2.2.1
 l3:=by show U (eH b a)<=U (hi b a)+4;simp only [I6,cA];exact d5 (d5 g.uR.2.1 1) _
 SJ:=W jC (ae (c6<|aq List.sum<|K1 λq Z=>((W (bB ..) Y):U (R _ q.2)-1=_))<|(g J1) J4)
 e0:=λk r h z=>by obtain⟨q,e,_,rfl⟩:=OS h;exact(g.sym e z).2.1 Y
 t6:=g.t6
 r0:=Y
 rs:=λk r h z=>by obtain⟨q,e,_,rfl⟩:=OS h;exact jt (g.left e).1 z
def cU.gp(g:cU b a):GP a (gy b a):=have c (d:∀k l e,a[k]?=J (l,e)->∃f,(Zq.gy b a).a9[k+1]?=J f/\(Zq.gy b a).cI[f.aY]?=J l/\e=R (F (Zq.gy b a).cI · "") f.aQ) (h:(Zq.gy b a).cI[(Zq.gy b a).iU]?=J "s") (j:(Zq.gy b a).cI[0]?=J "$end") (m:(Zq.gy b a).cI[1]?=J "error") (n:(Zq.gy b a).cI[2]?=J "$undefined") (nd:bw (Zq.gy b a).cI):GP a (Zq.gy b a):=kb (aq _ (bB ..)) d h j m n nd;c
 (λk l e h=>by
  have o:=aO h;have p:(R (jU<|eH b a)<|f9 (l,e)).map (F (eH b a) · "")=(f9 (l,e)):=by refine W jC<|af (K1 λx q=>?_)<|List.map_id _;refine((W (cY)<|W (pj<|(g.wj o).2 x q).2 ?_):F (eH b a) _ ""=x);rfl
  refine⟨A6 _ (U<|hi b a) _,?_,(pj (g.wj o).1).2,a5 p⟩;show(R _ a)[k]?=_;simp only [cf,h];rfl)
 (pj g.AJ).2 (C2 g Y) (C2 g Y) (C2 g Y) g.Ue
def cU.pre(g:cU a b):AY (gy a b):=λk c h=>by
 have e:F (gy a b).cI c.aY ""="$accept"\/F (gy a b).cI c.aY ""∈["s","t","u"]:=by
  induction k with
  |zero=>refine ax (aC h)<|aL<|W (cY)<|W LZ ?_;rfl|succ k=>
   obtain⟨q,d,_,rfl⟩:=OS h;refine aw<|W (cY)<|W (pj (g.wj d).1).2 ?_;have f:=((g J1) V q d).1;refine aP (g V) (λe=>?_) λe=>?_
   .rw [e] at f;exact gI ["u"] f
   .rw [e] at f;exact f
 rcases e with e|e
 .refine W e ?_;decide+kernel
 .have f:∀x∈["s","t","u"],("$@".toList.isPrefixOf<|hN x)=false:=by decide+kernel
  exact f _ e
def acR:∀{a} {k},nk k (a++[r])=nk k a++[r5 (k+U a) r]:=by intro a;refine @(a.rec Y λy t b=>?_);intro k;refine(?_:r5 k y::nk _ (t++[r])=r5 k y::(nk _ t++_));simp only [b,hS,cA,eT 1]
def aak{b a:aa bo}:eG (λx=>J<|ag<|jU b x) a=iV (R (jU b) a):=by unfold iV;exact W jC<|qG B7 a
def aa8(c:p a)(h:d a=J (az b)):kW p d (m+1) (aj a) (aN b):=
aw (aw<|aw ⟨a,Y,c,aL ⟨b,b,h,Y,j6 (λZ=>dQ m _) _⟩⟩)
def Ts:∀(D:gj) {a},U (D.foldl oC a)<=U a+U D:=by
 refine jd (bb _) λx r b=>?_;intro a;refine ae b<|W hS<|ax (cA ..)<|W (jN ..)<|f6 ?_ _;unfold oC;cases b6 a x.1 with
 |true=>exact fh _|false=>exact c6 a4
def Zi:∀{a},U (b.foldl (nO c) a)<=U a+U b:=by
 refine @(b.rec (bb _) λx r d=>?_);intro a;refine ae d<|W hS<|ax (cA ..)<|W (jN ..)<|f6 ?_ _;unfold nO;cases b6 c x with
 |true=>exact fh _|false=>cases b6 a x with
  |true=>exact fh _|false=>exact c6 a4
def Ĺ{ls}{D:gj}:∀{a},(∀q∈D,U q.2<=3)->U (D.foldl (zc ls) a)<=U a+3*U D:=by refine @(D.rec (λZ=>bb _) λx r b=>?_);intro a h;refine ae (b λq c=>h q<|cy _ c) ?_;exact ae (f6 (ae Zi<|d5 (h x b8) _) _)<|c6 (jN _ 3 (3*U r):_=_+3*U r+3)
def alc(a:l="s"\/l="t"\/l="u")(c:K u):mW (aG<|qE<|aF 1<|hN l) (aR [aG "",aG "$",aG "'"]) b K:=by refine W q8 ?_;unfold Mc;refine((W (MJ ..) ?_):bE (nr _ (sV ["","$","'"])) K);rcases a with rfl|rfl|rfl<;>exact c
section
variable{c:O}{a:aT}{b:QT}{d:aT->Prop}{ls:aa bo}{D:gj}
def akD(g:cU ls D)(h:b (gy ls D).V a):aK (c+5) 309 [gS D,aG "s"] a b d:=by
 refine a6 Qe (.c 115 _ (.c 129 _ ar)) Y Y<|aV de λe s f=>cb Y<|cv d8 (λX X X=> .c 115 _ _) (λk X X=> .c e (az<|sV<|(aF k D).foldl oC []) bO) (λk X X=>bh) () () f a3 (λX X X X X=>rfl) (λk q X X s j l X f m=>?_) λX X s X f=>?_
 .have m:=λs=>m () () s a3;rw [zJ l] at m;have n (h:q∈D):q.1="s"\/q.1="t"\/q.1="u":=by
   have o:=((g J1) V q h).1;rcases(g V) with rfl|rfl<;>simp at o
   .rcases o with h|h
    .exact aL h
    .exact aw<|aL h
   .exact o
  have p:=n<|aO l;obtain⟨r,t⟩:=q;have v:U ((aF k D).foldl oC [])<=9:=ae (Ts _) (by simp only [RJ,eF];exact ae (lA ..)<|(g J1) J3);generalize (aF k D).foldl oC []=x at f m v;refine rW (λe=>?_) λX=>?_
  .exact ay p (by refine W (e:(r,t).1="error") ?_;decide)
  .refine⟨⟨Y,Y⟩,alc p<|vV f 0 Y<|jh<|ef (λe=>m s ?_) λe=>?_⟩
   .unfold oC;exact W e f
   .refine cH f 0 Y<|dD f 0 Y (W gm<|cg<|ae v<|ao Y) λs f=>m s ?_;unfold oC;exact W e<|ax tJ f
 .rw [dI,(g J1) J2] at f;have y:b6 ls "s"=true:=by rcases(g V) with rfl|rfl<;>rfl
  refine br rfl<|vV f 0 rfl<|W y<|aV f λz s f=>?_;have f:=f.bN;refine cb Y<|cv d8 (λX X X=> .c 115 _ (.c 106 _ (.c 82 _ (.c 112 _ ar)))) (λk X X=> .c z (az<|sV<|(aF k D).foldl (zc ls) p8) _) (λk X X=>bh) () () f a3 (λX X X X X=>rfl) (λk q X X s j l X f m=>?_) λX X s X f=>?_
  .have m:=λs=>m () () s a3;rw [zJ l] at m;obtain⟨r,t⟩:=q;have v:U ((aF k D).foldl (zc ls) p8)<=30:=ae (Ĺ λq l=>((g J1) V q<|BW l).2.1)<|d5 (ky 3<|ae (lA ..)<|(g J1) J3) 3;generalize (aF k D).foldl _ p8=x at f m v;refine cb Y<|cv d8 (λX X X=> .c 115 _ _) (λC X X=> .c z (az<|sV<|(aF C t).foldl (nO ls) x) _) (λk X X=>bh) () () f a3 (λX X X X X=>rfl) (λC H X X s j I X f m=>?_) λX X s X f=>?_
   .have m:=λs=>m () () s a3;rw [zJ I] at m;have v:=ae (Zi (c:=ls) (b:=aF C t))<|d2 v<|ae (lA ..)<|((g J1) V _ (aO l)).2.1;generalize (aF C t).foldl _ x=x at f m v;refine vV f 1 Y<|s' (λe=>m s<|by unfold nO;exact W e f) λe=>vV f 0 Y<|jh<|ef (λL=>m s<|by unfold nO;simp only [e,L];exact f) λL=>cH f 0 Y<|dD f 0 Y (W gm<|cg<|ae v<|by decide) λs f=>m s ?_;unfold nO;simp only [e,L];exact ax tJ f
   .rw [dI] at f;exact m s f
  .rw [dI] at f;have N:U (hi ls D)<=30:=ae (Ĺ λq l=>((g J1) V q l).2.1)<|d5 (ky 3<|(g J1) J3) 3;refine hF f<|HI gm<|aV f λZ s f=>hF f<|bW f 2 Y ⟨W gm<|bT<|cg<|ae (f6 N _)<|ao Y,aV f λo s f=>bW f 3 Y<|bW f 1 Y ⟨by simp only [a4,gm,gm];exact bT<|cg<|ae (d2 (f6 N _) g.uR.2.1)<|ao Y,aV f λn s f=>?_⟩⟩;have f:Fr a s (.c n (az<|sV<|eH ls D) bO):=by have f:=f.pk [4] 5 (ao Y)<|ao Y;unfold eH;rw [<-tJ,<-tJ];exact f
   refine Ez f 0 Y<|D8 f 0 Y (pj g.AJ).1<|XX (a:=⟨U<|hi ls D,[jU _ "s",0],0⟩)<|aV f λrl s f=>?_;have f:=f.bN;refine cb Y<|cv d8 (λX X X=> .c 115 _ (.c 82 _ (.c 112 _ (.c 88 (ag<|U<|hi ls D)<| .c 124 _ ar)))) (λk X X=> .c rl (az<|nk 0<|⟨U<|hi ls D,[jU _ "s",0],0⟩::(aF k D).map (A6 (eH ls D)<|U<|hi ls D)) _) (λk X X=>bh) () () f a3 (λX X X X X=>rfl) (λk q X X s j l X f m=>?_) λX X s X f=>?_
   .have m:=λs=>m () () s a3;rw [fQ l,dq,List.map_singleton,<-KZ,acR] at m;have p:=g.wj<|aO l;have y:U ((⟨U<|hi ls D,[jU (eH ls D) "s",0],0⟩:Ru)::(aF k D).map (A6 (eH ls D)<|U<|hi ls D))<=10:=by simp only [hS,bB];exact b2<|ae (lA ..)<|(g J1) J3
    generalize _::(aF k D).map _=r at f m y;refine cb Y<|iZ d8 (λH=>J<|ag<|jU (eH ls D) H) f (λX X X X=>rfl) (cg<|ae (((g J1) V _ (aO l)).2.1)<|ao Y) (λC H X X s z x I f v L=>?_) λZ s f=>?_
    .exact Ez f 1 Y<|D8 f 1 Y (pj<|p.2 H<|aO I).1<|v _ s Y f
    .rw [aak] at f;have f:=f.bN;exact hF f<|cH f 1 Y<|bW f 1 Y<|Ez f 2 Y<|D8 f 2 Y (pj p.1).1<|als<|W K7<|XX (a:=A6 _ (U<|hi ls D) _)<|dD f 1 Y (W K7<|cg<|ae y<|ao Y) λs f=>m s<|W (eF ..) f.tl
   .rw [dI] at f;refine m7 f λq e s f=>Ez f 1 Y<|D8 f 1 Y (pj g.AJ).1 ?_;have f:=f.pk [1,0,2] 3 (ao Y) (by decide);exact agC g.gx.toGW f λj N s o f=>(by
     have n:IZ (Zq.gy ls D)=(ui (Zq.gy ls D).nS (Zq.gy ls D).a9).map λH=>aN (iV H):=W jC Y;have L:∀{l} {t} k,(z4 (Zq.gy ls D) j N e (Zq.gy ls D).a9 _).at k=J (l,az t)->kW _ s 2 _ _:=λk h=>aa8 (f.e9 k h)<|f.c9 h;refine mG f 3 (aw<|aw<|aw ⟨j.g,Y,f.e9 0 Y,aw<|aw ⟨_,_,_,f.c9 (k:=0) Y,Y,⟨_,_,Y,L 1 Y,_,_,Y,dQ _ _,_,_,Y,L 2 Y,_,_,Y,?_,_,_,Y,dQ _ _,_,_,Y,dQ _ _,_,_,Y,?_,_,_,Y,L 5 Y,_,_,Y,L 6 Y,_,_,Y,dQ _ _,Y⟩⟩⟩) h
     .exact aw<|aw<|aw ⟨j.lv,Y,f.e9 3 Y,aw<|aL ⟨_,_,_,f.c9 (k:=3) Y,Y,nG⟩⟩
     .refine aw<|aw<|aw ⟨j.bl,Y,f.e9 4 Y,aL ⟨_,_,f.c9 (k:=4) Y,Y,W n<|Zt f 0 N _ ?_ λk H e=>cM (k+7) e⟩⟩;unfold ui;simp only [bB,fi];exact o)
end
abbrev fk:=bo×aa bo×O×O
def fw(x:fk):=aR [aG x.1,aR<|sV x.2.1,ag x.2.2.1,ag x.2.2.2]
noncomputable def iz(x:fk):fk:=(x.1,x.2.1,x.2.2.1+1,x.2.2.2)
noncomputable def f5(x:fk):=x.2.1[x.2.2.1]?
noncomputable def ug:fk:=("$",["s"],0,0)
class inductive Ea(D:gj)(em b:aa bo):O->fk->Prop
|st:Ea D em b 0 ug|pr {a x y o} (c:Ea D em b a x) (e:f5 x=J y) (m:(y,o)∈D):Ea D em b a (y,o,0,a)|sk {a x y} (c:Ea D em b a x) (e:f5 x=J y) (m:y∈em):Ea D em b a<|iz x|co {a x d} (c:Ea D em b a x) (e:U x.2.1<=x.2.2.1) (l:x.2.2.2<a) (f:Ea D em b x.2.2.2 d) (g:f5 d=J x.1):Ea D em b a<|iz d|sc {a x y} (c:Ea D em b a x) (e:f5 x=J y) (k:b[a]?=J y):Ea D em b (a+1)<|iz x
inductive Sd(D:gj)(em a:aa bo):O->fk->Prop
|st:Sd D em a 0 ug|sc {b x y} (c:Ea D em a b x) (e:f5 x=J y) (k:a[b]?=J y):Sd D em a (b+1)<|iz x
abbrev kg:=Ea D
def Sd.ea(s:Sd D em a b x):kg em a b x:=s.rec .st λa e k=> .sc a e k
def U4(D:gj)(a)(x:fk):=fR ((x.1,x.2.1)∈("$",["s"])::D) (x.2.2.1<=U x.2.1)<|x.2.2.2<=a
def FK(e:f5 x=J y):x.2.2.1<U x.2.1:=gl e
def Ea.u(a:kg em c b x):U4 D b x:=by
 induction a with
 |st=>exact bZ b8 (cQ _)<|cQ _|pr a e m _=>exact bZ (cy _ m) (cQ _)<|bb _|sk a e m d=>exact bZ (d V) (FK e)<|d J2|co a e l b f _ d=>exact bZ (d V) (FK f)<|ae (d J2)<|bT l|sc a e k d=>exact bZ (d V) (FK e)<|hI<|d J2
def Qh(c:U D<=9)(d:∀q∈D,U q.2<=3)(b:e<=9)(nd:bw L)(a:∀x∈L,U4 D e x):U L<=400:=by
 have f:∀q∈("$",["s"])::D,U q.2<=3:=λq h=>by
  rcases mc h with rfl|h
  .exact mK 1 2
  .exact d q h
 refine s_ (λx g=>∃k,(("$",["s"])::D)[k]?=J (x.1,x.2.1)/\g=(k*4+x.2.2.1)*10+x.2.2.2) nd (λx j=>?_) λx j y l g ⟨k,m,e⟩ ⟨n,o,p⟩=>?_
 .refine bp (gs.mp<|(a x j) V) λk m=>?_;exact⟨_,ic<|d2 (ry 10<|d2 (ry 4<|ae (lE<|gl m) c)<|ae ((a x j) J1)<|f _ ((a x j) V))<|ae ((a x j) J2) b,k,m,Y⟩
 .have r:=Iw (ic<|ae ((a x j) J2) b) (ic<|ae ((a y l) J2) b)<|af e.symm p;have b:=Iw (ic<|ae ((a x j) J1)<|f _ ((a x j) V)) (ic<|ae ((a y l) J1)<|f _ ((a y l) V)) r.1;rw [b.1] at m;rw [m] at o;have s:=aC o;exact qo (rN s).1<|qo (rN s).2<|qo b.2 r.2
def tK(y:bo)(a:O)(q:bo×aa bo):ba fk:=aD (nh q.1 y) (J (q.1,q.2,0,a)) A
def rH(y)(a):=decide (f5 a=J y)
def lj(D:gj)(b:aa bo)(c:aa<|aa fk)(a:O)(x:fk):aa fk:=match f5 x with
|some y=>eG (tK y a) D++aD (b6 b y) [iz x] []|none=>aD (dG x.2.2.2 a) ((p6 (rH x.1)<|F c x.2.2.2 []).map iz) []
noncomputable def gh(L)(x:fk):=aD (b6 L x) L<|L++[x]
def akK:y∈gh L x↔y∈L\/y=x:=by
 unfold gh;cases e:b6 L x with
 |true=>exact⟨aL,λh=>aP h id λz=>W z<|gv.mp e⟩|false=>exact jP pL<|or_congr_right qh
def afW(h:bw L):bw (gh L x):=by
 unfold gh;cases e:b6 L x with
 |true=>exact h|false=>exact ak n5 ⟨h,BJ _ _,λy a z b q=>bU<|ak gv ((ms b▸q)▸a)▸e⟩
def acC:∃r,gh L x=L++r:=by
 unfold gh;cases b6 L x with
 |true=>exact⟨[],a5<|dw _⟩|false=>exact cM ([x]) rfl
def Bj(D)(em a)(b:aa<|aa fk):=uJ<|∀c L,b[c]?=J L->(∀x,x∈L↔Ea D em a c x)/\bw L
def YH:z∈eG (tK y a) D↔∃o,(y,o)∈D/\z=(y,o,0,a):=by
 rw [y2];refine⟨λb=>aA b λq c e=>?_,λd=>aA d λo c e=>⟨_,c,?_⟩⟩
 .unfold tK at e;rw [wq] at e
  by_cases h:q.1=y
  .rw [eV h] at e;exact ax h<|⟨q.2,c,a5<|aC e⟩
  .rw [gn h] at e;exact aI e
 .unfold tK;simp only [wq,eV Y,e];rfl
def K4(D)(em b)(c)(S:aa fk)(a h)(L):=j4 (∀x∈S,x∈L) (bw L) (∀x∈L,Ea D em b a x) (∀j x,j<h->L[j]?=J x->∀z∈lj D em c a x,z∈L)<|h<=U L
def K4.step{S L}(k:K4 D em c b S a h L)(o:Bj D em c b)(e:U b=a)(d:L[h]?=J x):K4 D em c b S a (h+1) ((lj D em b a x).foldl gh L):=by
 have f {M:aa fk}:∀{L},(∀y,y∈M.foldl gh L↔y∈L\/y∈M)/\(bw L->bw (M.foldl gh L))/\∃r,M.foldl gh L=L++r:=by refine @(M.rec (λ{L}=>⟨λy=>⟨aL,λh=>aP h id λz=>bG z⟩,id,[],a5<|dw _⟩) λx t g=>?_);intro L;have a:=g (L:=gh L x);refine⟨λy=>jP (a.1 y) ?_,λh=>a.2.1<|afW h,bp a.2.2 λr j=>bp acC λs l=>⟨s++r,ax (dy ..)<|ax l j⟩⟩;rw [akK,qV,or_assoc]
 obtain⟨m,nd,r,j⟩:=f;have n:=gl d;have p {z:fk} (q:kg em c a x) (h:z∈lj D em b a x):kg em c a z:=by
  unfold lj at h;cases j:f5 x with
  |some y=>
   rw [j] at h;rcases ma h with h|h
   .obtain⟨o,m,rfl⟩:=YH.mp h;exact .pr q j m
   .cases v:b6 em y with
    |true=>rw [v] at h;exact W (ms h)<| .sk q j<|gv.mp v|false=>rw [v] at h;cases h
  |none=>
   rw [j] at h;cases v:dG x.2.2.2 a with
   |false=>rw [v] at h;cases h|true=>rw [v] at h;have v:=ho v;obtain⟨C,H,rfl⟩:=mm h;refine dK (sJ.mp H) λH l=>?_;have g:=bM<|e▸v;rw [cY,g] at H;exact .co q (tF.mp j) v ((((o V) _ _ g).1 C).mp H)<|ao l
 refine ec (λy I=>ak (m y)<|aL<|(k V) y I) (nd<|k J1) (λy I=>aP ((m y).mp I) ((k J2) y) λz=>p ((k J2) x<|aO d) z) (λN y Z I z t=>ak (m z) ?_) ?_
 .rw [j,hh<|cc Z n] at I;rcases DJ (lE Z) with v|rfl
  .exact aL<|(k J3) N y v I z t
  .rw [d] at I;exact W (aC I)<|aw t
 .simp only [j,a4];exact ae n<|dO _ _
def K4.fin{S L}(k:K4 D em b c S a h L)(o:Bj D em b c)(e:U c=a)(f:U L<=h)(d:∀x,Sd D em b a x->x∈S):∀x,x∈L↔kg em b a x:=by
 have g:=λx j z l=>bp (gs.mp j) λj m=>(k J3) j x (cc (gl m) f) m z l
 refineλx=>⟨(k J2) x,λn=>?_⟩
 have go:∀j x,kg em b j x->j=a->x∈L:=by
  intro j x n
  induction n with
  |st=>intro p;subst p;exact(k V) _ (d _ .st)|@pr j x y o n p m q=>intro r;subst r;refine g x (q Y) _ ?_;unfold lj;exact W p<|gI _ (ak YH ⟨_,m,Y⟩)|@sk j x y n p m q=>intro r;subst r;refine g x (q Y) _ ?_;unfold lj;exact W p<|fy _ (W (ak gv m) hf)|@co j x s n p l b f q _=>intro r;subst r;refine g x (q Y) _ ?_;unfold lj;refine W (show f5 x=A from iu p) ?_;refine W (show dG x.2.2.2 j=Q from xv l)<|ak jD ⟨s,ak sJ ⟨?_,eV f⟩,Y⟩;have g:=bM<|e▸l;refine W (cY)<|W g ?_;exact ak (((o V) _ _ g).1 s) b|@sc j x y t p v _=>intro r;subst r;exact(k V) _ (d _ (.sc t p v))
 exact go a x n Y
def RH(D)(em a)(b)(c):=fR (b<=U a) (∀j<b,∃x y,Ea D em a j x/\f5 x=J y/\a[j]?=J y)<|(b=U a/\(c=Q↔Ea D em a b (iz ug)))\/b<U a/\c=u/\∀x y,Ea D em a b x->f5 x=J y->a[b]?≠J y
section
open Classical
def afP:dU (eW a k v) x=if k=x then J v else dU a x:=by
 refine a.rec Y λe t b=>(?_:dU (if e.1=k then _::t else e::eW t k v) x=if k=x then J v else if e.1=x then J e.2 else dU t x)
 by_cases q:e.1=k
 .refine W (aJ q) (?_:(if e.1=x then J v else dU t x)=_);refine W q ?_
  by_cases z:k=x
  .exact W (aJ z)<|W (aJ z) Y
  .exact W (aS z)<|W (aS z)<|W (aS z) Y
 .refine W (aS q) ((W b ?_):(if e.1=x then J e.2 else dU _ x)=_)
  by_cases z:k=x
  .exact W (aJ z)<|W (aS λc=>q<|af c z.symm) (aJ z).symm
  .exact W (aS z)<|W (aS z) Y
def PN:U (eW a k v)<=U a+1:=by
 refine a.rec (bb 1) λe t b=>(?_:U (if e.1=k then _::t else e::eW t k v)<=_)
 by_cases q:e.1=k
 .exact W (aJ q)<|fh _
 .exact W (aS q)<|b2 b
def Jn{a:ai->Prop}(c:a k)(h:∀e∈b,a e.1):∀e∈eW b k v,a e.1:=by
 induction b with
 |nil=>intro e d;exact W (qh.mp d) c|cons e t f=>
  refine(?_:∀z∈(if e.1=k then _::t else e::eW t k v),a z.1)
  by_cases q:e.1=k
  .refine W (aJ q) λz g=>?_;rcases qV.mp g with rfl|g
   .exact h e b8
   .exact h z<|cy _ g
  .refine W (aS q) λz g=>?_;rcases qV.mp g with rfl|g
   .exact h z b8
   .exact f (λj l=>h j<|cy _ l) z g
end
def Yz:gz (fw x)=true:=by show((Q&&cP (sV x.2.1) _&&(Q&&(Q&&Q))):bc)=Q;exact W (ak gT λv a=>by obtain⟨s,_,rfl⟩:=mm a;rfl:cP (sV x.2.1) _=Q) Y
def KD(a)(L):=fR (∀x,d7 (dU a<|fw x)=b6 L x) (∀e∈a,kh e.1=3)<|U a<=U L
def KD.ok(d:KD a L)(x):il a (fw x):=br Yz<|d J1
def ahq:KD [] []:=bZ (λZ=>rfl) (λZ h=>bG h)<|bb 0
def KD.snoc(d:KD a L)(x):KD (eW a (fw x) v) (L++[x]):=by
 refine bZ (λy=>?_) (Jn (a:=λk=>kh k=3) Y<|d J1) ?_
 .refine W afP ?_
  by_cases e:fw x=fw y
  .have b:x=y:=by
    injection e with e
    injection e with a e
    injection e with c e
    injection e with f e
    injection e with d e
    injection a with a
    injection c with c
    injection f with f
    injection d with d
    exact qo a<|qo (XG c)<|qo (eI f)<|eI d
   exact W (aJ e)<|W b (ak gv<|fy _ hf).symm
  .refine W (aS e)<|W (d V _) ?_;rw [p1,gv,gv,pL];exact⟨aL,λz=>aP z id λz=>ay (W (ms z) Y) e⟩
 .exact W a4<|ae PN<|b2<|d J2
def akp{M}:∀{a} {L},KD a L->KD ((M.map λx=>(fw x,bS Q)).foldl (λd e=>eW d e.1 e.2) a) (L++M):=by
 induction M with
 |nil=>intro a L d;exact W (dw ..) d|cons x t b=>intro a L d;have c:=b<|d.snoc (v:=bS Q) x;rw [dy] at c;exact c
def w5:aa O->aa (aa fk)->Cs:=wh λx=>az<|R fw x
def GY(h:a[s]?=J b)(k:c[s]?=J d):(w5 a c).at s=J (b,az<|R fw d):=V' (g:=λ(x:aa fk)=>az<|R fw x) h k
def adV(h:U a=U b):(w5 a b).cB c (az<|R fw x)=w5 (a++[c]) (b++[x]):=YQ (g:=λ(x:aa fk)=>az<|R fw x) h
def OA:=sW<|sF<|sR Kk.gZ
def IK:=sW<|sF<|sR<|sR OA
structure KA where
se:O
li:O
kn:O
def pS(D:gj)(b c:aa bo)(a:KA)(d h:O)(r:aW):aW:= .c 115 (gS D)<| .c 103 (aN<|sV b)<| .c 90 (aN<|sV c)<| .c 65 (aj a.se)<| .c 67 (ag d)<| .c 41 (aj a.li)<| .c 104 (aj a.kn)<| .c 35 (ag h) r
def oq(a:KA)(e:O)(L:aa fk)(c:aa<|ai×ai)(b:aa O)(d:aa<|aa fk):Cs:= .c a.li (az<|R fw L)<| .c a.kn (dC c e)<| .c a.se (az<|fO b)<|w5 b d
def Ei{M:aa fk}(k:O):(R fw M)[k]?=b7 fw (M[k]?):=cf ..
def F8{M}(a:Fr l n<| .c m (az<|R fw M)<|oq d e L b f g)(c:KD b L)(o:U L+U M<=900)
 (p:∀b e s,KD b (M.foldl gh L)->Fr l s (oq d e (M.foldl gh L) b f g)->N (pS D h em d j k ar) s):c1 q r (sR<|sR<|sR<|sR IK) (pS D h em d j k<| .c 49 (aj m) ar) n N t C:=by
 refine cb (a.lt 0 Y)<|cv Ei (λX X X=>pS D h em d j k _) (λk X (v:aa _×O)=> .c m _ (oq d v.2 ((aF k M).foldl gh L) v.1 f g)) (λk X v=>KD v.1 ((aF k M).foldl gh L)/\U ((aF k M).foldl gh L)<=U L+k) () (b,e) a ⟨c,bb _⟩ (λX X X X a=>a.lt 0 Y) (λk x X v s y z H a I=>?_) λX v s H a=>?_
 .obtain⟨b,e⟩:=v;have I:=λb e s=>I () (b,e) s;rw [zJ z] at I;refine dK H λc Z=>?_;generalize (aF k M).foldl gh L=h at a I c Z;have j:=ae Z<|bT<|cc (so (gl z) _) o;have l:U (gh h x)<=U h+1:=by
   unfold gh;cases b6 h x with
   |true=>exact fh _|false=>exact c6 a4
  refine M9 a 2 Y (c.ok x)<|W (c V _)<|jh<|ef (λz=>?_) λz=>?_
  .have n:gh h x=h:=by unfold gh;exact W z Y
   rw [n] at I;exact I b e s ⟨c,hI Z⟩ a
  .have n:gh h x=h++[x]:=by unfold gh;exact W z Y
   rw [n] at I l;refine vb a 2 Y (c.ok x) (cg<|ae (c J2)<|ae j<|by decide) λN s a=>cH a 1 Y<|dD a 1 Y (W (bB ..)<|cg<|ae j<|by decide) λs a=>I _ N s ⟨c.snoc (v:=bS Q) x,ae l<|b2 Z⟩ ?_;unfold oq;exact W dq a
 .rw [dI] at H a;exact p v.1 v.2 s H.1 a.tl
def afh(c:K<|b6 a s):mW (aG s) (aN<|sV a) b K:=by refine W q8 (?_:bE _ K);exact W (MJ ..) c
def Wk(D)(a em)(b)(c h m)(x:fk):=pS D a em b c h<| .c 40 (aG x.1)<| .c 123 (aR<|sV x.2.1)<| .c 6 (ag x.2.2.1)<| .c 83 (ag x.2.2.2)<| .c 49 (aj m) ar
def Ni{a:aa b}:a.filterMap (λq=>b7 fw<|f q)=(eG f a).map fw:=a5 (Oy ..)
def ajL(d:f5 x=J y)(j:U D<=9)(k:U L<=400)(a:Fr m n<| .c o (az [])<|oq h e L f p g)(l:KD f L)
 (c:∀f e s,KD f ((lj D em g b x).foldl gh L)->Fr m s (oq h e ((lj D em g b x).foldl gh L) f p g)->N (pS D q em h b r ar) s):c1 t v (sR<|sR IK) (Wk D q em h b r o x) n N z C:=by
 refine h0 (λX=>cb Y<|iZ d8 (λq=>b7 fw<|tK y b q) a (λX X X X=>rfl) (cg<|ae j<|by decide) (λH q I o s Z L f a h m=>?_) λI s a=>?_) λz=>ay (FK d)<|ak fS<|gm▸z
 .refine bJ Y (kt d)<|ef (λz=>h _ s (by unfold tK;refine W z ?_;rfl) a) λz=>m s (by unfold tK;refine W z ?_;rfl) a
 rw [Ni] at a;have a:=a.bN;refine bJ Y (kt d)<|afh ?_;have n:U (eG (tK y b) D)<=9:=ae (zm ..) j;have p:lj D em g b x=eG (tK y b) D++aD (b6 em y) [iz x] []:=by unfold lj;exact W d Y
 rw [p] at c;refine ef (λz=>?_) λz=>?_
 .rw [z] at c;exact cH a 0 Y<|dD a 0 Y (W (bB ..)<|cg<|ae n<|by decide) λs a=>F8 (e:=e) (W dq<|a.pk [0,2,3,4] 5 (by decide)<|by decide) l (W a4<|ae (d2 k<|b2 n)<|ao Y) c
 .rw [z] at c;refine F8 (e:=e) ?_ l ?_ c
  .exact W (dw ..)<|a.pk [0,2,3,4] 5 (by decide)<|by decide
  .exact W (dw ..)<|ae (d2 k n)<|ao Y
def AI(y)(a):=aD (rH y a) (J a) A
def acM{M:aa fk}:eG (AI y) M=p6 (rH y) M:=by refine M.rec Y λa t b=>?_;rw [xS,xX,b];unfold AI;cases rH y a<;>rfl
def akk(n:U h=c)(o:U d=c)(k:f5 x=A)(p:∀(q:O) M,d[q]?=J M->U M<=400/\∀b∈M,b.2.2.1<=U b.2.1)(l:U L<=400)(a:Fr r t<| .c v (az [])<|oq j e L g h d)(m:KD g L)
 (f:∀g e s,KD g ((lj D em d c x).foldl gh L)->Fr r s (oq j e ((lj D em d c x).foldl gh L) g h d)->N (pS D y em j c z ar) s):c1 C H (sR<|sR IK) (Wk D y em j c z v x) t N I Z:=by
 refine h0 (λz=>ay (tF.mp k)<|ak xN<|gm▸z) λX=>?_;have L:lj D em d c x=aD (dG x.2.2.2 c) ((p6 (rH x.1)<|F d x.2.2.2 []).map iz) []:=by unfold lj;exact W k Y
 rw [L] at f;refine h0 (λz=>?_) λz=>?_
 .rw [show dG x.2.2.2 c=Q from xv z] at f;refine bp (show∃M,d[x.2.2.2]?=J M from cM _ (bM<|o▸z)) λM g=>bp (show∃j,h[x.2.2.2]?=some j from cM _ (bM<|n▸z)) λj q=>?_;rw [show F d x.2.2.2 []=M from aq (dN · []) g] at f;have r:=p _ _ g;refine dc a 3 Y (rR q)<|cb (a.lt (x.2.2.2+4)<|GY q g)<|iZ Ei (λb=>b7 fw<|AI x.1 b) a (λt o v a=>a.lt (x.2.2.2+4)<|I7<|GY q g) (cg<|ae r.1<|by decide) (λj b N o s y C H a I Z=>?_) λb s a=>?_
  .refine bJ Y Y<|bJ Y Y<|MR (λz=>?_) λz=>Z s ?_ a
   .rw [gm] at z;have k:=bM z;generalize b.2.1[b.2.2.1]=L at k;refine bJ Y Y<|bJ Y Y<|bJ Y (kt k)<|rW (λe=>I _ s ?_ a) λe=>Z s ?_ a
    .unfold AI rH f5;simp only [k,e,eV Y];rfl
    .unfold AI rH f5;simp only [k,gn λz=>e<|aC z];rfl
   .rw [gm] at z;unfold AI rH f5;refine W (iu z) ?_;rfl
  rw [Ni,acM] at a;have a:=a.bN;have h:U (p6 (rH x.1) M)<=400:=ae (Al ..) r.1;refine cb (a.lt 0 Y)<|iZ Ei (λb=>J<|fw<|iz b) a (λt o v a=>a.lt 0 Y) (cg<|ae h<|by decide) (λj b N o s y C H a I Z=>?_) λN s a=>?_
  .exact bJ Y Y<|bJ Y Y<|bJ Y Y<|bJ Y Y<|I _ s Y a
  have a:=a.bN;refine F8 (e:=e) ?_ m ?_ f
  .have n:(p6 (rH x.1) M).filterMap _=((p6 _ M).map iz).map fw:=W jC<|qG B7 _;exact ax n<|a.pk [0,3,4,5] 6 (ao Y)<|ao Y
  .exact W (bB ..)<|ae (d2 l h)<|ao Y
 .rw [show dG x.2.2.2 c=u from W kR<|gn<|ak fS z] at f;exact F8 a m (ae l<|ao Y) f
def aim(n:L[h]?=J x)(o:U f=b)(p:U c=b)(q:U D<=9)(r:∀(t:O) M,c[t]?=J M->U M<=400/\∀g∈M,g.2.2.1<=U g.2.1)(j:U L<=400)(a:Fr v y<|oq e k L d f c)(l:KD d L)
 (m:∀d k s,KD d ((lj D em c b x).foldl gh L)->Fr v s (oq e k ((lj D em c b x).foldl gh L) d f c)->N (pS D z em e b (h+1) ar) s):c1 C H IK (pS D z em e b h ar) y N I Z:=by
 refine dc a 0 Y (by simp only [cf,n];rfl) ?_;refine aV a λL s a=>?_;have a:=a.bN;cases b:f5 x with
 |some y=>exact ajL b q j a l m|none=>exact akk o p b r j a l m
def asP{S:aa fk}:yG (S.map λx=>aR [fw x,bS Q])=J (S.map λx=>(fw x,bS Q)):=S.rec Y λx t a=>by refine((aq _ a):b7 _ (yG _)=_)
def alL(l:U D<=9)(n:∀r∈D,U r.2<=3)(p:a<=9)(t:U m=a)(o:Bj D em b c)(j:U c=a)(v:K4 D em b c q a 0 L)(k:KD d L)(y:∀x,Sd D em b a x->x∈q)(e:Fr z C<|oq f g L d m c)
 (H:∀L d g h s,bw L->(∀x,x∈L↔kg em b a x)->KD d L->U L<=400->Fr z s (oq f g L d m c)->N (pS D b em f a h ar) s):c1 I Z (sF<|sR<|sR OA) (pS D b em f a 0 ar) C N À Á:=by
 refine n8 (λh Y=>400-h) (λh Y=>pS D b em f a h ar) (λY r=>oq f r.2.2 r.1 r.2.1 m c) (λh r=>K4 D em b c q a h r.1/\KD r.2.1 r.1) 0 (L,d,g) e ⟨v,k⟩ λh r s z C e N=>?_;obtain⟨L,d,g⟩:=r;obtain⟨I,k⟩:=C;have Z:=Qh l n p (I J1) λx a=>((I J2) x a).u;refine hF e<|h0 (λz=>?_) λz=>?_
 .rw [bB] at z;have a:=bM z;have b:∀r (M:aa fk),c[r]?=J M->U M<=400/\∀f∈M,f.2.2.1<=U f.2.1:=λr M m=>by have q:=(o V) r M m;exact⟨Qh l n (ae (bT<|j▸(gl m)) p) q.2 λx a=>((q.1 x).mp a).u,λf v=>((q.1 f).mp v).u J1⟩
  exact aim a t j l b Z e k λC c s r e=>N _ (_,C,c) s (zg (cc z Z)<|ha h) ⟨I.step o j a,r⟩ e
 .rw [bB] at z;exact H L d g h s (I J1) (I.fin o j z y) k Z e
def S9{r:aa bo}:gK r d (d+1)=[k]↔r[d]?=J k:=by
 unfold gK;refine W Uq<|W (uh ..)<|ax (B4) ?_;cases cq d r with
 |nil=>exact⟨AV,λh=>aI h⟩|cons x t=>exact⟨λh=>by cases h;rfl,λh=>by cases h;rfl⟩
def alx(c:K<|decide (a=[k])):bE (xA xt (aR<|sV a)<|aR [aG k]) K:=by
 rw [show xA xt _ _=J _ from ?_]
 .exact c
 .show er (b7 Sq _) (λa=>b7 _ (b7 Sq<|toPs (toP 199)<|sV [k]))=_;rw [toPs_sV,toPs_sV];exact aq J aki
def su(k)(x):=aD (decide (gK x.2.1 x.2.2.1 (x.2.2.1+1)=[k])) (J<|iz x) A
def G'{L:aa fk}:z∈eG (su k) L↔∃x∈L,f5 x=J k/\z=iz x:=by
 rw [y2];refine Uh λx=>Gx λZ=>?_;unfold su
 by_cases h:gK x.2.1 x.2.2.1 (x.2.2.1+1)=[k]
 .exact W (eV h)<|⟨λe=>⟨S9.mp h,a5<|aC e⟩,λe=>aq J e.2.symm⟩
 .exact W (gn h)<|⟨aI,λe=>ay (ak S9 e.1) h⟩
def ε(h:iz x=iz y):x=y:=by obtain⟨a,b,c,d⟩:=x;cases h;rfl
def aij(È:U c<=9)(m:b<=U c)(Þ:U h=b)(p:Bj D em c g)(Ý:U g=b)(nd:bw L)(k:∀x,x∈L↔kg em c b x)(Ð:KD Õ L)(Ç:U L<=400)
 (n:∀j<b,∃x y,kg em c j x/\f5 x=J y/\c[j]?=J y)(a:Fr t É<|oq f e L Õ h g)
 (Ê:∀d s Æ,RH D em c b d->Fr t s Æ->À (aR [ag b,bS d]) s)
 (Á:∀Ô (S:aa fk) s,b<U c->bw S->(∀x,Sd D em c (b+1) x↔x∈S)->Bj D em c (g++[L])->(∀j<b+1,∃x y,kg em c j x/\f5 x=J y/\c[j]?=J y)->
  Fr t s (.c Ô (az<|R fw S)<| .c f.se (az<|fO<|h++[f.li])<|w5 (h++[f.li])<|g++[L])->Â (.c 115 (gS D)<| .c 103 (aN<|sV c)<| .c 90 (aN<|sV em)<| .c 65 (aj f.se)<| .c 125 (aj Ô) ar) s):c1 Ã Ä (sR<|sR<|sR OA) (pS D c em f b l ar) É Â À Å:=by
 refine cH a 2 Y<|dD a 2 Y (by unfold fO;exact W (bB ..)<|W Þ<|cg<|ae m<|ae È<|ao Y) λs a=>?_;have a:Fr t s (.c f.kn (dC Õ e)<| .c f.se (az<|fO<|h++[f.li])<|w5 (h++[f.li])<|g++[L]):=by have a:=a.Bx;unfold fO;exact W dq<|ax (adV<|af Þ Ý.symm) a
 refine hk (a:=b) (b:=U<|sV c) (λI=>?_) λI=>?_
 .rw [gm] at I;refine M9 a 0 Y (Ð.ok<|iz ug)<|Ê _ s _ (bZ m n<|aL ⟨I,?_⟩) a;show d7 (dU Õ<|fw<|iz ug)=Q↔_;refine W (Ð V _) ?_;rw [gv];exact k _
 .rw [gm] at I;have H:b<U c:=xJ m I;have N:=bM H;generalize c[b]=z at N;have Ë:(h++[f.li])[b]?=J f.li:=by refine ax Þ<|W (h8<|bb _)<|W (ql ..) ?_;rfl
  have gl:(g++[L])[b]?=J L:=by refine ax Ý<|W (h8<|bb _)<|W (ql ..) ?_;rfl
  refine cb (a.lt (b+2)<|GY Ë gl)<|iZ Ei (λd=>b7 fw<|su z d) a (λn p Ì a=>a.lt (b+2)<|I7<|GY Ë gl) (cg<|ae Ç<|ao Y) (λj d Í p s Î Ï v a Ñ Ò=>?_) λd s a=>?_
  .refine bJ (k:=1) (x:=aR<|sV d.2.1) Y Y<|bJ (k:=2) (x:=ag d.2.2.1) Y Y<|bJ (k:=2) (x:=ag d.2.2.1) Y Y ?_;have Ó {C:aa bo} {r:O} {Ö:aa ai->Prop} (l:r<=U C) (Ø:Ö<|sV<|gK C r<|r+1):mh (sV C) (ag r) (ag<|(r:au)+1) Ö:=by
    refine W yI ?_;unfold AP;refine W Wa<|W M5 (?_:Ö _);refine W gm<|W (gf l) ?_;have e:gK (sV C) r (min (r+1) (U C))=sV (gK C r<|r+1):=by unfold gK;refine ax gm<|ax List.take_eq_take_min ?_;unfold sV;exact W IS<|W si Y
    exact W e Ø
   refine Ó (((k d).mp<|aO v).u J1)<|bJ Y (kt N)<|alx<|ef (λe=>?_) λe=>Ò s (by unfold su;refine W e ?_;rfl) a;exact bJ (k:=0) (x:=aG d.1) Y Y<|bJ (k:=1) (x:=aR<|sV d.2.1) Y Y<|bJ (k:=2) (x:=ag d.2.2.1) Y Y<|bJ (k:=3) (x:=ag d.2.2.2) Y Y<|Ñ _ s (by unfold su;refine W e ?_;rfl) a
  rw [Ni] at a;have a:=a.bN;refine aV a λÍ s a=>?_;have a:=a.bN;have Ü:∀x,Sd D em c (b+1) x↔x∈eG (su z) L:=λx=>by
   rw [G'];refine⟨λl=>?_,λÙ=>hv Ù λy á e Ú=>Ú▸ .sc ((k y).mp á) e N⟩;cases l with
   |@sc _ y _ Z e Û=>rw [N] at Û;exact W (aC Û) ⟨y,ak (k y) Z,e,Y⟩
  refine Fv a 1 0 Y Y (λC=>?_) λC=>?_
  .refine Ê u s _ (bZ m n<|aw ⟨H,Y,λx y Z e q=>?_⟩) a;have o:=(Ü<|iz x).mp<| .sc Z e q;rw [S1.mp C] at o;exact bG o
  .have ß {z:bo} (l:bw L):bw (eG (su z) L):=by
    refine ak List.pairwise_filterMap<|l.imp λ{x y} à I r d v e=>?_;unfold su at r v;cases q:decide (gK x.2.1 x.2.2.1 _=[z]) with
    |false=>exact aI<|q▸r|true=>
     cases â:decide (gK y.2.1 y.2.2.1 _=[z]) with
     |false=>exact aI<|â▸v|true=>rw [q] at r;rw [â] at v;obtain rfl:=aC r;obtain rfl:=aC v;exact à<|ε e
   refine Á d _ s H (ß nd) Ü ((by
    refine iB λZ r e=>?_
    by_cases q:Z<U g
    .rw [hh q] at e;exact(p V) Z r e
    .rw [h8<|j5 q] at e;have I:=Ds.mp (kq.mp e).1;rw [I] at e;have o:Z=U g:=hJ (zy I)<|j5 q;exact ax (aC e)<|W o<|⟨Ý▸k,nd⟩)) (λj o=>?_) (a.pk [1,3] 4 (ao Y)<|ao Y)
   rcases DJ (lE o) with q|rfl
   .exact n j q
   .cases q:eG (su z) L with
    |nil=>rw [q] at C;exact ay Y C|cons x r=>exact hv (G'.mp (q▸b8:x∈eG (su z) L)) λy á e X=>⟨y,z,(k y).mp á,e,N⟩
def akR(d:U D<=9)(e:∀q∈D,U q.2<=3)(c:U a<=9)(h:∀f b,RH D (ir D<|U D) a f b->j (aR [ag f,bS b]) g):aK (n+2) 265 [gS D,aN<|sV a] g j k:=by
 refine a6 Kk (.c 115 (gS D)<| .c 103 (aN<|sV a) ar) Y Y<|acQ d e ?_;generalize ir D (U D)=l at h;refine aV de λm s o=>aV o λp s o=>?_;have o:=o.bN;refine br (mQ (m:=U (sV a)+1)<|W gm<|ae (b2 c)<|of_decide_eq_true rfl) ?_;have o:Fr g s (.c p (az<|R fw [ug])<| .c m (az<|fO [])<|w5 [] []):=o;refine cv (mR (m:=U (sV a)+1)) (λX (r:O) _=> .c 115 (gS D)<| .c 103 (aN<|sV a)<| .c 90 (aN<|sV l)<| .c 65 (aj m)<| .c 125 (aj r) ar) (λX r (t:aa O×aa (aa fk)×aa fk)=> .c r (az<|R fw t.2.2)<| .c m (az<|fO t.1)<|w5 t.1 t.2.1)
  (λk r t=>k<=U a/\U t.1=k/\Bj D l a t.2.1/\U t.2.1=k/\bw t.2.2/\(∀x,Sd D l a k x↔x∈t.2.2)/\∀j<k,∃x y,kg l a j x/\f5 x=J y/\a[j]?=J y) p ([],[],[ug]) o
  ⟨cQ _,Y,iB λX X v=>aI v,Y,BJ _ _,λx=>⟨λh=>by cases h;exact hf,λh=>W (ms h) .st⟩,λX h=>ay h<|fC _⟩ (λX X X X X=>rfl) (λk x r t s z C H o I=>?_) λr t s H o=>?_
 .obtain⟨L,N,S⟩:=t;obtain⟨rfl,Z⟩:=lu C;refine ahU H λf q n g a l p=>?_;have y:U S<=400:=Qh d e (ae f c) a λx C=>(ak (l x) C).ea.u;refine hF o<|aV o λk s o=>?_;have o:=o.bN;refine cb (o.lt 1 Y)<|iZ Ei (λx=>J<|aR [fw x,bS Q]) o (λr t Z o=>o.lt 1 Y) (cg<|ae y<|by decide) (λj b r t s j Z t o r j=>r _ s Y o) λb s o=>?_;have o:=o.bN;have Z:eG (λx=>J<|aR [fw x,bS Q]) S=S.map λx=>aR [fw x,bS Q]:=qG (B7 (f:=λx=>aR [fw x,bS Q])) _;rw [Z] at o;refine hF o<|W asP<|⟨⟨W (bB ..)<|bT<|cg<|ae y<|by decide,λv t=>?_⟩,?_⟩
  .obtain⟨x,_,rfl⟩:=mm t;exact br rfl Yz
  refine m7 o λr v s o=>?_;have o:=o.bN;exact alL (f:=⟨m,k,r⟩) (Á:=z) (L:=S) (q:=S) d e (ae f c) q n g (ec (λX h=>h) a (λx C=>(ak (l x) C).ea) (λX X h=>ay h<|fC _)<|cQ _) (akp ahq) (λx=>(l x).mp) (o.pk [2,0,4] 5 (ao Y)<|ao Y) λj Z v y s nd t m z o=>aij c f q n g nd t m z p o (λb s r d o=>m8 o<|h _ b d) λe x s C a l v Z o=>I e (L++[k],N++[j],x) s ⟨C,by simp only [a4,q];rfl,v,by simp only [a4,g];rfl,a,l,Z⟩ o
 .have y:=H.1;rw [fi,gm] at y;exact ay y<|OG _
class inductive Dn(D:gj):aa bo->aa bo->Prop
|nil:Dn D [] []|tm {k r a} (h:k∈e3) (c:Dn D r a):Dn D (k::r)<|k::a|nt {l o r b a} (m:(l,o)∈D) (c:Dn D o b) (d:Dn D r a):Dn D (l::r)<|b++a
abbrev km:=Dn D
def Dn.app(a:km x b)(c:km y v):km (x++y) (b++v):=a.rec c (λh Z d=> .tm h d) λm a Z Z d=>W (dy ..)<| .nt m a d
def Dn.one(m:(l,o)∈D)(a:km o b):km [l] b:=by have c:=Dn.nt m a .nil;rw [dw] at c;exact c
def Dn.self(h:∀k∈x,k∈e3):km x x:=by
 induction x with
 |nil=>exact .nil|cons k r a=>exact .tm (h k b8)<|a λk b=>h k<|cy _ b
def cU.adU(g:k8)(h:x∈e3++ls):∃v,km [x] v:=by
 rcases ma h with h|h
 .exact⟨[x], .tm h .nil⟩
 .have f:=(g J1) J1 x h;unfold u2 at f;cases e:BC _ D with
  |none=>exact bU<|e▸f|some q=>rw [e] at f;have a:=List.find?_some e;exact ax (eq_of_beq a)<|⟨q.2, .one (List.mem_of_find?_eq_some e)<| .self λk b=>gv.mp<|(oW f) k b⟩
def BQ:jf a x=a\/(x.1∉a/\(∀y∈x.2,y∈a)/\jf a x=a++[x.1]):=by
 unfold jf;cases e:b6 a x.1 with
 |true=>exact aL Y|false=>
  cases b:cP x.2 (b6 a) with
  |false=>exact aL Y|true=>exact aw ⟨λz=>bU<|ak gv z▸e,λy c=>gv.mp<|oW b y c,Y⟩
def alS(m:x∈D)(h:∀y∈a,km [y] []):∀y∈jf a x,km [y] []:=by
 rcases BQ with e|⟨_,b,e⟩
 .exact W e h
 .refine W e λy c=>?_;rcases ma c with z|z
  .exact h y z
  .refine W (ms z)<| .one m ?_;have d:∀f,(∀y∈f,y∈a)->km f []:=λf=>f.rec (λZ=> .nil) λz r g=>λk=>(h z<|k z b8).app<|g λj l=>k j<|cy _ l;exact d _ b
def ţ{b:aa bo->Prop}{c}(d:∀q∈c,q∈D)(e:∀a,∀x∈D,b a->b (jf a x)):∀{a},b a->b (qm c a):=by
 induction c with
 |nil=>exactλh=>h|cons x r f=>exactλ{a} h=>f (λq g=>d q<|cy _ g)<|e a x (d x b8) h
def Zc{a:aa bo->Prop}(c:a [])(d:∀b,∀x∈D,a b->a (jf b x)):∀k,a (ir D k):=λk=>k.rec c λk e=>ţ (λZ h=>h) d e
def aa3:∀{b},U (qm b a)<=U a->(∀x∈b,jf a x=a)/\qm b a=a:=by
 have c:∀b (a:aa bo),U a<=U (qm b a):=by
  refineλb=>b.rec (λZ=>bb _) λx r d=>λa=>ae ?_<|d _
  rcases BQ with e|⟨_,_,e⟩
  .exact W e<|bb _
  .simp only [e,a4];exact dO _ _
 refineλb=>b.rec (λZ=>br (λZ h=>bG h) rfl) λx r d=>λh=>?_
 have f:jf a x=a:=by
  rcases BQ with e|⟨_,_,e⟩
  .exact e
  .have g:=ae (c r _) h;rw [e,a4] at g;exact ay g<|OG _
 have j:qm (x::r) a=qm r a:=by show qm r _=_;exact aq _ f
 rw [j] at h⊢;have k:=d h;exact⟨λy l=>aP (mc l) (λe=>e▸f)<|k.1 y,k.2⟩
def acv:∀{a},(∀x∈a,jf b x=b)->qm a b=b:=by intro a;refine a.rec (λZ=>rfl) λx r c h=>by refine(?_:qm r _=b);exact W (h x b8)<|c λy d=>h y<|cy _ d
def amn:∀k,(∀x∈D,jf (ir D k) x=ir D k)\/k<=U (ir D k):=by
 refineλk=>k.rec (aw<|cQ _) λk a=>?_
 have e:ir D (k+1)=qm D _:=Y;rcases a with c|l
 .exact W e<|W (acv c)<|aL c
 .rcases hZ (U<|ir D k) (U<|ir D _) with q|q
  .exact aw<|ae (b2 l) q
  .have f:=aa3 q;exact W e<|W f.2<|aL f.1
def cU.ag1(g:cU ls D)(m:(l,o)∈D)(h:∀x∈o,x∈ir D (U D)):l∈ir D (U D):=by
 have nd:=Zc (a:=λa=>bw a/\∀y∈a,y∈ls) ⟨ip,λZ h=>bG h⟩ (λa x b d=>dK d λn s=>by
  rcases BQ with e|⟨a,_,e⟩
  .exact W e<|⟨n,s⟩
  .refine W e<|⟨ak n5 ⟨n,BJ _ _,λy f z j q=>a ?_⟩,λy f=>aP (ma f) (s y) λz=>?_⟩
   .simp only [<-ms j,<-q];exact f
   .exact W (ms z) ((g J1) V x b).1)<|U D
 rcases amn (U D) with c|c
 .rcases BQ with e|⟨_,_,e⟩
  .unfold jf at e;cases q:b6 (ir D<|U D) l with
   |true=>exact gv.mp q|false=>rw [show(l,o).1=l from Y,q] at e;rw [show(l,o).2=o from Y,ak gT λx k=>ak gv<|h x k] at e;have:=aq U e;rw [show U (aD u (ir D<|U D) _)=U (ir D<|U D)+1 from a4] at this;exact ay this<|zO _
  .rw [c _ m] at e;have:=aq U e;rw [a4] at this;exact ay this.symm<|zO _
 .refine Eh λn=>?_;have p:U ls<=U D:=by have:=Ts D (a:=[]);rw [(g J1) J2,RJ,eF] at this;exact this
  have:=Rb (ak jk ⟨n,nd.1⟩) λx k=>aP (mc k) (λe=>e▸((g J1) V _ m).1)<|nd.2 x;exact ay (ae this<|ae p c)<|OG _
def Z8:gK b a a=[]:=Ew<|W dS (mq ..)
def Am(h:b<=a):aF b c++gK c b a=aF a c:=by have d:=wR b<|aF a c;rw [LI,gf h] at d;exact d
def Ud{ls}{D}(g:cU ls D)(h:k∈iK):k∉ls:=by
 have a:∀k∈iK,k∉["s","t"]/\k∉["s","t","u"]:=by decide+kernel
 rcases(g V) with rfl|rfl
 .exact(a k h).1
 .exact(a k h).2
def U4.ok(g:k8)(a:U4 D b x):∀y∈x.2.1,y∈e3++ls:=by
 rcases mc (a V) with e|m
 .exact W (aq (·.2) e:x.2.1=["s"]) λy c=>W (ms c)<|fy _ g.uR.2.2.1
 .exact((g J1) V _ m).2.2
def I5(e:f5 x=J y):aF (x.2.2.1+1) x.2.1=aF x.2.2.1 x.2.1++[y]/\aF x.2.2.1 x.2.1++y::cq (x.2.2.1+1) x.2.1=x.2.1:=by refine br (fQ e) ?_;have a:=wR (x.2.2.1+1) x.2.1;rw [fQ e,dy] at a;exact a
def Pl(D)(a)(b)(x:fk):=e7 (Dn D (aF x.2.2.1 x.2.1)<|gK a x.2.2.2 b)<|∀v,Dn D x.2.1 v->∃c,Dn D ["s"]<|aF x.2.2.2 a++v++c
def Pl.k?(g:k8)(s:Pl D P d x)(a:U4 D d x)(e:f5 x=J y)(b:km [y] v):∃c,km ["s"] (aF d P++v++c):=by
 have f {h:aa bo} (j:∀x∈h,x∈e3++ls):∃v,km h v:=by
  induction h with
  |nil=>exact cM ([]) .nil|cons x r k=>exact bp (g.adU<|j x b8) λa b=>bp (k λy l=>j y<|cy _ l) λv m=>⟨a++v,b.app m⟩
 refine bp (f λz n=>a.ok g z<|Wg n (i:=x.2.2.1+1)) λo m=>?_;have p:=(s V).app<|b.app m;rw [List.singleton_append,(I5 e).2] at p;refine bp ((s J1) _ p) λc d=>⟨o++c,?_⟩;rw [<-dy,<-dy,Am<|a J2] at d;rw [dy,dy] at d;exact W (dy ..) d
def Ea.s(g:k8)(c:∀k∈P,k∈iK)(a:kg (ir D<|U D) P b x):Pl D P b x:=by
 induction a with
 |st=>exact cp (W Z8 .nil) λv h=>⟨[],W (dw ..) h⟩|pr a e m d=>exact cp (W Z8 .nil) λv h=>d.k? g a.u e<| .one m h|sk a e m d=>refine cp ?_<|d J1;have f {k:O} {y:bo} (h:y∈ir D k):km [y] []:=Zc (a:=λj=>∀y∈j,km [y] []) (λZ h=>bG h) (λZ Z m h=>alS m h) k y h;have l:=(d V).app<|f m;rw [dw,<-(I5 e).1] at l;exact l|@co b x n a e o p f q r=>
  refine cp ?_<|r J1;have m:(x.1,x.2.1)∈D:=by
   rcases mc (a.u V) with z|m
   .have l:x.1="$":=aq (·.1) z;exact ay (p.u.ok g _ (aO f))<|l▸(by rcases(g V) with e|e<;>rw [e]<;>decide+kernel)
   .exact m
  have t:=q V;dsimp only [Jt] at t;rw [zt e] at t;have l:=(r V).app<| .one m t;have C:gK P (f9<|f9<|f9 n) (f9<|f9<|f9 x)++gK P (f9<|f9<|f9 x) b=gK P (f9<|f9<|f9 n) b:=(TR _).mp<|ax (dy ..)<|W (Am<|p.u J2)<|W (Am<|bT o)<|W (Am<|ae (p.u J2)<|bT o) Y;rw [<-(I5 f).1,C] at l;exact l
 |@sc b x y a e k d=>refine cp ?_<|d J1;have l:=(d V).app<| .tm (aP (ma<|a.u.ok g y<|aO e) id λz=>ay z<|Ud g<|c y<|aO k) .nil;have H:gK P (f9<|f9<|f9 x) (b+1)=gK P (f9<|f9<|f9 x) b++[y]:=(TR _).mp<|ax (dy ..)<|W (Am<|a.u J2)<|W (Am<|hI<|a.u J2)<|fQ k;rw [<-(I5 e).1,<-H] at l;exact l
def ah4(g:k8)(c:∀k∈P,k∈iK)(a:kg (ir D<|U D) P d x)(e:f5 x=J y)(k:P[d]?=J y):∃b,km ["s"] (aF (d+1) P++b):=by obtain⟨b,d⟩:=(a.s g c).k? g a.u e<| .tm (aP (ma<|a.u.ok g y<|aO e) id λz=>ay z<|Ud g<|c y<|aO k) .nil;exact W (fQ k)<|⟨b,d⟩
noncomputable def nm(G:Gr)(s):=F G.cI s ""
def lK(G:Gr)(r:O)(a:Ru)(d b:O):fk:=aD (aE r 0) ("$",["s"],d,b) (nm G a.aY,R (nm G) a.aQ,d,b)
def OQ(a:fW):nm G G.iU="s":=by unfold nm;refine W (cY)<|W (a J2) ?_;rfl
def IQ(c:fm)(f:fW)(b:G.a9[r]?=J a)(e:a.aQ[d]?=J s)(g:s≠0):f5 (lK G r a d h)=J (nm G s):=by
 induction r with
 |zero=>rw [c.r0] at b;obtain rfl:=aC b;refine jR (a:=λd=>f5 (lK G 0 ⟨G.nT,[G.iU,0],_⟩ d h)=_) e (λe=>?_) λe=>ay e.symm g;refine(?_:J "s"=J _);simp only [<-e,OQ f]|succ r=>refine(?_:(R (nm G) a.aQ)[d]?=_);simp only [cf,e];rfl
def ais:iz (lK G r a d b)=lK G r a (d+1) b:=by cases r<;>rfl
def GP.mem(b:fW)(c:r≠0)(d:G.a9[r]?=J a):(nm G a.aY,R (nm G) a.aQ)∈D:=hv (b.rule (qz c) d) λk Z h Z=>aO h
def z6(D)(em b)(G)(j a):=∀o,(nm G a,o)∈D->Ea D em b j (nm G a,o,0,j)
def QA(a:kg em b j x)(e:f5 x=J (nm G s)):z6 D em b G j s:=λo m=> .pr a e m
def ř(e:fm)(f:fW)(t:Ej (λa b=>∃r t,r∈G.a9/\r.aY=a/\r.aQ=b::t) a b)(c:a≠G.nT)(h:z6 D em d G j a):z6 D em d G j b/\b≠G.nT:=by
 have g:∀{a b},(∃r t,r∈G.a9/\r.aY=a/\r.aQ=b::t)->a≠G.nT->z6 D em d G j a->z6 D em d G j b/\b≠G.nT:=by
  intro a b k c h;refine gw k λr t l m n=>bp (gs.mp l) λo p=>?_;have q:o≠0:=λz=>by rw [z,e.r0] at p;obtain rfl:=aC p;exact c m.symm
  have s:=f.mem q p;rw [m] at s;exact⟨QA (h _ s)<|W n Y,λz=>e.acc r l<|W n<|W z b8⟩
 exact t.rec (λe=>g e c h) λZ e v=>g e v.2 v.1
def Nn(D)(em a)(G)(b:aa O)(k j c):=∀r d o e,At G c r d o e->d<=k/\∃f,b[k-d]?=J f/\Ea D em a j (lK G r e d f)
def ace(c:e5)(t:Ej (λa b=>∃r t,r∈G.a9/\r.aY=a/\r.aQ=b::t) a b):G.nT<=a:=by refine t.rec (λe=>by refine gw e λr t d e Z=>?_;exact e▸(c.lt r d).1.1) λZ Z f=>f
def P?(a:fm)(d:fW)(c:qv)(e:f∈i)(m:g[k]?=J j)(h:∀b∈f.b5,Nn D em l G g k j b):∀b∈f.it,Nn D em l G g k j b:=by
 refineλb n=>aA ((c J4) f e) λo p q=>?_
 rw [q] at n;rcases tW.mp n with r|⟨s,t,v,x,rfl⟩
 .exact h b r
 intro y z o C H;obtain⟨rfl,rfl,rfl⟩:=(gW v<|cQ _).uT H;refine⟨cQ _,j,m,?_⟩;have I:=((p J1) _).mp x;have L:s≠0:=λz=>by rw [z,a.r0] at v;obtain rfl:=aC v;exact(I.nt a (c V) ((c J9) f e).2) Y
 suffices r:z6 D em l G j t.aY by have:=r _ (d.mem L v);unfold lK;exact W (d4 L) this
 refine aA I λb n z=>aA z λs N q=>?_;refine hK (((c J9) f e).2 b n) λZ g k y o=>?_;refine dK (h b n Z g k y o) λX z=>aA z λb X C=>?_;rw [o.bH] at N;have m:s≠G.nT:=λz=>a.acc y (aO<|o J3)<|z▸(aO N);have H:0<G.nT:=cc (ao Y) a.t3;rcases q with q|q
 .exact W q<|QA C<|IQ a d (o J3) N λz=>ay (ae (a.lt t<|aO v).1.1<|c6<|af q z)<|ak xN H
 .have t:=(c V) J5 s _ q;exact(ř a d t m<|QA C<|IQ a d (o J3) N λz=>ay (z▸ace a.toGW t)<|ak xN H).1
def qY(D)(em c)(G)(i)(st b a)(d):=oj (l6 i st b) (U a=U st) (a[0]?=J 0) (a[U b]?=J d) (∀k p j,st[k]?=J p->a[k]?=J j->∀e,iP i p e->Nn D em c G a k j e)<|∀k s f g,b[k]?=J s->a[k]?=J f->a[k+1]?=J g->f<=g/\(f=g->nm G s∈em)
def qY.zero(a:fm)(c:fW)(b:qv):qY D em d G i [0] [] [0] 0:=by refine eY Bm Y Y Y (λk p j e f g h=>?_) λZ Z Z Z l=>aI l;have m:=Ds.mp<|gl e;subst m;obtain rfl:=aC e;refine ax (aC f)<|aA (b J1) λn o q=>aA h λf r h=>?_;rw [r] at o;obtain rfl:=aC o;refine P? a c b (aO r) Y (λg h=>?_) g h;rw [q] at h;refine W (ms h) λr d o s t=>?_;obtain⟨rfl,rfl,rfl⟩:=(u6 a).uT t;exact⟨bb _,0,Y, .st⟩
def rD{c:Type}{a d:aa c}(h:b<U a):(a++d)[b]?=a[b]?:=hh h
def vE{b:Type}{a}{y:b}(h:c=U a):(a++[y])[c]?=J y:=by simp only [h,h8<|bb _,ql];rfl
def AQ{c:Type}{a}{y z:c}(h:(a++[y])[b]?=J z):(b<U a/\a[b]?=J z)\/(b=U a/\z=y):=by
 rcases hZ b (U a) with q|q
 .exact aL ⟨q,by rw [hh q] at h;exact h⟩
 .have l:=gl h;rw [a4] at l;have e:=hJ (lE l) q;rw [vE e] at h;exact aw ⟨e,a5<|aC h⟩
def qY.pl(c:qY D em d G i st a b j):U b=U a+1:=af (c J1)<|(c V) V
def qY.push(f:fm)(g:fW)(b:qv){p q s a}(c:qY D em d G i st e h j)(l:st[U e]?=J p)(m:go i p s=J q)(Å:s≠0)(Ã:j<=a)(Á:j=a->nm G s∈em)
 (À:∀x,kg em d j x->f5 x=J (nm G s)->kg em d a (iz x)):qY D em d G i (st++[q]) (e++[s]) (h++[a]) a:=by
 have v:=c.pl;have y:U (e++[s])=U h:=by simp only [a4,v];rfl
 refine eY ((c V).tH l m) (by simp only [a4,a4,c J1];rfl) (W (rD<|by rw [v];exact k9 _)<|c J2) (vE y) (λk z Â H I L N=>?_) λk Ä a d x q s=>?_
 .rcases AQ H with ⟨e,H⟩|⟨h,y⟩
  .rw [rD<|(c J1)▸e] at I;intro t r C o a;refine dK ((c J4) k z Â H I L N t r C o a) λz H=>aA H λd s Z=>?_;exact⟨z,d,by rw [rD<|cF (mi ..)<|(c J1)▸e];exact s,Z⟩
  .subst y;have n:=af h (c J1).symm;rw [vE n] at I;obtain rfl:=aC I;refine aA N λI I N=>P? f g b (aO I) (vE n) (λL N=>?_) L N;obtain⟨Æ,rfl,L,Ç⟩:=b.Wf m I N;refine hK (L.va b) λb È N I m=>?_;refine dK ((c J4) _ p j l (c J3) Æ L b È N I m) λz H=>aA H λd s Z=>?_;refine dK (HS m Ç) λj p=>λt r C o a=>?_;obtain⟨rfl,rfl,rfl⟩:=j.uT a;refine⟨by simp only [n,v];exact b2 z,d,?_,ax ais<|À _ Z (IQ f g (m J3) p Å)⟩;rw [n,v,GJ,rD<|by rw [v];exact ic (mi ..)];exact s
 .rcases AQ x with ⟨e,x⟩|⟨h,y⟩
  .rw [rD<|by rw [v];exact rM e] at q;rw [rD<|by rw [v];exact yT e] at s;exact(c J5) k Ä a d x q s
  .subst h;subst y;rw [rD<|by rw [v];exact ha _,c J3] at q;rw [vE v.symm] at s;exact ax (aC q)<|ax (aC s)<|⟨Ã,Á⟩
set_option tactic.hygienic true in
def qY.cut(c:qY D em g G i st d e j)(f:m<=U d)(a:e[m]?=J b):qY D em g G i (aF (m+1) st) (aF m d) (aF (m+1) e) b:=by
 have h:∀{k} {l n} {x:O},_[l]?=J x->l<n/\k[l]?=J x:=λ{k l n x} o=>by
  rw [g6] at o;split at o
  .rename_i q;exact br q o
  .exact aI o
 have p:∀{k:aa O} {l n},l<n->_[l]?=k[l]?:=λ{k l n} o=>W (g6)<|aJ o;refine eY ((c V).cut f) (W dS<|W dS<|aq _ (c J1)) (W (p<|k9 _)<|c J2) ?_ (λk r j s t l v=>?_) λk y b z C a H=>?_
 .exact W dS<|W (gf f)<|W (p<|ha _) a
 .intro I d o L N;refine dK ((c J4) k r j (h s).2 (h t).2 l v I d o L N) λZ m=>aA m λz H e=>?_;exact⟨Z,z,W (p<|cF (mi ..) (h s).1) H,e⟩
 .exact(c J5) k y b z (h C).2 (h a).2 (h H).2
def no2(c:k8)(a:fm)(d:fW){r:O}(b:G.a9[r]?=J f):2∉f.aQ:=λh=>by
 induction r with
 |zero=>
  rw [a.r0] at b;obtain rfl:=aC b;rcases mc h with e|e
  .exact ay (cF a.t3<|e▸a.st)<|ao Y
  .exact vY<|ms e
 |succ r=>
  have m:=((c J1) V _ (d.mem (Je r) b)).2.2 _ (hM h);have e:nm G 2="$undefined":=by unfold nm;refine W (cY)<|W (d J5) ?_;rfl
  rw [e] at m;revert m;rcases(c V) with e|e<;>(rw [e];decide+kernel)
def XY(a:k8)(b:fm)(c:fW){r:O}(d:G.a9[r]?=J e)(h:tn G k∈e.aQ):nm G (tn G k)=k:=by
 unfold tn at h⊢;cases e:g8 k _ with
 |none=>rw [e] at h;exact ay h<|no2 a b c d|some f=>
  have g:=BE e;rw [g6] at g;split at g
  .unfold nm;refine W (cY)<|W g ?_;rfl
  .exact aI g
abbrev vv(D):=ir D<|U D
def HE(D)(a)(j):=∃x y,Ea D (vv D) a j x/\f5 x=J y/\a[j]?=J y
def Cl(D)(a)(G)(i)(c:Cf):=oj (∃b d,qY D (vv D) a G i c.st b d c.sp/\U c.ts=U b) (c.fl=[]) (c.pl=[]) (c.qu=0) (c.sp<=U a)<|∀j<c.sp,HE D a j
def Cl.zero(a:fm)(b:fW)(c:qv):Cl D P G i c0:=eY ⟨[],[0], .zero a b c,Y⟩ Y Y Y (cQ _) λZ h=>ay h<|fC _
def V_{a:O}(h:(fB P)[a]?=J k)(n:k≠"$end"):P[a]?=J k:=by
 rcases AQ h with ⟨_,h⟩|⟨_,e⟩
 .exact h
 .exact ay e n
def Cl.step(Å:k8)(d:fW)(a:fK)(b:Cl D P G i c)(Æ:(fB P)[c.sp]?=J k)(Á:cG c.st=J å)(Ä:el B å (tn G k)≠0)(s:lT c k å A À):Cl D P G i À:=by
 refine ht (b V) λl Ë n Ð=>?_;have p:=n V;have r:=p.jw▸Á;have t:=p.lt (a J1) r;have Í:=tg (a V).toGW k;generalize Ï:(A:ba bc)=Ó at s
 induction s with
 |acc C=>exact aI Ï|rk C H I=>exact aI Ï|oh C H L Ô Ú Ó=>exact aI Ï|mD C=>exact ay C Ä|nc I C Ô Â=>
  refine dK (a.Qv t Í C Ô Â) λj Õ=>?_;have Ç:k≠"$end":=λz=>Õ<|W z<|B8 d (a V).toGW;have Ã:∃h e f L,G.a9[h]?=J f/\f.aQ[e]?=J (Zq.tn G k)/\kg (Zq.vv D) P (Zq.Cf.sp c) (lK G h f e L):=by exact aA (wx j) λÈ É H=>aA ((a J1).lK É<|hM<|qc H) λÊ Ø Ì=>hK (Ø.va<|a J1) λh e Ó f Î=>dK ((n J4) _ å (Zq.Cf.sp c) r (n J3) Ê Ø h e Ó f Î) λX z=>aA z λL X v=>⟨h,e,f,L,Î J3,ax Î.bH Ì,v⟩
  refine Cb Ã λh e f L x o v=>?_;have Ñ:=XY Å (a V) d x<|aO o;have Ò:=V_ Æ Ç;have y:=IQ (a V) d (h:=L) x o Õ;refine eY ⟨_,_,n.push (a V) d (a J1) r j Õ (fh _) (λz=>ay z (zO _).symm) λN Ö y=> .sc Ö y<|W Ñ Ò,?_⟩ (b J1) (b J2) (W (b J3) Y) (xq Æ (b J4) Ç) λg m=>?_
  .simp only [bK,bK,Ð]
  .rcases i4.mp m with z|rfl
   .exact(b J5) g z
   .exact⟨_,k,v,W y<|aq _ Ñ,Ò⟩
 |red h f Ô Ù Z C Û x H Ú Ü=>
  rcases a.qq (bM t) Í with ⟨Ý,j,N⟩|⟨j,Þ,ß,N⟩|⟨j,N⟩
  .exact ay (af N.symm C)<|mC Û
  .have à:=eI<|p9.mp<|af C.symm N;subst à;refine zl (p.red (a V) (a J1) r (bM t) ß) λá â ã ä=>?_;obtain rfl:=aC<|af x.symm<|ä V;have q:Z=U l-U f.aQ:=by simp only [<-Ð,H,vM]
   have æ:c.st[Z]?=J â:=W q<|ä J3;refine W (aC<|af Ú.symm æ) ?_;have rl:=(a V).toGW.lt f<|aO x;have ç:Z<=U l:=W q (mi ..);have è:U (aF Z l)=Z:=by simp only [dS,gf ç]
   have é:=jt Û;refine dK (((a J1).we (a V).toGW<|y9 t).2.1 h ß) λX z=>aA z λê ë Ø=>?_;obtain rfl:=aC<|af x.symm ë;refine dK ((n J4) _ å c.sp r (n J3) _ ⟨_,bM t,Ø⟩ h _ _ f (gW x<|bb _)) λX z=>aA z λL ì v=>?_;rw [<-q] at ì;have í:lK G h f (U f.aQ) L=(nm G f.aY,R (nm G) f.aQ,U f.aQ,L):=by unfold lK;exact W (d4 é) Y
   rw [í] at v;have î:∀e,e+Z<=U l->∀I,Ë[Z+e]?=J I->L<=I/\(I=L->∀g<e,∀s,l[Z+g]?=J s->nm G s∈vv D):=by
    refineλe=>e.rec (by exactλX I ï=>by rw [Zy,ì] at ï;exact W (aC ï)<|⟨bb _,λX g m=>ay m<|fC g⟩) λe ð=>λo I ï=>?_
    have ñ:e+Z<U l:=by rw [s?] at o;exact o
    rw [eT] at ñ;obtain⟨ò,ó⟩:∃ò,Ë[Z+e]?=some ò:=cM _<|bM<|W n.pl<|rM ñ;have ô:=ð (W (eT ..)<|bT ñ) ò ó;have õ:=(n J5) _ _ ò I (bM ñ) ó ï;refine⟨ae ô.1 õ.1,λz g m s p=>?_⟩;have ö:=hJ (z▸õ.1) ô.1;rcases i4.mp m with ø|rfl
    .exact ô.2 ö g ø s p
    .rw [bM ñ] at p;exact ax (aC p)<|õ.2<|af ö z.symm
   have ù:Z+U f.aQ=U l:=W q<|Ao<|ä J1;have o:=î (U f.aQ) (by simp only [eT,ù];exact bb _) c.sp<|W ù<|n J3;have ú:L=c.sp->nm G f.aY∈vv D:=λz=>by refine Å.ag1 (d.mem é x) λN û=>?_;obtain⟨s,p,rfl⟩:=mm û;refine bp (gs.mp p) λg m=>o.2 z.symm g (gl m) s ?_;have ü:=aq (·[g]?)<|ä J2;rw [Jl,<-q,m] at ü;exact ü
   have m:f.aY≠0:=λz=>ay (z▸rl.1.1)<|ak xN<|cc (ao Y) (a V).t3;refine eY ⟨_,_,(n.cut ç ì).push (a V) d (a J1) ?_ ((a.zj rl.1.1<|p.lt (a J1) Ú).mp Ü) m o.1 ú λN Ö y=>?_,?_⟩ (b J1) (b J2) (b J3) (b J4)<|b J5
   .rw [è,g6,aJ<|ha Z];exact Ú
   .rcases DJ o.1 with z|z
    .exact .co v (c6<|bB _) z Ö y
    .subst z;exact .sk Ö y<|ú Y
   .simp only [bK,bK,è,dS,Ð,gf ç]
  .exact ay (eI<|p9.mp<|af C.symm<|af N (af Nk.symm Y:_= -((0:O):au)))<|jt Û
def l_(a:fK)(c:q<U i)(d:t<G.nT)(h:el B q t=1048576):t=0/\∃b,go i q 0=J b:=by
 rcases a.qq (bM c) d with ⟨b,g,x⟩|⟨g,r,e,x⟩|⟨g,x⟩
 .cases z:aE t 0 with
  |true=>have z:=eb z;exact ax z<|⟨Y,b,g⟩|false=>exact ay ((a J1).wa g)<|ak fS<|ae (bT<|(a J1) J2)<|c6 (z▸(eI<|af x.symm h)).symm
 .exact ay (af h.symm x)<|mC (a.vK (aO<|bM c) e).1
 .exact ay (eI<|af h.symm x)<|ao Y
class inductive Dr(G:Gr):aa O->aa O->Prop
|nil:Dr G [] []|tm {t r a} (h:t<G.nT) (d:Dr G r a):Dr G (t::r)<|t::a|nt {k:O} {b:Ru} {r c a:aa O} (e:G.a9[k]?=J b) (n:b.aY≠G.nT) (d:Dr G b.aQ c) (f:Dr G r a):Dr G (b.aY::r)<|c++a
class inductive iQ(G:Gr)(B:Tb)(Z:aa O):aa O->O->Prop
|acc {st a q t} (d:cG st=J q) (e:(Z++[0])[a]?=J t) (h:el B q t=1048576):iQ G B Z st a|nc {st a q t} (b:O) (d:cG st=J q) (e:(Z++[0])[a]?=J t) (h:el B q t=b) (p:0<b) (l:b<1048576) (r:iQ G B Z (st++[b])<|a+1):iQ G B Z st a|red {st a q t} (r:O) (c:Ru) (p f m:O) (d:cG st=J q) (e:(Z++[0])[a]?=J t) (h:el B q t= -(r:au)) (g:0<r) (j:G.a9[r]?=J c) (k:U st=m+1+U c.aQ) (n:st[m]?=J p) (o:cL (F B.nQ p []) c.aY=J f)
 (s:iQ G B Z (aF (m+1) st++[f]) a):iQ G B Z st a
def L!(a:fK)(o:B.n1=[])(q:EH G i (CH X M) s){f}(j:g4 st g)(b:st[g.length]?=J p)(e:Rat G i p r c)(v:s p c.aY t)(k:g4 f<|g++c.aQ)(x:f[(g++c.aQ).length]?=J d)(y:pv i p c.aQ=J d)
 (l:aF st.length f=st)(m:t<G.nT)(z:(Z++[0])[n]?=J t)(Â:∀h,go i p c.aY=J h->iQ G B Z (st++[h]) n):iQ G B Z f n:=by
 refine aA e.it λH I L=>aA ((a J1).pQ I L) λh N U=>?_;have Z:0<r:=qz λn=>by have s:=e.h;rw [n,(a V).r0] at s;obtain rfl:=aC s;exact e.n Y
 have H:=(j V).symm;refine .red r c p h g.length (k.jw▸x) z ((by
  refine aA ((q J2) p r c d t e y v) λI L Ä=>?_;refine dK (((a J2) V J1 d r).mp<|aO L) λU n=>aA n λv x y=>?_;refine rK ((a J3) J4 d v x (gl x) J1) λz I lk Å À Á=>?_;have Z:=qz (((a J1).we (a V).toGW<|aO x).2.1 r y).1;have x:=Á o t m;refine aA (mm ((lk V)▸y:r∈R (·.1) z)) λo b y=>?_;have C:o.2.testBit t=true:=by refine aA ((lk J1) o b) λÃ q v=>?_;rw [y] at q;obtain⟨Æ,Ç⟩:=kq.mp L;obtain⟨È,L⟩:=kq.mp q;rw [v,<-(zQ<|(a J2) V V).mp (Ç.trans L.symm)];exact Ä
  have q:∀o∈z,o.2.testBit t=Q->o.1∈rl z t:=λo b v=>y2.mpr ⟨o,b,by unfold Ag;refine W v ?_;rfl⟩;have L:=(x V).resolve_left λn=>by have s:=q o b C;exact bG<|n▸s
  have z:I.getD t 0= -(r:au):=by
   rcases(Å J2) t m L with ⟨m,L,É,v⟩|⟨_,n⟩
   .have Æ:=q o b C;simp only [v,l1m (x J1) (q m L É) Æ,y]
   .exact bU<|(n o b).symm.trans C
  have x:=λn=>jt Z<|eI<|VX.mp n;rcases À with ⟨o,y⟩|⟨o,C,y⟩
  .have q:xp B d t= -(r:au):=by unfold xp;exact W y z
   simp only [Eg<|q▸x,q]
  .have q:xp B d t=wo (B.rg.getD d 0) (I.getD t 0):=by unfold xp;rw [y,WV (b:=(0:au))<|JC<|mC<|qz o]
   by_cases v:I.getD t 0= -(B.rg.getD d 0:au)
   .rw [WG v] at q;simp only [ED q,<-z,v];rfl
   .rw [JC v,z] at q;simp only [Eg<|q▸x,q])) Z e.h ?_ ?_ ((a.zj ((a V).toGW.lt c<|aO e.h).1.1<|j.lt (a J1) b).mpr N) ?_
 .simp only [k V,a4,jN]
 .have s:(aF st.length f)[g.length]?=J p:=W l b;rw [g6,aJ<|ax H<|ha _] at s;exact s
 .rw [H,l];exact Â h N
def zu{a b:aa d}(h:cq c a=x::b):a[c]?=J x/\cq (c+1) a=b:=⟨by refine ax (B4)<|W h ?_;rfl,by refine ax Cn<|W h ?_;rfl⟩
def cpl(b:fK)(À:B.n1=[])(Ä:EH G i (CH X M) Â)(v:∀t∈Ò,t<G.nT)(Ã:Dr G l e):∀{c d} {h p r g f t} {a} {j},g4 c d->c[U d]?=J p->pv i h (aF g a.aQ)=J p->Rat G i h r a->cq g a.aQ=l->Â h a.aY t->cq f (Ò++[0])=e++t::j->
 (∀k q,g4 k (d++l)->k[U<|d++l]?=J q->pv i h a.aQ=J q->aF (U c) k=c->iQ G B Ò k (f+U e))->iQ G B Ò c f:=by
 have Á:∀{f t},(Ò++[0])[f]?=J t->t<G.nT:=λ{f t} y=>by
  rcases AQ y with ⟨_,y⟩|⟨_,z⟩
  .exact v t<|aO y
  .exact W z<|cc (ao Y) (b V).t3
 induction Ã with
 |nil=>
  refineλc d h p r g f t a j C H I L N Û s x=>x c p (W (dw ..) C) (W (dw ..) H) ?_ dI
  have o:=wR g a.aQ;rw [N,dw] at o;exact ax o I
 |@tm È ñ e Å Æ Ç=>
  intro c d h p r g f t a j C H I L N Û s x;have n:=zu N;have É:=zu s;refine aA L.it λÊ Ë Ì=>?_;have Í:=gl n.1;refine aA ((b J1).F0 (g:=a.aY) Ë Ì L.h g<|bT Í) λÎ Ï Ð=>?_;cases af Ï.symm I;refine aA ((b J1).pQ Ð<|W (gW L.h<|bT Í).bH n.1) λÑ Z T=>?_;have Ó:=C.lt (b J1) H;have Ô:r≠0:=λÕ=>by have o:=L.h;rw [Õ,(b V).r0] at o;cases o;exact L.n Y
  have Ö:È≠0:=λÕ=>by obtain⟨Ø,rfl⟩:=Sy Ô;exact(b V).e0 Ø a L.h<|Õ▸aO n.1
  have Ù:el B p È=(Ñ:O):=by
   rcases b.qq (bM Ó) Å with ⟨Ú,v,Ü⟩|⟨v,_,_,_⟩|⟨v,_⟩
   .rw [d4 Ö] at Ü;rw [Z] at v;exact W (aC v) Ü
   .exact iG<|Z▸v
   .exact iG<|Z▸v
  refine .nc Ñ (C.jw▸H) É.1 Ù (qz<|(b J1).Jk Z) (e8 ((b J1).wa Z)<|(b J1) J2)<|Ç (C.tH H Z) (p:=Ñ) ?_ ?_ L n.2 Û É.2 λk q â Ý Þ ß=>?_
  .simp only [bK,<-(C V)];exact vE Y
  .simp only [fQ n.1,G6,I];exact Z
  .have à:d++[È]++ñ=d++È::ñ:=dy ..;rw [à] at â Ý;have o:=x k q â Ý Þ ?_
   .rw [hS,eT<|U e,<-cA] at o;exact o
   .have o:=aq (·.take (U c)) ß;rw [LI,bK,gf<|fh _,B5] at o;exact o
 |@nt á v ñ ã ä å æ Æ ç è é=>
  intro c d h p r g f t a j C H I L N Û s x;have n:=zu N;refine aA L.it λÊ Ë Ì=>?_;have Í:=gl n.1;refine aA ((b J1).F0 (g:=a.aY) Ë Ì L.h g<|bT Í) λÎ Ï Ð=>?_;cases af Ï.symm I;have ê:bH G _=J v.aY:=W (gW L.h<|bT Í).bH n.1;have ì:Rat G i p á v:=⟨⟨_,Ð,ê⟩,å,æ⟩;have ë:Go G i h r a g v.aY p:=⟨L,n.1,((b V).toGW.lt v<|aO å).1.1,I⟩;obtain⟨h,ð,í,î⟩:∃h ð,ä++t::j=h::ð/\Â p v.aY h:=by
   have ï {l:aa O} {e:aa O} (Ã:Dr G l e):(e=[]/\∀N∈l,m6 G N)\/∃t m,e=t::m/\Fs G l t:=by
    induction Ã with
    |nil=>exact aL ⟨Y,λT y=>bG y⟩|tm y _ _=>exact aw ⟨_,_,Y,[],_,_,Y,λT y=>bG y, .t y⟩|@nt x a r j e ó ò Æ ç è é=>
     have ô:=aO ó;rcases è with ⟨rfl,Ï⟩|⟨t,m,rfl,⟨l,õ,ö,z,ø,ù⟩⟩
     .have ú:m6 G a.aY:= .mk a ô Ï;rcases é with ⟨rfl,Ð⟩|⟨t,m,rfl,⟨l,õ,ö,z,ø,ù⟩⟩
      .exact aL ⟨Y,λN û=>aP (mc û) (λz=>z▸ú)<|Ð N⟩
      .exact aw ⟨t,m,Y,a.aY::l,õ,ö,aq _ z,λN û=>aP (mc û) (λz=>z▸ú)<|ø N,ù⟩
     .exact aw ⟨t,m++e,Y,[],a.aY,r,Y,λT y=>bG y, .r l õ ö ô z ø ù⟩
   rcases ï ç with ⟨rfl,a⟩|⟨h,m,rfl,e⟩
   .exact⟨t,j,Y,(Ä J1) _ _ _ _ _ _ ë (n.2▸a) t Û⟩
   .exact⟨h,m++t::j,Y,(Ä V) _ _ _ _ _ _ ë h (n.2▸e)⟩
  rw [dy,í] at s;refine è C H (g:=0) Y ì Y î s λr y z N l t=>?_;have g:cq (f+U ã) (Ò++[0])=h::ð:=by rw [<-Cn,s,O4]
  refine L! b À Ä C H ì î z N l t (Á (zu g).1) (zu g).1 λÑ Z=>é (C.tH H Z) (p:=Ñ) ?_ ?_ L n.2 Û (af g í.symm) λk q â Ý Þ ß=>?_
  .simp only [bK,<-(C V)];exact vE Y
  .simp only [fQ n.1,G6,I];exact Z
  .have à:d++[v.aY]++ñ=d++v.aY::ñ:=dy ..;rw [à] at â Ý;have o:=x k q â Ý Þ ?_
   .rw [a4,<-cA] at o;exact o
   .have o:=aq (·.take (U c)) ß;rw [LI,bK,gf<|fh _,B5] at o;exact o
def akc(a:fK)(b:B.n1=[])(c:∀t∈Z,t<G.nT)(d:Dr G [G.iU] Z):iQ G B Z [0] 0:=by
 refine bp ((a J2) J3) λe f=>?_;generalize g:[G.iU]=h at d
 induction d with
 |nil=>cases g|tm h j=>cases g;exact ay h<|ak fS<|bT (a V).st|@nt k l r m n o n j p=>
  have q:=a5 (hq g).1;have s:=a5 (hq g).2;subst s;cases p;refine aA ((a J1) J1) λv x y=>?_;have z:=u6<|a V;have C:xZ 0 0:=⟨v,x,(a J1).Gf (aO x) 0<|W y hf⟩;have H:Rat G i 0 k l:=⟨⟨0,C,W q z.bH⟩,o,n⟩;have I:e 0 l.aY 0:=W q<|f J3;have L:0<G.nT:=cc (ao Y) (a V).t3;rw [dw] at c⊢;refine cpl a b f c j Bm Y (g:=0) Y H Y I Y λN Z t h r g=>W (eF ..) ?_;have p:_[U m]?=J 0:=vE Y;refine L! a b f Bm Y H I t h r g L p λs v=>?_;rw [q] at v;refine aA ((a J1).pQ C z.bH) λx y k=>?_;cases af v.symm y;have o:=(gW (a V).r0 (d:=1)<|bl Y).bH;rw [<-z.c8] at o;refine aA ((a J1).pQ k o) λn e X=> .acc (q:=s) Y p ?_;rcases a.qq (bM<|(a J1).wa v) L with ⟨l,g,x⟩|⟨g,_,_,_⟩|⟨g,_⟩
  .exact x
  .exact iG<|af e.symm g
  .exact iG<|af e.symm g
def RB{G}(h:z<G.nS):G.cI[z]?=J (nm G z):=by unfold nm;refine W (cY)<|W (bM h) ?_;rfl
def Dn.dr(b:fW)(c:fm)(d:∀z<G.nS,nm G z∈e3->z<G.nT)(e:km f g):∀{a},(∀z∈a,z<G.nS)->R (nm G) a=f->Dr G a (R (tn G) g):=by
 refine @(e.rec (λZ e=>a5 (S1.mp e)▸ .nil) (λh j k=>?_) λm j l n o=>?_)
 .intro a l e
  induction a with
  |nil=>cases e|cons z r=>
   have e:=hq e;have p:=d z (l z b8)<|e.1▸h;have q:tn G (nm G z)=z:=by
    unfold tn;rw [NZ<|SM (Ri ..)<|b J6]
    .rfl
    .exact W (g6)<|W (aJ p)<|RB<|e8 p c.toGW.nT
   simp only [tN,<-e.1,q];exact .tm p<|k (λy s=>l y<|cy _ s) e.2
 .intro a l e
  induction a with
  |nil=>cases e|cons z r=>have e:=hq e;refine bp (gs.mp m) λk t=>hv ((b J1) k _ _ t) λv x C H=>?_;exact W (ye (b J6) (RB<|l z b8)<|e.1▸C)<|W dq<| .nt x (c.rs k v x) (n (λy s=>(c.lt v<|aO x).2 y s) H.symm)<|o (λy s=>l y<|cy _ s) e.2
def Yp(a:fW)(b:fK)(c:B.n1=[])(d:∀z<G.nS,nm G z∈e3->z<G.nT)(e:km ["s"] f):iQ G B (R (tn G) f) [0] 0:=by
 refine akc b c (λt g=>?_)<|e.dr a (b V) d (λz h=>a5 (ms h)▸(gl<|a J2)) ?_
 .obtain⟨k,_,rfl⟩:=mm g;exact tg (b V).toGW k
 .rw [tN,OQ a];rfl
def i'(c:fW)(d:e5){b:O}(e:(a++["$end"])[b]?=J k):(R (tn G) a++[0])[b]?=J (tn G k):=by
 have f:R (tn G) a++[0]=R (tn G) (a++["$end"]):=by simp only [dq,tN,B8 c d];rfl
 simp only [f,cf,e];rfl
def Lz{r:O}(a:0<r): -(r:au)≠0:=λz=>jt a<|eI<|VX.mp z
def Ql{a r:O}(b:0<r):(a:au)≠-(r:au):=by lia
def iQ.inv{b:Prop}(g:iQ G B Z st d)(e:cG st=J q)(f:(Z++[0])[d]?=J t)(h:el B q t=1048576->b)
 (j:∀x:O,el B q t=x->0<x->x<1048576->iQ G B Z (st++[x]) (d+1)->b)
 (k:∀(r:O) a p c m,el B q t= -(r:au)->0<r->G.a9[r]?=J a->U st=m+1+U a.aQ->st[m]?=J p->cL (F B.nQ p []) a.aY=J c->iQ G B Z (aF (m+1) st++[c]) d->b):b:=by
 induction g with
 |acc l n o=>exact h<|W (aC<|af e.symm l)<|W (aC<|af f.symm n) o|nc x l n o p s r=>exact j x (W (aC<|af e.symm l)<|W (aC<|af f.symm n) o) p s r|red r a p c m l n o v y z C H I=>exact k r a p c m (W (aC<|af e.symm l)<|W (aC<|af f.symm n) o) v y z C H I
def iQ.na{c:Cf}(a:iQ G B Z c.st c.sp)(b:cG c.st=J q)(d:(Z++[0])[c.sp]?=J (tn G k)):el B q (tn G k)≠0:=λz=>a.inv b d (λh=>ay (af z.symm h)<|ao Y) (λx h p X X=>jt p<|eI<|af h.symm z) λr X X X X h e X X X X X=>Lz e<|af h.symm z
def iQ.step(a:iQ G B Z c.st c.sp)(f:U c.st=U c.ts+1)(b:cG c.st=J q)(d:(Z++[0])[c.sp]?=J (tn G k))(s:lT c k q A e):iQ G B Z e.st e.sp:=by
 generalize g:(A:ba bc)=o at s
 induction s with
 |acc h=>exact aI g|rk h e j=>exact aI g|oh h e l p m o=>exact aI g|mD h=>exact ay h<|a.na b d|nc x h p l=>exact a.inv b d (λn=>ay l<|ak fS<|c6 (eI<|af h.symm n).symm) (λy n Y Y r=>(eI<|af h.symm n)▸r) λr t p v z n C Y Y Y Y Y=>ay (af h.symm n)<|Ql C|red r t p v z h C H e m I=>refine a.inv b d (λn=>ay (af n.symm h)<|Ql C) (λy n Y Y Y=>ay (af n.symm h)<|Ql C) λL N c Z q n Y k s j g o=>?_;have x:r=L:=eI<|p9.mp<|af h.symm n;have l:t=N:=aC<|af H.symm<|x▸k;have a:z=q:=Li (m:=U t.aQ)<|af e.symm<|fZ<|af f.symm<|af (l▸s:_=q+1+t.aQ.length) (jN ..);have b:p=c:=aC<|af m.symm<|a▸j;have d:v=Z:=aC<|af I.symm<|b▸l▸g;exact a▸d▸o
def gB.pre(s:lT c k q o a):(∃r,a.fl=c.fl++r)/\∃r,a.pl=c.pl++r:=by
 have z:∀{b} (d:aa b),∃r,d=d++r:=λd=>⟨[],a5<|dw _⟩;have e:(∃r,eK G B c k q=c.fl++r)/\∃r,eE c=c.pl++r:=by
  delta eK eE;cases aE c.qu 0 with
  |true=>exact⟨⟨_,Y⟩,_,Y⟩|false=>exact⟨z _,z _⟩
 induction s with
 |oh=>exact e|mD=>exact e|_=>exact⟨z _,z _⟩
def nN.pre(r:jr c o):∀{b} {a},o=J (b,a)->(∃r,a.fl=c.fl++r)/\∃r,a.pl=c.pl++r:=by
 induction r with
 |ov h=>exact aI|eo=>exact aI|en h d e s l=>intro b a f;cases f;exact s.pre|st h d e s r g=>intro b a f;obtain⟨⟨j,k⟩,m,n⟩:=s.pre;obtain⟨⟨p,q⟩,t,v⟩:=g f;exact⟨⟨j++p,W q<|W k (dy ..)⟩,m++t,W v<|W n (dy ..)⟩
inductive S'(D:gj)(a:aa bo)(G:Gr)(B:Tb)(c:Cf)(f:bc)(b:Cf):Prop
|ok (k:f=Q) (g:b.fl=[]) (l:Ea D (vv D) a (U a)<|iz ug) (h:∀j<U a,HE D a j)|jG (p:O) (m:c.sp<=p) (lp:p<=U a) (g:b.fl≠[]) (n:mj b.pl=J p) (h:∀j<p,HE D a j) (o:∀d:aa bo,(∀e≤p,(d++["$end"])[e]?=(fB a)[e]?)->¬iQ G B (R (tn G) d) c.st c.sp)
def aeE(Ã:k8)(e:fW)(a:fK)(Ä:"$end"∉P)(r:jr c o):Cl D P G i c->∀{d} {b},o=J (d,b)->S' D P G B c d b:=by
 have h:∀{c b} {k} {q},Cl D P G i c->(fB P)[c.sp]?=J k->cG c.st=J q->el B q (tn G k)=0->(∃r,b.fl=eK G B c k q++r)->(∃r,b.pl=eE c++r)->∀{d},S' D P G B c d b:=by intro c b k q j l m n ⟨p,s⟩ ⟨t,v⟩ d;unfold eK at s;unfold eE at v;rw [j J3] at s v;exact .jG c.sp (bb _) (j J4) (W s<|W (j J1) jJ) (W v<|W (j J2) Y) (j J5) λx y z=>z.na m (i' e (a V).toGW<|af (y _ (bb _)) l) n
 have C:∀{H} (I:aa H),∃r,I=I++r:=λI=>⟨[],a5<|dw _⟩
 induction r with
 |ov n=>exactλX X X L=>aI L|eo=>exactλX X X L=>aI L|@en c b k q d n l m N Ç=>
  intro j t Â L;cases L;generalize eo:J d=o at N
  induction N with
  |acc n=>
   have Á:c.sp=U P/\kg (vv D) P (U P) (iz ug):=by
    refine ht (j V) λË À I H=>?_;have f:=I V;have g:=f.jw▸m;obtain⟨Å,Æ,Ï⟩:=l_ a (f.lt (a J1) g) (tg (a V).toGW k) n;have L:c.sp=U P:=by
     rcases AQ l with ⟨_,n⟩|⟨L,_⟩
     .exact ay ((I2 e (a V).toGW).mp Å▸aO n) Ä
     .exact L
    refine br L<|ax L<|aA (wx Ï) λÈ É v=>aA ((a J1).lK É<|hM<|qc v) λÊ v t=>hK (v.va<|a J1) λp Ì Í Î Z=>?_;obtain⟨_,Ð,Ñ,Ò⟩:=(I J4) _ q c.sp g (I J3) Ê v p Ì Í Î Z;rw [Z.bH] at t;have v:p=0:=by
     induction p with
     |zero=>rfl|succ r=>exact ay (aO t)<|(a V).e0 r Î<|Z J3
    subst v;obtain rfl:=aC<|af (Z J3).symm (a V).r0;have p:Ì=1:=jR (a:=(·=1)) t (λL=>ay ((show G.iU=0 from L)▸(a V).st:G.nT<0)<|fC _) λX=>rfl;subst p;rw [f.acc (a V) (a J1) g Ï] at Ñ;have Z:Ð=0:=by have v:=af Ñ.symm<|I J2;exact aC v
    subst Z;exact Ò
   refine dK Á λs f=>?_;cases eo;exact .ok Y (j J1) f λg t=>(j J5) g<|s▸t
  |rk n L p=>exact wC<|af (j J3).symm L|oh n=>exact h j l m n (C _)<|C _|nc=>cases eo|red=>cases eo|mD=>cases eo
 |@st c b k q o n l m N r Z=>
  intro j d Â L
  by_cases v:el B q (tn G k)=0
  .have f:=r.pre L;generalize eo:(A:ba bc)=s at N
   induction N with
   |acc n=>cases eo|rk=>cases eo|oh=>cases eo|mD n=>exact h j l m v f.1 f.2|nc z n p Ç=>rw [v] at n;exact ay (eI n)<|fI p|red r g p Æ t n o=>rw [v] at n;exact ay n.symm<|Lz o
  .have C:=j.step Ã e a l m v N;have d:c.sp<=b.sp:=by cases N with
    |nc=>exact fh _|red=>exact bb _|mD n=>exact ay n v
   refine ht (j V) λË À I H=>?_;have k:U c.st=U c.ts+1:=W ((I V) V)<|W H Y;cases Z C L with
   |ok L q z h=>exact .ok L q z h|jG p f lp q s h r=>exact .jG p (ae d f) lp q s h λx y z=>r x y<|z.step k m (i' e (a V).toGW<|af (y _ (ae d f)) l) N
def Zu(f:k8)(d:fW)(a:fK)(j:∀z<G.nS,nm G z∈e3->z<G.nT)(g:∀l∈P,l∈iK)(r:jr c0<|J (k,h))(b:RH D (vv D) P c e):
 (k=Q->h.fl=[]->e=Q)/\(B.n1=[]->(e=Q->k=Q/\h.fl=[])/\(e=u->mj h.pl=J c)):=by
 have m:∀p≤U P,(∀n<p,HE D P n)->p<=c:=λp o q=>by
  refine j5 λs=>gw (q c s) λx y t v C=>?_;rcases(b J2) with ⟨z,_⟩|⟨_,_,H⟩
  .exact ay (z▸s)<|ak fS o
  .exact H x y t v C
 cases aeE f d a ((λh=>by
 have I:=g _ h;revert I;decide+kernel)) r (.zero (a V) d<|a J1) Y with
 |ok v L N q=>
  have Z:=hJ (b V)<|m _ (bb _) q;have k:e=true:=by
   rcases(b J2) with ⟨_,z⟩|⟨z,_⟩
   .exact ak z<|Z▸N
   .exact ay (Z▸z)<|j7 _
  exact⟨λX X=>k,λX=>⟨λX=>br v L,λz=>by rw [k] at z;exact bU z⟩⟩
 |jG p l lp L n q o=>
  refine⟨λX z=>ay z L,λs=>⟨λk=>?_,λX=>?_⟩⟩
  .rcases(b J2) with ⟨v,z⟩|⟨_,z,_⟩
   .have N:=z.mp k;exact ay (Yp d a s j<|(by have I:=(v▸N).s f g V;unfold gK at I;rw [dI] at I;exact I))<|o P λX X=>rfl
   .rw [k] at z;exact bU z
  .refine W n<|aq J<|hJ (m p lp q)<|j5 λH=>gw ((b J1) p H) λx y t v C=>bp (ah4 f g t v C) λv r=>o _ (λc Z=>?_) (Yp d a s j r);have h:=gl C;have e:c<U (aF _ P):=W dS<|ak Xd ⟨ic Z,cF Z h⟩;unfold fB;simp only [dy,rD e,rD<|cF Z h,g6,aJ<|ic Z]
def ur(x):=aD (eX x 0) 0<|aD (nx x 0) 1<|aD (nx x 1048576) 2 3
def R3(h:x=0):ur x=0:=by unfold ur;exact W pB<|W (eV h) Y
def Ű{r:O}(h:x= -(r:au))(a:0<r):ur x=1:=by unfold ur;exact W h<|W pB<|W (gn<|Lz a)<|W xe<|W (eV<|O5<|ak hn a) Y
def ah8{x:au}{a:O}(h:x=a)(p:0<a)(l:a<1048576):ur x=2:=by unfold ur;exact W h<|W pB<|W (gn λz=>jt p<|eI z)<|W xe<|W (gn<|ak hB<|cj a)<|W xe<|W (eV<|ak hn l) Y
def agU(h:x=1048576):ur x=3:=by unfold ur;exact W h<|W pB<|W xe<|W xe Y
def D?(G:Gr)(B:Tb)(c:Cf)(r:O)(a:Ru)(m p:O):Cf:=⟨aF (m+1) c.st++[dN (cL (F B.nQ p []) a.aY) 0],aF m c.ts++[lV (F G.cI a.aY "")<|cq m c.ts],c.fl,c.mv++[dz "reduce" r],c.pl,c.sp,c.qu⟩
def Sa(G)(B)(c)(r)(a)(m):=D? G B c r a m<|F c.st m 0
def Θ(G)(B)(c)(r)(a):=Sa G B c r a<|U c.ts-U a.aQ
def S8(G)(B)(c)(r):=Θ G B c r<|dN G.a9[r]? ⟨0,[],0⟩
open Classical in
noncomputable def LO(B:Tb):O->aa O->aa ai->aa ai->aa O×aa ai×aa ai
|0,a,b,c=>(a,b,c)|n+1,a,b,c=>if h5 B (dN (cG a) 0) then(a,b,c) else LO B n (ku a) (ku b)<|c++[dz "pop"<|dN (cG a) 0]
def K9(B)(st)(a b):=LO B (U st-1) st a b
def gH.fn{a b c d e f}(h:gH B a b c d e f):K9 B a b c=(d,e,f):=by
 induction h with
 |@ok a b c q h o=>unfold K9;cases U a-1 with
  |zero=>rfl|succ n=>exact aJ<|a5 h▸o
 |one=>rfl|@pop a b c d e f q v n o r g=>
  induction a with
  |nil=>exact ay Y n|cons x t=>refine af ?_ g;show LO B _ _ _ _=_;refine W a4 ?_;have l:cG (x::t++[q])=J q:=pn;refine af (aS<|a5 l▸o)<|W l<|W wW<|W wW Y
open Classical in
def GI(G:Gr)(B:Tb)(c:Cf)(k:bo)(q:O)(x:aa O×aa ai×aa ai):ba bc×Cf:=if h5 B (dN (cG x.1) 0) then(A,⟨x.1++[cK<|xp B (dN (cG x.1) 0) 1],x.2.1++[vf],eK G B c k q,x.2.2++[dz "error"<|cK<|xp B (dN (cG x.1) 0) 1],eE c,fz c,3⟩) else(J u,⟨x.1,x.2.1,eK G B c k q,x.2.2,eE c,fz c,3⟩)
def Vy(c:Cf)(k:bo)(a:O):Cf:=⟨c.st++[a],c.ts++[xj k c.sp],c.fl,c.mv++[dz "shift" a],c.pl,c.sp+1,c.qu-1⟩
open Classical in
def ķ(G)(B)(c)(k)(q):=if c.qu=3/\k="$end" then(J u,c) else GI G B c k q<|K9 B c.st c.ts<|gD c<|tn G k
def aex(G:Gr)(B:Tb)(c:Cf)(k:bo)(q:O):O->ba bc×Cf
|0=>ķ G B c k q|1=>(A,S8 G B c<|cK<| -el B q (tn G k))|2=>(A,Vy c k<|cK<|el B q<|tn G k)|_=>(J Q,⟨c.st,c.ts,c.fl,c.mv++[n9 "accept"],c.pl,c.sp,c.qu⟩)
def akq{x:au}{a:O}(h:x=a):cK x=a:=W h<|z8 _
def akj{r:O}(h:x= -(r:au)):cK (-x)=r:=W h<|W (NG _)<|z8 _
def ZN(e:c.qu=3->k≠"$end")(a:gH B c.st c.ts (gD c<|tn G k) st b d):ķ G B c k q=GI G B c k q (st,b,d):=af (aS λz=>e z.1 z.2)<|aq _ a.fn
def gB.fn(s:lT c k q o a):(o,a)=aex G B c k q (ur<|el B q<|tn G k):=by
 induction s with
 |acc h=>exact W (agU h) Y|nc a h p l=>exact W (ah8 h p l) (aq (λa=>(A,Vy c k a))<|akq h).symm|red r b p d m h e f g j n=>exact W (Ű h e) (aq _ (af (aq _ (akj h))<|(by have t:U c.ts-U b.aQ=m:=W g (vM ..);have v:F c.st m 0=p:=W (cY ..)<|W j Y;unfold S8;refine W f (?_:Sa _ _ _ _ b _=_);refine W t ?_;unfold Sa;refine W v ?_;unfold D?;exact W n Y))).symm|rk h g x=>exact W (R3 h) (aJ ⟨g,x⟩).symm|oh h g y p j z=>exact W (R3 h) (af (ZN g y)<|(by unfold GI;exact W j<|aS z)).symm|mD h g y p j a z C=>exact W (R3 h) (af (ZN g y)<|(by unfold GI;rw [j,aJ (show h5 B (dN (J p) 0) from z),show xp B (dN (J p) 0) 1=a from C,z8])).symm
def gB.QJ(s:lT c k q o d)(e:f=J k)(g:v=J q)(h:f=J j)(l:v=J m)(t:lT c j m a b):a=o/\b=d:=
rN<|af (W (aC<|af e.symm h) (W (aC<|af g.symm l) t):lT c k q a b).fn s.fn.symm
def nN.over(t:jr c y)(h:60<U c.mv):y=none:=by
 induction t with
 |ov=>rfl|st a=>exact ay h<|ak fS a|en a=>exact ay h<|ak fS a|eo a=>rfl
noncomputable def alf(c:Cf)(b:bc):=if 60<U c.mv then A else J (b,c)
def nN.step(t:jr c y)(h:U c.mv<=60)(a:(fB P)[c.sp]?=J k)(d:cG c.st=J q)(s:lT c k q o e):(o=A->jr e y)/\∀b,o=J b->alf e b=y:=by
 induction t with
 |ov f=>exact ay f<|ak fS h|st f g j l m=>have z:=s.QJ a d g j l;exact⟨λZ=>ax z.2 m,λb e=>iG<|af e.symm z.1.symm⟩|en f g j l n=>have z:=s.QJ a d g j l;exact⟨λe=>iG<|af z.1 e,λb e=>ax z.2<|ax (aC<|af z.1 e)<|aS<|ak fS n⟩|eo f g j l n=>have z:=s.QJ a d g j l;exact⟨λe=>iG<|af z.1 e,λb e=>ax z.2<|aJ n⟩
def nN.det(r:jr c x):∀{y},jr c y->x=y:=r.rec (λh=>λt=>a5<|t.over h) (λh a b s r d=>λt=>d<|(t.step h a b s).1 Y) (λh a b s l=>λt=>af (aS<|ak fS l).symm<|(t.step h a b s).2 _ Y) λh a b s l=>λt=>af (aJ l).symm<|(t.step h a b s).2 _ Y
abbrev nC:=Lw D
def Lw.up(h:nC d a b c):nC (d+1) a b c:=h.rec qM (λr e=> .lf e) λa m b f g=> .nd f m g
def Lw.app(h:nC d a b c)(k:nC d e f g):nC d (a++e) (b++f) (c++g):=by
 induction h with
 |nil=>exact k|lf r j=>exact .lf<|j k|nd a m b _ j=>exact .nd a m<|j k
def Lw.cut(h:nC d a b c):∀m,nC d (aF m a) (aF m b) (aF m c)/\nC d (cq m a) (cq m b) (cq m c):=by
 induction h with
 |nil=>intro m;cases m<;>exact br qM qM|lf r e=>
  intro m
  induction m with
  |zero=>exact br qM<| .lf r|succ m=>exact⟨.lf (e m).1,(e m).2⟩
 |nd a f b _ e=>
  intro m
  induction m with
  |zero=>exact br qM<| .nd a f b|succ m=>exact⟨.nd a f (e m).1,(e m).2⟩
noncomputable def lh(a)(j):=F a j ""++toString (j:au)
def sT(a)(n):=R (lh a)<|e1 n
def kx(y:aa bo):=y.filter λx=> !nh x ""
def TA:kx (x++y)=kx x++kx y:=F5 ..
def OI(D)(d)(G)(i)(c:Cf)(a)(b):=j4 (l6 i c.st a) (U c.ts=U a) (Lw D (U c.mv) c.ts (R (nm G) a) b) (yA (kx<|hc b)<|sT d c.sp)<|U (hc b)<=U c.mv
def qf(D)(a)(G)(i)(c):=oj (∃b d,OI D a G i c b d) (∀e f b,c.pl[e]?=J f->c.pl[e+1]?=J b->f+3<=b) (∀p,cG c.pl=J p->p+3<=c.sp+c.qu) (c.qu<=3) (c.sp<=U a)<|∀m∈c.mv,(∃g,m=n9 g)\/∃g f,m=dz g f
def qf.zero:qf D P G i c0:=eY ⟨[],[],ec Bm Y qM (List.nil_sublist _)<|bb _⟩ (λZ Z Z h=>aI h) (λZ h=>aI h) (cQ _) (cQ _) λZ h=>bG h
def Lw.ups(h:nC d a b c)(l:d<=e):nC e a b c:=l.rec h λZ f=>f.up
def gH.tk(h:gH B c a d g j f):U a+1=U c->∃n,n<=U a/\g=aF (n+1) c/\j=aF n a/\U d<=U f/\((∀m∈d,(∃b,m=n9 b)\/∃b e,m=dz b e)->∀m∈f,(∃b,m=n9 b)\/∃b e,m=dz b e):=by
 induction h with
 |@ok c a d q h o=>exactλl=>⟨U a,bb _,W l<|W dI Y,W dI Y,bb _,id⟩|@one q a d=>exactλl=>⟨0,cQ _,Y,Qs.mp<|fZ l,bb _,id⟩|@pop c a d k p r q v n o r s=>
  intro l;rw [bK,bK] at l;refine alh (s<|fZ l) λn t x y C H=>?_;have I:n+1<=U c:=ax (fZ l)<|b2 t;refine⟨n,W bK<|hI t,W (m? I) x,W (m? t) y,?_,λL=>H λm N=>?_⟩
  .rw [bK] at C;exact uM C
  .rcases ma N with z|z
   .exact L m z
   .exact aw ⟨"pop",q,ms z⟩
def OI.err(t:OI D P G i c b a)(h:gH B c.st c.ts e st f d)(g:U c.mv<=U e):∃n,n<=U b/\g4 st (aF n b)/\U f=U (aF n b)/\nC (U d) f ((aF n b).map<|nm G) (aF n a)/\yA (kx<|hc<|aF n a) (sT P c.sp)/\U (hc<|aF n a)<=U d/\U e<=U d:=by
 obtain⟨n,j,rfl,rfl,k,_⟩:=h.tk<|(t J1)▸a5 ((t V) V);have j:=(t J1)▸j;have mm:=ae g k;have l:yA (hc<|aF n a) (hc a):=by have m:=aq hc<|wR n a;rw [ua] at m;exact ax m (Yo ..)
 exact⟨n,j,(t V).cut j,W dS<|W dS<|aq _ (t J1),W si<|((t J2).cut n).1.ups mm,(l.filter _).trans<|t J3,ae l.length_le<|ae (t J4) mm,k⟩
def PZ:c.sp<=fz c/\U c.mv<=U (gD c<|tn G k)/\((∀m∈c.mv,(∃a,m=n9 a)\/∃a b,m=dz a b)->∀m∈gD c (tn G k),(∃a,m=n9 a)\/∃a b,m=dz a b):=by
 unfold fz gD;cases aE c.qu 3 with
 |true=>
  refine⟨fh _,W bK<|fh _,λh m d=>?_⟩;rcases ma d with z|z
  .exact h m z
  .exact aw ⟨"discard",tn G k,ms z⟩
 |false=>exact⟨bb _,bb _,id⟩
def Tj(a:c.sp<=U P)(b:(fB P)[c.sp]?=J k)(e:c.qu=3->k≠"$end"):fz c<=U P:=by
 unfold fz;cases z:aE c.qu 3 with
 |true=>exact xq b a<|e<|eb z|false=>exact a
def MP(h:a<=b):yA (sT P a) (sT P b):=by
 induction h with
 |refl=>exact ZC _|step _ c=>exact c.trans (by unfold sT;simp only [AG,dq];exact Yo ..)
def qf.eE(t:qf D P G i c):(∀a b d,(eE c)[a]?=J b->(eE c)[a+1]?=J d->b+3<=d)/\∀p,cG (eE c)=J p->p+3<=fz c+3:=by
 have e:=(PZ (k:="") (c:=c)).1;unfold Zq.eE;cases z:aE c.qu 0 with
 |false=>exact br (t J1)<|λp f=>ae ((t J2) p f)<|d2 e<|t J3|true=>
  refine(⟨λa b d g h=>?_,λp f=>?_⟩:(∀a b d,(c.pl++[c.sp])[a]?=J b->(c.pl++[c.sp])[a+1]?=J d->b+3<=d)/\∀p,cG (c.pl++[c.sp])=J p->p+3<=fz c+3)
  .rcases AQ h with ⟨l,h⟩|⟨j,rfl⟩
   .exact(t J1) a b d (rD (Fb l)▸g) h
   .rw [rD<|ax j<|ha a] at g;have k:=(t J2) b (by rw [yt,<-j,vM];exact g);rw [eb z] at k;exact k
  .rw [pn] at f;exact ax (aC f)<|f6 e 3
def IB(h:∀m∈c,(∃a,m=n9 a)\/∃a b,m=dz a b)(k:(∃a,x=n9 a)\/∃a b,x=dz a b):∀m∈c++[x],(∃a,m=n9 a)\/∃a b,m=dz a b:=λm d=>aP (ma d) (h m) λz=>ms z▸k
def qf.step(e:k8)(b:fW)(a:fK)(d:(fB P)[c.sp]?=J k)(f:cG c.st=J q)(t:qf D P G i c)(s:lT c k q o g):qf D P G i g:=by
 refine DE (t V) λh j l=>?_;have m:=l V;have n:=m.jw▸f;have p:=m.lt (a J1) n;have r:=tg (a V).toGW k
 induction s with
 |acc v=>exact eY ⟨h,j,ec m (l J1) ((l J2).ups<|W bK<|fh _) (l J3)<|W bK<|hI<|l J4⟩ (t J1) (t J2) (t J3) (t J4)<|IB (t J5)<|aL ⟨_,Y⟩|rk v x y=>exact t|nc z v C H=>
  refine dK (a.Qv p r v C H) λg I=>?_;have L:k≠"$end":=λN=>I<|W N<|B8 b (a V).toGW;refine ht ((by refine aA (wx g) λf Z x=>aA ((a J1).lK Z<|hM<|qc x) λq s y=>?_;exact hK (s.va<|a J1) λH I o N f=>⟨H,N,f J3,aO<|f.bH▸y⟩)) λH N Z q=>?_
  have s:k++toString (c.sp:au)=lh P c.sp:=by unfold lh;rw [cY,V_ d L];rfl
  refine eY ⟨h++[tn G k],j++[[lh P c.sp]],ec (m.tH n g) (W bK<|W bK<|aq _ (l J1)) ?_ ?_ ?_⟩ (t J1) (λC o=>ae ((t J2) C o) Ε) (ae (mi ..)<|t J3) (xq d (t J4) L)<|IB (t J5)<|aw ⟨_,_,Y⟩
  .simp only [bK,dq,tN,XY e (a V) b Z q];unfold xj;exact W s<|(l J2).up.app<| .lf qM
  .simp only [ua,TA];refine agN ((l J3).append List.filter_sublist) ?_;unfold sT;simp only [AG,dq];exact ZC _
  .simp only [bK,ua,a4];exact b2<|l J4
 |red H N C I y v f Z x o e=>
  rcases a.qq (bM p) r with ⟨L,g,H⟩|⟨g,q,s,H⟩|⟨g,H⟩
  .exact ay (af H.symm v)<|mC f
  .have I:=eI<|p9.mp<|af v.symm H;subst I;refine zl (m.red (a V) (a J1) n (bM p) s) λr L g q=>?_;obtain rfl:=aC<|af Z.symm<|q V;have n:y=U h-U N.aQ:=by simp only [<-(l J1),x,vM]
   have p:c.st[y]?=J L:=W n<|q J3;refine W (aC<|af o.symm p) ?_;have s:y<=U h:=W n (mi ..);have I:U (aF y h)=y:=by simp only [dS,gf s]
   have r:hc (aF y j++[hc<|cq y j])=hc j:=W ua<|W (show hc [hc<|cq y j]=hc (cq y j) from dw _)<|ax ua<|aq _ (wR ..);have g:=((l J2).cut y).2;rw [<-IS,n,q J2,<-n] at g;refine eY ⟨aF y h++[N.aY],aF y j++[hc<|cq y j],ec ((m.cut s).tH (by rw [I,g6,aJ<|ha y];exact o)<|(a.zj ((a V).toGW.lt N<|aO Z).1.1<|m.lt (a J1) o).mp e) ?_ ?_ (W r<|l J3)<|by simp only [r,bK];exact hI<|l J4⟩ (t J1) (t J2) (t J3) (t J4)<|IB (t J5)<|aw ⟨_,_,Y⟩
   .simp only [bK,bK,dS,dS,l J1]
   .simp only [bK,dq,si];exact((l J2).cut y).1.up.app<| .nd g (b.mem (jt f) Z) qM
  .exact ay (eI<|p9.mp<|af v.symm<|af H (af Nk.symm Y:_= -((0:O):au)))<|jt f
 |oh v x L C o p=>have h:=PZ (k:=k) (c:=c);refine Vz (l.err L h.2.1) λn N Z y f e H X=>?_;have q:=t.eE;exact eY ⟨_,aF n j,ec Z y f (e.trans<|MP h.1) H⟩ q.1 q.2 (bb _) (Tj (t J4) d x)<|(BX<|L.tk<|(l J1)▸a5 (m V)).2.2.2.2<|h.2.2<|t J5|mD v x L C o z p s=>
  have h:=PZ (k:=k) (c:=c);refine Vz (l.err L h.2.1) λn N Z y f e H I=>?_;have q:=t.eE;have r:=Z.jw▸o;have g:nm G 1="error":=by unfold nm;rw [cY,b J4];rfl
  refine eY ⟨_++[1],aF n j++[[""]],ec (Z.tH r<|a.Yq (Z.lt (a J1) r) p s) ?_ ?_ ?_ ?_⟩ q.1 q.2 (bb _) (Tj (t J4) d x)<|IB ((BX<|L.tk<|(l J1)▸a5 (m V)).2.2.2.2<|h.2.2<|t J5)<|aw ⟨_,_,Y⟩
  .simp only [bK,bK,y]
  .simp only [bK,dq,tN,g];exact f.up.app<| .lf qM
  .simp only [ua,TA];have:kx (hc [[""]])=[]:=by unfold kx;simp only [xX,wq,eV Y];rfl
   simp only [this,dw];exact e.trans<|MP h.1
  .simp only [bK,ua,a4];exact b2 H
def ab5(b:k8)(c:fW)(d:fK)(r:jr f x):qf D P G i f->∀{e} {a},x=J (e,a)->qf D P G i a/\U a.mv<=60:=by
 induction r with
 |ov h=>exactλZ Z Z g=>aI g|eo=>exactλZ Z Z g=>aI g|en h j k s l=>intro t e a g;cases g;exact br (t.step b c d j k s) l|st h j k s r m=>exactλt Z Z g=>m (t.step b c d j k s) g
def toP_ok:∀{n} {a} {d},toP n a=J d->C5 d=Q/\d.depth<=n:=by
 intro n;have b:∀s,aco (dg s)=true:=λs=>by
  unfold dg;refine W (Ht ..) ?_;show(gU<|R DX<|hN s).all _=Q;refine W List.all_toArray<|W List.all_map ?_;rw [gT]
  exactλc Z=>eV<|aP c.valid (λh=>e8 h<|ao Y) (·.2)
 refine n.rec (λa d h=>aI h) λn e=>?_;have go:∀{f} {g},toPs (toP n) f=J g->Nz g=Q/\G0 g<=n:=by intro f;refine @(f.rec (λh=>ax (aC h)<|⟨Y,cQ _⟩) λx r j=>?_);intro g h;exact aA (iv.mp h) λd k h=>aA (fA h) λl m h=>ax h<|⟨ak dB ⟨(e k).1,(j m).1⟩,ak Nat.max_le ⟨(e k).2,(j m).2⟩⟩
 intro a d h;cases a with
 |none=>refine ax (aC h) ?_;exact br rfl<|cQ _|bool=>refine ax (aC h) ?_;exact⟨Y,cQ _⟩|int=>refine ax (aC h) ?_;exact⟨Y,cQ _⟩|str s=>refine ax (aC h) ?_;exact⟨b s,cQ _⟩|tup f=>refine aA (fA h) λg k h=>?_;exact ax h<|⟨(go k).1,b2 (go k).2⟩|lst f=>refine aA (fA h) λg k h=>?_;exact ax h<|⟨(go k).1,b2 (go k).2⟩|_=>exact aI h
def Pd(n)(a):=∃d,toP n a=J d
def Q5(h:∀x∈b,Pd n x):∃a,toPs (toP n) b=J a:=by
 induction b with
 |nil=>exact cM _ rfl|cons x r c=>exact bp (h x b8) λd e=>bp (c λy f=>h y<|cy _ f) λa g=>⟨d::a,by show er (toP n x) _=_;simp only [e,g];rfl⟩
def Af(h:∀x∈a,Pd n x):Pd (n+1) (aR a):=ah (Q5 h) λb e=>⟨.tuple b,aq (b7 Sq) e⟩
def zp(h:∀x∈a,Pd n x):Pd (n+1) (aN a):=ah (Q5 h) λb e=>⟨.list b,aq (b7 S5) e⟩
def s4:Pd (n+1) (aG s):=cM _ rfl
def EW:Pd (n+1) (ag a):=cM _ rfl
def y?:Pd (n+2) (aN<|sV a):=zp λx b=>by obtain⟨s,_,rfl⟩:=mm b;exact s4
def Pd.eq(h:Pd xt<|aN a):qC a a=J true:=by refine bp h λd e=>?_;unfold qC xA;exact W (aJ Y)<|W e<|aq J<|agY d (toP_ok e).1
def gQ{b:Type}{a:b->Prop}{x}{r}(h:a x)(k:∀y∈r,a y):∀y∈x::r,a y:=λy c=>aP (mc c) (λe=>e▸h)<|k y
def lB{a:b->Prop}:∀y∈([]:aa b),a y:=λZ h=>bG h
def Lw.py(h:nC d a c e):∀n,∀b∈a,Pd (n+d+2) b:=h.rec (λZ=>lB) (λr f=>λn=>gQ (Af<|gQ s4<|gQ s4 lB)<|f n) λa m b g j=>λn=>gQ (Af<|gQ s4<|g n)<|j n
def Ž(t:qf D P G i c)(l:U c.mv<=60):Pd xt (aN [bS b,aD b (dN (cG c.ts) bk) bk,aN<|R qx c.fl,aN c.mv]):=by
 refine zp<|gQ ⟨_,Y⟩<|gQ ?_<|gQ (zp λx a=>?_)<|gQ (zp λx a=>?_) lB
 .refine b.rec ⟨_,Y⟩ ?_;cases e:cG c.ts with
  |none=>exact cM _ rfl|some d=>exact DE (t V) λf g h=>((h J2).ups l).py 137 d<|List.mem_of_getLast? e
 .obtain⟨f,_,rfl⟩:=mm a;exact Af<|gQ s4<|gQ EW<|gQ y? lB
 .rcases(t J5) x a with ⟨j,rfl⟩|⟨j,a,rfl⟩
  .exact Af<|gQ s4 lB
  .exact Af<|gQ s4<|gQ EW lB
def afN(t:qf D P G i c)(l:U c.mv<=60):qC [bS b,aD b (dN (cG c.ts) bk) bk,aN<|R qx c.fl,aN c.mv] [bS b,aD b (dN (cG c.ts) bk) bk,aN<|R qx c.fl,aN c.mv]=J true:=(Ž t l).eq
def aa9(e:k8)(c:fW)(a:fK){x}(r:jr d x):qf D P G i d->∀{b},x=J (Q,b)->∃t y,cG b.ts=J t/\nC 60 [t] ["s"] [y]/\yA (kx y) (sT P<|U P)/\U y<=60:=by
 induction r with
 |ov h=>exactλX X f=>aI f|eo=>exactλX X f=>aI f|st h g j s r k=>exactλt X f=>k (t.step e c a g j s) f|@en d l k q m h g j s l=>
  intro t b f;cases f;generalize eo:J Q=o at s
  induction s with
  |rk=>cases eo|oh=>cases eo|mD=>cases eo|nc=>cases eo|red=>cases eo|acc n=>refine DE (t V) λp v z=>?_;have C:=(z V).jw▸j;obtain⟨_,H,I⟩:=l_ a ((z V).lt (a J1) C) (tg (a V).toGW k) n;have L:=z J2;dsimp only [u9] at L;have N:=z J1;dsimp only [u9] at N;have s:=z J3;dsimp only [u9] at s;have n:=z J4;dsimp only [u9] at n;rw [(z V).acc (a V) (a J1) C I] at L N;refine bp (xT N) λZ x=>?_;rw [x,show R (nm G) [G.iU]=["s"] from by refine W tN<|W (OQ c) ?_;rfl] at L;refine bp (xT L.len.2) λy f=>?_;rw [f] at L s n;rw [show hc [y]=y from dw _] at s n;exact⟨Z,y,W x Y,L.ups h,s.trans<|MP<|t J4,ae n h⟩
def ajS{a b:aa bo}(h:yA a b)(nd:bw b):p6 (b6 a) b=a:=by
 induction h with
 |slnil=>rfl|@cons a b c s d=>
  have nd:=jk.mp nd;have e:b6 a c=false:=by
   cases q:b6 a c with
   |false=>rfl|true=>exact ay (s.subset<|gv.mp q) nd.1
  exact W xX<|W e<|d nd.2
 |@cons_cons a b c s d=>have nd:=jk.mp nd;exact W xX<|W (ak gv b8)<|aq (c::·)<|af (List.filter_congr λx f=>W Az<|W (x4 λe=>nd.1<|by rw [<-e];exact f) (Ww ..))<|d nd.2
def aef(b:∀k∈P,k∈iK)(a:U P<=9):bw (sT P<|U P):=by
 refine ak Ju<|Vf.imp_of_mem λ{c j} d e f g=>f ?_;have h (d:c<U P) (e:j<U P) (l:lh P c=lh P j):c=j:=by
  have m:∀k∈iK,U (hN k)=1:=by decide+kernel
  have n:∀c:O,c<9->∀j:O,j<9->hN (toString (c:au))=hN (toString (j:au))->c=j:=by decide+kernel
  have o:∀c<U P,U (hN<|F P c "")=1:=λc d=>by refine W (cY)<|W (bM d) ?_;exact m _ (b _ (y9 d))
  have l:=aq hN l;unfold lh at l;rw [PW,PW] at l;exact n c (cc d a) j (cc e a) (List.append_inj l<|af (o c d) (o j e).symm).2
 exact h (tQ.mp d) (tQ.mp e) g
variable{l h t:aT}{j p:QT}{o:aT->Prop}{m b:Cs}{r:PT}{q s:aW->aT->Prop}{a:Cf}{g:O}{f d:bc}
def cU.tz{ls}{D}(b:cU ls D):∀a<(gy ls D).nS,nm (gy ls D) a∈e3->a<(gy ls D).nT:=λa d f=>by
 refine zF λg=>?_;have h:(eH ls D)[a]?=J _:=RB d;generalize nm _ a=j at f h;unfold eH at h;rw [dy,h8 g] at h;have l:=aO h;rcases ma l with m|m
 .rw [ms m] at f;revert f;decide+kernel
 .exact SI (b V) (TN f) m
def cU.Ŀ(a:cU ls D):GX G:=A5▸a.gx
def cU.cgp(a:cU ls D):GP D G:=A5▸a.gp
def cU.agr(a:cU ls D):AY G:=A5▸a.pre
def cU.ctz(b:cU ls D):∀a<G.nS,nm G a∈e3->a<G.nT:=A5▸b.tz
def cU.cnd(a:cU ls D):bw G.cI:=A5▸a.Ue
def Ja(b:Fr l h m)(k)(d:m.at k=J (c,az e))(f:qC n e=J v)(a:K v):sQ h (aN n) (aj c) K:=bW b k d<|VR f a
def NY(b:Fr l h m)(k c)(d:m.at k=J (e,az n))(f:m.at c=J (v,az x))(g:qC n x=J y)(a:K y):sQ h (aj e) (aj v) K:=bW b k d<|bW b c f<|VR g a
def KN:qC c []=J (tZ c):=by
 induction c with
 |nil=>rfl|cons a b=>exact aS<|Je _
def abu{a:e->k}:tZ (R a c)=tZ c:=by cases c<;>rfl
def FA(G:Gr)(B:Tb)(D:gj)(g:aa bo)(a:Cf)(f:bc)(d:ai)(b:aW):aW:= .c 45 (h7 G B)<| .c 115 (gS D)<| .c 103 (aN<|sV g)<| .c 7 (Dy f d a)<| .c 171 (aN<|iV a.pl)<| .c 99 (Dy f d a) b
def OK:=sR<|sR<|sR<|sR<|sR<|sR zA.gZ
def YR(g:Fr l h m)(c:e=Q->d=Q)(k:B.n1=[]->e=d/\(d=u->mj a.pl=J n))(t:∀j m,Fr l j m->p (bS Q) j):
 c1 r o (sR<|sR<|sR OK) (FA G B D P a f v<| .c 81 (ag n)<| .c 235 (bS d)<| .c 232 (bS e) ar) h q p s:=by
 refine aV g λx j g=>?_;have g:=g.bN;refine Ja g 0 Y KN<|jh<|ef (λz=>?_) λZ=>?_
 .refine dK (k<|ZB.mp z) λy C=>?_;subst y
  induction e with
  |true=>exact t j _ g|false=>
  have H:=C Y;refine DZ<|aV g λI j g=>?_;have g:=g.bN;refine aV g λL j g=>?_;have g:=g.bN;refine NY g 1 0 Y Y ?_<|t j _ g;refine bp (List.head?_eq_some_iff.mp H) λb e=>?_;exact W e<|Pd.eq<|zp<|gQ EW lB
 .refine ef (λz=>W z<|t j _ g) λz=>?_;have N:e=false:=by
   induction e with
   |false=>rfl|true=>exact bU<|c Y▸z
  exact W N<|t j _ g
def ahO(b:Fr l h m)(t:f=Q->a.fl=[]->d=Q)(g:B.n1=[]->(d=Q->f=Q/\a.fl=[])/\(d=u->mj a.pl=J e))(c:∀j m,Fr l j m->p (bS Q) j):
 c1 r o (sR<|sR OK) (FA G B D P a f v<| .c 81 (ag e)<| .c 235 (bS d) ar) h q p s:=by
 refine bJ Y Y<|ef (λz=>?_) λz=>?_
 .refine bJ Y Y<|aV b λk j b=>?_;have b:=b.bN;refine Ja b 0 Y KN<|W abu<|YR b (λj=>t z<|ZB.mp j) (λn=>br ?_<|(g n).2) c
  induction d with
  |true=>exact aq _ ((g n).1 Y).2|false=>
   cases x:a.fl with
   |nil=>exact bU<|t z x|cons _ _=>rfl
 .refine YR b (λj=>bU<|z▸j) (λn=>⟨W z ?_,(g n).2⟩) c
  induction d with
  |true=>exact bU<|((g n).1 Y).1▸z|false=>rfl
end
section
def Cz(x):=aD (nh x "") A<|J<|aG x
def ai2:eG Cz y=sV (kx y):=by refine y.rec Y λx r a=>?_;unfold kx;rw [xS,xX,a];unfold Cz;cases nh x ""<;>rfl
def ajo(k:O):(qi<|sV P)[k]?=((e1 P.length)[k]?).map λj=> .tup [.int j, .str<|P.getD j ""]:=by
 refine W (cf)<|W (Fw) ?_;rcases hZ k P.length with h|h
 .refine W (kt<|bM h)<|W (wg h) ?_;refine(?_:J _=J (ai.tup [.int k, .str _]));refine W (eF ..)<|W (cY)<|W (bM h) ?_;rfl
 .refine W (iu<|by rw [gm];exact h)<|W (iu<|by rw [fi];exact h) ?_;rfl
def Ca(a T)(j):=aD (b6 T<|lh a j) (J<|ag j) A
def Vn(a:∀k∈P,∀b≤9,lM (k++toString ((b:O):au))<=4096)(c:U P<=9)(h:j<U P):P[j]?=J (F P j "")/\lM (F P j ""++toString (j:au))<=4096:=by
 have e:=bM h;have d:F P j ""=P[j]:=by refine W (cY)<|W e ?_;rfl
 exact W d<|⟨e,a _ (y9 h) j (ae (bT h) c)⟩
def rg5:=sR<|sR<|sR<|sR<|sR zA.gZ
def aeB(g:∀q∈D,U q.2<=3)(b:U P<=9)(h:∀k∈P,k∈iK)(d:∀k∈P,∀j≤9,lM (k++toString ((j:O):au))<=4096)(a:Fr l e c)
 (m:f=Q->∃y,nC 60 [v] ["s"] [y]/\yA (kx y) (sT P<|U P)/\U y<=60)
 (k:∀s c,Fr l s c->c1 (aK<|n+61) o (sR OK) (FA G B D P p f v ar) s N r C):c1 (aK<|n+61) o rg5 (FA G B D P p f v ar) e N r C:=by
 refine bJ Y Y<|ef (λz=>hv (m z) λy t x H=>bJ Y Y<|aiF g 60 t (ae H<|ao Y)<|cb Y<|iZ d8 Cz a (λX X X X=>rfl) (cg<|ae H<|by decide) (λj I L o s Z f v a l n=>?_) λp s a=>?_) λz=>k e c a
 .exact jh<|ef (λe=>n s (by unfold Cz;refine W e ?_;rfl) a) λe=>l _ s (by unfold Cz;refine W e ?_;rfl) a
 rw [ai2] at a;have a:=a.bN;have N:R (lh P) ((e1<|U P).filter λj=>b6 (Zq.kx y)<|lh P j)=(Zq.kx y):=by have r:=ajS x<|aef h b;unfold sT at r;rw [List.filter_map] at r;exact r
 have C:=N;refine iZ ajo (Ca P<|kx y) a (λX X X X=>rfl) (W fi<|cg<|ae b<|by decide) (λj I L o s Z f v a l n=>?_) λm s a=>?_
 .obtain⟨rfl,g⟩:=lu v;exact⟨⟨cj _,ak jg<|bT<|cg<|ae (bT g)<|ae b<|by decide⟩,(Vn d b g).2,vV a 0 Y<|ef (λe=>l _ s (by unfold Ca lh;refine W e ?_;rfl) a) λe=>n s (by unfold Ca lh;refine W e ?_;rfl) a⟩
 have H {T:aa bo} {c:aa O}:eG (Ca P T) c=iV (c.filter λj=>b6 T<|lh P j):=by refine c.rec Y λI r z=>?_;rw [xS,xX,z];unfold Ca;cases b6 T _<;>rfl
 rw [H] at a;have a:=a.bN;have p:U ((e1<|U P).filter λj=>b6 (kx y)<|lh P j)<=9:=ae (Al ..)<|W fi b;have h:∀j∈(e1<|U P).filter λj=>b6 (kx y)<|lh P j,j<U P:=λj x=>tQ.mp (sJ.mp x).1;generalize ((e1<|U P).filter λj=>b6 (kx y) _)=N at a C p h;refine cb (a.lt 0 Y)<|iZ d8 (λj=>J<|aG<|lh P j) a (λX X X a=>a.lt 0 Y) (cg<|ae p<|by decide) (λj I L o s Z f v a l n=>?_) λm s a=>?_
 .have g:=h I<|aO v;have e:=Vn d b g;exact bJ Y (kt e.1)<|⟨⟨cj _,ak jg<|bT<|cg<|ae (bT g)<|ae b<|by decide⟩,e.2,l _ s Y a⟩
 have a:=a.bN;have c:eG (λj=>J<|aG<|lh P j) N=sV (kx y):=by refine ax C ?_;unfold sV;exact W jC<|qG B7 N
 rw [c] at a;exact NY a 0 2 Y Y (Pd.eq y?)<|bJ Y Y<|t.hd<|Ro (λq=>ay Y q) λX=>k s _ a
def aaE{m:O}(k:O):(m4 1 (m:au))[k]?=((e1<|m-1)[k]?).map λx=>ag ((x+1:O):au):=by refine W (cf)<|W (i_ m 1:cK ((m:au)-1)=m-1) ?_;exact aq (λf=>b7 f _[k]?)<|funext λx=>aq ag (CK ..)
def aih(b:∀k∈P,k∈iK):∀k∈fB P,∀a≤9,lM (k++toString ((a:O):au))<=4096:=by
 have c:∀k∈"$end"::iK,∀a,a<10->lM (k++toString ((a:O):au))<=4096:=by decide+kernel
 refineλk h a d=>c k ?_ a<|ic d
 rcases ma h with z|z
 .exact cy _ (b k z)
 .exact W (ms z) b8
def ago{c:Cf}:qC [bS b,v,aN<|R qx c.fl,aN c.mv] [aG "endless"]=J false:=aS (show¬(4=1) by decide)
def w! :=sR<|sR zA.gZ
def XV(b:qC a a=J Q)(h:c1 c d (sR w!) (.c 45 m<| .c 115 p<| .c 103 k<| .c 7 (aN a)<| .c 171 e<| .c 99 (aN a) ar) f N g C):
 c1 c d w! (.c 45 m<| .c 115 p<| .c 103 k<| .c 7 (aN a)<| .c 171 e<| .c 99 (aN a) ar) f N g C:=by
 show bE _ _;exact W b h
def aac(a:k8)(c:fK)(b:yO P)(h:d (bS Q) e):aK (n+62) 267 [h7 G B,gS D,aN<|sV P] e d f:=by
 have g:=a.cgp;have j:=aih<|b V;have k:=λl (m:l∈P)=>j l<|gI _ m;have o:=λq (p:q∈D)=>((a J1) V q p).2.1;refine a6 zA (.c 45 _ (.c 115 _ (.c 103 _ ar))) Y Y<|ai7 c g (b J1) j λr s t v=>ajO c g a.agr b.ok k λx y=>?_;obtain rfl:=(t.det y)
 match r,t,v with
 |none,t,v=>have z:qC [aG "endless"] [aG "endless"]=J true:=Pd.eq<|zp<|gQ s4 lB;exact XV z<|aV de λC s H=>Ja H 0 Y z<|m8 H h|some (I,L),t,v=>
  obtain rfl:=v I L Y;have N:=ab5 a g c t .zero Y;refine XV (afN N.1 N.2)<|aV de λC s H=>Ja H 0 Y ago ?_;have Z (d:U P<=9):U L.pl<=4:=by
   have e:∀n C,L.pl[n]?=J C->3*n<=C:=by
    refineλn=>n.rec (λX X=>cQ _) λn f=>λC l=>?_
    have m:=bM<|Fb<|gl l;exact ae (f6 (f _ m) 3)<|(N.1 J1) n _ C m l
   cases q:cG L.pl with
   |none=>exact W (List.getLast?_eq_none_iff.mp q)<|cQ _|some p=>have z:=(N.1 J2) p q;rw [yt] at q;have l:=e _ p q;exact ia6 z l (N.1 J3) (N.1 J4) d
  have bl:U L.pl<=1000:=ae (Z<|b J1)<|ao Y;refine⟨⟨mQ<|ao Y,mQ<|W du<|ae bl<|ao Y⟩,W du<|iZ aaE (λX=>A) H (λX X X X=>rfl) (W fi<|cg<|ae (mi ..) bl) (λj x y r s v I C H f Z=>?_) λz s H=>?_⟩
  .obtain⟨rfl,d⟩:=lu C;have e:x+1<U L.pl:=Nat.add_lt_of_lt_sub d;have p:=bM e;have l:=bM<|Fb e;exact bJ Y (fV p)<|pf (eT ..)<|bJ Y (fV l)<|vd<|g5 (λq=>ay q<|ia7<|(N.1 J1) x _ _ l p) λX=>Z s Y H
  rw [ak q' λX X=>rfl] at H;refine aV H λr s H=>NY H 1 2 Y Y KN<|aeB o (b J1) (b V) k H (λm=>?_) λs z H=>?_
  .subst m;exact rK (aa9 a g c t .zero Y) λj y v I f C=>⟨y,W v I,f,C⟩
  .refine akR (ae ((a J1) J3)<|ao Y) o (b J1) λL d q=>ahO H ((λn N x=>Zu a g c a.ctz (b V) t x) L d q).1 ((λn N x=>Zu a g c a.ctz (b V) t x) L d q).2 λs z H=>m8 H h
def aa5:oi (R ag a)=J a:=by refine a.rec Y λx r b=>by refine(?_:(er (J x) λc=>b7 _ (oi _))=_);exact W b Y
def aly(c:Fr h a d)(k){b:aa au}(e:d.at k=J (f,az<|R ag b))(g:K (ag b.sum) a):RN .sum (aj f) a K:=bW c k e (by unfold P!;exact W aa5 g)
def agT(a:k8):BS ls D:=λn b c d e s f h=>by rw [<-A5];exact alR a.Ŀ a.cnd f λB g=>Cb (g V) λT i X M j k l=>h _ λm o p q r t v=>akl (λa x t n b c d h=>aac a x t h) ⟨_,_,_,_,_,_⟩ a (dV a.Ŀ j k l) t o p q r v
def adR{a:aa au}(h:c (bS Q) b):aK (n+63) 8 [aN<|R ag a] b c d:=by
 refine a6 Lu (.c 175 (aN<|R ag a) ar) Y Y<|DZ (k:=63)<|ax si ?_;generalize aF 63 a=e;refine aV de λf s g=>hF g<|aV g λj s g=>DZ (k:=63)<|ax si ?_;generalize aF 63 a=l;refine aV g λm s g=>aly g 2 Y<|AM (m:=1009) (ao Y) λd o=>aV g λp s g=>?_;have g:Fr b s (f3 ⟨p,j,e,d,o⟩ 0 0 bO):=g.pk [3,1] 4 (ao Y)<|ao Y;refine alW g (cQ _) λls D q r s t v g=>oD g (ae v<|ao Y) (by decide) λm x y s z C g=>?_;have H {d:O} (h:d<2):∃s,([aG "lalr",aG "slr"]:aa ai)[d]?=J (aG s)/\(s="lalr"\/s="slr"):=by exact r_ (a:=λd=>∃s,([aG "lalr",aG "slr"]:aa ai)[d]?=J (aG s)/\(s="lalr"\/s="slr")) h ⟨_,Y,aL Y⟩ ⟨_,Y,aw Y⟩
 refine aA (H z) λI L N=>bJ Y L<|akD t<|oD g (oH C v Y) (by decide) λZ c n s f a g=>aiI agT t _ _ _ _ _ _ N λl b=>?_;have q:c<=202:=oH a (oH C v Y:x<=201) Y;refine⟨mQ (m:=2)<|ao Y,cv (mR (m:=2)) (λX X X=> .c 13 (aj p)<| .c 115 (gS D)<| .c 45 l ar) (λX r y=>f3 ⟨p,j,e,d,o⟩ r y bO) (λk r X=>r<=202+130*k) c n g q (λX X X X X=>rfl) (λk x r y s z H I g L=>?_) λX X s X g=>m8 g h⟩;have I:r<=202+130*k:=I;exact abA t g (ae I<|ae (d5 (ky 130<|lE<|(lu H).2) 202)<|bl Y) λZ f N s v C g=>b _ _ _ _ _ v (L f N s (ae C<|f6 I 130) g)
end
end
open Array renaming size->d6,length_toList->uV,toList_inj->FF,toList_append->Jg,isEmpty->xB,isEmpty_iff_size_eq_zero->Ov,toList_push->Gy,forIn_toList->Y!,mem_toList_iff->Hn,getElem?_toList->rY,getElem?_eq_getElem->X?,any_toList->ZY,getElem?_eq_some_iff->yR,getElem?_setIfInBounds->Og,getElem?_eq_none->Dv,getElem?_push->v!
open Bool renaming not_true->W_,not_eq_true'->Z6,false_eq_true->Vb
open Classical renaming em->ahY
open Eq renaming refl->GF
open ForInStep renaming yield->ub
open Int renaming eq_ofNat_of_zero_le->wF,fdiv_eq_ediv_of_nonneg->UB,min_eq_left->JI,max_eq_right->Gg,toNat_of_nonpos->WQ,natCast_add->MK,lt_of_lt_of_le->S!,sub_self->TV,natCast_zero->Qj
open Lean.JsonRpc.ErrorCode.workerCrashed renaming elim->ũ
open List renaming lookup->b1,take_nil->Ys,drop_nil->Yk,foldl->g',replicate_succ->x',forIn_cons->Qx,any_cons->XF,drop_zero->Xb,size_toArray->Lv,any_eq_false->Gl,nodup_nil->yM,zip_eq_zipWith->Vo,drop_length->US,lookup_cons->qQ,range'->es,map_inj_left->nW,mem_range'_1->F6,any_eq_true->KR
open Nat renaming log2_lt->u!,casesOn->XQ,sub_succ_lt_self->Tt,exists_eq_add_of_lt->Xg
open Option renaming elim->jF,noConfusion->Ih,map_some->v?,any_eq_true->U3
open Pure renaming pure->k!
open PyProof.Rows renaming mul_int->aj9,eq_str->aiT,ne_str->aip,lt_int->ź,gt_int->aaY,slot_tuple_getitem->ŵ,getItem_tuple->ad4,getItem_str->ň,len_tuple->acE,neg_int->acB,floordiv_int->agB,Fr->ajz,subscriptTail->Oi,tail_any->wY,slicePart_none->ZM,Subscript_->Kv,IntsAre->yU,seqObj->Ac,isTrue_and->Tw
open PyProof.Rows.KTD renaming kt_isStr->aiW
open PySem renaming Pos->la,Flow->E5,callWith_type->II,typeLookup->YY,Fin->Ad,Addr->cx,Obj->fX,Heap->ie,World->lr,Str->bj,hashStr->Jx,Value->a0,DictEntry->gE,Program->zT,Env->jE,Shared->cS,mainGlobals->iF,builtinsNs->qt,bootBuiltins->tM,codeAny->tT,model->bL,BindsTo->Hx,cStatics->vc,FuncData->BZ,NameKind->yc,Expr->cZ,Stmt->fF,ExceptHandler->Uo,foldedForSure->VE,constantsAlone->n!,recursionLimit->mY,cLine->kV,callEnv->jH,Around->v7,wpAny->a7,exec->xO,execs->w4,rawInt->o5,eval->bC,wpAny_pure->bq,wpAny_mkInt->L0,wpAny_mkText->M8,wpAny_Name->Qd,wpAny_loadName_local->GG,wpAny_loadName_free->i?,Sem->l9,binaryOp->oY,sizeLine->t9,sizeLine_eq->GB,typeIs_int->Xq,call_meets->QY,Reads->oF,compareOp->mM,wpAny_bind->aB,wpAny_pyHash_int->u_,wpAny_pyHash_str->UU,wpAny_tupleItemsOf->V5,eqIsQuiet_byValue->J!,wpAny_specialOf->Gb,wpAny_isInstance->HV,wpAny_seqItems->a',dictGet->ER,wpAny_holding->hU,wpAny_dictEntries->Nt,wpAny_rule->BR,sysModules->Xx,slot_dict_contains->YT,wpAny_call_entry->rA,wpAny_truthy_bool->zC,wpAny_mono->kY,truthy->NQ,seqIndex?->Qm,getItem->Iu,wpAny_getItem_slot->Zr,typeIs_str->FU,IsPart->sM,wpAny_field->nD,wpAny_getItem_list_slice->O',wpAny_typeOf->H4,wpAny_newObj_type->zB,slicePicked->E_,Builtin->ab0,getMethod->OT,nsPutIn->Bw,wpAny_loadPart->B3,wpAny_askSetting->Wl,aRefKeyMayBeTheName_at->Ur,wpAny_updatePart->ĺ,wpAny_lookBehind->Wz,pastItsLine_dict->T9,spliced->MW,backTo->rf,starEach->pd,attributeBase->LX,entryFor->FG,table->JM,argsOk->Ng,wpAny_Call_method->Kq,wpAny_missed_other->VN,isTrue->DH,behindInMarks->Kc,callWith->Qc,call_list_seq->X7,wpAny_UnaryOp->K',wpAny_execs_nil->yr,interactive->Nc,swapsWith->ng,wpAny_Expr_any->UP,storeName->NJ,wpAny_storeName_local->p_,wpAny_assign_Name->Bi,assign_Attribute->İ,wpAny_standAt->r6,wpAny_callSpecial?_slot->Lx,slot_dict_setitem->T3,wpAny_notOrdered_dict->RP,assignEach->EU,assignInOrder->O2,wpAny_assign_Tuple->Uw,swappedStores->sh,wpAny_Assign_stores->Gd,cameBackBy->Wh,wpAny_setField->uv,pyIter->mN,pyNext->rU,letOwnedTupleGo->xn,foldedSetIterable->D1,wpAny_pyNext_list_item->Z!,wpAny_pyNext_list_end->H_,wpAny_dictEpoch->WR,wpAny_pyIter_slot->PF,wpAny_of_eq->yE,wpAny_typeNameOfWhole_keyiter->N0,wpAny_isOneOf_keyiter->YN,wpAny_attempt->Pe,isSubtype_stop->Uv,wpAny_pyIter_revIter->XW,typeLookup_type->Iq,builtinLookup_eq_fast->Gi,isSubtype_type->Ir,entryFor_of_tree->ZJ,signature?_of->XR,wpAny_pyIter_enum->U5,wpAny_pyIter_list->Yb,closureFor->SD,compEnvC->gR,Result->C8,wpAny_newFunctionEnv->WZ,wpAny_comprehension_free->g!,InCallC->Nu,cellsFrom->yw,codeAny_call_function->O?,codeAny_func->VU,wpAny_call->Bp,methodCall->OC,methodCallForm->WK,methodCallPos->ZX,wpAny_Slice->Xm,wpAny_evalPart_none->Ha,wpAny_collect_seq->WD,codeAny_builtin->Xy,checkBuiltinCall->Kf,wpAny_loadPart_at->tY,wpAny_isSubtype_exc->DB,wpAny_madeBy_exc->TJ,stack->Cc,isInstance->ZU,codeAny_call_builtin->V8,wpAny_execs_cons->zW,cellOf->NO,Code->vx,OsState->D0,Thread->qP,denote->O6,treeTable->wd,Params->gG,fenceModules?->h_,bltViewBooted->Ul,table_eq_tree->Q_,callerA->Kz,classAt->G2
open PySem.AfterImport renaming of_importEnds->alK,unique->Α
open PySem.Arguments renaming posonlyargs->Ln
open PySem.Around renaming frames->nZ,handled->ue,depth->iM,units->gV,in1->Ő,deeper->rT,frames_deeper->w0,under_plainId->YD
open PySem.AutoListH renaming list___mul___list_int_3->afi
open PySem.AutoSeq1 renaming list_extend_list_list_0->afK
open PySem.Bind renaming check->agE
open PySem.Builtin renaming bitAnd->UQ,bitNot->N9,bitOr->aiQ,pylongFrames->aad
open PySem.Builtin.Dict renaming showsAll->T4
open PySem.Builtin.Int renaming intBits->ž
open PySem.Builtin.List renaming listFitsIndex->aiS,listTooLong->Ux
open PySem.Builtin.Range renaming rangeSize->Η
open PySem.Builtin.Slice renaming slicePartIndex->acD,sliceApplied->Ţ,sliceAdjust->XT,slicePlaces->Uc
open PySem.Builtin.SmallTypes renaming newRecord->afz
open PySem.Builtin.Str renaming strSliceIndices->aaB,subAt->acW
open PySem.Builtin.Tuple renaming tupleHashOf->ak6,tupleItemsOf->Zp
open PySem.Calls renaming call_len_list->ajn,call_function_entry->ajW,callWith_builtin->ahL,evalArgs_plain->ajp,spliced_cons->Te,spliced_nil->ŷ,Name_function_global->d!,loadGlobal_builtin->WN
open PySem.Code renaming func->sC,builtin->s6,quiet_builtin->JN,cUnits->amh
open PySem.Data renaming seq->pq,dict->pM,fields->eZ,cell->q5
open PySem.Data.fields renaming elim->alH
open PySem.Data.seq renaming elim->aiP
open PySem.DictEntry renaming mk->af3,refKey->tV
open PySem.Env renaming frame->qD,cells->gi,kindOf->c2,locals->jy,blockKind->abx
open PySem.ExcName renaming means->aaw
open PySem.ExceptHandler renaming ExceptHandler->H6
open PySem.Expr renaming Call->dZ,Attribute->fx,Name->cC,casesOn->amk,UnaryOp->t5,Subscript->tv,Slice->y8,Constant->CQ,BoolOp->z3,Compare->xk,Tuple->gq,ListComp->ux
open PySem.Expr.Name renaming elim->ac4
open PySem.F renaming slot_tuple_add->afx,entry_tuple_add->alr,args_tuple_add_2->ahv,fills_int_mul->aaC,slot_int_rmul->Ņ,slot_int_index->Ÿ,entry_int_rmul->ahC,args_int_rmul_2->adT,slot_list_mul->aiZ,entry_list_mul->abp,args_list_mul_2->afC,slot_tuple_hash->ajk,entry_tuple_hash->afE,args_tuple_hash_1->ajK,slot_tuple_eq->aez,slot_list_getitem->KG,slot_dict_getitem->aeS,slot_str_getitem->WW,slot_tuple_getitem->Dg,entry_tuple_getitem->amd,args_tuple_getitem_2->Λ,plainAttrs_list->FE,slot_list_append->ah0,type_list_append->ab9,entry_list_append->ae5,args_list_append_2->akg,slot_list_extend->amw,type_list_extend->ai8,entry_list_extend->aaX,args_list_extend_2->akb,slot_list_index->akU,type_list_index->ū,entry_list_index->aaZ,args_list_index_2->agy,plainAttrs_str->aeI,slot_str_startswith->aeD,type_str_startswith->aln,entry_str_startswith->aai,args_str_startswith_2->ajT,plainAttrs_dict->Ve,slot_dict_get->MZ,type_dict_get->U2,entry_dict_get->W5,args_dict_get_2->amv,args_dict_get_3->alV,slot_dict_iter->Xj,entry_dict_iter->afM,slot_dict_keyiterator_next->Hr,args_dict_iter_1->agb,entry_dict_keyiterator_next->ŋ,args_dict_keyiterator_next_1->ahm,slot_dict_keyiterator_iter->r!,entry_dict_keyiterator_iter->ae0,args_dict_keyiterator_iter_1->ah5,mro_reversed->Ρ,made_reversed->ame,plain_reversed_new->ak1,sub_reversed_self->acN,typeCall_reversed_1->aed,newCall_reversed_1->al9,entry_reversed_new->agD,entry_object_init->abY,args_object_init_2->aj6,slot_list_pop->ald,type_list_pop->aeo,slot_list_getattribute->NM,args_list_getattribute_2->ak7,kt_called_dict->acK,kt_typeCall_dict_1->aec,entry_dict_init->ad5,args_dict_init_2->ajv,excBase_Exception->E1,store_object->ah3
open PySem.Fin renaming done->Z5
open PySem.Flow renaming ret->jM,next->qI
open PySem.FuncBody renaming stmts->ahM
open PySem.FuncData renaming globals->xC,builtins->yK,scope->dX,qualname->y5,closure->ud
open PySem.Heap renaming get?->aH,lt_size->ij,SameBut->t8,push->dh,get?_push_of_some->iT,get?_push_size->i1,update->qR,get?_update_self->m9,IsSliceOf->EO,get?_update_other->NR,ExtBut->Fp,size_push->x!,isNs->lJ,nsKeys->aiE,nsMap->lZ,accountedOkI->JA,bltView->adx,nsPairs->afp,of_bltView->NC,accountedI_of_ok->agM
open PySem.Heap.IsSliceOf renaming new->YE
open PySem.Heap.SameBut renaming update->nJ
open PySem.IntMulOk renaming of_left->ş
open PySem.IsRange renaming new->Zv
open PySem.IsiPair renaming str_str->amm,tuple_str->aen
open PySem.Manifest renaming owners->ac8,sig_reversed->adO
open PySem.MeetsIn renaming of_wp->adI
open PySem.MeetsSeq renaming EqGives->alI,list_index->alC
open PySem.NameKind renaming«local»->v8,globalImplicit->qn,free->kj,cell->hj,noConfusion->ag7
open PySem.Obj renaming data->hH,mapSeq->HX,isFreed_of_dict->L',data_mapDictKeys->agX,data_mapDict->aml,putName->KI,mapFields->zz,isFreed_of_fields->xK,data_mapFields->pz,cls_mapFields->Lf
open PySem.P renaming add_list->abf,truthy_int->κ,str_of_int->alQ,len_tuple->alq,getItem_tuple->af9,pop_list->ajs
open PySem.Params renaming strHash->afg
open PySem.Pin renaming globalOf_eq->Pw,keysAreStrs_of->aay,builtinOf_eq->ajU
open PySem.Pos renaming endLine->n7,line->l5
open PySem.PyData renaming depth->UX,keyHash->abW
open PySem.PylongRoom renaming of->ahZ
open PySem.Scope renaming kind->lX,isCoroutine->yu,isGenerator->xM,names->dm
open PySem.ScopeKind renaming function->jz
open PySem.SeerAt renaming of->akY
open PySem.Sem renaming wp_release->A_,ctorIdx->wG
open PySem.Sem.alloc renaming elim->Yi
open PySem.Sem.load renaming elim->m'
open PySem.Sem.loadIfAlive renaming elim->U6
open PySem.Sem.update renaming elim->Uk
open PySem.SeqAt renaming str_beq->agp
open PySem.SeqAt.EqAt renaming int_int->aiN,int_str->ι,str_int->agq,str_str->Τ
open PySem.SeqAt.RcAt renaming lists_lengths->ac2
open PySem.SeqAt.RcNeAt renaming lists_lengths->acF
open PySem.SeqRoads2.EqGives renaming str->ah2
open PySem.Shared renaming toks->gu,TypeIs->jn,heap->RG,asleep_of_life->Vq,rest_eq->alb
open PySem.Slot renaming lookup->kZ
open PySem.Stmt renaming Assign->je,casesOn->acA
open PySem.Stmt.Assign renaming elim->ae1
open PySem.Stmt.ClassDef renaming elim->abJ
open PySem.Stmt.FunctionDef renaming elim->akZ
open PySem.Str renaming empty->N8,mk->akW,cps->Z0
open PySem.Str.mk renaming inj->agO
open PySem.StrLaws renaming subAt_eq->Ψ
open PySem.Txt renaming startswith->Q'
open PySem.UnaryOp renaming Invert->Fh,Not->YK,USub->Po,UAdd->adb,casesOn->ab6
open PySem.Value renaming type->cJ,ref->w,str->gP,int->ey,none->bQ,bool->eO,builtin->eh,isInt_shape->Xk,noConfusion->ad7,isStrByCps_eq->ahW,isInt->Mq
open PySem.Value.ref renaming elim->alG
open PySem.Value.str renaming elim->alo
open PySem.Value.type renaming elim->ai1
open PySem.W renaming ownOf->x_,hasW_int->ae9,findIn->hu,plainOver->Sn,clsIn->oE,typeIn->oJ,mroIn->JU,ks_superIn->A4,takerIn->uP,keepIn->wy,makesIn->Sz,set_plain->K0,looks_clsIn->E0,callWith_of->JL,keeps_K->QL,looks_findIn->LL,emptyDict->Q8,looks_mroIn->Wx,methodObj->Qb,any_some->Om,alive->r7,stepOk->JH,segRun->JW,boot_o_1->DG,boot_drawn->yH,topFrame->EM,topRun->Qu,boot_heap->qj,staticsOk->HM,namesBound->Gu,laidKept->HA,opening->RM,layAllW->FV
open PySem.W.ClaimW renaming callFrom_of_specG->adG
open PySem.W.Fast renaming tw8437177126325714943->abG,tw11892475500146522536->ο,tw14364793385576792824->abn,tw6613529449190102663->abI,te8437177126325714943->akB,te11892475500146522536->acY,te14364793385576792824->agk,te6613529449190102663->adn
open PySem.W.WData renaming layableAll->Ν
open PySem.W.WShape renaming has->aie
open PySem.World renaming params->bx
open String renaming length_toList->vt,toList_ofList->Q3
open _root_ renaming Array->gM,bne_iff_ne->Ko,Decidable->Dp,beq_eq_false_iff_ne->lz,heq_of_eq->F7,bne_self_eq_false->Hl
open PySem PySem.W PySem.Calls PyProof.Rows PySem.SeqAt PySem.SeqRoads2
section
open Zq.Cs renaming nil->bO
open Zq.Lw renaming nil->qM
section
abbrev PM:=cx->ba fX
def Dj(a B:PM):=∀b o,a b=J o->B b=A
def cO(a:PM)(h):=∀b o,a b=J o->aH h b=J o
def lg(a:PM)(h):=∀b o,a b=J o->∃c,aH h b=J {o with slots:=c}
def Le(a B:PM):=∀b o,a b=J o->B b=J o
noncomputable def nf(o:fX):=dG o.data.ctorIdx 9
def NF(a:PM):=∀b o,a b=J o->nf o=Q
structure Wd(À o z Z:PM)(Á:ie):Prop where
sI:cO À Á
sH:cO o Á
sF:lg z Á
sP:lg Z Á
IH:Dj À o
IF:Dj À z
IP:Dj À Z
HF:Dj o z
HP:Dj o Z
FP:Dj z Z
nH:NF o
nF:NF z
nP:NF Z
structure kc where
w:lr
nm:O->bj
ca:O->ba cx
mutual
noncomputable def pE(a:lr):ai->au
|ag b=>hashInt b|aG s=>Jx a<|dg s|aR c=>reduceHash<|ak6<|RC a c|_=>0
noncomputable def RC(a:lr):aa ai->aa au
|[]=>[]|x::r=>pE a x::RC a r
end
def s9(a:aa<|ai×ai)(c):=fR (bw<|R (·.1) a) (∀e∈a,kh e.1=c)<|∀e∈a,gz e.1=Q
abbrev lN(T:bo)(a:gM a0)(n:O):fX:={cls:=cJ T,data:=pq a n}
noncomputable abbrev u1:=cJ "dict"
abbrev hx(a:gM gE)(n:O):fX:={cls:=u1,data:=pM a n}
abbrev JS(a d:cx):fX:={cls:=w a,dict:=J d}
noncomputable def uH(c:O):aW->bc
|ar=>Q| .c n _ r=>jq oM c n&&uH c r
inductive iY(T:bo)(I:PM)(c:aa a0->Prop)(k:O)(x:a0):Prop
|mk (a:cx) (b:gM a0) (n:O) (e:x=w a) (g:I a=J (lN T b n)) (r:c<|cR b) (d:k<=cu)
inductive kf(I:PM)(d:aa gE->Prop)(b:aa<|ai×ai)(N:O->Prop)(x:a0):Prop
|mk (a:cx) (c:gM gE) (n e:O) (f:x=w a) (g:I a=J (hx c n)) (r:d<|cR c) (h:s9 b e) (l:U b<=cu) (j:a≠1) (z:N n)
inductive nz(S:kc)(I:PM)(c:O)(e:aa gE->Prop)(i:aW)(N:cx->Prop)(x:a0):Prop
|mk (d a:cx) (b:gM gE) (n:O) (f:x=w (d+1)) (k:S.ca c=J a) (g:I (d+1)=J (JS a d)) (h:I d=J (hx b n)) (r:e<|cR b) (j:uH c i=Q) (z:N d)
inductive tA{a:Type}(b:a->Prop)(B:aa a->Prop)(l:aa a):Prop
|mk (x:a) (s:aa a) (e:l=x::s) (c:b x) (d:B s)
def uE(h)(a B:a0->Prop)(e:gE):=fR (e.hash=h) (a e.key)<|B e.val
inductive HJ(s:bj)(x:a0):Prop
|mk (t:Tok) (e:x=gP s t)
inductive IsI(a:au)(x:a0):Prop
|mk (t:Tok) (e:x=ey a t)
mutual
def bD(S:kc)(I:PM):ai->a0->Prop
|bk=>λx=>x=bQ|bS c=>λx=>x=eO c|ag d=>IsI d|aG s=>HJ<|dg s|aj e=>λx=>x=w e|aR a=>iY "tuple" I (bR S I a)<|U a|aN a=>iY "list" I (bR S I a)<|U a|g0 b=>kf I (et S I b) b λ_=>bh|od f i=>nz S I f (hP S I i) i λ_=>bh
def bR(S:kc)(I:PM):aa ai->aa a0->Prop
|[]=>λl=>l=[]|v::r=>tA (bD S I v)<|bR S I r
def et(S:kc)(I:PM):aa (ai×ai)->aa gE->Prop
|[]=>λl=>l=[]|(k,v)::r=>tA (uE (pE S.w k) (bD S I k)<|bD S I v)<|et S I r
def hP(S:kc)(I:PM):aW->aa gE->Prop
|ar=>λl=>l=[]| .c n v r=>tA (uE (Jx S.w<|S.nm n) (HJ<|S.nm n)<|bD S I v)<|hP S I r
end
structure Cx where
S:kc
dM:zT
I0:PM
K:Frag
fa:O->ba cx
mg:bj->ba a0
mb:bj->ba a0
pe:a0
noncomputable abbrev Cx.w(C:Cx):=C.S.w
def CJ(C:Cx)(I H:PM)(b:aT)(a:O):m2->Prop
|az c=>iY "list" H (bR C.S I c) (U c)<|w a|dC d n=>kf H (et C.S I d) d (·=n)<|w a|cw c i=>nz C.S H c (hP C.S I i) i (λd=>b d=A)<|w a
def sZ(C)(I H)(a):=∀b o,a b=J o->CJ C I H a b o
def Er(a:PM)(l:aa jE):=∀b∈l,lX b.scope≠ .module/\∃L o,qD b=J L/\a L=J o/\∀c,hH o≠eZ c
structure Z where
I:PM
H:PM
σ:aT
s:cS
def Ok(C)(a b)(z:Z):=e7 (Wd z.I z.H a b z.s.heap)<|sZ C z.I z.H z.σ
def Nx(z y:Z):=e7 (Le z.I y.I)<|y.s={z.s with heap:=y.s.heap,toks:=gu y.s}
abbrev VP:=a0->cS->Prop
def PE(C)(a b)(z)(c:QT)(d:VP):=∀v x y,Nx z y->Ok C a b y->bD C.S y.I v x->c v y.σ->d x y.s
abbrev EB:=PM->a0->ie->Prop
def PX(C)(a b)(z)(c:EB)(d:aT->Prop)(E:VP):=∀e y,Nx z y->Ok C a b y->c y.I e y.s.heap->d y.σ->E e y.s
def UR(v:ai):=js v.ctorIdx 3
def S4:ai->Const
|bk=> .none|bS b=> .bool b|ag a=> .int a|aG s=> .str<|dg s|_=> .none
noncomputable abbrev ph:=J<|cJ "function"
def Gn(C:Cx)(c)(a):=uk (hu C.K (w a) "__getattribute__"=J (J<|eh "object.__getattribute__")) (hu C.K (w a) "__getattr__"=J A) (hu C.K (w a) "__setattr__"=J (J<|eh "object.__setattr__")) (Sn C.K a=Q) (∃b,oE C.K a=J b/\b.hasDict=Q) (∀n,jq oM c n=Q->hu C.K (w a) (C.S.nm n)=J A)<|∀t m f,cm Ap c=J t->cm t m=J f->jq oM c m=u/\∃d,C.fa f=J d/\oJ C.K (w d)=ph/\hu C.K (w a) (C.S.nm m)=J (J<|w d)
def wt(C:Cx):Prop:=GR (∀a o,b1 a C.K=J o->C.I0 a=J o) (∀a b,C.S.nm a=C.S.nm b->a=b) (∀a,C.S.nm a≠"__class__") (∀h,cO C.I0 h->h.NoLimit) (∀h,cO C.I0 h->h.NoSeer) (C.dM.given.tree=A) (∀h,cO C.I0 h->h.Ns iF C.mg) (∀h,cO C.I0 h->h.Ns qt C.mb) (∀x:bj,x≠"__name__"->C.mb x=tM x)<|∀c d,C.S.ca c=J d->Gn C c d
inductive AA(I:PM)(h:ie)(e:cx)(f g j:a0):Prop
|mk (a:fX) (b:gM a0) (T:cx) (c:fX) (d:gM a0) (k:aH h e=J a) (l:a.cls=f/\b[0]?=J g) (m:hH a=eZ b) (n:b[1]?=J (w T)) (o:I T=A) (p:T≠e) (q:aH h T=J c) (r:hH c=eZ d) (s:d[3]?=J j)
noncomputable def kP:PM:=λZ=>A
def rb(C:Cx)(I)(e)(h):=∃a,e=w a/\I a=A/\∃b,AA I h a C.pe b bQ
def uB(C)(b:PT)(a)(f)(c):=
∀d (z:Z) e (g:aa a0) h (j:aT->Prop) k,Ok C kP d z->Le C.I0 z.I->(∀i,nZ a=J i->Er d i)->bR C.S z.I e g->b f e z.σ h j->PE C kP d z h (λv s=>k (.ok<|jM v) s)->PX C kP d z (rb C) j (λe s=>k (.error e) s)->
 tT (bL C.dM C.w) a (.call (w c) ⟨g,[]⟩) k z.s
noncomputable def n6(nm:O->bj)(D:aa O)(a:aa a0):=(R nm D).zip a
def Bv(C:Cx)(d:Fn)(b)(c)(e)(a)(f)(g):=GR (C.I0 b=J ⟨c,e, .func a,f⟩) (a.body= .stmts g) (xC a=iF) (yK a=qt) (lX (dX a)=jz) (yu (dX a)=u) (xM (dX a)=u) (∀h,cO C.I0 h->h.CodeRec a.code (y5 a)) (bw d.e4)<|∀s (I:PM) j (k:aa a0) l,cO I s.heap->Le C.I0 I->bR C.S I j k->yZ d.e4 d.p7 j=J l->
∃m n,l=q2 d.e4 m/\U m=U d.e4/\bR C.S I m n/\Hx s a ⟨k,[]⟩ (n6 C.S.nm d.e4 n)
def Yr(C:Cx)(c)(f d m:O)(b)(e)(g)(h)(a)(j):=hW (b1 ("__class__":bj) (gi c)=J b) (C.I0 b=J ⟨e,g,q5<|J<|w a,h⟩) (oE C.K a=J j)<|∀c k,jq tq c f=Q->C.S.ca c=J k->JU C.K k (w a)=J Q/\A4 C.K k a (C.S.nm m)=J (J<|w d)
def g_(C:Cx)(d:jE)(e)(b)(f)(g)(a)(h)(c):=hW (d.func=J b) (C.I0 b=J ⟨f,g, .func a,h⟩) (mj (Ln a.params++a.params.args)=J c)<|c.arg=C.S.nm e
def Pf(C:Cx)(d:jE)(a)(e)(f)(b)(g)(c)(h):=hW (d.code=w a) (C.I0 a=J ⟨e,f,eZ b,g⟩) (b[2]?=J (gP c h))<|((C.dM.main.file:bj)==c)=Q
noncomputable abbrev dW:=J v8
def vF(C)(a)(c f b m):=Yn (c2 a "super"=J qn) (c2 a "__class__"=J kj) (c2 a (C.S.nm c)=dW) (∃d e g h j k,Yr C a f b m d e g h j k) (∃l e g n h o,g_ C a c l e g n h o) (∃p e g q h r s,Pf C a p e g q h r s) (d7 (b1 ("super":bj)<|dm C.dM.main.scope)=u) (C.mg "super"=A) (tM "super"=J (cJ "super")) ((C.S.nm m==("__class__":bj))=u) (nsIn C.K vc "thirdparty.any"=J A) (oJ C.K (w b)=ph)<|fnIn C.K b=Q
structure EC where
nm:bj
q:bj
N:cx
T:cx
bs:aa a0
aaJ:bc
sn:aa bj
sub:aa a0
ab:bc
col:ba bc
dd:ba cx
k0:ba a0
k1:ba a0
k2:ba a0
k3:ba a0
k5:ba a0
noncomputable abbrev e2:=cJ "object"
noncomputable abbrev jm:=cJ "Exception"
noncomputable abbrev qF:=cJ "BaseException"
noncomputable abbrev rJ(T):=[w T,jm,qF,e2]
abbrev xU(a)(c:EC):=excClassObj c.nm c.q a c.N c.bs (rJ c.T) c.aaJ c.sn c.sub c.ab c.col c.dd c.k0 c.k1 c.k2 c.k3 c.k5 "Exception.__new__"
noncomputable def SY(v):=dite (v.ctorIdx=10) (λh=>alG (motive:=λZ=>ba O) v h J) λZ=>A
noncomputable def QR(v:a0):=aE v.ctorIdx 10
noncomputable def La(v):=dite (v.ctorIdx=8) (λh=>ai1 (motive:=λZ=>ba bo) v h J) λZ=>A
noncomputable def Fo:aa a0->bc
|[]=>u|v::r=>aD (QR v) (Fo r)<|R La (v::r)==[J "Exception",J "BaseException",J "object"]
def F2(K)(C):=(oE K C).any λa=>Fo a.mro
def ae2(c:BZ)(d a e f b g h j k l m n c3 o):=e7 ((n7 a==l5 b)=Q)<|c.body= .stmts [.Expr (dZ (fx (cC "Exception" d) "__init__" a) [cC "self" e,cC "what" f] [] b) g,je [fx (cC "self" h) "what" j] (cC "what" k) l,je [fx (cC "self" m) "at" n] (cC "at" c3) o]
structure uo(z:Cx)(À Á:cx)(o:BZ):Prop where
pe:z.pe=w À
cls:∃È,z.I0 À=J (xU À È)
agG:∃Â,oE z.K À=J Â/\Â.hasDict=Q
init:hu z.K (w À) "__init__"=J (J<|w Á)
ity:oJ z.K (w Á)=ph
sa:hu z.K (w À) "__setattr__"=J (J<|eh "object.__setattr__")
over:F2 z.K À=Q
agx:uP z.K À "what"=J A
at_:uP z.K À "at"=J A
fn:∃É Ê Ë,z.I0 Á=J ⟨É,Ê, .func o,Ë⟩
exc:findCls z.K (jm) (cJ "type") "__init__"=J (.val<|eh "Exception.__init__")
mg:z.mg "Exception"=A
glob:xC o=iF
bi:yK o=qt
co:yu (dX o)=u
gen:xM (dX o)=u
HO:lX (dX o)=jz
code:∀Ã,cO z.I0 Ã->Ã.CodeRec o.code (y5 o)
aj3:∀Ì∈dm (dX o),Ì.2≠hj
k1:b1 ("self":bj) (dm<|dX o)=dW
k2:b1 ("what":bj) (dm<|dX o)=dW
k3:b1 ("at":bj) (dm<|dX o)=dW
k4:b1 ("Exception":bj) (dm<|dX o)=J qn
bind:∀Ä Å Æ Ç,cO z.I0 Ä.heap->Hx Ä o ⟨[Å,Æ,Ç],[]⟩ [("self",Å),("what",Æ),("at",Ç)]
body:∃Í Î Ï Ð Ñ Ò Ó Ô Õ Ö Ø Ù c3 Ú,ae2 o Í Î Ï Ð Ñ Ò Ó Ô Õ Ö Ø Ù c3 Ú
noncomputable def xY:O->yc
|0=>v8|1=>kj|2=>qn|3=>hj|_=>kj
def yL(nm:O->bj)(p:O×O):bj×yc:=aD (aE p.2 4) ("__class__",kj) (nm p.1,xY p.2)
noncomputable def nY(nm:O->bj):aa (O×O)->aa (bj×yc)
|[]=>[]|p::r=>yL nm p::nY nm r
noncomputable def i5:aa (O×O)->O->ba O
|[],_=>A|p::r,x=>aD (aE p.2 4) (i5 r x)<|aD (aE p.1 x) (J p.2)<|i5 r x
def dp(X:aa<|O×O)(x k:O):Bool:=match i5 X x with
|some j=>aE j k|none=>u
noncomputable def E2:aa O->bc
|[]=>Q|x::r=>cP r (λy=> !aE x y)&&E2 r
def E6(X a:aa<|O×O):=cP a (λp=>(aE p.2 0||aE p.2 2)||(aE p.2 1&&dp X p.1 3))&&E2 (R (·.1) a)
noncomputable def p0:la:=⟨0,0,0,0⟩
def dE:=cC N8 p0
def BG:ba cZ->cZ
|some x=>x|none=>dE
structure XP where
l:aa cZ
k:O
g:aa Comprehension
s:Scope
noncomputable def IT:Scope:=⟨jz,[],u,u,[]⟩
def xl(l:aa cZ):XP:=⟨l,0,[],IT⟩
def HK(x):=amk (motive_1:=λZ=>XP) x (λZ a Z=>xl a) (λZ Z Z=>xl []) (λb Z c Z=>xl [b,c]) (λZ b Z=>xl [b]) (λZ Z Z Z=>xl []) (λb c d Z=>xl [b,c,d]) (λZ Z Z=>xl []) (λZ Z Z=>xl []) (λb g s Z=>⟨[b],0,g,s⟩) (λZ Z Z Z=>xl []) (λZ Z Z Z Z=>xl []) (λZ Z Z Z=>xl []) (λZ Z=>xl []) (λZ Z=>xl []) (λZ Z=>xl []) (λb Z a Z=>xl<|b::a) (λf a Z Z=>xl<|f::a) (λZ Z Z Z=>xl []) (λZ Z=>xl []) (λZ k Z=>⟨[],k,[],IT⟩) (λb Z Z=>xl [b]) (λb c Z=>xl [b,c]) (λZ Z=>xl []) (λZ Z=>xl []) (λa Z=>xl a) (λa k Z=>⟨a,k,[],IT⟩) λb c d Z=>xl [BG b,BG c,BG d]
def pt(x):=(HK x).l
def Nq(x):=(HK x).k
def KP(x):=(HK x).s
def hE(l):=dN (mj l) dE
def mz(x):=dN (mj (HK x).g) ⟨dE,dE,[],0⟩
def h1(x):=hE<|pt x
def h2(x):=hE (pt x).tail
def h3(x):=hE (pt x).tail.tail
noncomputable def xr:yk->CmpOp
|fD=> .Eq|hb=> .NotEq|fE=> .Lt|HC=> .LtE|j8=> .Gt|uW=> .GtE|rp=> .In|kS=> .NotIn|uA=> .Is|x7=> .IsNot
noncomputable def YJ:rt->bj
|h9=>"append"|j3=>"extend"|jS=>"index"|pA=>"get"|pD=>"startswith"
structure EP where
v:ai
n:O
e:E
r:E
k:ba<|aa<|O×O
noncomputable def jB:EP:=⟨aj 0,0,rm,rm,A⟩
def ep(e):=E.casesOn (motive:=λZ=>EP) e (λv=>⟨v,0,rm,rm,A⟩) (λn=>⟨aj 0,n,rm,rm,A⟩) (λZ=>jB) (λZ Z=>jB) (λZ Z=>jB) (λZ=>jB) (λZ Z Z=>jB) (λZ Z=>jB) (λZ Z Z=>jB) (λZ Z Z=>jB) (λZ Z Z Z Z=>jB) (λZ Z Z=>jB) (jB) (λa r=>⟨aj 0,0,a,r,A⟩) (λZ=>jB) (λb=>⟨aj 0,0,b,rm,A⟩) (jB) (λZ Z=>jB) (λZ=>jB) (λZ Z Z=>jB) (λZ Z Z=>jB) (λZ b=>⟨aj 0,0,b,rm,A⟩) (λZ Z Z=>jB) (λZ Z Z=>jB) λZ Z Z Z Z Z c=>⟨aj 0,0,rm,rm,J c⟩
def kQ(e):=qO (ep e).v
def tB(e):=ai.casesOn (motive_1:=λZ=>bc) (ep e).v u id (λZ=>u) (λZ=>u) (λZ=>u) (λZ=>u) (λZ=>u) (λZ Z=>u) λZ=>u
def rC(n)(a:cZ->cZ)(x):=dZ (cC n (h1 x).pos) [a<|h2 x] [] x.pos
def GH(n)(a b:cZ->cZ)(x):=dZ (cC n (h1 x).pos) [a<|h2 x,b<|h3 x] [] x.pos
def r1(f:AK)(a:cZ->cZ)(x:cZ):=match f with
| .neg=>t5 .USub (a<|h1 x) x.pos| .rev=>tv (a<|h1 x) (y8 A A (J<|t5 .USub (CQ (.int 1) (Nq<|h1<|h3<|h2 x) (h1<|h3<|h2 x).pos) (h3<|h2 x).pos) (h2 x).pos) x.pos|yq=>GH "isinstance" a (λy=>cC "str" y.pos) x| .len=>rC "len" a x| .abs=>rC "abs" a x| .sum=>rC "sum" a x|sv=>rC "str" a x| .list=>rC "list" a x|q6=>rC "tuple" a x|Du=>rC "sorted" a x| .dict=>rC "dict" a x
def rB(o:Operator)(a b:cZ->cZ)(x:cZ):cZ:= .BinOp (a<|h1 x) o (b<|h2 x) x.pos
def r2(f)(a b:cZ->cZ)(x:cZ):=match f with
|BD=>GH "max" a b x|k6=>tv (a<|h1 x) (b<|h2 x) x.pos|I9=>rB .Add a b x|JF=>rB .Sub a b x|qb=>rB .Mult a b x|yd=>rB .FloorDiv a b x|vR=>rB .Mod a b x|E9=>rB .Pow a b x|oP=>rB .LShift a b x|C9=>rB .RShift a b x|Be=>rB .BitAnd a b x|lY=>rB .BitOr a b x
def rI(k)(a b:cZ->cZ)(x:cZ):=match k with
|h9=>a x|j3=>rC "range" a x|jS=>GH "range" a b x|pA=>rC "reversed" a x|pD=>rC "enumerate" a x
def rO(e)(a:cZ):=aD (kQ e) A<|J a
abbrev RX:=(cZ->cZ)×(aa cZ->aa cZ)
noncomputable def rx(f:cZ->cZ):RX:=(f,λZ=>[])
def rX(nm)(a:O->O)(e):=E.rec (motive:=λZ=>RX)
 (λv=>rx λx=>CQ (S4 v) (Nq x) x.pos) (λn=>rx λx=>cC (nm n) x.pos) (λn=>rx λx=>cC (nm n) x.pos)
 (λZ Z b c=>rx λx=>z3 .And [b.1<|h1 x,c.1<|h2 x] x.pos) (λZ Z b c=>rx λx=>z3 .Or [b.1<|h1 x,c.1<|h2 x] x.pos) (λZ b=>rx λx=>t5 .Not (b.1<|h1 x) x.pos)
 (λZ Z Z d b c=>rx λx=> .IfExp (d.1<|h1 x) (b.1<|h2 x) (c.1<|h3 x) x.pos) (λf Z b=>rx<|r1 f b.1) (λf Z Z b c=>rx<|r2 f b.1 c.1)
 (λf Z Z b c=>rx λx=>xk (b.1<|h1 x) [xr f] [c.1<|h2 x] x.pos) (λf g Z Z Z b c d=>rx λx=>xk (b.1<|h1 x) [xr f,xr g] [c.1<|h2 x,d.1<|h3 x] x.pos)
 (λZ h j e b c=>rx λx=>tv (e.1<|h1 x) (y8 (rO h<|b.1<|h1<|h2 x) (rO j<|c.1<|h2<|h2 x) A (h2 x).pos) x.pos)
 (λx=>cC N8 x.pos,λZ=>[]) (λZ Z b r=>(λx=>cC N8 x.pos,λk=>b.1 (hE k)::r.2 k.tail))
 (λZ l=>rx λx=> .List (l.2<|pt x) x.pos) (λZ l=>rx λx=>gq (l.2<|pt x) (Nq x) x.pos) (rx λx=> .Dict [] [] x.pos)
 (λZ n e=>rx λx=>fx (e.1<|h1 x) (nm n) x.pos) (λZ e=>rx λx=>dZ (fx (e.1<|h1<|h1 x) "pop" (h1 x).pos) [] [] x.pos)
 (λf Z Z e b=>rx λx=>dZ (fx (e.1<|h1<|h1 x) (YJ f) (h1 x).pos) [b.1<|h2 x] [] x.pos) (λZ Z Z e b c=>rx λx=>dZ (fx (e.1<|h1<|h1 x) "get" (h1 x).pos) [b.1<|h2 x,c.1<|h3 x] [] x.pos)
 (λf Z l=>rx λx=>dZ (cC (nm f) (h1 x).pos) (l.2 (pt x).tail) [] x.pos) (λZ m Z e l=>rx λx=>dZ (fx (e.1<|h1<|h1 x) (nm m) (h1 x).pos) (l.2 (pt x).tail) [] x.pos)
 (λZ f Z l=>rx λx=>dZ (fx (dZ (cC "super" (h1<|h1<|h1 x).pos) [] [] (h1<|h1 x).pos) (nm<|a f) (h1 x).pos) (l.2 (pt x).tail) [] x.pos)
 (λZ Z k Z Z c0 X o t b c d=>rx λx=>ux (o.1<|h1 x) [⟨t.1 (mz x).target,rI k b.1 c.1 (mz x).iter,aD (tB c0) [] [d.1<|hE (mz x).ifs],0⟩] {KP x with kind:=jz,names:=nY nm X} x.pos) e
abbrev rE(nm)(a)(e):=(rX nm a e).1
abbrev hy(nm)(a)(e):=(rX nm a e).2
structure SP where
p:la
l:aa cZ
b:aa fF
c:aa fF
h:aa Uo
r:bc
def j0:SP:=⟨p0,[],[],[],[],u⟩
def y1(x):=acA (motive_2:=λZ=>SP) x (λZ Z b Z Z Z s Z Z p=>⟨p,[],b,[],[],u⟩) (λZ Z Z Z Z Z Z Z Z Z=>j0) (λZ Z Z Z Z Z Z Z Z Z Z=>j0) (λv p=>⟨p,[BG v],[],[],[],v.isNone⟩) (λZ Z=>j0) (λa v p=>⟨p,[v,hE a],[],[],[],u⟩) (λZ Z Z Z Z Z Z=>j0) (λZ Z Z Z=>j0) (λZ Z Z Z Z=>j0) (λt c b Z p=>⟨p,[c,t],b,[],[],u⟩) (λZ Z Z Z Z=>j0) (λt b Z p=>⟨p,[t],b,[],[],u⟩) (λt b c p=>⟨p,[t],b,c,[],u⟩) (λZ Z Z=>j0) (λZ Z Z=>j0) (λZ Z Z=>j0) (λv Z p=>⟨p,[BG v],[],[],[],u⟩) (λb h Z Z p=>⟨p,[],b,[],h,u⟩) (λZ Z Z Z Z=>j0) (λZ Z Z=>j0) (λZ Z=>j0) (λZ Z Z Z=>j0) (λZ Z=>j0) (λZ Z=>j0) (λv p=>⟨p,[v],[],[],[],u⟩) (λZ=>j0) (λZ=>j0) λp=>⟨p,[],[],[],[],u⟩
def my(x):=(y1 x).p
def dP(x):=hE (y1 x).l
def kl(x):=hE (y1 x).l.tail
def j9(x):=(y1 x).b
def EY(x):=(y1 x).c
def jQ(l:aa fF):=dN (mj l)<| .Pass p0
def vq(x):=(y1 x).r
def DM(x):=dN (mj (y1 x).h)<|H6 A A [] p0
noncomputable def Ci:Uo->ba cZ×aa fF×la
|H6 t _ b p=>(t,b,p)
def tc(s:S):=aE s.ctorIdx 12
abbrev RS:=(fF->fF)×(aa fF->aa fF)
noncomputable def rs(f:fF->fF):RS:=(f,λZ=>[])
def Tc(nm)(a)(s):=S.rec (motive:=λZ=>RS)
 (rs id) (λb Z s r=>(id,λc=>aD (tc b) (r.2 c)<|s.1 (jQ c)::r.2 c.tail))
 (λe=>rs λx=> .Expr (rE nm a e<|dP x)<|my x) (λt e=>rs λx=>je [rE nm a t<|kl x] (rE nm a e<|dP x)<|my x)
 (λe=>rs λx=> .Return (aD (vq x&&kQ e) A<|J<|rE nm a e<|dP x)<|my x)
 (λc Z Z d b=>rs λx=> .If (rE nm a c<|dP x) (d.2<|j9 x) (b.2<|EY x)<|my x) (λc Z b=>rs λx=> .While (rE nm a c<|dP x) (b.2<|j9 x) []<|my x)
 (λt k d b Z s=>rs λx=> .For (rE nm a t<|kl x) (rI k (rE nm a d) (rE nm a b)<|dP x) (s.2<|j9 x) []<|my x) (rs λx=> .Continue<|my x)
 (λf=>rs λx=> .Raise (J<|dZ (cC "ParseError" (h1<|dP x).pos) (hy nm a f (pt<|dP x).tail) [] (dP x).pos) A<|my x)
 (λt e n c=>rs λx=> .Try [je [rE nm a t<|kl<|jQ<|j9 x] (rE nm a e<|dP<|jQ<|j9 x)<|my<|jQ<|j9 x] [H6 (J<|cC "ParseError" (BG (Ci<|DM x).1).pos) (J<|nm n) [je [cC (nm c) (kl<|jQ (Ci<|DM x).2.1).pos] (cC (nm n) (dP<|jQ (Ci<|DM x).2.1).pos)<|my<|jQ (Ci<|DM x).2.1] (Ci<|DM x).2.2] [] []<|my x)
 (rs id) (λZ=>rs id) s
abbrev yz(nm)(a)(s):=(Tc nm a s).2
noncomputable def Bg:aa (O×bj):=[(9,"len"),(4,"abs"),(16,"sum"),(15,"str"),(271,"isinstance"),(42,"list"),(135,"tuple"),(178,"sorted"),(27,"dict"),(10,"max"),(121,"range"),(241,"reversed"),(251,"enumerate")]
def UZ(X)(x):=dp X x 0||(dp X x 1||dp X x 3)
def ve(X)(x):=dp X x 0||dp X x 3
def tC(x):=aE (n7 (h1 x).pos) x.pos.line
noncomputable def eL(e):=E.rec (motive:=λZ=>aa E) (λZ=>[]) (λZ=>[]) (λZ=>[]) (λZ Z Z Z=>[]) (λZ Z Z Z=>[]) (λZ Z=>[]) (λZ Z Z Z Z Z=>[]) (λZ Z Z=>[]) (λZ Z Z Z Z=>[]) (λZ Z Z Z Z=>[]) (λZ Z Z Z Z Z Z Z=>[]) (λZ Z Z Z Z Z=>[]) ([]) (λa Z Z r=>a::r) (λZ Z=>[]) (λZ Z=>[]) ([]) (λZ Z Z=>[]) (λZ Z=>[]) (λZ Z Z Z Z=>[]) (λZ Z Z Z Z Z=>[]) (λZ Z Z=>[]) (λZ Z Z Z Z=>[]) (λZ Z Z Z=>[]) (λZ Z Z Z Z Z Z Z Z Z Z Z=>[]) e
def mf(e):=U<|eL e
def o3(e):=aE e.ctorIdx 21&&aE (mf (ep e).e) 0
noncomputable def Nh(e):=E.rec (motive:=λZ=>bc) (λZ=>u) (λZ=>u) (λZ=>u) (λZ Z Z Z=>u) (λZ Z Z Z=>u) (λZ Z=>u) (λZ Z Z Z Z Z=>u) (λZ Z Z=>u) (λZ Z Z Z Z=>u) (λZ Z Z Z Z=>u) (λZ Z Z Z Z Z Z Z=>u) (λZ Z Z Z Z Z=>u) (Q) (λZ Z Z r=>r) (λZ Z=>u) (λZ Z=>u) (u) (λZ Z Z=>u) (λZ Z=>u) (λZ Z Z Z Z=>u) (λZ Z Z Z Z Z=>u) (λZ Z Z=>u) (λZ Z Z Z Z=>u) (λZ Z Z Z=>u) (λZ Z Z Z Z Z Z Z Z Z Z Z=>u) e
def GL(f:O->bc)(e):=aE e.ctorIdx 1&&f (ep e).n
def xu(f)(e):=Nh e&&cP (eL e) (GL f)
def vm(e:E):=aE e.ctorIdx 15
def Hw(f)(e):=GL f e||(vm e&&xu f (ep e).e)
noncomputable def eOp(e):=E.casesOn (motive:=λZ=>O) e (λZ=>0) (λZ=>0) (λZ=>0) (λZ Z=>0) (λZ Z=>0) (λZ=>0) (λZ Z Z=>0) (λZ Z=>0) (λf Z Z=>f.ctorIdx) (λZ Z Z=>0) (λZ Z Z Z Z=>0) (λZ Z Z=>0) 0 (λZ Z=>0) (λZ=>0) (λZ=>0) 0 (λZ Z=>0) (λZ=>0) (λZ Z Z=>0) (λZ Z Z=>0) (λZ Z=>0) (λZ Z Z=>0) (λZ Z Z=>0) λZ Z Z Z Z Z Z=>0
def H7(e):=aE e.ctorIdx 8&&aE (eOp e) 11
def s1(X)(f:AK)(a:cZ->bc)(x:cZ):=match f with
| .neg=>a<|h1 x| .rev=>a<|h1 x|yq=>dp X 271 2&&dp X 15 2&&a (h2 x)| .len=>dp X 9 2&&a (h2 x)| .abs=>dp X 4 2&&a (h2 x)| .sum=>dp X 16 2&&a (h2 x)|sv=>dp X 15 2&&a (h2 x)| .list=>dp X 42 2&&a (h2 x)|q6=>dp X 135 2&&a (h2 x)|Du=>dp X 178 2&&a (h2 x)| .dict=>dp X 27 2&&a (h2 x)
def s2(X)(d)(f)(a b:cZ->bc)(x:cZ):=match f with
|BD=>dp X 10 2&&(a (h2 x)&&b (h3 x))|yd=>d&&(a (h1 x)&&b (h2 x))|_=>a (h1 x)&&b (h2 x)
def sI(X)(k)(t b:E)(a c:cZ->bc)(x:cZ):=match k with
|h9=>kQ b&&a x|j3=>kQ b&&(dp X 121 2&&a (h2 x))|jS=>dp X 121 2&&(a (h2 x)&&c (h3 x))|pA=>kQ b&&(dp X 241 2&&a (h2 x))|pD=>kQ b&&(vm t&&(dp X 251 2&&a (h2 x)))
abbrev SX:=(bc->aa (O×O)->bc->cZ->bc)×(aa (O×O)->bc->aa cZ->bc)
noncomputable def sx(f:bc->aa (O×O)->bc->cZ->bc):SX:=(f,λZ Z Z=>u)
def sX(a:O->bc)(e):=E.rec (motive:=λZ=>SX)
 (λv=>sx λZ Z Z Z=>UR v) (λn=>sx λZ X Z Z=>UZ X n) (λn=>sx λZ X Z Z=>dp X n 2)
 (λZ Z b c=>sx λt X d x=>b.1 t X d (h1 x)&&c.1 t X d (h2 x)) (λZ Z b c=>sx λt X d x=>b.1 t X d (h1 x)&&c.1 t X d (h2 x)) (λZ b=>sx λt X d x=>b.1 t X d<|h1 x)
 (λZ Z Z f b c=>sx λt X d x=> !t&&(f.1 Q X d (h1 x)&&(b.1 u X d (h2 x)&&c.1 u X d (h3 x)))) (λg Z b=>sx λZ X d x=>s1 X g (b.1 u X d) x) (λg Z Z b c=>sx λZ X d x=>s2 X d g (b.1 u X d) (c.1 u X d) x)
 (λZ Z Z b c=>sx λZ X d x=>b.1 u X d (h1 x)&&c.1 u X d (h2 x)) (λZ Z Z Z Z b c f=>sx λt X d x=>t&&(b.1 u X d (h1 x)&&(c.1 u X d (h2 x)&&f.1 u X d (h3 x))))
 (λZ h j e b c=>sx λZ X d x=>e.1 u X d (h1 x)&&((kQ h||b.1 u X d (h1<|h2 x))&&(kQ j||c.1 u X d (h2<|h2 x))))
 (λZ Z Z Z=>u,λZ Z Z=>Q) (λZ Z b r=>(λZ Z Z Z=>u,λX d k=>b.1 u X d (hE k)&&r.2 X d k.tail))
 (λl m=>sx λZ X d x=>js (mf l) 1000&&m.2 X d (pt x)) (λl m=>sx λZ X d x=>js (mf l) 1000&&m.2 X d (pt x)) (sx λZ Z Z Z=>Q)
 (λl Z e=>sx λZ X d x=> !o3 l&&e.1 u X d (h1 x)) (λl e=>sx λZ X d x=>(!o3 l&&tC x)&&e.1 u X d (h1<|h1 x))
 (λZ l Z e b=>sx λZ X d x=>(!o3 l&&tC x)&&(e.1 u X d (h1<|h1 x)&&b.1 u X d (h2 x))) (λl Z Z e b c=>sx λZ X d x=>(!o3 l&&tC x)&&(e.1 u X d (h1<|h1 x)&&(b.1 u X d (h2 x)&&c.1 u X d (h3 x))))
 (λg Z m=>sx λZ X d x=>(dp X g 2&&a g)&&m.2 X d (pt x).tail) (λl Z o e m=>sx λZ X d x=>(!o3 l&&tC x)&&(js (mf o) 20&&(e.1 u X d (h1<|h1 x)&&m.2 X d (pt x).tail)))
 (λZ Z Z Z=>sx λZ Z Z Z=>u)
 (λZ p k Z j c0 q s Z b c f=>sx λZ X d x=>(E6 X q&&Hw (λz=>dp q z 0) p)&&(sI X k p j (b.1 u X d) (c.1 u X d) (mz x).iter&&(s.1 u q u (h1 x)&&(tB c0||f.1 Q q u (hE (mz x).ifs))))) e
abbrev pN(a)(e):=(sX a e).1
abbrev sm(a)(e):=(sX a e).2
def DT(a)(X)(d)(e)(x):=(GL (ve X) e||(vm e&&xu (ve X) (ep e).e))||((aE e.ctorIdx 17||H7 e)&&pN a e u X d x)
noncomputable def zv(l:O):aa cZ->bc
|[]=>Q|x::r=>aE x.pos.line l&&zv l r
def S6(e):=(eL e).map λe=>(ep e).n
def Kt(X)(z)(e)(x):=jF (ep e).k Fh λa=>aD (dp X z 0&&(aE (kl x).pos.line (dP x).pos.line&&cP a (λp=> !(aE p.1 z&&aE p.2 0)))) YK<|aD (dp X z 3) Fh Po
def FJ(nm)(b)(X)(a c)(x):=aD ((aE (mf a) 2||aE (mf a) 3)&&(aE (mf c) (mf a)&&xu (λz=>dp X z 0) a))
 (aD ((E2 (S6 a)&&zv (hE<|hy nm b a<|pt<|kl x).pos.line (hy nm b a<|pt<|kl x))&&(!(cP (hy nm b c<|pt<|dP x)<|VE 8)&& !(cP (hy nm b c<|pt<|dP x)<|n! 8))) adb Po) Fh
def asK(nm)(a)(X)(t e)(x):=aD (aE t.ctorIdx 1) (Kt X (ep t).n e x)<|aD (vm t&&vm e) (FJ nm a X (ep t).e (ep e).e x) Fh
noncomputable def z0(k):=ab6 (motive:=λZ=>bc) k Q Q Q u
def OD(e):=d7 (ep e).k
abbrev TS:=(fF->bc)×(aa fF->bc)
noncomputable def ia(f:fF->bc):TS:=(f,λZ=>u)
def sS(a)(nm)(b)(X)(s):=S.rec (motive:=λZ=>TS)
 (λZ=>u,λZ=>Q) (λc Z s r=>(λZ=>u,λd=>aD (tc c) (r.2 d)<|s.1 (jQ d)&&r.2 d.tail))
 (λe=>ia λx=> !OD e&&pN a e u X Q (dP x)) (λt e=>ia λx=>z0 (asK nm b X t e x)&&(DT a X Q t (kl x)&&pN a e u X Q (dP x)))
 (λe=>ia λx=>(vq x&&kQ e)||pN a e u X Q (dP x))
 (λc Z Z f b=>ia λx=>pN a c Q X Q (dP x)&&(f.2 (j9 x)&&b.2 (EY x))) (λc Z b=>ia λx=>pN a c Q X Q (dP x)&&b.2 (j9 x))
 (λt k f b Z s=>ia λx=>DT a X Q t (kl x)&&(sI X k t b (pN a f u X Q) (pN a b u X Q) (dP x)&&s.2 (j9 x))) (ia λZ=>Q)
 (λg=>ia λx=>aE (mf g) 2&&(dp X 261 2&&sm a g X Q (pt<|dP x).tail))
 (λt e n c=>ia λx=>(dp X n 0&&dp X c 0)&&(dp X 261 2&&(!OD e&&(DT a X Q t (kl<|jQ<|j9 x)&&(aE t.ctorIdx 1&&pN a e u X Q (dP<|jQ<|j9 x))))))
 (ia λZ=>Q) (λZ=>ia λZ=>u) s
abbrev qJ(a)(nm)(b)(X)(s):=(sS a nm b X s).1
abbrev u7(a)(nm)(b)(X)(s):=(sS a nm b X s).2
def vD(C)(a:O->bc):=O7 (wt C) (∀x,(C.S.nm x==("__debug__":bj))=u) (∀x,(C.S.nm x==("__classdict__":bj))=u) (∀(b:O) p,Bg[b]?=J p->C.S.nm p.1=p.2/\C.mg p.2=A) (C.S.nm 261="ParseError") (∀x v,cm Fx x=J v->∃y,C.mg (C.S.nm x)=J y/\bD C.S C.I0 v y) (∀f,a f=Q->∃c,C.fa f=J c/\C.mg (C.S.nm f)=J (w c)) (∀f c,C.fa f=J c->wy C.K (w c)=Q)<|∃d e g,uo C d e g/\C.mg "ParseError"=J (w d)/\wy C.K (w d)=Q
def BY(a b:O->bc)(sx:O)(X)(e)(x):=E.casesOn (motive:=λZ=>bc) e (λZ=>u) (λZ=>u) (λZ=>u) (λZ Z=>u) (λZ Z=>u) (λZ=>u) (λZ Z Z=>u) (λZ Z=>u) (λZ Z Z=>u) (λZ Z Z=>u) (λZ Z Z Z Z=>u) (λZ Z Z=>u) u (λZ Z=>u) (λZ=>u) (λZ=>u) u (λZ Z=>u) (λZ=>u) (λZ Z Z=>u) (λZ Z Z=>u) (λZ Z=>u) (λZ Z Z=>u)
 (λy f c=>(aE y sx&&b f)&&(tC x&&(js (mf c) 20&&sm a c X Q (pt x).tail))) (λZ Z Z Z Z Z Z=>u)
def vP(e:Zq.E):=aE e.ctorIdx 23
def aX(a c)(sx)(nm)(b)(X)(s):=S.rec (motive:=λZ=>TS)
 (λZ=>u,λZ=>Q) (λd Z s r=>(λZ=>u,λe=>aD (tc d) (r.2 e)<|s.1 (jQ e)&&r.2 e.tail))
 (λe=>ia λx=>aD (vP e) (BY a c sx X e<|dP x)<|qJ a nm b X (uD e) x) (λt e=>ia<|qJ a nm b X<|nK t e)
 (λe=>ia λx=>aD (vP e) (!vq x&&BY a c sx X e (dP x))<|qJ a nm b X (v5 e) x)
 (λc Z Z f g=>ia λx=>pN a c Q X Q (dP x)&&(f.2 (j9 x)&&g.2 (EY x))) (λc g Z=>ia<|qJ a nm b X<| .while c g)
 (λt k f g s Z=>ia<|qJ a nm b X<| .for t k f g s) (ia λZ=>Q)
 (λh=>ia<|qJ a nm b X<|AH h) (λt e n c=>ia<|qJ a nm b X<| .AZ t e n c) (ia λZ=>Q) (λZ=>ia λZ=>u) s
def AN(n)(a):=hW (ue a=A) (∃i,nZ a=J i) (iM a+3*n+310<mY)<|gV a+20*n+310<kV
inductive y7(C:Cx)(n:O->bc)(h:O->O)(sx f c:O):Prop
|plain (d:Fn) (j:a0) (k:ba cx) (b:BZ) (l:gM<|ba a0) (a:aa fF) (X:aa<|O×O) (m:cm iR f=J d) (p:Bv C d c j k b l a) (q:ud b=[]) (r:dm (dX b)=nY C.S.nm X) (s:cP d.e4 (ve X)=Q) (t:yz C.S.nm h d.gZ a=a) (v:u7 n C.S.nm h X d.gZ a=Q)|sup (o:O->bc) (d:Fn) (j:a0) (k:ba cx) (b:BZ) (l:gM<|ba a0) (a:aa fF) (X:aa<|O×O) (x:cx) (m:cm iR f=J d) (p:Bv C d c j k b l a) (q:ud b=[(("__class__":bj),x)]) (r:dm (dX b)=nY C.S.nm X) (h3:cP X (λy=> !aE y.2 3)=Q) (s:cP d.e4 (λz=>dp X z 0)=Q) (t:yz C.S.nm h d.gZ a=a)
 (v:(aX n o sx C.S.nm h X d.gZ).2 a=Q) (H:∀L g,o g=Q->∃e,C.fa g=J e/\vF C (jH b L c) sx g e (h g))
|cls (g e:O) (m:cm iR f=A) (h2:cm tS f=J g) (h3:C.S.ca f=J c) (I:Sz C.K c=Q) (N:hu C.K (w c) "__init__"=J (J<|w e)) (À:oJ C.K (w e)=ph) (Á:C.fa g=J e)|none (m:cm iR f=A) (h2:cm tS f=A)
def DR(C)(a)(b):=∀sx,vD C a->(∀f c,C.fa f=J c->y7 C a b sx f c)->∀n (d:v7),AN n d->∀f c,C.fa f=J c->uB C (aK n) d f c
structure C4 where
C:Cx
fT:O->bc
mn:O->O
noncomputable def c40:C4:=⟨⟨⟨⟨λZ Z=>0,{strHash:=λZ=>0,shareClass:=λZ=>0,mergeTok:=λZ=>0,idOf:=λZ=>0,idOfShared:=λZ Z=>0,followText:=λZ=>u,idOfImm:=λZ=>0}⟩,λZ=> .ofString "",λZ=>A⟩,default,λZ=>A,[],λZ=>A,λZ=>A,λZ=>A,bQ⟩,λZ=>u,λZ=>0⟩
def WH:∃c:C4,(∃d:C4,¬DR d.C d.fT d.mn)->¬DR c.C c.fT c.mn:=aP (ahY<|∃d,¬DR d.C d.fT d.mn) (λh=>ah h λd h=>cM d<|λZ=>h) λh=>cM c40<|λx=>absurd x h
noncomputable def c4:=Lo WH
noncomputable def C:=c4.C
def fT:=c4.fT
def mn:=c4.mn
def afA(h:DR C fT mn){a b m}:DR a b m:=Eh λn=>RU WH ⟨⟨a,b,m⟩,n⟩ h
inductive nR(b:PM)(L:cx)(m:bj->ba a0):Prop
|mk (o:fX) (a:gM gE) (ep:O) (f:b L=J o) (d:hH o=pM a ep) (k:StrKeys a) (n:∀n,nsFind a n=m n)
def uj(a)(n):=c2 a n=J hj\/c2 a n=J kj
inductive GU(S:kc)(I a:PM)(b:jE)(n:bj)(v:ai):Prop
|mk (c:cx) (y:a0) (o:fX) (l:b1 n (gi b)=J c) (f:a c=J o) (d:hH o=q5 (J y)) (r:bD S I v y)
def Fq(C:Cx)(I b)(a)(m)(l):=oj (nR b (jy a) m) (∀x v,cW l x=J v->c2 a (C.S.nm x)=dW->∃y,m (C.S.nm x)=J y/\bD C.S I v y) (∀x v,cW l x=J v->uj a (C.S.nm x)->GU C.S I b a (C.S.nm x) v) (∀n c,b1 n (gi a)=J c->n≠"__class__"->∃o v,b c=J o/\hH o=q5 v) (∀n d c,b1 n (gi a)=J c->b1 d (gi a)=J c->n=d)<|∃L o,qD a=J L/\b L=J o
def g7(C)(I a)(b)(l):=∃m,Fq C I a b m l
def hs(a:jE):=fR (lX a.scope=jz) (a.globals=iF)<|a.builtins=qt
def Up(C:Cx)(a)(I b):=e7 (Le C.I0 I)<|∀i,nZ a=J i->Er b i.tail
def CU(a):=e7 (gV a+300<kV)<|iM a+300<mY
def PS(C)(a)(b)(z)(N:LT)(d:QT)(e:LT)(c:E5->cS->Prop):=fR (∀l f y,Nx z y->Ok C f b y->g7 C y.I f a l->N l y.σ->c qI y.s) (∀l f y,Nx z y->Ok C f b y->g7 C y.I f a l->e l y.σ->c .cont y.s)<|∀v x l f y,Nx z y->Ok C f b y->g7 C y.I f a l->bD C.S y.I v x->d v y.σ->c (jM x) y.s
def qN(C)(a)(b)(z)(c:EB)(d:aT->Prop)(E:VP):=∀e l f y,Nx z y->Ok C f b y->g7 C y.I f a l->c y.I e y.s.heap->d y.σ->E e y.s
def M7(C)(c)(b)(d)(s)(a)(t):=
∀e f (z:Z) l (N:LT) g (h:LT) j (k:E5->cS->Prop) E,Ok C e f z->Up C b z.I f->g7 C z.I e a l->c1 c j s l z.σ N g h->PS C a f z N g h k->qN C a f z d j E->a7 (bL C.dM C.w) b t k E z.s
abbrev Zz(C)(b)(c)(d)(s)(a)(st):=M7 C b c d s a<|xO st a
abbrev M4(C)(b)(c)(d)(s)(a)(st):=M7 C b c d s a<|w4 st a
def aiK(I:PM)(h)(e)(a):=∃b c d,aH h e=J b/\b.cls=a/\hH b=eZ d/\d[0]?=J c/\d[1]?=J bQ
def eP(C:Cx)(a)(I)(e)(h):=∃b,e=w b/\I b=A/\(aiK I h b C.pe\/∃c d,AA I h b C.pe c d/\(d=bQ\/∃L,qD a=J L/\d=o5 L))
def px(b)(a)(c):=fR (nZ b=J (a::c)) (qD a=J (jy a))<|lX a.scope=jz
def AF(a)(b):=uJ<|∃c d,nZ a=J (c::d)/\qD c=qD b/\lX c.scope≠ .module
def ys(C)(a:EB):=∀I e h,rb C I e h->a I e h
def Hp(C)(c)(b)(d)(e)(s)(a)(t):=
∀f g (z:Z) l (N:LT) h (j:LT) k (m:E5->cS->Prop) E,Ok C f g z->Up C b z.I g->g7 C z.I f a l->c1 c k s l z.σ N h j->PS C a g z N h j m->qN C a g z d k E->_root_.PySem.wpAt (bL C.dM C.w) b e t m E z.s
def VA(b)(a):=hW (hs a) (∃l,nZ b=J (a::l)) (xM a.scope=u)<|yu a.scope=u
def C3(C:Cx)(a)(X):=hW (∀x,i5 X x=J 0->c2 a (C.S.nm x)=dW) (∀x,i5 X x=J 1->c2 a (C.S.nm x)=J hj\/c2 a (C.S.nm x)=J kj) (∀x,i5 X x=J 2->c2 a (C.S.nm x)=J qn)<|∀x,i5 X x=J 3->c2 a (C.S.nm x)=J hj/\∃b,b1 (C.S.nm x) (gi a)=J b
abbrev rS(nm)(mn)(s):=(Tc nm mn s).1
def wV(C)(c)(a)(d)(X)(e)(b):=Hf (hs b) (CU a) (ue a=A) (C3 C b X) (ys C d) (AF a b) (e=Q->VA a b)<|∀f g,C.fa f=J g->uB C c a f g
def MS(C)(b)(c)(fT)(mn)(X)(a)(s):=∀x,qJ fT C.S.nm mn X s x=Q->Zz C b c (eP C a) s a (rS C.S.nm mn s x)
def A!(C)(b)(c)(fT)(mn)(X)(a)(s):=∀d,u7 fT C.S.nm mn X s d=Q->M4 C b c (eP C a) s a (yz C.S.nm mn s d)
def MQ(C)(b)(c)(fT d)(sx)(mn)(X)(a)(e)(s):=∀x,(aX fT d sx C.S.nm mn X s).1 x=Q->Hp C b c (eP C a) e s a (xO (rS C.S.nm mn s x) a)
def N4(C)(b)(c)(fT d)(sx)(mn)(X)(a)(e)(s):=∀f,(aX fT d sx C.S.nm mn X s).2 f=Q->Hp C b c (eP C a) e s a (w4 (yz C.S.nm mn s f) a)
abbrev lP:=vD C fT
def Df(b)(a):=lP->∀c (X:aa<|O×O) d,wV C b a (eP C c) X Q c->px a c d->iM a+5<mY->(∀s,MS C b a fT mn X c s/\A! C b a fT mn X c s)/\
∀e (sx:O) f,(∀g,e g=Q->∃h,C.fa g=J h/\vF C c sx g h (mn g))->∀s,MQ C b a fT e sx mn X c (sC f c) s/\N4 C b a fT e sx mn X c (sC f c) s
noncomputable def da:PT×v7:=@Classical.epsilon _ ⟨(λZ Z Z Z Z=>bX,{})⟩ λp=>¬Df p.1 p.2
def Dq:=da.1
def Aq:=da.2
def W'(h:Df Dq Aq){E B}:Df E B:=Eh λn=>@Classical.epsilon_spec _ (λp=>¬Df p.1 p.2) ⟨(E,B),n⟩ h
noncomputable def PM.dF(a:PM)(b:cx)(o:fX):PM:=λc=>aD (aE c b) (J o)<|a c
def uc(a):Le a a:=λZ Z h=>h
def Le.xH{a B C}(x:Le a B)(y:Le B C):Le a C:=λZ Z h=>y _ _ (x _ _ h)
def iJ(b:PM)(a)(o):b.dF a o a=J o:=by unfold PM.dF;exact W (fJ ..) Y
def lL{a:PM}(h:b≠c):a.dF c o b=a b:=by unfold PM.dF;exact W (d4 h) Y
def zb{c:PM}(h:c.dF a o b=J x):(b=a/\x=o)\/(b≠a/\c b=J x):=by
 by_cases e:b=a
 .rw [e,iJ] at h;exact aL ⟨e,a5<|aC h⟩
 .rw [lL e] at h;exact aw ⟨e,h⟩
def R_{a:PM}(e:a b=J o)(n:a c=A):b≠c:=λz=>by rw [z,n] at e;exact aI e
def xF(h:a b=A)(o):Le a (a.dF b o):=λb c e=>W (lL<|R_ e h) e
def nf.ne(h:nf o=Q):∀a,hH o≠eZ a:=λa e=>by unfold nf at h;exact bU<|e▸h
def NF.put(x:NF a)(h:nf o=Q):NF (a.dF b o):=λb c e=>by
 rcases zb e with ⟨_,e⟩|⟨_,e⟩
 .exact W e h
 .exact x _ _ e
section
def cO.pC(x:cO I h):lg I h:=λa o e=>cM o.slots<|x a o e
def lg.no(x:lg I h)(e:aH h a=A):I a=none:=by
 cases q:I a with
 |none=>rfl|some o=>refine bp (x _ _ q) λb z=>?_;rw [z] at e;cases e
def mO(h):aH h h.objs.size=none:=by
 cases q:aH h h.objs.size with
 |none=>rfl|some o=>exact ay (ij q)<|j7 _
def Dj.hr{a B}(d:Dj a B):Dj B a:=λb o e=>by
 cases q:a b with
 |none=>rfl|some x=>rw [d b x q] at e;cases e
def Dj.sq{a B}(d:Dj a B)(e:B b=A):Dj (a.dF b o) B:=λb x p=>by
 rcases zb p with ⟨z,_⟩|⟨_,p⟩
 .exact W z e
 .exact d _ _ p
def Dj.uz{a B}(d:Dj a B)(e:a b=A):Dj a (B.dF b o):=(d.hr.sq e).hr
def Kp(n:cx->Prop)(h a):=∀b o,¬n b->aH h b=J o->aH a b=J o
def cO.kp(s:cO I h)(k:Kp n h b)(e:∀a,n a->I a=A):cO I b:=λb o q=>k b o (λz=>by rw [e b z] at q;cases q)<|s b o q
def lg.kp(s:lg I h)(k:Kp n h b)(e:∀a,n a->I a=A):lg I b:=λb o q=>let⟨c,z⟩:=s b o q;⟨c,k b _ (λz=>by rw [e b z] at q;cases q) z⟩
def Wd.qX(a:Wd I H c d h)(e:aH h b=A):I b=A/\H b=A/\c b=A/\d b=none:=⟨a.sI.pC.no e,a.sH.pC.no e,a.sF.no e,a.sP.no e⟩
def Wd.kp(b:Wd I H c d h)(k:Kp n h f)(e:∀a,n a->I a=A/\H a=A/\c a=A/\d a=A):Wd I H c d f:=
{b with sI:=b.sI.kp k λa z=>(e a z).1,sH:=b.sH.kp k λa z=>(e a z).2.1,sF:=b.sF.kp k λa z=>(e a z).2.2.1,sP:=b.sP.kp k λa z=>(e a z).2.2.2}
def Wd.tX(a:Wd I H c d h)(k:∀b o,aH h b=J o->aH e b=J o):Wd I H c d e:=a.kp (n:=λZ=>bX) (λb o Z=>k b o) λZ z=>b4 z
def cO.put(s:cO I h)(e:aH h a=J o):cO (I.dF a o) h:=λb x q=>by
 rcases zb q with ⟨z,y⟩|⟨_,q⟩
 .simp only [z,y];exact e
 .exact s _ _ q
def lg.put(s:lg I h)(e:aH h a=J o):lg (I.dF a o) h:=λb x q=>by
 rcases zb q with ⟨z,y⟩|⟨_,q⟩
 .exact W z<|W y<|⟨_,e⟩
 .exact s _ _ q
def Wd.toI(a:Wd I H c d h)(g:aH h b=J o)(n:H b=A/\c b=A/\d b=A):Wd (I.dF b o) H c d h:=
{a with sI:=a.sI.put g,IH:=a.IH.sq n.1,IF:=a.IF.sq n.2.1,IP:=a.IP.sq n.2.2}
def Wd.toH(a:Wd I H c d h)(g:aH h b=J o)(n:I b=A/\c b=A/\d b=A)(f:nf o=Q):Wd I (H.dF b o) c d h:=
{a with sH:=a.sH.put g,IH:=a.IH.uz n.1,HF:=a.HF.sq n.2.1,HP:=a.HP.sq n.2.2,nH:=a.nH.put f}
def Wd.toF(a:Wd I H d c h)(g:aH h b=J o)(n:I b=A/\H b=A/\c b=A)(f:nf o=Q):Wd I H (d.dF b o) c h:=
{a with sF:=a.sF.put g,IF:=a.IF.uz n.1,HF:=a.HF.uz n.2.1,FP:=a.FP.sq n.2.2,nF:=a.nF.put f}
def wz(b:t8 a h c):Kp (·=a) h c:=λc o n e=>W (b.2 c n) e
def Wd.Z2(a:Wd I H g h j)(e:H b=J o)(c:t8 b j d)(k:aH d b=J f)(l:nf f=Q):Wd I (H.dF b f) g h d:=by
 have m:=a.IH.hr _ _ e;have g:=a.HF _ _ e;have p:=a.HP _ _ e;have n:=wz c;exact⟨a.sI.kp n λZ z=>z▸m,(λq x r=>by
 rcases zb r with ⟨z,y⟩|⟨s,r⟩
 .rw [z,y];exact k
 .exact W (c.2 _ s)<|a.sH _ _ r),a.sF.kp n λZ z=>z▸g,a.sP.kp n λZ z=>z▸p,a.IH.uz m,a.IF,a.IP,a.HF.sq g,a.HP.sq p,a.FP,a.nH.put l,a.nF,a.nP⟩
def Wd.H9(a:Wd I H c h j)(e:c b=J o)(d:t8 b j f)(k:aH f b=J g)(l:nf g=Q):Wd I H (c.dF b g) h f:=by
 have m:=a.IF.hr _ _ e;have g:=a.HF.hr _ _ e;have p:=a.FP _ _ e;have n:=wz d;exact⟨a.sI.kp n λZ z=>z▸m,a.sH.kp n λZ z=>z▸g,(λc x q=>by
 rcases zb q with ⟨z,y⟩|⟨r,q⟩
 .exact W z<|W y<|⟨_,k⟩
 .exact bp (a.sF _ _ q) λs z=>⟨s,W (d.2 _ r) z⟩),a.sP.kp n λZ z=>z▸p,a.IH,a.IF.uz m,a.IP,a.HF.uz g,a.HP,a.FP.sq p,a.nH,a.nF.put l,a.nP⟩
end
section
def iY.map{T}(h:iY T I b k x)(f:∀a o,I a=J o->nf o=Q->c a=J o)(g:∀l,b l->d l):iY T c d k x:=by induction h with|mk a e n j m r p=>exact⟨a,e,n,j,f _ _ m Y,g _ r,p⟩
def kf.map(h:kf I b c N x)(f:∀a o,I a=J o->nf o=Q->d a=J o)(g:∀l,b l->e l):kf d e c N x:=by induction h with|mk a j n c e k r m l p z=>exact⟨a,j,n,c,e,f _ _ k Y,g _ r,m,l,p,z⟩
def nz.map{i}(h:nz b I c d i N x)(f:∀a o,I a=J o->nf o=Q->e a=J o)(g:∀l,d l->j l):nz b e c j i N x:=by induction h with|mk d k m n e p q r s t z=>exact⟨d,k,m,n,e,p,f _ _ q Y,f _ _ r Y,g _ s,t,z⟩
def tA.rQ{B a}(h:tA b B l)(f:∀x,b x->c x)(g:∀l,B l->a l):tA c a l:=by induction h with|mk x s e a b=>exact⟨x,s,e,f _ a,g _ b⟩
def uE.map{a b B c}(h:uE k a B e)(f:∀x,a x->b x)(g:∀x,B x->c x):uE k b c e:=bZ (h V) (f _ (h J1))<|g _ (h J2)
def uy(k:∀a o,I a=J o->nf o=Q->c a=J o):(∀v (x:a0),bD b I v x->bD b c v x):=λv=>
ai.rec
 (motive_5:=λp=>_/\∀x,bD b I p.2 x->bD b c p.2 x) (λZ=>id) (λZ Z=>id) (λZ Z=>id) (λZ Z=>id)
 (λZ d Z h=>h.map k d) (λZ d Z h=>h.map k d) (λZ d Z h=>h.map k d) (λZ Z d Z h=>h.map k d) (λZ Z=>id) (λZ=>id)
 (λZ Z Z e i2 Z h=>h.rQ (λZ g=>g.map (λZ=>id) e) i2) (λZ=>id) (λZ Z e i2 Z h=>h.rQ e i2) (λZ=>id) (λp Z e i2 Z h=>h.rQ (λZ g=>g.map e.1 e.2) i2) (λZ Z a b=>br a b) v
def WO(k:∀a o,I a=J o->nf o=Q->b a=J o)(v):∀x,bR c I v x->bR c b v x:=
jd (λZ=>id) (λv Z d Z h=>h.rQ (uy k v) d) v
def w'(k:∀a o,I a=J o->nf o=Q->b a=J o)(v):∀x,et c I v x->et c b v x:=
jd (λZ=>id) (λp Z d Z h=>h.rQ (λZ g=>g.map (uy k p.1)<|uy k p.2) d) v
noncomputable def pI{M:aW->Prop}(a)(h1:∀x v r,M r->M (.c x v r)):=λl=>
aW.rec (motive_1:=λZ=>bh) (motive_2:=M) (motive_3:=λZ=>bh) (motive_4:=λZ=>bh) (motive_5:=λZ=>bh) a3 (λZ=>trivial) (λZ=>trivial) (λZ=>trivial) (λZ Z=>trivial) (λZ Z=>trivial) (λZ Z=>trivial) (λZ Z Z=>trivial) (λZ=>trivial)
 a (λx v r Z b=>h1 x v r b) a3 (λZ Z Z Z=>trivial) a3 (λZ Z Z Z=>trivial) (λZ Z Z Z=>trivial) l
def Zj(k:∀b o,I b=J o->nf o=Q->c b=J o)(l):∀x,hP a I l x->hP a c l x:=
pI (M:=λl=>∀x,hP a I l x->hP a c l x) (λZ=>id) (λZ v Z d Z h=>h.rQ (λZ g=>g.map (λZ=>id)<|uy k v) d) l
def oe(k:Le I b):∀a o,I a=J o->nf o=Q->b a=J o:=λa o e Z=>k a o e
def bD.ek(r:bD a I v x)(k:Le I b):bD a b v x:=uy (oe k) v x r
def bR.E3(r:bR a I v x)(k:Le I b):bR a b v x:=WO (oe k) v x r
def et.mono(r:et a I v x)(k:Le I b):et a b v x:=w' (oe k) v x r
def hP.mono(r:hP a I v x)(k:Le I b):hP a b v x:=Zj (oe k) v x r
def bR.vh:∀{l},bR b I a l->U a=U l:=@(a.rec (@λl h=>W (h:l=[]) Y) λv r c l h=>by induction h with|mk x s e a g=>exact W e<|aq _ (c g))
def bR.yB(g:bR a I c m):∀{l},bR a I b l->bR a I (b++c) (l++m):=@(b.rec (@λl h=>W (h:l=[]) g) λv r d l h=>by induction h with|mk x s e a b=>exact W e<|⟨x,_,Y,a,d b⟩)
def bR.get:∀{l} (n:O) {v},bR b I a l->a[n]?=J v->∃x,l[n]?=J x/\bD b I v x:=by
 refine @(a.rec (λn v h e=>aI e) λa r c=>?_);intro l n v h z
 induction h with|mk x s e d g=>
 refine W e ?_
 induction n with
 |zero=>refine ax (aC z) ?_;exact⟨x,Y,d⟩|succ n=>exact c n g z
def bR.take:∀{l} n,bR b I a l->bR b I (aF n a) (aF n l):=by
 refine @(a.rec (@λl n h=>W (h:l=[])<|W Ys<|W Ys Y) λa r c=>?_);intro l n h
 induction h with|mk x s e d g=>
 refine W e ?_
 induction n with
 |zero=>rfl|succ n=>exact⟨x,_,Y,d,c n g⟩
def bR.drop:∀{l} n,bR b I a l->bR b I (cq n a) (cq n l):=by
 refine @(a.rec (@λl n h=>W (h:l=[])<|W Yk<|W Yk Y) λa r c=>?_);intro l n h
 induction n with
 |zero=>exact h|succ n=>induction h with|mk x s e d g=>exact W e<|c n g
def bR.single(r:bD a I v x):bR a I [v] [x]:=⟨x,[],Y,r,Y⟩
def bR.W?:∀{l},bR b I a l->bR b I (f7 a) (f7 l):=@(a.rec (@λl h=>aq _ (h:l=[])) λa r c l h=>by induction h with|mk x s e d g=>simp only [e,JE,JE];exact bR.yB (.single d)<|c g)
def bR.one(r:bR a I [v] b):∃y,b=[y]/\bD a I v y:=by induction r with|mk y s e h z=>exact⟨y,W e<|aq _ (z:s=[]),h⟩
end
abbrev o8:=sZ C
def sZ.map(b:o8 I H c)(k:∀a o,I a=J o->nf o=Q->d a=J o):o8 d H c:=λa o e=>by
 have f:=b a o e
 induction o with
 |list g=>exact iY.map f (λZ Z h Z=>h)<|WO k g|dict j n=>exact kf.map f (λZ Z h Z=>h)<|w' k j|inst c i=>exact nz.map f (λZ Z h Z=>h)<|Zj k i
def nR.ns(x:nR a L m)(s:lg a h):h.Ns L m:=by
 induction x with|mk o b ep a c d e=>
 exact bp (s _ _ a) λZ z=>⟨_,b,ep,z,c,d,e⟩
def Qa{b:PM}(h:∃L o,qD c=J L/\b L=J o):∃L a,qD c=J L/\(b.dF d o) L=J a:=by
 refine ht h λL a e g=>?_
 by_cases q:L=d
 .exact⟨L,o,e,W q (iJ ..)⟩
 .exact⟨L,a,e,W (lL q) g⟩
def Fq.map(x:Fq C I b c m l)(k:∀a o,I a=J o->nf o=Q->d a=J o):Fq C d b c m l:=eY (x V) (λz v e a=>(x J1 z v e a).imp λy h=>br h.1<|uy k v y h.2) (λz v e a=>by cases x J2 z v e a with|mk c y o l f d r=>exact⟨c,y,o,l,f,d,uy k v y r⟩) (x J3) (x J4)<|x J5
abbrev gr:=g7 C
def g7.map(x:gr I b c l)(k:∀a o,I a=J o->nf o=Q->d a=J o):gr d b c l:=x.imp λZ h=>h.map k
def g7.c7(x:gr I a b l)(k:Le I c):gr c a b l:=x.map<|oe k
def gF{C}(a:Wd z.I z.H b c z.s.heap)(r:sZ C z.I z.H z.σ):Ok C b c z:=cp a r
abbrev mI:=Up C
def Up.on(k:mI a I b)(h:Le I c):mI a c b:=cp ((k V).xH h)<|k J1
def i3(a:Le z.I y.I)(s:y.s={z.s with heap:=y.s.heap,toks:=gu y.s}):Nx z y:=cp a s
def rz(z):Nx z z:=i3 (uc _) Y
def Nx.bI(a:Nx x y)(b:Nx y z):Nx x z:=i3 ((a V).xH<|b V)<|W (b J1)<|W (a J1) Y
def PE.on{C a b z y c d}(p:PE C a b z c d)(k:Nx z y):PE C a b y c d:=λv x t a=>p v x t<|k.bI a
def PX.on{C a b z y c d E}(p:PX C a b z c d E)(k:Nx z y):PX C a b y c d E:=λe t a=>p e t<|k.bI a
def vn(C)(b)(a)(c)(e)(d)(t):=
∀f g (z:Z) l (h:QT) j (k E:VP),Ok C f g z->Up C a z.I g->g7 C z.I f d l->cN b j e l z.σ h->PE C f g z h k->PX C f g z c j E->a7 (bL C.dM C.w) a t k E z.s
noncomputable def zh(z:Z)(h)(t):={z with s:={z.s with heap:=h,toks:=t}}
abbrev jo(h a):=∀b o,aH h b=J o->aH a b=J o
def xh(h):jo h h:=λZ Z e=>e
abbrev bY:=Ok C
def Ok.lH(a:bY b c z)(k:jo z.s.heap h):bY b c (zh z h t):=gF ((a V).tX k)<|a J1
def Nx.h{a}:Nx z (zh z a t):=i3 (uc _) Y
abbrev jV:=PE C
abbrev dk:=bD C.S
def PE.HN(p:jV a b z c d)(e:bY a b z)(k:jo z.s.heap h)(r:dk z.I v x)(q:c v z.σ):d x {z.s with heap:=h,toks:=t}:=p v x _ .h (e.lH k) r q
def PE.fq(p:jV a b z c d)(e:bY a b z)(r:dk z.I v x)(q:c v z.σ):d x {z.s with toks:=t}:=p.HN e (xh _) r q
def PE.n2(p:jV a b z c d)(e:bY a b z)(r:dk z.I v x)(q:c v z.σ):d x z.s:=p v x z (rz z) e r q
def m3(a)(t):bD b I (ag a) (ey a t):=⟨t,Y⟩
def Cp(s)(t):bD a I (aG s) (gP (dg s) t):=⟨t,Y⟩
abbrev cd:=vn C Dq Aq
def Vg(a:UR v=Q):cd c (kr v) b (bC (CQ (S4 v) k p) b):=by
 refineλd e z l f g h E j m n o q Z=>W (eval_Constant ..) ?_
 cases v with
 |none=>exact bq<|q.n2 j (v:=bk) Y o|bool b=>exact bq<|q.n2 j (v:=bS b) Y o|int r=>exact L0<|q.fq j (m3 _ _) o|str s=>exact M8<|q.fq j (Cp _ _) o|_=>exact bU a
def ew{K}(h:bE o K):∃a,o=J a/\K a:=by
 induction o with
 |none=>exact b4 h|some a=>exact⟨a,Y,h⟩
abbrev bu:=C.S.nm
def aiy(c:hs b)(d:c2 b (bu x)=dW\/uj b (bu x))(e:(bu x==("__debug__":bj))=u)(f:(bu x==("__classdict__":bj))=u):cd g (d9 x) b (bC (cC (bu x) p) b):=by
 refineλh j z l k m n E o q r s t Z=>aA (ew s) λv y s=>bp r λm H=>Qd ?_ e
 rcases d with a|a
 .exact aA ((H J1) x v y a) λI b L=>GG (c V) a ((H V).ns (o V).sF) b<|t.n2 o L s
 .cases(H J2) x v y a with|mk L I N b d e g=>
  have p:z.s.heap.IsCell L _:=let⟨_,q⟩:=(o V).sF _ _ d;⟨_,q,e⟩;rcases a with a|a
  .exact wpAny_loadName_cell (c V) a b p<|t.n2 o g s
  .exact i? (hn:=f) (c V) a b p<|t.n2 o g s
inductive ai3(b:au->au->Prop)(x y:a0):Prop
|mk (a j:au) (t c:Tok) (e:x=ey a t) (d:y=ey j c) (k:b a j)
def OE(h:oa v=J a):v=ag a:=ai.casesOn v aI (λZ h=>aI h) (λZ h=>aq ag<|aC h) (λZ h=>aI h) (λZ h=>aI h) (λZ h=>aI h) (λZ h=>aI h) (λZ Z h=>aI h) (λZ h=>aI h) h
def Tz(h:vg v=J a):v=aG a:=ai.casesOn v aI (λZ h=>aI h) (λZ h=>aI h) (λZ h=>aq aG<|aC h) (λZ h=>aI h) (λZ h=>aI h) (λZ h=>aI h) (λZ Z h=>aI h) (λZ h=>aI h) h
def Jv(h:G1 v=J a):v=aR a:=ai.casesOn v aI (λZ h=>aI h) (λZ h=>aI h) (λZ h=>aI h) (λZ h=>aq aR<|aC h) (λZ h=>aI h) (λZ h=>aI h) (λZ Z h=>aI h) (λZ h=>aI h) h
def D9(h:qO v=Q):v=bk:=ai.casesOn v (λZ=>rfl) (λZ h=>lO h) (λZ h=>lO h) (λZ h=>lO h) (λZ h=>lO h) (λZ h=>lO h) (λZ h=>lO h) (λZ Z h=>lO h) (λZ h=>lO h) h
def tj{K}(r:bD b I v x)(h:bE (oa v) K):∃a t,x=ey a t/\K a:=by
 refine aA (ew h) λa e h=>?_;rw [OE e] at r
 induction r with|mk t e=>exact⟨a,t,e,h⟩
def zK{K}(r:bD b I v x)(h:bE (vg v) K):∃a t,x=gP (dg a) t/\K a:=by
 refine aA (ew h) λa e h=>?_;rw [Tz e] at r
 induction r with|mk t e=>exact⟨a,t,e,h⟩
def oz{K}(r1:bD a I b x)(r2:bD a I v y)(h:i2 b v K):ai3 K x y:=ht (tj r1 h) λc t e h=>ht (tj r2 h) λj d f h=>⟨c,j,t,d,e,f,h⟩
def aiY(C)(a)(b)(t:a0->a0->l9 a0):=∀{c d} {z} {e v} {x y} {f} {g E:VP},Ok C c d z->Le C.I0 z.I->bD C.S z.I e x->bD C.S z.I v y->
ZV b e v z.σ f->PE C c d z f g->a7 (bL C.dM C.w) a (t x y) g E z.s
abbrev p5:=aiY C Aq
def afe:p5 JF (oY .Sub):=λa Z r1 r2 b c=>by have b:xD _ _ _ _:=b;rw [Me] at b;cases oz r1 r2 b with|mk d j t e e f k=>simp only [e,f];exact sub_int<|c.fq a (m3 _ _) k
def adl:p5 Be (oY .BitAnd):=λa Z r1 r2 b c=>by
 cases oz r1 r2 b with|mk d j t e e f k=>
 obtain⟨m,rfl⟩:=wF k.1.1;obtain⟨n,rfl⟩:=wF k.1.2;refine W e<|W f<|and_int<|c.fq a ?_ k.2;exact⟨_,aq (ey · _)<|by simp [UQ]⟩
def ae8:p5 lY (oY .BitOr):=λa Z r1 r2 b c=>by
 cases oz r1 r2 b with|mk d j t e e f k=>
 obtain⟨m,rfl⟩:=wF k.1.1;obtain⟨n,rfl⟩:=wF k.1.2;refine W e<|W f<|or_int<|c.fq a ?_ k.2;exact⟨_,aq (ey · _)<|(by have a:∀k:O,¬(0:au)<=N9 (k:au):=ia9;have b:∀k,N9 (N9 k)=k:=ajG;simp only [aiQ,UQ,gn<|a m,gn<|a n,b,z8])⟩
def abL:p5 oP (oY .LShift):=λa Z r1 r2 b c=>by
 cases oz r1 r2 b with|mk d j t e e f k=>
 simp only [e,f,k.1.1];refine lshift_int_small k.1.2.1 (om<|xI k.1.2.2<|ao Y) (ao Y)<|c.fq a ?_ k.2;exact⟨_,aq (ey · _)<|by simp⟩
def Δ:p5 C9 (oY .RShift):=λa Z r1 r2 b c=>by
 cases oz r1 r2 b with|mk d j t e e f k=>
 obtain⟨m,rfl⟩:=wF k.1.1;refine W e<|W f ?_;have g (m:O) (k:O):(m:au).fdiv (2^k)=((m>>>k:O):au):=by
  refine W (Q? ..) (W (UB _ (Int.pow_nonneg<|ao Y)) ?_)
  norm_cast
 exact rshift_int k.1.2.1 (c.fq a (v:=ag _) ⟨_,aq (ey · _) (g ..)⟩ k.2)
def alu:p5 vR (oY .Mod):=λa Z r1 r2 b c=>by
 cases oz r1 r2 b with|mk d j t e e f k=>
 exact W e<|W f<|mod_int' (Sj k.1) (c.fq a (v:=ag _) ⟨_,aq (ey · _)<|Int.fmod_eq_emod_of_nonneg _ (om k.1)⟩ k.2)
def aj8:p5 E9 (oY .Pow):=λa Z r1 r2 b c=>by
 cases oz r1 r2 b with|mk d j t e e f k=>
 simp only [e,f,k.1.1,k.1.2];exact pow_int_small (ao Y) (ao Y) (by decide)<|c.fq a (v:=ag 1000000000000000000) ⟨_,aq _ Y⟩ k.2
inductive IL(C:Cx)(z:Z)(T:bo)(d:aa ai->Prop)(x:a0):Prop
|mk (a:aa ai) (b:cx) (c:gM a0) (n:O) (e:x=w b) (g:aH z.s.heap b=J (lN T c n)) (r:bR C.S z.I a<|cR c) (f:U a<=cu) (k:d a)
variable{b:cx}
def ZF{K}(h:ni o K):∃b,o=J (az b)/\K b:=by
 rw [ze] at h;refine aA (ew (h:bE _ K)) λb e k=>⟨b,?_,k⟩
 induction o with
 |none=>cases e|some o=>cases o<;>first|(cases e;rfl)|cases e
abbrev kK:=bR C.S
def OH{T}{K}(r:iY T c (kK z.I a) (U a) x)(s:cO c z.s.heap)(k:K a):IL C z T K x:=by induction r with|mk b d n e g r f=>exact⟨a,b,d,n,e,s _ _ g,r,f,k⟩
def hV{K}(a:bY c d z)(r:dk z.I v x)(h:dj z.σ v K):IL C z "list" K x:=by
 cases v with
 |lst e=>exact OH r (a V).sI h|ref b=>exact aA (ZF h) λf e k=>W (r:x=w b)<|OH ((a J1) b _ e) (a V).sH k|_=>exact b4 h
def CR{K}(a:bY c d z)(r:dk z.I v x)(h:kN z.σ v K):IL C z "list" K x\/IL C z "tuple" K x:=by
 cases v with
 |tup e=>exact aw<|OH r (a V).sI h|lst e=>exact aL<|hV a r h|ref b=>exact aL<|hV a r h|_=>exact b4 h
abbrev lR:=lN "list"
inductive RfR(C:Cx)(z:Z)(d:O->aa ai->Prop)(v:ai)(x:a0):Prop
|mk (b:cx) (a:aa ai) (c:gM a0) (n:O) (e:v=aj b) (f:x=w b) (s:z.σ b=J (az a)) (h:z.H b=J (lR c n)) (r:bR C.S z.I a<|cR c) (g:U a<=cu) (k:d b a)
def Q!(c:bY d f z)(e:z.σ b=J (az a)):iY "list" z.H (kK z.I a) (U a) (w b):=(c J1) b _ e
def Co{K}(a:bY c d z)(r:dk z.I v x)(h:wX z.σ v K):RfR C z K v x:=by refine aA (ew h) λb e h=>aA (ZF h) λf s k=>?_;have g (h:YA v=J b):v=aj b:=ai.casesOn v aI (λZ h=>aI h) (λZ h=>aI h) (λZ h=>aI h) (λZ h=>aI h) (λZ h=>aI h) (λZ h=>aI h) (λZ Z h=>aI h) (λZ h=>aq aj<|aC h) h;have e:=g e;subst e;cases Q! a s with|mk j l n e g m o=>cases e;exact⟨b,f,l,n,Y,r,s,g,m,o,k⟩
def iX(g:aH h b=J (lR a n)):h.IsList b a:=⟨_,g,Y,n,Y⟩
def pO(g:aH h b=J (lN "tuple" a n)):h.IsTuple b a:=⟨_,g,Y,n,Y⟩
def bR.eQ(b:bR d I a<|cR c):U a=d6 c:=af b.vh uV
def x9:cu=t9:=GB
def ajV:(cu:au)<2^63:=ao Y
def Io(b:n<=cu):(n:au)<2^63:=O9 (ak jg b) ajV
def bR.q4(b:bR e I a<|cR c)(d:U a<=cu):d6 c<=t9:=ax b.eQ<|ax x9 d
def bR.AL(b:bR e I a<|cR c)(d:U a<=cu):(d6 c:au)<2^63:=ax b.eQ<|Io d
def sZ.H3{i}(c:o8 I H a)(b:a (d+1)=J (cw e i)):a d=A/\∃o,H d=J o:=by
 cases(c _ _ b:nz C.S H e _ i _ _) with|mk f g h n b k g j r l q=>
 cases b;exact⟨q,_,j⟩
def sZ.at_(a:o8 I H c)(e:c b=J o):∃d,H b=J d:=by
 have r:=a b o e
 induction o with
 |list f=>cases(r:iY _ _ _ _ _) with|mk g h n e j=>cases e;exact cM _ j
 |dict k n=>cases(r:kf _ _ _ _ _) with|mk g h n c e j=>cases e;exact⟨_,j⟩
 |inst c i=>cases(r:nz _ _ _ _ _ _ _) with|mk d l h n e k j=>cases e;exact⟨_,j⟩
def sZ.no(c:o8 I H a)(e:H b=A):a b=none:=by
 cases q:a b with
 |none=>rfl|some o=>refine bp (c.at_ q) λd z=>?_;rw [z] at e;cases e
def JV{a:aT}(n:c≠b):(a.dn b o) c=a c:=by unfold aT.dn;exact W (d4 n) Y
def ak4{a:aT}:(a.dn b o) b=J o:=by unfold aT.dn;exact W (fJ ..) Y
def sZ.Zw(g:o8 I H f)(h:∀a c,f a=J c->a≠b->a≠q)(nd:∀d e i,f (d+1)=J (cw e i)->d+1≠b->d≠q/\d≠b)(j:CJ C I (H.dF q k) (f.dn b o) b o):o8 I (H.dF q k) (f.dn b o):=λa c l=>by
 by_cases n:a=b
 .subst n;rw [ak4] at l;obtain rfl:=aC l;exact j
 .rw [JV n] at l;have r:=g a c l;have m:=h a c l n;cases c with
  |list p=>cases(r:iY _ _ _ _ _) with|mk s t v x g r y=>cases x;exact⟨a,t,v,Y,af (lL m) g,r,y⟩
  |dict z k=>cases(r:kf _ _ _ _ _) with|mk s t v e x g r y L N z=>cases x;exact⟨a,t,v,e,Y,af (lL m) g,r,y,L,N,z⟩
  |inst e i=>cases(r:nz _ _ _ _ _ _ _) with|mk d f t v x k g q r y z=>cases x;have I:=nd d e i l n;exact⟨d,f,t,v,Y,k,af (lL m) g,af (lL I.1) q,r,y,af (JV I.2) z⟩
def sZ.put(d:o8 I H a)(nd:∀c i,a (b+1)≠J (cw c i))(e:CJ C I (H.dF b f) (a.dn b o) b o):o8 I (H.dF b f) (a.dn b o):=
d.Zw (λZ Z Z n=>n) (λd c i g Z=>have n:d≠b:=λz=>nd c i<|z▸g;⟨n,n⟩) e
def sZ.T5(a:o8 I H d)(e:H b=A):∀c i,d (b+1)≠J (cw c i):=λc i q=>by obtain⟨_,o,g⟩:=a.H3 q;rw [e] at g;cases g
def Ok.new(a:bY e f z)(k:jo z.s.heap d)(n:aH z.s.heap b=A)(g:aH d b=J c)(h:nf c=Q)(j:CJ C z.I (z.H.dF b c) (z.σ.dn b o) b o):bY e f ⟨z.I,z.H.dF b c,z.σ.dn b o,{z.s with heap:=d,toks:=t}⟩:=
 have l:=(a V).qX n
 (gF (((a V).tX k).toH g ⟨l.1,l.2.2⟩ h)<|(a J1).put ((a J1).T5 l.2.1) j)
def PE.lst(p:jV f g z h j)(a:bY f g z)(k:jo z.s.heap c)(n:aH z.s.heap b=A)(l:aH c b=J (lR e m))(r:kK z.I d<|cR e)(o:U d<=cu)(q:iC z.σ (az d) h):j (w b) {z.s with heap:=c,toks:=t}:=p (aj b) _ ⟨z.I,z.H.dF b _,z.σ.dn b<|az d,{z.s with heap:=c,toks:=t}⟩ (i3 (uc _) Y) (a.new k n l Y ⟨b,e,m,Y,iJ ..,r,o⟩) Y ((Zd▸q) b<|(a J1).no ((a V).qX n).2.1)
def ji(h)(o):jo h (dh h o):=λZ Z b=>iT _ b
def PE.DF(b:jV c d z e f)(g:bY c d z)(r:kK z.I a<|cR h)(l:U a<=cu)(j:iC z.σ (az a) e):f (w z.s.heap.objs.size) {z.s with heap:=dh z.s.heap<|lN "list" h 0,toks:=t}:=
b.lst g (ji _ _) (mO _) (i1 _ Y) r l j
def PE.oT(p:jV g h z j k)(c:bY g h z)(l:jo z.s.heap d)(e:aH z.s.heap b=A)(m:aH d b=J (hx f n))(r:et C.S z.I a<|cR f)(o:s9 a q)(s:U a<=cu)(t:b≠1)(v:AD z.σ a j):k (w b) {z.s with heap:=d,toks:=x}:=p (aj b) _ ⟨z.I,z.H.dF b _,z.σ.dn b<|dC a n,{z.s with heap:=d,toks:=x}⟩ (i3 (uc _) Y) (c.new l e m Y ⟨b,f,n,q,Y,iJ ..,r,o,s,t,Y⟩) Y ((Ug▸v) n b<|(c J1).no ((c V).qX e).2.1)
def PE.tup(p:jV g h z j k)(a:bY g h z)(l:jo z.s.heap c)(n:aH z.s.heap b=A)(m:aH c b=J (lN "tuple" d f))(r:kK z.I e<|cR d)(o:U e<=cu)(q:j (aR e) z.σ):k (w b) {z.s with heap:=c,toks:=t}:=by have s:=(a V).qX n;have v:Le z.I (z.I.dF b<|lN "tuple" d f):=xF s.1 _;exact p (aR e) _ ⟨z.I.dF b _,z.H,z.σ,{z.s with heap:=c,toks:=t}⟩ (i3 v Y) (gF (((a V).tX l).toI m s.2)<|(a J1).map<|oe v) ⟨b,d,f,Y,iJ ..,r.E3 v,o⟩ q
def PE.NU(b:jV c d z e f)(g:bY c d z)(r:kK z.I a<|cR h)(l:U a<=cu)(j:e (aR a) z.σ):f (w z.s.heap.objs.size) {z.s with heap:=dh z.s.heap<|lN "tuple" h 0,toks:=t}:=
b.tup g (ji _ _) (mO _) (i1 _ Y) r l j
def Ok.upd(a:bY e f z)(s:z.σ b=J o)(g:z.H b=J m)(h:t8 b z.s.heap d)(j:aH d b=J c)(k:nf c=Q)(l:CJ C z.I (z.H.dF b c) (z.σ.dn b o') b o'):bY e f ⟨z.I,z.H.dF b c,z.σ.dn b o',{z.s with heap:=d,toks:=t}⟩:=
gF ((a V).Z2 g h j k)<|(a J1).put (λc i q=>aI<|((a J1).H3 q).1▸s) l
def PE.upd(p:jV g h z j k)(c:bY g h z)(s:z.σ b=J (az o))(e:z.H b=J (lR l v))(q:kK z.I a<|cR<|f l)(m:U a<=cu)(r:dk z.I d x)(n:j d<|z.σ.dn b<|az a):
 k x {z.s with heap:=qR z.s.heap b<|HX f,toks:=t}:=by
 exact p d x ⟨z.I,z.H.dF b _,z.σ.dn b<|az a,{z.s with heap:=qR z.s.heap b _,toks:=t}⟩ (i3 (uc _) Y) (c.upd s e (nJ ..) (m9 (HX f) ((c V).sH _ _ e) Y) Y ⟨b,_,_,Y,iJ ..,q,m⟩) r n
end
section
def rZ(s):cR (dg s).cps=R DX (hN s):=by unfold dg;exact W (Ht ..) Y
def uL(s):(dg s).length=lM s:=by show d6 (dg s).cps=_;exact ax uV<|W (rZ ..)<|W (bB ..) vt
def Lq{a b:bj}(h:cR a.cps=cR b.cps):a=b:=by cases a;cases b;exact aq akW<|FF.mp h
def aes{f:Prop}{g:aa ai->aa ai->Prop}(h:bY q r z)(r1:dk z.I k x)(r2:dk z.I l y)(o:dj z.σ k λa=>dj z.σ l λb=>g a b)(p:∀a b c d e j n m,aH z.s.heap c=J (lR e n)->aH z.s.heap d=J (lR j m)->kK z.I a (cR e)->kK z.I b (cR j)->g a b->x=w c->y=w d->f):f:=by
 cases hV h r1 o with|mk a c e n s g r k k=>
 cases hV h r2 k with|mk b d j m t v H I k=>exact p a b c d e j n m g v r H k s t
abbrev v9:=bL C.dM C.w
abbrev dx{a:Type}:=@wpAny a (v9) Aq
def aeO:p5 I9 (oY .Add):=λ{a b z c v x y d e E} f k r1 r2 g h=>by
 have lst:(dj z.σ c λj=>dj z.σ v λl=>U j+U l<=cu/\iC z.σ (az _) d)->dx (oY .Add x y) e E z.s:=λg=>by refine aes (f:=a7 _ Aq _ e E z.s) f r1 r2 g λj l a b m n o p q r s t k H I=>?_;simp only [H,I];refine abf q r (h.DF f (W Jg<|bR.yB t s) (W a4 k.1) k.2) ?_;simp only [<-s.eQ,<-t.eQ];exact k.1
 cases c with
 |int m=>
  induction r1 with|mk t H=>
  refine ht (tj r2 g) λn L I g=>?_;simp only [H,I];exact add_int<|h.fq f (m3 _ _) g
 |str s=>
  induction r1 with|mk t H=>
  refine ht (zK r2 g) λN L I g=>?_;simp only [H,I];refine add_str (λL z=>?_) ?_
  .have x (s:bo) (t:bo):dg (s++t)=dg s++dg t:=by apply Lq;exact W (rZ ..)<|W PW<|W dq<|ax (rZ ..)<|ax (rZ ..)<|W Jg Y
   exact ax (x ..)<|h.fq f (Cp _ _) g.2
  .have y:=g.1;rw [String.length_append] at y;simp only [uL,uL,GB];exact ae y<|ao Y
 |tup j=>
  refine hv (ew g) λl H y p=>?_;have H:v=aR l:=by cases v<;>first|(cases H;rfl)|cases H
  subst H;have c:=r1;have k:=r2
  induction r1 with|mk a m o H q r n=>
  induction r2 with|mk b L N I z t s=>
  have x:=(f V).sI _ _ q;have v:=(f V).sI _ _ z;have l:=r.eQ;have n:=t.eQ;subst H;subst I;have s:=λq=>concat_meets (S:=q) (prog:=C.dM) (w:=C.w) (A:=Aq) (E:=E) (Q:=e) (a:=w a) (b:=w b) ⟨_,x,Y⟩ ⟨_,v,Y⟩ noFill_tuple_add seq_tuple_add afx alr<|ahv _ _
  by_cases z:xB m=Q
  .refine s _ (tuple_addW0 a b m L o N A A #[] #[] z) ⟨x,v,?_⟩;have H:=Qs.mp<|af l<|Ov.mp z;subst H;exact h.n2 f k p
  .by_cases I:xB L=Q
   .refine s _ (tuple_addW1 a b m L o N A A #[] #[] z I) ⟨x,v,?_⟩;have H:=Qs.mp<|af n<|Ov.mp I;subst H;rw [dw] at p;exact h.n2 f c p
   .refine s _ (tuple_addW2 a b m L o N A A #[] #[] z I ?_) ⟨x,v,h.NU f (W Jg<|bR.yB t r) (W a4 y) p⟩;simp only [<-l,<-n];exact y
 |lst j=>exact lst g|ref a=>exact lst g|_=>exact b4 g
def ņ(x):∀n (a:gM a0),g' (λb c=>b++c) a (dJ n #[x])=a++gU (dJ n x):=by
 refineλn=>n.rec (by simp) λn d=>λa=>?_
 simp only [x',List.foldl_cons,d,x'];apply FF.mp;simp
def ac1(r:bD a I v x)(n):bR a I (dJ n v) (dJ n x):=n.rec Y λn b=>⟨x,_,Y,r,b⟩
set_option tactic.hygienic true in
def ajf:p5 qb (oY .Mult):=λ{a b z c v x y d e E} f k r1 r2 g h=>by
 have lst:(dj z.σ c λj=>bE (oa v) λn=>bE (j[0]?) λx=>(U j=1/\0<=n/\cK n<=cu)/\iC z.σ (az<|dJ (cK n) x) d)->dx (oY .Mult x y) e E z.s:=λg=>by
  cases hV f r1 g with|mk j l m n e o q p g=>
  refine ht (tj r2 g) λr s t g=>hv (ew g) λH I L N=>?_;have a:j=[H]:=by exact N' L.1 I
  subst a;refine aA q.one λb k v=>?_;have x:=FF.mp k;subst x;simp only [e,t];have y:=o;have h1:=L.2.2;have d:=aeL L.2.1 h1;refine wpAny_binaryOp_repeat_ref Y ⟨_,y,Y⟩ (λp=>Xq p r s) noFill_list_mul aaC Ņ repeat_list (kZ Ÿ)
   (QY Ņ (Xq _ r s) ahC (adT _ _) (int___rmul___int_list r s l #[b] n)
    ⟨y,Y,⟨_,y,Y⟩,QY aiZ ⟨_,y,Y⟩ abp (afC _ _)
     (afi l #[b] n r s (by simp [aiS];exact⟨n3 (ao Y) L.2.1,O9 d<|ao Y⟩) (by simp;exact n3 d<|ao Y) (by simp [Ux,t9];exact d))
     ⟨y,?_⟩⟩)
  have q:(g' (λH I=>H++I) #[] (dJ (if xB (#[b]:gM a0)=Q then 0 else cK r) #[b]))=gU (dJ (cK r) b):=by refine W (aS<|by simp)<|W (ņ ..) ?_;simp
  have a:=h.DF (t:=gu z.s) (h:=gU<|dJ (cK r) b) f (ac1 v<|cK r) (W ig h1) N;rw [<-q] at a;exact a
 cases c with
 |int x=>
  induction r1 with|mk k e=>
  refine bp (tj r2 g) λo z=>hv z λs t h1 g=>?_;simp only [e,t];refine aj9 (h.fq f (m3 _ _) g)<|ş ?_;unfold ž;split
  .exact cQ _
  .rename_i n;have l:rr x≠0:=λz=>n (by simpa using z);exact ae (ak (u! l)<|W (rfl:_^62=4611686018427387904) h1)<|ao Y
 |lst j=>exact lst g|ref a=>exact lst g|_=>exact b4 g
def toPs_cons(e:toPs f (b::c)=J g){G:Prop}(k:∀d a,f b=J d->toPs f c=J a->g=d::a->G):G:=
ah (iv.mp e) λd h=>ah (fA h.2) λa g=>k d a h.1 g.1 g.2.symm
def Kg(f:∀e d x,g e=J d->bD h j e x->∃a,oF k x d a):∀{b} {c} {l},toPs g b=J c->bR h j b l->∃a,ReadsAll k l c a:=by
 intro b;refine @(b.rec (@λc l e q=>ax (aC e)<|W (q:l=[])<|⟨_, .nil⟩) λx r m=>?_);intro c l e q;refine toPs_cons e λd n o p s=>?_
 induction q with|mk y t v z H=>
 exact W s<|W v<|ah (f _ _ _ o z) λa I=>ah (m p H) λL N=>cM _<| .cons I N
def tf(e:cO c h):∀n (b:ai) d (x:a0),toP n b=J d->bD f c b x->∃a,oF h x d a:=by
 refineλn=>n.rec (λb d x g=>aI g) λn j=>?_
 have k:∀{T} {l} {m} {x} {d},toPs _ l=J m->iY T c _ (U l) x->(∀{o p q a},aH h o=J (lN T p q)->ReadsAll h (cR p) m a->∃r,oF h _ d r)->∃a,oF h x d a:=λg r s=>by
  induction r with|mk o t q v y q _=>
  exact W v<|ah (Kg j g q) λa z=>s (e _ _ y) z
 intro b d x g r;cases b with
 |none=>refine ax (aC g) ?_;exact W (r:x=bQ)<|⟨_, .none⟩|bool=>refine ax (aC g) ?_;exact W (r:x=eO _)<|⟨_, .bool _⟩|int=>refine ax (aC g) ?_;induction r with|mk t g=>exact W g<|⟨_, .int _ _⟩
 |str s=>refine ax (aC g) ?_;induction r with|mk t g=>exact W g<|⟨_, .str _ _⟩
 |tup l=>exact ah (fA g) λm h=>h.2▸k h.1 r λy z=>cM _<| .tuple y rfl rfl z|lst l=>exact ah (fA g) λm h=>h.2▸k h.1 r λy z=>cM _<| .list y rfl rfl z|_=>exact aI g
def TL(b:cO c h)(e:toP (n+1) (aN d)=J f)(g:aH h j=J (lR k m))(q:bR l c d<|cR k):∃a,oF h (w j) f a:=
ah (fA e) λo k=>ah (Kg (tf b n) k.1 q) λa p=>k.2▸⟨_, .list g Y Y p⟩
def ZD(a j):eX a j=(a==j):=by refine W pB ?_;rw [p1,mx,ru]
def XU(b)(c)(a)(t:a0->a0->l9 a0)(f:bc->bc):=hW (∀{d j} {p q} {e E:VP} {s},e (eO<|f<|d==j) s->a7 (bL b c) a (t (ey d p)<|ey j q) e E s) (∀{d j} {p q} {e E:VP} {s},e (eO<|f<|d==j) s->a7 (bL b c) a (t (gP d p)<|gP j q) e E s) (∀{x y} {g h} {k l} {e E:VP} {s},oF s.heap x g k->oF s.heap y h l->C5 g=Q->C5 h=Q->gV a+min g.depth h.depth<kV->e (eO<|f<|sL g h) s->a7 (bL b c) a (t x y) e E s)<|∀{g h} {d j} {e E:VP} {s:cS},s.heap.IsList g d->s.heap.IsList h j->(d6 d !=d6 j)=Q->e (eO<|f u) s->a7 (bL b c) a (t (w g)<|w h) e E s
def ada(C)(a)(b)(t:a0->a0->l9 a0):=∀{c d} {z} {e v} {x y} {K} {f E:VP},Ok C c d z->bD C.S z.I e x->bD C.S z.I v y->
OY b e v z.σ K->(∀b g,K b->f (eO b) {z.s with toks:=g})->a7 (bL C.dM C.w) a (t x y) f E z.s
abbrev lD:=CU Aq
def Tv(a:lD)(h:d<=200):gV Aq+min d e<kV:=cF (d5 (ae (mq ..)<|ae h (by decide:200<=300)) _)<|a V
def Xf{a:VP}{E:VP}{K}(e:lD)(m:n<=200)(f:XU C.dM C.w Aq t g)(c:cO d s.heap)(r1:dk d h x)(r2:dk d v y)(j:bE (xA n h v) K)(k:∀b,K b->a (eO<|g b) s):dx (t x y) a E s:=
ah (ew j) λb l=>ah (iv.mp l.1) λd o=>ah (fA o.2) λp q=>ah (tf c _ _ _ _ o.1 r1) λr z=>ah (tf c _ _ _ _ q.1 r2) λH I=>(f J2) z I (toP_ok o.1).1 (toP_ok q.1).1 (Tv e<|ae (toP_ok o.1).2 m) (k _ (q.2▸l.2))
def Zg{e:VP}{E:VP}{K}(f:lD)(b:XU C.dM C.w Aq t j)(c:bY k l z)(r1:dk z.I g x)(r2:dk z.I v y)(a:MT g v z.σ K)(d:∀h,K h->e (eO<|j h) z.s):dx (t x y) e E z.s:=by
 have m:sQ z.σ g v K->a7 _ Aq (t x y) e E z.s:=λa=>by
  cases hV c r1 a with|mk n o p q e r q l k=>
  cases hV c r2 k with|mk s H j I L N z x k=>
  refine aA (ew k) λh v k=>?_;simp only [e,L];unfold qC at v
  by_cases y:U n=U s
  .rw [aJ y] at v;exact ah (iv.mp v) λo l=>ah (fA l.2) λH I=>ah (TL (c V).sI l.1 r q) λh x=>ah (TL (c V).sI I.1 N z) λn s=>(b J2) x s (toP_ok l.1).1 (toP_ok I.1).1 (Tv f (toP_ok l.1).2) (d _ (I.2▸k))
  .rw [aS y] at v;obtain rfl:=aC v;exact(b J3) (iX r) (iX N) (ak Ko λo=>y<|af q.eQ<|af o z.eQ.symm)<|d _ k
 cases g with
 |int p=>
  refine ht (tj r2 a) λj H L a=>?_
  induction r1 with|mk t e=>simp only [e,L];exact(b V)<|ZD p j▸d _ a
 |str p=>
  refine ht (zK r2 a) λj H L a=>?_;have h:nh p j=(dg p==dg j):=by refine W wq ?_;rw [p1,mx,ru];exact⟨λe=>e▸Y,B2⟩
  induction r1 with|mk t e=>simp only [e,L];exact(b J1)<|h▸d _ a
 |bool p=>exact Xf f (bb _) b (c V).sI r1 r2 a d|tup p=>exact Xf f (bb _) b (c V).sI r1 r2 a d|_=>exact m a
abbrev nq:=ada C Aq
def ag4(a:lD):nq fD (mM .Eq):=λb r1 r2 c d=>Zg a (dV eq_int aiT compareEq_reads λe f n h=>ac2 e f n (cF (dO _ 300)<|a V) _ _ _ _ h) b r1 r2 c λb k=>d b _ k
def abj(a:lD):nq hb (mM .NotEq):=λ{b c z d v x y K e E} f r1 r2 g h=>Zg (K:=λr=>K<| !r) a (dV ne_int aip compareNe_reads λj k n l=>acF j k n (cF (dO _ 300)<|a V) _ _ _ _ l) f r1 r2 g λb k=>h _ _ k
def ag0(n)(v)(G:Prop):=(∀a,v=ag a->G)->(∀a,v=aG a->G)->(∀m b,n=m+1->v=aR b->(∀x∈b,kU m x=Q)->G)->G
def xd{G}(h:kU n v=Q):ag0 n v G:=
ai.casesOn v bU (λZ=>bU) (λa Z k Z Z=>k a Y) (λa Z Z k Z=>k a Y)
 (λb=>XQ n bU λm h Z Z k=>k m b Y Y<|oW h) (λZ=>bU) (λZ=>bU) (λZ Z=>bU) (λZ=>bU) h
def Bf:∀n (v:ai),kU n v=Q->Pd (n+1) v:=λn=>n.rec (λv h=>xd h (λa e=>e▸EW) (λa e=>e▸s4) λm b e=>Bu e) λn c=>by exactλv h=>xd h (λa e=>e▸EW) (λa e=>e▸s4) λm b e d k=>by cases e;exact W d<|Af λx f=>c x<|k x f
def Jh(f:ai->ba PyData)(a v):=∀d e,f a=J d->f v=J e->(sL d e=Q↔a=v)
def agc:∀{b a} {c d},(∀x∈b,∀y∈a,Jh f x y)->toPs f b=J c->toPs f a=J d->(PV c d=Q↔b=a):=by
 intro b
 induction b with
 |nil=>
  intro a c d _ h g;refine ax (aC h) ?_
  induction a with
  |nil=>refine ax (aC g) ?_;exact⟨λZ=>rfl,λZ=>rfl⟩|cons y a=>exact toPs_cons g λe j Z Z k=>W k<|⟨bU,λz=>AV z⟩
 |cons x b l=>
  intro a c d m h g;refine toPs_cons h λd n h1 h2 h3=>W h3 ?_
  induction a with
  |nil=>refine ax (aC g) ?_;exact⟨bU,λz=>jJ z⟩|cons y a=>refine toPs_cons g λe j o p q=>W q<|W (wB ..) ?_;rw [m x b8 y b8 d e h1 o,l (λx r y s=>m x (cy _ r) y<|cy _ s) h2 p,Dm]
def JO{G:Prop}(h:kU n v=Q)(e:toP (n+1) v=J d)(f:∀a,v=ag a->d= .int a->G)(g:∀a,v=aG a->d= .str (dg a)->G)
 (j:∀m b c,n=m+1->v=aR b->d= .tuple c->(∀x∈b,kU m x=Q)->toPs (toP<|m+1) b=J c->G):G:=
 xd h (λa z=>by subst z;obtain rfl:=aC e;exact f a Y Y) (λa z=>by subst z;obtain rfl:=aC e;exact g a Y Y) λm b k z l=>by subst k;subst z;exact ah (fA e) λc g=>j m b c Y Y g.2.symm l g.1
def yg(h:a->bX)(g:b->bX):a↔b:=⟨λx=>b4<|h x,λx=>b4<|g x⟩
def Tx(c:∀m,n=m+1->∀a v,kU m a=Q->kU m v=Q->Jh (toP<|m+1) a v)(d:kU n a=Q)(b:kU n v=Q):Jh (toP<|n+1) a v:=by
 refineλe e h g=>JO d h (λf j k=>?_) (λf j k=>?_) λm l o p j k q r=>?_
 .refine JO b g (λs t x=>?_) (λs t x=>?_) λm y z p t x H I=>?_<;>simp only [j,k,t,x]
  .exact jP ru ⟨λL=>L▸Y,λL=>by injection L⟩
  .exact yg bU ai.noConfusion
  .exact yg bU ai.noConfusion
 .refine JO b g (λs t x=>?_) (λs t x=>?_) λm y z p t x H I=>?_<;>simp only [j,k,t,x]
  .exact yg bU ai.noConfusion
  .exact W XB<|jP mx ⟨λL=>L▸Y,λL=>by injection L⟩
  .exact yg bU ai.noConfusion
 .refine JO b g (λs t x=>?_) (λs t x=>?_) λN y z a t x H I=>?_<;>simp only [j,k,t,x]
  .exact yg bU ai.noConfusion
  .exact yg bU ai.noConfusion
  .cases af p.symm a;exact jP (agc (λx v y n=>c m p x y (q x v)<|H y n) r I) ⟨λL=>L▸Y,λL=>by injection L⟩
def Ou:∀n (a v:ai),kU n a=Q->kU n v=Q->Jh (toP<|n+1) a v:=λn=>n.rec (λa v=>Tx λm z=>Bu z) λn b=>by exactλa v=>Tx λm z=>by cases z;exact b
noncomputable def qp(h:ie):PM:=λa=>aH h a
def Ki(h):cO (qp h) h:=λZ Z e=>e
def ab3(b:gz a=Q)(c:gz v=Q)(r1:bD d (qp h) a x)(r2:bD d (qp h) v x):a=v:=
ah (Bf 3 a b) λd e=>ah (Bf 3 v c) λf g=>ah (tf (Ki h) _ _ _ _ e r1) λj k=>ah (tf (Ki h) _ _ _ _ g r2) λl m=>(Ou 3 a v b c d f e g).mp ((Reads.unique d f x j l (toP_ok e).1 k m)▸eqv_refl d (toP_ok e).1)
def abU(e:gV b+100<kV)(c:gz a=Q)(d:gz v=Q)(r1:bD f (qp s.heap) a x)(r2:bD f (qp s.heap) v y)[Dp<|a=v]:EqAt b s x y (decide (a=v)):=
ah (Bf 3 a c) λg h=>ah (Bf 3 v d) λj k=>ah (tf (Ki _) _ _ _ _ h r1) λl m=>ah (tf (Ki _) _ _ _ _ k r2) λn o=>W (show decide _=sL g j by rw [p1,mx,Ou 3 a v c d g j h k]) (eqAt_reads g j b s x y l n m o (toP_ok h).1 (toP_ok k).1<|cF (d5 (ae (mq ..)<|ae (toP_ok h).2<|ao Y) _) e)
mutual
noncomputable def um:ai->O
|aR a=>GS a+1|_=>1
noncomputable def GS:aa ai->O
|[]=>0|x::r=>um x+GS r
end
noncomputable def tk(s:cS)(n):={s with toks:=gu s+n}
def Lr(a)(S)(n)(v):=∀x (b:v7) s (c:au->cS->Prop) (E:VP),bD S (qp s.heap) v x->gV b+n<kV->c (pE S.w v) (tk s<|um v)->a7 (bL a S.w) b (pyHash x) c E s
def adm:∀a (l:aa a0) b (s:cS) c (d:gM au->cS->Prop) (E:VP),(∀x∈a,Lr g f n x)->bR f (qp s.heap) a l->gV b+n<kV->
 (∀e,cR e=cR c++RC f.w a->d e (tk s<|GS a))->
 a7 (bL g f.w) b (forIn l c λx r=>do let h<-pyHash x;pure PUnit.unit;pure (ub<|r.push h)) d E s:=by
 refineλa=>a.rec (λl b s c d E Z q Z h=>W (q:l=[])<|bq<|h c (dw _).symm) λk a j=>λl b s c d E m q o h=>?_
 induction q with|mk y p t v z=>
 refine W t<|W (Qx ..)<|aB<|aB<|m k b8 y b s _ E v o (aB<|bq<|bq ?_);refine j p b _ _ d E (λx H=>m x<|cy _ H) z o λe I=>?_;have z:=h e (by refine W I<|W Gy<|W (dy ..) ?_;rfl);exact W (show tk _ _=tk s (um k+GS a) by unfold tk;rw [cA]) z
def Rq:∀n (v:ai),kU n v=Q->Lr a b n v:=by
 have c:∀{n} {v},kU n v=Q->_->Lr a b n v:=λh k=>xd h (λd e=>by refine W e ?_;exactλx f s g E r Z h=>by induction r with|mk t e=>exact W e<|u_ h) (λd e=>by refine W e ?_;exactλx f s g E r Z h=>by induction r with|mk t e=>exact W e<|UU h) k
 refineλn=>n.rec (λv h=>c h λm j e=>Bu e) λn l=>λv h=>c h λm j e o k=>W o ?_
 cases e;intro x f s g E r p h
 induction r with|mk a d m e g q _=>
 refine W e<|pyHash_slot ⟨_,g,Y⟩ ajk afE (ajK _) (beq_builtin_none _) (aw<|cF (dO ..) p) (?_:a7 _ _ (Zp _>>=_) _ _ s);refine aB<|V5 g Y<|aB<|ax Y! <|adm j (cR d) f.in1 s #[] _ E (λx y=>l x<|k x y) q ?_ λb e=>?_
 .rw [cA,eT 1];exact p
 .show a7 _ _ (retInt _) _ _ _;exact W e<|aB<|L0<|bq ⟨_,_,Y,h⟩
def bR.mem{G:Prop}:∀{a} {l},bR b I a l->x∈l->(∀y,y∈a->bD b I y x->G)->G:=by
 intro a
 induction a with
 |nil=>intro l q m;rw [show l=[] from q] at m;exact bG m|cons y c d=>
  intro l q m k
  induction q with|mk e f e g h=>
  rw [e] at m;exact aP (mc m) (λe=>k y b8<|e▸g) λm=>d h m λy g=>k y<|cy _ g
def afn{E:VP}{M}:∀{l:aa a0},(∀x,x∈l->∀a:ForInStep d->cS->Prop,a (.yield b) s->a7 M c (f x b) a E s)->a b s->a7 M c (forIn l b f) a E s:=by intro l;exact l.rec (λZ h=>bq h) λx l e=>λg h=>W (Qx ..)<|aB<|g x b8 _ (e (λy j=>g y<|cy _ j) h)
def Td(a)(S)(n)(v):=∀d (x:a0) b (s:cS) c (E:VP),n<=d->bD S (qp s.heap) v x->c Q s->a7 (bL a S.w) b (eqIsQuiet d x) c E s
def abt:∀n (v:ai),kU n v=Q->Td a b n v:=by
 have c:∀{n} {v},kU n v=Q->_->Td a b n v:=λh k=>xd h (λd e=>by refine W e ?_;exactλf x g s j E Z r h=>by cases r with|mk t e=>exact W e<|W (J! _ Y)<|bq h) (λd e=>by refine W e ?_;exactλf x g s j E Z r h=>by cases r with|mk t e=>exact W e<|W (J! _ Y)<|bq h) k
 refineλn=>n.rec (λv h=>c h λm l e=>Bu e) λn o=>λv h=>c h λm l e p k=>W p ?_
 cases e;intro f x g s j E q r h
 induction r with|mk a y m e g z _=>
 refine W e ?_;have H:jn s (w a) "tuple":=⟨_,g,Y⟩
 induction f with
 |zero=>exact b4<|Nat.not_succ_le_zero _ q|succ f=>
 unfold eqIsQuiet;exact aB<|Gb H (kZ aez)<|aB<|HV H isSubtype_tuple_tuple<|W W_<|W (aS hz)<|aB<|a' g Y<|aB<|ax Y! <|afn (λx I j L=>z.mem I λy N b=>aB<|o y (k y N) f _ _ s _ _ (Ip q) b (W W_<|W (aS hz)<|bq L))<|bq h
def aaT{a ep}(b:aH h d=J o)(c:hH o=pM a ep)(e:t8 d h f):∀n (v:ai),kU n v=Q->∀x,bD g (qp h) v x->bD g (qp f) v x:=by
 refineλn=>n.rec (λv j=>xd j (λk l=>by refine W l ?_;exactλx r=>r) (λk l=>by refine W l ?_;exactλx r=>r) λm p l=>Bu l) λn q=>?_
 refineλv j=>xd j (λk l=>by refine W l ?_;exactλx r=>r) (λk l=>by refine W l ?_;exactλx r=>r) λm p l s t=>?_
 subst s;cases l;intro x r
 induction r with|mk a k m l g y z=>
 refine⟨a,k,m,l,af (e.2 a λl=>?_) g,?_,z⟩
 .subst l;cases af g.symm b;cases c
 .clear g z l j;revert t y;generalize cR k=l;intro t
  induction p generalizing l with
  |nil=>exactλy=>y|cons H I L=>exactλy=>y.rQ (q H<|t H b8) λl=>L (l:=l) λz N=>t z<|cy _ N
noncomputable def zf:DecidableEq ai:=λa b=>nV<|a=b
def X!(S)(a):=
@HeapKind.mk a S.w ai zf (λh k a=>gz k=Q/\bD S (qp h) k (w a)) (pE S.w) um (λb=>gV b+100<kV) (λc d=>ab3 c.1 d.1 c.2 d.2)
 (λc e f g=>br c.1<|aaT e f g 3 _ c.1 _ c.2) (λj c h=>Rq 3 _ c.1 _ _ _ _ _ c.2 (cF (d5 (of_decide_eq_true rfl) _) j) h)
 (λj c d h=>@abU _ _ _ _ _ _ _ j c.1 d.1 c.2 d.2 (zf _ _) _ _ _ _ h) (λc h=>abt 3 _ c.1 8 _ _ _ _ _ (ao Y) c.2 h)
def sb(v):=ai.casesOn (motive_1:=λZ=>a0->bc) v (λZ=>u) (λZ Z=>u) (λa v=>v.isInt a) (λa v=>v.isStr<|dg a) (λZ Z=>u) (λZ Z=>u) (λZ Z=>u) (λZ Z Z=>u) λZ Z=>u
def IvC(k)(x)(G:Prop):=(∀a t,k=ag a->x=ey a t->G)->(∀a t,k=aG a->x=gP (dg a) t->G)->G
def uK{G}(h:sb k x=Q):IvC k x G:=
ai.casesOn k bU (λZ=>bU) (λa h f Z=>ah (Xk h) λt e=>f a t Y e) (λa h Z f=>ah (aiW h) λt e=>f a t Y e)
 (λZ=>bU) (λZ=>bU) (λZ=>bU) (λZ Z=>bU) (λZ=>bU) h
def E'(x)(a v)(c:sb a x=Q)(b:sb v x=Q):a=v:=
uK c (λd t e f=>uK b (λj g h k=>by simp only [e,h];rw [f] at k;injection k with l;exact aq _ l) λj g Z k=>by rw [f] at k;cases k)
 λd t e f=>uK b (λj g Z k=>by rw [f] at k;cases k) λj g h k=>by simp only [e,h];rw [f] at k;injection k with l;exact aq _ (B2 l)
def ν{y}(c:sb a x=Q)(b:sb v y=Q)[Dp<|a=v]:EqAt d s x y (decide (a=v)):=
 uK c (λe t f g=>uK b (λj h k l=>W g<|W l<|W (show decide _=_ by rw [p1,mx,ru,f,k];exact⟨λz=>by injection z,aq _⟩)<|aiN _ _ _ _)
  λj h k l=>by rw [g,l,gn (show¬a=v by rw [f,k];exact ai.noConfusion)];exact ι _ _ _ _)
 λe t f g=>uK b (λj h k l=>by rw [g,l,gn (show¬a=v by rw [f,k];exact ai.noConfusion)];exact agq _ _ _ _) λj h k l=>by rw [g,l,show decide _=(dg e==dg j) by rw [p1,mx,ru,f,k];exact⟨λz=>by injection z with z;rw [z],λz=>by rw [B2 z]⟩];exact Τ _ _ _ _
def acy(S:kc)(a):=
@KeyKind.mk a S.w ai zf sb (pE S.w) E' (λk v h=>uK h (λb t Z e=>by refine W e ?_;rfl) λb t Z e=>by refine W e ?_;rfl)
 (λc h=>uK c (λb t d f=>by rw [d] at h;exact W f<|u_ h) λb t d f=>by rw [d] at h;exact W f<|UU h)
 (λc g h=>@ν _ _ _ _ _ _ c g (zf _ _) _ _ _ _ h) λk x t v h=>uK h (λb t Z e=>ad7<|e) λb t d f=>by injection f with f _;exact W d<|W f Y
def nn{G:Prop}(d:aE m n=u)(h:m=n):G:=b4<|Cr d h
def yX{m n k:O}{G:Prop}(d:aE m n=u)(a:aE m k=u)(h:m=n\/m=k):G:=aP h (nn d)<|nn a
def G4(h:kh k=1\/kh k=2):bD a I k x->sb k x=Q:=
ai.casesOn k (yX Y Y) (λZ=>yX Y Y) (λZ Z r=>by induction r with|mk t e=>exact W e<|eV Y) (λZ Z r=>by induction r with|mk t e=>exact W e<|jT _)
 (λZ=>yX Y Y) (λZ=>yX Y Y) (λZ=>yX Y Y) (λZ Z=>yX Y Y) (λZ=>yX Y Y) h
def Vi(h:kh k=3):bD b I k x->∃a,x=w a:=
ai.casesOn k (nn Y) (λZ=>nn Y) (λZ=>nn Y) (λZ=>nn Y) (λZ Z r=>by induction r with|mk a c m e g q d=>exact cM a e)
 (λZ=>nn Y) (λZ=>nn Y) (λZ Z=>nn Y) (λZ=>nn Y) h
def Ũ(h:gz k=Q):(kh k=1\/kh k=2)\/kh k=3:=xd h (λa e=>W e<|aL<|aL Y) (λa e=>W e<|aL<|aw Y) λm b Z e Z=>W e<|aw Y
def et.mem{G:Prop}:∀{a} {l},et b I a l->e∈l->(∀p,p∈a->uE (pE b.w p.1) (bD b I p.1) (bD b I p.2) e->G)->G:=by
 intro a
 induction a with
 |nil=>intro l q m;rw [show l=[] from q] at m;exact bG m|cons y c d=>
  intro l q m k
  induction q with|mk f g h j n=>
  rw [h] at m;exact aP (mc m) (λe=>k y b8<|e▸j) λm=>d n m λy j=>k y<|cy _ j
def et.Jp:∀{a} {l},et b I a l->U a=U l:=by
 intro a
 induction a with
 |nil=>intro l q;exact W (q:l=[]) Y|cons y c d=>intro l q;induction q with|mk e f g h j=>exact W g<|aq _ (d j)
def et.at{G:Prop}:∀{a} {l} {j:O},et b I a l->l[j]?=J e->(∀p,a[j]?=J p->uE (pE b.w p.1) (bD b I p.1) (bD b I p.2) e->G)->G:=by
 intro a
 induction a with
 |nil=>intro l j q m;rw [show l=[] from q] at m;exact aI m|cons y c d=>
  intro l j q m k
  induction q with|mk f g h n o=>
  rw [h] at m
  induction j with
  |zero=>obtain rfl:=aC m;exact k y Y n|succ j=>exact d o m k
def akm(d:cO I h):∀{a} {l},et b I a l->(∀e∈a,kh e.1=3)->(∀e∈a,gz e.1=Q)->∃c:aa<|ai×cx×a0,l=R (@entryOfKey f b.w ai zf<|X! b f) c/\R (·.1) c=R (·.1) a/\∀x∈c,gz x.1=Q/\bD b (qp h) x.1 (w x.2.1):=by
 intro a;refine @(a.rec (@λl q Z Z=>W (q:l=[])<|⟨[],Y,Y,lB⟩) λy g j=>?_);intro l q h3 k
 induction q with|mk m n o p r=>
 refine ah (Vi (h3 y b8)<|p J1) λa s=>ah (j r (λe t=>h3 e<|cy _ t) λe t=>k e<|cy _ t) λc v=>⟨(y.1,a,m.val)::c,?_,aq _ v.2.1,gQ ⟨k y b8,s▸(p J1).ek d⟩ v.2.2⟩;simp only [o,v.1];refine aq (·::_) ?_;cases m with|mk z H L=>
 refine(?_:_=af3 (pE b.w y.1) (w a) L);simp only [<-show H=w a from s,<-show z=pE b.w y.1 from p V]
def DK(S)(I)(h)(a)(b)(n)(d)(k)(x):=uk (cO I h) (aH h d=J (hx b n)) (et S I a<|cR b) (bw<|R (·.1) a) (∀e∈a,gz e.1=Q) (il a k)<|bD S I k x
def NI(d:cO I h)(g:aH h e=J (hx b n))(q:et c I a<|cR b)(nd:bw<|R (·.1) a)(f:∀j∈a,gz j.1=Q)(l:il a k)(r:bD c I k x):DK c I h a b n e k x:=kb d g q nd f l r
def af0{a:aa<|ai×ai}{c:Type}{b:aa<|ai×c}{j:O}(e:R (·.1) b=R (·.1) a)(h:a[j]?=J (k,v)):∃p,b[j]?=J (k,p):=by have z:=aq (λl=>l[j]?) e;rw [show(R (·.1) a)[j]?=J k by refine W (cf)<|W h ?_;rfl] at z;rw [show _[j]?=b7 (·.1) (b[j]?) from cf] at z;exact ah (fA z) λp d=>cM p.2<|W d.1<|ax d.2 rfl
def et.to{G:Prop}{p}:∀{a} {l} {j:O},et b I a l->a[j]?=J p->(∀e,l[j]?=J e->uE (pE b.w p.1) (bD b I p.1) (bD b I p.2) e->G)->G:=by
 intro a;refine @(a.rec (λq m=>by cases m) λy c d=>?_);intro l j q m k
 induction q with|mk f g h n o=>
 rw [h] at k
 induction j with
 |zero=>cases m;exact k _ Y n|succ j=>exact d o m k
def T7{E:VP}{S}(m:gV e+100<kV)(b:DK S I s.heap f a n g k x)(h:(∀(j:O) v,f[j]?≠J (k,v))->c A s)(l:∀j (v:ai),f[j]?=J (k,v)->c (J j) s):a7 (bL d S.w) e (dictFind g x<|pE S.w k) c E s:=by
 refine aP (Ũ (b J5).1) (λo=>?_) λo=>?_
 .have p:∀q∈a,∃r,sb r q.key=Q/\q.hash=pE S.w r:=λq t=>(b J2).mem (ak Hn t) λy z r=>⟨y.1,G4 ((b J5).2 y z▸o)<|r J1,r V⟩;refine @wpAny_dictFind_of d S.w ai zf (acy S d) e E s g _ a n k x c (G4 o<|b J6) (b J1) Y p (?_:c (a.findIdx? λq=>sb k q.key) s);cases q:a.findIdx? λq=>sb k q.key with
  |none=>refine h λj v H=>(b J2).to H λL t r=>?_;exact bU<|G4 o (r J1)▸(Array.findIdx?_eq_none_iff.mp q L<|Hn.mp<|aO t)|some j=>refine ah (Array.findIdx?_eq_some_iff_getElem.mp q) λN I=>?_;refine(b J2).at (af rY<|X? N) λy z r=>l j y.2 ?_;exact W z<|W (E' _ _ _ I.1 (G4 ((b J5).2 y (aO z)▸o)<|r J1)) Y
 .refine ah (Vi o<|b J6) λx p=>ah (akm (f:=d) (b V) (b J2) (λq t=>af ((b J5).2 q t) o)<|b J4) λL N=>?_;have r:=b J6;dsimp only [Ic] at r;rw [p] at r⊢;exact @wpAny_dictFind_heap d S.w ai zf (X! S d) e E s g x _ a n L k c m ⟨(b J5).1,r.ek<|b V⟩ (b J1) Y N.1 N.2.2 (N.2.1▸(b J3)) (λI=>h λj v H=>ah (af0 N.2.1 H) λy=>I j y) λj y H=>(by have o:=aq (λq=>q[j]?) N.2.1;rw [show _[j]?=J k by simp only [cf,H];rfl] at o;rw [show _[j]?=b7 (·.1) (f[j]?) from cf] at o;exact ah (fA o.symm) λy z=>(λv=>l j v) y.2<|W z.1<|ax z.2 Y)
def ĸ{a:aa<|ai×ai}{j:O}{e:ai×ai}(n:e.1∉R (·.1) a)(h:a[j]?=J (k,v)):¬e.1=k:=λz=>n<|z▸hM (aO h)
def aa0:∀{a} {j:O},bw (R (·.1) a)->a[j]?=J (k,v)->dU a k=J v:=by
 intro a;refine @(a.rec (λZ h=>aI h) λe r b=>?_);intro j nd h;have nd:=jk.mp nd
 induction j with
 |zero=>refine W (aC h) ?_;exact aJ Y|succ j=>exact af (aS<|ĸ nd.1 h)<|b nd.2 h
def W0:∀{a},(∀(j:O) v,a[j]?≠J (k,v))->dU a k=none:=by intro a;exact a.rec (λZ=>rfl) λe r b h=>W WI<|W (aS λz=>h 0 e.2<|by rw [<-z];rfl)<|b λj v=>h (j+1) v
def DK.tk(b:DK a I s.heap c d n e k x)(m):DK a I (tk s m).heap c d n e k x:=b
def DK.get{E:VP}{S}(a:gV e+100<kV)(b:DK S I s.heap c f n g k x)(h:dU c k=A->d A (Zq.tk s<|um k))(j:∀v y,dU c k=J v->bD S I v y->d (J y) (Zq.tk s<|um k)):a7 (bL l S.w) e (ER g x) d E s:=by
 refine hU<|aB<|Rq 3 k (b J5).1 _ _ _ _ _ ((b J6).ek<|b V) (cF (d5 (ao Y) _) a) (aB<|T7 a (b.tk _) (λm=>?_) λo v p=>?_)
 .exact bq<|h<|W0 m
 .refine aB<|Nt (b J1) Y<|bq<|(b J2).to p λe q r=>W (show f[o]?=J e by rw [<-rY];exact q) ?_;exact j v e.val (aa0 (b J3) p)<|r J2
def et.set(d:∀e,f e={e with val:=y})(g:bD b I v y):∀{a} {l} {j} {c},et b I a l->bw (R (·.1) a)->a[j]?=J (k,c)->et b I (eW a k v) (l.modify j f):=by
 intro a;refine @(a.rec (λZ Z h=>aI h) λe r m=>?_);intro l j c q nd h;have nd:=jk.mp nd
 induction q with|mk n o p s t=>
 refine W p<|W Rg ?_
 induction j with
 |zero=>obtain rfl:=aC h;exact W (aJ Y)<|W (List.modify_zero_cons ..)<|W (d ..)<|⟨_,_,Y,bZ (s V) (s J1) g,t⟩|succ j=>exact W (aS<|ĸ nd.1 h)<|W (List.modify_succ_cons ..)<|⟨_,_,Y,s,m t nd.2 h⟩
def et.push(c:uE (pE b.w k) (bD b I k) (bD b I v) e):∀{a} {l},et b I a l->dU a k=A->et b I (eW a k v) (l++[e]):=by
 intro a;refine @(a.rec (@λl q Z=>W (q:l=[])<|⟨_,_,Y,c,Y⟩) λy d f=>?_);intro l q h
 induction q with|mk g j m n o=>
 refine W m ?_;have h:=af WI.symm h;refine W Rg ?_
 by_cases z:y.1=k
 .rw [aJ z] at h;exact iG h
 .rw [aS z] at h⊢;exact⟨_,_,Y,n,f o h⟩
def DK.set{E:VP}{S}(c:gV j+100<kV)(b:DK S I s.heap e p n d k x)(l:U e<cu)(f:bD S I v y)
 (g:∀a h m,aH a d=J (hx h m)->t8 d s.heap a->et S I (eW e k v) (cR h)->o () {s with heap:=a,toks:=gu s+um k}):a7 (bL q S.w) j (dictSet d x y) o E s:=by
 refine hU<|aB<|Rq 3 k (b J5).1 _ _ _ _ _ ((b J6).ek<|b V) (cF (d5 (ao Y) _) c) (hU<|aB<|T7 c (b.tk _) (λr=>?_) λj t z=>?_)
 .refine aB<|BR<|wpAny_updateDictKeys (hz:=?_) (b J1) Y<|g _ _ _ (af (m9 _ (b J1) (L'<|agX Y _)) Y) (nJ ..) ?_
  .exact W Gy<|(b J2).push (bZ Y (b J6) f)<|W0 r
  .exact ax uV<|ax (b J2).Jp<|ax x9<|bT l
 .refine aB<|BR<|aB<|wpAny_updateDict (b J1) Y<|wpAny_point<|g _ _ n (af (m9 _ (b J1) (L'<|aml Y _)) Y) (nJ ..) ?_;exact W Array.toList_modify<|(b J2).set (λZ=>rfl) f (b J3) z
def adu{d}(e:gz c=Q)(f:toP 4 c=J d){g:Dp<|c∈a}:∀{b},(∀y∈a,gz y=Q)->toPs (toP 4) a=J b->(b.any λy=>sL y d)=decide (c∈a):=by
 have go:∀{a} {b},(∀y∈a,gz y=Q)->toPs (toP 4) a=J b->((b.any λy=>sL y d)=Q↔c∈a):=by intro a;refine @(a.rec (λZ h=>ax (aC h)<|yg bU bG) λx r j=>?_);intro b k h;refine toPs_cons h λl m n o p=>?_;simp only [p,XF,K6,Ou 3 x c (k x b8) e l d n f,j (λy q=>k y<|cy _ q) o,qV];exact or_congr_left eq_comm
 intro b k h;rw [p1,mx];exact go k h
open Classical in
def ρ{K}{G:Prop}(h:bE (nr a b) K)(g:gz a=Q->(∀y∈b,gz y=Q)->K (@decide (a∈b) (propDecidable _))->G):G:=by
 unfold nr at h
 by_cases q:gz a=Q/\∀y∈b,gz y=Q
 .rw [aJ q] at h;exact g q.1 q.2 h
 .rw [aS q] at h;exact b4 h
def UE(b)(c)(a)(t:a0->a0->l9 a0)(f:bc->bc):=fR (∀{d x} {e} {g} {h j} {k E:VP} {s},oF s.heap d (.list e) h->oF s.heap x g j->Nz e=Q->C5 g=Q->gV a+1+min (G0 e) g.depth<kV->k (eO<|f<|e.any λy=>sL y g) s->a7 (bL b c) a (t x d) k E s) (∀{d x} {e} {g:PyData} {h j} {k E:VP} {s:cS},oF s.heap d (.tuple e) h->oF s.heap x g j->Nz e=Q->C5 g=Q->gV a+1+min (G0 e) g.depth<kV->k (eO<|f<|e.any λy=>sL y g) s->a7 (bL b c) a (t x d) k E s)<|∀{d x:a0} {k E:VP} {s},a7 (bL b c) a (contains d x) (λl s=>k (eO<|f l) s) E s->a7 (bL b c) a (t x d) k E s
def DN(a:lD):gV Aq.in1+100<kV:=cF (show gV Aq+1+100<=gV Aq+300 by exact W (cA ..)<|d5 (ao Y) _)<|a V
def W7{c:VP}{E:VP}{K}(j:lD)(nf:UE C.dM C.w Aq t k)(l:cO m s.heap)(r:dk m d x)(h:bE (nr d e) K)(n:∀a,toPs (toP 4) e=J a->(∃b,oF s.heap f (.list a) b)\/∃b,oF s.heap f (.tuple a) b)
 (o:∀g,K g->c (eO<|k g) s):dx (t x f) c E s:=
 ρ h λp q k=>ah (Bf 3 d p) λv y=>ah (Q5 λx m=>Bf 3 x<|q x m) λa z=>ah (tf l _ _ _ _ y r) λH I=>by have L:=toP_ok y;have N:=toP_ok (n:=5) (a:=aN e)<|aq (b7 S5) z;have s (h:(UX v)<=200):gV Aq+1+min (G0 a) (UX v)<kV:=cF (W (cA ..)<|d5 (ae (d5 (ae (oN ..) h) 1) (by decide:1+200<=300)) _)<|j V;have c:=s<|ae L.2<|ao Y;have f:=(adu p y q z)▸o _ k;exact aP (n a z) (λz=>ah z λb g=>(nf V) g I N.1 L.1 c f) λz=>ah z λb g=>(nf J1) g I N.1 L.1 c f
def Im(h:a≠1):(a==Xx)=false:=ak lz h
def Ik{G:Prop}(r:kf c (et e I a) a N f)(g:cO c h)(sI:cO I h)(j:il a k)(l:bD e I k x)(m:∀d b n,f=w d->c d=J (hx b n)->DK e I h a b n d k x->d≠1->U a<=cu->N n->G):G:=by induction r with|mk d b n _ e o q p s t z=>exact m d b n e o (NI sI (g _ _ o) q (p V) (p J2) j l) t s z
def DK.has{E:VP}{S}(b:DK S I s.heap a g n d k x)(c:lD)(e:d≠1)(h:f (d7<|dU a k)<|Zq.tk s<|um k):a7 (bL j S.w) Aq (contains (w d) x) f E s:=by
 have l:jn s (w d) "dict":=⟨_,b J1,Y⟩;refine wpAny_contains_slot l YT<|rA YT l entry_dict_contains (?_:a7 _ _ (ER d x>>=_) _ _ s)<|args_dict_contains _ _;refine aB (b.get (DN c) (λm=>?_) λv y m Z=>?_)<;>rw [m] at h
 .exact aB<|wpAny_pendingKey_other (Im e)<|bq ⟨_,Y,zC h⟩
 .exact bq ⟨_,Y,zC h⟩
def V9{e:VP}{E:VP}{K}(g:CU Aq)(nf:UE C.dM C.w Aq t j)(b:Ok C k l z)(r1:bD C.S z.I f x)(r2:bD C.S z.I v d)(a:mW f v z.σ K)(h:∀c tk,K c->e (.bool<|j c) {z.s with toks:=tk}):a7 (bL C.dM C.w) Aq (t x d) e E z.s:=by
 rw [q8] at a;have lst:∀{m} {n},iY "list" m (bR C.S z.I n) n.length d->cO m z.s.heap->bE _ K->a7 _ Aq (t x d) e E z.s:=λr o p=>by cases r with|mk Á s y H I L l=>exact W7 g nf (b V).sI r1 p (λN j=> .inl<|H▸(Kg (tf (b V).sI 4) j L).elim λk t=>cM _<| .list (o _ _ I) rfl rfl t) λc x=>h c _ x
 have oT:∀{m} {À} {q},kf m _ q À d->cO m z.s.heap->(il q f/\K (dU q f).isSome)->a7 _ Aq _ e E z.s:=λr o p=>Ik r o (b V).sI p.1 r1 λe m y H Z c o Z Z=>(nf J2)<|H▸c.has g o (h _ _ p.2)
 cases v with
 |tup n=>induction r2 with|mk Á s y H I L l=>exact W7 g nf (b V).sI r1 a (λN j=> .inr<|H▸(Kg (tf (b V).sI 4) j L).elim λk t=>cM _<| .tuple ((b V).sI _ _ I) rfl rfl t) λc x=>h c _ x
 |lst n=>exact lst r2 (b V).sI a|oT q=>exact oT r2 (b V).sI a|ref r=>
  have a:inR f K (z.σ r):=a;have e:=(b J1) r;obtain rfl:=(r2:d= .ref r);cases H:z.σ r with
  |none=>exact(H▸a).elim|some o=>
   rw [H] at a
   induction o with
   |list n=>exact lst (e _ H) (b V).sH a|dict q y=>exact oT (e _ H) (b V).sH a|inst=>exact a.elim
 |_=>exact a.elim
def adi(a:lD):nq rp (mM .In):=λb r1 r2 c d=>V9 a (bZ in_list_reads in_tuple_reads λh=>aB<|kY h (λZ Z k=>bq k) λZ Z e=>e) b r1 r2 c d
def ajl(a:lD):nq kS (mM .NotIn):=λ{b c z d v x y K e E} f r1 r2 g h=>V9 a (bZ notIn_list_reads notIn_tuple_reads λj=>aB<|kY j (λZ Z k=>bq k) λZ Z e=>e) f r1 r2 g λb Z k=>h _ _ k
def aju:nq fE (mM .Lt):=λa r1 r2 b c=>by cases oz r1 r2 b with|mk d j t e e f k=>rw [e,f];exact ź<|xe▸c _ _ k
def acV:nq j8 (mM .Gt):=λa r1 r2 b c=>by cases oz r1 r2 b with|mk d j t e e f k=>rw [e,f];exact aaY<|xe▸c _ _ k
def abN:nq HC (mM .LtE):=λa r1 r2 b c=>by cases oz r1 r2 b with|mk d j t e e f k=>rw [e,f];exact le_int<|C'▸c _ _ k
def afJ:nq uW (mM .GtE):=λa r1 r2 b c=>by cases oz r1 r2 b with|mk d j t e e f k=>rw [e,f];exact ge_int<|C'▸c _ _ k
def Z_:bD a I v x->qO v=(x==bQ):=
ai.casesOn v (λr=>by refine W (r:x=bQ) ?_;rfl) (λZ r=>by refine W (r:x=eO _) ?_;rfl) (λZ r=>by induction r with|mk t e=>refine W e ?_;rfl) (λZ r=>by induction r with|mk t e=>refine W e ?_;rfl)
 (λZ r=>by induction r with|mk a b m e=>refine W e ?_;rfl) (λZ r=>by induction r with|mk a b m e=>refine W e ?_;rfl) (λZ r=>by induction r with|mk a b m c e=>refine W e ?_;rfl) (λZ Z r=>by induction r with|mk a b m c e=>refine W e ?_;rfl) (λZ r=>by refine W (r:x=w _) ?_;rfl)
def acw:nq uA (mM .Is):=λa r1 r2 b c=>by rw [D9 b.1] at r2;exact W (r2:_=bQ)<|is_none<|Z_ r1▸c _ _ b.2
def agS:nq x7 (mM .IsNot):=λa r1 r2 b c=>by rw [D9 b.1] at r2;exact W (r2:_=bQ)<|isNot_none<|Z_ r1▸c _ _ b.2
def JQ{E:VP}{K}(e:Ok C f g z)(r:bD C.S z.I v x)(a:mU z.σ v K)(b:∀c tk,K c->d c {z.s with toks:=tk}):a7 (bL C.dM C.w) Aq (NQ x) d E z.s:=by
 have h:_->a7 (bL C.dM C.w) Aq (NQ x) d E z.s:=λa=>by
  have j:∀{k} {l},bR C.S z.I k (cR l)->tZ k=xB l:=λq=>by rw [p1,List.isEmpty_iff_length_eq_zero,Ov,q.eQ]
  rcases CR e r a with q|q
  .cases q with|mk k m l n e g q o p=>rw [e];exact wpAny_truthy_list (iX g) (q.AL o)<|b _ _ (j q▸p)
  .cases q with|mk k m l n e g q o p=>rw [e];exact truthy_tuple (pO g) (q.AL o)<|b _ _ (j q▸p)
 cases v with
 |none=>exact W (show x=bQ from r)<|truthy_none<|b _ _ a|bool c=>exact W (show x=eO c from r)<|zC<|b _ _ a|int l=>induction r with|mk t e=>exact W e<|κ (ZD l 0▸b _ _ a:d (!(l==0)) _)
 |_=>exact h a
def RD(e:l2 o=J p):o=J (dC p.1 p.2):=by
 induction o with
 |none=>exact aI e|some o=>exact m2.casesOn o (λZ e=>Ih Y<|F7 e) (λa n e=>by refine ax (aC e) ?_;rfl) (λZ Z e=>Ih Y<|F7 e) e
def zo{K}{G:Prop}(a:bY d e z)(r:dk z.I v x)(h:tR z.σ v K)(g:∀c N b,cO c z.s.heap->kf c (et C.S z.I b) b N x->K b->G):G:=by
 cases v with
 |oT f=>exact g _ _ _ (a V).sI r h|ref j=>obtain rfl:=(r:x=w j);refine ah (ew (?_:bE _ λp=>K p.1)) λp e=>g _ _ _ (a V).sH ((a J1) j _ (RD e.1)) e.2;have h:yv _ K:=h;rw [JT] at h;exact h|_=>exact b4 h
def Y?(h:0<=k+n): -n<=k:=by have:=Qz h;exact Int.le_of_sub_nonneg<|W (Int.sub_neg ..) h
def Pp{G:Prop}(h:vJ n k=J j)(a:0<=k->k<n->j=cK k->G)(b:k<0->0<=k+n->j=cK (k+n)->G):G:=by
 unfold vJ at h
 by_cases c:0<=k
 .rw [aJ c] at h
  by_cases d:k<n
  .rw [aJ d] at h;exact a c d (aC h).symm
  .rw [aS d] at h;exact aI h
 .rw [aS c] at h
  by_cases d:0<=k+n
  .rw [aJ d] at h;exact b (yi.mp c) d (aC h).symm
  .rw [aS d] at h;exact aI h
def OW[Dp a][Dp b](h:a)(g:b):(decide a&&decide b)=true:=by rw [eV h,eV g];rfl
def Yv(h:vJ n k=J j):Qm k n=J j:=by unfold Qm;exact Pp h (λa b e=>W (aS<|ak hB a)<|W e<|aJ<|OW a b) λa b e=>W (aJ a)<|W e<|aJ<|OW b (by have c:=Int.add_lt_add_right a (n:au);rw [KB] at c;exact c)
def H2(a:n<=cu)(h:vJ n k=J j): -(2^63)<=k/\k<2^63:=
Pp h (λb c e=>⟨n3 (ao Y) b,xI c<|Io a⟩) λb c e=>⟨n3 (Int.neg_le_neg<|om<|Io a)<|Y? c,xI b<|ao Y⟩
def yC{j:O}(q:bR a I b<|cR c)(e:b[j]?=J v):∃y,c[j]?=J y/\bD a I v y:=aA (q.get j e) λy g r=>⟨y,af rY.symm g,r⟩
def ahT{m:O}(e:s.toList[m]?=J c):Qm (m:au) (dg s).length=J m/\(dg s).cps[m]?=J c.toNat:=by
 constructor
 .exact W (uL ..)<|ax vt<|aJ<|OW (cj _)<|ak hn<|gl e
 .refine ax (rY)<|W (rZ ..)<|W (cf)<|W e ?_;rfl
def aha(c):(⟨#[c.toNat]⟩:bj)=dg (qE [c]):=by apply Lq;simp only [rZ,Q3];rfl
def UI(a):=∀x y,subscripted a u x y=operate [x,y] (Iu x y)
def Ŏ{E:VP}(À:lD)(c:UI f)(a:bY g h z)(r1:dk z.I j x)(r2:dk z.I v y)(d:ko j v z.σ k)(b:jV g h z k l):dx (Oi m f x y) l E z.s:=by
 rw [E8] at d;refine d _ (λk n h=>?_) (λh=>?_) λs k o p n q r Á H=>?_
 .subst n
  induction r2 with|mk I L=>
  refine W L<|aP (CR a r1 h) (λg=>?_) λg=>?_
  .cases g with|mk N d f m j g v l H=>
   exact W j<|ah (ew H) λs h=>ah (ew h.2) λx o=>ah (yC v o.1) λy e=>wY (iX g).typeIs (kZ KG) (Pp (v.eQ▸h.1) (λt H z=>wpAny_getItem_list (iX g) t (H2 (v.eQ▸l)<|v.eQ▸h.1).2 (z▸e.1)<|b.n2 a e.2 o.2) λt H z=>wpAny_getItem_list_neg (iX g) t (Y? H) (H2 (v.eQ▸l)<|v.eQ▸h.1).1 (z▸e.1)<|b.n2 a e.2 o.2)<|c _ _
  .cases g with|mk N d f m j g v l H=>
   exact W j<|ah (ew H) λs h=>ah (ew h.2) λx o=>ah (yC v o.1) λy e=>wY (pO g).typeIs (kZ ŵ) (ad4 (pO g) (H2 l h.1).1 (H2 l h.1).2 (Yv<|v.eQ▸h.1) e.1<|b.n2 a e.2 o.2)<|c _ _
 .exact zo a r1 h λh N p g v k=>Ik v g (a V).sI k.1 r2 λf j l e X d s X X=>ah (ew k.2) λx H=>W e<|wY ⟨_,d J1,Y⟩ (kZ aeS) ((by
   have o:jn (Z.s z) (w f) "dict":=⟨_,d J1,Y⟩;refine Zr o Y slot_dict_getitem<|rA slot_dict_getitem o entry_dict_getitem ((aB<|d.get (DN À) (λt=>?_) λh N t v=>?_):a7 _ _ (ER f y>>=_) _ _ (Z.s z))<|args_dict_getitem _ _
   .rw [H.1] at t;exact iG t
   .rw [H.1] at t;obtain rfl:=aC t;exact bq ⟨N,Y,(λy g=>b.fq a g H.2) N v⟩))<|c _ _
 .subst p;subst n
  induction r1 with|mk I L=>
  induction r2 with|mk j l=>
  refine W L<|W l ?_;exact wY (FU _ _ _) (kZ WW) ((by obtain⟨m,rfl⟩:=wF q;have x:=ahT Á;refine ň (W (gn<|ak hB<|n3 (ao Y) q)<|W (gn<|ak yi<|xI r<|ao Y) Y) (W x.1 x.2) ?_;exact W (aha ..)<|b.fq a (Cp _ _) H))<|c _ _
def e!{n:O}{a:au}(h:a<0):a+n<=n:=n3 (Int.add_le_add_right (om h) _)<|O1<|KB _
def Ŭ:clipAt n a=if a<0 then cK (a+n) else min (cK a) n:=by
 unfold clipAt
 by_cases h:a<0
 .refine W (aJ h)<|W (aJ h)<|W (JI<|e! h) ?_;exact aP (Int.le_total 0 _) (λg=>W (Gg g) Y) λg=>by exact W (Rc g)<|W (WQ g) Y
 .refine W (aS h)<|W (aS h) ?_;obtain⟨m,rfl⟩:=wF<|hB.mp h;have b (m:O) (n:O):min (m:au) n=((min m n:O):au):=aP (ZQ m n) (λh=>W (gf h)<|JI<|ak jg h) λh=>W (Ij h)<|Int.min_eq_right<|ak jg h;exact W (b ..)<|W (Gg<|cj _) Y
def Yu{G:Prop}(e:CD n v d=J k)(r:bD a I v y)(g:∀p,sM y p->k=jF p d (clipAt n)->G):G:=by
 cases v with
 |none=>rw [show y=bQ from r] at g;exact g _ .none (aC e).symm|int b=>induction r with|mk t c=>exact(c▸g) _ (.int b t) (af (aC e).symm Ŭ.symm)
 |_=>cases e
def n_{K}{G:Prop}(h:mh a b c K)(r1:bD d I b e)(r2:bD d I c f)
 (g:∀p q,sM e p->sM f q->K (gK a (jF p 0<|clipAt<|U a)<|jF q (U a)<|clipAt<|U a)->G):G:=by
 rw [yI] at h;exact ah (ew h) λa h=>ah (ew h.2) λb j=>Yu h.1 r1 λp k e=>Yu j.1 r2 λq l m=>g p q k l (by simp only [<-e,<-m];exact j.2)
def bR.cut(q:bR c I d l)(a b):bR c I (Zq.gK d a b) ((cq a l).take<|b-a):=ax Uq<|(q.take b).drop a
def TY{a:cx}(h:U b<=n):U (Zq.gK b a c)<=n:=W vO<|W dS<|ae (mi ..)<|ae (oN ..) h
def We{E:VP}{S:kc}{y}{a}(b:sM y p)(h:a p s):a7 (bL c S.w) d (acD y) a E s:=by
 induction b with
 |none=>exact ZM h|int e t=>exact slicePart_int h
def ahE{E:VP}{S:kc}{c:au×au×O->cS->Prop}(f:EO s.heap g d e bQ)(j:sM d a)(i2:sM e b)
 (h:c (((jF a 0 (clipAt n):O):au),1,jF b n (clipAt n)-jF a 0 (clipAt n)) s):a7 (bL k S.w) l (Ţ (w g)<|pure (n:au)) c E s:=
 ah f λm o=>by
  refine aB<|aB<|nD o.1 o.2.2 (x:=d) Y<|aB<|nD o.1 o.2.2 (x:=e) Y<|aB<|nD o.1 o.2.2 (x:=bQ) Y<|bq<|aB<|ZM<|W (aS<|ao Y)<|aB<|We j<|aB<|We i2<|aB<|bq ?_;have p (a:ba au) (b:ba au) (n:O):XT a b 1 (n:au)=(((jF a 0 (clipAt n):O):au),((jF b n (clipAt n):O):au)):=by
   have c:∀v,(if v<0 then max _ 0 else min v _)=(clipAt n v:au):=λv=>by
    refine W (clipAt_cast ..) ?_
    by_cases h:v<0
    .exact W (aJ h)<|W (aJ h)<|W (JI<|e! h) (XE ..)
    .refine W (aS h)<|W (aS h) ?_;rw [Gg];exact ak Int.le_min ⟨hB.mp h,cj _⟩
   unfold XT;have h1:¬(1:au)<0:=ao Y;simp only [h1,if_false];cases a<;>cases b<;>simp only [jF,c]<;>rfl
  refine W (p ..) (?_:a7 _ _ (pure _) _ _ s);have q (a:O) (b:O):Uc (a:au) (b:au) 1=b-a:=by
   unfold Uc;refine W (aJ (show(1:au)>0 by decide))<|W (Int.ediv_one ..)<|W (Int.sub_add_cancel ..) ?_
   by_cases h:(a:au)<b
   .exact W (aJ h)<|i_ b a
   .exact W (aS h)<|W (Nat.sub_eq_zero_of_le<|jg.mp<|hB.mp h) Y
  exact W (q ..)<|bq h
def adS{E:VP}(b:bY c d z)(e:EO z.s.heap f g h bQ)(j:aH z.s.heap k=J (lR m y))(r:kK z.I a<|cR m)(l:U a<=cu)(n:sM g p)(o:sM h q)
 (s:iC z.σ (az<|gK a (jF p 0<|clipAt<|U a)<|jF q (U a)<|clipAt<|U a) t)(v:jV c d z t x):dx (Iu (w k)<|w f) x E z.s:=O' (iX j) e n o .none aI (v.DF b (W (slicePick_plain ..)<|ax r.eQ<|r.cut _ _) (TY l) s)<|r.q4 l
def acT{E:VP}(e:bY k m z)(f:EO z.s.heap g n o bQ)(h:z.I b=J (lN "tuple" c s))(r:kK z.I a<|cR c)(l:U a<=cu)(t:sM n p)(v:sM o q)
 (d:x (aR<|gK a (jF p 0<|clipAt<|U a)<|jF q (U a)<|clipAt<|U a) z.σ)(j:jV k m z x y):dx (Iu (w b)<|w g) y E z.s:=by
 have H:=(e V).sI _ _ h;have I:=pO H;have L:jn z.s (w g) "slice":=ah f λN o=>⟨N,o.1,o.2.1⟩;refine Zr I.typeIs Y Dg<|rA Dg I.typeIs amd (?_:a7 _ _ (Zp _>>=_) _ _ _)<|Λ _ _;refine aB<|V5 H Y<|aB<|H4 L<|W (aJ<|ao Y)<|aB<|ahE f t v ?_;rw [r.eQ] at d;generalize jF p 0 _=k at d⊢;generalize jF q c.size _=m at d⊢;refine(?_:a7 _ _ (if((k:au)==0&&(1:au)==1&&_==d6 c)=Q then _ else _) _ _ _);have n (a:gM a0) (b:O) (m:O):gU ((e1<|m-b).filterMap λ(x:O)=>a[cK<|(b:au)+(x:au)*1]?)=gU ((cq b<|cR a).take<|m-b):=by have r:=pick_run a b<|m-b;rw [List.filterMap_map] at r;exact ax r<|aq (λf=>gU<|eG f _)<|funext λx=>W (Int.mul_one ..)<|ax (MK ..)<|aq _ (z8 ..)
 refine W (n ..) ?_;have y:=r.cut k m;have z:U (gK a k m)<=cu:=TY l
 by_cases g:((k:au)==0&&(1:au)==1&&(m-k)==d6 c)=Q
 .refine W (aJ g) ?_;have h1:=iN g;have p:=eI<|beq_iff_eq.mp (iN h1.1).1;subst p;have t:gK a 0 m=a:=by unfold gK;refine W Xb ?_;rw [zt];exact W r.eQ<|ax (beq_iff_eq.mp h1.2)<|bb _
  rw [t] at d;exact aB<|aB<|H4 I.typeIs<|bq<|W (aJ Y)<|aB<|BR<|bq ⟨_,Y,j.n2 e (v:=aR a) ⟨b,c,s,Y,h,r,l⟩ d⟩
 .exact W (aS g)<|aB<|zB (bq ⟨_,Y,j.NU e y z d⟩) (show d6 (gU<|(cq k<|cR c).take _)<=t9 by exact W Lv<|ax y.vh<|ax x9 z)
def abV{c:VP}{E:VP}{S:kc}{t:O}(b:EO s.heap e bQ (ey 1 d) bQ)(h:∀f n,c (gP (dg<|qE<|aF 1<|hN a) f) {s with toks:=n}):a7 (bL g S.w) Aq (Iu (gP (dg a) t)<|w e) c E s:=by
 refine wpAny_getItem_str_slice (l:=A) (u:=J (1,d)) (st:=A) b Y ?_;have j:E_ (dg a) A (J (1,d)) A=e1 (min 1 (lM a)):=by
  unfold E_ aaB sliceRange;refine W (uL ..) ?_;generalize lM a=m
  induction m with
  |zero=>rfl|succ m=>have k:(max 0 (min (if(1:au)<0 then 1+((m+1:O):au) else 1) (m+1:O):au))=1:=W (aS<|ao Y)<|W (JI (ak jg (b2<|cQ m):_<=_)) Y;refine W (gf<|b2<|cQ m) ?_;simp only [Option.map_none,v?,Option.getD_none,show((1:au)>0)=bh from eq_true<|ao Y,if_true,k];decide
 unfold sliceMade;refine W j<|W (uL ..)<|W fi ?_
 by_cases g:(dN (b7 (·.1) (A:ba<|au×Tok)) 1==1&&min 1 (lM a)==lM a)=Q
 .refine W (aJ g) ?_;have k:qE (aF 1<|hN a)=a:=W (zt (by rw [vt,<-(beq_iff_eq.mp (iN g).2)];exact mq ..)) String.ofList_toList;have h:=h t s.toks;exact k▸h
 .have l:(⟨gU<|eG ((dg a).cps[·]?)<|e1<|min 1 (lM a)⟩:bj)=dg (qE<|aF 1<|hN a):=by
   apply Lq;simp only [rZ,Q3,<-vt];have o:(dg a).cps[0]?=b7 DX (a.toList[0]?):=by rw [<-rY,rZ,cf]
   cases b:hN a with
   |nil=>rfl|cons c r=>rw [b] at o;refine(?_:(eG _ [0])=_);rw [xS,o];rfl
  rw [aS g,l];refine br ?_<|h _ _;rw [uL,<-vt,Q3,dS,<-x9];exact ae (mq ..)<|ao Y
noncomputable def FY(e:cZ):= !aE e.ctorIdx 26
def akd{E:VP}{lo f}(b:bY m n z)(c:EO z.s.heap o g q bQ)(r:dk z.I d x)(r1:dk z.I h g)(r2:dk z.I j q)(a:U? d h j z.σ k)(e:jV m n z k l):
 dx (Oi s (y8 lo f A p) x<|w o) l E z.s:=by
 have t:(dj z.σ d λv=>mh v h j λy=>iC z.σ _ k)->a7 _ Aq (Oi s (y8 lo f A p) x _) l E z.s:=λa=>by
  cases hV b r a with|mk v H I n L N q l k=>
  exact W L<|n_ k r1 r2 λp m o h a=>wY (iX N).typeIs (kZ KG) (adS b c N q l o h a e) Y
 cases d with
 |tup v=>
  induction r with|mk H I n L N q l=>
  exact W L<|n_ a r1 r2 λp m o h a=>wY (pO<|(b V).sI _ _ N).typeIs (kZ Dg) (acT b c N q l o h a e) Y
 |str s=>
  have h2:=a.1.2;rw [D9 a.1.1] at r1;rw [h2] at r2
  induction r with|mk j L=>
  induction r2 with|mk z f=>
  refine W L ?_;rw [show g=bQ from r1,f] at c;exact wY (FU _ _ _) (kZ WW) (abV c λx n=>e.fq b (Cp _ _) a.2) Y
 |_=>exact t a
def Ŕ{b c T}(g:cd d h e b)(j:cd d k e c)
 (l:∀{a E s},dx b (λf m=>dx c (λv n=>dx (t f v) a E n) E m) E s->dx T a E s)(o:p5 p t):cd d (hC p h k) e T:=λq r z x y H a E I L N b c d=>l<|g q r z x _ H _ E I L N b (λf e s h k r1 m=>j q r s x _ H _ E k (L.on<|h V) (N.c7<|h V) m (λv y n t p r2 a=>o p ((L.on<|h V).on (t V) V) (r1.ek<|t V) r2 a<|c.on<|h.bI t) (d.on h)) d
def aav(h:FY e=Q):UI e:=by
 cases e with
 |Slice=>exact bU h|_=>exactλZ Z=>rfl
def ae7(d:lD)(e:FY b=Q)(f:cd c g a<|bC o a)(h:cd c j a<|bC b a):cd c (hC k6 g j) a (bC (tv o b k) a):=
Ŕ f h Kv λl Z r1 r2 m n=>Ŏ d (aav e) l r1 r2 m n
open Builtin Builtin.ObjectAttr
def amo{C}(e:hu C.K (w a) "__getattribute__"=J (J<|eh "object.__getattribute__"))(g:hu C.K (w a) "__getattr__"=J A)(h:hu C.K (w a) "__setattr__"=J (J<|eh "object.__setattr__"))(j:Sn C.K a=Q)(b:∃b,oE C.K a=J b/\b.hasDict=Q)(k:∀n,jq oM c n=Q->hu C.K (w a) (C.S.nm n)=J A)(l:∀t m f,cm Ap c=J t->cm t m=J f->jq oM c m=u/\∃d,C.fa f=J d/\oJ C.K (w d)=ph/\hu C.K (w a) (C.S.nm m)=J (J<|w d)):Gn C c a:=kb e g h j b k l
def aiO{C:Cx}(e:∀a o,b1 a C.K=J o->C.I0 a=J o)(nm:∀a b,C.S.nm a=C.S.nm b->a=b)(jJ:∀a,C.S.nm a≠"__class__")(f:∀h,cO C.I0 h->h.NoLimit)(g:∀h,cO C.I0 h->h.NoSeer)(j:C.dM.given.tree=A)(k:∀h,cO C.I0 h->h.Ns iF C.mg)(b:∀h,cO C.I0 h->h.Ns qt C.mb)(l:∀x:bj,x≠"__name__"->C.mb x=tM x)(m:∀c d,C.S.ca c=J d->Gn C c d):wt C:=Kw e nm jJ f g j k b l m
abbrev eU:=wt C
def wt.In(k:eU)(a:Wd I b c d h)(l:Le C.I0 I):C.K.In h:=λe o e=>a.sI _ _ (l _ _ ((k V) _ _ e))
def UY{e:gE}(h:HJ n e.key):e.key.isStr n=true:=by induction h with|mk t e=>exact W e<|jT _
def VH{S:kc}(c:∀a b,S.nm a=S.nm b->a=b)(q:m≠n){e:gE}(h:HJ (S.nm m) e.key):e.key.isStr (S.nm n)=false:=by induction h with|mk t e=>exact W e<|ak lz λz=>q<|c _ _ z
def xc(q:y≠n):cW (.c y v r) n=cW r n:=by show aD _ _ _=_;exact W (d4 q) Y
def JB:cW (.c n v r) n=J v:=by show aD _ _ _=_;exact W (fJ ..) Y
def hP.find(d:∀a c,b.nm a=b.nm c->a=c):∀i {l:aa gE},hP b f i l->(cW i n=A->BC (·.key.isStr (b.nm n)) l=A)/\∀v,cW i n=J v->∃e,BC (·.key.isStr (b.nm n)) l=J e/\bD b f v e.val:=
pI
 (λh=>W (h:_=[])<|⟨λZ=>rfl,λv e=>aI e⟩) λm g r j l h=>by
 induction h with|mk e s k a c=>
 refine W k<|W (List.find?_cons) ?_
 by_cases q:m=n
 .exact ax q<|W JB<|W (UY<|a J1)<|⟨λz=>iG z,λv z=>by refine ax (aC z) ?_;exact⟨e,Y,a J2⟩⟩
 .exact W (xc q)<|W (VH d q<|a J1)<|j c
def hP.keys:∀i {l:aa gE},hP a b i l->l.any (·.refKey)=u:=
pI (λh=>by refine W (h:_=[]) ?_;rfl) λm c r d l h=>by
 induction h with|mk e s f a b=>
 simp only [f,XF,d b,SR];cases(a J1) with|mk t g=>unfold tV;exact W g Y
def hP.len:∀i {l:aa gE},hP a b i l->i.iW=U l:=
pI (λh=>by refine W (h:_=[]) ?_;rfl) λm c r d l h=>by induction h with|mk e s f a b=>exact W f<|aq _ (d b)
def B_:∀i,uH c i=Q->cW i n=J v->jq oM c n=Q:=
pI (λZ e=>by cases e) λm a r b h e=>by
 have h:=iN h
 by_cases q:m=n
 .exact q▸h.1
 .exact b h.2<|af (xc q).symm e
inductive Uz(C:Cx)(z:Z)(e:O->aW->Prop)(x:a0):Prop
|mk (c:O) (i:aW) (d a:cx) (b:gM gE) (n:O) (f:x=w (d+1)) (g:C.S.ca c=J a) (h:InstAt z.s.heap (d+1) (JS a d) a<|J<|hx b n) (q:hP C.S z.I i<|cR b) (j:uH c i=Q) (k:e c i)
def TU{K}(r:nz C.S d c (hP C.S z.I a) a N x)(b:cO d z.s.heap)(k:K c a):Uz C z K x:=by induction r with|mk d e f n g h j l q m _=>exact⟨c,a,d,e,f,n,g,h,⟨b _ _ j,Y,Y,b _ _ l⟩,q,m,k⟩
def Ŷ(e:LV o=J p):o=J (cw p.1 p.2):=by
 induction o with
 |none=>exact aI e|some o=>exact m2.casesOn o (λZ e=>Ih Y<|F7 e) (λZ Z e=>Ih Y<|F7 e) (λa n e=>by refine ax (aC e) ?_;rfl) e
def Hb{K}(a:bY b c z)(r:dk z.I v x)(h:ri z.σ v K):Uz C z K x:=by
 cases v with
 |obj c i=>exact TU r (a V).sI h|ref d=>refine W (r:x=w d)<|ah (ew (?_:bE _ λp=>K p.1 p.2)) λp e=>TU ((a J1) d _ (Ŷ e.1)) (a V).sH e.2;have h:s8 _ K:=h;rw [Fe] at h;exact h|_=>exact b4 h
def aaK:bD a I v x->handedIn x=Q:=
ai.casesOn v (λr=>by refine W (r:x=bQ) ?_;rfl) (λZ r=>by refine W (r:x=eO _) ?_;rfl) (λZ r=>by induction r with|mk t e=>refine W e ?_;rfl) (λZ r=>by induction r with|mk t e=>refine W e ?_;rfl)
 (λZ r=>by induction r with|mk a b m e=>refine W e ?_;rfl) (λZ r=>by induction r with|mk a b m e=>refine W e ?_;rfl) (λZ r=>by induction r with|mk a b m c e=>refine W e ?_;rfl) (λZ Z r=>by induction r with|mk a b m c e=>refine W e ?_;rfl) (λZ r=>by refine W (r:x=w _) ?_;rfl)
def aa7{E:VP}(k:eU)(a:bY d e z)(l:Le C.I0 z.I)(r:dk z.I b x)(c:ri z.σ b λZ i=>bE (cW i n) λf=>g f z.σ)(h:jV d e z g j):dx (getAttr x (bu n) m) j E z.s:=by
 cases Hb a r c with|mk o i d p q m e s t q b c=>
 refine W e ?_;have v:=(k J9) o p s;refine ah (ew c) λy H=>ah ((q.find<|k J1).2 y H.1) λI L=>ah (v J4) λN z=>get_value (k.In (a V) l) t (v V) ?_ (aaK L.2)<|h.fq a L.2 H.2;unfold findObj;rw [z.1,(v J5) n<|B_ i b H.1];show er (x_ _ _ _) _=_;unfold x_;rw [z.2,aJ Y];unfold lookIn;simp only [L.1];rfl
def agQ{E:VP}(k:eU)(d:bY n o z)(l:Le C.I0 z.I)(r:dk z.I b x)(a:ri z.σ b λc Z=>cm Ap c=J t/\cm t m=J f)(g:C.fa f=J h)(e:j (w h,[x]) z.s):
 dx (OT x (C.S.nm m) p) j E z.s:=by
 cases Hb d r a with|mk c i q s v n y H I q b a=>
 rw [y] at e⊢;have L:=(k J9) c s H;have N:=(L J6) t m f a.1 a.2;refine ah N.2 λz x=>?_;obtain rfl:=aC<|af g.symm x.1;refine method_fn (k.In (d V) l) I (L V) (L J1) x.2.2 x.2.1 ?_ e;cases g:cW i m with
 |none=>unfold shadowIn lookIn;simp only [(q.find<|k J1).1 g,q.keys];rfl|some v=>have r:=B_ i b g;exact bU<|N.1▸r
section
variable{d:PM}{e:Z}{S:kc}{g:ai}{j:ai}{a:cx}{h:O}{b:O}{f:ie}{k:cS}{c:aa gE}{i:aW}
def ag3(p:∀a l,S.nm a=S.nm l->a=l){e}(o:bD S d g e)(q:∀m,n (J m)={m with val:=e})(r:n A=⟨Jx S.w<|S.nm b,gP (S.nm b) h,e⟩):∀i {c:aa gE},hP S d i c->hP S d (ez i b g) (Bw (S.nm b).cps.size (cR (S.nm b).cps) n c).1/\U (Bw (S.nm b).cps.size (cR (S.nm b).cps) n c).1<=U c+1:=
pI
 (λf=>W (f:_=[])<|⟨⟨_,_,Y,by rw [r];exact bZ Y ⟨h,Y⟩ o,Y⟩,bb _⟩) λs j r t c f=>by
 induction f with|mk m k v a l=>
 refine W v ?_;unfold Bw;refine W (ahW ..) ?_;show hP S d (aD _ _ _) _/\_
 by_cases x:s=b
 .exact ax x<|W (fJ ..)<|W (aJ<|UY<|a J1)<|W (q ..)<|⟨⟨_,_,Y,bZ (a V) (a J1) o,l⟩,fh _⟩
 .exact W (d4 x)<|W (aS<|by rw [VH p x<|a J1];exact hz)<|⟨⟨_,_,Y,a,(t l).1⟩,b2 (t l).2⟩
end
def amr(e:jq oM c n=Q):∀i,uH c i=Q->uH c (ez i n v)=Q:=
pI (λZ=>ak dB ⟨e,Y⟩) λm a r b h=>by
 have h:=iN h;refine(?_:uH c (aD _ _ _)=Q)
 by_cases q:m=n
 .exact ax q<|W (fJ ..)<|ak dB h
 .exact W (d4 q)<|ak dB ⟨h.1,b h.2⟩
def adB{nm}{G:Prop}(g:∀f a,(∀e,f (J e)={e with val:=y})->f A=⟨b,c,y⟩->KI nm b c y (hx d m)=hx (gU (Bw nm.cps.size (cR nm.cps) f<|cR d).1) a->G):G:=by
 have h:∀p:aa gE×bc,∃a,(match p with|(j,u)=>hx (gU j) m|(j,Q)=>hx (gU j) _)=hx (gU p.1) a:=λp=>by induction p with|mk k l=>cases l;exact cM m rfl;exact cM (m+1) rfl
 exact ah (h _) λa e=>g (λo=>match o with|some e=>{e with val:=y}|none=>⟨b,c,y⟩) a (λZ=>rfl) Y e
def aaG{E:VP}(k:eU)(a:bY À Á z)(É:Le C.I0 z.I)(r1:dk z.I c x)(r2:dk z.I Ë y){K}(d:Bq c n Ë z.σ K)
 (È:∀b,Nx z b->bY À Á b->K b.σ->Â () b.s):dx (setAttr x (C.S.nm n) y) Â E z.s:=by
 rw [e?] at d;refine d _ λj m i Ä p q Ç Å=>?_;subst Ä;refine W (r1:x=w j) ?_;cases((a J1) j _ p:nz C.S z.H m _ i _ _) with|mk t H Ã Ê N e f h I c o=>
 cases N;have s:=(k J9) m H e;refine ah (s J4) λÆ r=>?_;have g:=k.In (a V) É;have l:=(a V).sH _ _ f;have L:=(a V).sH _ _ h;have v:InstAt z.s.heap _ _ H (J _):=⟨l,Y,Y,L⟩;have tn:uP C.K H (C.S.nm n)=J none:=by unfold uP;exact W ((s J5) n q) Y
 refine K0 g v (s J2)<|osa_open g v (s J3) tn λÌ=>aB<|bq<|aB<|aB<|B3 l<|aB<|(E0 (show C.K.In ({z.s with toks:=gu z.s+1}:cS).heap from g) r.1).here<|W r.2<|bq<|aB<|bq<|aB<|aB<|aB<|Wl<|bq<|aB<|M8<|aB<|B3 L ?_;dsimp only;rw [Ur,<-ZY (p:=λx=>tV x),I.keys,pU];refine ĺ L<|adB (nm:=C.S.nm n) (b:=Jx C.S.w<|C.S.nm n) (c:=gP (C.S.nm n)<|gu z.s+1) (y:=y) (m:=Ê) (d:=Ã) λÍ Î Ï Ð Ñ=>?_;have Ò:=ag3 (k J1) r2 Ï Ð i I;have Ó:=af (m9 _ L (aq _ Ñ))<|aq J Ñ;refine aB<|Wz Ó (T9 ?_)<|bq ?_
 .simp only [Lv,GB];exact ae Ò.2<|ax I.len<|ae (b2 Ç)<|ao Y
 .refine È ⟨z.I,z.H.dF t _,z.σ.dn _ _,_⟩ (i3 (uc _) Y) (gF ((a V).Z2 h (nJ ..) Ó Y)<|(a J1).Zw (λÌ Ô N Z z=>?_) (λÕ Ö Ø Ù n=>⟨λz=>n<|z▸Y,λz=>?_⟩) ?_) Å
  .rw [z,o] at N;cases N
  .have:=((a J1).H3 Ù).1;rw [z,p] at this;cases this
  .exact⟨t,H,_,Î,Y,e,af (lL<|zO t) f,iJ ..,Ò.1,amr q i c,af (JV λz=>zO t z.symm) o⟩
end
section
def ŏ(C)(a b)(z)(n)(c:aa ai->aT->Prop)(d:aa a0->cS->Prop):=∀v x y,Nx z y->Ok C a b y->bR C.S y.I v x->U v=n->c v y.σ->d x y.s
def d?(C)(d)(a)(e)(f)(b)(c):=
∀g h (z:Z) l (j:la) k (m:aT->Prop) n (E:VP),Ok C g h z->Up C a z.I h->g7 C z.I g b l->w6 d m f l z.σ k->ŏ C g h z (U c) k n->PX C g h z e m E->a7 (bL C.dM C.w) a (MW<|rf j<|pd c b) n E z.s
noncomputable def gc(e:cZ):= !aE e.ctorIdx 22
def zR(h:gc e=Q):pd (e::b) a=(u,bC e a)::pd b a:=by
 cases e with
 |Starred=>exact bU h|_=>rfl
abbrev CG:=d? C Dq Aq
def acg(a:U b<=cu)(d:CG e f c b):cd e (oO f) c (bC (gq b n g) c):=λh j z l k m o E p q r s t v=>wpAny_Tuple_spliced<|d h j z l g _ m _ E p q r s (λx y H I L r1 n N=>⟨ax r1.vh<|W n<|ax x9 a,(t.on I).NU L r1 (n▸a) N⟩) v
def qK(a):=cP a gc
def qS:∀{a},qK a=Q->(rf b<|pd a c).any (·.1)=false:=by intro a;refine a.rec (λZ=>rfl) λx r d=>λh=>?_;have h:=iN h;exact W (zR h.1)<|d h.2
def rP{E:VP}{M}{a}(d:qK a=Q)(h:a7 M Aq (MW<|rf e<|pd a f) (λb c=>g ⟨b,[]⟩ c) E s):a7 M Aq (evalArgs j Q (rf e<|pd a f) []) g E s:=by
 induction a with
 |nil=>exact aB<|kY h (λb c k=>aB<|bq<|hU<|aB<|bq<|aB<|bq<|bq k) λZ Z x=>x|cons x r=>rw [zR (iN d).1] at h⊢;exact evalArgs_plain h
def NB(o):=∀n a b,LX o n a b=b
def CP(d:qK a=Q)(e:U a<30):(cP (rf b<|pd a c) (λx=> !x.1)&&cP (backToKw b<|keywordEach [] c) (λx=>d7 x.1)&&decide (U a+U ([]:aa Keyword)+(if tZ ([]:aa Keyword) then 0 else 1)<30))=true:=by
 have f:cP (rf b<|pd a c) (λx=> !x.1)=true:=by have g:=qS (c:=c) (b:=b) d;rw [Gl] at g;exact ak gT λx h=>Z6 _▸(Bool.not_eq_true _▸g x h)
 exact W f<|ak dB ⟨Y,eV e⟩
def Ge(a:gc x=Q):rf c (pd [x] b)=[(u,bC x b)]:=aq _ (zR a)
def zZ(b:gc x=Q)(c:gc y=Q):rf d (pd [x,y] a)=[(u,bC x a),(u,bC y a)]:=by exact W (zR b)<|W (zR c) Y
def CM(s)(x)(T):=jn s x T/\∀b,x=w b->∃a,aH s.heap b=J a/\a.dict=A
def Kn(h:aH s.heap a=J (lR b n)):CM s (w a) "list":=⟨⟨_,h,Y⟩,λb e=>by cases e;exact⟨_,h,Y⟩⟩
def VZ(h:aH s.heap a=J (hx b n)):CM s (w a) "dict":=⟨⟨_,h,Y⟩,λb e=>by cases e;exact⟨_,h,Y⟩⟩
def abo(T)(a)(id)(B):=hW (PlainAttrs T) (Slot T a id) (typeOf (eh id)=pure (cJ "method_descriptor"))<|FG JM id=J B
def aam(C:Cx)(a)(T id)(B:ab0)(x)(l)(b E:VP)(s):=jn s x T/\Ng id ⟨x::l,[]⟩/\∃S,MeetsIn C.dM C.w (B ⟨x::l,[]⟩) S/\S a (wants b E) s
def BO{T id}{B}(c:abo T l id B)(m:∀{a b z v x K},bY a b z->dk z.I v x->pF h v z.σ K->CM z.s x T/\K)
 (n:∀{a b z v e x y f g E},bY a b z->dk z.I v x->dk z.I e y->lG h v e z.σ f->jV a b z f g->aam C Aq T id B x [y] g E z.s)
 (p:cd j q d<|bC o d)(r:cd j s d<|bC x d)(t:NB o)(k:gc x=Q)(H:(n7 I==l5 L)=Q):cd j (hL h q s) d (bC (dZ (fx o l I) [x] [] L) d):=by
 refineλa b z l f N g E x d h j o q=>Kq (t _ _ _) (CP (ak dB ⟨k,Y⟩) (show 1<30 by decide)) H (c V) (c J1) (c J2)<|p a b z l _ N _ E x d h j (λv y s I L r1 f=>?_) q
 have t:=m L r1 f;exact⟨t.1.1,t.1.2,W (Ge k)<|method1_meetsIn (c J1) (c J3)<|r a b s l _ N _ E L (d.on<|I V) (h.c7<|I V) t.2 (λg e z v y r2 p=>n y (r1.ek<|v V) r2 p<|o.on<|I.bI v) (q.on I)⟩
def Xz{K}(a:bY b c z)(r:dk z.I v x)(h:wX z.σ v λZ Z=>K):CM z.s x "list"/\K:=by cases Co a r h with|mk d e f n g e s g q j k=>exact a5 e▸br (Kn<|(a V).sH _ _ g) k
def adD:∀{b c} {o x} {d e},cd f b a (bC o a)->cd f c a (bC x a)->NB o->gc x=Q->(n7 d==l5 e)=Q->cd f (hL h9 b c) a (bC (dZ (fx o "append" d) [x] [] e) a):=
BO (dV FE ah0 ab9 ae5) (λg r h=>by rw [rG] at h;exact Xz g r h) λg r1 r2 j k=>by
 rw [pV] at j;cases Co g r1 j with|mk a l m n p e s q t v y=>
 refine W e ?_;have z:=(g V).sH _ _ q;exact⟨⟨_,z,Y⟩,akg _ _,_,(PySem.list_append a m n _ (t.q4 v)).inModel _ _,z,k.upd g s q (d:=bk) (W Gy<|bR.yB (.single r2) t) (W a4 y.1) Y y.2⟩
def agR:∀{c b} {o x} {d e},cd f c a (bC o a)->cd f b a (bC x a)->NB o->gc x=Q->(n7 d==l5 e)=Q->cd f (hL j3 c b) a (bC (dZ (fx o "extend" d) [x] [] e) a):=
BO (dV FE amw ai8 aaX) (λg r h=>by rw [rG] at h;exact Xz g r h) λg r1 r2 j k=>by
 rw [pV] at j;cases Co g r1 j with|mk a l m n p e s q t v y=>
 cases hV g r2 y with|mk z H j I b L N o y=>
 refine W e<|W b ?_;have x:=(g V).sH _ _ q;have c:d6 m+d6 j<=t9:=ax t.eQ<|ax N.eQ<|ax x9 y.1.1;exact⟨⟨_,x,Y⟩,akb _ _,_,(afK a m n H j I (W (show Ux _=u from gn<|ak fS c)<|W (pU ..) hz) (t.q4 v)<|hI c).inModel _ _,x,L,k.upd g s q (d:=bk) (W Jg<|bR.yB N t) (W a4 y.1.1) Y y.2⟩
def Qt(s)(x:a0):=x.isStr<|dg s
def U7{G:Prop}(e:vT (v::a)=J b)(g:∀s r,v=aG s->vT a=J r->b=s::r->G):G:=
ah (iv.mp e) λs h=>ah (fA h.2) λr c=>g s r (Tz h.1) c.1 c.2.symm
section
variable{h:PM}{e:Z}{c:Z}{S:kc}{j:ai}{k:a0}{f:O}{d:ie}{b:aa ai}{g:cS}{a:aa gE}
def Ť{c}:∀{b} {l} {a},bR S h b a->vT b=J l->c∈a->alI c (gP (dg m) f) (Qt m c):=by
 intro b
 induction b with
 |nil=>intro l a d _ n;rw [show a=[] from d] at n;exact bG n|cons j r o=>
  intro l a d p n;refine U7 p λg q s t Z=>?_;subst s
  induction d with|mk k v x h1 h2=>
  rw [x] at n;refine aP (mc n) (λe=>?_) λn=>o h2 t n
  induction h1 with|mk y z=>
  refine W e<|W z ?_;have:=ah2 (dg g) (dg m) y f;rw [agp] at this;exact this
end
def aiC:∀{b} {c} {l} {j},bR f I b l->vT b=J c->g8 d c=J j->∃a,Qt d l[j]=Q/\∀m (e:m<U l),m<j->Qt d l[m]=false:=by
 intro b;refine @(b.rec (λZ g h=>by obtain rfl:=aC g;exact aI h) λv r k=>?_);intro c l j h g a;refine U7 g λs n o p q=>?_;subst o;subst q
 induction h with|mk x t y h1 h2=>
 subst y
 induction h1 with|mk z H=>
 refine W H ?_;have a:=af afI.symm a
 by_cases q:s=d
 .rw [aJ q] at a;exact ax (aC a)<|⟨k9 _,ak ru<|aq dg q,λm Z e=>b4<|fC _ e⟩
 .rw [aS q] at a;refine ah (fA a) λL h=>ax h.2<|ah (k h2 p h.1) λN k=>⟨yT N,k.1,λm e b=>?_⟩
  induction m with
  |zero=>exact ak lz λz=>q<|B2 z|succ m=>exact k.2 m _ (zr b)
def aks:∀{c b} {o x} {d e},cd f c a (bC o a)->cd f b a (bC x a)->NB o->gc x=Q->(n7 d==l5 e)=Q->cd f (hL jS c b) a (bC (dZ (fx o "index" d) [x] [] e) a):=
BO (dV FE akU ū aaZ) (λg r h=>by rw [rG] at h;cases hV g r h with|mk j k j m b l n p k=>exact a5 b▸br (Kn l) k) λg r1 r2 q s=>by
 rw [pV] at q;cases hV g r1 q with|mk t a v n e y q z k=>
 refine ht (zK r2 k) λH t I k=>aA (ew k) λL N k=>aA (ew k) λj o k=>?_;obtain⟨x,h1,h2⟩:=aiC q N o;refine W e<|W I ?_;have c:=uV▸x;exact⟨⟨_,y,Y⟩,agy _ _,_,(alC a v n _ _ (λd f=>Ť q N<|ak Hn f) j c (S! (ak hn c)<|n3 (ak jg<|q.eQ▸z)<|ao Y) h1 (λm r h=>h2 m _ h)).inModel _ _,y,s.fq g (m3 _ _) k⟩
def ahP(p):∀s,((R DX s).take (U p)==R DX p)=Cv p s:=by
 refine p.rec (λs=>rfl) λc r a=>λs=>?_
 induction s with
 |nil=>rfl|cons d s=>simp only [tN,tN,hS,List.take_succ_cons,List.isPrefixOf_cons_cons,List.cons_beq_cons,a s];refine aq (·&&_) ?_;rw [p1,ru,ru,Yc];exact eq_comm
def ako:∀{b c} {o x} {d e},cd f b a (bC o a)->cd f c a (bC x a)->NB o->gc x=Q->(n7 d==l5 e)=Q->cd f (hL pD b c) a (bC (dZ (fx o "startswith" d) [x] [] e) a):=
BO (dV aeI aeD aln aai) (λg r h=>by rw [rG] at h;refine ht (zK r h) λs t e k=>?_;exact a5 e▸br (⟨FU _ _ _,λj e=>by cases e⟩) k) λg r1 r2 l m=>by
 rw [pV] at l;refine ht (zK r1 l) λs t e k=>ht (zK r2 k) λp n q k=>W e<|W q ?_;have v:Q' (dg s) (dg p)=Cv (hN p) (hN s):=by
  have b:acW (dg s) (dg p) 0=Cv (hN p) (hN s):=by simp only [Ψ,rZ,rZ,uL,<-vt,Xb];exact ahP _ _
  unfold Q';refine W b ?_;cases e:Cv (hN p) (hN s) with
  |false=>exact pU _|true=>simp only [uL,uL,<-vt,<-vt,Pu];exact eV<|W (eF ..) (List.isPrefixOf_iff_prefix.mp e).length_le
 exact⟨FU _ _ _,ajT _ _,_,(gives_str_startswith _ _ _ _).meets.inModel _ _,m.n2 g (v:=bS _) (aq eO v) k⟩
def aix(g:CU Aq):∀{b c} {o x} {d e},vn C Dq Aq f b a (bC o a)->vn C Dq Aq f c a (bC x a)->NB o->gc x=Q->(n7 d==l5 e)=Q->vn C Dq Aq f (hL pA b c) a (bC (dZ (fx o "get" d) [x] [] e) a):=
BO (dV Ve MZ U2 W5) (λh r j=>zo h r (rG▸j) λk N l m r n=>by induction r with|mk d p q c e s=>exact a5 e▸br (VZ<|m _ _ s) n) λh r1 r2 t v=>zo h r1 (pV▸t) λk N l m r n=>Ik r m (h V).sI n.1 r2 λd p q e Z b y Z Z=>by
 refine W e<|⟨⟨_,b J1,Y⟩,amv _ _,λAq z s=>a7 _ Aq.in1 _ _ _ s,λAq z s j=>j,?_⟩;show a7 _ _ (ER d _>>=_) _ _ _;refine aB (b.get (DN g) (λe=>?_) λH I e r=>?_)<;>have n:=n.2<;>rw [e] at n
 .exact aB<|VN (Im y)<|bq<|v.fq h (v:=bk) Y n
 .exact bq<|v.fq h r n
def μ(e:CU Aq){o x y}(f:vn C Dq Aq b g a<|bC o a)(h:vn C Dq Aq b j a<|bC x a)(k:vn C Dq Aq b l a<|bC y a)(m:NB o)(c:gc x=Q)(d:gc y=Q)
 (n:(n7 p==l5 q)=Q):vn C Dq Aq b (wL g j l) a (bC (dZ (fx o "get" p) [x,y] [] q) a):=by
 refineλr s z l t v H E I L N a o x=>Kq (m _ _ _) (CP (ak dB ⟨c,ak dB ⟨d,Y⟩⟩) (show 2<30 by decide)) n Ve MZ U2<|f r s z l _ v _ E I L N a (λb g j p q r1 t=>zo q r1 t λÃ È n z I t=>?_) x
 have a:CM j.s g "dict":=by induction I with|mk g À Á Â f Ä=>exact a5 f▸VZ (z _ _ Ä)
 refine⟨a.1,a.2,W (zZ c d)<|method2_meetsIn MZ W5<|h r s j l _ v _ E q (L.on<|p V) (N.c7<|p V) t (λÅ Æ Ç m É r2 Ê=>?_) (x.on p)⟩;have c:=p.bI m;refine k r s Ç l _ v _ E É (L.on<|c V) (N.c7<|c V) Ê (λd h j q t a k=>?_) (x.on c);exact zo t (r1.ek<|(m.bI q) V) k λÃ È n z I r=>Ik I z (t V).sI r.1 (r2.ek<|q V) λg À Á f Z s l Z Z=>by
  refine W f<|⟨⟨_,s J1,Y⟩,alV _ _ _,λAq H v=>a7 _ Aq.in1 _ _ _ v,λAq H v h=>h,?_⟩;show a7 _ _ (ER g _>>=_) _ _ _;have o:=o.on<|c.bI q;refine aB (s.get (DN e) (λf=>?_) λb y f I=>?_)<;>have r:=r.2<;>rw [f] at r
  .exact aB<|VN (Im l)<|bq<|o.fq t a r
  .exact bq<|o.fq t I r
def I3(a)(v)(t):=∀b,mU a v b->b t
def TD(a)(v):=mU a v λZ=>bh
def Jb{K}(h:kN b v K):∃a,eR b v=J a/\K a:=by
 cases v with
 |tup a=>exact⟨a,Y,h⟩|lst a=>exact⟨a,Y,h⟩|ref a=>have h:ni (b a) K:=h;rw [ze] at h;exact ew h|_=>exact b4 h
def WE{K L}(h:mU a v K)(f:∀t,K t->I3 a v t->L t):mU a v L:=by
 have go:kN a v _->(∀t,K t->(∀M:bc->Prop,kN a v (λb=>M<| !tZ b)->M t)->L t)->kN a v _:=λh f=>ah (Jb h) λb e=>te e.1 (f _ e.2 λM m=>ah (Jb m) λc g=>by refine W (aC<|af e.1.symm g.1) ?_;exact g.2)
 cases v with
 |none=>exact f _ h λZ k=>k|bool b=>exact f _ h λZ k=>k|int d=>exact f _ h λZ k=>k|_=>exact go h f
def TD.tr(h:TD a v):mU a v (I3 a v):=WE h λt Z m=>m
def vQ{K}(h:mU a v K):TD a v:=WE h λZ Z Z=>trivial
def Ig:I3 a (bS b) b:=λZ k=>k
def PB(C)(a b)(z)(c:QT)(d:bc->cS->Prop):=∀t v y,Nx z y->Ok C a b y->I3 y.σ v t->c v y.σ->d t y.s
def e_(C)(c)(b)(d)(e)(a)(x):=
∀f g (z:Z) l (h:QT) j (k:bc->cS->Prop) E,Ok C f g z->Up C b z.I g->g7 C z.I f a l->cN c j e l z.σ h->(∀v m,h v m->TD m v)->PB C f g z h k->PX C f g z d j E->a7 (bL C.dM C.w) b (DH x a<|bC x a) k E z.s
def PlT(x):=∀a b,DH x a b=(do let v<-b;standAt x.pos;holding [v] (NQ v))
abbrev z1:=e_ C Dq Aq
def alU(c:z1 b d a t)(e:cd b f a<|bC x a)(g:cd b h a<|bC y a):cd b (.ite d f h) a (bC (.IfExp t x y j) a):=by
 refineλk l z m n o p E q r s v H I=>wpAny_IfExp<|c k l z m _ o _ E q r s v (λv L h=>vQ h) (λt v N a b d f=>?_) I
 have f:=d _ f
 induction t with
 |true=>exact e k l N m _ o _ E b (r.on<|a V) (s.c7<|a V) f (H.on a) (I.on a)|false=>exact g k l N m _ o _ E b (r.on<|a V) (s.c7<|a V) f (H.on a) (I.on a)
def ai6(c:nq d<|mM o)(e:cd b f a<|bC x a)(g:cd b h a<|bC y a)(j:Kc o y=u):cd b (.cmp d f h) a (bC (xk x [o] [y] k) a):=λl m z n p q r E s t v H I L=>wpAny_Compare1 (e l m z n _ q _ E s t v H (λN a o b y r1 d=>g l m o n _ q _ E y (t.on<|b V) (v.c7<|b V) d (λf x h k p r2 r=>c p (r1.ek<|k V) r2 r λt n e=>(I.on<|b.bI k).fq p (v:=bS t) Y e) (L.on b)) L) j
def aaN(c:nq d<|mM o)(e:cd b f a<|bC x a)(g:cd b h a<|bC y a)(j:Kc o y=u):z1 b (.cmp d f h) a (xk x [o] [y] k):=λl m z n p q r E s t v H I p L=>wpAny_isTrue_Compare1 (e l m z n _ q _ E s t v H (λN a o b y r1 d=>g l m o n _ q _ E y (t.on<|b V) (v.c7<|b V) d (λf x h k r r2 I=>c r (r1.ek<|k V) r2 I λt n e=>zC<|p t _ _ ((b.bI k).bI .h) (r.lH<|xh _) Ig e) (L.on b)) L) j
def aga(C:Cx)(a)(n)(v):=∀{b} {c E:VP} {s} {p},cO C.I0 s.heap->c v s->a7 (bL C.dM C.w) b (bC (cC n p) a) c E s
abbrev nE:=aga C
def PQ(c:eU)(a:hs b)(d:c2 b n=J qn)(e:(n==("__debug__":bj))=u)(f:C.mg n=J v):nE b n v:=λg h=>d! (a V) d (loadGlobal_global (W (a J1)<|(c J6) _ g) f h) e
def W8(a:eU)(b:hs c)(d:c2 c n=J qn)(e:(n==("__debug__":bj))=u)(f:C.mg n=A)(g:n≠"__name__")(h:tM n=J v):nE c n v:=λj k=>d! (b V) d (WN (W (b J1)<|(a J6) _ j) f (W (b J2)<|(a J7) _ j) (af ((a J8) n g) h) k) e
def Ok.i0(a:bY d b z)(c:mI Aq z.I b):cO C.I0 z.s.heap:=λe o e=>(a V).sI _ _ ((c V) _ _ e)
def JX(f):=∀{M} {a} {b E:VP} {s} {c} {d},d.any (·.1)=u->a7 M a (evalArgs f Q d []) (λe g=>a7 M a (call f ([]++e.pos) e.kw) b E g) E s->a7 M a (Qc c f [] d []) b E s
def IV{id}:JX (eh id):=callWith_builtin
def GN{id}:JX (cJ id):=II
def agI(C)(a)(f)(b):=∀{c d} {z} {v} {y} {e} {g E:VP},Ok C c d z->Le C.I0 z.I->bD C.S z.I v y->RN f v z.σ e->PE C c d z e g->a7 (bL C.dM C.w) a (call b [y]) g E z.s
abbrev s7:=agI C Aq
def afF(g:nE a n b)(d:JX b)(c:gc x=Q)(e:cd f h a<|bC x a)(j:s7 k b):cd f (ti k h) a (bC (dZ (cC n p) [x] [] l) a):=by
 refineλm o z l q r s E t v y H I L=>aB<|g (t.i0 v) ?_
 have N:=ak dB ⟨c,Y⟩;exact d (qS N)<|rP N<|W (Ge c)<|spliced_cons<|e m o z l _ r _ E t v y H (λa y b x n r1 f=>spliced_nil<|j n ((v.on<|x V) V) r1 f<|I.on x) L
def al0:s7 .len (eh "len"):=λa Z r b c=>by
 rcases CR a r b with q|q
 .cases q with|mk d e f n g h q l k=>exact W g<|ajn (iX h) (q.AL l)<|c.fq a (m3 _ _)<|q.eQ▸k
 .cases q with|mk d e f n g h q l k=>exact W g<|acE (pO h) (q.AL l)<|c.fq a (m3 _ _)<|q.eQ▸k
noncomputable abbrev nu:=cJ "tuple"
def ade:s7 q6 (nu):=λa Z r b c=>by
 cases hV a r b with|mk d e f n e g q l k=>
 refine W e ?_;exact call_tuple_list (iX g) (λh j=>c.tup a (λb o e=>iT _ (j b o e)) (by
  cases q:aH _ h.objs.size with
  |none=>rfl|some o=>exact ay (ij<|j _ _ q)<|j7 _) (i1 _ Y) q l k)<|q.q4 l
def ajQ:s7 .list (cJ "list"):=λa Z r b c=>by
 rcases CR a r b with q|q
 .cases q with|mk d e f n g h q l k=>exact W g<|X7 e (aL Y) h Y Y (λj m o h=>c.lst a o (mO _) h q l k)<|q.q4 l
 .cases q with|mk d e f n g h q l k=>exact W g<|X7 e (aw Y) h Y Y (λj m o h=>c.lst a o (mO _) h q l k)<|q.q4 l
def ajE:∀{a} {l} {b},bR c I a l->oi a=J b->∃D:aa<|au×Tok,l=R (λp=>ey p.1 p.2) D/\R (·.1) D=b:=by
 intro a;refine @(a.rec (@λl b h e=>W (h:l=[])<|ax (aC e) ⟨[],Y,Y⟩) λa r d=>?_);intro l b h e
 induction h with|mk x s f h1 h2=>
 refine ah (iv.mp e) λg j=>ah (fA j.2) λk m=>ah (d h2 m.1) λD p=>?_;rw [OE j.1] at h1
 induction h1 with|mk t n=>exact⟨(g,t)::D,by simp only [f,p.1,n];rfl,by simp only [<-m.2,<-p.2];rfl⟩
abbrev iw:=ue Aq
def abF(a:iw=A):s7 .sum (eh "sum"):=λb Z r c d=>by
 cases hV b r c with|mk e f g n e h q l k=>
 refine ah (ew k) λj m=>ah (ajE q m.1) λD o=>W e ?_;have p:g=intItems (gU D):=by apply FF.mp;exact W o.1<|W Array.toList_map Y
 subst p;exact sum_intListG a (iX h) λs t v x=>W (preSum_eq ..)<|W List.toList_toArray<|W (zt<|by simp only [bB,Lv];exact bb _)<|W o.2<|d.HN b x (m3 _ _) m.2
def ab7:s7 .abs (eh "abs"):=λa Z r b c=>by
 refine ht (tj r b) λd t e k=>W e<|call_abs_int λf g=>?_;exact W (show(if d<0 then-d else d)=_ by
  by_cases h:d<0
  .exact W (aJ h) (Int.ofNat_natAbs_of_nonpos<|om h).symm
  .exact W (aS h) (Int.natAbs_of_nonneg<|hB.mp h).symm)<|c.fq a (m3 _ _) k
def U8(b:cd c d a<|bC x a):cd c (ti .neg d) a (bC (t5 .USub x e) a):=λf g z l h j k E m n o p q r=>K'<|b f g z l _ j _ E m n o p (λv y s t H r1 I=>ht (tj r1 I) λL N e k=>W e<|acB<|(q.on t).fq H (m3 _ _) k) r
def aaW(e:iw=A)(g:nE a n<|eh "max")(b:gc x=Q)(c:gc y=Q)(f:cd d h a<|bC x a)(j:cd d k a<|bC y a):cd d (hC BD h k) a (bC (dZ (cC n p) [x,y] [] l) a):=by
 refineλm o z l q r s E t v H I L N=>aB<|g (t.i0 v) ?_
 have a:=ak dB ⟨b,ak dB ⟨c,Y⟩⟩;refine callWith_builtin (qS a)<|rP a<|W (zZ b c)<|spliced_cons<|f m o z l _ r _ E t v H I (λx y d n h r1 k=>spliced_cons<|j m o d l _ r _ E h (v.on<|n V) (H.c7<|n V) k (λp q s b c r2 f=>?_) (N.on n)) N;cases oz (r1.ek<|b V) r2 f with|mk z j t I a y k=>
 refine W a<|W y<|spliced_nil<|max_two_ints e λx m o=>?_;have L:=L.on<|n.bI b
 by_cases g:z<j
 .exact W (aJ g)<|L.HN c o (by rw [Gg<|om g];exact m3 _ _) k
 .exact W (aS g)<|L.HN c o (by rw [Rc<|hB.mp g];exact m3 _ _) k
def c'(a:eU)(b:cO C.I0 h):d6 h.objs≠1:=λq=>ah ((a J6) h b) λo g=>ah g λc g=>ah g λep g=>by exact ay (q▸(ij g.1))<|ao Y
def acr(h1:nq e<|mM c)(h2:nq f<|mM d)(g:cd b h a<|bC x a)(j:cd b k a<|bC y a)(l:cd b m a<|bC t a)
 (n:lastMarks [c,d] [y,t]=u):z1 b (yo e f h k m) a (xk x [c,d] [y,t] o):=by
 refineλp q z r s v H E I L N a b c d=>isTrue_chain (g p q z r _ v _ E I L N a (λy e f h x r1 k=>test_link<|j p q f r _ v _ E x (L.on<|h V) (N.c7<|h V) k (λm o s H b r2 g=>h1 b (r1.ek<|H V) r2 g λt z I=>zC ?_) (d.on h)) d) n
 have k:=(h.bI H).bI<|Nx.h (a:=s.s.heap) (t:=z);have a:bY p q (zh s s.s.heap z):=b.lH<|xh _
 induction t with
 |false=>exact c u _ _ k a Ig I|true=>exact test_last<|l p q _ r _ v _ E a (L.on<|k V) (N.c7<|k V) I (λy e j f x m o=>h2 x (r2.ek<|f V) m o λt z I=>zC<|c t _ _ ((k.bI f).bI .h) (x.lH<|xh _) Ig I) (d.on k)
def acq:s7 sv (cJ "str"):=λ{a b z v y c d E} e _ r f g=>ht (tj r (f:bE _ _)) λh t j k=>W j<|alQ ((by
 obtain⟨m,rfl⟩:=wF k.1.1
 induction m with
 |zero=>decide|succ m=>exact e8 (ak (u! (k:=25)<|Je m)<|cF (jg.mp k.1.2)<|ao Y)<|ao Y))<|g.fq e (Cp _ _) k.2
def ai9(g:nE a f<|eh "isinstance")(d:nE a t<|cJ "str")(b:gc x=Q)(e:cd h c a<|bC x a):cd h (ti yq c) a (bC (dZ (cC f p) [x,cC t j] [] k) a):=by
 refineλl m z n o q r E s v y H I L=>aB<|g (s.i0 v) ?_
 have N:=ak dB ⟨b,Y⟩;refine callWith_builtin (qS N)<|rP N<|W (zZ b Y)<|spliced_cons<|e l m z n _ q _ E s v y H (λa y x f t r1 h=>spliced_cons<|d (t.i0<|v.on<|f V)<|spliced_nil ?_) L;cases a with
 |str s=>induction r1 with|mk p e=>exact W e<|amm<|(I.on f).fq t (v:=bS Q) Y h
 |tup j=>induction r1 with|mk c k n e g q _=>exact W e<|aen ((t V).sI _ _ g) Y<|(I.on f).fq t (v:=bS u) Y h
 |_=>exact b4 h
def BH{C}(n:∀l a y,Nx z y->Ok C a b y->g7 C y.I a c l->N l y.σ->d qI y.s)(e:∀l a y,Nx z y->Ok C a b y->g7 C y.I a c l->f l y.σ->d .cont y.s)(r:∀v x l a y,Nx z y->Ok C a b y->g7 C y.I a c l->bD C.S y.I v x->g v y.σ->d (jM x) y.s):PS C c b z N g f d:=bZ n e r
def PS.on(p:PS C a b z N c d e)(k:Nx z y):PS C a b y N c d e:=BH (λl f t a=>(p V) l f t<|k.bI a) (λl f t a=>(p J1) l f t<|k.bI a) λv x l f t a=>(p J2) v x l f t<|k.bI a
def qN.on(p:qN C a b z c d e)(k:Nx z y):qN C a b y c d e:=λe l f t a=>p e l f t<|k.bI a
def qN.at(p:qN C b c z d e f)(g:gr z.I a b l):PX C a c z d e f:=λe y h j k x=>p e l a y h j (g.c7<|h V) k x
abbrev Dc:=M4 C Dq Aq
def WX:Dc a ck b []:=λc d z l N e f g h E j k m n o p=>yr<|(o V) l c z (rz z) j m n
def NA(n):∀l,cW (kX l n) x=J v->cW l x=J v:=
pI id λy a r b h=>by
 have h:cW (aD _ _ _) x=J v:=h;refine(?_:aD _ _ _=J v)
 by_cases q:y=n
 .subst q;rw [fJ] at h
  by_cases c:y=x
  .subst c;have d:=pI (M:=λl=>cW (kX l y) y=A) Y λe a r b=>by
    refine(?_:cW (aD _ _ _) y=A)
    by_cases q:e=y
    .subst q;exact W (fJ ..) b
    .exact W (d4 q)<|af (xc q) b
   exact ay (af (d r).symm h) aI
  .exact W (d4 c)<|b h
 .rw [d4 q] at h;have h:aD _ _ _=J v:=h
  by_cases c:y=x
  .subst c;rw [fJ] at h⊢;exact h
  .rw [d4 c] at h⊢;exact b h
def g7.less(a:gr I b c l)(h:∀x v,cW d x=J v->cW l x=J v):gr I b c d:=ah a λm q=>cM m<|eY (q V) (λx v e=>q J1 x v<|h x v e) (λx v e=>q J2 x v<|h x v e) (q J3) (q J4)<|q J5
def g7.del{a:aa O}:∀{l},gr I b c l->gr I b c (a.foldl kX l):=@(a.rec (λh=>h) λn r d=>λh=>d<|h.less λx v=>NA n _)
abbrev i8:=Zz C Dq Aq
def al5(b:cd c d a<|bC x a)(e:Nc a=u)(f:ng x A g.line a=pure u):i8 c (uD d) a (.Expr x g):=λh j z l N k m n o E p q r s t v=>UP (b h j z l _ n _ E p q r s (λy y H I L r1 a=>(t V) l h H I L (r.c7<|I V) a) (v.at r)) e f
def YO:i8 a .cont b (.Continue c):=λd e z l N f g h j E k m n o p q=>wpAny_Continue<|(p J1) l d z (rz z) k n o
def Vj:i8 a yW b c:=λd e z l N f g h j E k m n o p q=>b4 o
def Ś(c:z1 a d b x)(e:Dc a s b f)(g:Dc a r b h):i8 a (.ite d s r) b (.If x f h j):=by
 refineλk l z m N n o p q E t v y H I L=>wpAny_If<|c k l z m _ p _ E t v y H (λa b h=>vQ h) (λt a d x s f r=>?_) (L.at y)
 have r:=f _ r
 induction t with
 |true=>exact e k l d m N n o p q E s (v.on<|x V) (y.c7<|x V) r (I.on x)<|L.on x|false=>exact g k l d m N n o p q E s (v.on<|x V) (y.c7<|x V) r (I.on x)<|L.on x
def Fj:∀l,cW (ez l n v) n=J v:=
pI JB λy a r b=>by
 refine(?_:cW (aD _ _ _) n=J v)
 by_cases q:y=n
 .exact W q<|W (fJ ..) JB
 .exact W (d4 q)<|af (xc q) b
def wA(h:m≠n):∀l,cW (ez l n v) m=cW l m:=
pI (xc<|me h) λy a r b=>by
 refine(?_:cW (aD _ _ _) m=aD _ _ _)
 by_cases q:y=n
 .exact W q<|W (fJ ..)<|W (d4<|me h)<|xc<|me h
 .exact W (d4 q)<|aq _ b
def t4(C)(a)(b)(z)(c:LT)(d:ki->cS->Prop):=∀l e y,Nx z y->Ok C e b y->g7 C y.I e a l->c l y.σ->d () y.s
def t4.on(p:t4 C a b z c d)(k:Nx z y):t4 C a b y c d:=λl e t a=>p l e t<|k.bI a
def nR.EN(h:nR a L m)(g:a c=J o)(d:hH o=q5 v):c≠L:=λq=>by induction h with|mk b e ep f j _ _=>rw [q,f] at g;obtain rfl:=aC g;exact nomatch (j▸d)
def GU.put(h:GU e I b d n v)(f:∀c,b1 n (gi d)=J c->∀a y,b c=J a->hH a=q5 (J y)->c≠q):GU e I (b.dF q o) d n v:=by induction h with|mk c y a l g d r=>exact⟨c,y,a,l,af (lL<|f c l a y g d) g,d,r⟩
def Ľ(g:eU)(q:Fq C I h b m l)(e:c2 b (bu n)=dW){c}{f}(j:hH c=pM d f)(k:StrKeys d)(o:∀a,nsFind d a=if a=bu n then J y else m a)(r:dk I v y):
gr I (h.dF (jy b) c) b (ez l n v):=
⟨_,eY ⟨c,d,f,iJ ..,j,k,o⟩ (λa p s t=>by
 by_cases x:a=n
 .subst x;rw [Fj] at s;obtain rfl:=aC s;exact⟨y,aJ Y,r⟩
 .rw [wA x] at s;exact((q J1) a p s t).imp λz h=>br (af (if_neg λH=>x<|(g J1) _ _ H) h.1) h.2) (λa p s t=>by
 by_cases x:a=n
 .subst x;exact aP t (λt=>by rw [e] at t;exact nomatch t) λt=>by rw [e] at t;exact nomatch t
 .rw [wA x] at s;exact((q J2) a p s t).put λL Z N y b I=>(q V).EN b I) (λa L s m=>((q J3) a L s m).imp λl h=>h.imp λv h=>br (af (lL<|(q V).EN h.1 h.2) h.1) h.2) (q J4)<|Qa<|q J5⟩
noncomputable def yl(a)(n):=c2 a n==dW||(c2 a n==J hj&&d7 (b1 n<|gi a))
abbrev za{a:Type}:=@wpAny a<|v9
def AX{E:VP}{K}{Ru}(d:eU)(e:hs b)(c:yl b (C.S.nm n)=Q)(a:bY h j z)(k:gr z.I h b l)(r:dk z.I v y)(f:K (ez l n v) z.σ)(g:t4 C b j z K Ru):za m (NJ b (C.S.nm n) y) Ru E z.s:=by
 refine ah k λm q=>?_
 by_cases o:c2 b (C.S.nm n)=dW
 .refine p_ o ((q V).ns (a V).sF) (λp s t=>?_) (by refine W (e V) ?_;rfl);exact ah s λx s=>ah s λH s=>ah s λI L=>by
   cases(q V) with|mk N h ep j k l b=>
   exact g _ _ _ .h (gF ((a V).H9 j t L.1<|by unfold nf;exact W L.2.1 Y)<|a J1) (Ľ d q o L.2.1 L.2.2.1 L.2.2.2 r) f
 .have c:=iN<|Ce (kv.mp c) λz=>o<|beq_iff_eq.mp z;refine ah (vH.mp c.2) λs H=>ah ((q J3) _ _ H ((d J2) n)) λI k=>ah k λl L=>?_;have j:z.s.heap.IsCell s l:=ah ((a V).sF _ _ L.1) λb z=>⟨_,z,L.2⟩;exact wpAny_storeName_cell (e V) (beq_iff_eq.mp c.1) H j λp I t=>ah I λx l=>
   g _ _ _ .h (gF ((a V).H9 L.1 t l.1<|by unfold nf;exact W l.2 Y)<|a J1) ((⟨m,eY (by cases(q V) with|mk N h ep z c Á n=>exact⟨N,h,ep,af (lL<|me<|(q V).EN L.1 L.2) z,c,Á,n⟩) (λp j b a=>by
   by_cases I:p=n
   .subst I;exact ay a o
   .rw [wA I] at b;exact(q J1) p j b a) (λp j b a=>by
   by_cases I:p=n
   .subst I;rw [Fj] at b;obtain rfl:=aC b;exact⟨s,y,x,H,iJ ..,l.2,r⟩
   .rw [wA I] at b;exact((q J2) p j b a).put λg t À y z c e=>I<|(d J1) _ _ ((q J4) _ _ s (e▸t) H)) (λp g b Â=>by
   by_cases e:g=s
   .exact W e<|⟨x,_,iJ ..,l.2⟩
   .exact((q J3) p g b Â).imp λÃ k=>k.imp λv k=>br (af (lL e) k.1) k.2) (q J4)<|Qa<|q J5⟩)) f
def aaR(C)(c)(b)(d)(t)(a)(x):=
∀e f (z:Z) l (v:ai) y (g:LT) h (j:ki->cS->Prop) E,Ok C e f z->Up C b z.I f->g7 C z.I e a l->bD C.S z.I v y->mJ c h t l v z.σ g->t4 C a f z g j->PX C e f z d h E->a7 (bL C.dM C.w) b (assign x a y) j E z.s
abbrev qZ:=aaR C Dq Aq
def z?(b:eU)(c:hs a)(d:yl a (bu n)=Q):qZ e (d9 n) a (cC (bu n) p):=λf g z l v y h j k E m o q r s t x=>Bi<|AX b c d m q r s t
def Vw{E:VP}{M}(h:a () s):a7 M Aq (release b c) a E s:=λd p e=>W (A_ ..) h
def aeW(b:eU)(c:cd d e a<|bC x a):qZ d (fL e n) a (fx x (bu n) f):=λg h z l v y j k m E o p q r s t H=>W (İ ..)<|aB<|hU<|c g h z l _ k _ E o p q s (λI L N a d r1 e=>aB<|r6<|aB<|hU<|aaG b d ((p.on<|a V) V) r1 (r.ek<|a V) e λx n f v=>Vw<|t l g x (a.bI n) f (q.c7<|(a.bI n) V) v) H
def ahN(r:bD b I v y):∀{a} {l} n,bR b I a l->bR b I (c5 a n v) (c5 l n y):=by
 intro a;refine @(a.rec (@λl n h=>W (h:l=[]) Y) λc t d=>?_);intro l n h
 induction h with|mk x s e h1 h2=>
 refine W e ?_
 induction n with
 |zero=>exact⟨y,s,Y,r,h2⟩|succ n=>exact⟨x,_,Y,h1,d n h2⟩
def ahb:∀{a},bw (R (·.1) a)->bw (R (·.1)<|eW a k v):=by
 intro a;refine a.rec (λZ=>ak jk ⟨bG,yM⟩) λe r b=>λh=>?_;have h:=jk.mp h;refine W Rg ?_
 by_cases q:e.1=k
 .exact W (aJ q)<|ak jk h
 .exact W (aS q)<|ak jk ⟨λm=>ah (mm m) λp c=>(Jn (a:=λd=>d≠e.1) (me q) (λf g z=>h.1<|ak jD ⟨f,g,z⟩) p c.1) c.2,b h.2⟩
def s9.eW(a:s9 b d)(c:il b k):s9 (eW b k v) (kh k):=bZ (ahb<|a V) (Jn (a:=λa=>kh a=kh k) Y c.2)<|Jn (a:=λa=>gz a=Q) c.1<|a J2
def alF{E:VP}{Ru}{K}(È:lD)(a:bY Å Ç z)(r1:dk z.I o c)(r2:dk z.I d e)(f:dk z.I v y)(g:qe o d v z.σ K)
 (h:∀b,Nx z b->bY Å Ç b->K b.σ->Ru () b.s):dx (setItem c e y) Ru E z.s:=by
 rw [Sw] at g;refine g _ (λÒ É p q=>?_) λr Ñ t Í H I L N=>?_
 .subst É
  induction r2 with|mk À Á=>
  cases Co a r1 q with|mk r Â Ã t Ä k Æ l N j q=>
  refine W k<|W Á ?_;have n:=(a V).sH _ _ l;refine ki_setAt n p (S! q.1<|om<|Io j) (N.eQ▸q.1) ?_;exact h ⟨z.I,z.H.dF r _,z.σ.dn r _,{z.s with heap:=qR z.s.heap r _}⟩ (i3 (uc _) Y) (a.upd (o':=az _) Æ l (nJ ..) (m9 (HX (·.setIfInBounds (cK Ò) y)) n Y) Y ⟨r,_,_,Y,iJ ..,W Array.toList_setIfInBounds<|ahN f _ N,W mX j⟩) q.2
 .subst Í;refine W (r1:c=w r) ?_;cases((a J1) r _ H:kf z.H _ Ñ _ _) with|mk Ë Ê n Ì k l x j Î Ï Ð=>
  cases k;have s:=NI (a V).sI ((a V).sH _ _ l) x (j V) (j J2) I r2;have m:jn (Z.s z) (w r) "dict":=⟨_,s J1,Y⟩;refine hU<|aB<|wpAny_sequenceKey m Y<|aB<|Lx m T3<|rA T3 m entry_dict_setitem ?_<|args_dict_setitem _ _ _;refine aB<|RP m (?_:a7 _ _ (dictSet r e y>>=_) _ _ (Z.s z));exact aB<|s.set (DN È) L f λs Ø n Ó Ô x=>bq ⟨bQ,Y,bq<|(λÕ Ö m Ù Ú Û=>h ⟨z.I,z.H.dF r _,z.σ.dn r _,{z.s with heap:=Õ,toks:=gu z.s+um d}⟩ (i3 (uc _) Y) (a.upd (o':=dC _ m) H l Ú Ù Y ⟨r,Ö,m,_,Y,iJ ..,Û,j.eW I,ae PN L,Ï,Y⟩)<|N m) s Ø n Ó Ô x⟩
def ak9(c:lD)(d:cd b e a<|bC x a)(f:cd b g a<|bC h a):qZ b (hC k6 e g) a (tv x h j):=by
 refineλk l z m v y n o p E q r s t H I L=>W (assign_Subscript ..)<|aB<|hU<|d k l z m _ o _ E q r s H (λN a b e x r1 g=>aB<|hU<|f k l b m _ o _ E x (r.on<|e V) (s.c7<|e V) g (λh j v y n r2 p=>?_) (L.on e)) L
 have d:=e.bI y;exact aB<|r6<|aB<|hU<|alF c n (r1.ek<|y V) r2 (t.ek<|d V) p λz q H N=>Vw<|I m k z (d.bI q) H (s.c7<|(d.bI q) V) N
noncomputable def q7:aa (O×la)->Zq.E
|[]=>ta|q::r=>j1 (d9 q.1)<|q7 r
noncomputable def ja(C:Cx)(a:aa<|O×la):=a.map λq=>cC (C.S.nm q.1) q.2
def Pg(C:Cx)(a)(b:aa<|O×la):=∀q∈b,yl a (C.S.nm q.1)=Q
section
variable{b:aT}{c:ai}{d:LT}{e:aT->Prop}{a:aW}{f:Zq.S}
def Rh:∀{h} {a} {g},yj Dq e (q7 h) a g b d->U g=U h:=by
 intro h
 induction h with
 |nil=>intro a g h;induction g with
  |nil=>rfl|cons _ _=>exact b4 h
 |cons q f j=>intro a g h;induction g with
  |nil=>exact b4 h|cons c g=>exact aq _ (j h)
end
def Tf:∀{a},U (EU (ja C a) b)=U a/\(EU (ja C a) b).findIdx? (·.1)=none:=by intro a;refine a.rec ⟨Y,Y⟩ λq r c=>⟨aq _ c.1,W (List.findIdx?_cons)<|W c.2 ?_⟩;rfl
section
variable{f:jE}{d:PM}{h:PM}{b:Z}{E:VP}{j:aT}{m:ai}{e:LT}{k:aT->Prop}{c:aW}{n:Zq.S}{g:Zq.S}{Ru:ki->cS->Prop}{o:a0}{l:bj->ba a0}
def Ξ(r:eU)(s:hs f):∀{p} {a} {q} {c} {d} {b} {e:LT},Pg C f p->bY d h b->gr b.I d f c->kK b.I a q->yj Dq k (q7 p) c a b.σ e->t4 C f h b e Ru->dx (O2 (R (·.2)<|EU (ja C p) f) q) Ru E b.s:=by
 intro p
 induction p with
 |nil=>intro a q c d b e _ t v g x y;induction a with
  |nil=>exact bq<|y c d b (rz b) t v x|cons _ _=>exact b4 x
 |cons z p H=>
  intro a q c d b e I t v g x y
  induction a with
  |nil=>exact b4 x|cons m a=>
   induction g with|mk o n L r1 r2=>
   exact W L<|aB<|hU<|Bi<|AX (K:=λc j=>yj Dq k _ c a j e) r s (I z b8) t v r1 x λN p q a r s t=>H (λv l=>I v<|cy _ l) r s (r2.E3<|a V) t<|y.on a
end
def al8(c:eU)(d:hs a)(e:iw=A){f}(g:Pg C a b):qZ h (oO<|q7 b) a (gq (ja C b) f j):=by
 refineλk l z l v y m n o E p q r s t x H=>ah (ew t) λI L=>?_
 rw [Jv L.1] at s
 induction s with|mk N f n h j q k=>
 refine W h ?_;have z:=Tf (b:=a) (a:=b);exact Uw e (pO<|(p V).sI _ _ j) (af z.1<|af (Rh L.2).symm q.eQ) z.2 λl v=>Ξ c d g (p.lH λb o L=>v b o (fI<|ij L) L) r q L.2<|x.on .h
def U0(a:gc x=Q):R (·.2) (EU [x] b)=[assign x b]:=by
 cases x with
 |Starred=>exact bU a|_=>rfl
def Ay(c:qZ b t a x)(d:cd b e a<|bC y a)(f:gc x=Q)(g:ng y (J x) h.line a=pure u)(j:sh [x] y a=pure A):i8 b (nK t e) a (je [x] y h):=λk l z m N n o p q E r s v H I L=>Gd (d k l z m _ p _ E r s v H (λa x y b t r1 e=>W (U0 f)<|c k l y m a x _ p _ E t (s.on<|b V) (v.c7<|b V) r1 e (λh N n o q d z=>(I V) h N n (b.bI o) q d z) ((L.at v).on b)) (L.at v)) g j
def yh(l)(D:aa<|O×ai):=D.foldl (λl p=>ez l p.1 p.2) l
def QV:∀{D} {l},(∀p∈D,p.1≠n)->cW (yh l D) n=cW l n:=by intro D;exact @(D.rec (λZ=>rfl) λp r a=>λh=>af (a λq b=>h q<|cy _ b)<|wA (me<|h p b8) _)
def UG:∀{D} {l},(R (·.1) D).Nodup->(n,v)∈D->cW (yh l D) n=J v:=by intro D;refine @(D.rec (λZ h=>bG h) λp r a=>?_);intro l nd h;have nd:=jk.mp nd;refine(mc h).elim (λe=>?_) λh=>a nd.2 h;subst e;exact(QV λq b e=>nd.1<|jD.mpr ⟨q,b,e⟩).trans<|Fj _
def akP(nd:bw<|R (·.1) a)(n):cW (yh l a) n=cW (yh l<|f7 a) n:=by
 by_cases h:n∈R (·.1) a
 .exact ah (mm h) λp b=>ax b.2<|W (UG nd b.1)<|W (UG (by rw [CI];exact ak List.pairwise_reverse<|nd.imp me)<|ak wD b.1) Y
 .rw [QV λp b e=>h<|ak jD ⟨p,b,e⟩,QV λp b e=>h<|ak jD ⟨p,wD.mp b,e⟩]
section
variable{b:aT}{d:ai}{c:LT}{e:aT->Prop}{a:aW}{f:Zq.S}
def ab2:∀{h} {a} {g},yj Dq e (q7 h) a g b c->c (yh a<|(R (·.1) h).zip g) b:=by
 intro h
 induction h with
 |nil=>intro a g h;induction g with
  |nil=>exact h|cons _ _=>exact b4 h
 |cons q f j=>intro a g h;induction g with
  |nil=>exact b4 h|cons d g=>exact j h
end
section
variable{e:jE}{c:PM}{j:PM}{b:Z}{E:VP}{m:ai}{g:cZ}{f:LT}{d:aW}{n:Zq.S}{h:Zq.S}{Ru:ki->cS->Prop}{o:a0}{k:O}{l:bj->ba a0}
def ahl(r:eU)(s:hs e):∀{a} {p} {q} {d} {c} {b} {f},(∀g∈a,yl e (bu g)=Q)->U p=U a->bY c j b->gr b.I c e d->kK b.I p q->f (yh d<|a.zip p) b.σ->t4 C e j b f Ru->
 dx (O2 (a.map λg=>bindName e<|bu g) q) Ru E b.s:=by
 intro a;refine @(a.rec (@λp q d c b f Z Z t v h x y=>bq<|y d c b (rz b) t v x) λk a z=>?_);intro p q d c b f H I t v h x y
 induction p with
 |nil=>cases I|cons m p=>
  induction h with|mk o n L r1 r2=>
  exact W L<|aB<|hU<|wpAny_bindName<|AX r s (H k b8) t v r1 x λN a q p r s t=>z (λv l=>H v<|cy _ l) (fZ I) r s (r2.E3<|p V) t<|y.on p
end
def agh(f:eU)(g:hs b)(h:iw=A){c}(j:cd k d b<|bC x b)(nd:bw<|R (·.1) a)(l:Pg C b a)(m:ng x (J<|gq (ja C a) c e) n.line b=pure u)
 (o:sh [gq (ja C a) c e] x b=pure (J<|(R (·.1) a).map C.S.nm)):i8 k (nK (oO<|q7 a) d) b (je [gq (ja C a) c e] x n):=by
 refineλp q z r N s t v y E H I L b c e=>Assign_Tuple_swapped (j p q z r _ v _ E H I L b (λv k n s y r1 j=>ah (ew j) λp q=>?_) (e.at L)) m o
 rw [Jv q.1] at r1
 induction r1 with|mk d z n H I b k=>
 have j:=af (Rh q.2) (bB (f:=λb=>b.1)).symm;refine W H<|W (show U ((R (·.1) a).map C.S.nm)=d6 z by rw [bB,<-j,b.eQ])<|unpackItems_tuple h (pO<|(y V).sI _ _ I) λd m=>?_;rw [<-CI,jC];have o:bw (((R (·.1) a).zip p).map (·.1)):=W (List.map_fst_zip<|c6 j.symm) nd;refine ahl (f:=λn k=>n=yh r (f7<|(R (·.1) a).zip p)/\N _ k) f g (λx e=>?_) ?_ (y.lH λh z q=>m h z (fI<|ij q) q) (L.c7<|s V) (bR.W? b) ⟨?_,ab2 q.2⟩ ?_
 .exact ah (mm<|wD.mp e) λb H=>H.2▸l b H.1
 .simp only [uN,uN];exact j
 .refine aq _ ?_;simp only [Vo,Vo,List.reverse_zipWith j.symm]
 .exactλI d t a f g r=>(c V) _ d t (s.bI<|Nx.bI .h a) f (g.less λx v q=>by rw [r.1];exact af (akP o x).symm q) r.2
noncomputable def pZ(I H:PM)(h:ie):={h with objs:=h.objs.mapIdx λa o=>if d7 (I a)||d7 (H a) then o else{cls:=bQ,data:= .freed}}
def ID:aH (pZ I H h) a=if d7 (I a)||d7 (H a) then aH h a else none:=by
 unfold pZ aH;refine W (Array.getElem?_mapIdx) ?_;cases e:h.objs[a]? with
 |none=>exact a5<|ite_self A|some o=>
  refine W (v? ..) ?_
  by_cases b:(d7 (I a)||d7 (H a))=Q
  .exact W (aJ b)<|W (aJ b) Y
  .exact W (aS b)<|W (aS b) Y
def S_:(pZ I H h).StaysIn h:=λb o e=>by
 rw [ID] at e
 by_cases a:(d7 (I b)||d7 (H b))=Q
 .rw [aJ a] at e;exact e
 .rw [aS a] at e;exact aI e
def Cu(h1:I a=A)(h2:H a=A):aH (pZ I H h) a=none:=W ID<|W h1<|W h2 Y
def Wm(a:Wd I H c d h)(e:I b=J o):aH (pZ I H h) b=J o:=W ID<|W e<|a.sI _ _ e
def Dj.no{a B}(d:Dj a B)(e:B b=J o):a b=none:=d.hr _ _ e
def Wd.F_(a:Wd I H d e h)(c:(pZ I H h).StaysIn b)(f:h.UpToSlots b):Wd I H d e b:=by have g:∀{j},lg j h->NF j->lg j b:=λs n k o e=>ah (s k o e) λl z=>ah (f _ _ z (nf.ne<|n k o e)) λm p=>cM m p;exact{a with sI:=λk o e=>c _ _ (Wm a e),sH:=λk o e=>c _ _ (W ID<|W e<|W (aJ (Ak _:_=Q))<|a.sH _ _ e),sF:=g a.sF a.nF,sP:=g a.sP a.nP}
def NF.no(n:NF H)(s:lg H h)(e:aH h a=J o)(d:hH o=eZ b):H a=none:=by
 cases q:H a with
 |none=>rfl|some c=>refine ah (s _ _ q) λf z=>?_;rw [e] at z;obtain rfl:=aC z;exact ay d<|nf.ne (n _ _ q) b
section
def AA.to(a:Wd I H f g h)(x:AA I h e b c d):h.TracedAtW (pZ I H h) e b c d:=by induction x with|mk j k T l m n b c d o g p q r=>exact⟨j,k,T,l,m,n,b,c,d,Cu o<|a.nH.no a.sH.pC p q,g,p,q,r⟩
def h!(a:Wd I H g j h)(x:b.TracedAtW (pZ I H h) e c d f):AA I b e c d f:=by
 obtain⟨k,l,T,m,n,o,b,c,d,p,g,q,r,s⟩:=x;exact⟨k,l,T,m,n,o,b,c,d,(by
  cases t:I T with
  |none=>rfl|some v=>exact iG<|Wm a t▸p),g,q,r,s⟩
end
def A9(C:Cx)(a)(I)(e)(h):=∃b c L,e=w b/\I b=A/\qD a=J L/\AA I h b C.pe c (o5 L)
def A9.fl(x:A9 C a I e h):eP C a I e h:=ah x λa x=>ah x λb x=>ah x λL x=>⟨a,x.1,x.2.1,aw ⟨b,_,x.2.2.2,aw ⟨L,x.2.2.1,Y⟩⟩⟩
def agV(a:Wd I H c b h):∀{l},Er b l->h.FunFrames (pZ I H h) l:=by intro l;refine l.rec (λZ=>trivial) λd r e=>λf=>?_;have k:=f d b8;exact⟨k.1,ah k.2 λL k=>ah k λo k=>ah (a.sP _ _ k.2.1) λg z=>⟨L,_,k.1,Cu (a.IP.no k.2.1)<|a.HP.no k.2.1,z,k.2.2⟩,e λx j=>f x<|cy _ j⟩
def Pt{E:VP}{M}(a:bY g h z)(l:mI j z.I h)(b:px j d m)(n:nR g (jy d) p)(c:eP C d z.I k z.s.heap)(f:∀e,Wd z.I z.H g h e->A9 C d z.I k e->o () {z.s with heap:=e}):a7 M j (noteFrame k d) o E z.s:=by
 have q:(RG<|Z.s z).FunFrames (pZ (Zq.Z.I z) (Zq.Z.H z)<|RG<|Z.s z) (d::m):=by
  cases n with|mk o r ep s t _ _=>
  refine⟨by refine W (b J2) ?_;decide,?_,agV (a V)<|(l J1) _ (b V)⟩;exact ah ((a V).sF _ _ s) λv x=>⟨jy d,_,b J1,Cu ((a V).IF.no s)<|(a V).HF.no s,x,λy H=>by rw [show hH ({o with slots:=v}:fX)=hH o from Y,t] at H;exact nomatch H⟩
 have I:=q;refine ah c λL c=>?_;rw [c.1] at f⊢;refine aP c.2.2 (λN=>?_) λN=>?_
 .refine LB N λg h y j k t p m=>?_;have n:aH (pZ z.I z.H z.s.heap) L=none:=Cu c.2.1<|(a V).nH.no (a V).sH.pC j t;unfold noteFrame;refine W (b J1)<|aB<|nD j t m<|W (aS<|ao Y)<|wpAny_entryW (b V) I (b J1) j S_ n t (yR.mp m).1 p λe r=>?_;exact f e ((a V).F_ r.1 r.2.2.2) ⟨L,h,jy d,Y,c.2.1,b J1,ax k<|h! (a V) r.2.2.1⟩
 .refine ah N λh N=>ah N λl N=>?_;have n:aH (pZ z.I z.H z.s.heap) L=none:=by cases N.1 with|mk g y T o s j v t=>exact Cu c.2.1<|(a V).nH.no (a V).sH.pC j t
  exact aP N.2 (λH=>wpAny_looks_onW (b V) (b J1) ⟨S_,n,I,(H▸N).1.to<|a V⟩ λe x q=>f e ((a V).F_ x.1 q) ⟨L,h,jy d,Y,c.2.1,b J1,h! (a V) x.2.2.2⟩) λH=>ah H λp H=>wpAny_noteFrame_againW H.1 ((H.2▸N).1.to<|a V)<|f _ (a V) ⟨L,h,p,Y,c.2.1,H.1,(H.2▸N).1⟩
def Lp{T}(a:Wd I H b c h)(e:I T=A)(g:aH h T=J f)(d:hH f=eZ j):Wd I H b c (qR h T<|zz (·.setIfInBounds 3 v)):=
a.kp (wz<|nJ h T _) λk l=>l▸⟨e,a.nH.no a.sH.pC g d,a.nF.no a.sF g d,a.nP.no a.sP g d⟩
def aeK(d:bY f g z)(h:A9 C b z.I e z.s.heap)(c:∀a,Wd z.I z.H f g a->A9 C b z.I e a->j e {z.s with heap:=a}):Wh k Aq b j e z.s:=by
 refine ah h λa x=>ah x λl x=>ah x λL x=>?_;rw [x.1] at c⊢;cases x.2.2.2 with|mk m n T o p g q r s t v y H I=>
 refine aB<|nD g r s<|W (aS (hz:¬_))<|aB<|nD g r s<|W (aJ (rfl:_=Q))<|W x.2.2.1 ?_;have N:=(yR.mp I).1;exact uv y H N<|c _ (Lp (d V) t y H) ⟨a,l,L,Y,x.2.1,x.2.2.1,m,n,T,_,_,af (NR _ _ v) g,q,r,s,t,v,m9 _ y (xK<|pz H _),pz H _,by refine W (Og)<|W (aJ Y)<|W (aJ N) ?_;rfl⟩
def Ok.sd(c:bY a b z)(d:Wd z.I z.H a b e):bY a b (zh z e t):=gF d<|c J1
def qN.own(c:px Aq a g)(d:mI Aq z.I b)(p:qN C a b z (eP C a) e f):qN C a b z (eP C a) e (notedBy (v9) Aq a<|Wh (v9) Aq a f):=λe l h y k j m n x=>ah m λo q=>Pt j (d.on<|k V) c (q V) n λr s t=>aeK (j.sd s) t λh2 v H=>p e l h _ (k.bI .h) (j.sd v) m H.fl x
noncomputable def PM.oQ(I:PM)(a:aa cx)(h:ie):PM:=λb=>if b∈a then aH h b else I b
noncomputable def PM.l8(I:PM)(a:aa cx):PM:=λb=>if b∈a then A else I b
def CV(h)(a:aa cx):=∀b∈a,∃o c,aH h b=J o/\hH o=eZ c
def Qy{I:PM}(m:b∈a):I.l8 a b=none:=aJ m
def HU{I:PM}(e:I.l8 b a=J o):I a=J o:=by
 by_cases m:a∈b
 .exact aI<|Qy m▸e
 .exact af (aS m:I.l8 b a=I a).symm e
def Xi{I:PM}(m:b∈a):I.oQ a h b=aH h b:=aJ m
def MI{I:PM}(m:b∉a):I.oQ a h b=I b:=aS m
def Wd.less(a:Wd I H b c h)(d):Wd (I.l8 d) H b c h:=
{a with sI:=λe o f=>a.sI _ _ (HU f),IH:=λe o x=>a.IH _ _ (HU x),IF:=λe o x=>a.IF _ _ (HU x),IP:=λe o x=>a.IP _ _ (HU x)}
def Wd.with(a:Wd I H c d h)(e:CV h b):Wd (I.oQ b h) H c d h:=by
 have f:∀{g},NF g->lg g h->Dj I g->Dj (I.oQ b h) g:=λn s d j o x=>by
  by_cases m:j∈b
  .exact ah (e j m) λk q=>ah q λl g=>n.no s g.1 g.2
  .rw [MI m] at x;exact d _ _ x
 refine{a with sI:=λj o e=>?_,IH:=f a.nH a.sH.pC a.IH,IF:=f a.nF a.sF a.IF,IP:=f a.nP a.sP a.IP}
 by_cases m:j∈b
 .rw [Xi m] at e;exact e
 .rw [MI m] at e;exact a.sI _ _ e
def KC(n:∀b∈a,I b=A):Le I (I.oQ a h):=λc o e=>by
 by_cases m:c∈a
 .rw [n c m] at e;cases e
 .exact W (MI m) e
def HD(I a:PM)(b)(h c):=fR (Le I<|a.l8 b) (∀d o,a d=J o->Zq.nf o=Q->a.l8 b d=J o)<|∀e∈b,aH c e=aH h e
def PK(n:∀b∈a,I b=A)(e:CV h a)(k:Le (I.oQ a h) c)(f:Wd c H g j d):HD I c a h d:=by
 have l:∀b∈a,∃o m,aH h b=J o/\hH o=eZ m/\c b=J o:=λb p=>ah (e b p) λo q=>ah q λm g=>⟨o,m,g.1,g.2,k b o<|af (Xi p) g.1⟩;have r (s:Le I<|c.l8 a) (nf:∀t o,c t=J o->Zq.nf o=Q->c.l8 a t=J o) (v:∀b∈a,aH d b=aH h b):HD I c a h d:=bZ s nf v;refine r (λt o e=>?_) (λt o e x=>?_) λb p=>ah (l b p) λo q=>ah q λm g=>af (f.sI _ _ g.2.2) g.1.symm
 .by_cases p:t∈a
  .exact aI<|n t p▸e
  .exact af (aS p:c.l8 a t=c t)<|k _ _ (KC n _ _ e)
 .by_cases p:t∈a
  .exact ah (l t p) λy q=>ah q λm g=>by obtain rfl:=aC<|af e.symm g.2.2;exact ay g.2.1<|Zq.nf.ne x m
  .exact af (aS p:c.l8 a t=c t) e
noncomputable def zI(z:Z)(I):={z with I:=I}
def HD.ok(c:HD I z.I a h z.s.heap)(b:bY d e z):bY d e (zI z<|z.I.l8 a):=gF ((b V).less a)<|(b J1).map<|c J1
def rj(C)(d)(g)(e)(b)(c)(f:og)(all)(a:O->ie->Prop):=j4 (∀h j k,a h j->(∀l∈b,aH k l=aH j l)->a h k) (∀h j,a h j->CV j b) (∀h (s:cS) (m E:VP),a h s.heap->m (w c) s->a7 (bL C.dM C.w) d (mN<|w c) m E s) (∀h v (n o:PM) z (m E p:VP),Ok C n o z->Le e z.I->(∀l∈b,z.I l=A)->a h z.s.heap->f z.σ=J all->all[h]?=J v->
(∀x y,Nx z y->y.σ=z.σ->Ok C n o y->(∀l∈b,y.I l=A)->bD C.S y.I v x->a (h+1) y.s.heap->m x y.s)->
a7 (bL C.dM C.w) d (rU<|w c) (λr q=>∃x,r=J x/\a7 (bL C.dM C.w) d (xn g (w c) x) (λY t=>m x t) p q) E z.s)<|∀h (n o:PM) (z:Z) m (E:VP),Ok C n o z->Le e z.I->(∀l∈b,z.I l=A)->a h z.s.heap->f z.σ=J all->h=U all->
(∀k t,Wd z.I z.H n o k->m A {z.s with heap:=k,toks:=t})->a7 (bL C.dM C.w) d (rU<|w c) m E z.s
def MO{C}{St}(m:∀a h d,St a h->(∀b∈e,aH d b=aH h b)->St a d)(n:∀a h,St a h->CV h e)(o:∀a (s:cS) (c E:VP),St a s.heap->c (w f) s->a7 (bL C.dM C.w) Aq (mN<|w f) c E s)(p:∀a v (g j:PM) z (c E q:VP),Ok C g j z->Le k z.I->(∀b∈e,z.I b=A)->St a z.s.heap->l z.σ=J all->all[a]?=J v->
(∀x y,Nx z y->y.σ=z.σ->Ok C g j y->(∀b∈e,y.I b=A)->bD C.S y.I v x->St (a+1) y.s.heap->c x y.s)->
a7 (bL C.dM C.w) Aq (rU<|w f) (λr t=>∃x,r=J x/\a7 (bL C.dM C.w) Aq (xn H (w f) x) (λY I=>c x I) q t) E z.s)(L:∀a (g j:PM) (z:Z) c (E:VP),Ok C g j z->Le k z.I->(∀b∈e,z.I b=A)->St a z.s.heap->l z.σ=J all->a=U all->
(∀d N,Wd z.I z.H g j d->c A {z.s with heap:=d,toks:=N})->a7 (bL C.dM C.w) Aq (rU<|w f) c E z.s):rj C Aq H k e f l all St:=ec m n o p L
def Rm(C)(a)(b)(c d)(z)(e:aT->og->aa ai->Prop)(f:VP):=∀g all y h j k,Nx z y->Ok C c d y->e y.σ g all->g y.σ=J all->rj C a b y.I h j g all k->(∀b∈h,y.I b=A)->k 0 y.s.heap->f (w j) y.s
def ai0(C)(b)(a)(d)(e)(k)(f g)(c)(x):=
∀h j (z:Z) l (m:aT->og->aa ai->Prop) n (o E:VP),Ok C h j z->Up C a z.I j->g7 C z.I h c l->(cN b n f l z.σ λp q=>cN b n g l q λr q=>Il k p r q<|m q)->Rm C a e h j z m o->PX C h j z d n E->
 a7 (bL C.dM C.w) a (bC x c) (λv s=>a7 (bL C.dM C.w) a (mN v) o E s) E z.s
def Sl:PX C a b z c (λZ=>bX) d:=λZ Z Z Z Z x=>b4 x
inductive Xs(C:Cx)(c:jE)(d:PM)(y:Z)(e:aa cx)(f:O->ie->Prop)(g:og)(all:aa ai)(G:aa ai->aW->aT->Prop)(n:O)(s:cS):Prop
|mk (a:O) (l:aW) (b:PM) (z:Z) (j:s=z.s) (k:Nx y z) (m:Ok C b d z) (o:g7 C z.I b c l) (p:∀h∈e,z.I h=A) (q:f a z.s.heap) (r:g z.σ=J all) (t:a<=U all) (v:n=U all-a) (x:G (cq a all) l z.σ)
abbrev vu:=ai0 C Dq Aq
def alB(b:vu c x k e Ë a y)(Ç:qZ c t a x)(Æ:Dc c s a h)(j:∀v,D1 y a v=pure v):i8 c (.for t k e Ë s) a (.For x y h [] l):=by
 refineλm n Ý l Á Ä p q r E H I L c Ó k=>wpAny_For (b m n Ý l _ q _ E H I L c (λe all h p r Ê H c r À N Â Ã=>?_) (k.at L)) j
 unfold C? at r;rw [X8] at r;refine codeAny_forLoop_any (Xs C a n h p Ê e all _) (λj s k=>?_) (U all) ⟨0,l,m,h,Y,rz h,c,L.c7<|H V,Â,Ã,À,cQ _,Y,r⟩
 induction k with|mk j m l L Å r k Ô c g f È É q=>
 subst Å;subst É;have d:=H.bI r;cases H:all[j]? with
 |none=>have b:=hJ È<|tF.mp H;refine(N J4) j l n L _ _ k (r V) c g f b λh3 Ì Í=>yr ?_;rw [b,US] at q;exact(Ó V) m l _ (d.bI .h) (k.sd Í) Ô q|some v=>
  have b:=kq.mp H;refine kY ((N J3) j v l n L _ _ _ k (r V) c g f H λk c g Î Õ f Ï Ð=>?_) (λÑ Ò y=>ah y λk y=>y.1▸y.2) λZ Z y=>y;rw [K2 b.1,b.2] at q;have y:=(N J1) _ _ Ð;have o:Le c.I (c.I.oQ p c.s.heap):=KC f;have H:Nx L (zI c<|c.I.oQ p c.s.heap):=i3 ((g V).xH o)<|g J1;refine Ç l n (zI c<|c.I.oQ p c.s.heap) m v k _ _ _ _ (gF ((Õ V).with y)<|(Õ J1).map<|oe o) (I.on<|(d.bI H) V) (Ô.c7<|H V) (Ï.ek o) (Î▸q:mJ _ _ t m v c.σ _) (λÙ Ö L q Û Ú Ø=>?_) Sl;have Ü:∀o m c,Nx L c->bY m n c->gr c.I m a o->(e c.σ=J all/\GC (mJ Dq (λZ=>bX) t) (QE (c1 Dq (λZ=>bX) s) Ä) e all Á _ o c.σ)->∃t,t<U all-j/\Xs C a n h p Ê e all _ t c.s:=λo m c s a e k=>by have l:=PK f y ((q.bI s) V)<|a V;have z:Nx h (zI c<|c.I.l8 p):=i3 (((r.bI g) V).xH<|l V)<|(r.bI H).bI (q.bI s) J1;exact⟨U all-_,Tt _ _ b.1,j+1,o,m,zI c<|c.I.l8 p,Y,z,l.ok a,e.map<|l J1,λË t=>Qy t,(N V) _ _ _ Ð (l J2),k.1,b.1,Y,k.2⟩
  refine Æ Ö n L Ù _ _ _ _ _ _ Û (I.on<|(d.bI H).bI q V) Ú Ø (BH Ü Ü λv x o m c s a e n k=>?_) (λZ Z Z Z Z Z Z Z x=>b4 x);have l:=PK f y ((q.bI s) V)<|a V;have z:Nx Ý (zI c<|c.I.l8 p):=i3 (((d.bI g) V).xH<|l V)<|(d.bI H).bI (q.bI s) J1;exact(Ó J2) v x o m (zI c<|c.I.l8 p) z (l.ok a) (e.map<|l J1) (uy (l J1) v x n) k
noncomputable def O8:=["enumerate","zip","dict_itemiterator","dict_reverseitemiterator","odict_iterator","itertools.zip_longest","itertools.pairwise"]
def gb(h)(a)(nm)(b):=∃o,aH h a=J o/\o.cls=cJ nm/\hH o=eZ b
def UN{E:VP}{M}(g:gb s.heap a n e)(c:b6 O8 n=u)(h:b () s):a7 M Aq (xn d (w a) v) b E s:=by
 have ref:∀f,a7 M Aq (xn (gq [] default default) (w a)<|w f) b E s:=λf=>ah g λo g=>aB<|wpAny_load g.1<|W g.2.1<|W g.2.2 ((W c<|W (KV ..)<|W (aS hz)<|bq h):a7 _ _ (if(b6 O8 n&&_)=Q then _ else _) _ _ _);have j:a7 M Aq (xn (gq [] default default) (w a) v) b E s:=by
  induction v with
  |ref f=>exact ref f|_=>exact bq h
 cases d with
 |Tuple=>exact j|List=>exact j|_=>exact bq h
def Ks(b:Fp a h c):Kp (·=a) h c:=λc o n e=>b c o n e
def gb.kp{nm}(g:gb h b nm j)(a:Wd I H c d h)(e:I b=A)(k:Kp (·=b) h f):Wd I H c d f:=a.kp k λl m=>ah g λo g=>m▸⟨e,a.nH.no a.sH.pC g.1 g.2.2,a.nF.no a.sF g.1 g.2.2,a.nP.no a.sP g.1 g.2.2⟩
def gb.qW{nm}(g:gb s.heap a nm b):jn s (w a) nm:=ah g λo g=>⟨o,g.1,g.2.1⟩
def DQ{nm}{g:O->gM a0}(l:b6 O8 nm=u)(m:∀b (s:cS) (c E:VP),gb s.heap a nm (g b)->c (w a) s->a7 (bL C.dM C.w) Aq (mN<|w a) c E s)
 (n:∀b v (e f:PM) z (c:ba a0->cS->Prop) (E:VP),Ok C e f z->Le j z.I->gb z.s.heap a nm (g b)->k z.σ=J all->all[b]?=J v->(∀x d t,bD C.S z.I v x->gb d a nm (g<|b+1)->t8 a z.s.heap d->c (J x) {z.s with heap:=d,toks:=t})->a7 (bL C.dM C.w) Aq (rU<|w a) c E z.s)
 (o:∀e f (z:Z) c (E:VP),Ok C e f z->Le j z.I->gb z.s.heap a nm (g<|U all)->k z.σ=J all->(∀d,Fp a z.s.heap d->c A {z.s with heap:=d})->a7 (bL C.dM C.w) Aq (rU<|w a) c E z.s):
 rj C Aq p j [a] a k all λb h=>gb h a nm (g b):=
 MO (λb h d x k=>ah x λq g=>⟨q,af (k a hf) g.1,g.2⟩) (λb h x r y=>W (ms y)<|ah x λq g=>⟨q,_,g.1,g.2.2⟩) m (λb v e f z c E H I k L x N s j=>n b v e f z _ _ I k x N s λy d t r g p=>⟨y,Y,UN g l<|j y _ .h Y (I.sd<|x.kp (I V) (L a hf)<|wz p) L r g⟩) λb e f z c E I k L x N h j=>o e f z c E I k (h▸x) N λd m=>j d z.s.toks<|x.kp (I V) (L a hf)<|Ks m
def EF(c:∀a,v≠aR a)(h:eR b v=J a):dj b v (·=a):=by
 cases v with
 |tup d=>exact ay Y<|c d|lst d=>cases h;rfl|ref a=>show ni (b a) _;exact W ze<|t2 h Y|_=>cases h
def aci(d:iw=A)(r:dk e v<|w l)(b:∀f,v≠aR f):rj C Aq j e [c] c (λg=>eR g v) all λa h=>gb h c "list_iterator" #[w l,ey a 0]:=
DQ Y (λa s k E x h=>wpAny_pyIter_listiter x h)
 (λa m n o z k E p q x t y H=>by
  cases hV p (r.ek q) (EF b t) with|mk I L N m e g v c l=>
  cases e;subst l;exact ah (yC v y) λy h=>Z! x (iX g) h.1 λf j s=>H y f z.s.toks h.2 j s)
 λn o z k E p q x t H=>by
  cases hV p (r.ek q) (EF b t) with|mk I L N m e g v c l=>
  cases e;subst l;exact H_ d x (iX g) (W v.eQ<|Dv<|bb _) H
def ahI(c:iw=A)(r:dk d (aR all)<|w l):rj C Aq f d [b] b (λe=>eR e<|aR all) all λa h=>gb h b "tuple_iterator" #[w l,ey a 0]:=
DQ Y (λa s g E x h=>wpAny_pyIter_tupleiter x h)
 (λa j k m z g E n o x p q t=>by
  cases(r.ek o:iY _ _ _ _ _) with|mk b v y e H I L=>
  cases e;exact ah (yC I q) λN h=>wpAny_pyNext_tuple_item x (pO<|(n V).sI _ _ H) h.1 λd l f=>t N d z.s.toks h.2 l f)
 λk m z g E n o x p t=>by
  cases(r.ek o:iY _ _ _ _ _) with|mk b v y e H I L=>
  cases e;exact wpAny_pyNext_tuple_end c x (pO<|(n V).sI _ _ H) (W I.eQ<|Dv<|bb _) t
def Bs{nm}(h):aH h a=J {cls:=cJ nm,data:=eZ b}->gb h a nm b:=λg=>⟨_,g,Y,Y⟩
def aky(e:iw=A){a b}:rj C Aq f g [d] d (λZ=>J<|m4 a b) (m4 a b) λc h=>IsRangeIter h d (a+(c:au)) (cK (b-a)-(c:au)) 1:=
MO (λc h j x k=>af (k d hf) x) (λc h x b m=>W (ms m)<|⟨_,_,x,Y⟩) (λc s l E x h=>wpAny_pyIter_rangeiter x h) (λc n o p z l E q r k t x v y H=>by
 have I:n=ag (a+(c:au))/\c<cK (b-a):=by
  have L:c<cK (b-a):=by
   have N:=gl y;unfold m4 at N
   rwa [bB,fi] at N
  unfold m4 at y;rw [cf,wg L] at y;exact ax (aC y)<|⟨Y,L⟩
 have g:=I;rw [g.1] at H;refine wpAny_pyNext_range_item x (Int.sub_pos_of_lt<|ak hn g.2) λj f m=>⟨_,Y,UN (Bs _ f) Y<|H _ _ .h Y (r.sd<|(Bs _ x).kp (r V) (t d hf)<|wz m) t (m3 _ _) ?_⟩;rw [show a+_=a+_+1 by simp only [MK,Int.add_assoc];rfl,show(cK (b-a):au)-_=_-_-1 by simp only [MK,D7];rfl];exact f) (λc o p z l E r k t x v s H=>by
 have h (a:au) (b:au):U (m4 a b)=cK (b-a):=by unfold m4;simp only [bB,fi]
 rw [h] at s;exact wpAny_pyNext_range_end e x (by rw [s];exact O1<|TV _) λj q=>H j z.s.toks<|(Bs _ x).kp (r V) (t d hf)<|Ks q)
noncomputable abbrev Cy(d)(n ep a:O):=#[w d,ey a 0,ey n 0,ey ep 0]
def ahe{E:VP}{ep}{a:VP}(c:(d==Xx)=u)(g:aH s.heap d=J (hx b ep))(e:a (w s.heap.objs.size) {s with heap:=dh s.heap {cls:=cJ "dict_keyiterator",data:=eZ<|Cy d b.size ep 0}}):a7 (bL f h) Aq (mN<|w d) a E s:=
 have j (k:(λl m=>∃v,l=Z5 (jM v)/\∃n r,jn m v n/\YY (cJ n) (Dd "__next__")=k! (J r)/\a v m) (.done (jM<|w s.heap.objs.size)) {s with heap:=dh s.heap {cls:=cJ "dict_keyiterator",data:=eZ<|Cy d b.size ep 0}}):a7 (bL f h) (Ő Aq) (Builtin.«dict.__iter__» ⟨[w d],[]⟩) (λl m=>∃v,l=Z5 (jM v)/\∃n r,jn m v n/\YY (cJ n) (Dd "__next__")=k! (J r)/\a v m) E s:=by have o:jn s (w d) "dict":=⟨_,g,Y⟩;refine aB<|aB<|RP o<|bq (a:=w d) (?_:a7 _ _ (T4 d>>=_) _ _ s);unfold T4;exact W (aS<|by rw [c];exact hz)<|aB<|bq<|aB<|Nt g Y<|aB<|WR g Y<|aB<|zB<|bq k
 have o:=⟨_,g,Y⟩
 PF o Xj (rA Xj o afM (j ⟨_,Y,"dict_keyiterator",_,⟨_,i1 _ Y,Y⟩,kZ Hr,e⟩)<|agb _)
def j!{E:VP}{T}(c:ue d=A)(h:∀a x,(∀b o,aH s.heap b=J o->aH a b=J o)->jn {s with heap:=a} (w x) "StopIteration"->E (w x) {s with heap:=a}):
 a7 (bL f g) d (newExc (cJ "StopIteration") []>>=λe=>(raiseNew e:l9 j)) T E s:=by
 refine aB<|aB<|zB (aB<|yE (a:=bQ) Y<|zB ?_ ?_) ?_
 .exact aB<|wpAny_handled<|W c<|aB<|bq<|wpAny_throw<|h _ _ (λb o e=>iT _ (iT _ e)) ⟨_,i1 _ Y,Y⟩
 .size_fits
 .size_fits
def adF{E:VP}{ep}{T}{a}(f:ue h=A)(r:gb s.heap d "dict_keyiterator"<|Cy j b.size ep a)(g:aH s.heap j=J (hx b ep))
 (h1:∀e,b[a]?=J e->T (.done (jM e.key)) {s with heap:=qR s.heap d<|zz (·.setIfInBounds 1 (o5<|(a:au)+1))})
 (k:b[a]?=A->∀c x,Fp d s.heap c->jn {s with heap:=c} (w x) "StopIteration"->E (w x) {s with heap:=c}):a7 (bL l m) h (Builtin.«dict_keyiterator.__next__» ⟨[w d],[]⟩) T E s:=by
 have n:=r.qW;refine ah r λo p=>aB<|bq<|aB<|aB<|aB<|N0 n<|bq<|aB<|wpAny_fieldsOf p.1 p.2.2<|aB<|bq<|aB<|Nt g Y ?_;rw [aS<|by rw [Hl];exact hz];refine aB<|bq<|aB<|WR g Y ?_;rw [aS<|by rw [Hl];exact hz];refine bq (?_:a7 _ _ (match(if(a:au)<0 then A else b[cK (a:au)]?) with|some e=>_|none=>_) T E s);rw [aS<|ak hB<|cj a,z8];cases e:b[a]? with
 |some q=>refine aB<|aB<|N0 n<|bq<|aB<|YN n<|aB<|uv p.1 p.2.2 (bl Y)<|aB<|hU<|aB<|YN ⟨_,m9 _ p.1 (xK<|pz p.2.2 _),af (Lf ..) p.2.1⟩ ?_;exact bq<|bq<|h1 q e|none=>exact aB<|aB<|N0 n<|bq<|aB<|uv p.1 p.2.2 (bl Y)<|j! f λc x t v=>k e c x (λb o n g=>t b o<|af ((nJ ..).2 b n) g) v
def Vl{E:VP}{ep}(g:iw=A)(r:gb s.heap b "dict_keyiterator"<|Cy h c.size ep d)(j:aH s.heap h=J (hx c ep))
 (h1:∀e,c[d]?=J e->f (J e.key) {s with heap:=qR s.heap b<|zz (·.setIfInBounds 1 (o5<|(d:au)+1))})(k:c[d]?=A->∀a,Fp b s.heap a->f A {s with heap:=a}):a7 (bL l m) Aq (rU<|w b) f E s:=by
 refine aB<|Pe<|Lx r.qW Hr
  (rA Hr r.qW ŋ (adF g r j (λe n=>⟨_,Y,bq<|h1 e n⟩) λe a x o p=>?_)<|ahm _)
 exact aB<|HV p Uv<|bq<|k e a o
def et.key:∀{a} {l},et b I a l->∀{e} {j:O},l[j]?=J e->(R (·.1) a)[j]?=J v->bD b I v e.key:=λq e j h k=>q.at h λp c r=>by rw [cf,c] at k;exact ax (aC k)<|r J1
inductive alE(C:Cx)(z:Z)(d:cx)(n:O)(all:aa ai):Prop
|mk (a:aa<|ai×ai) (b:gM gE) (e:all=R (·.1) a) (g:aH z.s.heap d=J (hx b n)) (q:et C.S z.I a<|cR b)
def QW(a:PM)(b)(v)(d)(n):=(∀c,v=g0 c->∃e,a d=J (hx e n))/\((∀c,v≠g0 c)->w8 b v=n)
def t!(b:bY g h z)(k:Le c z.I)(r:dk c v<|w d)(e:QW c f v d n)(a:qU f v z.σ=J all):alE C z d n all:=by
 unfold qU at a
 by_cases j:w8 z.σ v=w8 f v
 .rw [aJ j] at a;refine ah (fA a) λl m=>?_;cases v with
  |oT o=>
   have p:=m.1;cases p;refine ah (e.1 _ Y) λq g=>?_;cases(r.ek k:kf _ _ _ _ _) with|mk s t x c p y H=>
   cases p;cases af (k _ _ g).symm y;exact⟨_,_,a5 m.2,(b V).sI _ _ y,H⟩
  |ref s=>
   cases(show w d=w s from r);refine ah (fA m.1) λI L=>?_;have N:=RD L.1;cases((b J1) d _ N:kf _ _ _ _ _) with|mk h q x c p g H f l v t=>
   cases p;have k:I.2=n:=by simp only [<-e.2 (λo z=>by cases z),<-j];show _=dN (b7 (·.2)<|l2 _) 0;exact W L.1 Y
   exact⟨I.1,q,W L.2 m.2.symm,(b V).sH _ _ (af t k▸g),H⟩
  |_=>exact ay m.1 (λz=>by cases z)
 .rw [aS j] at a;cases a
def abE(b:iw=A)(r:dk c v<|w d)(e:QW c g v d n):rj C Aq j c [f] f (qU g v) all λa h=>gb h f "dict_keyiterator" (Cy d (U all) n a):=
DQ Y (λa s k E x h=>PF x.qW r! <|rA r! x.qW ae0 (by
 exact bq ⟨_,Y,"dict_keyiterator",_,x.qW,kZ Hr,h⟩)<|ah5 _)
 (λa l m o z k E p q x t y H=>by
  cases t! p q r e t with|mk I L N g c=>
  have v:U all=d6 L:=by simp only [N,bB,c.Jp,uV]
  rw [v] at x H;refine Vl b x g (λd f=>?_) λn=>?_
  .exact ah x λj s=>H _ _ z.s.toks (c.key (af rY f)<|N▸y) ⟨_,m9 _ s.1 (xK<|pz s.2.2 _),af (Lf ..) s.2.1,pz s.2.2 _⟩ (nJ ..)
  .rw [X?<|v▸(gl y)] at n;cases n)
 λm o z k E p q x t H=>by
  cases t! p q r e t with|mk I L N g c=>
  have v:U all=d6 L:=by simp only [N,bB,c.Jp,uV]
  exact Vl b (v▸x) g (λd f=>by rw [Dv<|bb _] at f;cases f) λZ=>H
noncomputable abbrev qr(l)(n a:O):=#[w l,o5<|(n:au)-1-(a:au)]
def Jz{n:O}(h:a<n):(n:au)-1-(a:au)=((n-1-a:O):au):=by simp only [IW<|Nat.le_sub_one_of_lt h,IW<|cF (cQ _) h];rfl
def A?(n:O):(n:au)-1-(n:au)= -1:=W (D7 ..)<|W (CK ..)<|ax (D7 ..)<|W (TV ..) (JZ ..)
def S2(n a:O):(n:au)-1-(a:au)-1=(n:au)-1-((a+1:O):au):=(D7 _ _ ..)
def Yf(q:bR c I a l)(h:a.reverse[b]?=J d):b<U a/\∃y,l[U a-1-b]?=J y/\bD c I d y:=by have e:=gl h;rw [uN] at e;exact br e<|q.get _ (List.getElem?_reverse e▸h)
def ack(d:iw=A)(r:dk e v<|w l)(f:∀b,v≠aR b):rj C Aq j e [c] c (λg=>b7 f7<|eR g v) all λa h=>gb h c "list_reverseiterator" (qr l (U all) a):=
DQ Y (λa s k E x h=>XW x h)
 (λa m n o z k E p q x t y H=>ah (fA t) λb I=>by
  cases hV p (r.ek q) (EF f I.1) with|mk L b N m e g v c j=>
  cases e;subst j;rw [<-I.2] at y x H;have s:=Yf v y;rw [uN] at x H;refine ah s.2 λy h=>?_;rw [show qr l (U L) a=#[w l,o5 _] by unfold qr;exact W (Jz s.1) Y] at x;exact wpAny_pyNext_rev_item x (iX g) (af rY.symm h.1) λr f b=>H y r z.s.toks h.2 (by rw [<-Jz s.1,S2] at f;exact f) b)
 λn o z k E p q x t H=>by rw [show qr l (U all) (U all)=#[w l,o5<| -1] by unfold qr;exact W (A? ..) Y] at x;exact wpAny_pyNext_rev_end d x H
def aaO:Slot "reversed" "__init__" "object.__init__":=
.of (owner:="object") (n:="__init__") (by refine W (Iq ..)<|W Gi ?_;kernel_rfl) (by decide+kernel) (by decide+kernel) (by decide+kernel)
 (by first|exact aL (by decide+kernel)|exact .inr _) (by refine W (Ir ..) ?_;kernel_rfl)
def LU:TypeCalled "reversed" "reversed.__new__" "object.__init__":=
⟨by decide+kernel,by decide+kernel,⟨_,_,Ρ⟩,ame,ak1,acN,aaO⟩
def Zm:b1 (qE<|f7 ['d','e','s','r','e','v','e','r']) ac8=J adO:=by kernel_rfl
def SK:Slot "reversed" "__next__" "reversed.__next__":=
.of (owner:="reversed") (n:="__next__") (by refine W (Iq ..)<|W Gi ?_;kernel_rfl) (by decide+kernel) (by decide+kernel) (by decide+kernel)
 (by first|exact aL (by decide+kernel)|exact .inr _) (by refine W (Ir ..) ?_;kernel_rfl)
def ait:FG JM "reversed.__next__"=J Builtin.«reversed.__next__»:=ZJ (by kernel_rfl)
def Ĵ:Slot "reversed" "__iter__" "reversed.__iter__":=
.of (owner:="reversed") (n:="__iter__") (by refine W (Iq ..)<|W Gi ?_;kernel_rfl) (by decide+kernel) (by decide+kernel) (by decide+kernel)
 (by first|exact aL (by decide+kernel)|exact .inr _) (by refine W (Ir ..) ?_;kernel_rfl)
def aeq:FG JM "reversed.__iter__"=J Builtin.«dict_keyiterator.__iter__»:=
entryFor_alias (id':="dict_keyiterator.__iter__") (by kernel_rfl) (by first|rfl|decide+kernel|(simp+decide [String.splitOnAux])) (by decide+kernel) (by kernel_rfl)
def aae:isSubtype (nu) (u1)=pure false:=by refine W (Ir ..) ?_;kernel_rfl
def alO:typeLookup (nu) "__reversed__"=pure none:=by refine W (Iq ..)<|W Gi ?_;kernel_rfl
noncomputable abbrev f?(l:cx)(n:O):fX:={cls:=cJ "reversed",data:=eZ #[w l,o5<|(n:au)-1]}
def agf{E:VP}(b:aH s.heap l=J (lN "tuple" c n))(d:(d6 c:au)<2^63){a:VP}(h:∀tk,a (w s.heap.objs.size) {s with heap:=dh s.heap<|f? l c.size,toks:=tk}):a7 (bL e f) g (call (cJ "reversed") [w l]) a E s:=by
 have j:jn s (w l) "tuple":=⟨_,b,Y⟩;refine callType_meetsIn (Q₁:=λk m=>jn m k "reversed"/\a k m) (S:=λZ o p=>p=s/\∀tk,o (.ok<|jM<|w s.heap.objs.size) {s with heap:=dh s.heap _,toks:=tk})
  LU (aed _) (al9 _) agD abY ?_ ⟨Y,λtk=>⟨⟨_,i1 _ Y,Y⟩,h tk⟩⟩ λk m q=>⟨q.1,aj6 _ _,_,object_init_meets (kZ LU.init) LU.made Y,q.1,Y,q.2⟩
 intro r o p q;refine W q.1<|adI (S:=λZ o p=>p=s/\∀tk,o _ {s with heap:=dh s.heap _,toks:=tk}) (λr o p q=>W q.1<|aB<|yE (newClass_reversed _)<|aB<|yE Y<|aB<|yE Y<|aB<|Gb j alO<|aB<|aB<|HV j aae<|W (aS hz)<|aB<|Gb j (kZ Dg)<|bq<|W (aS<|ao Y)<|aB<|alq b (ak yi d)<|aB<|yE (a:=J _) Y<|aB ?_) r o s ⟨Y,q.2⟩;unfold afz;exact zB<|bq ⟨_,Y,q.2 _⟩
def ama{E:VP}{T}(b:aH s.heap l=J (lN "tuple" c n))(f:(d6 c:au)<2^63){a:O}(d:c[a]?=J x)(r:gb s.heap e "reversed" #[w l,o5 (a:au)])
 (h:∀tk,T (.done (jM x)) {s with heap:=qR s.heap e<|zz (·.setIfInBounds 1 (o5<|(a:au)-1)),toks:=tk}):a7 (bL g j) k (Builtin.«reversed.__next__» ⟨[w e],[]⟩) T E s:=by
 have m:jn s (w l) "tuple":=⟨_,b,Y⟩;have o:=(yR.mp d).1;refine ah r λp g=>aB<|yE Y<|aB<|nD g.1 g.2.2 (x:=w l) Y<|aB<|nD g.1 g.2.2 Y ((W (aS<|ak hB<|cj a)<|aB<|Gb m (kZ Dg)<|W (aS lO) ?_):a7 _ _ (if(a:au)<0 then _ else _) _ _ s);exact aB<|L0<|aB<|Pe<|af9 b (n3 (ao Y)<|cj a) (xI (ak hn o) f) (Yv<|TT o) d<|aB<|nD g.1 g.2.2 Y<|aB<|uv g.1 g.2.2 (bl Y)<|bq<|h _
def aap{E:VP}{T}(c:ue d=A)(r:gb s.heap b "reversed" #[w l,o5<| -1])
 (e:∀a x,Fp b s.heap a->jn {s with heap:=a} (w x) "StopIteration"->E (w x) {s with heap:=a}):a7 (bL f g) d (Builtin.«reversed.__next__» ⟨[w b],[]⟩) T E s:=by
 refine ah r λo g=>aB<|yE Y<|aB<|nD g.1 g.2.2 (x:=w l) Y<|aB<|nD g.1 g.2.2 Y ((W (aJ<|ao Y)<|aB<|BR<|aB<|aB<|uv g.1 g.2.2 (bl Y)<|uv (m9 _ g.1 (xK<|pz g.2.2 _)) (pz g.2.2 _) (bl Y) ?_):a7 _ _ (if(-1:au)<0 then _ else _) _ _ s);exact aB<|j! c λa x k h=>e a x (λb o n q=>k b o<|af ((nJ ..).2 b n)<|af ((nJ ..).2 b n) q) h
def N_{E:VP}(r:gb s.heap c "reversed" j)
 (h:∀{T} {d:VP},(∀x b,e (J x) b->T (.done (jM x)) b)->(∀a x,jn {s with heap:=a} (w x) "StopIteration"->e A {s with heap:=a}->d (w x) {s with heap:=a})->a7 (bL f g) Aq.in1 (Builtin.«reversed.__next__» ⟨[w c],[]⟩) T d s):a7 (bL f g) Aq (rU<|w c) e E s:=by
 refine aB<|Pe<|Lx r.qW SK<|rA SK r.qW ait (h (λx b q=>⟨_,Y,bq q⟩) λa x k q=>?_)<|by unfold Ng;refine W (XR (n:=['_','_','t','x','e','n','_','_']) (by kernel_rfl) Zm) ?_;kernel_rfl
 exact aB<|HV k Uv<|bq q
def Wy{E:VP}{a:VP}(x:gb s.heap b "reversed" c)(h:a (w b) s):a7 (bL d e) Aq (mN<|w b) a E s:=
PF x.qW Ĵ (rA Ĵ x.qW aeq (by exact bq ⟨_,Y,"reversed",_,x.qW,kZ SK,h⟩)<|by unfold Ng;refine W (XR (n:=['_','_','r','e','t','i','_','_']) (by kernel_rfl) Zm) ?_;kernel_rfl)
def ac3{a:O}(h:(qi c)[a]?=J v){G:Prop}(g:∀b,c[a]?=J b->v=aR [ag a,b]->G):G:=by
 unfold qi at h;rw [cf,Fw] at h;cases e:c[a]? with
 |none=>exact aI<|e▸h|some b=>rw [e] at h;obtain rfl:=aC h;exact g b e<|W (eF ..) Y
def QM{K}(h:ES a v=J b)(k:K b):dj a v K:=by
 cases v with
 |lst c=>cases h;exact k|ref d=>show ni (a d) _;exact W ze<|t2 h k|_=>cases h
def gb.nn{nm}(g:gb h b nm e)(a:Wd I H c d h):H b=A/\c b=A/\d b=none:=ah g λo g=>⟨a.nH.no a.sH.pC g.1 g.2.2,a.nF.no a.sF g.1 g.2.2,a.nP.no a.sP g.1 g.2.2⟩
def gb.lt{nm}(g:gb h a nm b):a≠d6 h.objs:=ah g λo g=>fI<|ij g.1
def ajm(e a l)(b:O)(h):=(∃c,IsEnum h e a (b:au) c)/\h.IsListIter a l b
def adw(Á:iw=A)(Ã:e≠a)(È:dk d v<|w l):rj C Aq (gq g h j) d [e,a] e (λf=>b7 qi<|ES f v) all (ajm e a l):=by
 have k:e∈[e,a]:=b8;have m:a∈[e,a]:=cy _ b8;refine MO (λn h o x p=>⟨x.1.imp λq g=>af (p e k) g,x.2.imp λs g=>br (af (p a m) g.1) g.2⟩) (λn h x t y=>?_) (λn z H E x h=>ah x.1 λq g=>U5 g h) (λn I L N z H E d v p l x f j h=>?_) λn L N z H E v p l x f Æ h=>?_
 .exact aP (mc y) (λd=>W d<|ah x.1 λq g=>⟨_,_,g,Y⟩) λd=>W (ms d)<|ah x.2 λs g=>⟨s,_,g.1,g.2.2⟩
 .refine ah (fA f) λH L=>?_;cases hV v (È.ek p) (QM (K:=(·=H)) L.1 Y) with|mk N t À y c g d Â b=>
  cases c;subst b;rw [<-L.2] at j;refine ac3 j λj j Ä=>?_;rw [Ä] at h;refine ah (yC d j) λÏ Å=>ah x.1 λq I=>?_;have Ç:=Bs _ I;have r:gb z.s.heap a "list_iterator" _:=x.2;refine wpAny_pyNext_enum_item I x.2 (iX g) Å.1 Ã λo É Ê Ë Ì Í=>?_;have Î:=(v V).qX<|mO z.s.heap;have j:Le z.I (z.I.dF z.s.heap.objs.size<|lN "tuple" #[ey n z.s.toks,Ï] 0):=xF Î.1 _;have nn:∀t∈[e,a],(z.I.dF z.s.heap.objs.size<|lN "tuple" #[ey n z.s.toks,Ï] 0) t=none:=λt n=>af (lL<|aP (mc n) (λd=>d▸Ç.lt) λd=>(ms d)▸r.lt)<|l t n;refine⟨_,Y,wpAny_letOwnedTupleGo_enum É λh2 Ð n=>?_⟩;exact h _ ⟨_,z.H,z.σ,{z.s with heap:=h2,toks:=gu z.s+1}⟩ (i3 j Y) Y (gF ((Bs _ É).kp (((v V).kp (n:=λt=>t=e\/t=a) (λt s Ñ d=>Í t s (λz=>Ñ<|aL z) (λz=>Ñ<|aw z) d) λt d=>aP d (λd=>d▸⟨l e k,Ç.nn<|v V⟩) λd=>d▸⟨l a m,r.nn<|v V⟩).toI Ë Î.2) (nn e k)<|wz n)<|(v J1).map<|oe j) nn ⟨_,_,0,Y,iJ ..,⟨_,_,Y,m3 _ _,_,_,Y,Å.2.ek j,Y⟩,(by decide:2<=cu)⟩ ⟨⟨_,Ð⟩,Ê.imp λs g=>br (af (n.2 _ (me Ã)) g.1) g.2⟩
 .refine ah (fA f) λH L=>?_;cases hV v (È.ek p) (QM (K:=(·=H)) L.1 Y) with|mk N t À y c g d Â b=>
  cases c;subst b;have e:U (qi N)=U N:=by unfold qi;simp only [bB,Rp]
  rw [<-L.2,e] at Æ;have r:gb z.s.heap a "list_iterator" _:=x.2;exact ah x.1 λq I=>wpAny_pyNext_enum_end Á I x.2 (iX g) (W Æ<|W d.eQ<|Dv<|bb _) λo k=>h o z.s.toks<|r.kp (v V) (l a m)<|Ks k
def yN(a:Wd I H c d h):∀b∈[d6 h.objs],I b=none:=λb m=>W (ms m)<|a.sI.pC.no<|mO h
def uF(C)(a)(b)(e f:PM)(z:Z)(c:og->aa ai->Prop)(d:VP):=∀g all h t j k l,jo z.s.heap h->c g all->g z.σ=J all->rj C a b z.I j k g all l->(∀b∈j,z.I b=A)->l 0 h->d (w k) {z.s with heap:=h,toks:=t}
def Rm.r{K}(p:Rm C Aq c a b z K d)(k:Nx z y)(e:bY a b y):uF C Aq c a b y (K y.σ) d:=λf all g t h j l g m n o q s=>p f all _ h j l (k.bI .h) (e.lH g) m n o q s
def L7{nm}:gb (dh h {cls:=cJ nm,data:=eZ a}) h.objs.size nm a:=Bs _ (i1 _ Y)
def ahH{E:VP}{K}(c:iw=A)(a:bY h j z)(r:dk z.I v d)(b:eR z.σ v=J k)(e:K (λl=>eR l v) k)(f:uF C Aq m h j z K g):dx (mN d) g E z.s:=by
 have n:_->dx (mN d) g E z.s:=λo=>by
  cases hV a r (EF o b) with|mk p q s m t g x y H=>
  subst t;exact Yb (iX g)<|f _ _ _ z.s.toks _ _ _ (ji _ _) e b (aci c r o) (yN<|a V) L7
 cases v with
 |tup p=>
  cases b;cases(id r:iY _ _ _ _ _) with|mk q s m t g x y=>
  subst t;exact wpAny_pyIter_tuple (pO<|(a V).sI _ _ g)<|f _ _ _ z.s.toks _ _ _ (ji _ _) e Y (ahI c r) (yN<|a V) L7
 |_=>exact n λp t=>by cases t
def alY{E:VP}{K}{b}(e:iw=A)(c:bY f g z)(r:dk z.I v b)(h:tR z.σ v λa=>K (qU z.σ v)<|R (·.1) a)(j:uF C Aq k f g z K d):dx (mN b) d E z.s:=by
 have go:∀{l} {N} {a},cO l z.s.heap->kf l (et C.S z.I a) a N b->pR z.σ v=J a->K (qU z.σ v) (R (·.1) a)->(∀m n o,b=w m->l m=J _->N o->QW z.I z.σ v m o)->dx (mN b) d E z.s:=λp q s t x=>by
  induction q with|mk m n o y H g q I l L f=>
  have k:=x m n o H g f;subst H;have d:=af (bB (f:=λx=>x.1))<|af q.Jp uV;exact ahe (Im L) (p _ _ g)<|j _ _ _ z.s.toks _ _ _ (ji _ _) t (by unfold qU;refine W (aJ Y)<|W s ?_;rfl) (abE e r k) (yN<|c V) (W d L7)
 cases v with
 |oT a=>exact go (c V).sI r Y h λm n o H g Z=>⟨λN Z=>cM n g,λq=>absurd rfl<|q a⟩|ref a=>obtain rfl:=(r:b=w a);have h:yv _ _:=h;rw [JT] at h;exact ah (ew (h:bE _ _)) λp y=>(go (c V).sH ((c J1) a _ (RD y.1)) (show b7 (·.1) (l2 _)=_ by exact aq _ y.1) y.2 λm n o H g f=>⟨λN z=>(nomatch z),λZ=>by show dN (b7 (·.2)<|l2 _) 0=o;exact W y.1 f.symm⟩)|_=>exact b4 h
def b?{E:VP}{K}(b:iw=A)(c:bY d e z)(g:IsRange z.s.heap l a j 1 t o p)(f:tL a)(h:tL j)(k:K (λZ=>J<|m4 a j)<|m4 a j)(m:uF C Aq q d e z K n):dx (mN<|w l) n E z.s:=
wpAny_pyIter_range g ((by
 unfold tL at f h;exact small_one (by lia) (by lia) (by lia)<|by lia)) (m _ _ _ z.s.toks _ _ _ (ji _ _) k Y (aky b) (yN<|c V) (by
 refine(?_:aH _ _=_);have r (a:au) (b:au):Η a b 1=(cK (b-a):au):=by
  refine W (rangeSize_one ..) ?_
  by_cases h:a<b
  .exact W (aJ h) (x6<|Qz<|om h).symm
  .exact W (aS h)<|W (WQ<|Int.sub_nonpos_of_le<|hB.mp h) Y
 exact W (i1 _ Y)<|W (r ..)<|W Qj<|W (Int.add_zero ..)<|W (AU ..) Y))
def uF.grow(p:uF C Aq a b c z d e)(g:jo z.s.heap f):uF C Aq a b c (zh z f t) d e:=λh all h2 t j k l m n o q r s=>p h all h2 t j k l (λb v e=>m b v<|g b v e) n o q r s
def afr(c:iw=A)(g:nE a f<|cJ "range")(b:gc x=Q)(d:cd e h a<|bC x a):vu e j j3 h (kr bk) a (dZ (cC f p) [x] [] k):=by
 refineλl m z n o q r E s t v y H I=>aB<|g (s.i0 t) ?_
 have L:=ak dB ⟨b,Y⟩;exact II (qS L)<|rP L<|W (Ge b)<|spliced_cons<|d l m z n _ q _ E s t v y (λv y N a x r1 f=>spliced_nil<|ht (tj r1 f) λe t e k=>W e<|call_range_1<|b? (z:=zh N _ _) c (x.lH<|ji _ _) (Zv ..) ⟨ao Y,ao Y⟩ k.1 k.2<|(H.r a x).grow<|ji _ _) I
def agj(e:iw=A)(g:nE a f<|cJ "range")(b:gc x=Q)(c:gc y=Q)(h:cd d j a<|bC x a)(k:cd d l a<|bC y a):vu d m jS j l a (dZ (cC f p) [x,y] [] n):=by
 refineλo q z l r s t E v H I L N a=>aB<|g (v.i0 H) ?_
 have x:=ak dB ⟨b,ak dB ⟨c,Y⟩⟩;refine II (qS x)<|rP x<|W (zZ b c)<|spliced_cons<|h o q z l _ s _ E v H I L (λv y d f j r1 m=>spliced_cons<|k o q d l _ s _ E j (H.on<|f V) (I.c7<|f V) m (λp n r t g r2 b=>spliced_nil ?_) (a.on f)) a;cases oz (r1.ek<|t V) r2 b with|mk c j h L x v k=>
 simp only [x,v];exact call_range_2<|b? (z:=zh r _ _) e (g.lH<|ji _ _) (Zv ..) k.1.1 k.1.2 k.2<|(N.r (f.bI t) g).grow<|ji _ _
def aji{E:VP}{K}(g:iw=A)(a:bY c d z)(r:dk z.I v h)(e:eR z.σ v=J b)(j:K (λn=>b7 f7<|eR n v)<|f7 b)(k:uF C Aq l c d z K m):dx (call (cJ "reversed") [h]) (λv f=>dx (mN v) m E f) E z.s:=by
 have o:_->dx (call (cJ "reversed") [h]) (λv f=>dx (mN v) m E f) E z.s:=λp=>by
  cases hV a r (EF p e) with|mk q s t m x y H I L=>
  subst x;subst L;refine call_reversed_list (iX y)<|XW ⟨_,i1 _ Y,Y,by refine W H.eQ ?_;rfl⟩ ?_;exact k _ _ _ z.s.toks _ _ _ (ji _ _) j (aq _ e) (ack g r p) (yN<|a V) ⟨_,i1 _ Y,Y,by refine W uN<|W H.eQ ?_;unfold qr;refine W Qj<|W (AU ..) ?_;rfl⟩
 cases v with
 |tup q=>
  cases e;cases(id r:iY _ _ _ _ _) with|mk s t m x y H I=>
  subst x;have N:∀{h},gb (dh h<|f? s t.size) h.objs.size "reversed" (qr s (U b) 0):=⟨_,i1 _ Y,Y,by refine W H.eQ ?_;unfold qr;exact W Qj<|W (AU ..) Y⟩;exact agf ((a V).sI _ _ y) (H.AL I) λtk=>Wy N<|k _ _ _ tk _ _ _ (ji _ _) j Y ((DQ Y (λt n f E v h=>Wy v h)
  (λt e c d z f E a k v p L j=>by
   cases(r.ek k:iY _ _ _ _ _) with|mk n h m x y H I=>
   cases x;have e:=Yf H L;refine ah e.2 λr n=>?_;have m:=v;rw [show qr s (U b) t=#[w s,o5 _] by unfold qr;exact W (Jz e.1) Y] at m;refine N_ v λh1 Z=>ama ((a V).sI _ _ y) (H.AL I) (af rY.symm n.1) m λtk=>h1 _ _ (j r _ tk n.2 ?_ (nJ ..));refine ah v λh L=>⟨_,m9 _ L.1 (xK<|pz L.2.2 _),af (Lf ..) L.2.1,af (pz L.2.2 _) ?_⟩;refine ax (Jz e.1)<|W (S2 ..) ?_;rfl)
  λc d z f E a k v p j=>by have m:=v;rw [uN,show qr s (U b) (U b)=#[w s,o5<| -1] by unfold qr;exact W (A? ..) Y] at m;exact N_ v λZ t=>aap g m λy v H l=>t y v l<|j y H)) (yN<|a V) N
 |_=>exact o λq x=>by cases x
def Z7{T}(h:nE c j<|cJ T)(f:gc x=Q)(k:cd l m c<|bC x c)(go:∀{a b z v g} {d} {e E},bY a b z->dk z.I v g->Il n v bk z.σ d->uF C Aq o a b z d e->dx (call (cJ T) [g]) (λv p=>dx (mN v) e E p) E z.s):
 vu l o n m (kr bk) c (dZ (cC j q) [x] [] r):=by
 refineλa b z l d s e E t y H I L N=>aB<|h (t.i0 y) ?_
 have c:=ak dB ⟨f,Y⟩;exact II (qS c)<|rP c<|W (Ge f)<|spliced_cons<|k a b z l _ s _ E t y H I (λv y x g j r1 m=>spliced_nil<|go j r1 m<|L.r g j) N
def adY(c:iw=A)(g:nE a f<|cJ "enumerate")(d:gc x=Q)(e:cd h b a<|bC x a):vu h (gq j k l) pD b (kr bk) a (dZ (cC f p) [x] [] m):=
Z7 g d e λ{n o z v q K r E} s r h t=>by
 have y:∃H,ES z.σ v=J H/\K (λI=>b7 qi<|ES I v) (qi H):=by
  cases v with
  |lst H=>exact⟨H,Y,h⟩|ref b=>have h:ni _ _:=h;rw [ze] at h;exact ew (h:bE _ _)|_=>exact b4 h
 refine ah y λH y=>?_;cases hV s r (QM y.1 Y) with|mk L b N m e g q a x=>
 subst e;refine call_enumerate_list (iX g) λf d j k l=>U5 d<|t _ _ f z.s.toks [d6 z.s.heap.objs+1,d6 z.s.heap.objs] _ _ l y.2 (aq _ y.1) (adw c (zO _) r) (λb p=>aP (mc p) (λq=>W q ?_) λq=>yN (s V) b q) ⟨⟨_,d⟩,j⟩;cases q:z.I _ with
 |none=>rfl|some o=>exact ay (ij<|(s V).sI _ _ q)<|ak fS<|fh _
def iL(a:PM)(L)(b:PM):=∀c,c≠L->b c=a c
def Hd:iL a L a:=λZ Z=>rfl
def iL.put(x:iL a L b):iL a L (b.dF L o):=λb n=>af (lL n)<|x b n
def iL.Lj(x:iL a L b)(y:iL b L c):iL a L c:=λb n=>af (y b n)<|x b n
def iL.of(x:iL a L c)(n:a L=A)(e:a b=J o):c b=J o:=af (x b<|R_ e n) e
def iL.sub(x:iL b L c)(n:b L=A)(a:Wd I H c d h):Wd I H b d h:=
 have e:∀{f o},b f=J o->c f=J o:=λg=>x.of n g
 {a with sF:=λf o g=>a.sF f o<|e g,IF:=Dj.hr λj o g=>a.IF.hr j o<|e g,HF:=Dj.hr λj o g=>a.HF.hr j o<|e g,FP:=λj o g=>a.FP j o<|e g,nF:=λf o g=>a.nF f o<|e g}
def iL.drop(x:iL b L c)(n:b L=A)(g:c L=J o)(a:Wd I H c d h)(e:t8 L h f):Wd I H b d f:=
(x.sub n a).kp (wz e) λj e=>e▸⟨a.IF.no g,a.HF.no g,n,a.FP _ _ g⟩
def Ļ{E:VP}{Ru}(g:eU)(h:hs a)(f:c2 a (bu n)=dW)(d:bY e j z)(k:gr z.I e a l)(r:dk z.I v y)(m:∀b c t,bY (e.dF (jy a) b) j (zh z c t)->gr z.I (e.dF (jy a) b) a (ez l n v)->Ru () {z.s with heap:=c,toks:=t}):
dx (NJ a (bu n) y) Ru E z.s:=
ah k λo q=>p_ f ((q V).ns (d V).sF) (λc p s=>ah p λb p=>ah p λx p=>ah p λH I=>by
 cases(q V) with|mk L N ep a z e n=>
 exact m b c _ (gF ((d V).H9 a s I.1<|by unfold nf;exact W I.2.1 Y)<|d J1) (Ľ g q f I.2.1 I.2.2.1 I.2.2.2 r)) (by refine W (h V) ?_;rfl)
def b!(C)(a)(b c)(z)(d:LT)(e:ki->cS->Prop):=∀l G y,Nx z y->Ok C G c y->g7 C y.I G a l->iL b (jy a) G->d l y.σ->e () y.s
def ż(C)(b)(c)(t)(a)(x):=
∀d e (z:Z) l (v:ai) y (f:LT) g (h:ki->cS->Prop) (E:VP),Ok C d e z->g7 C z.I d a l->bD C.S z.I v y->mJ b g t l v z.σ f->b! C a d e z f h->a7 (bL C.dM C.w) c (assign x a y) h E z.s
section
variable{e:jE}{c:PM}{h:PM}{G:PM}{b:Z}{E:VP}{m:Zq.E}{j:cZ}{g:cZ}{f:LT}{n:aT->Prop}{d:aW}{o:ie}{k:rt}{Ru:ki->cS->Prop}{p:ai}{l:bj->ba a0}
def abw(t:eU)(v:hs e):∀{q} {a} {r} {d} {c} {b} {f:LT},(∀s∈q,c2 e (bu s.1)=dW)->bY c h b->gr b.I c e d->kK b.I a r->yj Dq n (q7 q) d a b.σ f->b! C e c h b f Ru->dx (O2 (R (·.2)<|EU (ja C q) e) r) Ru E b.s:=by
 intro q
 induction q with
 |nil=>intro a r d c b f _ x y z H I;induction a with
  |nil=>exact bq<|I d c b (rz b) x y Hd H|cons _ _=>exact b4 H
 |cons s q L=>
  intro a r d c b f N x y z H I
  induction a with
  |nil=>exact b4 H|cons p a=>
   induction z with|mk g q r r1 r2=>
   exact W r<|aB<|hU<|Bi<|Ļ t v (N s b8) x y r1 λa o m z q=>L (λs l=>N s<|cy _ l) z q r2 H λt G g k v x j y=>I t G g (Nx.bI .h k) v x (Hd.put.Lj j) y
end
abbrev zk:=ż C Dq Aq
def afY(c:eU)(d:hs a)(e:iw=A)(f:∀q∈b,c2 a (bu q.1)=dW):zk (oO<|q7 b) a (gq (ja C b) g h):=by
 refineλj k z l v y m n o E p r s t x=>ah (ew t) λH I=>?_
 rw [Jv I.1] at s
 induction s with|mk L N n g h q j=>
 refine W g ?_;have k:=Tf (b:=a) (a:=b);exact Uw e (pO<|(p V).sI _ _ h) (af k.1<|af (Rh I.2).symm q.eQ) k.2 λz l=>abw c d f (p.lH λb o I=>l b o (fI<|ij I) I) r q I.2 λv G y k=>x v G y<|Nx.bI .h k
section
def oA:VP:=λZ Z=>bX
theorem Χ(d:O->cS->Prop)
 (q:∀n s,d n s->a7 (bL a b) Aq (rU h) (λr c=>match r with
  |none=>t (.ok qI) c|some v=>a7 (bL a b) Aq (xn j h v) (λZ c=>a7 (bL a b) Aq (assign j f v) (λZ k=>
   a7 (bL a b) Aq (forIn y Q λl r=>if r=Q then do let e<-DH l f (bC l f);pure (ub e) else pure<|ub r) (λe g=>
    if e=Q then a7 (bL a b) Aq (bC z f) (λx o=>a7 (bL a b) Aq (call (eh "list.append") [H,x]) (λZ p=>∃m,m<n/\d m p) oA o) oA g
    else∃m,m<n/\d m g) oA k) oA c) oA c) oA s)
 (n)(I:d n s):tT (bL a b) Aq (.compLoop (ux z [⟨j,iter,y,0⟩] L N) 0 h H f) t s:=by
 refine codeAny_loop Y d (λn s a=>?_) n I;show a7 _ Aq _ _ _ s;refine wpAny_noted<|W (compTurn_list ..)<|aB<|r6<|aB<|kY (q n s a) (λr c b=>?_) λZ Z d=>b4 d
 induction r with
 |none=>exact bq b|some v=>
  refine aB<|kY b (λZ c b=>aB<|kY b (λZ k m=>aB<|kY m (λe g f=>?_) λZ Z d=>b4 d) λZ Z d=>b4 d) λZ Z d=>b4 d
  induction e with
  |false=>exact bq ⟨Y,f⟩|true=>exact aB<|aB<|kY f (λx o h=>aB<|kY h (λZ p j=>bq<|bq ⟨Y,j⟩) λZ Z d=>b4 d) λZ Z d=>b4 d
def ű{E:VP}{b:VP}(g:aH s.heap a=J (lR c n))(e:d6 c<=t9)
 (d:b bQ {s with heap:=qR s.heap a<|HX (·.push x)}):a7 (bL f h) Aq (call (eh "list.append") [w a,x]) b E s:=rA slot_list_append ⟨_,g,Y⟩ entry_list_append ((aB<|wpAny_updateSeq g Y<|bq ⟨bQ,Y,d⟩):a7 _ _ (updateSeq a _>>=λZ=>ret bQ) _ _ s)<|args_list_append _ _
end
def z2(C:Cx)(b)(a)(c)(X):=uk (lX a=jz) (∀x∈dm a,x.2≠hj) (∀x∈dm a,x.2=v8->b1 x.1 (dm a)=dW) (SD a b=pure c) (∀n d,b1 n c=J d->b1 n (gi b)=J d) (∀e n,uj (gR a c e b) n->uj b n/\∀d,b1 n (gi b)=J d->b1 n c=J d)<|∀e x,c2 (gR a c e b) (C.S.nm x)=dW->∀l,cW (sy X l) x=A
def Vd:∀{X} {l} {x} {v},cW (sy X l) x=J v->cW l x=J v:=by
 intro X;refine @(X.rec (λh=>h) λp r a=>?_);intro l x v h;have h:cW (aD _ _ _) x=J v:=h;cases e:aE p.2 0 with
 |true=>rw [e] at h;exact NA p.1 l<|a h|false=>rw [e] at h;exact a h
def aiq(a:z2 C d g h j)(k:gr I e d l)(c:e b=A)(x:iL e b f)(m:nR f b n):gr I f (gR g h b d) (sy j l):=
ah k λo q=>⟨n,eY m (λp v e r=>by rw [(a J6) b p r l] at e;exact aI e) (λp v e r=>by have k:=(a J5) b _ r;cases(q J2) p v (Vd e) k.1 with|mk s y t z H L N=>exact⟨s,y,t,k.2 s z,x.of c H,L,N⟩) (λd s e f=>((q J3) d s ((a J4) d s e) f).imp λt h=>h.imp λv h=>br (x.of c h.1) h.2) (λd g s e j=>(q J4) d g s ((a J4) d s e)<|(a J4) g s j)<|(q J5).imp λI h=>h.imp λo h=>br h.1<|x.of c h.2⟩
def alX(C)(d)(b)(c)(a)(e:aa cZ):=
∀G f (z:Z) l (g:bc->aT->Prop) h,Ok C G f z->Up C b z.I f->g7 C z.I G a l->H0 (cN d (λY=>bX) c) l z.σ g->(∀t y,Nx z y->Ok C G f y->g t y.σ->h t y.s)->
 a7 (bL C.dM C.w) b (forIn e Q λc r=>if r=Q then do let j<-DH c a (bC c a);pure (ub j) else pure<|ub r) h oA z.s
abbrev B1:=alX C Dq Aq
def agW(h:z1 b c a x):B1 c a [x]:=λG d z l e f g j k m n=>wpAny_tests_one (h G d z l _ _ f _ g j k m (λv o h=>vQ h) (λt v y k p m q=>n t y k p<|m _ q) Sl)
inductive Ho(C:Cx)(c d:PM)(b:cx)(y:Z)(e:aa cx)(f:O->ie->Prop)(h:og)(all:aa ai)(g:aa ai->aa ai->aT->Prop)(n:O)(s:cS):Prop
|mk (a:O) (j:aa ai) (G:PM) (m:bj->ba a0) (z:Z) (l:s=z.s) (o:Nx y z) (p:Ok C G d z) (x:iL c b G) (q:nR G b m) (r:∀k∈e,z.I k=A) (t:f a z.s.heap) (v:h z.σ=J all) (H:a<=U all) (I:n=U all-a) (g:g (cq a all) j z.σ)
def Ķ(q:∀h j,f (b+1) h->(∀d∈e,aH j d=aH h d)->f (b+1) j)(r:∀d∈e,c.I d=A)(s:CV c.s.heap e)(t:f (b+1) c.s.heap)(k:Nx y c)(l:Nx (zI c<|c.I.oQ e c.s.heap) a)(n:bY g v a)(x:iL z o g)(H:nR g o m)(I:L a.σ=J all)(p:b<U all)(h:N (cq (b+1) all) À a.σ):
 ∃m,m<U all-b/\Ho C z v o y e f L all N m a.s:=
 have c:=PK r s (l V) (n V)
 ⟨U all-_,Tt _ _ p,b+1,À,g,m,zI a<|a.I.l8 e,Y,i3 ((k V).xH<|c V)<|af (l J1)<|aq (λs=>{s with heap:=a.s.heap,toks:=gu a.s})<|k J1,c.ok n,x,H,λd m=>Qy m,q _ _ t (c J2),I,p,Y,h⟩
def acL{G}{b:cx}{e:cS->Prop}{E:VP}(d:bY G g a)(r:dk a.I v x)(h:(a.σ b=J (az f)/\U f<cu))(j:∀c,Nx a c->bY G g c->c.σ=a.σ.dn b (az<|f++[v])->e c.s):
 dx (call (eh "list.append") [w b,x]) (λZ s=>e s) E a.s:=by
 cases Q! d h.1 with|mk k l nn e m q n=>
 cases e;exact ű ((d V).sH _ _ m) (q.q4 n)<|PE.upd (j:=λZ o=>o=a.σ.dn b _) (d:=bk) (λZ Z y k p Z e=>j y k p e) d h.1 m (W Gy<|bR.yB (.single r) q) (W a4 h.2) Y Y
theorem aeP{l:cx}{X}{St}{x H}{I}{L:C8->cS->Prop}(Ä:z2 C d f g X)(n:rj C Aq x y.I j N o all St)(Å:zk t (gR f g a d) x)(Æ:B1 s (gR f g a d) I)(Ç:cd Ó È (gR f g a d)<|bC H<|gR f g a d)
 (É:mI Aq y.I e)(Ê:gr y.I p d Ë)(Ì:p a=A)
 (Í:∀{v r c b},k (v::r) c b->mJ Dq (λZ=>bX) t (sy X Ë) v b λÀ b=>H0 (cN Dq (λZ=>bX) s) À b λt b=>dH t (cN Dq (λZ=>bX) È À b λv b=>((b l=J (az c)/\U c<cu)/\o (b.dn l<|az<|c++[v])=J all)/\k r (c++[v]) (b.dn l<|az<|c++[v]))<|(b l=J (az c)/\o b=J all)/\k r c b)
 (Î:∀G m c z,Nx y z->bY G e z->iL p a G->nR G a m->k [] c z.σ->L (.ok qI) z.s){Á}(Ï:Ho C p e a y j St o all k Â Á):
 dx (rU<|w N) (λr q=>match r with
  |none=>L (.ok qI) q|some v=>dx (xn x (w N) v) (λZ q=>dx (assign x (gR f g a d) v) (λZ Ð=>
   dx (forIn I Q λs r=>if r=Q then do let h<-DH s (gR f g a d) (bC s<|gR f g a d);pure (ub h) else pure<|ub r) (λh Ã=>
    if h=Q then dx (bC H<|gR f g a d) (λx Ñ=>dx (call (eh "list.append") [w l,x]) (λZ Ò=>∃m,m<Â/\Ho C p e a y j St o all k m Ò) oA Ñ) oA Ã
    else∃m,m<Â/\Ho C p e a y j St o all k m Ã) oA Ð) oA q) oA q) oA Á:=by
 induction Ï with|mk a c G m z b k h x d f g y l o p=>
 refine W b<|W o ?_;cases s:all[a]? with
 |none=>have H:=hJ l<|tF.mp s;refine(n J4) a G e z _ _ h (k V) f g y H λI L N=>?_;rw [H,US] at p;exact Î G m c _ (k.bI .h) (h.sd N) x d p|some v=>
  have b:=kq.mp s;refine kY ((n J3) a v G e z _ _ _ h (k V) f g y s λo l I L c m H N=>?_) (λr q h=>ah h λo h=>h.1▸h.2) λZ Z h=>h;rw [K2 b.1,b.2] at p;have a:=(n J1) _ _ N;have f:Le l.I (l.I.oQ j l.s.heap):=KC m;have g:Nx z (zI l<|l.I.oQ j l.s.heap):=i3 ((I V).xH f)<|I J1;refine Å G e (zI l<|l.I.oQ j l.s.heap) _ v o _ _ _ _ (gF ((c V).with a)<|(c J1).map<|oe f) (aiq Ä (Ê.c7<|(k.bI g) V) Ì x d) (H.ek f) (L▸Í p:mJ _ _ t _ v l.σ _) λy s r q h v z j=>ah v λt d=>?_;have p:=É.on<|(k.bI g).bI q V;refine Æ s e r y _ _ h p v j λo l L c H=>?_
  induction o with
  |false=>exact W (aS hz)<|Ķ ((n V) _) m a N (k.bI I) (q.bI L) c (x.Lj z) (d V) H.1.2 b.1 H.2|true=>exact W (aJ Y)<|Ç s e l y _ _ _ _ c (p.on<|L V) (v.c7<|L V) H (λf t g r h j e=>acL h j e.1.1 λy s v p=>Ķ ((n V) _) m a N (k.bI I) (((q.bI L).bI r).bI s) v (x.Lj z) (d V) (p▸e.1.2) b.1<|p▸e.2) Sl
def V!{X}{E}{n:a0->cx->C8->cS->Prop}(h:z2 C a scope e X)(N:vu À x k o f a j)(Á:∀b,zk Â (gR scope e b a) x)(Ã:∀b,B1 Ä (gR scope e b a) p)(Å:∀b,cd Ð Æ (gR scope e b a)<|bC q<|gR scope e b a)
 (l:bY c d z)(r:mI Aq z.I d)(s:gr z.I c a t)(Ç:cN Dq H (nj Æ Â k o f Ä X) t z.σ I)(È:PX C c d z À H E)
 (É:∀v g b G m y,Nx z y->bY G d y->c b=A->iL c b G->nR G b m->dk y.I v g->I v y.σ->n g b (.ok qI) y.s):
 dx (bC j a) (λv Ê=>dx (mN v) (λË Ì=>dx (newList []) (λg Í=>dx (newFunctionEnv scope a.globals e [] a.qual A bQ<|J a) (λL Î=>tT (v9) Aq (.compStart (ux q [⟨x,j,p,0⟩] scope Ï) 0 Ë g {L with scope:=relabel scope a}) (n g<|jy L) Î) E Í) E Ì) E Ê) E z.s:=by
 refine N c d z t _ H _ E l r s Ç (λÓ all b z o e g v n t H L N=>?_) È;unfold Ye at n;rw [ZT] at n;have o:=n b.s.heap.objs.size<|(v J1).no ((v V).qX<|mO b.s.heap).2.1;have z:bY c d ⟨b.I,b.H.dF b.s.heap.objs.size _,b.σ.dn b.s.heap.objs.size<|az [],{b.s with heap:=dh b.s.heap _,toks:=gu b.s}⟩:=
  v.new (ji _ _) (mO _) (i1 _ Y) Y ⟨_,#[],0,Y,iJ ..,Y,cQ _⟩
 refine zB<|WZ (h J1) (λy e=>bG e) (λh3 t n=>?_)<|h V;generalize Õ:dh b.s.heap _=h2 at z t n;have v:=(z V).qX<|mO h2;refine ah t λe t=>ah t λÑ t=>ah t λÒ t=>?_;have a:jo h2 h3:=λf Ô c=>af (n.2 f<|fI<|ij c)<|iT _ c;have n:bY _ d ⟨b.I,b.H.dF b.s.heap.objs.size _,b.σ.dn b.s.heap.objs.size _,{b.s with heap:=h3,toks:=gu b.s}⟩:=
  gF (((z V).tX a).toF t.1 ⟨v.1,v.2.1,v.2.2.2⟩<|by unfold nf;exact W t.2.1 Y)<|z J1
 have c:=(H V) 0 _ h3 N λf m=>ah ((H J1) _ _ N f m) λÔ d=>ah d λz d=>af (a _ _ ((Õ▸ji _ _) _ _ d.1)) d.1.symm;have f:tT _ Aq (.compLoop (ux q [⟨x,j,p,0⟩] scope Ï) 0 _ _ _) _ {b.s with heap:=h3}:=
  Χ _ (λN a t=>aeP (k:=λz j p=>E4 _ _ _ Ó all _ b.s.heap.objs.size z j p λp=>I _ p) h H (Á _) (Ã _) (Å _) (r.on<|g V) (s.c7<|g V) v.2.2.1 (λh=>h)
   (λG m j y k l x q h=>É (aj b.s.heap.objs.size) _ _ G m y (g.bI k) l v.2.2.1 x q Y h) t) (U all) ⟨0,[],_,_,⟨b.I,_,_,{b.s with heap:=h3,toks:=gu b.s}⟩,Y,i3 (uc _) Y,n,Hd.put,⟨e,Ñ,Ò,iJ ..,t.2.1,t.2.2.1,t.2.2.2⟩,L,c,o.1,cQ _,Y,o.2⟩
 exact codeAny_compStart_list f<|(H J2) 0 _ _ _ c f
def Wd.ahG(x:iL c b d)(n:c b=A)(g:d b=J o)(a:Wd I H d e h):Wd I H c (e.dF b o) h:=
 ah (a.sF _ _ g) λf z=>
 have j:=x.sub n a
 {j with sP:=λb x q=>aP (zb q) (λe=>e.1▸e.2▸cM f z) λe=>j.sP _ _ e.2,IP:=j.IP.uz<|a.IF.no g,HP:=j.HP.uz<|a.HF.no g,FP:=j.FP.uz n,nP:=j.nP.put<|a.nF _ _ g}
def afL(m:eU)(o:hs a)(p:yl a (C.S.nm n)=Q)(f:z2 C a e g q)(r:vu s x k c d a h)(t:∀b,zk y (gR e g b a) x)(z:∀b,B1 H (gR e g b a) j)(I:∀b,cd Ä L (gR e g b a)<|bC l<|gR e g b a)
 (N:∀v,D1 h a v=pure v)(À:ng (ux l [⟨x,h,j,0⟩] e Á) (J<|cC (C.S.nm n) Â) Ã.line a=pure Q):i8 s (nK (d9 n)<|nj L y k c d H q) a (je [cC (C.S.nm n) Â] (ux l [⟨x,h,j,0⟩] e Á) Ã):=by
 refineλa e g l n x h j q E s y H L a g=>W (exec_Assign_Name_used _ _ _ _ À)<|aB<|r6<|aB<|aB<|kY (g! Y N (f J3) (f V) (f J2)<|V! f r t z I s y H L (g.at H) λv l b G n y k x h j q r f=>?_) (λZ Z v=>bq<|bq v) λZ Z v=>v
 induction q with|mk t z ep I N s nn=>
 have L:=(x V).FP _ _ I;refine Bi<|AX m o p (gF ((x V).ahG j h I)<|x J1) (H.c7<|k V) r f λg l y q v m o=>?_;exact ah ((v V).sP b t (iJ ..)) λp H=>⟨n,⟨_,z,ep,H,N,s,nn⟩,λx h=>(a V) g l _ ((k.bI q).bI .h) (gF ((have j:∀{d r},e d=J r->(e.dF b t) d=J r:=λf=>xF L t _ _ f
 have I:=iJ ..
 ({(v V) with sP:=λd t f=>(v V).sP d t<|j f,IP:=Dj.hr λc t f=>(v V).IP.hr c t<|j f,HP:=Dj.hr λc t f=>(v V).HP.hr c t<|j f,FP:=Dj.hr λc t f=>(v V).FP.hr c t<|j f,nP:=λd t f=>(v V).nP d t<|j f}).kp (wz h) λc f=>f▸⟨(v V).IP.no I,(v V).HP.no I,(v V).FP.no I,L⟩))<|v J1) m o⟩
variable{a:PM}
noncomputable def PM.or(a B:PM):PM:=λb=>(a b).or<|B b
open Classical in
noncomputable def PM.on(a:PM)(p:cx->Prop):PM:=λb=>if p b then a b else A
def Kj{G:Prop}(a:kP b=J o):G:=by cases a
def GD(e:a b=J o):a.or c b=J o:=by unfold PM.or;exact W e Y
def C7(e:a b=A):a.or c b=c b:=by unfold PM.or;exact W e Y
def Fa{G:Prop}(e:a.or c b=J o)(f:a b=J o->G)(g:c b=J o->G):G:=by
 cases q:a b with
 |none=>exact g<|af (C7 q).symm e|some x=>exact f<|af q<|af (GD q).symm e
def CY{b:cx}{p:O->Prop}(q:p b)(e:a b=J o):a.on p b=J o:=af (aJ q) e
def r8{p:O->Prop}(e:a.on p b=J o):a b=J o/\p b:=by
 unfold PM.on at e
 by_cases q:p b
 .rw [aJ q] at e;exact br e q
 .rw [aS q] at e;exact aI e
def B':Dj a kP:=λZ Z Z=>rfl
def Dj.or(x:Dj I a)(y:Dj I b):Dj I (a.or b):=λc o e=>af (C7<|x c o e)<|y c o e
def Wd.MY(b:Wd I H a c h):Wd I H kP c h:={b with sF:=λZ Z e=>Kj e,IF:=B',HF:=B',FP:=λZ Z e=>Kj e,nF:=λZ Z e=>Kj e}
def Wd.merge(b:Wd I H a c h):Wd I H kP (a.or c) h:={b.MY with sP:=λd o e=>Fa e (b.sF d o)<|b.sP d o,IP:=b.IF.or b.IP,HP:=b.HF.or b.HP,FP:=λZ Z e=>Kj e,nP:=λd o e=>Fa e (b.nF d o)<|b.nP d o}
def Wd.P'(d:Wd I H a c h)(b:Wd e f kP (a.or c) g):Wd e f a c g:=
 have l:∀{j o},a j=J o->a.or c j=J o:=GD;have r:∀{j o},c j=J o->a.or c j=J o:=λe=>af (C7<|d.FP.hr _ _ e) e;have k:∀{m},Dj m (a.or c)->Dj m a/\Dj m c:=λk=>⟨Dj.hr λj o e=>k.hr j o<|l e,Dj.hr λj o e=>k.hr j o<|r e⟩
 ⟨b.sI,b.sH,λj o e=>b.sP j o<|l e,λj o e=>b.sP j o<|r e,b.IH,(k b.IP).1,(k b.IP).2,(k b.HP).1,(k b.HP).2,d.FP,b.nH,d.nF,d.nP⟩
def rb.fl(a:rb C I e h):eP C b I e h:=a.imp λc a=>⟨a.1,a.2.1,aw<|a.2.2.imp λd t=>⟨_,t,aL Y⟩⟩
def YG{E:VP}{M}(d:bY a f z)(g:A9 C j z.I e z.s.heap)(c:∀b,Wd z.I z.H a f b->rb C z.I e b->h () {z.s with heap:=b}):a7 M k (setFlight e A) h E z.s:=by
 refine ah g λl x=>ah x λm x=>ah x λL x=>?_;rw [x.1] at c⊢;cases x.2.2.2 with|mk n o T p q g r s t v y H I N=>
 refine aB<|nD g s t<|W (aJ (rfl:_=Q)) ?_;have z:=(yR.mp N).1;exact uv H I z<|c _ (Lp (d V) v H I) ⟨l,Y,x.2.1,m,n,o,T,_,_,af (NR _ _ y) g,r,s,t,v,y,m9 _ H (xK<|pz I _),pz I _,by refine W (Og)<|W (aJ Y)<|W (aJ z) ?_;rfl⟩
def aib{E:VP}{M}(d:bY a e z)(k:mI f z.I e)(h:px f c o)(j:nR a (jy c) p)(l:eP C c z.I g z.s.heap)(m:∀b,Wd z.I z.H a e b->rb C z.I g b->n () {z.s with heap:=b}):a7 M f (leaving c g) n E z.s:=aB<|Pt d k h j l λb q r=>YG (d.sd q) r λh2 s t=>m h2 s t
def zL(p:O->Prop)(b:aT)(a:cx):=(p a/\d7 (b a)=Q)\/(p (a+1)/\∃c i,b (a+1)=J (cw c i))
def Wd.frz{p:O->Prop}(c:Wd I H a d h):Wd (I.or<|H.on p) (H.on λb=>¬p b) a d h:=
 have e:∀{f},Dj I f->Dj H f->Dj _ f:=λd g b o j=>Fa j (d b o) λj=>g b o (r8 j).1
 {c with sI:=λb o j=>Fa j (c.sI b o) λj=>c.sH b o (r8 j).1,sH:=λb o j=>c.sH b o (r8 j).1,IH:=λb o j=>Fa j (λj=>by unfold PM.on;exact W (c.IH b o j) (ite_self ..)) λj=>aS λq=>q (r8 j).2,IF:=e c.IF c.HF,IP:=e c.IP c.HP,HF:=λb o j=>c.HF b o (r8 j).1,HP:=λb o j=>c.HP b o (r8 j).1,nH:=λb o j=>c.nH b o (r8 j).1}
section
def Of{a:ai->ai->Prop}(h:gA a b c):U b=U c:=h.rec Y λZ Z a=>aq (·+1) a
def LF(f:∀v c a,d v c->bD b I v a->bD b e c a)(h:gA d g j):∀l,bR b I g l->bR b e j l:=h.rec (λl r=>r) λr Z k=>λl q=>tA.rQ q (λa q=>f _ _ a r q) k
def abM{S}{i}{b:ai->ai->Prop}(f:∀v c a,b v c->bD S I v a->bD S d c a)(k:∀v a,bD S I v a->bD S d v a)(h:gA (λe f=>e.1=f.1/\b e.2 f.2) g i):R (·.1) g=R (·.1) i/\∀l,et S I g l->et S d i l:=by
 induction h with
 |nil=>exact br rfl<|λl r=>r|@cons j b _ _ r _ m=>refine⟨af (aq (λk=>k::_) r.1)<|aq _ m.1,λl q=>?_⟩;have q:tA _ _ l:=q;rw [r.1] at q;exact tA.rQ q (λa q=>q.map (k _) λa q=>f _ _ a r.2 q) m.2
def ado(f:∀v d a,e v d->bD b I v a->bD b g d a):∀c i,D2 e c i->(uH h c=Q->uH h i=Q)/\∀l,hP b I c l->hP b g i l:=
pI (λi e=>W (e:i=ar)<|⟨id,λZ=>id⟩) λa v r j i e=>by refine ah e λk e=>ah e λs e=>W e.1 ?_;have m:=j s e.2.2;exact⟨λq=>have q:=iN q;ak dB ⟨q.1,m.1 q.2⟩,λl q=>tA.rQ q (λa q=>q.map (λZ=>id) λa q=>f _ _ a e.2.1 q) m.2⟩
end
def s9.keys(b:s9 c d)(a:R (·.1) c=R (·.1) e):s9 e d:=
 have go:∀{q:ai->Prop},(∀a∈c,q a.1)->∀a∈e,q a.1:=λh f m=>by have m:=a▸hM m;exact ah (mm m) λg k=>k.2▸h g k.1
 (bZ (a▸(b V)) (go (q:=λa=>kh a=d)<|b J1)<|go (q:=λa=>gz a=Q)<|b J2)
def aho(c:o8 I H d)(k:Le I e)(f:∀a o,zL p d a->H a=J o->e a=J o):∀n v b x,kW p d n v b->dk I v x->dk e b x:=by
 refineλn=>n.rec (λv b x g r=>ax (g:v=b)<|r.ek k) λn h=>λv b x g r=>aP g (λg=>g▸r.ek k) λg=>aP g (λg=>ah g λj g=>ah g λl g=>?_) λg=>aP g (λg=>ah g λj g=>ah g λl g=>?_) λg=>ah g λa g=>?_
 .rw [g.1] at r;refine W g.2.1 ?_
  induction r with|mk a m q s t y z=>exact⟨a,m,q,s,k _ _ t,LF h g.2.2 _ y,Of g.2.2▸z⟩
 .rw [g.1] at r;refine W g.2.1 ?_
  induction r with|mk a m q s t y z=>exact⟨a,m,q,s,k _ _ t,LF h g.2.2 _ y,Of g.2.2▸z⟩
 .rw [g.1] at r;refine W (r:x=w a) ?_;have L:∀{o N},d a=J o->H a=J N->e a=J N:=λI t=>f a _ (aL ⟨g.2.1,aq _ I⟩) t;refine aP g.2.2 (λg=>ah g λj g=>ah g λl g=>?_) λp=>aP p (λg=>ah g λn g=>ah g λq g=>ah g λi g=>?_) λI=>ah I λv I=>ah I λn I=>ah I λi I=>?_
  .refine W g.2.1 ?_;cases(c a _ g.1:iY _ _ _ _ _) with|mk b m q s t y z=>cases s;exact⟨a,m,q,Y,L g.1 t,LF h g.2.2 _ y,Of g.2.2▸z⟩
  .refine W g.2.1 ?_;have r:=abM h (uy<|oe k) g.2.2;cases(c a _ g.1:kf _ _ _ _ _) with|mk b m q v s t y z l o d=>cases s;exact⟨a,m,q,v,Y,L g.1 t,r.2 _ y,z.keys r.1,(bB (f:=λx:ai×ai=>x.1)▸af (aq U r.1) (bB ..))▸l,o,a3⟩
  .refine W I.2.1 ?_;have e:=ado (h:=v) h n i I.2.2;cases(c a _ I.1:nz _ _ _ _ _ _ _) with|mk a H m q s N t j y z d=>cases s;exact⟨a,H,m,q,Y,N,L I.1 t,f a _ (aw ⟨g.2.1,v,n,I.1⟩) j,e.2 _ y,e.1 z,a3⟩
def PL(b:bY a À z)(Æ:dk z.I v y)(Ê:ei Á v z.σ)(Å:jV kP À z Á Ä):Ä y z.s:=by
 rw [IJ] at Ê;refine ah Ê λn h=>ah h λp h=>ah h λj h=>ah h λk h=>?_;have Ç:=h.2.1;have m:Le z.I (z.I.or<|z.H.on<|zL p z.σ):=λo q s=>GD s;refine Å j y ⟨_,_,k,z.s⟩ (i3 m Y) (gF (b V).frz.MY λt q s=>?_) (aho (b J1) m (λo q x s=>af (C7<|(b V).IH.hr _ _ s)<|CY x s) n v j y h.1 Æ) h.2.2;have s:k t=J q:=s;have H:=aP (Ç t) (λx=>aI<|x.2▸s) id;rw [H.2] at s;have I:¬zL p z.σ t:=λx=>aP x (λx=>H.1 x.1) λx=>ah x.2 λL x=>ah x λi x=>aI<|((b J1).H3 x).1▸s;have N:∀{x} {d},¬zL p z.σ x->z.H x=J d->(z.H.on λo=>¬zL p z.σ o) x=J d:=λn s=>CY n s;have e:=(b J1) t q s
 induction q with
 |list Â=>cases(e:iY _ _ _ _ _) with|mk Ã g f r l x j=>cases r;exact⟨t,g,f,Y,N I l,x.E3 m,j⟩
 |dict Â n=>cases(e:kf _ _ _ _ _) with|mk Ã g f L r l x j È É z=>cases r;exact⟨t,g,f,L,Y,N I l,x.mono m,j,È,É,z⟩
 |inst L i=>cases(e:nz _ _ _ _ _ _ _) with|mk c Ë g f r Ì l Í x j Î=>cases r;have nd:¬zL p z.σ c:=λx=>aP x (λx=>by rw [Î] at x;cases x.2) λx=>H.1 x.1;exact⟨c,Ë,g,f,Y,Ì,N I l,N nd Í,x.mono m,j,aP (Ç c) (λx=>x.2) λx=>af x.2 Î⟩
end
section
def EK(h:ie)(L)(a:aa<|bj×cx):=PM.on h.get? λb=>b=L\/∃n,b1 n a=J b
def ļ(a:Wd I H kP d s.heap)(x:Nu s L m c e b):Wd I H (EK b.heap L c) d b.heap:=
 have f:∀{g},_->aH s.heap g=none:=λ{g} q=>by
  cases e:aH s.heap g with
  |none=>rfl|some o=>have h:=cc (ij e) x.toInCall.fresh;exact aP q (λq=>ay h<|q▸j7 _) λq=>ah q λn q=>ay (x.above n g<|mem_of_lookup q)<|Nat.lt_asymm h
 have j:∀{k},lg k s.heap->Dj k (EK b.heap L c):=λsx=>Dj.hr λg o e=>sx.no<|f (r8 e).2;have l:=a.tX x.toInCall.keep
 have p:=λg o e=>by
  have e:=r8 e;refine aP e.2 (λq=>ah x.toInCall.ns λr t=>ah t λv t=>ah t λep y=>?_) λq=>ah q λn q=>ah (x.cell n g q) λr y=>?_
  .rw [<-q,e.1] at y;refine W (aC y.1) ?_;unfold nf;exact W y.2.1 Y
  .rw [e.1] at y;refine W (aC y.1) ?_;unfold nf;exact W y.2 Y
 {l with sF:=λg o e=>cM o.slots<|(r8 e).1,IF:=j a.sI.pC,HF:=j a.sH.pC,FP:=(j a.sP).hr,nF:=p}
def Zk(h:a∉b::l):a≠b/\a∉l:=⟨λe=>h<|e▸b8,λm=>h<|cy _ m⟩
def ahJ:∀{a} {m},k∉R (·.1) a->bindL b a m k=m k:=by
 intro a;refine @(a.rec (λZ=>rfl) λq r c=>?_);intro m h;have h:=Zk h;refine af (c h.2) ?_
 by_cases e:b q.1=dW
 .exact W (aJ e)<|aS h.1
 .exact W (aS e) Y
def alA(b:c k=J .local):∀{a} {m},(R (·.1) a).Nodup->(k,x)∈a->bindL c a m k=J x:=by intro a;refine @(a.rec (λZ h=>bG h) λq r d=>?_);intro m nd h;have nd:=jk.mp nd;refine(mc h).elim (λe=>?_)<|d nd.2;subst e;exact(ahJ nd.1).trans<|W (aJ b)<|aJ Y
def afu:∀{a} {m},k∉R (·.1) a->bindC b a m k=m k:=by
 intro a;refine @(a.rec (λZ=>rfl) λq r c=>?_);intro m h;have h:=Zk h;refine af (c h.2) ?_
 by_cases e:b q.1=dW
 .exact W (aJ e) Y
 .exact W (aS e)<|aS h.1
def ajH(b:c k≠J .local):∀{a} {m},(R (·.1) a).Nodup->(k,x)∈a->bindC c a m k=J x:=by intro a;refine @(a.rec (λZ h=>bG h) λq r d=>?_);intro m nd h;have nd:=jk.mp nd;refine(mc h).elim (λe=>?_)<|d nd.2;subst e;exact(afu nd.1).trans<|W (aS b)<|aJ Y
def MG:∀{D} {a} {c},bR d I a c->cW (q2 D a) b=J v->b∈D/\∃y,(e b,y)∈n6 e D c/\bD d I v y:=by
 intro D;refine @(D.rec (λZ h=>aI h) λp r f=>?_);intro a c q h;cases a with
 |nil=>exact aI h|cons g a=>
  induction q with|mk y s e j k=>
  refine W e ?_
  by_cases l:p=b
  .subst l;rw [show cW (q2 (p::r)<|g::a) p=J g from JB] at h;exact ax (aC h)<|⟨b8,y,b8,j⟩
  .rw [show cW (q2 (p::r)<|g::a) b=cW _ b from xc l] at h;have t:=f k h;exact⟨cy _ t.1,t.2.imp λy t=>br (cy _ t.1) t.2⟩
def Lm:∀{D} {a},U D=U a->R (·.1) (n6 b D a)=R b D:=by
 intro D
 induction D with
 |nil=>exactλZ=>rfl|cons p r c=>intro a h;induction a with
  |nil=>cases h|cons z s=>exact aq _ (c<|fZ h)
section
variable{c:Z}{a:ie}{b:cx}{D:aa O}{nm:O->bj}
def M0(e:∀b d,nm b=nm d->b=d):∀{D},bw D->bw (R nm D):=by intro D;refine D.rec (λZ=>yM) λp r f=>λa=>?_;have a:=jk.mp a;exact ak jk ⟨λq=>ah (mm q) λc g=>a.1<|e _ _ g.2▸g.1,f a.2⟩
end
section
variable{b:jE}{q:PM}{G:PM}{e:ie}{h:cx}{l:ai}{g:O}{n:bj->ba a0}{r:aa ai}{o:aa a0}{D:aa O}{nm:O->bj}
def Y0(m:qD b=J (jy b))(f:kK q r o)(j:nR G (jy b) n)(p:∀a∈D,∀y,(bu a,y)∈n6 bu D o->c2 b (bu a)=dW->n (bu a)=J y)
 (s:∀a∈D,∀y,(bu a,y)∈n6 bu D o->uj b (bu a)->∃c d,b1 (bu a) (gi b)=J c/\G c=J d/\hH d=q5 (J y))
 (t:∀g c,b1 g (gi b)=J c->g≠"__class__"->∃d l,G c=J d/\hH d=q5 l)(v:∀g k c,b1 g (gi b)=J c->b1 k (gi b)=J c->g=k):gr q G b (q2 D r):=
 ⟨n,eY j (λa l x h=>(MG f x).2.imp λy e=>br (p a (MG (e:=bu) f x).1 y e.1 h) e.2) (λa l x h=>by have z:=MG (e:=bu) f x;exact ah z.2 λy e=>ah (s a z.1 y e.1 h) λc H=>ah H λd H=>⟨c,y,d,H.1,H.2.1,H.2.2,e.2⟩) t v<|by induction j with|mk d I ep L=>exact⟨_,d,m,L⟩⟩
end
def QH(h:uj a k):c2 a k≠dW:=λq=>aP h (λh=>nomatch (af q.symm h)) λh=>nomatch (af q.symm h)
def Ι(f:qD a=J (jy a))(g:eU)(nd:bw b)(h:U d=U b)(q:kK I d c)(j:∀x∈b,c2 a (bu x)=dW\/(c2 a (bu x)=J hj/\d7 (b1 (bu x)<|gi a)=Q))
 (x:Nu s (jy a) (bindL (c2 a) (n6 bu b c) λZ=>A) (gi a) (bindC (c2 a) (n6 bu b c) λZ=>A) e):gr I (EK e.heap (jy a)<|gi a) a (q2 b d):=by
 have k:bw (R (·.1)<|n6 bu b c):=W (Lm<|af h.symm q.vh)<|M0 (g J1) nd;have l:∀{n c},b1 n (gi a)=J c->∃o,EK e.heap (jy a) (gi a) c=J o/\hH o=q5 _:=λ{n c} e=>(x.cell n c e).imp λo g=>br (CY (aw ⟨n,e⟩) g.1) g.2;exact ah x.toInCall.ns λo g=>ah g λm g=>ah g λep g=>Y0 f q ⟨o,m,ep,CY (aL Y) g.1,g.2.1,g.2.2.1,g.2.2.2⟩ (λp Z y h a=>alA a k h) (λp r y h a=>(vH.mp (Ce (j p r)<|QH a).2).imp λc t=>(l t).imp λo g=>⟨t,g.1,af g.2<|aq q5<|ajH (QH a) k h⟩) (λn c e Z=>(l e).imp λo g=>cM _ g) λn v c e z=>name_of_addr x.apart (mem_of_lookup e)<|mem_of_lookup z
def abh{C}(g:C.I0 j=J ⟨k,m, .func a,n⟩)(o:a.body= .stmts p)(q:xC a=iF)(r:yK a=qt)(t:lX (dX a)=jz)(v:yu (dX a)=u)(x:xM (dX a)=u)(y:∀h,cO C.I0 h->h.CodeRec a.code (y5 a))(z:bw d.e4)(H:∀s (I:PM) c (e:aa a0) l,cO I s.heap->Le C.I0 I->bR C.S I c e->yZ d.e4 d.p7 c=J l->
∃b f,l=q2 d.e4 b/\U b=U d.e4/\bR C.S I b f/\Hx s a ⟨e,[]⟩ (n6 C.S.nm d.e4 f)):Bv C d j k m a n p:=Kw g o q r t v x y z H
noncomputable def x1(a)(L b):=newEnv (dX a) L (xC a) (yw (L+1) (dm<|dX a) []) (y5 a++".<locals>.") (J b) a.code A<|yK a
def YF(g:cm iR f=J d)(a:aK (n+1) f h b e c):∃l,yZ d.e4 d.p7 h=J l/\c1 (aK n) c d.gZ l b (λZ b=>ei e bk b) (ei e) (λZ Z=>bX):=by
 rw [zw] at a⊢;have a:(match cm iR f with
  |some d=>bE _ λl=>c1 _ c d.gZ l b _ _ _|none=>bE _ λj=>∀k,b k=A->wU n j _ _ _ c):=a
 rw [g] at a;exact ew a
def T2{q:bj->Prop}(b:U a=U c)(d:∀x∈a,q<|e x)(m:f∈n6 e a c):q f.1:=by have m:=hM (f:=NX) m;rw [Lm b] at m;exact ah (mm m) λz h=>h.2▸d z h.1
def Xh{a:C8->cS->Prop}(b:jV kP d z c λv s=>a (.ok<|jM v) s):PS C g d z (λZ e=>ei c bk e) (ei c) (λZ Z=>bX) λf s=>a (.ok<|jM (match f with|jM v=>v|_=>bQ)) s:=
BH (λl h y k j m q=>PL j (v:=bk) Y q<|b.on k) (λl h y k j m q=>b4 q) λv x l h y k j m r q=>PL j r q<|b.on k
def UD{a:C8->cS->Prop}{i}(g:px d b i)(h:mI d z.I f)(j:PX C kP f z (rb C) k λe s=>a (.error e) s){M}:qN C b f z (eP C b) k (λe l=>a7 M d (leaving b e) (λZ c=>a (.error e) c) (λm c=>a (.error m) c) l):=
λe l n y k o p q x=>ah p λm r=>aib o (h.on<|k V) g (r V) q λt v f=>j e _ (k.bI .h) (gF v.MY<|o J1) f x
def ZR{i}(a:nZ b=J i)(c:Le C.I0 I)(d:∀i,nZ b=J i->Er e i):mI (rT b f) I e:=cp c λg e=>by rw [w0 a] at e;refine ax (aC e) ?_;exact d _ a
def abR{c:O}(f:eU)(h:cm iR j=J e)(b:Bv C e c q r a s k)(l:ud a=[])(m:iM d<mY)(n:∃i,nZ d=J i)
 (g:∀L,∀x∈e.e4,b1 (C.S.nm x) (dm<|dX a)=dW\/(b1 (C.S.nm x) (dm<|dX a)=J hj/\d7 (b1 (C.S.nm x)<|yw L (dm<|dX a) [])=Q))
 (o:∀L,M4 C (aK p) (rT d<|x1 a L c) (eP C<|x1 a L c) e.gZ (x1 a L c) k):uB C (aK<|p+1) d j c:=by
 refineλt z v y H I N L e j r k p q=>ah (YF h k) λs H=>ah ((b J9) z.s z.I v y s (L V).sI e r H.1) λN h=>ah h λk h=>ah n λi v=>?_
 refine O? m ((L V).sI _ _ (e _ _ (b V))) Y (b J5) (b J6) (b J1) ((b J7) _ λy r s=>(L V).sI _ _ (e _ _ s))<|h.2.2.2 _ _ _ _ (W l<|wpAny_newFunctionEnv_cells (b J4) (λx q=>T2 (q:=λk=>b1 k (dm<|dX a)=dW\/(b1 k (dm<|dX a)=J hj/\d7 (b1 k<|yw _ (dm<|dX a) [])=Q)) (af h.2.1.symm h.2.2.1.vh) (g _) q) λN n m x=>⟨((f J3) _ λy r s=>(L V).sI _ _ (e _ _ s)).keeps x.toInCall.keep,VU ?_⟩);subst n;have l:=ļ (L V) x;have k:=Ι (a:=x1 a z.s.heap.objs.size c) Y f (b J8) h.2.1 h.2.2.1 (λy r=>g _ y r) x;refine ah x.done λh2 g=>ah g λs g=>?_;rw [g.1] at l k⊢;have n:mI (rT d<|x1 a z.s.heap.objs.size c) z.I t:=ZR v e j;have m:px (rT d<|x1 a z.s.heap.objs.size c) _ i:=bZ (w0 v) Y<|b J4;exact o _ _ t (zh z h2 s) _ _ _ _ I _ _ (gF l<|L J1) n k (h.1▸H.2) (Xh<|p.on .h) (UD m n<|q.on .h)
def ady(a:Wd I H b c h)(k:mI Aq I c)(d:gr I b e l)(f:AF Aq e):∀i,nZ Aq=J i->Er (b.or c) i:=λi e=>ah (f V) λg q=>ah q λj q=>by rw [q.1] at e;exact ax (aC e) λm n=>aP (mc n) (λz=>ah d λo t=>ah (t J5) λL g=>ah g λo g=>⟨z▸q.2.2,L,o,af (z▸q.2.1) g.1,GD g.2,nf.ne<|a.nF _ _ g.2⟩) λn=>((k J1) _ q.1 m n).imp id λb=>b.imp λL b=>b.imp λo b=>⟨b.1,af (C7<|a.FP.hr _ _ b.2.1) b.2.1,b.2.2⟩
def ail:ys C (eP C a):=λZ Z Z h=>h.fl
abbrev C0:=uB C Dq Aq
def Xp{d:O}{f E}(fo:ys C m)(n:AF Aq o)(p:C0 q d)(a:bY b c z)(k:mI Aq z.I c)(t:gr z.I b o I)(r:kK z.I g h)(x:Dq q g z.σ j l)(y:jV b c z j f)(H:PX C b c z m l E):tT (v9) Aq (.call (w d) ⟨h,[]⟩) (λr s=>match r with| .ok (jM v)=>f v s| .ok _=>bX| .error e=>E e s) z.s:=
p _ z g h j l _ (gF (a V).merge<|a J1) (k V) (ady (a V) k t n) r x (λv x L k N r q=>y v x L k (gF ((a V).P'<|N V)<|N J1) r q) λe L k N z x=>H e L k (gF ((a V).P'<|N V)<|N J1) (fo _ _ _ z) x
def K_{c:O}{d E}(fo:ys C e)(f:AF Aq g)(h:C0 j c)(k:bY a b z)(l:mI Aq z.I b)(m:gr z.I a g x)(r:kK z.I n o)(p:Dq j n z.σ q s)(t:jV a b z q d)(v:PX C a b z e s E):dx (call (w c) o) d E z.s:=
Bp (Xp fo f h k l m r p t v)
def afO{b:O}(f:eU)(fo:ys C c)(g:AF Aq a)(h:nE a k<|w b)(j:wy C.K (w b)=Q)(d:qK e=Q)(l:CG c m a e)(n:C0 o b):cd c (.call o m) a (bC (dZ (cC k q) e [] p) a):=by
 refineλr s z t v x y E H I L N a b=>aB<|h (H.i0 I)<|JL (by refine W (qS d) ?_;rfl) (QL j)<|rP d<|l r s z t p _ x _ E H I L N (λc e k m o r1 Z q=>?_) b
 exact⟨f.In (o V)<|(I.on<|m V) V,K_ fo g n o (I.on<|m V) (L.c7<|m V) r1 q (a.on m)<|b.on m⟩
def U!{f E:VP}(n:NB o)(p:qK g=Q)(q:U g<30)(r:(n7 h==l5 a)=Q)
 (t:a7 b c (bC o d) (λe l=>∀v,a7 b c (OT e k v) (λj m=>a7 b c (Qc a j.1 j.2 (rf a<|pd g d) []) f E m) E l) E s):a7 b c (bC (dZ (fx o k h) g [] a) d) f E s:=by
 show a7 b c (do
  let e<-LX o k d _
  standAt h.atName
  OC o k h a d e _ _ _) f E s
 refine W (n ..)<|aB<|kY t (λe l x=>aB<|r6 ?_) λZ Z y=>y;unfold OC;refine W (show WK _ _ _=Q from CP p q) ?_;unfold calleeOf ZX;exact W (aJ Y)<|aB<|hU<|kY (x _) (λj m z=>W r<|aB<|bq z) λZ Z y=>y
def ajM{K}(h:ri a v K):∃c i,K c i/\∀M,M c i->ri a v M:=by
 cases v with
 |obj c i=>exact⟨c,i,h,λZ k=>k⟩|ref b=>
  have e:∀M,ri a (aj b) M=bE (LV<|a b) λp=>M p.1 p.2:=λM=>by show s8 (a b) M=_;exact W Fe Y
  rw [e] at h;exact ah (ew h) λp q=>⟨p.1,p.2,q.2,λM k=>W (e ..)<|W q.1 k⟩
 |_=>exact b4 h
def afk(e:eU)(fo:ys C g)(À:AF Aq b)(k:NB o)(h:qK c=Q)(l:U c<30)(n:(n7 p==l5 d)=Q)(Ä:∀f a,C.fa f=J a->wy C.K (w a)=Q)(r:cd g s b<|bC o b)(t:CG g v b c)(Ã:∀f a,C.fa f=J a->C0 f a):
 cd g (.z7 s m v) b (bC (dZ (fx o (bu m) p) c [] d) b):=by
 refineλy z H I L N g E o p s v Ò j=>U! k h l n<|r y z H I _ N _ E o p s v (λv k l n r r1 H o=>ah (ajM H) λÂ o=>ah o λi o=>ah (ew o.1) λÁ H=>ah (ew H.2) λf x=>?_) j
 cases Hb r r1 (o.2 (λq X=>q=Â) Y) with|mk q Å Æ Ç È É Ê Ë Ì Í Î Ï=>
 subst Ï;refine ah ((e J9) q Ç Ë J6 Á m f H.1 x.1).2 λa m=>?_;have q:=p.on<|n V;have Ñ (Ð:dx (MW<|rf d<|pd c b) (λp L=>C.K.In L.heap/\dx (call (w a)<|(f9 (w a,[k]))++p) g E L) E<|Z.s l):dx (Qc d (w a) (f9 (w a,[k])) (rf d<|pd c b) []) g E (Z.s l):=JL (by refine W (qS h) ?_;rfl) (QL<|Ä f a m.1)<|rP h Ð;exact agQ e r (q V) r1 (o.2 _ ⟨H.1,x.1⟩) m.1<|Ñ<|t y z l I d _ N _ E r q (s.c7<|n V) x.2 (λb p c d h r2 X t=>⟨e.In (h V)<|(q.on<|d V) V,K_ fo À (Ã f a m.1) h (q.on<|d V) ((s.c7<|n V).c7<|d V) (n:=v::b) ⟨k,p,Y,r1.ek<|d V,r2⟩ t (Ò.on<|n.bI d)<|j.on<|n.bI d⟩) (j.on n)
def Uy{a}:nZ (a.under<|s6 "type.__call__" ⟨w b::c,[]⟩)=nZ a:=by
 induction a with|mk d d e f g=>
 exact W (rfl:(s6 "type.__call__" ⟨w b::c,[]⟩).envs=[]) Y
def Μ(e:cm iR f=A)(h:cm tS f=J g)(a:aK (n+1) f j b k d):∀c,b c=A->aK n g (aj c::j) (b.dn c<|cw f ar) (λv b=>qO v=Q/\ei k (aj c) b) d:=by
 rw [zw] at a⊢;have a:(match cm iR f with
  |some l=>bE _ λm=>c1 _ d l.gZ m b _ _ _|none=>bE _ λg=>∀c,b c=A->wU n g _ _ _ d):=a
 rw [e] at a;rw [h] at a;exact a
def aew(d:eU)(e:cm iR f=A)(g:cm tS f=J h)(j:C.S.ca f=J a)(k:Sz C.K a=Q)(l:hu C.K (w a) "__init__"=J (J<|w c))(m:oJ C.K (w c)=ph)
 (o:∀b,uB C (aK n) (p.under<|s6 "type.__call__" ⟨w a::b,[]⟩) h c):uB C (aK<|n+1) p f a:=by
 intro q z r b s t v x y H I L N c;have h:=d.In (x V) y;refine make_core (h:=z.s.heap) (makes_of h k) (LL h l) (λp=>bind_fn h p m) (aL Y) ?_;have s:=(x V).qX<|mO z.s.heap;have v:=((x V).tX<|ji _ Q8).toH (i1 z.s.heap Y) ⟨s.1,s.2.2⟩ Y;have d:=v.qX<|mO _;have k:=(v.tX<|ji _ (instObj a z.s.heap.objs.size)).toH (i1 _ Y) ⟨d.1,d.2.2⟩ Y;rw [x!] at d k;have l:o8 z.I (z.H.dF z.s.heap.objs.size Q8) z.σ:=(λm h p=>by
 have I:=(x J1) m h p
 induction h with
 |list v=>exact iY.map I (oe<|xF s.2.1 _) λm=>id|dict h n=>exact kf.map I (oe<|xF s.2.1 _) λm=>id|inst v i=>exact nz.map I (oe<|xF s.2.1 _) λm=>id)
 have n:d6 z.s.heap.objs≠d6 z.s.heap.objs+1:=fI<|ha _;have h:o8 z.I _ (z.σ.dn _ (cw f ar)):=
  l.put (l.T5 d.2.1) ⟨d6 z.s.heap.objs,a,#[],0,Y,j,iJ ..,af (lL n) (iJ ..),Y,Y,af (JV n)<|(x J1).no s.2.1⟩
 refine o b q ⟨z.I,_,_,{z.s with heap:=dh (dh z.s.heap Q8) _}⟩ (aj _::r) _ _ t _ (gF k h) y (W Uy H) ⟨_,b,Y,Y,I⟩ (Μ e g L _ (l.no d.2.1)) (λv x y k m r1 q=>?_) λp y k m a x=>?_
 .rw [D9 q.1] at r1;exact W (r1:x=bQ)<|⟨Y,PL (v:=aj _) m Y q.2 λv x f b=>N v x f<|Nx.bI (i3 (k V)<|k J1) b⟩
 .exact c p y (i3 (k V)<|k J1) m a x
def G5(C)(b)(a)(c)(d)(e)(f)(t):=
∀g h (z:Z) l (j:QT) k (m E:VP),Ok C g h z->Up C a z.I h->g7 C z.I g f l->cN b k e l z.σ j->PE C g h z j m->PX C g h z c k E->_root_.PySem.wpAt (bL C.dM C.w) a d t m E z.s
abbrev w1:=Hp C Dq Aq
def sN(h:M7 C Dq Aq a s b t):w1 a c s b t:=λd e z l N f g j k E m n o p q r=> _root_.PySem.wpAt_of_wpAny<|h d e z l N f g j k E m n o p q r
def aka(d:z1 b e a x)(f:w1 b c s a<|w4 g a)(h:w1 b c r a<|w4 j a):w1 b c (.ite e s r) a (xO (.If x g j k) a):=by
 refineλl m z n N o p q t E v y H I L a=>ks_wpAt_If<| _root_.PySem.wpAt_of_wpAny<|d l m z n _ q _ E v y H I (λv b c=>vQ c) (λe v x s g r j=>?_) (a.at H)
 have j:=r _ j
 induction e with
 |true=>exact f l m x n N o p q t E g (y.on<|s V) (H.c7<|s V) j (L.on s)<|a.on s|false=>exact h l m x n N o p q t E g (y.on<|s V) (H.c7<|s V) j (L.on s)<|a.on s
def aiz(b:G5 C Dq Aq c d e a<|bC x a):w1 c d (v5 e) a (xO (.Return (J x) f) a):=λg h z l N j k m n E o p q r s t=>ks_wpAt_Return_some (b g h z l _ m _ E o p q r (λv y H I L r1 a=>(s J2) v y l g H I L (q.c7<|I V) r1 a) (t.at q))
def aax{C}{sx f e m}(X:c2 a "super"=J qn)(g:c2 a "__class__"=J kj)(h:c2 a (C.S.nm sx)=dW)(j:∃k b c d l n,Yr C a f e m k b c d l n)(o:∃p b c q d r,g_ C a sx p b c q d r)(s:∃t b c v d x y,Pf C a t b c v d x y)(z:d7 (b1 ("super":bj)<|dm C.dM.main.scope)=u)(H:C.mg "super"=A)(I:tM "super"=J (cJ "super"))(nm:(C.S.nm m==("__class__":bj))=u)(L:nsIn C.K vc "thirdparty.any"=J A)(N:oJ C.K (w e)=ph)(À:fnIn C.K e=Q):vF C a sx f e m:=aeZ X g h j o s z H I nm L N À
def ahX{l h e:O}{mm}{p0 r}{m E:VP}(f:eU)(c:hs g)(a:vF C g l s t n)(j:bY v I z)(p:Le C.I0 z.I)(x:nR v (jy g) mm)(y:mm (C.S.nm l)=J (w<|e+1))
 (k:InstAt z.s.heap (e+1) (JS d e) d L)(D:jq tq h s=Q)(H:C.S.ca h=J d)
 (go:∀b h1,aH h1 z.s.heap.objs.size=J {cls:=cJ "super",dict:=A,data:=eZ #[w b,w<|e+1,w d],slots:=#[]}->(∀q o,aH z.s.heap q=J o->aH h1 q=J o)->A4 C.K d b (C.S.nm n)=J (J<|w t)->m (w z.s.heap.objs.size) {z.s with heap:=h1}):
 _root_.PySem.wpAt (v9) Aq (sC N g) (LX (dZ (cC "super" p0) [] [] r) (C.S.nm n) g À) m E z.s:=by
 refine TQ (a J3) λe g l m b n q=>TQ (a J4) λr s t v I L N=>?_;obtain⟨e,g,l,m,r,s,t,v⟩:=a J5;have I:∀{L o},C.I0 L=J o->aH z.s.heap L=J o:=λe=>(j V).sI _ _ (p _ _ e);have g:=f.In (j V) p;have c4:=(q J3) h d D H;have l (e:oE C.K b=J n):∃o,aH (RG<|Z.s z) b=J o/\hH o= .cls n:=by
  unfold oE at e;cases m:C.K.lookup b with
  |none=>rw [m] at e;exact aI e|some o=>
   rw [m] at e;obtain⟨_,_,r,_⟩:=o;cases r with
   |cls=>exact⟨_,g _ _ m,aq _ (aC e)⟩|_=>exact aI e
 refine bp (l<|q J2) λs t=>ks_wpAt_super_base (a V) (a J1) (a J9) (N V) (I<|N J1) Y (N J2) (v V) (I<|v J1) Y (v J2) (v J3) (a J6) ?_;refine ks_loadName_global (c V) (a V)<|WN ((c J1)▸(f J6) _ λL o e=>I e) (a J7) ((c J2)▸(f J7) _ λL o e=>I e) (af ((f J8) "super"<|by decide+kernel)<|a J8) ⟨Y,i? (c V) (a J1) (q V) ⟨_,I<|q J1,Y⟩<|W (N J3)<|GG (c V) (a J2) (x.ns (j V).sF) y<|ks_wpAny_isType_cls t.1 t.2 ⟨Y,ks_wpAny_call_super t.1 t.2 k.at_ k.cls (λd e=>?_) (Wx g c4.1) λh1 h p=>go b h1 h p c4.2⟩⟩;have n:=k.no;unfold notCls at n;exact bU<|e▸n
def aaH{E:VP}{s:cS}{h1}(d:vF C q r t e m)(j:C.K.In s.heap)(k:InstAt s.heap (f+1) (JS b f) b v)(c:C.K.In h1)
 (l:aH h1 n=J {cls:=cJ "super",dict:=A,data:=eZ #[w o,w<|f+1,w b],slots:=#[]})(a:A4 C.K b o (bu m)=J (J<|w e))
 (p:g (w h1.objs.size,[]) {s with heap:=dh h1<|Qb (w e)<|w<|f+1,toks:=gu s+1}):za h (OT (w n) (bu m) x) g E {s with heap:=h1}:=by
 unfold A4 at a;cases y:oE C.K b with
 |none=>rw [y] at a;cases a|some z=>rw [y] at a;have H:∃o,aH h1 e=J o/\o.cls=(cJ "function"):=(fA<|d TX).imp λo q=>br (c _ _ q.1) q.2;exact bp H λI L=>ks_wpAny_getMethod_super l (looks_opaque c<|d o_) (λh g E s N q=>aB<|(E0 c y) h _ E s N (bq q)) Y c a L.1 L.2 (ks_ne j k y) (d J9) p
def acd(d:eU)(l:hs a)(fo:ys C g)(Å:AF Aq a){p0 n}(b:vF C a h j c o)(e:qK f=Q)(p:U f<30)(q:(n7 r==l5 k)=Q)
 (s:CG g t a f)(v:C0 j c):G5 C Dq Aq g (sC x a) (qk h j t) a (bC (dZ (fx (dZ (cC "super" p0) [] [] n) (bu o) r) f [] k) a):=by
 refineλÀ Ã H I L Ä a E f g j n o r=>ah (ew n) λt x=>ah j λmm L=>ah ((L J1) h t x.1<|b J2) λa n=>?_
 cases Hb f n.2 x.2 with|mk h i a x h x h x y Á Â z=>
 have N:=n.1;rw [h] at N;have m:=n.2;rw [h] at m;refine _root_.PySem.wpAt_bind<|ahX d l b f (g V) (L V) N y z.1 x λl h1 L n h=> _root_.PySem.wpAt_of_wpAny<|aB<|r6 ?_;unfold OC;refine W (show WK _ _ _=Q from CP e p) ?_;unfold calleeOf ZX;refine W (aJ Y) ?_;have x:=d.In (f V)<|g V;have N:C.K.In h1:=λl p l=>n _ _ (x _ _ l);have p:=(f V).tX n;refine aB<|hU<|aaH b x y N L h<|W q<|aB<|bq ?_;have l:=p.qX<|mO h1;have q:Le H.I (H.I.dF h1.objs.size<|Qb (w c)<|w<|a+1):=xF l.1 _;have y:Nx H ⟨_,H.H,H.σ,{H.s with heap:=dh h1<|Qb (w c)<|w<|a+1,toks:=gu H.s+1}⟩:=i3 q Y;refine JL (P:=MethP C.K h1.objs.size c<|w<|a+1) (by refine W (qS e) ?_;rfl) (keeps_M<|b Zq)<|rP e<|s À Ã ⟨_,H.H,H.σ,{H.s with heap:=dh h1 _,toks:=gu H.s+1}⟩ I k _ Ä _ E (gF ((p.tX<|ji _ _).toI (i1 h1 Y) l.2)<|(f J1).map<|oe q) (g.on q) (j.c7 q) z.2 (λL n h x N b Z c=>?_) (r.on y);have e:=(N V).sI _ _ ((x V) _ _ (iJ H.I h1.objs.size _));refine⟨⟨e,d.In (N V)<|(g.on q).on (x V) V⟩,Bp<|method_call e ?_⟩;have k:=y.bI x;exact Xp fo Å v N (g.on<|k V) (j.c7<|k V) (g:=t::L) ⟨_,n,Y,m.ek<|k V,b⟩ c (o.on k)<|r.on k
def agK(c:cd d e b<|bC o b)(f:NB o)(a:(n7 g==l5 h)=Q):cd d (vZ e) b (bC (dZ (fx o "pop" g) [] [] h) b):=by
 refineλj k z l m n p E q r s t v x=>Kq (f _ _ _) (CP Y (show 0<30 by decide)) a FE ald aeo<|c j k z l _ n _ E q r s t (λy H I L N r1 b=>?_) x
 rw [show Xc m y I.σ=AW y I.σ m from Y,Y3] at b;cases Co N r1 b with|mk o d g n h e s g q p k=>
 refine W e<|ah (ew k) λc h=>?_;have x:=h.1;rw [yt] at x;refine ah (yC q x) λH f=>?_;have a:=(N V).sH _ _ g;have t:=Kn a;refine⟨t.1,t.2,?_⟩;rw [q.eQ] at f;refine ajs a f.1 ((v.on L).upd N s g ?_ (W Ze<|ae (mi _ _) p) f.2 h.2)<|q.q4 p;rw [Array.eraseIdxIfInBounds];refine W (dif_pos (yR.mp f.1).1)<|W Array.toList_eraseIdx<|W (List.eraseIdx_eq_take_drop_succ ..)<|W (List.drop_of_length_le<|by rw [uV];exact Nat.le_add_of_sub_le<|bb _)<|W (dw ..)<|W Rl<|W q.eQ ?_;exact q.take _
def abl(b:eU)(c:NB o)(d:cd e f a<|bC o a):cd e (fL f n) a (bC (fx o (bu n) g) a):=λh j z l k m p E q r s t v x=>W (arm_eval_Attribute ..)<|W (c ..)<|aB<|d h j z l _ m _ E q r s t (λy y H I L r1 N=>aB<|r6<|aB<|hU<|aa7 b L ((r.on<|I V) V) r1 N λa o e f n r2 g=>aB<|wpAny_letTemporaryGo<|bq<|v a o e (I.bI f) n r2 g) x
def agL(c:lD)(b:eU)(a:VA Aq d):p5 yd (oY .FloorDiv):=λ{e f z g v x y h j E} k l r1 r2 m n=>by
 cases oz r1 r2 m with|mk o j t p e q r=>
 refine W e<|W q<|ah (a J1) λs H=>?_;have I:cO C.I0 z.s.heap:=λc o e=>(k V).sI _ _ (l _ _ e);exact agB (Sj r.1) (n.fq k (v:=ag _) ⟨_,aq (ey · _)<|UB _ (om r.1)⟩ r.2)<|aw<|ahZ ((b J3) _ I) (cF (d5 (show aad<=300 by decide) _)<|c J1)<|akY ((b J4) _ I) (b J5) H (a J2) (a J3) ((a V) J2)<|(a V) J1
def aaQ{a}(c:cd d e b<|bC o b):cd d (ti .rev e) b (bC (tv o (y8 A A (J<|t5 .USub (CQ (.int 1) a f) g) p) h) b):=by
 refineλj k z l m n q E r s t v x y=>Kv<|c j k z l _ n _ E r s t v (λv H I a L r1 N=>Xm<|Ha<|Ha<|U8 (Vg (v:=ag 1) Y) j k I l (λv b=>v=ag (-1)/\b=I.σ) n _ E L (s.on<|a V) (t.c7<|a V) ⟨Y,Y⟩ (λd o f g p h m=>?_) (y.on a)) y
 rw [m.1] at h
 induction h with|mk t q=>
 refine W q ?_;rw [<-m.2] at N;have c:=p.lH (t:=gu f.s)<|ji _ {cls:=cJ "slice",data:=eZ #[bQ,bQ,ey (-1) t]};cases hV c (r1.ek<|g V) N with|mk r H j n e k q l s=>
 refine W e<|wY (iX k).typeIs (kZ KG) (O' (iX k) (YE ..) .none .none (.int (-1) t) (λz=>nomatch z) ((x.on<|(a.bI g).bI .h).DF c ?_ (W uN l) s)<|q.q4 l) Y;have v (I:gM a0):cR (slicePick I A A<|J<| -1)=f7 (cR I):=aq cR<|krv_pick I;exact W (v ..) q.W?
def ajA(h:yU a b):U a=U b:=by
 induction h with
 |nil=>rfl|cons _ _ _ c=>exact aq _ c
def Ny{E:VP}
 (k:∀{h},(∀a e b,jo s.heap a->yU b j->h b {s with heap:=a,toks:=e})->a7 (bL l m) Aq.in1 (collect<|w r) h E s)
 (n:U j<64)(o:∀a e f (c:gM a0) d g,jo s.heap a->aH s.heap f=A->aH a f=J (lR c g)->yU (cR c) d->d.Perm j->m5 (·<=·) d->p (w f) {s with heap:=a,toks:=e}):
 a7 (bL l m) Aq (call (eh "sorted") [w r]) p E s:=by
 refine ajW kind_sorted plain_sorted entry_sorted (args_sorted1 _)<|aB<|bq<|aB<|k λa e b k q=>aB<|wpAny_newList ?_;have t:aH (dh a<|Ac "list" (gU b) 0) a.objs.size=J _:=i1 _ Y;refine aB<|hU<|rA slot_list_sort ⟨_,t,Y⟩ entry_list_sort (list_sort_tree t q (ajA q▸n) λc d v x y=>⟨_,Y,ah (sortedHeap_at (out:=c) t) λg z=>?_⟩)<|args_list_sort _;have H:aH s.heap a.objs.size=none:=by
  cases q:aH s.heap a.objs.size with
  |none=>rfl|some I=>exact ay (ij<|k _ _ q)<|j7 _
 refine bq ⟨_,Y,o _ _ _ c d g (λL I N=>?_) H z v x y⟩;have e:=iT (Ac "list" (gU b) 0)<|k _ _ N;exact af (sortedHeap_old (fI<|ij<|k _ _ N)<|ij e) e
def Wq(x):∀l,(tI x l).Perm (x::l):=by
 refineλl=>l.rec (.refl _) λy r a=>W V? ?_;split
 .exact .refl _
 .exact(a.cons y).trans (.swap ..)
def C! :∀l,(Eb l).Perm l:=λl=>l.rec (.refl _) λx r a=>(Wq x _).trans<|a.cons x
set_option tactic.hygienic true in
def af2:∀{l},m5 (·<=·) l->m5 (·<=·) (tI x l):=by
 intro l;refine l.rec (λ_=>BJ _ _) λy r a=>λh=>?_;have c:=rV.mp h;refine W V? ?_;split
 .rename_i e;exact ak rV ⟨λz b=>aP (mc b) (λq=>q▸e) λb=>n3 e<|c.1 z b,h⟩
 .rename_i e;exact ak rV ⟨λz b=>aP (mc<|(Wq x r).mem_iff.mp b) (λq=>q▸om (yi.mp e)) λb=>c.1 z b,a c.2⟩
def aem:∀l,m5 (·<=·) (Eb l):=λl=>l.rec ip λx r a=>af2 a
def L8{G:Prop}(e:oi (v::r)=J c)(g:∀a b,v=ag a->oi r=J b->c=a::b->G):G:=
ah (iv.mp e) λa h=>ah (fA h.2) λb d=>g a b (OE h.1) d.1 d.2.symm
def VF:∀{b} {c} {a},oi b=J c->bR d I b a->yU a c:=by
 intro b;refine @(b.rec (@λc a e r=>ax (aC e)<|W (r:a=[]) .nil) λv t f=>?_);intro c a e r;refine L8 e λg h j k l=>?_;subst j
 induction r with|mk y s m h1 h2=>
 induction h1 with|mk tk n=>simp only [m,l,n];exact .cons _ _ (f k h2)
def ake(h:yU a b):bR c I (R ag b) a:=by
 induction h with
 |nil=>rfl|cons n t _ d=>exact⟨_,_,Y,m3 _ _,d⟩
def aaf:∀{a} {b} {l},oi (R (·.1) a)=J b->et d I a l->∃c,PySem.Pairs (intKind f g) l c/\R (·.1) c=b/\∀e∈l,∃k,Mq k e.key=Q/\e.hash=hashInt k:=by
 intro a;refine @(a.rec (@λb l e r=>ax (aC e)<|W (r:l=[])<|⟨[], .nil,Y,lB⟩) λp t h=>?_);intro b l e r;refine L8 e λj m n o q=>?_
 induction r with|mk s v x h1 h2=>
 have y:=h1 J1;dsimp only [tu] at y;have z:=h1 V;dsimp only [tu] at z;have n:p.1=ag j:=n;rw [n] at y z
 induction y with|mk tk H=>
 have L:Mq j s.key=true:=W H<|jT _;exact ah (h o h2) λc N=>⟨(j,s.val)::c,W x<| .cons L Y N.1,W q<|aq _ N.2.1,W x<|gQ ⟨j,L,z⟩ N.2.2⟩
def abC:∀{a:aa<|ai×ai} {b},oi (R (·.1) a)=J b->bw (R (·.1) a)->bw b/\∀c∈b,ag c∈R (·.1) a:=by intro a;refine @(a.rec (λe Z=>ax (aC e)<|⟨yM,lB⟩) λp t d=>?_);intro b e nd;refine L8 e λc f g h j=>?_;have nd:=jk.mp nd;have k:=d h nd.2;exact W j<|⟨ak jk ⟨λm=>nd.1<|g▸k.2 c m,k.1⟩,gQ (g▸b8) λj m=>cy _ (k.2 j m)⟩
def ajB:∀{b} {a:aa<|au×a0},U b=U a->(∀(j:O) v,b[j]?=J v->∃k x,a[j]?=J (k,x)/\Mq k v=Q)->yU b (R (·.1) a):=by
 intro b
 induction b with
 |nil=>intro a c h;induction a with
  |nil=>exact .nil|cons _ _=>exact wC c
 |cons d r e=>
  intro a c h
  induction a with
  |nil=>exact vY c|cons p q=>exact ah (h 0 d Y) λk f=>ah f λx f=>W (aC f.1)<|ah (Xk f.2) λt g=>g▸ .cons _ _ (e (fZ c) λj v l=>h (j+1) v l)
def ac5(a:iw=A):s7 Du (eh "sorted"):=λ{b c z v y d e E} f _ r g h=>by
 have g:Ff v z.σ d:=g;rw [TF] at g;refine ah (ew g) λj k=>ah (ew k.2) λl m=>?_;have n:∀o p q (s:gM a0) t x,jo z.s.heap o->aH z.s.heap q=A->aH o q=J (lR s x)->yU (cR s) t->t.Perm l->m5 _ t->e _ {z.s with heap:=o,toks:=p}:=λo p q s t x H I g L N b=>h.lst f H I g (ake<|(ksm_same (N.trans (C! l).symm) b<|aem l)▸L) (by rw [bB,(C! l).length_eq];exact ae (bT m.2.1)<|ao Y) m.2.2;have c:=k.1;unfold Cj at c;cases y:eR z.σ v with
 |some d=>
  rw [y] at c;cases c;rcases CR f r (te y Y) with j|j
  .cases j with|mk e q s t x g j l H=>
   subst H;exact W x<|Ny (λ{h} I=>WD q (aL Y) g Y Y (λo L=>I o _ _ L (VF m.1 j))<|j.q4 l) m.2.1 n
  .cases j with|mk e q s t x g j l H=>
   subst H;exact W x<|Ny (λ{h} I=>WD q (aw Y) g Y Y (λo L=>I o _ _ L (VF m.1 j))<|j.q4 l) m.2.1 n
 |none=>
  rw [y] at c;refine ah (fA c) λb k=>zo f r (MF k.1 Y) λd q i H c y=>?_;subst y
  induction c with|mk d e t c x g j s l b f=>
  refine W x ?_;have r:=m.1;rw [<-k.2] at r;refine ah (aaf (f:=C.dM) (g:=C.w) r j) λq N=>?_;have y:z.s.heap.DictAt _ d q t:=⟨_,e,H _ _ g,⟨Y,Y,Y⟩,Y,λx c=>N.2.2 x<|ak Hn c,N.1,N.2.1▸(abC r<|s V).1⟩;have l:U q<=t9:=by have f:=aq U N.2.1;rw [bB] at f;exact W f<|ae (bT m.2.1)<|by decide
  refine Ny (λ{h} I=>kdu_collect (kdl_dict (prog:=C.dM)<|ak lz b) a y l λo p j L k=>I o p _ L ?_) m.2.1 n;exact ax N.2.1<|ajB (W uV k.1) λj v z=>k.2 j v<|ax (rY) z
def ų:typeLookup (cJ "list") "keys"=pure none:=am_miss_of_fast (by kernel_rfl)
def afs{E:VP}(c:aH s.heap a=J {cls:=cJ "list",data:=pq d k})(e:ue f=A)
 (h:∀b tk,jo s.heap b->g A {s with heap:=b,toks:=tk}):a7 (bL j l) f (getAttr? (w a) "keys") g E s:=by
 obtain⟨m,g,n,tk,o⟩:=s;have p:∀q,jn (⟨m,g,n,q,o⟩:cS) (w a) "list":=λZ=>⟨_,c,Y⟩;have r:=sub_AttributeError;have t:=kZ NM;have v:=NM.bind<|w a;have x:=am_list_getattr_none
 repeat (any_goals (first|assumption|exact p _|(with_reducible refine(?_:a7 _ _ (call _ _ _) _ _ _));refine QY NM (p _) am_entry_list_getattribute (ak7 _ _) (meets_getattribute_miss_list a d k #[] "keys" _ ų (by decide+kernel) (by decide+kernel)) ⟨c,e,λb q y z=>?_⟩|wp_step))
 refine ah z.there λH q=>ah q λI L=>(?_:a7 _ _ _ _ _ _)
 repeat (any_goals (first|assumption|wp_step))
 exact h _ _ z.keeps
def YW:FG JM "dict.update.loop"=J Builtin.«dict.update.loop»:=ZJ (by kernel_rfl)
def XS:plainId "dict.update.loop"=true:=by decide+kernel
inductive φ(S:kc)(I:PM)(k v:ai)(y:a0):Prop
|mk (a:cx) (b c:a0) (n:O) (e:y=w a) (g:I a=J (lN "tuple" #[b,c] n)) (r1:bD S I k b) (r2:bD S I v c)
def ads{G:Prop}(e:yG (v::r)=J b)(g:∀k x a,v=aR [k,x]->yG r=J a->b=(k,x)::a->G):G:=ah (iv.mp e) λp h=>ah (iv.mp h.1) λl q=>ah (fA h.2) λa c=>by
 cases l with
 |nil=>exact aI q.2|cons k l=>cases l with
  |nil=>exact aI q.2|cons d l=>induction l with
   |nil=>obtain rfl:=aC q.2;exact g k d a (Jv q.1) c.1 c.2.symm|cons _ _=>exact aI q.2
def ULc(S)(I)(a)(d b l e:O)(c)(all):=oj (cO I a) (aH a l=J (lR c e)) (bR S I all<|cR c) (aH a d=A) (aH a b=A)<|d≠b
def ULs(S)(I)(c)(d e l:O)(a)(f)(h)(b)(n):=j4 (jo c h) (h.IsListIter e l f) (aH h d=J (hx b n)) (et S I a<|cR b)<|s9 a 3
def Ky(n:aH a b=A)(g:aH a c=J o):c≠b:=λz=>by rw [z,n] at g;exact aI g
def aiM(Ã:ue k=A)(Ä:gV k+200<kV)(c:ULc C.S È Ò d m o Æ j all){p:cS}
 (Â:∀h tk a n,jo Ò h->aH h d=J (hx a n)->et C.S È É (cR a)->s9 É 3->U É<=cu->Á (.ok<|jM bQ) {p with heap:=h,toks:=tk}):
 ∀r (f b:aa<|ai×ai) g (t:Tok) h (tk:O) a (n:O),yG r=J f->r=cq g all->ULs C.S È Ò d m o b g h a n->(∀e∈f,kh e.1=3/\gz e.1=Q)->U b+U f<=cu->f.foldl (λd e=>eW d e.1 e.2) b=É->
  tT (v9) k (s6 "dict.update.loop" ⟨[w d,w m,ey g t,bQ],[]⟩) Á {p with heap:=h,toks:=tk}:=by
 refine jd ?_ λÀ r Å=>?_
 .intro f b g t h tk a n N H z y v Ö;obtain rfl:=aC N;subst Ö;have L:h.IsList o j:=⟨_,(z V) _ _ (c J1),Y,Æ,Y⟩;refine Xy YW<|W (YD XS _)<|aB<|H_ Ã (z J1) L (Dv<|(c J2).eQ▸List.drop_eq_nil_iff.mp H.symm) λs Ç=>?_;exact aB<|bq<|bq<|Â s tk a n (λI q e=>Ç I q (Ky (c J4) e)<|(z V) _ _ e) (Ç _ _ (c J5) (z J2)) (z J3) (z J4) v
 .refineλf b g t h tk a n N H z y v Ö=>ads N λÊ Ë Ì Í Î Ï=>?_
  subst Í Ï;have L:h.IsList o j:=⟨_,(z V) _ _ (c J1),Y,Æ,Y⟩;have Ð:=zu H.symm;refine ah (yC (c J2) Ð.1) λÑ l=>?_;have Ó:φ (Cx.S C) È Ê Ë Ñ:=by
   cases l.2 with|mk Ô j n e Õ x Ø=>
   induction x with|mk Ù Ú Û r1 x=>
   induction x with|mk Ü s2 Ý r2 x=>
   exact⟨Ô,Ù,Ü,n,e,ax (show j=#[Ù,Ü] by exact ax (Array.toArray_toList (xs:=j))<|W Û<|W Ý<|W (x:s2=[]) Y) Õ,r1,r2⟩
  induction Ó with|mk Ô Ù Ü Þ ß à r1 r2=>
  have l:=l.1;rw [ß] at l;refine Xy YW<|W (YD XS _)<|aB<|Z! (z J1) L l λs á â=>?_;have ã:jo Ò s:=λI q e=>af (â.2 I<|Ky (c J4) e)<|(z V) _ _ e;have à:=(c V) _ _ à;have ä:=ã _ _ à;have å:=af (â.2 d<|c J5)<|z J2;refine aB<|hU<|aB<|wpAny_tryCatch<|aB<|H4 (s:={p with heap:=s,toks:=tk}) ⟨_,ä,Y⟩<|W (aJ<|by decide+kernel)<|aB<|a' ä Y<|bq ?_;have s:=y _ b8;have æ:il b Ê:=br s.2<|λe ç=>af ((z J4) J1 e ç) s.1.symm;have I:=NI (λÔ q e=>ã _ _ ((c V) _ _ e)) å (z J3) ((z J4) V) ((z J4) J2) æ r1;have è:U b+U Ì<cu:=v;refine hU<|DK.set (e8 (show gV k+1+100<gV k+200 by lia) Ä) I (cF (dO _ _) è) r2 λh2 é ê ë ì í=>bq ⟨JN _ (by decide+kernel),Å Ì _ (g+1) 0 h2 _ é ê Î Ð.2.symm (ec (λI q e=>af (ì.2 I<|Ky (c J3) e)<|ã _ _ e) ?_ ë í<|s.1▸(z J4).eW æ) (λe ç=>y e<|cy _ ç) ?_ Ö⟩
  .exact á.imp λq x=>br (af (ì.2 m (c J5).symm) x.1) x.2
  .exact ae (f6 PN _)<|ae (c6 (s? ..)) v
def amq(b:eU)(c:lD)(a:iw=A):s7 .dict (u1):=λ{d e z v y f g E} h j r k l=>by
 cases hV h r k with|mk m n o p e g q s k=>
 refine W e<|ah (ew k) λt ep=>?_;have gl:=g;refine callType_codes (Q₁:=λx H=>x=w z.s.heap.objs.size/\H={z.s with heap:=dh z.s.heap {cls:=u1,data:=pM #[]}}) acK (aec _) ad5 (kt_code_dict_new _ ⟨Y,Y⟩) λx H I=>W I.1<|W I.2 ?_;have L:aH (dh z.s.heap {cls:=u1,data:=pM #[]}) z.s.heap.objs.size=J {cls:=u1,data:=pM #[]}:=i1 _ Y;refine⟨⟨_,L,Y⟩,ajv _ _,aB<|aB<|RP ⟨_,L,Y⟩<|bq ?_⟩;have N:=iT {cls:=u1,data:=pM #[]} gl;refine aB<|H4 ⟨_,N,Y⟩<|W (aJ<|by decide+kernel)<|aB<|afs N a λh1 d v=>aB<|BR<|aB<|Yb (s:={z.s with heap:=h1,toks:=d}) ⟨_,v _ _ N,Y,p,Y⟩<|bq ⟨JN _ (by decide+kernel),?_⟩;have y:=v _ _ L;have f:jo z.s.heap h1:=λr o e=>v _ _ (iT _ e);have s:aH z.s.heap h1.objs.size=none:=by
  cases q:aH z.s.heap h1.objs.size with
  |none=>rfl|some o=>exact ay (ij<|f _ _ q)<|j7 _
 refine aiM (k:=Aq.in1) a ?_ (eY (h V).sI gl q (mO _) s<|fI<|ij y) (λh2 k g x H I p N L=>br rfl<|l.oT h H (mO _) I p N L (c' b λn o e=>(h V).sI _ _ (j _ _ e)) ep.2.2) m t [] 0 0 _ d #[] 0 ep.1 rfl (ec (λr o e=>iT _ (f _ _ e)) ⟨{cls:=cJ "list_iterator",data:=eZ #[w n,ey 0 0]},i1 _ rfl,rfl,rfl⟩ (iT _ y) rfl<|bZ yM lB lB) ep.2.1.2 ?_ rfl
 .exact cF (show gV Aq+1+200<=gV Aq+300 by lia)<|c V
 .exact W RJ<|W (eF ..) ep.2.1.1
section
def AS{b:EC}(a):b6 (w c::rJ b.T) (cJ a)=b6 ([jm,qF,e2]:aa a0) (cJ a):=by rw [Az,Az];rfl
def Ř{M}(a:aH h b=J (xU b c))
 (d:e () ⟨h,g,f,t,j⟩):a7 M k (Kf "Exception.__new__" ⟨w b::l,[]⟩) e m ⟨h,g,f,t,j⟩:=by
 have n:=E1;have o:b6 (w b::rJ c.T) (jm)=true:=by simp only [AS,n.hasB]
 have p:=n.noStar;unfold Kf;rw [n.newKind,n.newSplit,n.newRow];dsimp only
 repeat (first|refine tY a ?_|(refine DB a ?_;refine W o ?_)|refine q a ?_|refine TJ a ?_|wp_step|simp only [Hl,Vb,if_false])
 exact d
def Ω(c:aH h a=J (xU a d))(p:e.In h)
 (q:hu e (w a) "__init__"=J (J<|w l))(r:oJ e (w l)=ph)
 (f:a7 (bL m n) o (call (w l)<|w (d6 h.objs+1)::b) (λv s=>v=bQ/\x (.done (jM<|w<|d6 h.objs+1)) s) y ⟨dh (dh h {cls:=nu,data:=pq<|gU b})
  {cls:=w a,data:=eZ #[w h.objs.size,bQ,bQ,bQ,eO u,bQ]},g,j,t,k⟩)(z:U b<=t9:=by size_fits):
 a7 (bL m n) o (Builtin.«type.__call__» ⟨w a::b,[]⟩) x y ⟨h,g,j,t,k⟩:=by
 repeat (first|with_reducible refine tY c ?_|with_reducible refine TJ c ?_|wp_step)
 refine codeAny_call_builtin_code (JN _ E1.quiet)<|Ř c ?_;have H {I:C8->cS->Prop} (f:I (.ok<|jM<|w<|d6 h.objs+1) ⟨dh (dh h {cls:=nu,data:=pq<|gU b})
  {cls:=w a,data:=eZ #[w h.objs.size,bQ,bQ,bQ,eO u,bQ]},g,j,t,k⟩):tT (bL m n) o (s6 "Exception.__new__" ⟨w a::b,[]⟩) I ⟨h,g,j,t,k⟩:=by
  have L:=E1;have N:=L.ends;have l:b6 (w a::rJ d.T) (jm)=true:=by simp only [AS,L.hasB]
  have x:b6 (w a::rJ d.T) (cJ "AttributeError")=false:=by simp only [AS,L.noAttr]
  have y:b6 (w a::rJ d.T) (cJ "NameError")=false:=by simp only [AS,L.noName]
  refine codeAny_builtinAt L.entry ?_;unfold Builtin.«BaseException.__new__»;refine _root_.PySem.wpAt_bind ?_;show _root_.PySem.wpAt _ _ _ (Cc>>=_) _ _ _;refine _root_.PySem.wpAt_bind (_root_.PySem.wpAt_stack λz g=> _root_.PySem.wpAt_of_wpAny ?_)
  wp_walk
  refine _root_.PySem.wpAt_of_wpAny (W L.owner ?_)
  repeat (first|with_reducible refine j L.canon c ?_|with_reducible refine tY c ?_|(with_reducible refine DB c ?_;first|refine W l ?_|rw [x]|rw [y])|wp_step)
  show I _ _;exact W (x! ..) f
 refine H ?_;show a7 _ _ _ _ _ _;have t:∀k o,aH h k=J o->aH (dh (dh h {cls:=nu,data:=pq<|gU b}) {cls:=w a,data:=eZ #[w h.objs.size,bQ,bQ,bQ,eO u,bQ]}) k=J o:=
  λk o m=>iT _ (iT _ m)
 have n:e.In (dh (dh h {cls:=nu,data:=pq<|gU b}) {cls:=w a,data:=eZ #[w h.objs.size,bQ,bQ,bQ,eO u,bQ]}):=λN o m=>t _ _ (p _ _ m);have z:aH (dh (dh h {cls:=nu,data:=pq<|gU b})
  {cls:=w a,data:=eZ #[w h.objs.size,bQ,bQ,bQ,eO u,bQ]}) (d6 h.objs+1)=J
  {cls:=w a,data:=eZ #[w h.objs.size,bQ,bQ,bQ,eO u,bQ]}:=by heap_get
 have g:b6 (w a::rJ d.T) (w a)=true:=by simp
 unfold ZU
 repeat (first|with_reducible refine tY z ?_|(with_reducible refine DB (t _ _ c) ?_;refine W g ?_)|wp_step)
 show a7 _ _ (typeLookup (w a) _) _ _ _;refine(LL n q).here ?_;refine hU<|aB<|(bind_fn n _ r).here<|aB<|kY f (λv s z=>?_) λZ Z z=>z;exact W z.1<|bq<|bq z.2
def ŭ(b:aH h a=J (xU a y))(k:d.In h)
 (l:hu d (w a) "__init__"=J (J<|w e))(m:oJ d (w e)=ph)
 (n:a7 (bL o p) (Aq.under<|s6 "type.__call__" ⟨w a::c,[]⟩) (call (w e)<|w (d6 h.objs+1)::c) (λv s=>v=bQ/\q (w<|d6 h.objs+1) s) r ⟨dh (dh h {cls:=nu,data:=pq<|gU c})
  {cls:=w a,data:=eZ #[w h.objs.size,bQ,bQ,bQ,eO u,bQ]},g,f,t,j⟩)(x:U c<=t9:=by size_fits):
 a7 (bL o p) Aq (call (w a) c) q r ⟨h,g,f,t,j⟩:=by
 have z:=tc_lookup;have H:=tc_bind<|w a;have I:jn (⟨h,g,f,t,j⟩:cS) (w a) "type":=⟨_,b,Y⟩;refine Bp<|codeAny_of_tree ?_;show a7 _ _ (callAny (w a) _) _ _ _
 repeat (any_goals (first|assumption|with_reducible refine tY b ?_|wp_step))
 exact br rfl<|codeAny_call_builtin_at (JN _ (by decide+kernel)) entry_typeCall<|wpAny_check_type_call_sub b<|Ω b k l m n x
end
def ō(h:La v=J a):v=cJ a:=by
 induction v with
 |type b=>exact aq _ (aC h)|_=>exact aI h
def af1:∀{l} {a:aa bo},R La l=R J a->l=R cJ a:=by
 intro l
 induction l with
 |nil=>intro a h;induction a with
  |nil=>rfl|cons _ _=>exact AV h
 |cons v r b=>intro a h;induction a with
  |nil=>exact jJ h|cons c a=>exact ak Dm ⟨ō (Dm.mp h).1,b (Dm.mp h).2⟩
def aiu(h:QR v=Q):∃a,v=w a:=by
 induction v with
 |ref a=>exact cM a rfl|_=>exact lO h
def Y9(h:Fo l=Q):∃r:aa cx,l=R w r++[jm,qF,e2]:=by
 induction l with
 |nil=>exact bU h|cons v r a=>
  have h:aD _ _ _=true:=h;cases e:QR v with
  |true=>rw [e] at h;exact ah (aiu e) λb q=>ah (a h) λc z=>⟨b::c,q▸z▸Y⟩|false=>rw [e] at h;exact⟨[],af1 (a:=["Exception","BaseException","object"])<|eq_of_beq h⟩
def aer(h:Fo l=Q):refuseLoop a "__setattr__" l=pure ():=by refine bp (Y9 h) λr e=>W e ?_;clear e h;exact r.rec (by kernel_rfl) λb r c=>af (refuseLoop_ref a _ b _) c
def aeY(h:Fo l=Q):b6 l (e2)=true:=bp (Y9 h) λr e=>W e<|ak gv<|fy _ (.tail _ (.tail _ (.head _)))
open Builtin Builtin.ObjectAttr Builtin.Getset_descriptor in
def ń{K}{x C}{s:cS}{tk}{r}(c:K.In s.heap)(I:InstAt s.heap x t C y)(l:F2 K C=Q)(m:uP K C d=J r)
 (n:∀f,a7 (bL a b) h.in1 (match r with|some j=>setByDescriptor j (w x) v|none=>storeInOwnDict (w x) (w C) (gP d tk) d v f)
  (λo e=>match o with| .done p=>g (.ok p) e| .again k=>k.quiet=Q/\tT (bL a b) h k g e) (λq e=>g (.error q) e) s):
 tT (bL a b) h (.call (eh "object.__setattr__") ⟨[w x,gP d tk,v],[]⟩) g s:=by
 have z:=ah3;refine aA (Om l) λH L N=>?_;have x:tZ H.mro=false:=by cases q:H.mro with|nil=>rw [q] at N;cases N|cons _ _=>rfl
 have e:Looks (bL a b) s.heap (ZU _ _) true:=I.type.andThen<|Wx c<|by unfold JU;exact W L<|W (Option.bind_some ..)<|W (aS<|by refine W x ?_;decide)<|aq _ (aeY N)
 refine V8 z.slot.plain z.entry<|@check_slot _ _ _ s "object.__setattr__" "object" "__setattr__" _ [gP d tk,v] [] _ z.kind z.split e (z.args _ _ v) (aA (iv.mp m) λg h k=>?_);have o:Looks (bL a b) s.heap (mroOf<|w C) H.mro:=(E0 c L).andThen .now;have p:Looks (bL a b) s.heap (storeTaker? g) r:=by
  induction g with
  |none=>cases k;exact .now|some j=>obtain⟨f,t,rfl⟩:=oI.mp k;refine(looks_takesIn c t).andThen ?_;cases f<;>exact .now
 rw [osa_eq,refuse_eq];exact aB<|aB<|I.type.here<|aB<|o.here<|W (aer N)<|bq<|aB<|I.type.here<|aB<|(LL c h).here<|aB<|p.here<|n _
abbrev w2(a:cx)(b:ba cx)(t:cx):fX:={cls:=w a,dict:=b,data:=eZ #[w t,bQ,bQ,bQ,eO u,bQ]}
abbrev BL:fX:={cls:=u1,data:=pM #[]}
inductive Qn(h:ie)(k:O)(d:cx):Prop
|mk (a:gM gE) (n:O) (g:aH h d=J (hx a n)) (r:∀b∈cR a,tV b=u) (l:d6 a<=k)
def EXd(a h)(e)(k)(d):=fR (aH a d=A) (d≠e)<|Qn h k d
inductive EX(a h:ie)(f e:cx)(k:O):Prop
|mk (c:ba cx) (t:cx) (g:∀b o,b≠e->aH a b=J o->aH h b=J o) (j:aH h e=J (w2 f c t)) (l:∀d,c=J d->EXd a h e k d)
def œ(b:tV (f A)=u)(h1:∀e,tV (f<|J e)=tV e):∀{a},Bw k l f a=r->(∀e∈a,tV e=u)->(∀e∈r.1,tV e=u)/\U r.1<=U a+1:=by
 intro a c;subst c;refine a.rec (λZ=>⟨gQ b lB,bb _⟩) λx r d=>λh=>?_;have g:=λe m=>h e<|cy _ m;unfold Bw;split
 .exact⟨gQ (af (h1 x)<|h x b8) g,fh _⟩
 .exact⟨gQ (h x b8) (d g).1,b2 (d g).2⟩
section
set_option tactic.hygienic true in
def N!{E:VP}{c:cS}{tk}{d:O}(x:Qn h k d)(l:k<60)
 (e:∀b f,t8 d h b->Qn b (k+1) d->g (.done (jM bQ)) {c with heap:=b,toks:=f}):
 a7 (bL m j) n (do nsSet d a v;lookBehind d (J<|gP a t);ret bQ) g E {c with heap:=h,toks:=tk}:=by
 induction x with|mk o n p q r=>
 refine aB<|aB<|aB<|Wl<|bq<|aB<|M8<|aB<|B3 p ?_;dsimp only;have s:(!o.any (·.key.isStr a)&&o.any (·.refKey))=false:=by
  have y:o.any (·.refKey)=false:=by
   refine ax ZY ?_;rw [Gl]
   exactλx z=>a5 (q x z)▸hz
  exact W y (pU ..)
 refine W (Ur ..)<|W s ?_;have H:∃I L,KI a (if xB (Z0 a)=Bool.true then 0 else PySem.reduceHash<|afg (bx j)<|Z0 a) (gP a tk) v (hx o n)=hx I L/\(∀N∈cR I,tV N=u)/\d6 I<=k+1:=by
  unfold KI;dsimp only;split<;>
  .rename_i b c;have f:=œ Y (λ_=>rfl) c q;exact⟨_,_,Y,f.1,ae f.2<|b2 r⟩
 refine ĺ p<|ah H λb g=>ah g λL g=>?_;have l:=m9 _ p (aq _ g.1);rw [g.1] at l;exact aB<|Wz l (T9<|a5 GB▸ae g.2.2 (by lia))<|bq<|e _ _ (nJ h d _) ⟨b,L,l,g.2.1,g.2.2⟩
def EX.In{a:Frag}(x:EX b h f e k)(c:a.In b)(d:b1 e a=A):a.In h:=by induction x with|mk g t j l m=>exactλa o q=>j _ _ (λz=>by subst z;rw [d] at q;cases q) (c _ _ q)
def ajF{E:VP}{d:cS}{K}{tk}(x:EX f h a e k)(g:k<60)(q:K.In f)(r:K.lookup e=A)(j:oE K a=J s)(l:s.hasDict=Q)
 (m:hu K (w a) "__setattr__"=J (J<|eh "object.__setattr__"))(n:F2 K a=Q)(o:uP K a t=J A)
 (Á:∀b c,EX f b a e (k+1)->v () {d with heap:=b,toks:=c}):a7 (bL y z) H (setAttr (w e) t I) v E {d with heap:=h,toks:=tk}:=by
 have L:=x.In q r
 induction x with|mk N t s v y=>
 induction N with
 |none=>
  have z:InstAt h e _ a none:=⟨v,Y,Y,a3⟩;refine K0 L z m<|ń (s:={d with heap:=h,toks:=tk+1}) L z n o λH=>aB<|bq<|aB<|aB<|B3 v<|aB<|(E0 L j).here<|W l<|aB<|wpAny_alloc ?_;have I:aH (dh h BL) e=J _:=iT _ v;refine aB<|wpAny_update I<|aB<|bq ?_;have x:aH (dh h BL) h.objs.size=J BL:=i1 _ Y;have AO:=nJ (dh h BL) e λq=>{q with dict:=J h.objs.size};have nd:=(fI<|ij v).symm;have r:aH (qR (dh h BL) e λq=>{q with dict:=J h.objs.size}) e=J _:=m9 _ I Y;have N:aH f h.objs.size=none:=by
   cases I:aH f h.objs.size with
   |none=>rfl|some q=>exact ay (ij<|s _ _ nd I)<|j7 _
  exact bq<|aB<|bq<|N! ⟨#[],0,af (AO.2 _ nd) x,lB,cQ k⟩ g λb c f k=>Á b c ⟨J h.objs.size,t,λH q x I=>af (f.2 H<|fI<|ij<|s _ _ x I)<|af (AO.2 H x)<|iT _ (s _ _ x I),af (f.2 e nd.symm) r,λÀ I=>ax (aC I)<|bZ N nd k⟩
 |some r=>
  have N:=y r Y;have z:∀y p,aH h r=J (hx y p)->InstAt h e _ a (J _):=λy p a=>⟨v,Y,Y,a⟩;cases(N J2) with|mk y p a Â Ã=>
  exact K0 L (z _ _ a) m<|ń (s:={d with heap:=h,toks:=tk+1}) L (z _ _ a) n o λH=>aB<|bq<|aB<|aB<|B3 v<|aB<|(E0 L j).here<|W l<|bq<|aB<|bq<|N! ⟨y,p,a,Â,Ã⟩ g λb c f k=>Á b c ⟨J r,t,λH q x I=>af (f.2 H λz=>by subst z;rw [N V] at I;exact aI I)<|s _ _ x I,af (f.2 e (N J1).symm) v,λÀ I=>ax (aC I)<|bZ (N V) (N J1) k⟩
def ahy{E:VP}{b:cS}{tk}{M}
 (c:aH h a=J (xU a d))(f:aH h e=J g)(j:g.cls=w a)(k:l () {b with heap:=h,toks:=tk}):
 a7 M n (Kf "Exception.__init__" ⟨w e::m,[]⟩) l E {b with heap:=h,toks:=tk}:=by
 have o:=E1;have p:b6 (w a::rJ d.T) (jm)=true:=W (AS ..)<|W o.hasB Y;have q:=o.noStar;simp only [Kf,o.initKind,o.initSplit,o.initRow]
 repeat (first|(with_reducible refine tY f ?_;refine W j ?_)|with_reducible refine tY c ?_|(with_reducible refine DB c ?_;refine W p ?_)|wp_step)
 refine wpAny_onRaise ?_;rw [show∀a b (n:O),agE ⟨.positional,"*","Exception", .self,[⟨"args", .varPos,u⟩]⟩ a b n (R (λx=>x.fst) ({pos:=w e::m}:Args).kw)=pure () from
  λa b n=>check_star_args _ _ _ _ _ _]
 exact bq k
def ŗ{E:VP}{b:cS}{tk}(x:EX c h a e k)(f:a≠e)(g:aH c a=J (xU a n))
 (j:∀d l,EX c d a e k->m bQ {b with heap:=d,toks:=l}):a7 (bL o p) q (call (eh "Exception.__init__") [w e,y]) m E {b with heap:=h,toks:=tk}:=by
 have r:=E1
 induction x with|mk s t v z H=>
 refine Bp<|V8 r.init.plain r.initEntry<|ahy (v _ _ f g) z Y<|aB<|wpAny_newTuple ?_;have I:aH (dh h<|Ac "tuple" #[y] 0) e=J (w2 a s t):=iT _ z;refine aB<|aB<|nD (s:={b with heap:=dh h<|Ac "tuple" #[y] 0,toks:=tk}) I Y Y<|aB<|uv (s:={b with heap:=dh h<|Ac "tuple" #[y] 0,toks:=tk}) I Y (k9 _)<|wpAny_letGo<|bq ?_;have L:=nJ (dh h<|Ac "tuple" #[y] 0) e<|zz (·.setIfInBounds 0 (w h.objs.size));refine j _ tk ⟨s,d6 h.objs,λb o N q=>af (L.2 b N)<|iT _ (v _ _ N q),m9 (zz (·.setIfInBounds 0 (w h.objs.size))) I Y,λd q=>?_⟩;have c:=H d q;cases(c J2) with|mk k n l m p=>exact bZ (c V) (c J1) ⟨k,n,af (L.2 d<|c J1)<|iT _ l,m,p⟩
end
def Nb(h:lX a.scope=jz):Nc a=false:=by unfold Nc;exact W h Y
noncomputable def Hu(e:cx)(y z:a0):bj->ba a0:=λx=>b1 x<|f7 ([(("self":bj),w e),("what",y),("at",z)]:aa<|bj×a0)
def HY{s:cS}{E:VP}(c:uo C d f a)(g:h.Ns L<|Hu e y z)(j:L≠e)(k:EX h b d e r)(l:b1 x (dm<|dX a)=dW)(m:Hu e y z x=J v)(n:(x==("__debug__":bj))=u)(o:p v {s with heap:=b,toks:=q}):
 za t (bC (cC x H)<|jH a L f) p E {s with heap:=b,toks:=q}:=by
 refine ah g λI q=>ah q λN q=>ah q λe q=>?_
 induction k with|mk x t s a L=>exact Qd (GG c.HO l ⟨I,N,e,s _ _ j q.1,q.2⟩ m o) n
def j?{s:cS}{E:VP}(À:eU)(a:uo C b j f)(g:c.Ns L<|Hu e y z)(h:L≠e)(l:C.K.In c)(m:b1 e C.K=A)(d:EX c n b e k)(o:k<60)(p:b1 x (dm<|dX f)=dW)(q:Hu e y z x=J v)(r:(x==("__debug__":bj))=u)(t:uP C.K b x=J A)
 (H:∀h2 I,EX c h2 b e (k+1)->N qI {s with heap:=h2,toks:=I}):za Á (xO (je [fx (cC "self" Â) x Ã] (cC x Ä) Å)<|jH f L j) N E {s with heap:=n,toks:=Æ}:=by
 refine ah a.agG λe x=>Gd (HY a g h d p q r ?_) Y Y;refine((W (İ ..)<|aB<|hU<|HY a g h d a.k1 Y Y<|aB<|r6<|aB<|hU<|ajF d o l m x.1 x.2 a.sa a.over t λh3 b c=>?_):a7 _ _ (assign _ _ v) _ _ _)
 exactλs p f=>W (A_ ..)<|H h3 b c
def ahQ{E:VP}{z}(b:eU)(a:uo C d f k)(l:iM m<mY)(c:cO C.I0 s.heap)(g:C.I0 e=A)(h:aH s.heap e=J (w2 d A n))
 (o:∀j p,EX s.heap j d e 2->q bQ {s with heap:=j,toks:=p}):za m (call (w f) [w e,y,z]) q E s:=by
 refine bp a.cls λr t=>zl a.fn λv x H I=>?_;obtain⟨Â,N,j,m,p,q,r,v,x,H,À,Á,c3,c4,L⟩:=a.body;have N:C.K.In s.heap:=λj m q=>c _ _ ((b V) _ _ q);have p:b1 e C.K=none:=by
  cases z:b1 e C.K with
  |none=>rfl|some m=>have r:=(b V) _ _ z;rw [g] at r;cases r
 have v:d≠e:=λz=>by subst z;rw [g] at t;cases t
 refine Bp<|O? l (c _ _ I) Y a.co a.gen (L J1) (a.code _ c)<|a.bind _ _ _ _ c _ _ _ _ (WZ a.aj3 (gQ a.k1<|gQ a.k2<|gQ a.k3 lB) (λx H r=>⟨((b J3) _ c).fresh _ r,VU ?_⟩) a.HO);have g:=λl m e=>r.extBut l m (fI<|ij e)<|iT _ e;have I:cO C.I0 x:=λj m q=>g _ _ (c _ _ q);have r:C.K.In x:=λj m q=>g _ _ (N _ _ q);have c:ajz s.heap s.heap.objs.size x _:=⟨H,g,bb _⟩;have j:=(fI<|ij h).symm;have Ã:hs (jH k s.heap.objs.size f):=bZ a.HO a.glob a.bi;refine zW<|UP (U! (λZ Z Z=>rfl) Y (show 2<30 by decide) (L V)<|W8 (n:="Exception") b Ã a.k4 Y a.mg (by decide+kernel) excClass_Exception.boot I λk=>method_type c N (by kernel_rfl) (by decide+kernel) a.exc (by decide+kernel) ?_) (Nb a.HO) Y;have L:EX x x d e 0:=⟨A,n,λl m Z q=>q,g _ _ h,λd q=>aI q⟩;refine ahL Y<|ajp<|Te<|HY a H j L a.k1 (v:=w e) Y Y<|Te<|HY a H j L a.k2 (v:=y) Y Y<|ŷ<|ŗ L v (I _ _ t) λh2 N c=>zW<|j? b a H j r p c (ao Y) a.k2 Y Y a.agx λh3 k x=>zW<|j? b a H j r p x (ao Y) a.k3 Y Y a.at_ λe h n=>yr ?_
 induction n with|mk y t v I L=>
 refine o e h ⟨y,t,λl m N q=>v _ _ N (g _ _ q),I,λd q=>?_⟩;have f:=L d q;refine bZ ?_ (f J1)<|f J2;cases z:aH s.heap d with
 |none=>rfl|some m=>simp only [<-(f V),g _ _ z]
def aa4{E:VP}(g:wt C)(c:uo C a q r)(j:iM Aq+5<mY)(k:Ok C m n z)(l:Le C.I0 z.I)
 (o:∀e b d f t,z.I e=A->Ok C m n (zh z b d)->aH b e=J (w2 a f t)->p (w e) {z.s with heap:=b,toks:=d}):a7 (bL C.dM C.w) Aq (call (w a) [y,h]) p E z.s:=by
 refine bp c.cls λs v=>?_;have x:cO C.I0 z.s.heap:=λH I e=>(k V).sI _ _ (l _ _ e);have L:jo z.s.heap (dh (dh z.s.heap {cls:=nu,data:=pq #[y,h]})<|w2 a A z.s.heap.objs.size):=λN I e=>iT _ (iT _ e);have m:aH (dh (dh z.s.heap {cls:=nu,data:=pq #[y,h]})<|w2 a A z.s.heap.objs.size) (d6 z.s.heap.objs+1)=J (w2 a A z.s.heap.objs.size):=by heap_get
 have n:aH z.s.heap (d6 z.s.heap.objs+1)=none:=by
  cases z:aH z.s.heap _ with
  |none=>rfl|some I=>exact ay (ij z)<|ak fS<|fh _
 have p:=(k V).qX n;refine ŭ (x _ _ v) (λH I q=>x _ _ ((g V) _ _ q)) c.init c.ity ?_;refine ahQ g c (e8 (show iM Aq+1<iM Aq+5 by lia) j) (λH I q=>L _ _ (x _ _ q)) (by
  cases q:C.I0 _ with
  |none=>rfl|some I=>exact ax p.1<|W (l _ _ q) Y) m λb d x=>br rfl ?_
 induction x with|mk f t r g _=>exact o _ b d f t p.1 (k.lH λN I q=>r _ _ (λz=>by subst z;rw [n] at q;exact aI q) (L _ _ q)) g
section
def ah6{E:VP}{M}(d:iw=A)
 (h:a7 M Aq x (λv a=>∃e t c,v=w e/\aH a.heap b=J (xU b f)/\aH a.heap e=J (w2 b c t)/\E (w e) a) E s):
 a7 M Aq (raiseStmt g (J x) A) j E s:=by
 have k:b6 (w b::rJ f.T) (qF)=true:=(AS ..);refine aB<|kY h (λv a l=>ah l λe l=>ah l λt l=>ah l λc l=>W l.1 ?_) λZ Z x=>x;have m:=l.2.1;have n:=l.2.2.1
 repeat (first|with_reducible refine tY n ?_|with_reducible refine tY m ?_|(with_reducible refine DB m ?_;refine W k ?_)|wp_step)
 exact wpAny_raiseNew_none d l.2.2.2
end
def Ec{c:Type}{l:aa c}{G:Prop}(h:U l=2)(g:∀a b,l=[a,b]->G):G:=by
 cases l with
 |nil=>cases h|cons a l=>exact bp (xT<|fZ h) λb e=>g a b<|aq _ e
def aaA{E:VP}{M}(c:bY d f z)(g:rb C z.I e z.s.heap)(b:∀a,Wd z.I z.H d f a->rb C z.I e a->h () {z.s with heap:=a}):a7 M j (setFlight e A) h E z.s:=by
 refine ah g λa x=>?_;rw [x.1] at b⊢;refine ah x.2.2 λk t=>?_
 induction t with|mk l m T n o g p d q r s v y H=>
 refine aB<|nD g d q<|W (aJ (rfl:_=Q)) ?_;have I:=(yR.mp H).1;exact uv v y I<|b _ (Lp (c V) r v y) ⟨a,Y,x.2.1,k,l,m,T,_,_,af (NR _ _ s) g,p,d,q,r,s,m9 _ v (xK<|pz y _),pz y _,by refine W (Og)<|W (aJ Y)<|W (aJ I) ?_;rfl⟩
def Y_:∀l,cW (kX l n) n=none:=pI Y λy a r b=>by
 refine(?_:cW (aD _ _ _) n=A)
 by_cases q:y=n
 .exact W q<|W (fJ ..) b
 .exact W (d4 q)<|af (xc q) b
def rb.un(c:bY h j z)(e:rb C z.I f z.s.heap){G:Prop}(g:∀a b d,f=w a->z.σ a=A->aH z.s.heap a=J b->b.cls=C.pe->hH b=eZ d->G):G:=by
 refine ah e λa x=>ah x.2.2 λk t=>?_
 induction t with|mk b d T l m n o p q r s v y H=>exact g a b d x.1 ((c J1).no<|(c V).nH.no (c V).sH.pC n p) n o.1 p
def agd{p0}(n:qZ (eP C a) t a c)(o:cd (eP C a) g a<|bC e a)(p:gc c=Q)(q:ng e (J c) p0.line a=pure u)(r:sh [c] e a=pure A)
 (h:bY d b z)(j:mI Aq z.I b)(k:gr z.I d a l)(s:cN Dq m g l z.σ<|Sp (mJ Dq (λZ=>bX) t) l N)(v:t4 C a b z N λZ x=>y qI x)(H:PX C d b z (eP C a) m f):dx (w4 [je [c] e p0] a) y f z.s:=zW<|Gd (o d b z l _ m _ f h j k s (λI L a z c r1 e=>W (U0 p)<|n d b a l I L N _ _ f c (j.on<|z V) (k.c7<|z V) r1 e (λm t o s x y b=>yr<|v m t o (z.bI s) x y b) λg y k h d x=>b4 x) H) q r
def abg(f:eU)(c:hs a)(d:c2 a (bu x)=dW)(g:c2 a (bu e)=dW)(h:(bu x==("__debug__":bj))=u)(j:bY k m z)(n:gr z.I k a l)
 (o:t4 C a m z (λp q=>p=ez (ez l x<|aj b) e (aj b)/\q=z.σ) λZ=>r qI):za t (NJ a (bu x)<|w b) (λZ s=>za v (w4 [je [cC (bu e) y] (cC (bu x) H) I] a) r L s) N z.s:=by
 have sx:∀{k},c2 a (bu k)=dW->yl a _=true:=λm=>ak kv<|aL<|by refine W m ?_;rfl
 refine AX f c (v:=aj b) (K:=λp q=>p=ez l x _/\q=z.σ) (sx d) j n Y ⟨Y,Y⟩ λr s t v y H I=>zW<|Gd (ah H λm L=>ah ((L J1) x _ (W I.1<|Fj l) d) λN a=>Qd (GG (c V) d ((L V).ns (y V).sF) a.1 ?_) h) Y Y;exact W (a.2:N=w b)<|Bi<|AX f c (v:=aj b) (K:=λp q=>p=ez _ e _/\q=z.σ) (sx g) y H Y ⟨W I.1 Y,I.2⟩ λp k j n r s t=>yr<|o p k j (v.bI n) r s t
def Kl(h:cW (kX (ez l c<|aj b) x) a=J d):a≠x/\cW (ez (ez l x<|aj b) c<|aj b) a=J d:=by
 have e:a≠x:=λq=>by subst q;rw [Y_] at h;cases h
 have h:=NA x _ h;refine br e ?_
 by_cases f:a=c
 .subst f;rw [Fj] at h⊢;exact h
 .rw [wA f] at h;exact W (wA f ..)<|W (wA e ..) h
def aiV(đ:eU)(g:hs a)(Å:px Aq a Á)(h:uo C Ä Â Ã){p0 è é ê ñ ý ÿ}(Þ:qZ (eP C a) ā a b)(Ï:cd (eP C a) e a<|bC d a)(ß:gc b=Q)(Ñ:ng d (J b) p0.line a=pure u)(Ý:sh [b] d a=pure A)
 (j:c2 a (bu x)=dW)(â:c2 a (bu c)=dW)(Î:nE a ç<|w Ä)(À:(bu x==("__debug__":bj))=u):
 i8 (eP C a) (.AZ ā e x c) a (.Try [je [b] d p0] [H6 (J<|cC ç è) (J<|bu x) [je [cC (bu c) é] (cC (bu x) ê) ñ] ý] [] [] ÿ):=by
 intro ć Đ Æ Ç È É Ê Ë Ì E Í L v Ð z Ò;obtain⟨Ó,Ô⟩:=h.cls;refine wpAny_Try_except<|agd Þ Ï ß Ñ Ý Í L v Ð (λÕ Ö Ø Ù Ú Û Ü=>yr<|(z V) Õ Ö Ø Ù Ú Û Ü) λe H s y à á=>?_;have I:=v.c7<|s V;refine ah I λã ä=>Pt y (L.on<|s V) Å (ä V) à λh2 å æ=>YG (y.sd å) æ λh3 N m=>?_;have n:bY ć Đ (zh H h3 H.s.toks):=y.sd N;refine m.un n λo ë ì í î ï ð ĕ=>?_;subst í;refine wpAny_handleBy_cons (codeAny_handlers_test<|Î (λo ò e=>N.sI _ _ ((L.on<|s V) V _ _ e))<|wpAny_excMatches_sub_self (N.sI _ _ ((L.on<|s V) V _ _ Ô)) ï (af ð h.pe) (show b6 (rJ Ó.T) _=Q by rfl)<|codeAny_handlers_suite_as<|aaA n m λó ô õ=>?_) (λö=>by cases ö);have ø:bY ć Đ (zh H ó H.s.toks):=y.sd ô;refine abg đ g j â À ø I λù ú û ü q þ r=>ah þ λĀ t=>wpAny_nameGoes_keeps j ((t V).ns (q V).sF) (by refine W (g V) ?_;rfl) λĂ ă Ą ą=>ah Ą λĆ l=>ah l λĈ l=>ah l λĉ l=>?_;cases id (t V) with|mk Ċ ċ ep Č č Ď ď=>
 rw [r.1] at t;exact(z V) _ _ _ (((s.bI .h).bI ü).bI .h) (gF ((q V).H9 Č ą l.1<|by unfold nf;exact W l.2.1 Y)<|q J1) (⟨_,eY ⟨Ć,Ĉ,ĉ,iJ ..,l.2.1,l.2.2.1,l.2.2.2⟩ (λk f e o=>((t J1) k f ((λĒ ē=>Kl) k f e).2 o).imp λĔ p=>br (af (if_neg λĖ=>((λĒ ē=>Kl) k f e).1<|(đ J1) _ _ Ė) p.1) p.2) (λk f e o=>((t J2) k f ((λĒ ē=>Kl) k f e).2 o).put λc Z ė Ĕ Ę ĕ=>(t V).EN Ę ĕ) (λk c e ę=>((t J3) k c e ę).imp λò p=>p.imp λĚ p=>br (af (lL<|(t V).EN p.1 p.2) p.1) p.2) (t J4)<|Qa<|t J5⟩) (W r.2<|á o î)
def adg:∀{l:aa<|bj×a0},bw (R (·.1) l)->(k,v)∈l->b1 k l=J v:=by
 intro l;refine l.rec (λZ h=>bG h) λq r a=>λnd h=>?_;have nd:=jk.mp nd
 induction q with|mk j b=>
 exact W qQ<|aP (mc h) (λe=>by cases e;exact W (jT ..) Y) λh=>W (ak lz λz=>nd.1 (ak jD ⟨_,h,z⟩):_=u)<|a nd.2 h
def L3(a:ud b=[(("__class__":bj),c)])(e:b1 n (ud b)=J d):n="__class__"/\d=c:=by
 rw [a,qQ] at e
 by_cases q:n="__class__"
 .subst q;exact br rfl<|a5<|aC e
 .rw [show _=u from ak lz q] at e;exact aI e
def afy{b:O}(g:wt C)(k:cm iR l=J d)(c:Bv C d b r s a t h)(f:ud a=[(("__class__":bj),v)])(m:iM e<mY)(o:∃i,nZ e=J i)(p:∀x∈dm (dX a),x.2≠hj)(j:∀x∈d.e4,b1 (C.S.nm x) (dm<|dX a)=dW)
 (q:∀L,Hp C (aK n) (rT e<|jH a L b) (eP C<|jH a L b) (sC h<|jH a L b) d.gZ (jH a L b)<|w4 h<|jH a L b):uB C (aK<|n+1) e l b:=by
 refineλy z H I N À h l r Á t v N h=>ah (YF k v) λk v=>ah ((c J9) z.s z.I H I k (l V).sI r t v.1) λH I=>ah I λt I=>ah o λi k=>?_
 have o:=af I.2.1.symm I.2.2.1.vh;refine ks_codeAny_call_defAt m ((l V).sI _ _ (r _ _ (c V))) Y ((g J3) _ λm L s=>(l V).sI _ _ (r _ _ s)) ((c J7) _ λm L s=>(l V).sI _ _ (r _ _ s)) (c J1) I.2.2.2 p (λx h=>T2 (q:=λp=>b1 p (dm<|dX a)=dW) o j h) (λh1 p Â=>?_) (c J5) (c J6)<|c J4;have x:Nu z.s z.s.heap.objs.size _ [] (λZ=>A) {z.s with heap:=h1,toks:=gu z.s+U (n6 C.S.nm d.e4 t)}:=
  ⟨⟨⟨h1,_,Y⟩,p,Â,bb _⟩,λZ Z s=>aI s,ip,λZ Z s=>bG s⟩
 have Ã:bw (R (·.1)<|n6 C.S.nm d.e4 t):=W (Lm o)<|M0 (g J1)<|c J8;have g:g7 C z.I (EK h1 z.s.heap.objs.size []) (jH a z.s.heap.objs.size b) (q2 d.e4 H):=by refine ah p λL t=>ah t λo t=>ah t λep t=>Y0 Y I.2.2.1 ⟨L,o,ep,CY (aL Y) t.1,t.2.1,t.2.2.1,t.2.2.2⟩ (λd Z H p m=>adg (W CI<|ak (uQ<|List.reverse_perm _) Ã)<|ak wD p) (λd L H p m=>ay (j d L)<|QH m) (λn t s o=>ay (L3 f s).1 o) λn j t s m=>af (L3 f s).1 (L3 f m).1.symm
 have d:Up C (rT e<|jH a z.s.heap.objs.size b) z.I y:=ZR k r Á;have H:px (rT e<|jH a z.s.heap.objs.size b) _ i:=bZ (w0 k) Y<|c J4;exact q _ _ y (zh z h1 _) _ _ _ _ À _ _ (gF (ļ (l V) x)<|l J1) d g (I.1▸v.2) (Xh<|N.on .h) (UD H d<|h.on .h)
def jK(h:dp a x k=Q):i5 a x=J k:=by
 unfold dp at h;cases e:i5 a x with
 |none=>exact bU<|e▸h|some j=>rw [e] at h;exact aq J<|eb h
def U_{G:Prop}(h:i5 (p::r) x=J j)(a:p.1=x->p.2=j->p.2≠4->G)(b:(p.2≠4->p.1≠x)->i5 r x=J j->G):G:=by
 have h:aD _ _ _=J j:=h
 by_cases q:p.2=4
 .rw [q] at h;exact b (λz=>b4<|z q) h
 .rw [d4 q] at h
  by_cases c:p.1=x
  .rw [c,fJ] at h;exact a c (aC h) q
  .rw [d4 c] at h;exact b (λZ=>c) h
def DC(h:p.2≠4):yL a p=(a p.1,xY p.2):=by unfold yL;exact W (d4 h) Y
def ł(h:p.2=4):yL a p=(("__class__":bj),kj):=by unfold yL;exact W h Y
section
variable{nm:O->bj}{X:aa<|O×O}{a:O}{c:O}
def Bh(e:∀b d,nm b=nm d->b=d)(jJ:∀b,nm b≠"__class__"):∀{X},i5 X a=J c->b1 (nm a) (nY nm X)=J (xY c):=by
 intro X;refine X.rec (λh=>by cases h) λp r f=>λh=>((U_ h (λg j k=>?_) λl h=>?_):b1 (nm a) (yL nm p::nY nm r)=_)
 .simp only [DC k,qQ,g,jT,j]
 .rw [qQ,show _=u from ak lz λq=>?_]
  .exact f h
  .by_cases m:p.2=4
   .rw [ł m] at q;exact jJ a q
   .rw [DC m] at q;exact l m (e _ _ q).symm
end
def OZ:∀{X},(n,k)∈nY a X->∃p∈X,yL a p=(n,k):=by intro X;exact X.rec bG λp r b=>λh=>aP (mc h) (λe=>⟨p,b8,a5 e⟩) λh=>(b h).imp λq h=>br (cy _ h.1) h.2
def A':∀{a},i5 a x=J j->(x,j)∈a:=by intro a;refine a.rec (λh=>by cases h) λp r b=>λh=>U_ h (λc d Z=>by refine ax c ?_;refine ax d ?_;exact b8) λZ h=>cy _ (b h)
abbrev sU:=C3 C
def Z?(c:eU)(d:dm a.scope=nY bu b)(e:∀x,i5 b x=J 3->∃f,b1 (bu x) (gi a)=J f):sU a b:=
 have go:∀{x j},i5 b x=J j->c2 a _=J (xY j):=λ{x j} h=>by show b1 _ (dm a.scope)=_;exact W d (Bh (c J1) (c J2) h)
 (dV (λx h=>go h) (λx h=>aw<|go h) (λx h=>go h) λx h=>⟨go h,e x h⟩)
def Ol{a:Type}{b}:∀{l:aa<|bj×a},b1 n l=J b->(n,b)∈l:=λh=>PySem.mem_of_lookup_some h
noncomputable def vU(a:jE):aa (bj×yc)->aa (bj×cx)->aa (bj×cx)
|[],b=>b|p::r,b=>vU a r (if p.2==kj then(match b1 p.1 (gi a) with|some a=>(p.1,a)::b|none=>b) else b)
def ahs{n:bj}{G:Prop}(h:b1 n (p::r)=J b)(f:n=p.1->p.2=b->G)(g:n≠p.1->b1 n r=J b->G):G:=by
 induction p with|mk m c=>
 rw [qQ] at h
 by_cases q:n=m
 .rw [q,jT] at h;exact f q<|aC h
 .rw [show _=u from ak lz q] at h;exact g q h
def I8{a:Type}{b}{r:aa<|bj×a}:b1 n ((n,b)::r)=J b:=by simp only [qQ,jT]
section
set_option tactic.hygienic true
def aau:∀{a} {b},(∀n c,b1 n b=J c->b1 n (gi d)=J c)->∀n c,b1 n (vU d a b)=J c->b1 n (gi d)=J c:=by
 intro a;refine @(a.rec (λh=>h) λp r e=>?_);intro b h;refine e λf g j=>?_;split at j
 .split at j
  .rename_i a k;exact ahs j (λq z=>by simp only [q,<-z];exact k) λ_ z=>h _ _ z
  .exact h _ _ j
 .exact h _ _ j
def akf(c:b1 n (gi e)=J d):∀{a} {b},(n,kj)∈a\/b1 n b=J d->b1 n (vU e a b)=J d:=by
 intro a;refine @(a.rec (λh=>aP h bG id) λp r f=>?_);intro b h;refine f<|aP h (λh=>aP (mc h) (λe=>?_) aL) λh=>aw ?_
 .exact ax e<|aw<|W (aJ (rfl:_=Q))<|W c I8
 .split
  .split
   .rename_i a g
    by_cases q:n=p.1
    .subst q;rw [c] at g;obtain rfl:=aC g;exact I8
    .exact W qQ<|W (ak lz q:_=u) h
   .exact h
  .exact h
end
def Xw:∀{l},E2 l=Q->bw l:=by intro l;refine l.rec (λZ=>yM) λx r a=>λh=>?_;have h:=iN h;refine ak jk ⟨λm=>?_,a h.2⟩;have b:=oW h.1 x m;rw [fJ] at b;exact bU b
def HG(X)(x j):=(j=0\/j=2)\/(j=1/\i5 X x=J 3)
def Mx(h:E6 a b=Q)(m:(x,j)∈b):HG a x j:=
aP (kv.mp<|oW (iN h).1 _ m) (λh=>aL<|aP (kv.mp h) (λh=>aL<|eb h) λh=>aw<|eb h) λh=>aw ⟨eb (iN h).1,jK (iN h).2⟩
def HG.lt(h:HG a x j):j≠4:=aP h (λh=>aP h (λe=>by refine W e ?_;decide) λe=>by refine W e ?_;decide) λh=>by refine W h.1 ?_;decide
def M':∀{a},j≠4->bw (R (·.1) a)->(x,j)∈a->i5 a x=J j:=by
 intro a b;refine a.rec (λZ h=>bG h) λp r c=>λnd h=>?_;have nd:=jk.mp nd;refine(aP (mc h) (λe=>?_) λh=>?_:aD _ _ _=J j)
 .exact ax e<|W (d4 b)<|W (fJ ..) Y
 .refine W (c nd.2 h) ?_;cases aE p.2 4 with
  |true=>rfl|false=>exact W (d4 λq=>nd.1<|ak jD ⟨_,h,a5 q⟩) Y
def aag:∀{a},(x,0)∈a->∀l,cW (sy a l) x=none:=by
 intro a;refine a.rec bG λp r b=>λh l=>(?_:cW (aD _ _ _) x=A);refine aP (mc h) (λe=>?_) λh=>by cases aE p.2 0<;>exact b h _
 refine ax e (?_:cW (sy r<|kX l x) x=A);cases z:cW _ x with
 |none=>rfl|some v=>exact a5<|af (Y_ l).symm<|Vd z
noncomputable def B9(a)(n)(k):=if(k==kj&&lX a.scope==jz&&c2 a n==J hj)=Q then hj else k
def E?:c2 (gR b (vU a (dm b) []) c a) n=(b1 n<|dm b).map (B9 a n):=by
 show(R _ (dm b)).lookup n=_;generalize dm b=d;refine d.rec Y λp r e=>?_
 induction p with|mk m j=>
 refine W tN ?_;have f:(if(j==kj&&lX a.scope==jz&&c2 a m==J hj)=Q then(m,hj) else(m,j))=(m,B9 a m j):=by unfold B9;split<;>rfl
 refine W (qQ:b1 n ((m,j)::r)=_)<|((W f<|W qQ ?_):((if _=Q then _ else(m,j))::R _ r).lookup n=_)
 by_cases q:n=m
 .exact W q<|W (jT ..) Y
 .exact W (ak lz q:_=u) e
def g?(Ñ:eU)(m:hs a)(Ê:sU a g)(h:E6 g d=Q)(É:lX c=jz)(l:dm c=nY bu d):∃f,z2 C a c f d/\∀b,sU (gR c f b a) d:=by
 have nd:=Xw (iN h).2;have o:∀{p q},(p,q)∈dm c->∃x r,p=bu x/\q=xY r/\(x,r)∈d/\HG g x r:=λ{p q} s=>by rw [l] at s;refine ah (OZ s) λt v=>?_;have y:=Mx h v.1;have e:=v.2;rw [DC y.lt] at e;cases e;exact⟨t.1,t.2,Y,Y,v.1,y⟩
 have H:∀{x r},i5 d x=J r->b1 _ (dm c)=J _:=λI=>W l<|Bh (Ñ J1) (Ñ J2) I;have À:∀p,(p,kj)∈dm c->d7 (b1 p<|gi a)=true:=λp s=>ah (o s) λx N=>ah N λr N=>by
  rcases N.2.2.2 with (I|I)|I
  .rw [I] at N;cases N.2.1
  .rw [I] at N;cases N.2.1
  .exact ah ((Ê J3) x I.2).2 λv l=>by rw [N.1,l];rfl
 have Ì:∀{p q} b,c2 (gR c _ b a) p=J q->∃x,p=bu x/\((q=v8/\(x,0)∈d)\/(q=qn/\(x,2)∈d)\/(q=hj/\(x,1)∈d/\i5 g x=J 3)):=λ{p q} b I=>by
  rw [E?] at I;refine ah (fA I) λÁ I=>ah (o<|Ol I.1) λx N=>ah N λr N=>⟨x,N.1,?_⟩;rw [<-I.2,N.2.1];rcases N.2.2.2 with (e|e)|e
  .rw [e] at N⊢;exact aL ⟨Y,N.2.2.1⟩
  .rw [e] at N⊢;exact aw<|aL ⟨Y,N.2.2.1⟩
  .rw [e.1] at N⊢;refine aw<|aw ⟨?_,N.2.2.1,e.2⟩;unfold B9;simp only [N.1,((Ê J3) x e.2).1,m V];rfl
 have m:∀{x r} b,i5 d x=J r->c2 (gR c (vU a (dm c) []) b a) (bu x)=J _:=λb I=>by simp only [E?,H I];rfl
 have Â {f:aa<|bj×cx} {g:aa<|O×O} (d:lX c=jz) (Ã:∀x∈dm c,x.2≠hj) (Ä:∀x∈dm c,x.2=v8->b1 x.1 (dm c)=dW) (Å:SD c a=pure f) (Æ:∀p y,b1 p f=J y->b1 p (gi a)=J y) (Ç:∀b p,uj (gR c f b a) p->uj a p/\∀y,b1 p (gi a)=J y->b1 p f=J y) (È:∀b x,c2 (gR c f b a) (bu x)=dW->∀n,cW (sy g n) x=A):z2 C a c f g:=kb d Ã Ä Å Æ Ç È;refine⟨vU a (dm c) [],Â É (λx f e=>?_) (λx f e=>?_) ((by
  rw [SD];have go:∀g (k:aa _),(∀p,(p,kj)∈g->d7 (b1 p<|gi a)=Q)->
   (forIn (m:=l9) g k λx L=>(match x with|(Í,d)=>if(d==kj)=Q then do let v<-NO a Í;pure (ub<|(Í,v)::L) else pure<|ub L))=pure (vU a g k):=by
   refine jd (λk Z=>rfl) λt L Î=>λk Ï=>?_;have Ð:=λË s=>Ï Ë<|cy _ s
   induction t with|mk p q=>
   refine W (Qx ..) ?_;show _=pure (vU a L (if q==kj then _ else k))
   by_cases e:q=kj
   .subst e;refine ah (vH.mp<|Ï p b8) λv l=>?_;have j:NO a p=pure v:=by unfold NO;exact W l Y
    simp only [j,l,pure_bind];exact Î _ Ð
   .have j:_=false:=ak lz e;simp only [j,Vb,if_false,pure_bind];exact Î _ Ð
  have j:=go (dm c) [] À
  simpa using j)) (λp y e=>aau (λZ Z e=>by cases e) p y e) (λb p I=>?_) λb x I n=>?_,λb=>dV (λx I=>m b I) (λx I=>?_) (λx I=>m b I) λx I=>?_⟩
 .refine ah (o f) λa N=>ah N λr N=>?_;rw [N.2.1] at e;rcases N.2.2.2 with (z|z)|z
  .rw [z] at e;cases e
  .rw [z] at e;cases e
  .rw [z.1] at e;cases e
 .refine ah (o f) λa N=>ah N λr N=>?_;rw [N.2.1] at e;rcases N.2.2.2 with (z|z)|z
  .simp only [N.1,H<|M' N.2.2.2.lt nd N.2.2.1,e]
  .rw [z] at e;cases e
  .rw [z.1] at e;cases e
 .refine aP I (λI=>?_) λI=>?_
  .refine ah (Ì b I) λx N=>?_;rcases N.2 with e|e|e
   .cases e.1
   .cases e.1
   .exact W N.1<|⟨aL ((Ê J3) x e.2.2).1,λy h=>akf h<|aL<|Ol<|H<|M' (ao Y) nd e.2.1⟩
  .refine ah (Ì b I) λx N=>?_;rcases N.2 with e|e|e<;>cases e.1
 .refine ah (Ì b I) λy N=>?_;rcases N.2 with e|e|e
  .exact W ((Ñ J1) _ _ N.1)<|aag e.2 n
  .cases e.1
  .cases e.1
 .refine W (m b I) ?_;unfold B9;split
  .exact aL Y
  .exact aw Y
 .rcases Mx h (A' I) with (e|e)|e
  .cases e
  .cases e
  .cases e.1
def abz{C}{fT}(c:wt C)(nd:∀x,(C.S.nm x==("__debug__":bj))=u)(d:∀x,(C.S.nm x==("__classdict__":bj))=u)(e:∀(g:O) p,Bg[g]?=J p->C.S.nm p.1=p.2/\C.mg p.2=A)(h:C.S.nm 261="ParseError")(j:∀x v,cm Fx x=J v->∃y,C.mg (C.S.nm x)=J y/\bD C.S C.I0 v y)(k:∀f,fT f=Q->∃a,C.fa f=J a/\C.mg (C.S.nm f)=J (w a))(l:∀f a,C.fa f=J a->wy C.K (w a)=Q)(m:∃b n o,uo C b n o/\C.mg "ParseError"=J (w b)/\wy C.K (w b)=Q):vD C fT:=ľ c nd d e h j k l m
def aU(h:(a&&b)=Q):a=Q/\b=true:=iN h
def oG{G:Prop}(h:(a||b)=Q)(f:a=Q->G)(g:b=Q->G):G:=aP (kv.mp h) f g
def nX(h:(!a)=Q):a=false:=by cases a;rfl;cases h
def C3.gk(a:sU b c)(h:dp c n 2=Q):c2 b (C.S.nm n)=J qn:=(a J2) n<|jK h
def C3.vis(a:sU b c)(h:UZ c n=Q):c2 b (bu n)=dW\/uj b (bu n):=
oG h (λh=>aL<|(a V) n<|jK h) λh=>aw<|oG h (λh=>(a J1) n<|jK h) λh=>aL ((a J3) n<|jK h).1
def C3.Ck(a:sU b c)(h:ve c n=Q):yl b (bu n)=Q:=
oG h (λh=>ak kv<|aL<|by refine W ((a V) n<|jK h) ?_;rfl) λh=>ak kv<|aw (by have c:=(a J3) n<|jK h;exact ah c.2 λa d=>by refine W c.1<|W d ?_;rfl)
abbrev jv:=wV C Dq Aq
def vD.bi(g:lP)(a:jv l c m d)(b:O){id}(e:Bg[b]?=J (id,s))(f:dp c id 2=Q)(h:(s==("__debug__":bj))=u)(j:s≠"__name__")(k:tM s=J v):nE d s v:=by
 have n:=(g J3) b _ e;have o:=(a J3).gk f;rw [n.1] at o
 exactλ{_ _ _ _ _} p q=>W8 (g V) (a V) o h n.2 j k p q
def dR{G:Prop}(h:u=Q):G:=b4<|hz h
noncomputable def ŕ(n:O):=[0,2,3,5,6,8,15,16,19,20,21,23,24,25].any<|aE n
def Oo(c a)(x):=O7 (gc x=Q) (FY x=Q) (∀o,Kc o x=u) (∀b v,D1 x b v=pure v) (c=u->∀t l b,ng x t l b=pure u) (∀d n p l b,ng x (J<|fx d n p) l b=pure u) (∀d e p l b,ng x (J<|tv d e p) l b=pure u) (∀v k p l b,ng x (J<|gq v k p) l b=pure u)<|a=u->∀v k p b,sh [gq v k p] x b=pure A
def ny(c:gc x=Q)(d:FY x=Q)(e:∀o,Kc o x=u)(f:∀a v,D1 x a v=pure v)(g:h=u->∀t l a,ng x t l a=pure u)(j:∀b n p l a,ng x (J<|fx b n p) l a=pure u)(m:∀b q p l a,ng x (J<|tv b q p) l a=pure u)(r:∀v k p l a,ng x (J<|gq v k p) l a=pure u)(s:y=u->∀v k p a,sh [gq v k p] x a=pure A):Oo h y x:=ľ c d e f g j m r s
def tt:Q=true:=Y
def ff:u=false:=Y
def cV:(pure u:l9 bc)=pure false:=Y
def pJ:(pure A:l9<|ba<|aa bj)=pure none:=Y
def n4(v):(pure v:l9 a0)=pure v:=Y
def CT(a:Zq.E->Prop)(k:O):=aD (aE k 1) (∀b,a<|d9 b)<|aD (aE k 8) (∀b c d,a<|hC b c d)<|aD (aE k 15) (∀b,a<|oO b)<|aD (aE k 17) (∀b c,a<|fL b c)<|aD (aE k 23) (∀b c d,a<|qk b c d)<|aD (aE k 24) (∀b c d e f g h,a<|nj b c d e f g h) bX
def By{k:O}(e)(h:aE e.ctorIdx k=Q)(q:CT a k):a e:=
E.casesOn (motive:=λe=>CT a e.ctorIdx->a e) e (λZ q=>b4 q) (λa q=>q a) (λZ q=>b4 q) (λZ Z q=>b4 q) (λZ Z q=>b4 q) (λZ q=>b4 q) (λZ Z Z q=>b4 q) (λZ Z q=>b4 q) (λa b c q=>q a b c) (λZ Z Z q=>b4 q) (λZ Z Z Z Z q=>b4 q) (λZ Z Z q=>b4 q) (λq=>b4 q) (λZ Z q=>b4 q) (λZ q=>b4 q) (λa q=>q a) (λq=>b4 q) (λa b q=>q a b) (λZ q=>b4 q) (λZ Z Z q=>b4 q) (λZ Z Z q=>b4 q) (λZ Z q=>b4 q) (λZ Z Z q=>b4 q) (λa b c q=>q a b c) (λa b c d e f g q=>q a b c d e f g) (eb h▸q)
def ag8(h:(ŕ x.ctorIdx&&((c|| !aE x.ctorIdx 8)&&(a|| !aE x.ctorIdx 25)))=Q):Oo c a x:=by
 have h1:=(aU h).1;have h2:=(aU (aU h).2).1;have h3:=(aU (aU h).2).2;clear h;cases x with
 |BoolOp=>exact ny tt tt (λZ=>ff) (λZ=>n4) (λZ Z Z Z=>cV) (λZ Z Z Z Z=>cV) (λZ Z Z Z Z=>cV) (λZ Z Z Z Z=>cV) λZ Z Z Z Z=>pJ|BinOp=>exact ny tt tt (λZ=>ff) (λZ=>n4) (λZ Z Z Z=>cV) (λZ Z Z Z Z=>cV) (λZ Z Z Z Z=>cV) (λZ Z Z Z Z=>cV) λZ Z Z Z Z=>pJ|UnaryOp=>exact ny tt tt (λZ=>ff) (λZ=>n4) (λZ Z Z Z=>cV) (λZ Z Z Z Z=>cV) (λZ Z Z Z Z=>cV) (λZ Z Z Z Z=>cV) λZ Z Z Z Z=>pJ|IfExp=>exact ny tt tt (λZ=>ff) (λZ=>n4) (λZ Z Z Z=>cV) (λZ Z Z Z Z=>cV) (λZ Z Z Z Z=>cV) (λZ Z Z Z Z=>cV) λZ Z Z Z Z=>pJ|Dict=>exact ny tt tt (λZ=>ff) (λZ=>n4) (λZ Z Z Z=>cV) (λZ Z Z Z Z=>cV) (λZ Z Z Z Z=>cV) (λZ Z Z Z Z=>cV) λZ Z Z Z Z=>pJ|ListComp=>exact ny tt tt (λZ=>ff) (λZ=>n4) (λh=>by rw [h] at h2;exact dR h2) (λZ Z Z Z Z=>cV) (λZ Z Z Z Z=>cV) (λZ Z Z Z Z=>cV) λZ Z Z Z Z=>pJ|Compare=>exact ny tt tt (λZ=>ff) (λZ=>n4) (λZ Z Z Z=>cV) (λZ Z Z Z Z=>cV) (λZ Z Z Z Z=>cV) (λZ Z Z Z Z=>cV) λZ Z Z Z Z=>pJ|Call=>exact ny tt tt (λZ=>ff) (λZ=>n4) (λZ Z Z Z=>cV) (λZ Z Z Z Z=>cV) (λZ Z Z Z Z=>cV) (λZ Z Z Z Z=>cV) λZ Z Z Z Z=>pJ|Constant=>exact ny tt tt (λZ=>ff) (λZ=>n4) (λZ Z Z Z=>cV) (λZ Z Z Z Z=>cV) (λZ Z Z Z Z=>cV) (λZ Z Z Z Z=>cV) λZ Z Z Z Z=>pJ|Attribute=>exact ny tt tt (λZ=>ff) (λZ=>n4) (λZ Z Z Z=>cV) (λZ Z Z Z Z=>cV) (λZ Z Z Z Z=>cV) (λZ Z Z Z Z=>cV) λZ Z Z Z Z=>pJ|Subscript=>exact ny tt tt (λZ=>ff) (λZ=>n4) (λZ Z Z Z=>cV) (λZ Z Z Z Z=>cV) (λZ Z Z Z Z=>cV) (λZ Z Z Z Z=>cV) λZ Z Z Z Z=>pJ|Name=>exact ny tt tt (λZ=>ff) (λZ=>n4) (λZ Z Z Z=>cV) (λZ Z Z Z Z=>cV) (λZ Z Z Z Z=>cV) (λZ Z Z Z Z=>cV) λZ Z Z Z Z=>pJ|List=>exact ny tt tt (λZ=>ff) (λZ=>n4) (λZ Z Z Z=>cV) (λZ Z Z Z Z=>cV) (λZ Z Z Z Z=>cV) (λZ Z Z Z Z=>cV) λZ Z Z Z Z=>pJ|Tuple=>exact ny tt tt (λZ=>ff) (λZ=>n4) (λZ Z Z Z=>cV) (λZ Z Z Z Z=>cV) (λZ Z Z Z Z=>cV) (λZ Z Z Z Z=>cV) (λh=>by rw [h] at h3;exact dR h3)|_=>exact dR h1
def gY(e)(x):Oo (OD e) (vm e) (rE a mn e x):=ag8 (by
 induction e with
 |CC f a=>cases f<;>exact tt|EA f a b=>cases f<;>exact tt|_=>exact tt)
def uq(e):∀a,U (hy b mn e a)=mf e:=by
 induction e with
 |cons c r _ d=>exactλa=>aq _ (d a.tail)|_=>exactλZ=>rfl
def D4(e):∀a,qK (hy b mn e a)=true:=by
 induction e with
 |cons c r _ d=>exactλa=>ak dB ⟨(gY c _) V,d a.tail⟩|_=>exactλZ=>rfl
def adk{x:cZ}(h:U l≠0):NB (dZ (cC f p) l [] x.pos):=by
 induction l with
 |nil=>exact ay Y h|cons _ _=>exactλZ Z a=>GF a
def C6(h:(!o3 e)=Q)(x):NB (rE a mn e x):=by
 induction e with
 |CC f b=>cases f<;>exactλZ Z c=>GF c|EA f b b=>cases f<;>exactλZ Z c=>GF c|call f d=>exact adk (l:=hy a mn d (pt x).tail) (by rw [uq];exactλq=>by rw [show o3 _=aE (mf d) 0 from Y,q] at h;exact bU h)|_=>exactλZ Z c=>GF c
def BU(h:tC x=Q):(n7 (h1 x).pos==l5 x.pos)=true:=ak ru<|eb h
def AB(h:kQ e=Q):e=kr bk:=by
 induction e with
 |lit v=>exact aq kr<|D9 h|_=>exact dR h
def aaM(h:tB e=Q):e=kr (bS Q):=by
 induction e with
 |lit v=>exact aq kr<|(by
  cases v with
  |bool b=>exact aq bS h|_=>exact dR h)
 |_=>exact dR h
def Y5{f:O->bc}(h:aE e.ctorIdx 1=Q)(a:f (ep e).n=Q):∃n,e=d9 n/\f n=Q:=
By (a:=λe=>f (ep e).n=Q->∃n,e=d9 n/\f n=Q) e h (λn a=>⟨n,Y,a⟩) a
def Jr(h:GL f e=Q):∃n,e=d9 n/\f n=true:=Y5 (aU h).1 (aU h).2
def SE(e):xu f e=Q->∀b,∃a,e=q7 a/\hy bu mn e b=ja C a/\(∀q∈a,f q.1=Q)/\S6 e=R (·.1) a:=by
 induction e with
 |nil=>exactλZ b=>⟨[],Y,Y,lB,Y⟩|cons c r _ d=>intro h b;have h:=aU h;have h2:=aU h.2;exact ah (d (ak dB ⟨h.1,h2.2⟩) b.tail) λa q=>ah (Jr h2.1) λn v=>W v.1<|⟨(n,(hE b).pos)::a,aq _ q.1,aq _ q.2.1,gQ v.2 q.2.2.1,aq _ q.2.2.2⟩|_=>exactλh=>dR (aU h).1
variable{s:PT}{n:v7}{o:EB}{c:jE}{X r:aa<|O×O}{h j:bc}{a p t d g k:Zq.E}{b m:cZ}{q:aa cZ}{f:O}{l:la}
def VC(C)(s)(n)(o)(j)(a)(c)(b):=aD j (e_ C s n o a c b)<|vn C s n o a c<|bC b c
abbrev fM:=VC C Dq Aq
def iD(g:PlT b)(d:cd o a c<|bC b c):fM o j a c b:=by
 induction j
 .exact d
 .exactλh k n p q r s E t q s e v l x=>isTrue_plain (d h k n p _ r _ E t q s e (λd m h k n r1 p=>JQ n r1 (v _ _ p).tr λj f r=>l j d ⟨h.I,h.H,h.σ,{h.s with toks:=f}⟩ (k.bI Nx.h) (n.lH<|xh _) r p) x)<|g _ _
def aby(a:fM o j d c b)(h:fM o j g c m):fM o j (.and d g) c (z3 .And [b,m] l):=by
 induction j
 .refineλk n p q Â s À E e v x y z H=>wpAny_And2<|a k n p q _ s _ E e v x y (λI L N L t r1 Á=>JQ t r1 Á λj f r=>?_) H
  induction j with
  |true=>exact h k n _ q _ s _ E (t.lH<|xh _) (v.on<|L V) (x.c7<|L V) r (z.on<|L.bI .h) (H.on<|L.bI .h)|false=>exact(z.on L).fq t r1 r
 .refineλk n p q Â s À E e v x y z l H=>Tw<|a k n p q _ s _ E e v x y (λI a p=>vQ p) (λj I N L t a r=>?_) H
  have r:=a _ r
  induction j with
  |false=>exact l u I N L t a r|true=>
   refine Tw<|h k n N q Â s _ E t (v.on<|L V) (x.c7<|L V) r z (λj I p h k a r=>?_) (H.on L);have n:=l j I p (L.bI h) k a r
   induction j with
   |true=>exact isTrue_and_nil n|false=>exact n
def aa1(a:fM o j d c b)(h:fM o j g c m):fM o j (.or d g) c (z3 .Or [b,m] l):=by
 induction j
 .refineλk n p q Â s À E e v x y z H=>wpAny_Or2<|a k n p q _ s _ E e v x y (λI L N L t r1 Á=>JQ t r1 Á λj f r=>?_) H
  induction j with
  |false=>exact h k n _ q _ s _ E (t.lH<|xh _) (v.on<|L V) (x.c7<|L V) r (z.on<|L.bI .h) (H.on<|L.bI .h)|true=>exact(z.on L).fq t r1 r
 .refineλk n p q Â s À E e v x y z l H=>isTrue_or<|a k n p q _ s _ E e v x y (λI a p=>vQ p) (λj I N L t a r=>?_) H
  have r:=a _ r
  induction j with
  |true=>exact l Q I N L t a r|false=>
   refine isTrue_or<|h k n N q Â s _ E t (v.on<|L V) (x.c7<|L V) r z (λj I p h k a r=>?_) (H.on L);have n:=l j I p (L.bI h) k a r
   induction j with
   |false=>exact isTrue_or_nil n|true=>exact n
def abO(a:fM o j d c b):fM o j (.not d) c (t5 .Not b l):=by
 induction j
 .exactλg h k n p q r E s t e v x y=>K'<|a g h k n _ q _ E s t e v (λz m H I L r1 N=>not_of<|JQ L r1 N λj f H=>(x.on I).fq L (v:=bS !j) Y H) y
 .exactλg h k n p q r E s t e v p l y=>isTrue_not<|a g h k n _ q _ E s t e v (λz r a=>vQ a) (λj z m I L g H=>l _ _ m I L Ig (g _ H)) y
def JK(a:lD)(e):nq e (mM<|xr e):=by
 induction e with
 |Eq=>exact ag4 a|NotEq=>exact abj a|Lt=>exact aju|LtE=>exact abN|Gt=>exact acV|GtE=>exact afJ|Is=>exact adi a|IsNot=>exact ajl a|In=>exact acw|NotIn=>exact agS
def ς(b:lP)(d:hs c)(g:c2 c (bu f)=J qn):cd o (.glob f) c (bC (cC (bu f) l) c):=λh j k n p q r E s t h j k n=>ah (ew j) λp a=>ah ((b J5) f p a.1) λm q=>PQ (b V) d g ((b J1) f) q.1 (s.i0 t)<|k.n2 s (q.2.ek<|t V) a.2
def MX(C)(s)(n)(fT)(mn)(a):=∀{o X h c},wV C s n o X h c->∀j b,pN fT a j X h b=Q->VC C s n o j a c (rE C.S.nm mn a b)
def ML(C)(s)(n)(fT)(mn)(a):=∀{o X h c},wV C s n o X h c->∀q,sm fT a X h q=Q->d? C s n o a c (hy C.S.nm mn a q)
abbrev ME(C)(s)(n)(fT)(mn)(a):=MX C s n fT mn a/\ML C s n fT mn a
abbrev cT:=pN fT
abbrev cz:=rE bu mn
abbrev d1:=MX C Dq Aq fT mn
def vX{id}(k:lP)(a:jv o X h c)(l:d1 d)(f:O)(m:Bg[f]?=J (id,e))(n:(e==("__debug__":bj))=u)(p:e≠"__name__")(q:tM e=J v)(r:JX v)(s:s7 x v)(g:(dp X id 2&&cT d u X h (h2 b))=Q):
fM o j (ti x d) c (rC e (cz d) b):=iD (λZ Z=>rfl)<|afF (k.bi a f m (aU g).1 n p q) r ((gY d _) V) (l a u _ (aU g).2) s
def ae6(a:jv o X h c)(f:d1 d)(g:cT d u X h (h1 b)=Q):fM o j (ti .neg d) c (t5 .USub (cz d<|h1 b) l):=iD (λZ Z=>rfl)<|U8<|f a u _ g
def aa2(a:jv o X h c)(f:d1 d)(g:cT d u X h (h1 b)=Q):fM o j (ti .rev d) c (tv (cz d<|h1 b) (y8 A A (J<|t5 .USub (CQ (.int 1) e v) x) y) l):=iD (λZ Z=>rfl)<|aaQ<|f a u _ g
def abe(f:lP)(a:jv o X h c)(g:d1 d)(k:(dp X 271 2&&dp X 15 2&&cT d u X h (h2 b))=Q):fM o j (ti yq d) c (GH "isinstance" (cz d) (λm=>cC "str" m.pos) b):=by have s1:=aU k;have s2:=aU s1.1;exact iD (λZ Z=>rfl)<|ai9 (f.bi a 4 Y s2.1 Y (by decide+kernel)<|by kernel_rfl) (f.bi a 3 Y s2.2 Y (by decide+kernel)<|by kernel_rfl) ((gY d _) V)<|g a u _ s1.2
def rL(a:jv o X h c)(k:d1 d)(l:d1 g)(n:p5 e<|oY v)(f:(cT d u X h (h1 b)&&cT g u X h (h2 b))=Q):fM o j (hC e d g) c (rB v (cz d) (cz g) b):=
iD (λZ Z=>rfl) ((by
 refineλp q r s t t x E y z H I L N=>wpAny_BinOp<|(k a u _ (aU f).1) p q r s _ t _ E y z H I (λk b r k e r1 v=>(l a u _ (aU f).2) p q r s _ t _ E e (z.on<|k V) (H.c7<|k V) v (λa m f l p r2 q=>?_) (N.on k)) N
 exact n p ((z.on<|k V).on (l V) V) (r1.ek<|l V) r2 q<|L.on<|k.bI l))
def amc(m:lP)(a:jv o X h c)(k:d1 d)(l:d1 g)(e)(f:s2 X h e (cT d u X h) (cT g u X h) b=Q):fM o j (hC e d g) c (r2 e (cz d) (cz g) b):=by
 induction e with
 |workerExited=>exact(by have s1:=aU f;have s2:=aU s1.2;exact iD (λZ Z=>rfl)<|aaW (a J2) (m.bi a 9 Y s1.1 Y (by decide+kernel)<|by kernel_rfl) ((gY d _) V) ((gY g _) V) (k a u _ s2.1)<|l a u _ s2.2)|workerCrashed=>exact iD (λZ Z=>rfl)<|ae7 (a J1) ((gY g _) J1) (k a u _ (aU f).1)<|l a u _ (aU f).2|parseError=>exact rL a k l aeO f|invalidRequest=>exact rL a k l afe f|methodNotFound=>exact rL a k l ajf f|invalidParams=>exact rL a k l (agL (a J1) (m V)<|(a J6) (aU f).1) (aU f).2|internalError=>exact rL a k l alu f|serverNotInitialized=>exact rL a k l aj8 f|unknownErrorCode=>exact rL a k l abL f|contentModified=>exact rL a k l Δ f|requestCancelled=>exact rL a k l adl f|rpcNeedsReconnect=>exact rL a k l ae8 f
def p?(a:jv o X h c)(g:d1 d)(f:(kQ d||cT d u X h b)=Q):cd o d c (evalPart (rO d<|cz d b) c):=by
 unfold rO;cases e:kQ d with
 |true=>exact W (AB e) λj k l m n p q E a r s t j k=>Ha<|j.n2 a (v:=bk) Y t|false=>rw [e] at f;exact g a u _ f
def EG(b:vm a=Q):∃p,a=oO p:=By (a:=λa=>∃p,a=oO p) a b λp=>cM p rfl
def Oq(k:lP)(f:jv o X h c)(l:d1 d)(n:d1 g)(e)(j:sI X e t g (cT d u X h) (cT g u X h) b=Q):vu o (cz t m) e d g c (rI e (cz d) (cz g) b):=by
 induction e with
 |integer=>exact W (AB (aU j).1)<|(by
  refineλr s z v x y H E I L N e x H=>(l f u _ (aU j).2) r s z v _ y _ E I L N e (λr m s z v r1 y=>?_) H
  have y:w9 r s.σ _:=y;exact(Ke▸y) _ (λr=>ah (Jb r) λq k=>ahH (f J2) v r1 k.1 k.2<|x.r z v) λr=>alY (f J2) v r1 r<|x.r z v)
 |text=>have s1:=aU (aU j).2;exact W (AB (aU j).1)<|afr (f J2) (k.bi f 10 Y s1.1 Y (by decide+kernel)<|by kernel_rfl) ((gY d _) V)<|l f u _ s1.2|blob=>have s1:=aU (aU j).2;exact agj (f J2) (k.bi f 10 Y (aU j).1 Y (by decide+kernel)<|by kernel_rfl) ((gY d _) V) ((gY g _) V) (l f u _ s1.1)<|n f u _ s1.2|real=>have s1:=aU (aU j).2;exact W (AB (aU j).1)<|Z7 (k.bi f 11 Y s1.1 Y (by decide+kernel)<|by kernel_rfl) ((gY d _) V) (l f u _ s1.2) λI s r x=>ah (Jb r) λq n=>aji (f J2) I s n.1 n.2 x|numeric=>have s1:=aU (aU j).2;have s2:=aU s1.2;exact W (AB (aU j).1)<|ah (EG s1.1) λp a=>W a<|adY (f J2) (k.bi f 12 Y s2.1 Y (by decide+kernel)<|by kernel_rfl) ((gY d _) V)<|l f u _ s2.2
def J'(g:lP)(d:jv o r h c)(a:Hw (λk=>dp r k 0) t=Q)(b):zk t c (cz t b):=
oG a (λa=>ah (Jr a) λf l=>W l.1<|λn q k s n m k q s E n k q s e=>Bi<|Ļ (g V) (d V) ((d J3) V f<|jK l.2) n k q λn k j q n=>e _ _ _ .h q n Hd.put s) λa=>ah (EG (aU a).1) λp l=>by have s2:=(aU a).2;rw [l] at s2⊢;exact ah (SE p s2<|pt b) λk a=>by refine(?_:zk _ c (gq (hy bu mn p<|pt b) _ b.pos));exact W a.2.1<|W a.1<|afY (g V) (d V) (d J2) λl s=>(d J3) V _ (jK<|a.2.2.1 l s)
def u?(a:jv o r h c)(f:d1 k)(d:(tB k||cT k Q r h b)=Q):B1 k c (aD (tB k) [] [cz k b]):=by
 cases e:tB k with
 |true=>exact W (aaM e) λG g j l m n a p q s t=>wpAny_tests_nil<|t Q j (rz j) a s|false=>rw [e] at d;exact agW<|f a Q _ d
def zN(a:jv o X h c)(b:lX e=jz)(d:sU (gR e v x c) r):jv (λZ Z Z=>bh) r u (gR e v x c):=
uw (bZ b ((a V) J1)<|(a V) J2) (a J1) (a J2) d (λZ Z Z Z=>trivial) (iB (a J5) V) lO<|a J7
end
section
variable{s:PT}{t:v7}{k:EB}{h:jE}{X o:aa<|O×O}{e d:bc}{l f p b c g:Zq.E}{a r:cZ}{n:aa cZ}{j q:O}{m:la}
def h4(a:d1 l)(b:∀X e n,sm fT l X e n=u):ME C Dq Aq fT mn l:=br a<|λc n d=>dR<|af (b _ _ n).symm d
section
variable(o:vD C fT)(n:wV C Dq Aq k X e h)
include n
def π(g:d1 b)(j:d1 c)(f:(cT b d X e (h1 a)&&cT c d X e (h2 a))=Q):fM k d (.and b c) h (z3 .And [cz b<|h1 a,cz c<|h2 a] m):=aby (g n d _ (aU f).1)<|j n d _ (aU f).2
def aaL(g:d1 b)(j:d1 c)(f:(cT b d X e (h1 a)&&cT c d X e (h2 a))=Q):fM k d (.or b c) h (z3 .Or [cz b<|h1 a,cz c<|h2 a] m):=aa1 (g n d _ (aU f).1)<|j n d _ (aU f).2
def alk(c:d1 b)(f:cT b d X e (h1 a)=Q):fM k d (.not b) h (t5 .Not (cz b<|h1 a) m):=abO<|c n d _ f
def aeA(f:d1 g)(j:d1 b)(l:d1 c)(o:(!d&&(cT g Q X e (h1 a)&&(cT b u X e (h2 a)&&cT c u X e (h3 a))))=Q):fM k d (.ite g b c) h (.IfExp (cz g<|h1 a) (cz b<|h2 a) (cz c<|h3 a) m):=by have s1:=aU o;have s2:=aU s1.2;have p:=aU s2.2;exact W (nX s1.1)<|alU (f n Q _ s2.1) (j n u _ p.1)<|l n u _ p.2
def aar(g:d1 b)(j:d1 c)(f:(cT b u X e (h1 a)&&cT c u X e (h2 a))=Q):fM k d (.cmp v b c) h (xk (cz b<|h1 a) [xr v] [cz c<|h2 a] m):=(by
 induction d
 .exact ai6 (JK (n J1) v) (g n u _ (aU f).1) (j n u _ (aU f).2)<|(gY c _) J2 _
 .exact aaN (JK (n J1) v) (g n u _ (aU f).1) (j n u _ (aU f).2)<|(gY c _) J2 _)
def akv(f:d1 b)(j:d1 c)(l:d1 g)(o:(d&&(cT b u X e (h1 a)&&(cT c u X e (h2 a)&&cT g u X e (h3 a))))=Q):fM k d (yo v x b c g) h (xk (cz b<|h1 a) [xr v,xr x] [cz c<|h2 a,cz g<|h3 a] m):=by have s1:=aU o;have s2:=aU s1.2;have p:=aU s2.2;exact W s1.1<|acr (JK (n J1) v) (JK (n J1) x) (f n u _ s2.1) (j n u _ p.1) (l n u _ p.2)<|(gY g _) J2 _
def alp(f:d1 l)(g:d1 b)(j:d1 c)(o:(cT l u X e (h1 a)&&((kQ b||cT b u X e (h1<|h2 a))&&(kQ c||cT c u X e (h2<|h2 a))))=Q):fM k d (.slice l b c) h (tv (cz l<|h1 a) (y8 (rO b<|cz b<|h1<|h2 a) (rO c<|cz c<|h2<|h2 a) A v) m):=by
 have s1:=aU o;have s2:=aU s1.2;exact iD (λZ Z=>rfl)<|(by
  refineλp q s t o o x E y z H I L N=>Kv<|(f n u _ s1.1) p q s t _ o _ E y z H I (λf a s f v r1 x=>Xm<|(p? n g s2.1) p q s t _ o _ E v (z.on<|f V) (H.c7<|f V) x (λg r s g y r2 I=>?_) (N.on f)) N
  have v:=f.bI g;refine(p? n j s2.2) p q s t _ o _ E y (z.on<|v V) (H.c7<|v V) I (λj p q t o f s=>?_) (N.on v);exact Ha<|akd (o.lH<|ji _ _) (YE ..) (r1.ek<|(g.bI t) V) (r2.ek<|t V) f s<|L.on<|(v.bI t).bI .h)
abbrev BK:=ML C Dq Aq fT mn
def amb(c:BK f)(b:(js (mf f) 1000&&sm fT f X e (pt a))=Q):fM k d (.list f) h (.List (hy C.S.nm mn f<|pt a) m):=iD (λZ Z=>rfl) λg l o p q r s E t q s v x y=>wpAny_List_spliced<|(c n _ (aU b).2) g l o p m _ r _ E t q s v (λc g l o p r1 j r=>⟨ax r1.vh<|W j<|ax x9<|W (uq ..)<|ae (ho (aU b).1)<|by decide,(x.on o).DF p r1 (j▸(W (uq ..)<|ae (ho (aU b).1)<|by decide)) r⟩) y
def abK(c:BK f)(b:(js (mf f) 1000&&sm fT f X e (pt a))=Q):fM k d (oO f) h (gq (hy bu mn f<|pt a) v m):=iD (λZ Z=>rfl)<|acg (W (uq ..)<|ae (ho (aU b).1)<|ao Y)<|c n _ (aU b).2
def akN(c:d1 b)(f:((!o3 b&&tC a)&&cT b u X e (h1<|h1 a))=Q):fM k d (vZ b) h (dZ (fx (cz b<|h1<|h1 a) "pop" (h1 a).pos) [] [] a.pos):=by have s1:=aU f;have s2:=aU s1.1;exact iD (λZ Z=>rfl)<|agK (c n u _ s1.2) (C6 s2.1 _)<|BU s2.2
def adE(f:d1 b)(g:d1 c)(j:((!o3 b&&tC a)&&(cT b u X e (h1<|h1 a)&&cT c u X e (h2 a)))=Q):fM k d (hL v b c) h (dZ (fx (cz b<|h1<|h1 a) (YJ v) (h1 a).pos) [cz c<|h2 a] [] a.pos):=by
 have s1:=aU j;have s2:=aU s1.1;have l:=aU s1.2;have m:=f n u _ l.1;have o:=g n u _ l.2;have p:=C6 (a:=bu) s2.1<|h1<|h1 a;have q:=(gY (a:=bu) c<|h2 a) V;have r:=BU s2.2;refine iD (λZ Z=>rfl) ?_
 induction v with
 |integer=>exact adD m o p q r|text=>exact agR m o p q r|blob=>exact aks m o p q r|real=>exact aix (n J1) m o p q r|numeric=>exact ako m o p q r
def amt(f:d1 b)(j:d1 c)(l:d1 g)(m:((!o3 b&&tC a)&&(cT b u X e (h1<|h1 a)&&(cT c u X e (h2 a)&&cT g u X e (h3 a))))=Q):fM k d (wL b c g) h (dZ (fx (cz b<|h1<|h1 a) "get" (h1 a).pos) [cz c<|h2 a,cz g<|h3 a] [] a.pos):=by have s1:=aU m;have s2:=aU s1.1;have p:=aU s1.2;have q:=aU p.2;exact iD (λZ Z=>rfl) (μ (n J1) (f n u _ p.1) (j n u _ q.1) (l n u _ q.2) (C6 s2.1 _) ((gY c _) V) ((gY g _) V)<|BU s2.2)
include o
def Ū(f:d1 b)(c:(!o3 b&&cT b u X e (h1 a))=Q):fM k d (fL b j) h (fx (cz b<|h1 a) (bu j) m):=iD (λZ Z=>rfl)<|abl (o V) (C6 (aU c).1 _)<|f n u _ (aU c).2
def aa6(b:BK f)(c:((dp X j 2&&fT j)&&sm fT f X e (pt a).tail)=Q):fM k d (.call j f) h (dZ (cC (bu j) (h1 a).pos) (hy bu mn f (pt a).tail) [] m):=by have s1:=aU c;have s2:=aU s1.1;exact ah ((o J6) j s2.2) λg l=>iD (λZ Z=>rfl)<|afO (o V) (n J4) (n J5) (PQ (o V) (n V) ((n J3).gk s2.1) ((o J1) j) l.2) ((o J7) j g l.1) (D4 f _) (b n _ s1.2)<|(n J7) j g l.1
def adh(c:d1 b)(g:BK f)(j:((!o3 b&&tC a)&&(js (mf f) 20&&(cT b u X e (h1<|h1 a)&&sm fT f X e (pt a).tail)))=Q):fM k d (.z7 b q f) h (dZ (fx (cz b<|h1<|h1 a) (bu q) (h1 a).pos) (hy bu mn f (pt a).tail) [] a.pos):=by have s1:=aU j;have s2:=aU s1.1;have l:=aU s1.2;have m:=aU l.2;exact iD (λZ Z=>rfl)<|afk (o V) (n J4) (n J5) (C6 s2.1 _) (D4 f _) (W (uq ..)<|cF (ho l.1)<|ao Y) (BU s2.2) (o J7) (c n u _ m.1) (g n _ m.2)<|n J7
end
def aeQ(a:jv k X e h)(d:d1 b)(g:BK f)(c:(cT b u X e (hE n)&&sm fT f X e n.tail)=Q):CG k (j1 b f) h (cz b (hE n)::hy bu mn f n.tail):=(by
 refineλl m o p q s t s E s v x y z H=>W (zR<|(gY b _) V)<|spliced_cons<|(d a u _ (aU c).1) l m o p _ t _ E s v x y (λd r o s I r1 L=>?_) H
 exact(g a _ (aU c).2) l m o p q _ t _ E I (v.on<|s V) (x.c7<|s V) L (λa c g l m r2 j p=>z (d::a) _ g (s.bI l) m ⟨r,c,Y,r1.ek<|l V,r2⟩ (aq _ j) p) (H.on s))
def Pc(x)(b c)(a)(v):D1 (rI x (cz b) (cz c) a) h v=pure v:=by
 induction x with
 |integer=>exact(gY b a) J3 h v|_=>rfl
def afV(s:lP)(n:jv k X e h)(x:d1 l)(y:d1 b)(z:d1 c)(H:d1 g)(I:((E6 X o&&Hw (λt=>dp o t 0) p)&&(sI X v p c (cT b u X e) (cT c u X e) (mz a).iter&&(cT l u o u (h1 a)&&(tB g||cT g Q o u (hE (mz a).ifs)))))=Q):
 fM k d (nj l p v b c g o) h (ux (cz l<|h1 a) [⟨cz p (mz a).target,rI v (cz b) (cz c) (mz a).iter,aD (tB g) [] [cz g<|hE (mz a).ifs],0⟩] {KP a with kind:=jz,names:=nY bu o} m):=by
 have s1:=aU I;have s2:=aU s1.1;have L:=aU s1.2;have N:=aU L.2;exact ah (g? (s V) (n V) (n J3) s2.1 Y Y) λI I=>iD (λZ Z=>rfl)<|(by
  refineλÀ Á t t t t t E t Â Ã Ä Å Æ=>W (eval_ListComp ..)<|g! Y (λÇ=>Pc v _ _ _ Ç) (I.1 J3) (I.1 V) (I.1 J2)<|V! I.1 (Oq s n y z v L.1) (λy=>J' s (zN n Y<|I.2 y) s2.2 _) (λy=>u? (zN n Y<|I.2 y) H N.2) (λy=>x (zN n Y<|I.2 y) u _ N.1) t Â Ã Ä Æ λn s t G q r v t z L x H N=>⟨q,x.ns (t V).sF,λh2 I=>?_⟩
  cases id x with|mk y f ep x e y j=>exact Å n s _ (v.bI .h) (gF (L.drop z x (t V) I)<|t J1) H N)
def mE(e:lP)(l):ME C Dq Aq fT mn l:=by
 induction l with
 |lit h=>exact h4 (λk d a m=>iD (λZ Z=>rfl)<|Vg m) λZ Z Z=>ff|var j=>exact h4 (λk d a m=>iD (λZ Z=>rfl)<|aiy (k V) ((k J3).vis m) ((e J1) j)<|(e J2) j) λZ Z Z=>ff|glob j=>exact h4 (λk d a m=>iD (λZ Z=>rfl)<|ς e (k V)<|(k J3).gk m) λZ Z Z=>ff|and b c r s=>exact h4 (λk d a m=>π k r.1 s.1 m) λZ Z Z=>ff|or b c r s=>exact h4 (λk d a m=>aaL k r.1 s.1 m) λZ Z Z=>ff|not b r=>exact h4 (λk d a m=>alk k r.1 m) λZ Z Z=>ff|ite g b c t r s=>exact h4 (λk d a m=>aeA k t.1 r.1 s.1 m) λZ Z Z=>ff|CC h b r=>exact h4 (λk d a m=>(by
  induction h with
  |neg=>exact ae6 k r.1 m|rev=>exact aa2 k r.1 m|FC=>exact abe e k r.1 m|len=>exact vX e k r.1 0 Y Y (by decide+kernel) (by kernel_rfl) IV al0 m|abs=>exact vX e k r.1 1 Y Y (by decide+kernel) (by kernel_rfl) IV ab7 m|sum=>exact vX e k r.1 2 Y Y (by decide+kernel) (by kernel_rfl) IV (abF<|k J2) m|str=>exact vX e k r.1 3 Y Y (by decide+kernel) (by kernel_rfl) GN acq m|list=>exact vX e k r.1 5 Y Y (by decide+kernel) (by kernel_rfl) GN ajQ m|tuple=>exact vX e k r.1 6 Y Y (by decide+kernel) (by kernel_rfl) GN ade m|sorted=>exact vX e k r.1 7 Y Y (by decide+kernel) (by kernel_rfl) IV (ac5<|k J2) m|dict=>exact vX e k r.1 8 Y Y (by decide+kernel) (by kernel_rfl) GN (amq (e V) (k J1)<|k J2) m)) λZ Z Z=>ff
 |EA h b c r s=>exact h4 (λk d a m=>amc e k r.1 s.1 h m) λZ Z Z=>ff|cmp h b c r s=>exact h4 (λk d a m=>aar k r.1 s.1 m) λZ Z Z=>ff|Ym h v b c g r s t=>exact h4 (λk d a m=>akv k r.1 s.1 t.1 m) λZ Z Z=>ff|slice l b c x r s=>exact h4 (λk d a m=>alp k x.1 r.1 s.1 m) λZ Z Z=>ff|nil=>exact⟨λk d a m=>dR m,λk n m=>λÂ Ä H I À Å É Á E k y Ã z N Æ=>bq<|N [] [] H (rz H) k Y Y z⟩|cons b Ç r È=>exact⟨λk d a m=>dR m,λk n m=>aeQ k r.1 È.2 m⟩|list f L=>exact h4 (λk d a m=>amb k L.2 m) λZ Z Z=>ff|tup f L=>exact h4 (λk d a m=>abK k L.2 m) λZ Z Z=>ff|LK=>exact h4 (λk d a m=>iD (λZ Z=>rfl)<|λÂ Ä H I Å É Á E k y Ã z N Æ=>wpAny_Dict_empty<|N.oT k (ji _ _) (mO _) (i1 _ Y) (q:=0) (a:=[]) Y (bZ yM (λZ v=>bG v) λZ v=>bG v) (cQ _) (c' (e V)<|k.i0 y) z) λZ Z Z=>ff|attr b j r=>exact h4 (λk d a m=>Ū e k r.1 m) λZ Z Z=>ff|pop b r=>exact h4 (λk d a m=>akN k r.1 m) λZ Z Z=>ff|m1 h b c r s=>exact h4 (λk d a m=>adE k r.1 s.1 m) λZ Z Z=>ff|K! b c g r s t=>exact h4 (λk d a m=>amt k r.1 s.1 t.1 m) λZ Z Z=>ff|call h f L=>exact h4 (λk d a m=>aa6 e k L.2 m) λZ Z Z=>ff|z7 b q f r L=>exact h4 (λk d a m=>adh e k r.1 L.2 m) λZ Z Z=>ff|sup H h f L=>exact h4 (λk d a m=>dR m) λZ Z Z=>ff|comp h p h b c g o x h r s t=>exact h4 (λk d a m=>afV e k x.1 r.1 s.1 t.1 m) λZ Z Z=>ff
end
section
def XC(a:hs b):b.blockKind=jz:=by unfold abx;exact W (a V) Y
def X_(h:aE e.ctorIdx 17=Q):∃a n,e=fL a n:=By (a:=λe=>∃a n,e=fL a n) e h λa n=>⟨a,n,Y⟩
def f_(h:H7 e=Q):∃a b,e=hC k6 a b:=by exact By (a:=λe=>H7 e=Q->∃a b,e=hC k6 a b) e (iN h).1 (λf a b h=>ũ (motive:=λf=>∃c d,hC f a b=hC k6 c d) f (eb (iN h).2) ⟨a,b,Y⟩) h
def ae3(e):d7 (ep e).k=aE e.ctorIdx 24:=by cases e<;>rfl
def mT(g:lP)(a:jv c b d e)(s:DT fT b d f x=Q):qZ c f e (cz f x):=
oG s (λs=>oG s (λs=>ah (Jr s) λn h=>W h.1<|z? (g V) (a V)<|(a J3).Ck h.2) λs=>ah (EG (aU s).1) λj h=>by
 have s2:=(aU s).2;rw [h] at s2⊢;exact ah (SE j s2<|pt x) λk q=>by refine(?_:qZ c _ e (gq (hy bu mn j<|pt x) _ x.pos));exact W q.2.1<|W q.1<|al8 (g V) (a V) (a J2) λl m=>(a J3).Ck<|q.2.2.1 l m)
 λs=>oG (aU s).1 (λh=>ah (X_ h) λo h=>ah h λn h=>by
  have s2:=(aU s).2;rw [h] at s2⊢;have s2:(!o3 o&&cT o u b d (h1 x))=true:=s2;exact aeW (g V)<|(mE g o).1 a u _ (aU s2).2) λh=>ah (f_ h) λo h=>ah h λp h=>by
  have s2:=(aU s).2;rw [h] at s2⊢;have s2:(cT o u b d (h1 x)&&cT p u b d (h2 x))=true:=s2;exact ak9 (a J1) ((mE g o).1 a u _ (aU s2).1)<|(mE g p).1 a u _ (aU s2).2
def WM(h:(a.blockKind==jz&&c2 a (bu z)==dW&&l5 p==l5 q&& !((dm b).any λ(n,k)=>n==bu z&&(k==v8||k==hj)))=c):ng (ux d e b q) (J<|cC (bu z) p) f a=pure c:=ax h Y
def χ{a b:O}(h:a<b):(a !=b)=true:=ak Ko<|fI h
def YL(h:(!(U a==2||U a==3)||U b !=U a)=Q):sh [gq a c p] (gq b k q) d=pure none:=aJ (by rw [h];rfl)
def T_(h:qK a=Q)(b:∀x,gc x=Q->f x=u):a.any f=u:=
ak Gl λx m q=>hz<|af (b x<|oW h x m).symm q
def adL{b c:Type}{f:b->ba c}{a}(e:f a=A):∀{l},a∈l->U (eG f l)<U l:=by
 intro l;refine l.rec bG λx r d=>λh=>W xS<|aP (mc h) (λq=>ax q<|W e<|ic<|zm f r) λh=>?_;cases f x with
  |none=>exact rM<|d h|some y=>exact yT<|d h
def akT:∀{l:aa bj},bw l->U l.eraseDups=U l:=by intro l;refine l.rec (λZ=>rfl) λx r a=>λh=>?_;have h:=jk.mp h;exact W List.eraseDups_cons<|W (ak List.filter_eq_self λb m=>by rw [show(b==x)=u from ak lz λq=>h.1<|q▸m];rfl:p6 _ r=r)<|W hS<|W hS<|aq _ (a h.2)
section
variable{h:jE}{k:O}{d:O}{e:la}{a:la}{c:fF}{b:aa<|O×la}
def Xt(g:∀{id e},f (cC id e)=if(c2 h id==dW&&l5 e==d)=Q then J id else A):∀{b},(∀a∈b,c2 h (bu a.1)=dW)->zv d (ja C b)=Q->eG f (ja C b)=b.map λa=>bu a.1:=by intro b;refine b.rec (λZ Z=>rfl) λa r j=>λl c=>?_;have c:(aE a.2.line d&&zv d _)=true:=c;exact W xS<|W (j (λm k=>l m<|cy _ k) (aU c).2)<|W (show f _=J _ by simp only [g,l a b8,eb (aU c).1,jT,jT];rfl) Y
end
def abd(h:eU)(j:hs c)(k:qK b=Q)(h1:∀q∈a,c2 c (C.S.nm q.1)=dW)(d:U a=2\/U a=3)(l:U b=U a)(m:bw<|R (·.1) a)(f:zv (hE<|ja C a).pos.line (ja C a)=Q)(n:cP b (VE 8)=u)(o:cP b (n! 8)=u):sh [gq (ja C a) g p] (gq b r s) c=pure (J<|(R (·.1) a).map C.S.nm):=by
 have t:U (ja C a)=U a:=bB ..
 induction a with
 |nil=>rcases d with q|q<;>cases q
 |cons q r=>
  have nd:bw ((q::r).map λq=>C.S.nm q.1):=by have v:=M0 (h J1) m;exact jC▸v
  have x:U ((q::r).map λq=>C.S.nm q.1)=U (ja C _):=W t (bB ..);refine af (aS λy=>?_)<|af (aS λy=>hz<|af (T_ k<|by intro z g;cases z<;>first|rfl|exact dR g).symm y)<|af (aS λy=>?_) ?_
  .rw [t,l,XC j] at y;rcases d with e|e<;>rw [e] at y<;>exact ay y<|ao Y
  .refine hz<|af (?_:_=u).symm y;refine W (Xt (λ{_ _}=>rfl) h1 f) ?_;rw [akT nd,x,Hl];rfl
  .exact W n<|W o<|aq (λz=>(pure _:l9 _))<|af (Xt (λ{_ _}=>rfl) h1 f) jC.symm
def Ui{G:Prop}(h:z0 Po=Q):G:=dR h
def adz(g:lP)(a:jv m f Q n)(o:ve f z=Q)(q:(dp f z 0&&(aE r.line s.line&&cP b (λp=> !(aE p.1 z&&aE p.2 0))))=Q)
 (t:((E6 f b&&Hw (λz=>dp b z 0) j)&&(sI f d j h (cT k u f Q) (cT h u f Q) (mz e).iter&&(cT l u b u (h1 e)&&(tB c||cT c Q b u (hE (mz e).ifs)))))=Q):
 i8 m (nK (d9 z)<|nj l j d k h c b) n (je [cC (bu z) r] (ux (cz l<|h1 e) [⟨cz j (mz e).target,rI d (cz k) (cz h) (mz e).iter,aD (tB c) [] [cz c<|hE (mz e).ifs],0⟩] {KP e with kind:=jz,names:=nY bu b} s) v):=by
 have s1:=aU t;have s2:=aU s1.1;have x:=aU s1.2;have y:=aU x.2;have H:=aU q;have I:=aU H.2;have L:((nY (kc.nm<|Cx.S C) b).any λN=>N.1==(kc.nm<|Cx.S C) z&&(N.2==v8||N.2==hj))=false:=by
  rw [Gl]
  refineλd e=>ah (OZ e) λj f=>?_
  have c:=Mx s2.1 f.1;have e:=f.2;rw [DC c.lt] at e;have p:d.1=(kc.nm<|Cx.S C) j.1:=a5<|aq (·.1) e;have m:d.2=xY j.2:=a5<|aq (·.2) e;refine W p<|W m ?_;rcases c with (c|c)|c
  .have h2:=nX<|oW I.2 _ f.1;rw [c,fJ,Pu] at h2;exact W (ak lz λq=>by rw [(g V) J1 _ _ q,fJ] at h2;exact bU h2:_=u) hz
  .exact W c<|W (rfl:_=u)<|W (pU ..) hz
  .exact W c.1<|W (rfl:_=u)<|W (pU ..) hz
 exact ah (g? (g V) (a V) (a J3) s2.1 Y Y) λn q=>afL (g V) (a V) ((a J3).Ck o) q.1 (Oq g a (mE g k).1 (mE g h).1 d x.1) (λr=>J' g (zN a Y<|q.2 r) s2.2 _) (λr=>u? (zN a Y<|q.2 r) (mE g c).1 y.2) (λr=>(mE g l).1 (zN a Y<|q.2 r) u _ y.1) (λv=>Pc d _ _ _ v)
  (WM<|by simp only [XC<|a V,(a J3) V z<|jK H.1,eb I.1,L,jT,jT,jT];rfl)
def ahj(g:lP)(c:jv f b Q j)(h:ve b z=Q)(a:z0 (Kt b z e x)=Q)(d:cT e u b Q (dP x)=Q):i8 f (nK (d9 z) e) j (je [cC (C.S.nm z) (kl x).pos] (cz e<|dP x) k):=by
 have l:=(mE g e).1 c u _ d;have m:=z? (e:=f) (p:=(kl x).pos) (g V) (c V)<|(c J3).Ck h;unfold Kt at a;cases n:(ep e).k with
 |none=>exact Ay m l Y ((gY e _) J4 (aq _ n) _ _ _) Y|some o=>
  rw [n] at a;have a:z0 (aD _ YK _)=true:=a;have p (h:(ep e).k=J o):∃q t k a r s,e=nj q t k a r s o:=By (a:=λe=>(ep e).k=J o->∃q t k a r s,e=nj q t k a r s o) e (af (ae3 e).symm<|aq d7 h) (λq t k a r s b h=>⟨q,t,k,a,r,s,aC h▸Y⟩) h;refine ah (p n) λq r=>ah r λv r=>ah r λy r=>ah r λH r=>ah r λI r=>ah r λs L=>?_;rw [L] at d l⊢;cases N:(dp b z 0&&_) with
  |true=>exact adz g c h N d|false=>
   rw [N] at a;cases h3:dp b z 3 with
   |true=>exact Ay m l Y (WM<|by simp only [((c J3) J3 z<|jK h3).1,show(J hj==J v8)=u from Y,pU];rfl) Y|false=>rw [h3] at a;exact Ui a
def ajy:∀{a},xu f (q7 a)=cP a λq=>f q.1:=by intro a;refine a.rec Y λq r b=>?_;unfold xu at b⊢;refine((ax b ?_):(Nh (q7 r)&&(f q.1&&cP (eL _) _))=(f q.1&&cP r λq=>f q.1));cases Nh _<;>cases f q.1<;>rfl
def aee(f:jv k c Q g)(j:qK b=Q)(h:∀q∈a,ve c q.1=Q)(d:((aE (U a) 2||aE (U a) 3)&&(aE (U b) (U a)&&cP a λq=>dp c q.1 0))=u):sh [gq (ja C a) e l] (gq b m n) g=pure none:=by
 have o:U (ja C a)=U a:=bB ..;have p:∀{r s:O},aE r s=u->_=false:=λh=>ak lz<|Cr h;cases t:(aE (U a) 2||aE (U a) 3) with
 |false=>have t:=Yx.mp t;exact YL (by refine W o<|W (p t.1)<|W (p t.2) ?_;rfl)|true=>
  cases v:aE (U b) (U a) with
  |false=>exact YL<|W o<|W (ak Ko (Cr v):_=Q) (Ak ..)|true=>
   rw [t,v] at d;refine ah (List.all_eq_false.mp d) λq m=>(by
    unfold sh;dsimp only;split
    .rfl
    .refine af (aS λx=>hz<|af (T_ j<|by intro y e;cases y<;>first|rfl|exact dR e).symm x)<|af (aJ<|ak kv<|aL<|χ ?_) Y;exact adL (by refine(?_:(if(_&&_)=Q then J _ else A)=A);exact W (((f J3) J3 q.1<|jK<|oG (h q m.1) (λz=>ay z m.2) id).1) Y)<|hM m.1)
def acX(k:lP)(c:jv f g Q d)(j:qZ f (oO b) d<|gq (hy bu mn b<|pt<|kl x) l m)(h:xu (ve g) b=Q)(a:z0 (aD (vm e) (FJ bu mn g b (ep e).e x) Fh)=Q)(n:cT e u g Q (dP x)=Q):
 i8 f (nK (oO b) e) d (je [gq (hy bu mn b<|pt<|kl x) l m] (cz e<|dP x) o):=by
 have p:=(mE k e).1 c u _ n;cases q:vm e with
 |false=>exact Ay j p Y ((gY e _) J7 _ _ _ _ _)<|(gY e _) J8 q _ _ _ _|true=>
  refine ah (EG q) λr s=>?_;subst s;have a:z0 (FJ bu mn g b r x)=true:=a;have p:cd f _ d (bC (gq (hy bu mn r<|pt _) _ (dP x).pos) d):=p;refine(?_:i8 f _ d (je [gq _ l m] (gq (hy bu mn r<|pt _) _ (dP x).pos) o));have t:=D4 (b:=bu) r<|pt<|dP x;unfold FJ at a;refine ah (SE b h<|pt<|kl x) λv q=>?_;have y:=uq (b:=bu) b<|pt<|kl x;rw [q.2.2.2] at a;rw [q.2.1] at a y j⊢;rw [q.1,ajy] at a;rw [q.1] at j⊢;rw [<-q.1,<-y,<-(uq r<|pt _),show U (ja C v)=U v from bB ..] at a;generalize hy bu mn r (pt _)=z at a p t⊢;cases H:(aE (U v) 2||aE (U v) 3)&&_ with
  |false=>exact Ay j p Y Y<|aee c t q.2.2.1 H|true=>
   rw [H] at a;cases c4:(E2 _&&zv (hE _).pos.line _)&&_ with
   |false=>rw [c4] at a;exact Ui a|true=>have I:=aU c4;have L:=aU I.1;have N:=aU I.2;have n:=aU H;have e:=aU n.2;have nd:=Xw L.1;exact agh (k V) (c V) (c J2) p nd (λd m=>(c J3).Ck<|q.2.2.1 d m) Y<|abd (k V) (c V) t (λd m=>(c J3) V _ (jK<|oW e.2 d m)) (oG n.1 (λh=>aL<|eb h) λh=>aw<|eb h) (eb e.1) nd L.2 (nX N.1)<|nX N.2
variable{r:PT}{s:v7}{f:jE}{X:aa<|O×O}{q:aa jE}{a:fF}{g j:Zq.S}{b p n d h k:Zq.E}{l:aa fF}{o m:O}
def Vx(b:tc g=Q):∃a,g= .del a:=by
 induction g with
 |del a=>exact cM a rfl|_=>exact dR b
section
variable(e:vD C fT)(c:wV C Dq Aq (eP C f) X Q f)
abbrev vL:=yz C.S.nm mn
abbrev A7:=A! C Dq Aq fT mn
def akX(h:MS C Dq Aq fT mn X f g)(d:A7 X f j)(a:aD (tc g) (u7 fT C.S.nm mn X j l) (qJ fT C.S.nm mn X g (jQ l)&&u7 fT C.S.nm mn X j l.tail)=Q):Dc (eP C f) (fH g j) f (aD (tc g) (vL j l)<|rS C.S.nm mn g (jQ l)::vL j l.tail):=by
 cases t:tc g with
 |true=>rw [t] at a;exact ah (Vx t) λk b=>by refine W b ?_;exactλm n o p q r s k v E c x y z H I=>(d l a) m n o _ q r s k v E c x y.del z H I|false=>exact(λm n o p q r s k v E c x y z H I=>zW<|(h _ (aU<|t▸a).1) m n o p _ r s k _ E c x y z (BH (λh m o p L N y=>(d _ (aU<|t▸a).2) m n o h q r s k v E L (x.on<|p V) N y (H.on p)<|I.on p) (H J1)<|H J2) I)
include e c
def agA(d:((vq a&&kQ b)||cT b u X Q (dP a))=Q):i8 (eP C f) (v5 b) f (.Return (aD (vq a&&kQ b) A<|J<|cz b<|dP a) t):=by
 cases v:(vq a&&kQ b) with
 |true=>exact W (AB (aU v).2) λg h j k l m n o p E c q r s x y=>wpAny_Return_none<|(x J2) bk bQ k g j (rz j) c r Y s|false=>rw [v] at d;exactλg h j k l m n o p E l q r s x y=>wpAny_Return_some<|(mE e b).1 c u _ d g h j k _ o _ E l q r s (λm n p d h r1 j=>(x J2) m n k g p d h (r.c7<|d V) r1 j) (y.at r)
def alP(d:A7 X f g)(h:A7 X f j)(b:(cT k Q X Q (dP a)&&(u7 fT bu mn X g (j9 a)&&u7 fT bu mn X j (EY a)))=Q):i8 (eP C f) (.ite k g j) f (.If (cz k<|dP a) (vL g<|j9 a) (vL j<|EY a) t):=
Ś ((mE e k).1 c Q _ (aU b).1) (d _ (aU (aU b).2).1) (h _ (aU (aU b).2).2)
def ajx(d:px Aq f q)(h:A7 X f g)(b:(cT k Q X Q (dP a)&&u7 fT bu mn X g (j9 a))=Q):i8 (eP C f) (.while k g) f (.While (cz k<|dP a) (vL g<|j9 a) [] t):=(by
 intro j l p r s v x y z E H I L N t Á;have N:DU _ _ r p.σ s:=N;rw [UW] at N;refine ah N λs N=>ah N.1 λo x=>(wpAny_While<|codeAny_whileLoop (λo g=>∃r j z,g=Z.s z/\Nx p z/\bY j l z/\gr z.I j f r/\s o r z.σ) ?_ o ⟨r,j,p,Y,rz p,H,L,x⟩)
 rintro o g ⟨H,L,x,rfl,z,À,v,Â⟩
 have j:=(Á.on z).own d<|I.on<|z V;refine(mE e k).1 c Q _ (aU b).1 L l x H _ y _ _ À (I.on<|z V) v (N.2 o H x.σ Â) (λp r s=>vQ s) (λn p d r p m N=>?_) (j.at v);have N:=m _ N;have x:=z.bI r
 induction n with
 |false=>exact yr<|(t V) H L d x p (v.c7<|r V) N|true=>exact(h _ (aU b).2) L l d H _ _ _ y _ _ p (I.on<|x V) (v.c7<|r V) N (BH (λb h l d p y s=>ah s λm s=>⟨m,s.1,b,h,l,Y,x.bI d,p,y,s.2⟩) (λb h l d p y s=>ah s λm s=>⟨m,s.1,b,h,l,Y,x.bI d,p,y,s.2⟩)<|(t.on x) J2) (j.on r))
def af8(b:A7 X f g)(j:(DT fT X Q n (kl a)&&(sI X t n h (cT d u X Q) (cT h u X Q) (dP a)&&u7 fT bu mn X g (j9 a)))=Q):i8 (eP C f) (.for n t d h g) f (.For (cz n<|kl a) (rI t (cz d) (cz h)<|dP a) (vL g<|j9 a) [] v):=by have h1:=aU j;have h2:=aU h1.2;exact alB (Oq e c (mE e d).1 (mE e h).1 t h2.1) (mT e c h1.1) (b _ h2.2) λk=>Pc t _ _ _ k
def ZA(b:dp X 261 2=Q):∃a d g,uo C a d g/\wy C.K (w a)=Q/\nE f "ParseError" (w a):=by have h:=(c J3).gk b;exact ah (e J8) λa j=>ah j λd j=>ah j λg j=>⟨a,d,g,j.1,j.2.2,λ{_ _ _ _ _} t b=>PQ (e V) (c V) ((e J4)▸h) Y j.2.1 t b⟩
def aiX(a:iM Aq+5<mY)(g:(aE (mf p) 2&&(dp X 261 2&&sm fT p X Q (pt y).tail))=Q):i8 (eP C f) (AH p) f (.Raise (J<|dZ (cC "ParseError" v) (hy bu mn p (pt y).tail) [] t) A x):=by
 have h1:=aU g;have h2:=aU h1.2;have j:=(mE e p).2 c _ h2.2;have k:=D4 (b:=bu) p (pt y).tail;refine ah (ZA e c h2.1) λl m=>ah m λo m=>ah m λq m=>Ec (l:=hy bu mn p (pt y).tail) (W (uq ..)<|eb h1.1) λs g b=>?_;rw [b] at j k⊢;have o:i8 (eP C f) (AH p) f (.Raise (J<|dZ (cC (Dd "ParseError") v) [s,g] [] t) A x):=by
  refineλq s g r N z H I L E y v x N z H=>bp m.1.cls λL z=>W (arm_exec_Raise ..)<|aB<|r6<|ah6 (b:=l) (f:=L) (c J2)<|aB<|aB<|m.2.2 (y.i0 v)<|JL (by refine W (qS k) ?_;rfl) (QL m.2.1)<|rP k<|j q s g r t _ I _ E y v x N (λj k l s g r1 j k=>?_) (H.at x)
  exact⟨(e V).In (g V)<|(v.on<|s V) V,Ec (af r1.vh.symm j) λd h b=>W b<|aa4 (e V) m.1 a g ((v.on<|s V) V) λl h2 t I n y N L=>aB<|r6<|bq ⟨l,n,I,Y,(N V).sI _ _ ((v.on<|s V) V _ _ z),L,H _ r q _ (s.bI .h) N (x.c7<|s V) ⟨l,Y,y,aL ⟨_,_,_,L,a5 m.1.pe,Y,Y,Y⟩⟩ k⟩⟩
 exact o
def mS(m:px Aq f q)(r:iM Aq+5<mY)(g):MS C Dq Aq fT mn X f g/\A7 X f g:=by
 induction g with
 |nil=>exact⟨λa s=>dR s,λl s=>WX⟩|seq g j t v=>exact⟨λa s=>dR s,λl s=>akX t.1 v.2 s⟩|expr b=>exact⟨λa s=>al5 ((mE e b).1 c u _ (aU s).2) (Nb<|(c V) V)<|(gY b _) J4 (nX (aU s).1) _ _ _,λl s=>dR s⟩|assign n b=>exact⟨λa s=>(by
  have s1:=aU s;have s2:=aU s1.2;have x:=mT e c s2.1;have d:=s1.1;have y:=s2.2;have z:(aE n.ctorIdx 17||H7 n)=Q->i8 (Zq.eP C f) (nK n b) f (je [cz n _] _ (Zq.my a)):=λH=>by have I:=(mE e b).1 c u _ y;exact oG H (λH=>ah (X_ H) λh H=>ah H λo H=>by subst H;exact Ay x I Y ((gY b _) J5 _ _ _ _ _) Y) λH=>ah (f_ H) λh H=>ah H λk H=>by subst H;exact Ay x I Y ((gY b _) J6 _ _ _ _ _) Y
  exact oG s2.1 (λH=>oG H (λH=>ah (Jr H) λL H=>by
   have N:=H.1;subst N;exact ahj e c H.2 d y) λH=>ah (EG (aU H).1) λv N=>by
   subst N;exact acX e c x (aU H).2 d y) λH=>z (aU H).1),λl s=>dR s⟩
 |ret b=>exact⟨λa s=>agA e c s,λl s=>dR s⟩|ite k d h y z=>exact⟨λa s=>alP e c y.2 z.2 s,λl s=>dR s⟩|«while» k h z=>exact⟨λa s=>ajx e c m z.2 s,λl s=>dR s⟩|«for» n H d h g t=>exact⟨λa s=>af8 e c t.2 s,λl s=>dR s⟩|cont=>exact⟨λa s=>YO,λl s=>dR s⟩|raise p=>exact⟨λa s=>aiX e c r s,λl s=>dR s⟩|AZ n b o k=>exact⟨λa s=>(by have h1:=aU s;have h2:=aU h1.2;have h3:=aU h2.2;have r:=aU h3.2;have I:=aU r.2;have x:=mT e c r.1;refine ah (Y5 (f:=λZ=>Q) I.1 Y) λL N=>?_;rw [N.1] at x⊢;exact ah (ZA e c h2.1) λv y=>ah y λz y=>ah y λt y=>aiV (e V) (c V) m y.1 x ((mE e b).1 c u _ I.2) Y ((gY b _) J4 (nX h3.1) _ _ _) Y ((c J3) V o<|jK (aU h1.1).1) ((c J3) V k<|jK (aU h1.1).2) y.2.2<|(e J1) o),λl s=>dR s⟩|stuck=>exact⟨λa s=>Vj,λl s=>dR s⟩|del l=>exact⟨λa s=>dR s,λl s=>dR s⟩
end
end
section
variable{o:PT}{p:v7}{b:jE}{h:O->bc}{sx n q:O}{X:aa<|O×O}{l:aa jE}{a:fF}{f e:Zq.S}{c g k:Zq.E}{d:aa fF}{j:aa fF}{m:vx}
def z_(d:vP c=Q):∃a b g,c=qk a b g:=By (a:=λc=>∃a b g,c=qk a b g) c d λa b g=>⟨a,b,g,Y⟩
def abb(j:MQ C Dq Aq fT h sx mn X b m f)(g:N4 C Dq Aq fT h sx mn X b m e)(a:aD (tc f) ((aX fT h sx C.S.nm mn X e).2 d) ((aX fT h sx C.S.nm mn X f).1 (jQ d)&&(aX fT h sx C.S.nm mn X e).2 d.tail)=Q):w1 (eP C b) m (fH f e) b (w4 (aD (tc f) (vL e d)<|rS C.S.nm mn f (jQ d)::vL e d.tail) b):=by
 cases r:tc f with
 |true=>rw [r] at a;exact ah (Vx r) λk c=>by refine W c ?_;exactλl n o p q k s t v E x y z H I L=>(g d a) l n o _ q k s t v E x y z.del H I L|false=>exactλl n o p q k s t v E x y z H I L=>ks_wpAt_execs_cons<|(j _ (aU<|r▸a).1) l n o p _ k s t _ E x y z H (BH (λj l o p N x z=>(g _ (aU<|r▸a).2) l n o j q k s t v E N (y.on<|p V) x z (I.on p)<|L.on p) (I J1)<|I J2) L
section
variable(o:vD C fT)(m:wV C Dq Aq (eP C b) X Q b)(q:∀p,h p=Q->∃r,C.fa p=J r/\vF C b sx p r (mn p))
include o m q
def I_(a:vP c=Q)(d:BY fT h sx X c y=Q):G5 C Dq Aq (eP C b) (sC j b) c b (bC (cz c y) b):=by refine ah (z_ a) λf e=>ah e λp e=>ah e λg k=>?_;subst k;have l:=aU d;have n:=aU l.1;have f:=aU l.2;have k:=aU f.2;exact W (eb n.1)<|ah (q p n.2) λr a=>((acd (o V) (m V) (m J4) (m J5) a.2 (D4 g _) (W (uq ..)<|cF (ho k.1)<|ao Y) (BU f.1) ((mE o g).2 m _ k.2)<|(m J7) p r a.1):G5 C Dq Aq _ _ _ b (bC (dZ _ (hy bu mn g (pt y).tail) [] y.pos) b))
def adH(f:px Aq b l)(k:iM Aq+5<mY){n:la}(d:aD (vP c) (BY fT h sx X c<|dP a) (qJ fT bu mn X (uD c) a)=Q):w1 (eP C b) (sC j b) (uD c) b (xO (.Expr (cz c<|dP a)<|my a) b):=by
 cases s:vP c with
 |true=>
  rw [s] at d
  exactλr n t v N x y z H E I L N x y H=>ks_wpAt_Expr_any ((I_ o m q s d) r n t v _ z _ E I L N x (λn n n t z r1 I=>(y V) v r n t z (N.c7<|t V) I) (H.at N)) (Nb<|(m V) V)<|(gY c _) J4 (ah (z_ s) λr e=>ah e λp e=>ah e λg n=>aq _ n) _ _ _
 |false=>rw [s] at d;exact sN<|(mS o m f k _).1 a d
def ah1(e:px Aq b l)(f:iM Aq+5<mY)(d:aD (vP c) (!vq a&&BY fT h sx X c (dP a)) (qJ fT bu mn X (v5 c) a)=Q):w1 (eP C b) (sC j b) (v5 c) b (xO (.Return (aD (vq a&&kQ c) A<|J<|cz c<|dP a)<|my a) b):=by
 cases s:vP c with
 |true=>rw [s] at d;have h1:=aU d;exact W (nX h1.1)<|aiz<|I_ o m q s h1.2|false=>rw [s] at d;exact sN<|(mS o m e f _).1 a d
def mA(p:px Aq b l)(r:iM Aq+5<mY)(f):MQ C Dq Aq fT h sx mn X b (sC j b) f/\N4 C Dq Aq fT h sx mn X b (sC j b) f:=by
 induction f with
 |nil=>exact⟨λa s=>dR s,λd s=>sN WX⟩|seq f e t v=>exact⟨λa s=>dR s,λd s=>abb t.1 v.2 s⟩|expr c=>exact⟨λa s=>adH o m q p r (n:=my a) s,λd s=>dR s⟩|assign x c=>exact⟨λa s=>sN<|(mS o m p r _).1 a s,λd s=>dR s⟩|ret c=>exact⟨λa s=>ah1 o m q p r s,λd s=>dR s⟩|ite k y z H I=>exact⟨λa s=>aka ((mE o k).1 m Q _ (aU s).1) (H.2 _ (aU (aU s).2).1)<|I.2 _ (aU (aU s).2).2,λd s=>dR s⟩|«while» k z I=>exact⟨λa s=>sN<|(mS o m p r _).1 a s,λd s=>dR s⟩|«for» x L y z f t=>exact⟨λa s=>sN<|(mS o m p r _).1 a s,λd s=>dR s⟩|cont=>exact⟨λa s=>sN YO,λd s=>dR s⟩|raise g=>exact⟨λa s=>sN<|(mS o m p r _).1 a s,λd s=>dR s⟩|AZ x c n k=>exact⟨λa s=>sN<|(mS o m p r _).1 a s,λd s=>dR s⟩|stuck=>exact⟨λa s=>sN Vj,λd s=>dR s⟩|del d=>exact⟨λa s=>dR s,λd s=>dR s⟩
end
end
section
def SW(b:ue a=A)(c:∃i,nZ a=J i)(d:iM a+3*n+310<mY)(e:gV a+20*n+310<kV):AN n a:=dV b c d e
def AN.Oh(b:AN (n+1) a):AN n (rT a c):=SW (b V) (ah (b J1) λi f=>cM _<|w0 f) (cF (show iM a+1+3*n+310<=iM a+3*_+310 by lia)<|b J2)<|cF (show gV a+3+20*n+310<=gV a+20*_+310 by lia)<|b J3
def AN.new(b:AN (n+1) a):AN n (a.under<|s6 "type.__call__" ⟨w c::d,[]⟩):=by
 have e:(s6 "type.__call__" ⟨w c::d,[]⟩).cUnits<=10:=by have f:(s6 "type.__call__" ⟨w c::d,[]⟩).frames=0:=Y;simp only [amh,f];decide
 refine SW (b V) (ah (b J1) λi f=>cM i<|af Uy f) (cF (show iM a+1+3*n+310<=iM a+3*_+310 by lia)<|b J2)<|cF (show gV a+(s6 "type.__call__" ⟨w c::d,[]⟩).cUnits+20*n+310<=gV a+20*_+310 by lia)<|b J3
def akC:∀{a} {L} {b},(k,hj)∈a\/d7 (b1 k b)=Q->d7 (b1 k<|yw L a b)=true:=by
 intro a;refine @(a.rec (λh=>aP h bG id) λp r c=>?_);intro L b h
 induction p with|mk m j=>
 refine(?_:d7 (b1 k (if(j==hj)=Q then yw _ r _ else yw L r b))=Q)
 by_cases e:j=hj
 .refine W e<|W (aJ (rfl:_=Q))<|c<|aP h (λh=>aP (mc h) (λq=>aw ?_) aL) λh=>aw ?_
  .cases q;exact aq _ I8
  .by_cases q:k=m
   .exact W q<|W I8 Y
   .simp only [qQ,show _=u from ak lz q];exact h
 .exact W (aS λd=>e<|beq_iff_eq.mp d)<|c<|h.imp (λh=>aP (mc h) (λq=>by cases q;exact ay Y e) id) id
def no3(h:cP a (λp=> !aE p.2 3)=Q):∀x∈nY b a,x.2≠hj:=λx c e=>ah (OZ c) λp d=>by
 have h3:=nX<|oW h _ d.1;have q:=aq (·.2) d.2
 by_cases f:p.2=4
 .rw [ł f] at q;rw [<-q] at e;exact ag7<|e
 .rw [DC f] at q;have q:xY p.2=x.2:=q;rw [e] at q;revert q h3;rcases p.2 with _|_|_|_|_<;>intro h3 q<;>first|(cases q;done)|(cases h3;done)
def afD(d:cm iR f=A)(e:cm tS f=A)(a:aK (n+1) f g b h c):False:=by
 rw [zw] at a;have a:(match cm iR f with
  |some j=>bE _ λl=>c1 _ c j.gZ l b _ _ _|none=>bE _ λg=>∀k,b k=A->wU n g _ _ _ c):=a
 rw [d,e] at a;exact a
def V6(m:lP)(c:AN (n+1) d)(g:∀f e,C.fa f=J e->uB C (aK n) (rT d a) f e)(b:hs a)(h:sU a j)(o:qD a=J (jy a))(k:xM a.scope=u)(l:yu a.scope=u):wV C (aK n) (rT d a) (eP C a) j Q a:=
 have p:=c.Oh
 (c J1).elim λi q=>uw b (cp (cF (by lia)<|p J3)<|cF (by lia)<|p J2) (p V) h ail (iB ⟨a,i,w0 q,Y,by refine W (b V) ?_;decide⟩) (λZ=>dV b ⟨i,w0 q⟩ k l) g
def X6:Df Dq Aq:=λg a X b c d e=>⟨λs=>mS g c d e s,λf sx h j s=>mA g c j d e s⟩
def ai5(g:lP)(H:∀f a,C.fa f=J a->y7 C fT mn c f a):∀n (b:v7),AN n b->∀f a,C.fa f=J a->uB C (aK n) b f a:=by
 intro n
 induction n with
 |zero=>exactλb Z f a Z À z e h Á Ã Â È Å Ä Ê q s t=>by rw [zw] at q;exact b4 q|succ n v=>
  intro b x f a y;have I:iM b<mY:=cF (by lia)<|x J2;have L:iM b+1+5<mY:=cF (by lia)<|x J2;cases H f a y with
  |plain N Æ Ç f b H X h1 y d j s l k=>have p:∀o c,i5 X c=J 3->∃n,b1 (C.S.nm c) (yw o (dm<|dX f) [])=J n:=λo c m=>vH.mp<|akC<|aL<|W j<|Ol<|Bh ((g V) J1) ((g V) J2) m;refine abR (g V) h1 y d I (x J1) (λo c t=>oG (oW s c t) (λm=>aL<|W j<|Bh ((g V) J1) ((g V) J2)<|jK m) λm=>aw ⟨W j<|Bh ((g V) J1) ((g V) J2)<|jK m,ah (p o c<|jK m) λn É=>aq _ É⟩) λo=>?_;have n:sU (x1 f o a) X:=Z? (g V) j λc m=>p _ c m;have p:=ah (x J1) λi r=>((W' X6 g _ _ _ (V6 g x (v _ x.Oh) (bZ (y J4) (y J2)<|y J3) n Y (y J6)<|y J5) (bZ (w0 r) Y<|y J4) L).1 N.gZ).2 H k;exact l▸p|sup Ë N Æ Ç f b H X b h1 y d j h3 s l k b=>
   refine afy (g V) h1 y d I (x J1) (W j<|no3 h3) (λc t=>W j<|Bh ((g V) J1) ((g V) J2)<|jK<|oW s c t) λo=>?_;have n:sU (jH f o a) X:=Z? (g V) j λc m=>by have a:=nX<|oW h3 _ (A' m);exact bU a
   have p:=ah (x J1) λi r=>((W' X6 g _ _ _ (V6 g x (v _ x.Oh) (bZ (y J4) (y J2)<|y J3) n Y (y J6)<|y J5) (bZ (w0 r) Y<|y J4) L).2 Ë _ H (b o) N.gZ).2 H k;rw [l] at p;exact p
  |cls c I h1 h2 h3 f d j L=>exact aew (g V) h1 h2 h3 f d j λh=>v _ x.new c I L|none h1 h2=>exactλÀ z e h Á Ã Â È Å Ä Ê q s t=>b4<|afD h1 h2 q
end
end
open Zq.Cs renaming nil->bO
open Zq.Lw renaming nil->qM
section
noncomputable def Ms{a:Type}(d:a):aa a->O->a
|[],_=>d|a::l,n=>XQ n a<|Ms d l
noncomputable def nmT:=[["x","y",".0","at","abs","act","dot","due","law","len","max","one","own","pen","row","str","sum","way","Core","Leaf"],["NONE","Rule","Tree","best","bits","cell","deep","dict","done","drop","ends","fail","fill","goal","goto","here","item","kept","kind","last"],["left","line","list","lone","look","made","many","mask","mode","more","most","move","name","node","note","pair","part","pile","pull","rest"],["rows","rule","seed","seen","self","sets","size","spot","step","text","told","tree","turn","what","wish","Fault","QUIET","Token","_wall","added"],["after","ahead","begin","begun","build","built","child","close","count","digit","empty","error","fault","first","found","frame","go_on","gotos","great","heard"],["index","inner","items","kinds","known","later","lefts","looks","maker","masks","moves","named","names","needs","other","pairs","parse","parts","place","queue"],["quiet","range","reads","right","rules","seeds","shift","spots","stack","start","state","super","texts","token","trees","tuple","turns","users","value","words"],["worth","ACCEPT","BARRED","Closer","Parser","Tables","action","answer","barred","before","behind","caught","chosen","closer","counts","direct","dot_of","expand","expect","faults"],["finish","firsts","frames","kernel","length","levels","looked","middle","number","owners","parser","places","reduce","result","rights","script","settle","shifts","sorted","source"],["spread","states","status","symbol","tables","tokens","values","wanted","Builder","Control","Grammar","Handler","LrState","Outcome","befores","by_left","checked","control","default","digraph"],["follows","grammar","handler","has_lac","heights","is_leaf","lacking","lengths","missing","numbers","offsets","ordered","outcome","recover","rule_of","settled","symbols","waiting","without","Conflict"],["RowMaker","TokenRow","__init__","accepted","add_once","advanced","children","defaults","expected","explicit","first_of","includes","is_clean","is_grown","is_tried","is_whole","level_of","lookback","masks_of","nullable"],["relation","reversed","rules_of","terminal","Automaton","ToolError","_law_draw","_law_some","_law_text","automaton","conflicts","enumerate","lone_rule","nullables","number_of","open_ends","postorder","slr_masks","END_driver","END_tables"],["Lookaheads","ParseError","TableError","_law_empty","_law_heard","_law_known","_law_pairs","_law_right","default_of","error_goal","find_reads","isinstance","item_count","lalr_masks","left_names","next_token","read_masks","reductions","settle_one","slr_tables"],["tell_fault","transitive","would_take","END_grammar","ParseTables","TreeHandler","_law_frames","_law_leaves","closure_one","first_masks","is_terminal","lalr_tables","make_tables","nonterminal","terminal_of","transitions","ERROR_driver","ERROR_tables","GrammarError","_law_machine"],["first_kernel","follow_masks","joined_masks","symbol_count","OWN_TERMINALS","_law_sentence","find_includes","is_consistent","last_terminal","plain_grammar","settle_levels","with_defaults","CanonicalState","complete_rules","exact_expected","is_established","kernels_behind","terminal_count","advanced_lrzero","build_canonical"],["conflict_counts","UNDEFINED_driver","UNDEFINED_tables","canonical_tables","CanonicalAutomaton","number_transitions"]]
def kk(a):=Dd<|Ms "" (Ms [] nmT<|a/20)<|a%20
noncomputable def af6:=326
def gN(a):=aD (dG a af6) (kk a) ⟨#[a+5000000]⟩
def oS(f):=dN (cm ahp f) 0
def aZ(a):=jQ<|cq a Challenge.pw_nn0431_01.main.body
noncomputable def Kd{a:Type}(x)(d)(f:bj->Arguments->aa fF->Scope->a):=dite (x.ctorIdx=0) (λh=>akZ (motive_2:=λZ=>a) x h λn a b Z Z Z s Z Z Z=>f n a b s) λZ=>d
noncomputable def XA{a:Type}(x)(d)(f:bj->aa fF->a):=dite (x.ctorIdx=2) (λh=>abJ (motive_2:=λZ=>a) x h λn Z Z b Z Z Z Z Z Z Z=>f n b) λZ=>d
def bF(j)(x):=XA x x λZ b=>jQ<|cq j b
def q0(x):=Kd x [] λZ Z b Z=>b
def Φ(x):=Kd x IT λZ Z Z s=>s
noncomputable def KT:=[244,188,143,219,189,75,190,298,191,19,260,192,193,261,284,144,220,21,262,77,221,22,285,246,263,264,265,287,299,266,267,305,247,248,224,318,24,84,323,196,313,320,268,199,314,32,289,230,301,316,273,291,308,8,274,292,239,309,256,176,257,279,180,281,218,282]
def wZ(f:O):=KT.any<|aE f
abbrev iE:=aa<|O×fX
noncomputable def cX:iE->O->ba fX
|[],_=>A|p::r,a=>aD (aE p.1 a) (J p.2)<|cX r a
noncomputable def Na:iE->O->(fX->fX)->iE
|[],_,_=>[]|p::r,a,f=>aD (aE p.1 a) ((p.1,f p.2)::r)<|p::Na r a f
structure LS where
L:iE
n:O
yn:gM GenState
x5:Drawn
yf:O
os:D0
abbrev O! :=(vx->l9 Ad)->zT->lr->cS->qP->Step
noncomputable def z5(x:l9 Ad):=aE (wG x) 6||(aE (wG x) 7||(aE (wG x) 8||aE (wG x) 9))
noncomputable def NN(a:O!)(b:vx->l9 Ad)(p:zT)(c:lr)(s:LS)(t:qP):ba (LS×qP):=match a b p c ⟨{},s.yn,s.x5,s.yf,s.os⟩ t with
| .go d e=>J ({s with yn:=d.gens,x5:=d.drawn,yf:=gu d,os:=d.os},e)
| .halt _ _=>A
def LP(s)(t:qP)(x):=
dite (wG x=6) (λh=>m' (motive:=λZ=>ba<|LS×qP) x h λa Z k=>er (cX s.L a) λo=>(r7 o).map λb=>(s,{t with cur:=k b})) λZ=>
dite (wG x=7) (λh=>Uk (motive:=λZ=>ba<|LS×qP) x h λa Z f k=>er (cX s.L a) λo=>(r7 o).map λZ=>({s with L:=Na s.L a f},{t with cur:=k ()})) λZ=>
dite (wG x=8) (λh=>Yi (motive:=λZ=>ba<|LS×qP) x h λo k=>J ({s with L:=(s.n,o)::s.L,n:=s.n+1},{t with cur:=k s.n})) λZ=>
dite (wG x=9) (λh=>U6 (motive:=λZ=>ba<|LS×qP) x h λa k=>(cX s.L a).map λo=>(s,{t with cur:=k<|r7 o})) λZ=>A
def TK(st)(a)(p)(b)(s)(t):=aD (z5 t.cur) (LP s t t.cur)<|NN st a p b s t
def RL(a:LS)(s):=oj (∀b o,cX a.L b=J o->s.heap.objs[b]?=J o) (d6 s.heap.objs=a.n) (s.gens=a.yn) (s.drawn=a.x5) (gu s=a.yf)<|s.os=a.os
def ya(L:∀b o,cX a.L b=J o->s.heap.objs[b]?=J o)(n:d6 s.heap.objs=a.n)(g:s.gens=a.yn)(d:s.drawn=a.x5)(t:gu s=a.yf)(o:s.os=a.os):RL a s:=eY L n g d t o
def FL(a b:LS)(s c:cS):=e7 (a.n<=b.n)<|∀d,d<a.n->cX a.L d=A->cX b.L d=A/\c.heap.objs[d]?=s.heap.objs[d]?
def Eu(n:a.n<=c.n)(d:∀b,b<a.n->cX a.L b=A->cX c.L b=A/\e.heap.objs[b]?=s.heap.objs[b]?):FL a c s e:=cp n d
variable{h:vx->l9 Ad}{e:zT}{g:lr}{b f l:LS}{a d k:cS}{c j:qP}
def FL.refl:FL b b a a:=Eu (bb _) λc Z d=>br d rfl
def FL.trans(c:FL b f a d)(e:FL f l d k):FL b l a k:=Eu (ae (c V)<|e V) (λg h j=>
 have m:=(c J1) g h j;have j:=(e J1) g (cc h<|c V) m.1
 ⟨j.1,af j.2 m.2⟩)
def yJ{a b:O}(c:a≠b):aE a b=false:=by
 cases q:aE a b with
 |false=>rfl|true=>exact ay (eb q) c
def Y':∀{L} m,cX (Na L n o) m=if m=n then b7 o (cX L n) else cX L m:=by
 intro L
 induction L with
 |nil=>intro m;split<;>rfl|cons a b c=>
  refineλm=>(?_:cX (aD _ _ _) m=if m=n then b7 o (aD _ (J a.2) _) else aD _ _ _)
  by_cases d:a.1=n
  .refine W d<|W (fJ ..)<|(?_:aD (aE n m) _ _=_)
   by_cases e:m=n
   .exact W e<|W (fJ ..)<|W (aJ Y) Y
   .exact W (aS e)<|W (yJ<|me e) Y
  .refine W (yJ d) (?_:aD _ _ _=_);refine W (c m) ?_
   by_cases e:m=n
   .rw [e,yJ d,aJ Y,aJ Y];rfl
   .exact W (aS e)<|W (aS e) Y
def H8{a:O}{o}(b:m.objs[a]?=J o):aH m a=r7 o:=by unfold aH;refine W b ?_;obtain⟨c,d,dt,e⟩:=o;cases dt<;>rfl
def akn{code}{Cc}(c:RL b a)(k:z5 m=u)
 (l:NN step h e g b ⟨m,code,n,Cc⟩=J (f,j)):∃d,step h e g a ⟨m,code,n,Cc⟩= .go d j/\RL f d/\FL b f a d:=by
 have h1:∀o q p,m≠ .load o q p:=λo q p r=>bU<|r▸k;have h2:∀o q s p,m≠ .update o q s p:=λo q s p r=>bU<|r▸k;have h3:∀t p,m≠ .alloc t p:=λt p r=>bU<|r▸k;have v:∀o p,m≠ .loadIfAlive o p:=λo p r=>by rw [r] at k;exact bU k
 unfold NN at l;cases q:step h e g ⟨{},b.yn,b.x5,b.yf,b.os⟩ ⟨m,code,n,Cc⟩ with
 |halt t a=>rw [q] at l;exact aI l|go k x=>rw [q] at l;cases l;refine⟨⟨a.heap,k.gens,k.drawn,gu k,k.os⟩,?_,ya (c V) (c J1) Y Y Y Y,Eu (bb _) λl Z r=>br r rfl⟩;have k:=step_heap (H:=a.heap) h1 h2 h3 v q;rw [<-(c J2),<-(c J3),<-(c J4),<-(c J5)] at k;exact k
def aeJ{b:l9 Ad->Prop}(c:z5 x=Q)(g:∀d e a,b<| .load d e a)(h:∀d e j a,b<| .update d e j a)(f:∀f a,b<| .alloc f a)(k:∀d a,b<| .loadIfAlive d a):b x:=
aP (kv.mp c) (λl=>m' x (eb l) g) λc=>aP (kv.mp c) (λl=>Uk x (eb l) h) λc=>aP (kv.mp c) (λl=>Yi x (eb l) f) λl=>U6 x (eb l) k
def SH(h)(e)(g)(b f)(a)(c j)(x):=LP b c x=J (f,j)->∃d,step h e g a {c with cur:=x}= .go d j/\RL f d/\FL b f a d
def alZ(d:RL b a)(x)(k:z5 x=Q):SH h e g b f a c j x:=by
 obtain⟨l,m,n,tk,o⟩:=a;refine aeJ k (λp k q r=>?_) (λp k s q r=>?_) (λt q r=>?_) λp q r=>?_
 .refine aA (iv.mp r) λt v r=>aA (oI.mp r) λy z r=>?_;cases r;exact⟨⟨l,m,n,tk,o⟩,by rw [step];exact W (af (H8<|(d V) _ _ v) z:aH l p=J y) Y,d, .refl⟩
 .refine aA (iv.mp r) λt v r=>aA (oI.mp r) λy z r=>?_;cases r;have H:∀I,(qR l p s).objs[I]?=if p=I then b7 s (l.objs[I]?) else l.objs[I]?:=λI=>Array.getElem?_modify
  refine⟨⟨qR l p s,m,n,tk,o⟩,?_,ya (λI x L=>?_) ?_ (d J2) (d J3) (d J4)<|d J5,Eu (bb _) λI Z N=>?_⟩
  .simp only [step];exact W (af (H8<|(d V) _ _ v) z:aH l p=J y) Y
  .rw [Y'] at L;refine W (H I) ?_
   by_cases z:I=p
   .rw [aJ z,v] at L;exact W (aJ z.symm)<|W z<|W ((d V) _ _ v:l.objs[p]?=J t) L
   .rw [aS z] at L;exact W (aS<|me z)<|(d V) _ _ L
  .exact W Array.size_modify<|d J1
  .have z:I≠p:=λz=>by rw [z,v] at N;cases N
   exact⟨W (Y' ..)<|W (aS z) N,W (H I)<|aS<|me z⟩
 .cases r;have q:d6 l.objs=b.n:=d J1;refine⟨⟨dh l t,m,n,tk,o⟩,?_,ya (λI x L=>?_) ?_ (d J2) (d J3) (d J4)<|d J5,Eu (fh _) λI s N=>?_⟩
  .simp only [step];exact W (q:d6 l.objs=b.n) Y
  .have L:aD (aE b.n I) (J t) _=J x:=L;refine W (v!) ?_
   by_cases z:b.n=I
   .rw [z,fJ] at L;exact W (aJ<|af z.symm q.symm) L
   .rw [yJ z] at L;exact W (aS λk=>z<|af q.symm k.symm)<|(d V) _ _ L
  .exact W (Array.size_push ..)<|aq _ q
  .have z:=(fI s).symm;refine br ?_ ?_
   .show aD _ (J t) _=A;exact W (yJ z) N
   .exact W (v!)<|aS λk=>z<|af q.symm k.symm
 .refine aA (oI.mp r) λt v r=>?_;cases r;exact⟨⟨l,m,n,tk,o⟩,by simp only [step];exact W (H8 ((d V) _ _ v):aH l p=r7 t) Y,d, .refl⟩
def ahk(l:RL b a)(k:TK step h e g b c=J (f,j)):∃d,step h e g a c= .go d j/\RL f d/\FL b f a d:=by
 have k:aD (z5 c.cur) (LP b c c.cur) _=_:=k;cases q:z5 c.cur with
 |false=>rw [q] at k;exact akn l q k|true=>rw [q] at k;exact alZ l _ q k
noncomputable def Jw(b:O!)(h:vx->l9 Ad)(d:O->ba a0->qP->bc)(e:zT)(g:lr)(f:O)(j:ba a0)(k:O):O->LS->qP->ba (E5×LS×vx×la)
|0,_,_=>A|n+1,a,c=>jF (endAt k c) (aD (d f j c) (er (TK b h e g a c) λl=>Jw b h d e g f j k n l.1 l.2) A) λb=>J (b,a,c.code,c.pos)
def ajj:∀{n} {b} {a} {c},RL b a->Jw step (O6 q) JH e g m o p n b c=J (r,f,s,t)->∃d,JW q e g m o p n a c=J (r,d,s,t)/\RL f d/\FL b f a d:=by
 intro n;refine @(n.rec (λZ h=>aI h) λn j=>?_);intro b a c l h;have h:jF (endAt p c) _ _=_:=h;unfold JW;cases v:endAt p c with
 |some x=>rw [v] at h;have h:=rN<|aC h;have h2:=rN h.2;exact⟨a,aq J<|qo h.1<|qo Y h2.2,h2.1▸l,h2.1▸ .refl⟩|none=>
  rw [v] at h;have h:aD (JH m o c) _ _=_:=h;cases y:JH m o c with
  |false=>rw [y] at h;exact aI h|true=>rw [y] at h;exact aA (iv.mp h) λr2 z h=>hv (ahk (f:=r2.1) (j:=r2.2) l z) λl l r1 H=>hv (j r1 h) λk h j I=>⟨k,W l h,j,H.trans I⟩
abbrev Tg:=Jw abG (ο abn) abI
def agi:Tg=Jw step (O6 wd) JH:=W akB<|W acY<|W agk<|W adn Y
end
section
noncomputable def dl:O->O->aa O->aa O
|0,_,r=>r|f+1,n,r=>aD (aE n 0) r<|dl f (n/256)<|n%256::r
noncomputable def N(n:O):bj:=⟨⟨dl 60 n []⟩⟩
noncomputable abbrev o:a0:=bQ
noncomputable abbrev r(a:O):a0:=w a
noncomputable abbrev I(a:au)(t:O):a0:=ey a t
noncomputable def s(n t:O):a0:=gP (N n) t
noncomputable def S0(a:gG)(n:bj)(t:O)(v:a0):gE:={hash:=abW a n,key:=gP n t,val:=v}
def en(a:gG)(n:O):O->a0->gE:=S0 a<|N n
noncomputable def gx(n:O)(a:aa gE):fX:={cls:=u1,data:=pM ⟨a⟩ n}
def gd(a:aa gE):fX:=gx (U a) a
noncomputable def tO(l:aa a0):fX:={cls:=nu,data:=pq ⟨l⟩ 0}
noncomputable def Vc(v:a0):fX:={cls:=cJ "cell",data:=q5<|J v}
def ZL(x:fF):Arguments:=Kd x default λZ a Z Z=>a
noncomputable def D'{a:Type}(x:fF)(d:a)(f:cZ->a):a:=dite (x.ctorIdx=5) (λh=>ae1 (motive_2:=λZ=>a) x h λt Z Z=>jF (mj t) d f) λZ=>d
def KW(x:fF):bj:=Kd x (XA x (D' x default λt=>dite (t.ctorIdx=23) (λh=>ac4 (motive_1:=λZ=>bj) t h λn Z=>n) λZ=>default) λn Z=>n) λn Z Z Z=>n
def htp(x:fF):la:=D' x x.pos λt=>t.pos
def hR(a:O):bj:=KW<|aZ a
noncomputable def nth(l:aa O)(a:O):Nat:=dN (l[a]?) 0
def Ub(t:O):a0:=s 0x2f636c61696d2f6375742e7079 t
def Mw(a:O):a0:=dN ([s 0x5f5f6d61696e5f5f 164,s 0x6772616d6d61726d696c6c2e736f75726365 194,s 0x6772616d6d61726d696c6c2e616e616c79736973 341,s 0x6772616d6d61726d696c6c2e6c727a65726f 404,s 0x6772616d6d61726d696c6c2e6c6f6f6b6168656164 694,s 0x6772616d6d61726d696c6c2e63616e6f6e6963616c 850,s 0x6772616d6d61726d696c6c2e7461626c6573 1016,s 0x6772616d6d61726d696c6c2e647269766572 1474,s 0x6772616d6d61726d696c6c2e6772616d6d6172 2094,s 0x6772616d6d61726d696c6c2e6e6f646573 2273,s 0x6c61775f6e6e303433315f3031 2472])[a]? o
def Ya(n:O):a0:=aD (aE n 0) o<|r n
def vo(c a j t d m df b:O)(e:aa<|bj×cx)(f:a0):iE:=
 let x:=aD (aE j 0) (aZ a)<|bF (j-1)<|aZ a;let n:=KW x;let q:=aD (aE j 0) n<|hR a++N 46++n;let l:a0:=ey x.pos.line 0;let z:a0:=ey 0 0;let h (k:O):a0:=r<|c-k;let y (a:a0):a0:=aD (aE b 0) a o
 [(c,{cls:=cJ "code",data:=eZ ⟨[gP n t,gP q<|t+1,Ub<|t+2,l,ey (U (ZL x).args) 0,z,z,ey 3 0,h<|aD (aE b 0) 5 3,eO Q,ey 181 0,h<|aD (aE b 0) 4 2,o,y<|h 3,y<|h 2,h 1,ey d 0,l,Ub<|d+1]⟩}),(c+1,{cls:=cJ "function",data:= .func {name:=n,qualname:=q,params:=ZL x,body:= .stmts<|q0 x,scope:=Φ x,globals:=3,closure:=e,defaults:=Ya df,kwdefaults:=bQ,pyModule:=Mw m,code:=w c,closureTuple:=f}})]
def hfz(c a j t b m df d:O):iE:=vo c a j t b m df d [] o
def hfx:aa bj:=[N 0x5f5f6d6f64756c655f5f,N 0x5f5f66697273746c696e656e6f5f5f,N 0x5f5f7374617469635f617474726962757465735f5f,N 0x5f5f646963745f5f,N 0x5f5f7765616b7265665f5f,N 0x5f5f646f635f5f]
noncomputable def V3(a:gG)(x:fF):aa O->aa gE
|k::t::v::l=>S0 a (aD (dG k 100) (KW<|bF k x)<|dN hfx[k-100]? default) t (aD (aE k 100) (Mw v)<|aD (aE k 101) (ey x.pos.line<|t-1)<|Ya v)::V3 a x l|_=>[]
def KL(a:gG)(b n:O)(l:aa O):fX:=gx n<|V3 a (aZ b) l
noncomputable def kO(n:bj)(b m:aa a0)(ns:O)(a:aa a0)(c:ba a0)(t d:O)(e:a0):fX:={cls:=cJ "type",data:= .cls {name:=n,bases:=b,mro:=m,ns:=ns,qualname:=n,subclasses:=a},slots:=#[c,A,J<|gP n t,J<|gP n d,J e,J<|eO Q]}
noncomputable abbrev b0:=boot_o_0
noncomputable abbrev PG:=Challenge.pw_nn0431_01
def yP:aa fF:=behindTheImports PG
def zq:jE:={scope:=PG.main.scope,locals:=3,globals:=3,cells:=[],code:=w 13,frame:=J 14}
def y3:vx:= .body yP zq
noncomputable def o4:fX:={cls:=cJ "module",dict:=J 0}
def Xe:fX:={cls:=cJ "code",data:=eZ ⟨[s 0x3c6d6f64756c653e 182,s 0x3c6d6f64756c653e 183,s 0x2f636c61696d2f6375742e7079 184,I 1 0,I 0 0,I 0 0,I 0 0,I 0 0,r 11,eO u,I 181 0,r 12,o,o,o,o,I 185 0,I 1 0,s 0x2f636c61696d2f6375742e7079 186]⟩}
def x2(a:gG):fX:=let e:=en a;{cls:=bQ,data:=pM ⟨[e 0x747970652e5f5f737562636c61737365735f5f2e457863657074696f6e2e30 230<|I 46 0,e 0x747970652e5f5f737562636c61737365735f5f2e457863657074696f6e2e6e 231<|I 1 0]⟩ 2}
noncomputable def VM(a:gG)(b:a0):aa a0->aa O->aa gE
|c,d::t::v::l=>let(y,e):=(match v,c with|0,f::e=>(f,e)|2,_=>(b,c)|v,_=>(r v,c));S0 a (hR d) t y::VM a b e l
|_,_=>[]
def ge(a:gG)(b c:a0):aa gE:=let e:=en a;[e 0x5f5f6e616d655f5f 165 b,e 0x5f5f646f635f5f 166 o,e 0x5f5f7061636b6167655f5f 167 o,e 0x5f5f6c6f616465725f5f 168<|eh "__main__.__loader__#opaque",e 0x5f5f737065635f5f 169 o,e 0x5f5f616e6e6f746174696f6e735f5f 170<|r 6,e 0x5f5f6275696c74696e735f5f 171<|r 4,e 0x5f5f66696c655f5f 173<|s 0x2f636c61696d2f6375742e7079 172,e 0x5f5f6361636865645f5f 174 o]++VM a c [I (-1) 407,I 1048576 1020,I (-1048576) 1025,I 0 1027,I 1 1029,I 2 1031,I 0 1476,I 1 1478,I 2 1480,I 3 1482,I 0 2096] [0,193,21,2,233,46,3,249,59,4,265,71,5,281,83,6,330,117,7,340,128,9,348,133,10,355,140,11,366,147,12,379,154,13,393,161,14,403,168,16,408,0,17,459,199,18,522,241,19,530,2,20,531,252,21,543,259,22,553,266,23,627,318,24,686,360,25,693,371,27,714,378,28,823,435,29,831,446,30,838,453,31,849,460,33,896,482,34,953,524,35,973,535,37,980,540,38,987,547,39,1005,555,40,1015,562,42,1021,0,43,1026,0,44,1028,0,45,1030,0,46,1032,0,47,1167,656,48,1211,684,49,1267,726,50,1278,735,51,1354,778,52,1365,789,53,1371,794,54,1391,802,55,1400,810,56,1409,818,57,1418,826,58,1428,834,59,1437,841,60,1447,848,61,1462,855,62,1473,862,64,1477,0,65,1479,0,66,1481,0,67,1483,0,68,1528,893,69,1579,929,70,1621,957,71,1659,985,72,1875,1152,73,1962,1229,74,2093,1335,76,2097,0,77,2101,1338,78,2146,1356,79,2256,1438,80,2266,1449,81,2272,1455,83,2357,1517,84,2399,1552,85,2410,1561,86,2465,1599,87,2471,1608,89,2537,1657,90,2549,1664,91,2555,1669,92,2567,1676,93,2573,1681,94,2584,1688,95,2590,1693,96,2596,1698,97,2602,1703,98,2608,1708,99,2614,1713,100,2620,1718,101,2632,1725]
noncomputable def l?:aa O->aa a0
|a::b::l=>I a 0::I 0 0::r b::l? l|_=>[]
def c12:aa a0:=l? [1,20,5,27,16,55,18,67,20,79,22,91,35,127,46,132,72,139,74,146,81,153,95,160,113,167,122,174,139,209,168,251,171,258,183,265,189,272,214,328,242,370,245,377,279,384,360,445,363,452,365,459,373,466,393,492,411,534,433,539,442,546,444,554,464,561,476,568,537,666,548,695,571,734,587,741,650,788,662,793,664,801,685,809,688,817,691,825,694,833,702,840,708,847,717,854,732,861,743,868,753,903,766,939,776,967,789,995,910,1162,948,1240,1031,1344,1041,1366,1087,1448,1093,1454,1116,1461,1150,1527,1163,1560,1172,1567,1188,1607,1192,1663,1207,1668,1209,1675,1223,1680,1231,1687,1240,1692,1284,1697,1295,1702,1302,1707,1309,1712,1334,1717,1353,1724]
structure Dt where
n:O
k:O
p:la
nv:a0
av:a0
c:O
j:O
y:bc
m:iE
def nw(a:gG)(d:Dt):iE:=(3,gd<|(ge a d.nv d.av).take d.c)::(12,{cls:=bQ,data:=eZ ⟨c12.take d.j⟩})::(4,o4)::(13,Xe)::(0,b0 a)::(2,aD d.y (x2 a) {cls:=bQ,data:=pM #[] 0})::d.m
def kz(c:gG)(a b k d v:O)(l:aa O):iE:=[(a-1,KL c b k l),(a,kO (hR b) [e2] [r a,e2] (a-1) [] A d v<|eh "object.__new__")]
def mr(a:gG)(l:aa O):iE:=let g:=nth l;aD (js (U l) 8) (hfz (g 0) (g 1) (g 2) (g 3) (g 4) (g 5) (g 6)<|g 7) (kz a (g 0) (g 1) (g 2) (g 3) (g 4)<|l.drop 5)
noncomputable abbrev vz:=eh "Exception.__new__"
def mo(a:gG):iE:=let b:=KL a;[(29,tO [o])]++([[35,2,1,208,214,1,29]].flatMap (mr a)++([(45,b 2 3 [100,203,1,101,207,0,0,216,36,1,223,43,102,226,44,104,228,47,105,229,0]),(46,kO (hR 2) [jm] [r 46,jm,qF,e2] 45 [r 59,r 71,r 83] (J<|r 22) 196 204<|vz),(58,b 3 2 [100,241,1,101,245,0,102,246,57,105,247,0]),(59,kO (hR 3) [r 46] [r 59,r 46,jm,qF,e2] 58 [] (J<|r 50) 234 242<|vz),(70,b 4 2 [100,257,1,101,261,0,102,262,69,105,263,0]),(71,kO (hR 4) [r 46] [r 71,r 46,jm,qF,e2] 70 [] (J<|r 62) 250 258<|vz),(82,b 5 2 [100,273,1,101,277,0,102,278,81,105,279,0]),(83,kO (hR 5) [r 46] [r 83,r 46,jm,qF,e2] 82 [] (J<|r 74) 266 274<|vz),(93,tO [o])]++([[99,6,1,294,302,1,93],[106,6,2,305,309,1],[117,6,4,282,290,100,289,1,101,293,0,0,304,100,1,311,107,2,318,114,102,323,115,103,325,118,104,327,119,105,328,0],[127,7,0,331,338,1],[132,9,0,343,346,2,0,1],[139,10,0,349,353,2],[146,11,0,356,364,2],[153,12,0,367,377,2],[160,13,0,380,391,2],[167,14,0,394,401,2],[181,17,1,421,428,3],[188,17,2,431,436,3],[199,17,4,409,417,100,416,3,101,420,0,0,430,182,1,438,189,2,445,196,102,452,197,103,454,200,104,456,201,105,457,0],[216,18,1,472,479,3],[223,18,2,482,490,3],[230,18,3,493,502,3],[237,18,4,505,510,3],[241,18,4,460,468,100,467,3,101,471,0,0,481,217,1,492,224,2,504,231,3,512,238,102,515,239,103,517,242,104,519,243,105,520,0],[251,19,0,523,528,3],[258,21,0,532,541,3],[265,22,0,544,551,3],[279,23,1,566,572,3],[286,23,2,575,581,3],[318,23,4,554,562,100,561,3,101,565,0,0,574,280,1,583,287,2,594,294,3,603,301,4,610,308,5,617,315,102,620,316,103,622,319,104,624,320,105,625,0],[335,24,1,640,645,3],[342,24,2,648,654,3],[349,24,3,657,664,3],[356,24,4,667,672,3],[360,24,4,628,636,100,635,3,101,639,0,0,647,336,1,656,343,2,666,350,3,674,357,102,679,358,103,681,361,104,683,362,105,684,0],[370,25,0,687,691,3],[377,27,0,696,712,4],[389,28,1,727,730,4,0,1],[396,28,2,733,740,4],[403,28,3,743,755,4],[410,28,4,758,774,4],[417,28,5,777,783,4],[424,28,6,786,794,4],[435,28,4,715,723,100,722,4,101,726,0,0,732,390,1,742,397,2,757,404,3,776,411,4,785,418,5,796,425,6,803,432,102,816,433,103,818,436,104,820,437,105,821,0],[445,29,0,824,829,4],[452,30,0,832,836,4],[459,31,0,839,847,4],[482,33,4,852,860,100,859,5,101,863,0,0,869,472,1,880,479,102,889,480,103,891,483,104,893,484,105,894,0],[524,34,4,897,905,100,904,5,101,908,0,0,917,500,1,924,507,2,933,514,3,943,521,102,946,522,103,948,525,104,950,526,105,951,0],[575,47,1,1045,1055,6],[582,47,2,1058,1063,6],[589,47,3,1066,1071,6],[596,47,4,1074,1079,6],[603,47,5,1082,1087,6],[624,47,8,1106,1111,6],[638,47,10,1123,1130,6],[645,47,11,1133,1141,6],[652,47,12,1144,1150,6]].flatMap (mr a)++([(655,b 47 4 [100,1040,6,101,1044,0,0,1057,576,1,1065,583,2,1073,590,3,1081,597,4,1089,604,5,1096,611,6,1105,618,7,1113,625,8,1122,632,9,1132,639,10,1143,646,11,1152,653,102,1160,654,103,1162,657,104,1164,658,105,1165,0]),(656,kO (hR 47) [e2] [r 656,e2] 655 [r 726] A 1033 1041<|eh "object.__new__")]++([[673,48,1,1180,1189,6],[684,48,4,1168,1176,100,1175,6,101,1179,0,0,1191,674,1,1198,681,102,1204,682,103,1206,685,104,1208,686,105,1209,0]].flatMap (mr a)++([(692,Vc<|r 726)]++(vo 701 49 1 1224 1228 6 0 1 [(N 0x5f5f636c6173735f5f,692)] (r 697)++([[715,49,3,1238,1244,6],[722,49,4,1247,1253,6]].flatMap (mr a)++([(725,b 49 3 [100,1219,6,101,1223,0,0,1230,702,1,1237,709,2,1246,716,3,1255,723,102,1263,724,105,1265,0]),(726,kO (hR 49) [r 656] [r 726,r 656,e2] 725 [] (J<|r 689) 1212 1220<|eh "object.__new__")]++([[734,50,0,1268,1276,6],[748,51,1,1291,1300,6],[755,51,2,1303,1310,6],[769,51,4,1324,1331,6],[774,51,5,1334,1337,6,0,1],[778,51,4,1279,1287,100,1286,6,101,1290,0,0,1302,749,1,1312,756,2,1323,763,3,1333,770,4,1339,775,102,1347,776,103,1349,779,104,1351,780,105,1352,0],[788,52,0,1355,1363,6],[793,53,0,1366,1369,6,0,1]].flatMap (mr a)++([(795,tO [s 0x6c616c72 1372])]++([[801,54,0,1373,1389,6,795]].flatMap (mr a)++([(803,tO [eO Q])]++([[809,55,0,1392,1398,6,803]].flatMap (mr a)++([(811,tO [eO Q])]++([[817,56,0,1401,1407,6,811]].flatMap (mr a)++([(819,tO [eO Q])]++([[825,57,0,1410,1416,6,819]].flatMap (mr a)++([(827,tO [s 0x6c616c72 1419,eO Q])]++([[833,58,0,1420,1426,6,827],[840,59,0,1429,1435,6],[847,60,0,1438,1445,6],[854,61,0,1448,1460,6],[861,62,0,1463,1471,6],[893,68,4,1484,1492,100,1491,7,101,1495,0,0,1503,876,1,1513,883,2,1520,890,102,1521,891,103,1523,894,104,1525,895,105,1526,0]].flatMap (mr a)++([(905,tO [I (-1) 1542])]++([[911,69,1,1543,1551,7,905],[918,69,2,1554,1558,7],[929,69,4,1529,1537,100,1536,7,101,1540,0,0,1553,912,1,1560,919,2,1567,926,102,1572,927,103,1574,930,104,1576,931,105,1577,0],[946,70,1,1592,1600,7],[957,70,4,1580,1588,100,1587,7,101,1591,0,0,1602,947,1,1609,954,102,1614,955,103,1616,958,104,1618,959,105,1619,0],[974,71,1,1634,1639,7],[981,71,2,1642,1647,7],[985,71,4,1622,1630,100,1629,7,101,1633,0,0,1641,975,1,1649,982,102,1652,983,103,1654,986,104,1656,987,105,1657,0]].flatMap (mr a)++([(997,tO [o,I 5000 1672])]++([[1003,72,1,1673,1680,7,997],[1010,72,2,1683,1687,7],[1017,72,3,1690,1694,7],[1024,72,4,1697,1702,7],[1031,72,5,1705,1710,7],[1045,72,7,1721,1725,7],[1052,72,8,1728,1733,7],[1059,72,9,1736,1741,7],[1066,72,10,1744,1750,7],[1073,72,11,1753,1758,7],[1080,72,12,1761,1765,7],[1087,72,13,1768,1774,7],[1094,72,14,1777,1785,7],[1108,72,16,1796,1801,7],[1115,72,17,1804,1813,7],[1129,72,19,1825,1832,7],[1136,72,20,1835,1839,7],[1141,72,21,1842,1845,7,0,1],[1148,72,22,1848,1853,7]].flatMap (mr a)++([(1151,b 72 4 [100,1667,7,101,1671,0,0,1682,1004,1,1689,1011,2,1696,1018,3,1704,1025,4,1712,1032,5,1720,1039,6,1727,1046,7,1735,1053,8,1743,1060,9,1752,1067,10,1760,1074,11,1767,1081,12,1776,1088,13,1787,1095,14,1795,1102,15,1803,1109,16,1815,1116,17,1824,1123,18,1834,1130,19,1841,1137,20,1847,1142,21,1855,1149,102,1868,1150,103,1870,1153,104,1872,1154,105,1873,0]),(1152,kO (hR 72) [e2] [r 1152,e2] 1151 [r 1335] A 1660 1668<|eh "object.__new__")]++([[1169,73,1,1888,1893,7],[1229,73,4,1876,1884,100,1883,7,101,1887,0,0,1895,1170,1,1902,1177,2,1909,1184,3,1916,1191,4,1923,1198,5,1930,1205,6,1937,1212,7,1945,1219,8,1953,1226,102,1955,1227,103,1957,1230,104,1959,1231,105,1960,0]].flatMap (mr a)++([(1237,Vc<|r 1335),(1242,tO [o,I 5000 1975,eO u])]++(vo 1249 74 1 1976 1985 7 1242 0 [(N 0x5f5f636c6173735f5f,1237)] (r 1243)++(vo 1257 74 2 1988 1993 7 0 0 [(N 0x5f5f636c6173735f5f,1237)] (r 1251)++(vo 1265 74 3 1996 2002 7 0 0 [(N 0x5f5f636c6173735f5f,1237)] (r 1259)++([[1272,74,4,2005,2009,7],[1279,74,5,2012,2017,7]].flatMap (mr a)++(vo 1287 74 6 2020 2026 7 0 0 [(N 0x5f5f636c6173735f5f,1237)] (r 1281)++([[1294,74,7,2029,2035,7]].flatMap (mr a)++(vo 1302 74 8 2038 2046 7 0 0 [(N 0x5f5f636c6173735f5f,1237)] (r 1296)++(vo 1310 74 9 2049 2054 7 0 0 [(N 0x5f5f636c6173735f5f,1237)] (r 1304)++([[1317,74,10,2057,2062,7],[1324,74,11,2065,2070,7],[1331,74,12,2073,2078,7]].flatMap (mr a)++([(1334,b 74 3 [100,1970,7,101,1974,0,0,1987,1250,1,1995,1258,2,2004,1266,3,2011,1273,4,2019,1280,5,2028,1288,6,2037,1295,7,2048,1303,8,2056,1311,9,2064,1318,10,2072,1325,11,2080,1332,102,2089,1333,105,2091,0]),(1335,kO (hR 74) [r 1152] [r 1335,r 1152,e2] 1334 [] (J<|r 1234) 1963 1971<|eh "object.__new__"),(1338,tO [s 0x24656e64 2098,s 0x6572726f72 2099,s 0x24756e646566696e6564 2100]),(1346,tO [I (-1) 2115,o,I 0 2116,I 0 2117])]++([[1352,78,1,2118,2129,8,1346],[1356,78,4,2102,2110,100,2109,8,101,2113,0,0,2131,1353,102,2139,1354,103,2141,1357,104,2143,1358,105,2144,0],[1371,79,1,2159,2162,8,0,1],[1378,79,2,2165,2169,8],[1385,79,3,2172,2177,8],[1406,79,6,2196,2201,8],[1413,79,7,2204,2210,8],[1420,79,8,2213,2218,8],[1427,79,9,2221,2226,8],[1434,79,10,2229,2236,8],[1438,79,4,2147,2155,100,2154,8,101,2158,0,0,2164,1372,1,2171,1379,2,2179,1386,3,2187,1393,4,2195,1400,5,2203,1407,6,2212,1414,7,2220,1421,8,2228,1428,9,2238,1435,102,2249,1436,103,2251,1439,104,2253,1440,105,2254,0],[1448,80,0,2257,2264,8]].flatMap (mr a)++([(1450,tO [o])]++([[1454,81,0,2267,2270,8,1450,1],[1468,83,1,2287,2294,9],[1475,83,2,2297,2301,9],[1489,83,4,2311,2318,9]].flatMap (mr a)++([(1516,b 83 4 [100,2282,9,101,2286,0,0,2296,1469,1,2303,1476,2,2310,1483,3,2320,1490,4,2326,1495,5,2332,1500,6,2339,1507,7,2346,1514,102,2350,1515,103,2352,1518,104,2354,1519,105,2355,0]),(1517,kO (hR 83) [e2] [r 1517,e2] 1516 [r 1552] A 2275 2283<|eh "object.__new__")]++([[1534,84,1,2370,2375,9],[1541,84,2,2378,2382,9]].flatMap (mr a)++([(1551,b 84 2 [100,2365,9,101,2369,0,0,2377,1535,1,2384,1542,2,2391,1549,102,2396,1550,105,2397,0]),(1552,kO (hR 84) [r 1517] [r 1552,r 1517,e2] 1551 [] (J<|r 1522) 2358 2366<|eh "object.__new__")]++([[1560,85,0,2400,2408,9],[1574,86,1,2423,2428,9],[1581,86,2,2431,2436,9],[1588,86,3,2439,2447,9],[1595,86,4,2450,2454,9],[1599,86,4,2411,2419,100,2418,9,101,2422,0,0,2430,1575,1,2438,1582,2,2449,1589,3,2456,1596,102,2458,1597,103,2460,1600,104,2462,1601,105,2463,0],[1607,87,0,2466,2469,9,0,1]].flatMap (mr a)++([(1609,tO []),(1610,tO [s 0x73 2474,r 1609]),(1611,tO [s 0x73 2476,s 0x74 2477,s 0x62 2478]),(1612,tO [s 0x73 2475,r 1611]),(1613,tO [s 0x73 2480,s 0x6572726f72 2481,s 0x62 2482]),(1614,tO [s 0x73 2479,r 1613]),(1615,tO [s 0x61 2484]),(1616,tO [s 0x74 2483,r 1615]),(1617,tO [s 0x74 2486,s 0x63 2487,s 0x61 2488]),(1618,tO [s 0x74 2485,r 1617]),(1619,tO [r 1610,r 1612,r 1614,r 1616,r 1618]),(1620,tO [s 0x61 2490]),(1621,tO [s 0x73 2489,r 1620]),(1622,tO [s 0x62 2492,s 0x74 2493,s 0x63 2494]),(1623,tO [s 0x73 2491,r 1622]),(1624,tO [s 0x62 2496,s 0x6572726f72 2497,s 0x63 2498]),(1625,tO [s 0x73 2495,r 1624]),(1626,tO []),(1627,tO [s 0x74 2499,r 1626]),(1628,tO [s 0x74 2501,s 0x73 2502]),(1629,tO [s 0x74 2500,r 1628]),(1630,tO [r 1621,r 1623,r 1625,r 1627,r 1629]),(1631,tO [s 0x61 2504]),(1632,tO [s 0x73 2503,r 1631]),(1633,tO [s 0x6572726f72 2506]),(1634,tO [s 0x73 2505,r 1633]),(1635,tO [s 0x73 2508,s 0x63 2509,s 0x74 2510]),(1636,tO [s 0x73 2507,r 1635]),(1637,tO [s 0x62 2512]),(1638,tO [s 0x74 2511,r 1637]),(1639,tO [s 0x62 2514,s 0x6572726f72 2515]),(1640,tO [s 0x74 2513,r 1639]),(1641,tO [r 1632,r 1634,r 1636,r 1638,r 1640]),(1642,tO [s 0x61 2517]),(1643,tO [s 0x73 2516,r 1642]),(1644,tO [s 0x6572726f72 2519,s 0x61 2520]),(1645,tO [s 0x73 2518,r 1644]),(1646,tO [s 0x62 2522,s 0x73 2523,s 0x63 2524]),(1647,tO [s 0x73 2521,r 1646]),(1648,tO [s 0x62 2526,s 0x6572726f72 2527,s 0x62 2528]),(1649,tO [s 0x73 2525,r 1648]),(1650,tO [s 0x74 2530,s 0x73 2531]),(1651,tO [s 0x73 2529,r 1650]),(1652,tO [s 0x63 2533]),(1653,tO [s 0x74 2532,r 1652]),(1654,tO [s 0x6572726f72 2535,s 0x63 2536]),(1655,tO [s 0x74 2534,r 1654]),(1656,tO [r 1643,r 1645,r 1647,r 1649,r 1651,r 1653,r 1655]),(1657,tO [r 1619,r 1630,r 1641,r 1656])]++([[1663,90,0,2538,2547,10],[1668,91,0,2550,2553,10,0,1],[1675,92,0,2556,2565,10],[1680,93,0,2568,2571,10,0,1],[1687,94,0,2574,2582,10],[1692,95,0,2585,2588,10,0,1],[1697,96,0,2591,2594,10,0,1],[1702,97,0,2597,2600,10,0,1],[1707,98,0,2603,2606,10,0,1],[1712,99,0,2609,2612,10,0,1],[1717,100,0,2615,2618,10,0,1],[1724,101,0,2621,2630,10]].flatMap<|mr a))))))))))))))))))))))))))))))))))))))))))))))
def sl(a:gG)(k n:O):iE:=((mo a).drop k).take n
def ajb(b:gG)(a:O):iE:=let c:=KL b;aD (aE a 0) [(1,DG b)] (aD (aE a 3) [(46,kO (hR 2) [jm] [r 46,jm,qF,e2] 45 [] (J<|r 22) 196 204<|vz)]<|aD (aE a 4) [(46,kO (hR 2) [jm] [r 46,jm,qF,e2] 45 [r 59] (J<|r 22) 196 204<|vz),(45,c 2 3 [100,203,1,101,207,0,0,216,36,1,223,43,102,226,44,104,228,47,105,229,0])]<|aD (aE a 5) [(46,kO (hR 2) [jm] [r 46,jm,qF,e2] 45 [r 59,r 71] (J<|r 22) 196 204<|vz),(45,c 2 3 [100,203,1,101,207,0,0,216,36,1,223,43,102,226,44,104,228,47,105,229,0])]<|aD (aE a 6) [(46,kO (hR 2) [jm] [r 46,jm,qF,e2] 45 [r 59,r 71,r 83] (J<|r 22) 196 204<|vz),(45,c 2 3 [100,203,1,101,207,0,0,216,36,1,223,43,102,226,44,104,228,47,105,229,0])]<|aD (aE a 48) [(656,kO (hR 47) [e2] [r 656,e2] 655 [] A 1033 1041<|eh "object.__new__")]<|aD (aE a 50) [(656,kO (hR 47) [e2] [r 656,e2] 655 [r 726] A 1033 1041<|eh "object.__new__"),(655,c 47 4 [100,1040,6,101,1044,0,0,1057,576,1,1065,583,2,1073,590,3,1081,597,4,1089,604,5,1096,611,6,1105,618,7,1113,625,8,1122,632,9,1132,639,10,1143,646,11,1152,653,102,1160,654,103,1162,657,104,1164,658,105,1165,0])]<|aD (aE a 73) [(1152,kO (hR 72) [e2] [r 1152,e2] 1151 [] A 1660 1668<|eh "object.__new__")]<|aD (aE a 75) [(1152,kO (hR 72) [e2] [r 1152,e2] 1151 [r 1335] A 1660 1668<|eh "object.__new__"),(1151,c 72 4 [100,1667,7,101,1671,0,0,1682,1004,1,1689,1011,2,1696,1018,3,1704,1025,4,1712,1032,5,1720,1039,6,1727,1046,7,1735,1053,8,1743,1060,9,1752,1067,10,1760,1074,11,1767,1081,12,1776,1088,13,1787,1095,14,1795,1102,15,1803,1109,16,1815,1116,17,1824,1123,18,1834,1130,19,1841,1137,20,1847,1142,21,1855,1149,102,1868,1150,103,1870,1153,104,1872,1154,105,1873,0])]<|aD (aE a 84) [(1517,kO (hR 83) [e2] [r 1517,e2] 1516 [] A 2275 2283<|eh "object.__new__")]<|aD (aE a 85) [(1517,kO (hR 83) [e2] [r 1517,e2] 1516 [r 1552] A 2275 2283<|eh "object.__new__"),(1516,c 83 4 [100,2282,9,101,2286,0,0,2296,1469,1,2303,1476,2,2310,1483,3,2320,1490,4,2326,1495,5,2332,1500,6,2339,1507,7,2346,1514,102,2350,1515,103,2352,1518,104,2354,1519,105,2355,0])]<|[])
noncomputable def X3(a:gG):O->aa O->aa Dt
|b,n::k::m::c::d::j::y::e::f::l=>⟨n,k,aD (aE b 0) ⟨0,0,0,0⟩<|htp<|aZ<|b-1,Mw m,r c,d,j,aE y 1,ajb a b++sl a e f⟩::X3 a (b+1) l|_,_=>[]
def dd(a:gG):aa Dt:=X3 a 0 [15,187,0,0,9,0,0,0,0,22,194,0,0,10,3,0,0,0,22,196,1,0,10,3,0,0,0,50,234,1,0,11,6,1,0,4,62,250,1,0,12,9,1,5,2,74,266,1,0,13,12,1,7,2,86,282,1,0,14,15,1,9,2,122,331,1,0,15,18,1,11,7,129,341,1,0,16,21,1,18,2,129,343,2,0,16,21,1,0,0,134,349,2,0,17,24,1,20,2,141,356,2,0,18,27,1,22,2,148,367,2,0,19,30,1,24,2,155,380,2,0,20,33,1,26,2,162,394,2,0,21,36,1,28,2,169,404,2,0,22,39,1,30,2,169,406,3,0,22,39,1,0,0,169,409,3,0,23,39,1,0,0,204,460,3,0,24,42,1,32,6,246,523,3,0,25,45,1,38,10,253,531,3,252,26,48,1,48,2,253,532,3,252,27,48,1,0,0,260,544,3,252,28,51,1,50,2,267,554,3,252,29,54,1,52,2,323,628,3,252,30,57,1,54,6,365,687,3,252,31,60,1,60,10,372,694,3,252,32,63,1,70,2,372,696,4,252,32,63,1,0,0,379,715,4,252,33,66,1,72,2,440,824,4,252,34,69,1,74,14,447,832,4,252,35,72,1,88,2,454,839,4,252,36,75,1,90,2,461,850,4,252,37,78,1,92,2,461,852,5,252,37,78,1,0,0,487,897,5,252,38,81,1,94,2,529,954,5,252,39,84,1,96,2,536,974,5,252,40,87,1,0,0,541,980,5,540,40,90,1,0,0,541,981,5,540,41,90,1,0,0,548,988,5,540,42,93,1,0,0,556,1006,5,540,43,96,1,0,0,563,1016,5,540,44,99,1,0,0,563,1018,6,540,44,99,1,0,0,563,1022,6,540,45,99,1,0,0,563,1027,6,540,46,99,1,0,0,563,1029,6,540,47,99,1,0,0,563,1031,6,540,48,99,1,0,0,563,1033,6,540,49,99,1,0,0,661,1168,6,540,50,102,1,98,19,689,1212,6,540,51,105,1,118,4,729,1268,6,540,52,108,1,122,9,736,1279,6,540,53,111,1,131,2,783,1355,6,540,54,114,1,133,10,790,1366,6,540,55,117,1,143,2,795,1372,6,540,56,120,1,145,2,803,1392,6,540,57,123,1,147,3,811,1401,6,540,58,126,1,150,3,819,1410,6,540,59,129,1,153,3,827,1419,6,540,60,132,1,156,3,835,1429,6,540,61,135,1,159,3,842,1438,6,540,62,138,1,162,2,849,1448,6,540,63,141,1,164,2,856,1463,6,540,64,144,1,166,2,863,1474,6,540,65,147,1,168,2,863,1476,7,540,65,147,1,0,0,863,1478,7,540,66,147,1,0,0,863,1480,7,540,67,147,1,0,0,863,1482,7,540,68,147,1,0,0,863,1484,7,540,69,147,1,0,0,898,1529,7,540,70,150,1,170,2,934,1580,7,540,71,153,1,172,7,962,1622,7,540,72,156,1,179,4,990,1660,7,540,73,159,1,183,6,1157,1876,7,540,74,162,1,189,40,1234,1963,7,540,75,165,1,230,4,1338,2094,7,540,76,168,1,234,28,1338,2096,8,540,76,168,1,0,0,1338,2098,8,540,77,168,1,0,0,1339,2102,8,540,78,168,1,262,1,1361,2147,8,540,79,171,1,263,5,1443,2257,8,540,80,174,1,268,18,1450,2267,8,540,81,177,1,286,2,1456,2273,8,540,82,180,1,288,3,1456,2275,9,540,82,180,1,0,0,1522,2358,9,540,83,183,1,291,7,1555,2400,9,540,84,186,1,299,6,1562,2411,9,540,85,189,1,305,2,1604,2466,9,540,86,192,1,307,10,1609,2472,9,540,87,195,1,317,2,1609,2474,10,540,87,195,1,0,0,1658,2538,10,540,88,195,1,319,49,1665,2550,10,540,89,198,1,368,2,1670,2556,10,540,90,201,1,370,2,1677,2568,10,540,91,204,1,372,2,1682,2574,10,540,92,207,1,374,2,1689,2585,10,540,93,210,1,376,2,1694,2591,10,540,94,213,1,378,2,1699,2597,10,540,95,216,1,380,2,1704,2603,10,540,96,219,1,382,2,1709,2609,10,540,97,222,1,384,2,1714,2615,10,540,98,225,1,386,2,1719,2621,10,540,99,228,1,388,2,1726,2633,10,540,100,231,1,390,2]
structure rv where
f:O
d:Fn
X:aa (O×O)
x:fF
a:O
noncomputable def kd(l:aa O):aa (O×O):=l.map λn=>(n/5,n%5)
def nL:aa rv:=[⟨376,N5,kd [320,190,345,15,700],bF 0<|aZ 6,100⟩,⟨340,LW,kd [320],bF 1<|aZ 6,107⟩,⟨24,Pb,kd [235,470,15,200],aZ 7,128⟩,⟨180,Nv,kd [1005,520,470,1030,915,685,595,305,1040,15,840,200,212,47],aZ 9,133⟩,⟨239,RI,kd [1005,902],aZ 10,140⟩,⟨230,MV,kd [1080,1265,805,235,915],aZ 11,147⟩,⟨289,KJ,kd [1005,1265,805,915,1165,305,235,1197,607,1152],aZ 12,154⟩,⟨301,Qp,kd [1005,1265,805,1000,1165,305,750,915,1197,1447,1207],aZ 13,161⟩,⟨281,QQ,kd [300,470,835,55,212,607,47],aZ 14,168⟩,⟨390,KO,kd [320,840,815,915],bF 0<|aZ 17,182⟩,⟨352,Ox,kd [320,915,102],bF 1<|aZ 17,189⟩,⟨377,Mo,kd [320,1005,300,305,47,1407],bF 0<|aZ 18,217⟩,⟨359,Nf,kd [320,815,235,180,915],bF 1<|aZ 18,224⟩,⟨347,Sv,kd [320,815,470,915,840,180,122,892],bF 2<|aZ 18,231⟩,⟨348,N6,kd [320,815,892],bF 3<|aZ 18,238⟩,⟨318,OR,kd [1005,180],aZ 19,252⟩,⟨316,NP,kd [1005,510,470,180,915,1055,1592,892,677],aZ 21,259⟩,⟨313,Nd,kd [1005,510,470,180,892],aZ 22,266⟩,⟨399,Q7,kd [320,1005,905],bF 0<|aZ 23,280⟩,⟨369,OP,kd [320,650,915],bF 1<|aZ 23,287⟩,⟨385,Rv,kd [320,1005,717],bF 0<|aZ 24,336⟩,⟨393,Ry,kd [320,815,915,47,962],bF 1<|aZ 24,343⟩,⟨370,PJ,kd [320,650,750,915,1567,1582],bF 2<|aZ 24,350⟩,⟨358,Ml,kd [320,15,102,47,1222],bF 3<|aZ 24,357⟩,⟨84,O3,kd [1005,942],aZ 25,371⟩,⟨199,PR,kd [440,1200,545,865,1020,140,285,645,810,475,0,5,195,212,607,47],aZ 27,378⟩,⟨403,Qf,kd [320,1245,440,1197,47,997],bF 0<|aZ 28,390⟩,⟨417,Mr,kd [320,1005,650,915,892,47],bF 1<|aZ 28,397⟩,⟨412,QK,kd [320,1005,650,915,165,235,70,550,525,892],bF 2<|aZ 28,404⟩,⟨416,SS,kd [320,1005,650,305,0,465,200,615,150,15,335,915,505,607,47,1122],bF 3<|aZ 28,411⟩,⟨407,My,kd [320,615,335,47,52],bF 4<|aZ 28,418⟩,⟨415,R0,kd [320,545,275,235,0],bF 5<|aZ 28,425⟩,⟨224,RT,kd [70,840],aZ 29,446⟩,⟨273,RZ,kd [1245,1302],aZ 30,453⟩,⟨257,Rk,kd [1245,1000,545,650,305,1507],aZ 31,460⟩,⟨382,KU,kd [320,560,1585,530,1035,970,840,607],bF 0<|aZ 47,576⟩,⟨384,Mi,kd [320,260,1612],bF 1<|aZ 47,583⟩,⟨346,ON,kd [320,305],bF 2<|aZ 47,590⟩,⟨367,PU,kd [320,305],bF 3<|aZ 47,597⟩,⟨366,Nw,kd [320,305],bF 4<|aZ 47,604⟩,⟨375,Rj,kd [320,650],bF 7<|aZ 47,625⟩,⟨365,NT,kd [320,650,1215,350,712],bF 9<|aZ 47,639⟩,⟨383,K5,kd [320,650,470,1215,350,607,1487,1612,712],bF 10<|aZ 47,646⟩,⟨410,Pa,kd [320,650,1215,607],bF 11<|aZ 47,653⟩,⟨394,OJ,kd [320,650,1215,85,620,760],bF 0<|aZ 48,674⟩,⟨409,Px,kd [320,650,1215],bF 2<|aZ 49,716⟩,⟨392,SQ,kd [320,650,1465],bF 3<|aZ 49,723⟩,⟨176,Oc,kd [1005,305,1215,60,570],aZ 50,735⟩,⟨396,L2,kd [320,1005,650,545,915,305,1297,707],bF 0<|aZ 51,749⟩,⟨414,SN,kd [320,220,1215,85,122,882],bF 1<|aZ 51,756⟩,⟨356,LG,kd [320,70,220,1215,1207,122,712],bF 3<|aZ 51,770⟩,⟨400,Mu,kd [320,70,470,1218,620,570,275,607,1097,677],bF 4<|aZ 51,775⟩,⟨268,Km,kd [70,770,840,115,305,1487,712,892],aZ 52,789⟩,⟨218,SF,kd [70,308],aZ 53,794⟩,⟨32,Nl,kd [1245,545,1555,240,300,485,1135,1250,1075,650,540,70,305,1102,1342,1092,1422],aZ 54,802⟩,⟨291,QN,kd [1005,1555,1245,422,982,162,1367],aZ 55,810⟩,⟨279,N1,kd [1005,1555,1245,422,982,162,1287],aZ 56,818⟩,⟨292,Q9,kd [1005,240,1555,1457,1397,1617,1312,77],aZ 58,834⟩,⟨196,Mp,kd [920,935,885,1385,1602,1492,77],aZ 60,848⟩,⟨372,OF,kd [320,665,650,1140,500],bF 0<|aZ 69,912⟩,⟨338,QZ,kd [320,212],bF 1<|aZ 69,919⟩,⟨391,R6,kd [320,1115,690,795,550],bF 0<|aZ 70,947⟩,⟨397,QX,kd [320,925],bF 0<|aZ 71,975⟩,⟨404,Pr,kd [320,665,47,387],bF 1<|aZ 71,982⟩,⟨360,Mf,kd [320,920,1010,250,957],bF 0<|aZ 72,1004⟩,⟨332,Ku,kd [320],bF 1<|aZ 72,1011⟩,⟨349,M1,kd [320,967,212],bF 2<|aZ 72,1018⟩,⟨335,QO,kd [320,925,1107],bF 3<|aZ 72,1025⟩,⟨329,Hj,kd [320,895],bF 4<|aZ 72,1032⟩,⟨334,Ra,kd [320],bF 6<|aZ 72,1046⟩,⟨327,Si,kd [320,665],bF 7<|aZ 72,1053⟩,⟨371,Ka,kd [320,650],bF 8<|aZ 72,1060⟩,⟨387,Se,kd [320,665,840,1482,1607],bF 9<|aZ 72,1067⟩,⟨328,Qo,kd [320,255,47,1307,77],bF 10<|aZ 72,1074⟩,⟨336,Q6,kd [320],bF 11<|aZ 72,1081⟩,⟨341,RY,kd [320,735,690],bF 12<|aZ 72,1088⟩,⟨330,RO,kd [320,650,215,1215,730,707],bF 13<|aZ 72,1095⟩,⟨337,SO,kd [320,165],bF 15<|aZ 72,1109⟩,⟨342,Rx,kd [320,305,820,465,690,185,47],bF 16<|aZ 72,1116⟩,⟨333,SA,kd [320,305,690,165,1307,77],bF 18<|aZ 72,1130⟩,⟨361,Q4,kd [320],bF 19<|aZ 72,1137⟩,⟨378,QI,kd [323,560,377],bF 20<|aZ 72,1142⟩,⟨326,p',kd [320,1215],bF 21<|aZ 72,1149⟩,⟨386,Nm,kd [320,850],bF 0<|aZ 73,1170⟩,⟨343,PY,kd [320],bF 3<|aZ 74,1273⟩,⟨413,Oa,kd [320,1215,1412],bF 4<|aZ 74,1280⟩,⟨339,RA,kd [320,305,930],bF 6<|aZ 74,1295⟩,⟨344,JP,kd [320,1215,382,1292],bF 9<|aZ 74,1318⟩,⟨374,MU,kd [320,165,382,47],bF 10<|aZ 74,1325⟩,⟨395,SZ,kd [320,730,1482,707],bF 11<|aZ 74,1332⟩,⟨364,KM,kd [320,840,200,615,1180,730,205,745],bF 0<|aZ 78,1353⟩,⟨388,Py,kd [320,560,1585,620,825,790,645,305,47],bF 0<|aZ 79,1372⟩,⟨406,MM,kd [320,47],bF 1<|aZ 79,1379⟩,⟨402,L1,kd [320,915],bF 2<|aZ 79,1386⟩,⟨389,NK,kd [320,915,212],bF 5<|aZ 79,1407⟩,⟨350,Mj,kd [320,305,30],bF 6<|aZ 79,1414⟩,⟨379,Sf,kd [320,180],bF 7<|aZ 79,1421⟩,⟨373,RF,kd [320,180],bF 8<|aZ 79,1428⟩,⟨362,QS,kd [320,180,615,30,47],bF 9<|aZ 79,1435⟩,⟨308,KS,kd [615,1585,470,915],aZ 80,1449⟩,⟨309,Qe,kd [575,645,530,200,585,410,563,260,440,620,615,1492,212,1522,47,107,1417,677,1542,952],aZ 81,1455⟩,⟨368,OL,kd [320,260,305,1130,212],bF 0<|aZ 83,1469⟩,⟨357,M6,kd [320],bF 1<|aZ 83,1476⟩,⟨331,Ma,kd [320,140,265,645,1282,47,677],bF 3<|aZ 83,1490⟩,⟨363,Mm,kd [320,665],bF 0<|aZ 84,1535⟩,⟨351,Lh,kd [320],bF 1<|aZ 84,1542⟩,⟨256,LA,kd [355,470,205,265,430],aZ 85,1561⟩,⟨411,OX,kd [320,560],bF 0<|aZ 86,1575⟩,⟨398,Ls,kd [320,665,97],bF 1<|aZ 86,1582⟩,⟨401,LR,kd [320,305,930,985,260,112],bF 2<|aZ 86,1589⟩,⟨405,Mn,kd [320,97,387],bF 3<|aZ 86,1596⟩,⟨274,Ph,kd [923],aZ 87,1608⟩,⟨246,Sx,kd [65,230,445,335,125,490,47,22],aZ 90,1664⟩,⟨247,Pk,kd [68,698,250,677,607,1232],aZ 91,1669⟩,⟨266,Ly,kd [65,85,575,200,530,360,1232,212,1432,1237,607],aZ 92,1676⟩,⟨305,GQ,kd [65,575,263,130,870,470,280,212,1232,47,1527],aZ 93,1681⟩,⟨248,Mz,kd [65,575,85,515,335,1232,212,1237,1527,47],aZ 94,1688⟩,⟨299,Hv,kd [228,575,515,250,563,70,643,670,795,550,855,335,600,315,25,200,615,330,265,298,555,212,47,77,52,677,607],aZ 95,1693⟩,⟨264,Oj,kd [225,515,250,70,850,755,470,455,355,1257,722,1427,1372,1307],aZ 96,1698⟩,⟨287,FD,kd [575,355,430,470,47,1357,77,677,1437],aZ 97,1703⟩,⟨263,OU,kd [575,473,360,200,615],aZ 98,1708⟩,⟨265,Kk,kd [575,518,450,325,625,338,205,520,175,203,618,33,415,245,55,1085,1317,607,47,212,137],aZ 99,1713⟩,⟨267,zA,kd [225,575,518,35,858,495,663,635,405,1175,1160,1497,1322,607,47,1437,1257,1327],aZ 100,1718⟩,⟨8,Lu,kd [875,65,575,240,225,360,212,22,82,1332,1232,1462,1547,607,1337,1242],aZ 101,1725⟩]
def n0:aa rv:=[⟨408,ND,kd [320,1005,300,485,1135,1250,1075,240,530,1035,970,4,657],bF 0<|aZ 49,702⟩,⟨380,NV,kd [320,920,1010,250,1015,4,657,947],bF 0<|aZ 74,1250⟩,⟨353,Rz,kd [320,4,657],bF 1<|aZ 74,1258⟩,⟨345,Sk,kd [320,665,4,657],bF 2<|aZ 74,1266⟩,⟨355,Mk,kd [320,165,4,657],bF 5<|aZ 74,1288⟩,⟨354,Mh,kd [320,305,690,370,4,657],bF 7<|aZ 74,1303⟩,⟨381,Ll,kd [320,4,1572,657],bF 8<|aZ 74,1311⟩]
noncomputable def oU:aa (O×O×O×O):=[(77,117,376,100),(192,199,390,182),(143,241,377,217),(244,318,399,280),(188,360,385,336),(260,435,403,390),(145,656,382,576),(219,684,394,674),(284,726,408,702),(220,778,396,749),(75,929,372,912),(193,957,391,947),(221,985,397,975),(18,1152,360,1004),(189,1229,386,1170),(144,1335,380,1250),(21,1356,364,1353),(190,1438,388,1372),(22,1517,368,1469),(19,1552,363,1535),(285,1599,411,1575)]
noncomputable def Hy:aa (O×O):=[(298,59),(191,893),(261,83),(262,71),(323,826),(320,841),(314,862),(282,855)]
noncomputable def bs:aa (aa O):=(e1 102).map λa=>aD (aE a 3) [45,46]<|aD (aE a 4) [45,46]<|aD (aE a 5) [45,46]<|aD (aE a 49) [655,656]<|aD (aE a 74) [1151,1152]<|aD (aE a 84) [1516,1517]<|[]
def hD:aa Dt->Dt
|d::_=>d|[]=>⟨0,0,⟨0,0,0,0⟩,o,o,0,0,u,[]⟩
def dA(a)(b):=hD<|(dd a).drop b
noncomputable def Ef(a:gG):O->iE
|0=>nw a<|dA a 0|b+1=>nw a (dA a<|b+1)++Ef a b
noncomputable def pk(E:iE):aa O->iE
|[]=>[]|a::r=>match cX E a with
 |some x=>(a,x)::pk E r|none=>pk E r
def bA(a:O):aa Nat:=match bs.drop a with
|b::_=>b|[]=>[]
def lsA(b:lr)(c:D0)(a:O):LS:=⟨pk (Ef (bx b) a)<|3::12::4::13::0::2::bA a,(dA (bx b) a).n,#[],yH,(dA (bx b) a).k,c⟩
def YP(b)(a):=pieceOf (jQ<|yP.drop a) zq y3 (dA (bx b) a).p [EM ⟨0,0,0,0⟩]
def vw(a:iE)(r:E5×LS×vx×la):=(r.1,r.2.1.n,r.2.1.yn,r.2.1.x5,r.2.1.yf,r.2.1.os,r.2.2,a.map λe=>cX r.2.1.L e.1)
def ly(a)(os)(b):=(Tg PG a 11 (J<|w 6) 1 1000 (lsA a os b)<|YP a b).map<|vw<|nw (bx a)<|dA (bx a)<|b+1
def lq(a)(c:D0)(b):=J (qI,(dA (bx a)<|b+1).n,(#[]:gM GenState),yH,(dA (bx a)<|b+1).k,c,(y3,(dA (bx a)<|b+1).p),(nw (bx a)<|dA (bx a)<|b+1).map λe=>J e.2)
variable(a:lr)(b:D0)
def MH:(es 0 6).map (ly a b)=(es 0 6).map (lq a b):=by kernel_rfl
def hg6:(es 6 11).map (ly a b)=(es 6 11).map (lq a b):=by kernel_rfl
def afa:(es 17 6).map (ly a b)=(es 17 6).map (lq a b):=by kernel_rfl
def abm:(es 23 5).map (ly a b)=(es 23 5).map (lq a b):=by kernel_rfl
def aif:(es 28 5).map (ly a b)=(es 28 5).map (lq a b):=by kernel_rfl
def akh:(es 33 14).map (ly a b)=(es 33 14).map (lq a b):=by kernel_rfl
def aiG:(es 47 3).map (ly a b)=(es 47 3).map (lq a b):=by kernel_rfl
def agl:(es 50 18).map (ly a b)=(es 50 18).map (lq a b):=by kernel_rfl
def ami:(es 68 4).map (ly a b)=(es 68 4).map (lq a b):=by kernel_rfl
def aeC:(es 72 2).map (ly a b)=(es 72 2).map (lq a b):=by kernel_rfl
def aku:(es 74 4).map (ly a b)=(es 74 4).map (lq a b):=by kernel_rfl
def akw:(es 78 5).map (ly a b)=(es 78 5).map (lq a b):=by kernel_rfl
def Ź:(es 83 9).map (ly a b)=(es 83 9).map (lq a b):=by kernel_rfl
def aeh:(es 92 10).map (ly a b)=(es 92 10).map (lq a b):=by kernel_rfl
end
section
def oy(h:(es b n).map (ly c d)=(es b n).map (lq c d))(l:b<=a)(e:a<b+n):ly c d a=lq c d a:=nW.mp h a<|ak F6 ⟨l,e⟩
def hg(b)(os)(a)(h:a<102):ly b os a=lq b os a:=
aP (hZ a 92) (λh=>aP (hZ a 83) (λh=>aP (hZ a 78) (λh=>aP (hZ a 74) (λh=>aP (hZ a 72) (λh=>aP (hZ a 68) (λh=>aP (hZ a 50) (λh=>aP (hZ a 47) (λh=>aP (hZ a 33) (λh=>aP (hZ a 28) (λh=>aP (hZ a 23) (λh=>aP (hZ a 17) (λh=>aP (hZ a 6) (λh=>oy (MH b os) (cQ a) h) λl=>oy (hg6 b os) l h) λl=>oy (afa b os) l h) λl=>oy (abm b os) l h) λl=>oy (aif b os) l h) λl=>oy (akh b os) l h) λl=>oy (aiG b os) l h) λl=>oy (agl b os) l h) λl=>oy (ami b os) l h) λl=>oy (aeC b os) l h) λl=>oy (aku b os) l h) λl=>oy (akw b os) l h) λl=>oy (Ź b os) l h) λl=>oy (aeh b os) l h
def ajt:∀{a B},cX (a++B) b=match cX a b with|some x=>J x|none=>cX B b:=by
 intro a B;refine a.rec Y λq r c=>?_;refine(?_:aD _ _ _=match aD _ (J q.2) _ with|some x=>J x|none=>cX B b);cases h:aE q.1 b with
 |true=>rfl|false=>exact c
def aeN:∀{a},a.map (λe=>cX L e.1)=a.map (λe=>J e.2)->cX a b=J x->cX L b=J x:=by
 intro a;refine a.rec (λZ e=>aI e) λq r c=>λh e=>?_;have h:=hq h;have e:aD _ _ _=J x:=e;cases d:aE q.1 b with
 |true=>rw [d] at e;obtain rfl:=aC e;exact ax (eb d) h.1|false=>rw [d] at e;exact c h.2 e
def XK:pk a (b::c)=match cX a b with|some x=>(b,x)::pk a c|none=>pk a c:=Y
def adN:cX (pk a c) b=J x->cX a b=J x:=by
 refine c.rec (λe=>aI e) λd r f=>λe=>?_;rw [XK] at e;cases h:cX a d with
 |none=>rw [h] at e;exact f e|some y=>
  rw [h] at e;have e:aD _ (J y) _=J x:=e;cases g:aE d b with
  |true=>rw [g] at e;obtain rfl:=aC e;exact ax (eb g) h|false=>rw [g] at e;exact f e
def adC:a∉b->cX (pk c b) a=none:=by
 refine b.rec (λZ=>rfl) λb r d=>λn=>?_;have n:a≠b/\a∉r:=⟨λe=>n<|e▸b8,λm=>n<|cy _ m⟩;refine W XK ?_;cases h:cX c b with
 |none=>exact d n.2|some y=>refine(?_:aD _ _ _=A);exact W (yJ<|me n.1)<|d n.2
def agv{n g d k os}(r:RL ⟨a,n,g,d,k,os⟩ b):RL ⟨pk a c,n,g,d,k,os⟩ b:=ya (λa o e=>(r V) a o<|adN e) (r J1) (r J2) (r J3) (r J4)<|r J5
def al3{n g h k os a f}(r:RL ⟨j,n,g,h,k,os⟩ l)(c:RL a f)(m:FL ⟨pk j p,n,g,h,k,os⟩ a l f)(q:d.map (λe=>cX a.L e.1)=d.map (λe=>J e.2))
 (t:∀b∈p,cX d b≠A):RL ⟨d++j,a.n,a.yn,a.x5,a.yf,a.os⟩ f:=ya (λb o e=>by
 rw [ajt] at e;cases h:cX d b with
 |some y=>rw [h] at e;obtain rfl:=aC e;exact(c V) b _ (aeN q h)|none=>
  rw [h] at e;have g:=(r V) b o e;have l:b<n:=by have v:=(yR.mp g).1;rw [r J1] at v;exact v
  exact af ((m J1) b l<|adC λm=>t b m h).2 g) (c J1) (c J2) (c J3) (c J4)<|c J5
def vW(a:lr)(c:D0)(b:O):LS:=⟨Ef (bx a) b,(dA (bx a) b).n,#[],yH,(dA (bx a) b).k,c⟩
def akr:∀{l} {a},a<U l->l.drop a=jQ (l.drop a)::l.drop (a+1):=by
 intro l;refine @(l.rec (λh=>by cases h) λb r c=>?_);intro a h;cases a with
 |zero=>rfl|succ a=>exact c<|zr h
def XZ:U yP=102:=by kernel_rfl
def ajr(a):cP (es 0 102) (λb=>cP (3::12::4::13::0::2::bA b) λc=>d7<|cX (nw (bx a)<|dA (bx a)<|b+1) c)=true:=by kernel_rfl
def akO(h:a<102)(r:RL (vW b d a) e):∃c,JW wd PG b 11 (J<|w 6) 1 1000 e (YP b a)=J (qI,c,y3,(dA (bx b)<|a+1).p)/\RL (vW b d<|a+1) c:=by
 have e:=hg b d a h;refine aA (oI.mp e) λx e v=>?_;rw [agi] at e;refine hv (ajj (f:=x.2.1) (agv r) e) λc f g j=>?_;have k:=al3 r g j (aq (·.2.2.2.2.2.2.2) v) λk m z=>bU (af (aq d7 z).symm<|gT.mp (gT.mp (ajr b) a<|ak F6 ⟨cQ a,a5 (eF 102)▸h⟩) k m)
 exact⟨c,af f<|aq J<|qo (aq (·.1) v)<|qo Y<|aq (·.2.2.2.2.2.2.1) v,ya (k V) (af (k J1)<|aq (·.2.1) v) (af (k J2)<|aq (·.2.2.1) v) (af (k J3)<|aq (·.2.2.2.1) v) (af (k J4)<|aq (·.2.2.2.2.1) v)<|af (k J5)<|aq (·.2.2.2.2.2.1) v⟩
def amf:Qu wd PG b 11 (J<|w 6) 10 a (restOf [] zq c q [EM ⟨0,0,0,0⟩])=J a:=by kernel_rfl
def aas:∀k a,a+k=102->∀s,RL (vW c d a) s->∃N b,Qu wd PG c 11 (J<|w 6) N s (restOf (yP.drop a) zq y3 (dA (bx c) a).p [EM ⟨0,0,0,0⟩])=J b/\RL (vW c d 102) b:=by
 intro k
 induction k with
 |zero=>intro a e s r;obtain rfl:=(e:a=102);exact⟨10,s,W (Ew (c6 XZ):yP.drop 102=[]) amf,r⟩|succ k f=>
  intro a e s r;have l:a<102:=by lia
  exact aA (akO l r) λb g r1=>ht (f _ (by lia) b r1) λN h j r2=>⟨1000+N,h,W (akr<|XZ▸l)<|piece_cons g j,r2⟩
def ZE{c:O->ba fX}:∀{a},a.map (λe=>c e.1)=a.map (λe=>J e.2)->cX a b=J x->c b=J x:=by
 intro a;refine a.rec (λZ e=>aI<|e) λq r d=>λh e=>?_;have h:=hq h;have e:aD (aE q.1 b) (J q.2) (cX r b)=J x:=e;cases f:aE q.1 b with
 |true=>rw [f] at e;obtain rfl:=aC e;exact ax (eb f) h.1|false=>rw [f] at e;exact d h.2 e
def Rd(a:gG):ie:=⟨⟨[boot_o_0 a,DG a,boot_o_2 a,boot_o_3 a,boot_o_4 a,boot_o_5 a,boot_o_6 a,boot_o_7 a,boot_o_8 a,boot_o_9 a,boot_o_10 a,tO [],{cls:=bQ,data:=eZ #[]},Xe,{cls:=cJ "frame",slots:=#[J<|r 13,J<|r 3,J<|r 3,A,J<|s 0x5f5f6d61696e5f5f 164,A,J<|r 0]}]⟩,(qj a).life⟩
def abH(a)(os):topGo wd PG a 11 (J<|w 6) 12 ⟨qj<|bx a,#[],yH,boot_toks,os⟩ (topStub PG)=
J (⟨Rd<|bx a,#[],yH,187,os⟩,⟨O6 wd<| .body yP zq,y3,⟨0,0,0,0⟩,[EM ⟨0,0,0,0⟩]⟩):=by kernel_rfl
def adX(a):(nw a<|dA a 0).map (λe=>(Rd a).objs[e.1]?)=(nw a<|dA a 0).map (λe=>J e.2):=by kernel_rfl
def ajY:JW wd PG b 11 (J<|w 6) 1 1 a (blockOf yP zq y3 ⟨0,0,0,0⟩ [EM ⟨0,0,0,0⟩])=J (qI,a,y3,⟨0,0,0,0⟩):=by kernel_rfl
def alD(a)(os):∃N b,Qu wd PG a 11 (J<|w 6) N ⟨qj<|bx a,#[],yH,boot_toks,os⟩ (topStub PG)=J b/\RL (vW a os 102) b:=by obtain⟨N,b,e,r⟩:=aas (c:=a) (d:=os) 102 0 Y ⟨Rd<|bx a,#[],yH,187,os⟩<|ya (λc o e=>ZE (adX<|bx a) e) (by kernel_rfl) Y Y (by kernel_rfl) Y;exact⟨12+(1+N),b,go_top (abH a os)<|piece_block ajY e,r⟩
def Hs(a:gG):ie:=⟨⟨[b0 a,DG a,x2 a,gd<|ge a (dA a 102).nv (dA a 102).av,o4]⟩,(qj a).life⟩
variable{a d e:ie}{b:O}{f:zT}
def z9(e:aH a b=aH d b):lJ a b=lJ d b:=by unfold lJ;rw [e]
def MD(e:aH a b=aH d b):a.nsKeys b=d.nsKeys b:=by unfold aiE;rw [e]
def JG(e:aH a b=aH d b):lZ a b=lZ d b:=by funext x;unfold lZ;rw [e]
def akJ(b:aH a 2=aH d 2):HM m e a=HM m e d:=by unfold HM;rw [z9 (b:=vc) b,MD (b:=vc) b,JG (b:=vc) b]
def abX(b:aH a 3=aH d 3):Gu f a=Gu f d:=by unfold Gu;rw [z9 (b:=iF) b,MD (b:=iF) b]
def ajP(b:aH a 3=aH d 3):HA e a=HA e d:=by unfold HA;rw [z9 (b:=iF) b,JG (b:=iF) b]
def amu(b:aH a 2=aH d 2):JA a m=JA d m:=by unfold JA;rw [z9 (b:=vc) b,MD (b:=vc) b,JG (b:=vc) b]
def adZ(b:aH a 0=aH d 0):a.bltView=d.bltView:=by unfold adx afp;rw [show aH a qt=aH d qt from b]
variable(c:gG)
def š:RM PG=plainProg (dm PG.main.scope):=by kernel_rfl
def ahA(s):h_ PG s=J s:=by kernel_rfl
def aaF:lJ (qj c) iF=true:=by kernel_rfl
def afH:d6 (qj c).objs=11:=by kernel_rfl
def aaV:lZ (qj c) iF "__annotations__"=J (w 6):=by kernel_rfl
def adM:HM [] (qj c) (Hs c)=true:=by kernel_rfl
def afS:Gu PG (Hs c)=true:=by kernel_rfl
def ahD:HA (qj c) (Hs c)=true:=by kernel_rfl
def af4:JA (Hs c) []=true:=by kernel_rfl
def acJ:lJ (Hs c) iF=true:=by kernel_rfl
def ak8:lJ (Hs c) qt=true:=by kernel_rfl
def ajZ:(Hs c).bltView=Ul:=by kernel_rfl
def akt:lZ (Hs c) iF "__builtins__"=J (w 4):=by kernel_rfl
def alz(c):[0,2,3,4].map (λb=>cX (Ef c 102) b)=[0,2,3,4].map λb=>aH (Hs c) b:=by kernel_rfl
def aj4(c):(cP [0,2,3,4] λb=>(aH (Hs c) b).any λo=>d7<|r7 o)=true:=by kernel_rfl
def ale{o g}(a:r7 o=J g):g=o:=by obtain⟨b,c,dt,sl⟩:=o;cases dt<;>first|(cases a;rfl)|cases a
def TH{ls}{s}{o}(r:RL ls s)(c:cX ls.L b=J o)(a:d7 (r7 o)=Q):aH s.heap b=J o:=by
 rw [H8<|(r V) b o c];cases q:r7 o with
 |none=>rw [q] at a;cases a|some d=>rw [ale q]
def ajI{os}{s}(r:RL (vW g os 102) s):∀b∈[0,2,3,4],aH s.heap b=aH (Hs<|bx g) b:=λb a=>by
 have c:=nW.mp (alz<|bx g) b a;have d:=gT.mp (aj4<|bx g) b a;cases q:aH (Hs<|bx g) b with
 |none=>rw [q] at d;cases d|some o=>rw [q] at d c;exact TH r c d
def F!(g):(∃s,AfterRun (RM PG) g s)/\∀s,AfterRun (RM PG) g s->∃d,h_ PG s=J d/\d.gens=#[]/\∃a,TopRan PG g d a/\a.asleep/\lJ a.heap iF=Q/\∃c,RL (vW g c 102) a:=by
 obtain⟨⟨e,G,f,d,c⟩,h2,v⟩:=oI.mp<|boot_open (N:=600) š Y ahA g;obtain⟨s,h,j⟩:=iv.mp h2;have k:=alK<|Q_▸h;have l:e=_:=aq (·.1) v;have e:G=_:=aq (·.2.1) v;have m:f=_:=aq (·.2.2.1) v;have f:d=_:=aq (·.2.2.2) v;refine⟨⟨s,k⟩,λd n=>?_⟩;cases Α n k;refine⟨_,j,e,?_⟩;have d:=Vq (fence_lifeW j) k.life;rw [l,e,m,f] at d⊢;obtain⟨N,a,e,r⟩:=alD g c;rw [<-Q_] at e;obtain⟨b,f,o,p⟩:=topRun_spec _ _ _ _ d e;have e:=ajI r;have q:=e 2<|ao Y;have t:=e 3<|ao Y;have x:=e 0<|ao Y;have hg:=af (z9 t)<|acJ _;have y:=af (z9 x)<|ak8 _;refine⟨a,⟨b,f,alb o,λz o y H=>p z o ?_ (λL=>H<|aL L) (λL=>H<|aw<|aL L) (λL=>H<|aw<|aw<|af (Pw (aaF _) _)<|af (aaV _) L) y,?_,?_,aay hg,λh v=>af (ajU y h)<|NC y (af (adZ x)<|ajZ _) h v,⟨4,o4,?_,e 4<|ao Y,Y,Y⟩,?_,names_of_bound<|af (abX t)<|afS _,laid_of_kept<|af (ajP t)<|ahD _⟩,Vq f d,hg,c,r⟩
 .exact(afH<|bx g)▸ij y
 .exact agM<|af (amu q)<|af4 _
 .exact statics_of_ok<|af (akJ q)<|adM _
 .exact af (Pw hg _)<|af (qG (JG t) _)<|akt _
 .rw [show a.gens=#[] from r J2]
  exactλa c=>ay c<|Array.not_mem_empty a
end
section
def KX(a):=gd<|ge a (s 0x6c61775f6e6e303433315f3031 2472)<|r 540
def KK(a:gG):iE:=(3,KX a)::(0,b0 a)::(2,x2 a)::(4,o4)::(1,DG a)::mo a
def dY(a:gG)(b:O):BZ:=match cX (KK a) b with
|some ⟨_,_, .func c,_⟩=>c|_=>default
noncomputable def U9(d):=dite (d.ctorIdx=9) (λh=>alH (motive:=λZ=>ba<|gM a0) d h J) λZ=>A
noncomputable def Um(v):=dite (v.ctorIdx=6) (λh=>alo (motive:=λZ=>ba<|bj×Tok) v h λq t=>J (q,t)) λZ=>A
def Yh(h:SY v=J a):v=w a:=by
 cases v with
 |ref b=>exact aq _ (aC h)|_=>exact aI h
def acI(h:Um v=J q):v=gP q.1 q.2:=by
 cases v with
 |str b t=>exact(aC h)▸Y|_=>exact aI h
def ah7(h:U9 d=J a):d=eZ a:=by
 cases d with
 |fields b=>exact aq _ (aC h)|_=>exact aI h
def Rf(a)(b:O)(v):=er (SY v) λc=>er (cX (KK a) c) λo=>er (U9 o.data) λd=>er (d.toList[b]?) Um
def z'(h:Rf b d v=J q):∃c e f a sl,v=w c/\cX (KK b) c=J ⟨e,f,eZ a,sl⟩/\a[d]?=J (gP q.1 q.2):=
aA (iv.mp h) λc e h=>aA (iv.mp h) λo g h=>aA (iv.mp h) λa d h=>aA (iv.mp h) λZ x h=>⟨c,o.cls,o.dict,a,o.slots,Yh e,af g<|aq (λd=>J (⟨o.cls,o.dict,d,o.slots⟩:fX))<|ah7 d,ax rY<|af x<|aq J<|acI h⟩
def OM(a)(v):=(Rf a 1 v).map (·.1)
def pw:=nL.map (λt=>(t.f,t.a))++(n0.map (λt=>(t.f,t.a))++(oU.map (λt=>(t.1,t.2.1))++Hy))
def xR(a:gG):bj->ba a0:=lZ ⟨⟨[default,default,default,KX a]⟩,qj a|>.life⟩ iF
def OB(a:gG):bj->ba a0:=lZ ⟨⟨[b0 a]⟩,qj a|>.life⟩ qt
def CX(a:lr):Cx:={S:=⟨a,gN,λc=>(cm oU c).map (·.1)⟩,dM:=PG,I0:=cX<|KK<|bx a,K:=KK<|bx a,fa:=cm pw,mg:=xR<|bx a,mb:=OB<|bx a,pe:=w 83}
def vA(a)(t:rv):=(cm iR t.f,cX (KK a) t.a,(dY a t.a).body,xC<|dY a t.a,yK<|dY a t.a,lX<|dX<|dY a t.a,yu<|dX<|dY a t.a,xM<|dX<|dY a t.a,dm<|dX<|dY a t.a,OM a (dY a t.a).code,decide (bw t.d.e4))
def eA(a)(t:rv):=(J t.d,J (⟨cJ "function",A, .func<|dY a t.a,#[]⟩:fX),ahM<|q0 t.x,(3:O),(0:O),jz,u,u,nY gN t.X,J<|y5<|dY a t.a,Q)
def Wv(a):nL.map (vA a)=nL.map (eA a):=by kernel_rfl
def Xu(a):n0.map (vA a)=n0.map (eA a):=by kernel_rfl
def vB(a)(t:rv):=(ud<|dY a t.a,cP t.d.e4<|ve t.X,yz gN oS t.d.gZ<|q0 t.x,u7 wZ gN oS t.X t.d.gZ<|q0 t.x)
def eB(t:rv):aa (bj×cx)×bc×aa fF×Bool:=([],Q,q0 t.x,Q)
def kB1(a):nL.map (vB a)=nL.map eB:=by kernel_rfl
noncomputable def M!(x):=match x with
|ey _ t=>t|gP _ t=>t|_=>0
def p!(v)(x:a0):=match v with
|bk=>x==bQ|bS b=>x==eO b|ag a=>x==ey a (M! x)|aG q=>x==gP (dg q) (M! x)|_=>u
noncomputable def F?(d):=dite (d.ctorIdx=2) (λh=>aiP (motive:=λZ=>ba<|gM a0×O) d h λx n=>J (x,n)) λZ=>A
def ahx(h:F? d=J q):d=pq q.1 q.2:=by
 cases d with
 |seq b n=>exact(aC h)▸Y|_=>exact aI h
def Eo(K)(x):=er (SY x) λa=>er (cX K a) λo=>er (F? o.data) λq=>aD (o.cls==nu&&(o.dict==A&&(xB o.slots&&aE q.2 0))) (J q.1) A
noncomputable def D6(f:ai->a0->bc):aa ai->aa a0->bc
|[],[]=>Q|v::r,x::s=>f v x&&D6 f r s|_,_=>u
noncomputable def Gm(a:iE):O->ai->a0->bc
|0,_,_=>u|n+1,v,x=>match v with
 |aR b=>match Eo a x with
  |some c=>js (U b) cu&&D6 (Gm a n) b (cR c)|none=>u
 |v=>p! v x
def abi(h:p! v x=Q):bD a (cX b) v x:=by
 cases v with
 |none=>exact eq_of_beq h|bool b=>exact eq_of_beq h|int c=>exact .mk _ (eq_of_beq h)|str q=>exact .mk _ (eq_of_beq h)|_=>exact dR h
def aiR(h:Eo b x=J c):∃a,x=w a/\cX b a=J (lN "tuple" c 0):=by
 refine aA (iv.mp h) λa e h=>aA (iv.mp h) λo g h=>aA (iv.mp h) λq d f=>⟨a,Yh e,af g<|aq J ?_⟩;clear h;cases c:(o.cls==nu&&(o.dict==A&&(xB o.slots&&aE q.2 0))) with
 |false=>rw [c] at f;exact aI f|true=>rw [c] at f;have j:=iN (iN c).2;have c3:=iN j.2;obtain⟨k,l,dt,sl⟩:=o;obtain rfl:k=_:=eq_of_beq (iN c).1;obtain rfl:l=_:=eq_of_beq j.1;obtain rfl:sl=_:=Array.isEmpty_iff.mp c3.1;obtain rfl:dt=_:=ahx d;exact aC f▸eb c3.2▸Y
def XI(h:∀v x,f v x=Q->bD c (cX d) v x):∀{b} {a},D6 f b a=Q->bR c (cX d) b a:=by
 intro b
 induction b with
 |nil=>intro a e;cases a with|nil=>rfl|cons=>cases e
 |cons v r g=>
  intro a e;cases a with
  |nil=>cases e|cons x s=>have e:=dB.mp (e:_=Q);exact .mk x s Y (h _ _ e.1)<|g e.2
def UM:∀{n} {v} {x},Gm a n v x=Q->bD b (cX a) v x:=by
 intro n;refine @(n.rec (λh=>by cases h) λn c=>?_);intro v x h;cases v with
 |tup d=>
  have h:(match Eo a x with|some e=>js (U d) cu&&D6 _ d (cR e)|none=>u)=true:=h;cases q:Eo a x with
  |none=>rw [q] at h;cases h|some e=>rw [q] at h;have h:=dB.mp h;obtain⟨a,f,g⟩:=aiR q;exact .mk a e 0 f g (XI (λv x=>c) h.2)<|ho h.1
 |_=>exact abi h
def WB(a)(b):=cR<|dN (Eo (KK a) (dY a b).defaults) #[]
noncomputable def al(l:aa rv):=l.flatMap λt=>(es (U t.d.e4-U t.d.p7)<|U t.d.p7+1).map λn=>(t,n)
def Wj(a)(p:rv×O)(y)(S):=peek (KK a) S<|bindArgs (dY a p.1.a) ⟨(es 0 p.2).map y,[]⟩
def U'(a)(p:rv×O)(y)(S:Setting):=J<|n6 gN p.1.d.e4<|(es 0 p.2).map y++(WB a p.1.a).drop (p.2+U p.1.d.p7-U p.1.d.e4)
def kC(a):(al<|nL++n0).map (Wj a)=(al<|nL++n0).map (U' a):=by kernel_rfl
def kD(a):(cP (nL++n0) λt=>D6 (Gm (KK a) 9) t.d.p7<|WB a t.a)=true:=by kernel_rfl
def kGl(a):(cP Fx λp=>match xR a (gN p.1) with|some y=>Gm (KK a) 9 p.2 y|none=>u)=true:=by kernel_rfl
def T'(a):∀b:iE,b1 a b=cX b a:=by
 refineλb=>b.rec Y λp r c=>?_
 cases p with|mk b o=>
 refine W qQ ?_;show _=aD (aE b a) (J o) _
 by_cases e:a=b
 .exact W e<|W (fJ ..)<|W (jT ..) Y
 .exact W (yJ<|me e)<|W (ak lz e:_=u) c
def w_(a)(s:cO (CX a).I0 h):(CX a).K.In h:=λa o e=>s a o<|af (T' a _).symm e
def Ζ(m:t∈nL++n0):vA a t=eA a t:=aP (pL.mp m) (nW.mp (Wv a) t)<|nW.mp (Xu a) t
def YX(e:OM (bx a) v=J q)(s:cO (CX a).I0 h):h.CodeRec v q:=
aA (oI.mp e) λr h e=>ah (z' h) λc x=>ah x λb x=>ah x λd x=>ah x λf x=>ah x λsl x=>⟨c,_,f,r.2,x.1,s _ _ x.2.1,Y,ax e x.2.2⟩
def ahK(a):(es 0<|U a).map (λb=>dN (a[b]?) bQ)=a:=by refine List.ext_getElem (by rw [bB,List.length_range']) λb h1 h2=>?_;rw [List.getElem_map,List.getElem_range',eF,Nat.one_mul,bM h2];rfl
def ŝ(m:t∈l)(h1:n<=U t.d.e4)(h2:U t.d.e4<=n+U t.d.p7):(t,n)∈al l:=
ak yy ⟨t,m,ak jD ⟨n,ak F6 ⟨ak Qg h2,ic<|ae h1<|Qg.mp<|bb _⟩,Y⟩⟩
def aiB(m:t∈nL++n0)(s)(I)(c)(b)(l)(h:cO I s.heap)(f:Le (CX a).I0 I)(q:bR (CX a).S I c b)(e:yZ t.d.e4 t.d.p7 c=J l):
 ∃d g,l=q2 t.d.e4 d/\U d=U t.d.e4/\bR (CX a).S I d g/\Hx s (dY (bx a) t.a) ⟨b,[]⟩ (n6 (CX a).S.nm t.d.e4 g):=by
 unfold yZ at e;cases j:(js (U c) (U t.d.e4)&&js (U t.d.e4) _) with
 |false=>rw [j] at e;exact aI e|true=>
  rw [j] at e;obtain rfl:=aC e;have j:=dB.mp j;have k:=ho j.1;have n:=ho j.2;have p:bR (CX a).S (CX a).I0 t.d.p7 _:=XI (λZ Z=>UM)<|gT.mp (kD<|bx a) t m;have v:=q.vh;have x:=qG<|qG (nW.mp (kC<|bx a) _ (ŝ m k n)) λy=>dN (b[y]?) bQ;refine⟨_,_,Y,?_,(bR.E3 p f).drop _|>.yB q,?_⟩
  .refine W a4<|W vO ?_;exact(Nat.add_sub_assoc (I'.mpr<|f6 k _) _).symm.trans<|Nat.sub_sub_self n
  .refine kp_binds (w_ a λa o e=>h a o<|f a o e) λS=>?_;have x:=x S;unfold Wj U' at x;dsimp only at x;rw [v,ahK b,<-v] at x;exact x
def NL(a)(m:t∈nL++n0):Bv (CX a) t.d t.a (cJ "function") A (dY (bx a) t.a) #[] (q0 t.x):=by have e:=Ζ (a:=bx a) m;exact abh (aq (·.2.1) e) (aq (·.2.2.1) e) (aq (·.2.2.2.1) e) (aq (·.2.2.2.2.1) e) (aq (·.2.2.2.2.2.1) e) (aq (·.2.2.2.2.2.2.1) e) (aq (·.2.2.2.2.2.2.2.1) e) (λh s=>YX (aq (·.2.2.2.2.2.2.2.2.2.1) e) s) (ao<|aq (·.2.2.2.2.2.2.2.2.2.2) e)<|aiB m
def ζ(a)(m:t∈nL):y7 (CX a) wZ oS 64 t.f t.a:=by have e:=nW.mp (Wv<|bx a) t m;have b:=nW.mp (kB1<|bx a) t m;exact .plain t.d _ _ _ _ _ t.X (aq (·.1) e) (NL a<|gI _ m) (aq (·.1) b) (aq (·.2.2.2.2.2.2.2.2.1) e) (aq (·.2.1) b) (aq (·.2.2.1) b) (aq (·.2.2.2) b)
def zG:∀{l:aa<|O×a},cm l x=J v->(x,v)∈l:=by
 intro l;refine l.rec (λe=>aI e) λp r b=>?_;cases p with|mk y c=>
 intro e;have e:aD _ _ _=J v:=e;cases q:aE y x with
 |true=>rw [q] at e;obtain rfl:=aC e;exact ax (eb q) b8|false=>rw [q] at e;exact cy _ (b e)
def vC(a)(p:O×O×O×O):=(cm iR p.1,cm tS p.1,cm oU p.1,Sz (KK<|bx a) p.2.1,hu (KK<|bx a) (w p.2.1) "__init__",oJ (KK<|bx a)<|w p.2.2.2,cm pw p.2.2.1)
noncomputable def eC(p:O×O×O×O):ba Fn×ba O×ba (O×O×O)×bc×ba (ba a0)×ba a0×ba Nat:=(A,J p.2.2.1,J p.2,Q,J<|J<|w p.2.2.2,ph,J p.2.2.2)
def kF(a):oU.map (vC a)=oU.map eC:=by kernel_rfl
def aeX(a){p}(m:p∈oU):y7 (CX a) wZ oS 64 p.1 p.2.1:=by have e:=nW.mp (kF a) p m;have b:cm oU p.1=J p.2:=aq (·.2.2.1) e;exact .cls p.2.2.1 p.2.2.2 (aq (·.1) e) (aq (·.2.1) e) (by refine(?_:(cm oU p.1).map _=_);rw [b];rfl) (aq (·.2.2.2.1) e) (aq (·.2.2.2.2.1) e) (aq (·.2.2.2.2.2.1) e)<|aq (·.2.2.2.2.2.2) e
def vN(p:O×O):=(cm iR p.1,cm tS p.1)
noncomputable def eN(p:O×O):ba Fn×ba Nat:=(A,A)
def kG:Hy.map vN=Hy.map eN:=by kernel_rfl
def ah9(a){p}(m:p∈Hy):y7 (CX a) wZ oS 64 p.1 p.2:=
 have e:=nW.mp kG p m
 .none (aq (·.1) e) (aq (·.2) e)
noncomputable def pT(t:rv):=aE t.a 702
def zH(t):=aD (pT t) 284 144
def Cq(t):=aD (pT t) 692 1237
def wM(t):=aD (pT t) 726 1335
def vS(a)(t)(L:O):=(ud<|dY (bx a) t.a,cP t.X λp=> !aE p.2 3,cP t.d.e4 λx=>dp t.X x 0,yz gN oS t.d.gZ<|q0 t.x,(aX wZ (jq tq<|zH t) 64 gN oS t.X t.d.gZ).2<|q0 t.x,c2 (jH (dY (bx a) t.a) L t.a) "super",c2 (jH (dY (bx a) t.a) L t.a) "__class__",c2 (jH (dY (bx a) t.a) L t.a)<|gN 64,(gi<|jH (dY (bx a) t.a) L t.a).lookup ("__class__":bj),cX (KK<|bx a)<|Cq t,d7<|oE (KK<|bx a)<|wM t,(jH (dY (bx a) t.a) L t.a).func,(mj<|Ln (dY (bx a) t.a).params++(dY (bx a) t.a).params.args).map (·.arg))
def eS(t:rv)(L:O):aa (bj×cx)×bc×bc×aa fF×bc×ba yc×ba yc×ba yc×ba cx×ba fX×bc×ba cx×ba bj:=([(("__class__":bj),Cq t)],Q,Q,q0 t.x,Q,J qn,J kj,dW,J<|Cq t,J ⟨cJ "cell",A,q5<|J<|w<|wM t,#[]⟩,Q,J t.a,J<|gN 64)
def kH(a):n0.map (vS a)=n0.map eS:=by kernel_rfl
noncomputable def zY(a:O)(o):=o==J (J<|w a)
noncomputable def Oe(o):=o==J Q
def Ft{o}(h:zY a o=Q):o=J (J<|w a):=eq_of_beq h
def γ{o}(h:Oe o=Q):o=J true:=eq_of_beq h
def W9(a)(v):=(Rf a 2 v).any λq=>PG.main.file==q.1
def afw(h:W9 (bx d) e.code=Q):∃f a b c sl g j,Pf (CX d) e f a b c sl g j:=
aA ((U3 ..).mp h) λq e h=>ah (z' e) λk x=>ah x λa x=>ah x λb x=>ah x λc x=>ah x λsl x=>⟨k,a,b,c,sl,q.1,q.2,dV x.1 x.2.1 x.2.2 h⟩
def XO(a)(t)(g b:O):=(cP tq λp=> !(p.2.any<|aE g)||(match cm oU p.1 with
|some q=>Oe (JU (KK<|bx a) q.1<|w<|wM t)&&zY b (A4 (KK<|bx a) q.1 (wM t)<|gN<|oS g)|none=>Q))&&(!(gN (oS g)==("__class__":bj))&&(fnIn (KK<|bx a) b&&oJ (KK<|bx a) (w b)==ph))
def kI(a):(cP n0 λt=>W9 (bx a) (dY (bx a) t.a).code&&cP (dN (cm tq<|zH t) []) λg=>match cm pw g with|some b=>XO a t g b|none=>u)=true:=by kernel_rfl
def aht:d7 ((dm PG.main.scope).lookup ("super":bj))=false:=by kernel_rfl
def abB(a:gG):xR a "super"=none:=by kernel_rfl
def ahf:tM "super"=J (cJ "super"):=by kernel_rfl
def aaI(a:gG):nsIn (KK a) vc "thirdparty.any"=J none:=by kernel_rfl
def aje{a:aa<|O×aa O}{c g:O}(h:jq a c g=Q):∃l,(c,l)∈a/\l.any (aE g)=Q:=
ah (U3 .. |>.mp h) λl e=>⟨l,zG e.1,e.2⟩
def aja(a:lr)(m:t∈n0)(L:O){g:O}(hg:jq tq (zH t) g=Q):∃b,(CX a).fa g=J b/\vF (CX a) (jH (dY (bx a) t.a) L t.a) 64 g b (oS g):=by
 have e:=qG (nW.mp (kH a) t m) L;have c:=NL a<|fy nL m;have k:=dB.mp<|gT.mp (kI a) t m;have d:g∈dN (cm tq<|zH t) []:=by
  unfold jq at hg;cases q:cm tq (zH t) with
  |none=>rw [q] at hg;cases hg|some l=>rw [q] at hg;obtain⟨y,f,h⟩:=KR.mp (show l.any (aE g)=Q from hg);rw [eb h];exact f
 have j:=gT.mp k.2 g d;cases n:cm pw g with
 |none=>rw [n] at j;cases j|some b=>
 rw [n] at j;have p:=dB.mp (show XO a t g b=Q from j);have v:=dB.mp p.2;have x:=dB.mp v.2;refine⟨b,n,?_⟩;have z:∃z,oE (KK<|bx a) (wM t)=J z:=vH.mp<|aq (·.2.2.2.2.2.2.2.2.2.2.1) e;obtain⟨z,H⟩:=z;have L:(mj<|Ln (dY (bx a) t.a).params++(dY (bx a) t.a).params.args).map (·.arg)=J (gN 64):=aq (·.2.2.2.2.2.2.2.2.2.2.2.2) e;obtain⟨m,y,f⟩:=oI.mp L;refine(aax (aq (·.2.2.2.2.2.1) e) (aq (·.2.2.2.2.2.2.1) e) (aq (·.2.2.2.2.2.2.2.1) e) ⟨Cq t,cJ "cell",A,#[],wM t,z,dV (aq (·.2.2.2.2.2.2.2.2.1) e) (aq (·.2.2.2.2.2.2.2.2.2.1) e) H λh d j n=>?_⟩ ⟨t.a,_,_,_,_,m,dV (aq (·.2.2.2.2.2.2.2.2.2.2.2.1) e) (c V) y f⟩ (afw k.1) aht (abB<|bx a) ahf ?_ (aaI<|bx a) ?_ x.1)
 .obtain⟨l,L,e⟩:=aje j;have z:=gT.mp p.1 (h,l) L;have z:(!(l.any<|aE g)||(match cm oU h with
   |some q=>Oe (JU (KK<|bx a) q.1<|w<|wM t)&&zY b (A4 (KK<|bx a) q.1 (wM t)<|gN<|oS g)|none=>Q))=true:=z
  rw [e] at z;obtain⟨q,c,k⟩:=oI.mp (show(cm oU h).map (·.1)=J d from n);rw [c] at z;have z:=dB.mp z;rw [k] at z;exact⟨γ z.1,Ft z.2⟩
 .exact Z6 _|>.mp v.1
 .have H:=x.2;exact eq_of_beq H
def aaq(a:lr)(m:t∈n0):y7 (CX a) wZ oS 64 t.f t.a:=by
 have e:=qG (nW.mp (kH a) t m) 0;have b:=nW.mp (Xu<|bx a) t m;exact .sup (jq tq<|zH t) t.d _ _ _ _ _ t.X (Cq t) (aq (·.1) b) (NL a<|fy nL m) (aq (·.1) e) (aq (·.2.2.2.2.2.2.2.2.1) b) (aq (·.2.1) e) (aq (·.2.2.1) e) (aq (·.2.2.2.1) e) (aq (·.2.2.2.2.1) e)
  λL g hg=>aja a m L hg
def akH(a:lr)(f b:O)(h:(CX a).fa f=J b):y7 (CX a) wZ oS 64 f b:=by
 have m:(f,b)∈pw:=zG h;unfold pw at m;refine aP (pL.mp m) (λm=>?_) λm=>aP (pL.mp m) (λm=>?_) λm=>aP (pL.mp m) (λm=>?_) λm=>ah9 a m
 .obtain⟨t,c,e⟩:=jD.mp m;cases e;exact ζ a c
 .obtain⟨t,c,e⟩:=jD.mp m;cases e;exact aaq a c
 .obtain⟨t,c,e⟩:=jD.mp m;cases e;exact aeX a c
noncomputable def Av(q:bj):=(cR q.cps).foldl (λa c=>a*2097152+c+1) 0
noncomputable def Q1(q:bj):Bool:=match cR q.cps with
|c::_=>js 5000000 c|[]=>u
def amg:(cP (es 0 326) λa=>dG (Av<|kk a) (Av<|kk<|a+1)||aE a 325)=true:=by kernel_rfl
def ak5:(cP (es 0 326) λa=> !Q1 (kk a)&& !(kk a==("__class__":bj))&&(!(kk a==("__debug__":bj))&& !(kk a==("__classdict__":bj))))=true:=by kernel_rfl
def D_(h:a<326):a∈es 0 326:=ak F6 ⟨cQ a,a5 (eF 326)▸h⟩
def R!(h:a+1<326):Av (kk a)<Av (kk<|a+1):=by have e:=kv.mp<|gT.mp amg a<|D_<|Fb h;refine aP e (λe=>ho e) λe=>?_;rw [eb e] at h;exact ay h<|ao Y
def ZI:∀{d},a+(d+1)<326->Av (kk a)<Av (kk<|a+(d+1)):=by intro d;exact d.rec (λh=>R! h) λd b=>λh=>e8 (b<|Fb h)<|R! (a:=a+(d+1)) h
def ak3(c:a<326)(d:b<326)(e:kk a=kk b):a=b:=by
 rcases Nat.lt_trichotomy a b with l|l|l
 .obtain⟨f,rfl⟩:=Xg l;have g:=ZI (a:=a) (d:=f) (by rw [<-cA];exact d);rw [<-cA,<-e] at g;exact ay g<|j7 _
 .exact l
 .obtain⟨f,rfl⟩:=Xg l;have g:=ZI (a:=b) (d:=f) (by rw [<-cA];exact c);rw [<-cA,e] at g;exact ay g<|j7 _
def yp(h:a<326):gN a=kk a:=by show aD (dG a 326) _ _=_;rw [show dG a 326=Q from xv h];rfl
def BP(h:¬a<326):gN a=⟨#[a+5000000]⟩:=by
 show aD (dG a 326) _ _=_;cases q:dG a 326 with
 |true=>exact ay (ho q) h|false=>rfl
def CA(h:a<326):Q1 (kk a)=u/\kk a≠"__class__"/\(kk a==("__debug__":bj))=u/\(kk a==("__classdict__":bj))=false:=by have e:=dB.mp<|gT.mp ak5 a<|D_ h;have b:=dB.mp e.1;have c:=dB.mp e.2;refine⟨nX b.1,λz=>?_,nX c.1,nX c.2⟩;have d:=nX b.2;rw [z,jT] at d;cases d
def Ň(a b)(e:gN a=gN b):a=b:=by
 by_cases c:a<326<;>by_cases d:b<326
 .rw [yp c,yp d] at e;exact ak3 c d e
 .rw [yp c,BP d] at e;have f:=(CA c).1;rw [e] at f;exact ay (af (xv<|mK 5000000 b).symm f) (by decide)
 .rw [BP c,yp d] at e;have f:=(CA d).1;rw [<-e] at f;exact ay (af (xv<|mK 5000000 a).symm f) (by decide)
 .rw [BP c,BP d] at e;exact Li (hq<|aq cR<|agO e).1
def Ld(h:¬a<326)(b:Q1 q=u):(gN a==q)=false:=by rw [BP h];refine ak lz λz=>?_;rw [<-z] at b;exact ay (af (xv<|mK 5000000 a).symm b)<|ao Y
def adK(a):gN a≠"__class__":=by
 by_cases h:a<326
 .rw [yp h];exact(CA h).2.1
 .exact beq_eq_false_iff_ne.mp<|Ld h<|by kernel_rfl
def ain(a):(gN a==("__debug__":bj))=false:=by
 by_cases h:a<326
 .rw [yp h];exact(CA h).2.2.1
 .exact Ld h (by kernel_rfl)
def akM(a):(gN a==("__classdict__":bj))=false:=by
 by_cases h:a<326
 .rw [yp h];exact(CA h).2.2.2
 .exact Ld h (by kernel_rfl)
noncomputable def Hq(q)(o):=o==J (J<|eh q)
noncomputable def DO(o:ba<|ba a0):=o==J A
noncomputable def Mt(o):=o==ph
def SU{o}(h:Hq q o=Q):o=J (J<|eh q):=eq_of_beq h
def Fy{o}(h:DO o=Q):o=J none:=eq_of_beq h
def Uj{o}(h:Mt o=Q):o=ph:=eq_of_beq h
def Vk(a:iE)(c b:O):=Hq "object.__getattribute__" (hu a (w b) "__getattribute__")&&(DO (hu a (w b) "__getattr__")&&(Hq "object.__setattr__" (hu a (w b) "__setattr__")&&(Sn a b&&((oE a b).any (·.hasDict)&&
 (cP (dN (cm oM c) []) (λn=>DO<|hu a (w b)<|gN n)&&cP (dN (cm Ap c) []) λp=> !(jq oM c p.1)&&(match cm pw p.2 with
  |some d=>Mt (oJ a<|w d)&&zY d (hu a (w b)<|gN p.1)|none=>u))))))
def kJ(a):(cP oU λp=>Vk (KK<|bx a) p.1 p.2.1)=true:=by kernel_rfl
def ajq(a)(c b:O)(d:(CX a).S.ca c=J b):Gn (CX a) c b:=by
 obtain⟨q,e,f⟩:=oI.mp (d:(cm oU c).map (·.1)=J b);have g:=gT.mp (kJ a) (c,q)<|zG e;have g:Vk _ c q.1=true:=g;rw [f] at g;have h:=dB.mp g;have j:=dB.mp h.2;have k:=dB.mp j.2;have l:=dB.mp k.2;have m:=dB.mp l.2;have n:=dB.mp m.2;refine amo (SU h.1) (Fy j.1) (SU k.1) l.1 (Om m.1) (λp t=>?_) λv m f x y=>?_
 .unfold jq at t;cases z:cm oM c with
  |none=>exact bU<|z▸t|some l=>rw [z] at t;obtain⟨H,L,b⟩:=KR.mp (t:l.any _=Q);have d:=n.1;rw [z] at d;have a:=gT.mp (d:cP l _=Q) H L;rw [<-eb b] at a;exact Fy a
 .have d:=n.2;rw [x] at d;have z:=dB.mp<|gT.mp (d:cP v _=Q) (m,f)<|zG y;refine br (nX z.1) ?_;have q:=z.2;cases H:cm pw f with
  |none=>exact bU<|H▸q|some e=>rw [H] at q;have q:=dB.mp q;exact⟨e,H,Uj q.1,Ft q.2⟩
def ala{a:O}(e:aH h a=aH b a)(n:lJ b a=Q):h.Ns a (lZ b a):=by
 have c:lJ h a=true:=by unfold lJ;exact W e n
 have m:lZ h a=lZ b a:=by funext x;unfold lZ;rw [e]
 exact m▸ .of_isNs c
def hG(a:gG):ie:=⟨⟨[b0 a,DG a,x2 a,KX a,o4]⟩,(qj a).life⟩
def PH(b)(s:cO (CX b).I0 h):∀a∈[0,1,2,3,4],aH h a=aH (hG<|bx b) a:=by
 have k:[0,1,2,3,4].map (λa=>cX (KK<|bx b) a)=[0,1,2,3,4].map λa=>aH (hG<|bx b) a:=by kernel_rfl
 have c:(cP [0,1,2,3,4] λa=>d7<|aH (hG<|bx b) a)=true:=by kernel_rfl
 intro a m;have e:=nW.mp k a m;obtain⟨o,d⟩:=vH.mp<|gT.mp c a m;rw [d] at e⊢;exact s a o e
def xV(b)(s:cO (CX b).I0 h){a:O}(m:a∈[0,1,2,3,4])(n:lJ (hG<|bx b) a=Q):h.Ns a (lZ (hG<|bx b) a):=ala (PH b s a m) n
def G7(a):lJ (hG a) 0=true:=by kernel_rfl
def kN1(a):lJ (hG a) 1=true:=by kernel_rfl
def G!(a):lJ (hG a) 2=true:=by kernel_rfl
def XH(a):lJ (hG a) 3=true:=by kernel_rfl
def Vp(a):(hG a).bltView=Ul:=by kernel_rfl
def acx(a):lZ (hG a) qt=OB a:=by funext x;rfl
def akS(a)(x:bj)(b:x≠"__name__"):OB a x=tM x:=af (qG (acx a) x).symm<|NC (G7 a) (Vp a) x b
def TC(a):wt (CX a):=by
 refine aiO (λb o e=>af (T' b _).symm e) Ň adK (λh s=>⟨_,xV a s (by decide)<|G! _,by kernel_rfl⟩) (λh s=>⟨⟨_,xV a s (by decide)<|G! _,by kernel_rfl,by kernel_rfl⟩,⟨_,xV a s (by decide)<|kN1 _,by kernel_rfl⟩,⟨_,xV a s (by decide)<|G7 _,NC (G7 _)<|Vp _⟩,⟨_,4,o4,xV a s (by decide)<|XH _,by kernel_rfl,PH a s 4<|ao Y,Y,Y⟩⟩) (by kernel_rfl) (λh s=>?_) (λh s=>?_) (akS _)<|ajq a
 .have c:=xV a s (a:=iF) (by decide)<|XH _;exact c
 .have c:=xV a s (a:=qt) (by decide)<|G7 _;exact c
abbrev nU(a):=dY (bx a) 36
def ő(a):(nU a).body= .stmts [.Expr (dZ (fx (cC "Exception" ⟨8,8,8,17⟩) "__init__" ⟨8,8,8,26⟩) [cC "self" ⟨8,27,8,31⟩,cC "what" ⟨8,33,8,37⟩] [] ⟨8,8,8,38⟩) ⟨8,8,8,38⟩,je [fx (cC "self" ⟨9,8,9,12⟩) "what" ⟨9,8,9,17⟩] (cC "what" ⟨9,20,9,24⟩) ⟨9,8,9,24⟩,je [fx (cC "self" ⟨10,8,10,12⟩) "at" ⟨10,8,10,15⟩] (cC "at" ⟨10,18,10,20⟩) ⟨10,8,10,20⟩]:=by kernel_rfl
theorem kL(a):((oE (KK<|bx a) 83).any (·.hasDict)&&(zY 36 (hu (KK<|bx a) (w 83) "__init__")&&(Mt (oJ (KK<|bx a)<|w 36)&&(Hq "object.__setattr__" (hu (KK<|bx a) (w 83) "__setattr__")&&(F2 (KK<|bx a) 83&&(DO (uP (KK<|bx a) 83 "what")&&(DO (uP (KK<|bx a) 83 "at")&&
 cP (dm<|dX<|nU a) (λx=>match x.2 with
  |hj=>u|_=>Q))))))))=true:=by kernel_rfl
def kM(a):(OM (bx a) (nU a).code,(dm<|dX<|nU a).lookup ("self":bj),(dm<|dX<|nU a).lookup ("what":bj),(dm<|dX<|nU a).lookup ("at":bj),(dm<|dX<|nU a).lookup ("Exception":bj),xC<|nU a,yK<|nU a,yu<|dX<|nU a,xM<|dX<|nU a,lX<|dX<|nU a)=
(J<|y5<|nU a,dW,dW,dW,J qn,3,0,u,u,jz):=by kernel_rfl
def aep(a):uo (CX a) 83 36 (nU a):=by have b:=dB.mp<|kL a;have c:=dB.mp b.2;have d:=dB.mp c.2;have e:=dB.mp d.2;have f:=dB.mp e.2;have g:=dB.mp f.2;have h:=dB.mp g.2;have m:=kM a;exact⟨Y,⟨⟨N 0x50617273654572726f72,N 0x50617273654572726f72,82,46,[w 46],Q,[],[],u,A,A,J<|w 74,A,J<|s 0x50617273654572726f72 266,J<|s 0x50617273654572726f72 274,J<|eO Q⟩,by kernel_rfl⟩,Om b.1,Ft c.1,Uj d.1,SU e.1,f.1,Fy g.1,Fy h.1,⟨cJ "function",A,#[],by kernel_rfl⟩,by kernel_rfl,by kernel_rfl,aq (·.2.2.2.2.2.1) m,aq (·.2.2.2.2.2.2.1) m,aq (·.2.2.2.2.2.2.2.1) m,aq (·.2.2.2.2.2.2.2.2.1) m,aq (·.2.2.2.2.2.2.2.2.2) m,λj s=>YX (aq (·.1) m) s,(λx k l=>by have n:=gT.mp h.2 x k;rw [l] at n;cases n),aq (·.2.1) m,aq (·.2.2.1) m,aq (·.2.2.2.1) m,aq (·.2.2.2.2.1) m,λs p q t v=>kp_binds (w_ a v) λS=>by kernel_rfl,⟨_,_,_,_,_,_,_,_,_,_,_,_,_,_,cp (by kernel_rfl)<|ő a⟩⟩
def hO1(a):Bg.map (λp=>(gN p.1,xR a p.2))=Bg.map (λp=>(p.2,A)):=by kernel_rfl
def hO2(a):(cP KT λf=>match cm pw f with
|some b=>zY b<|J<|xR a<|gN f|none=>u)=true:=by kernel_rfl
def hO3(a):(cP pw λp=>wy (KK a)<|w p.2)=true:=by kernel_rfl
def abk(a):vD (CX a) wZ:=by
 refine abz (TC a) ain akM (λb p c=>?_) (by kernel_rfl) (λx v d=>?_) (λf e=>?_) (λf g e=>gT.mp (hO3<|bx a) _ (zG e)) ⟨83,36,_,aep a,by kernel_rfl,by kernel_rfl⟩
 .have h:=nW.mp (hO1<|bx a) p<|aO c;exact⟨aq (·.1) h,aq (·.2) h⟩
 .have h:=gT.mp (kGl<|bx a) (x,v)<|zG d;cases q:xR (bx a) (gN x) with
  |none=>rw [q] at h;cases h|some y=>rw [q] at h;exact⟨y,q,UM h⟩
 .obtain⟨y,j,k⟩:=KR.mp (e:KT.any _=Q);rw [eb k];have h:=gT.mp (hO2<|bx a) y j;cases q:cm pw y with
  |none=>rw [q] at h;cases h|some g=>rw [q] at h;exact⟨g,q,aC<|Ft h⟩
def aii(a):(KK a).map (λe=>cX (Ef a 102) e.1)=(KK a).map (λe=>J e.2):=by kernel_rfl
def alM(a):(cP (KK a) λe=>d7<|r7 e.2)=true:=by kernel_rfl
def jj:=dN (cm pw 8) 0
def aaS:cm pw 8=J jj:=by kernel_rfl
def TI(a):xR a "law"=J (w jj):=by kernel_rfl
def agP:AN 63 Kz:=SW Y ⟨[],Y⟩ (by decide+kernel)<|by decide+kernel
def Kp1(a b:cS):=(∀c o,aH a.heap c=J o->aH b.heap c=J o)/\b.os=a.os/\b.gens=a.gens
def A8{o}{G:Prop}(e:kP a=J o):G:=by cases e
def agH:Ok (CX c) kP kP ⟨λa=>aH b.heap a,kP,λZ=>A,b⟩:=
gF ⟨λa o e=>e,λa o e=>A8 (a:=a) e,λa o e=>A8 e,λa o e=>A8 e,λZ Z Z=>rfl,λZ Z Z=>rfl,λZ Z Z=>rfl,λZ Z Z=>rfl,λZ Z Z=>rfl,λZ Z Z=>rfl,λa o e=>A8 (a:=a) e,λa o e=>A8 e,λa o e=>A8 e⟩ λa o e=>aI (e:_=J o)
def ak0{L:O}(b)(f:cO (CX b).I0 a.heap)(g:aH a.heap L=J (lR (gU d) 0))(r:bR (CX b).S (λc=>aH a.heap c) (e.map ag) d)(h:U e<=cu):
 a7 (bL PG b) Kz (call (w jj) [w L]) (λv j=>v=eO Q/\Kp1 a j) (λZ Z=>bX) a:=by
 refine Bp<|afA (λZ=>ai5) _ (abk b) (akH b) 63 Kz agP 8 jj aaS kP ⟨aH a.heap,kP,λZ=>A,a⟩ [aN<|e.map ag] [w L] (λv Z=>v=bS Q) (λZ=>bX) _
  agH
  (λc o e=>f c o e) (λi e k m=>by obtain rfl:=aC e;exact bG m) ?_ (adR Y) ?_ ?_
 .exact .mk _ _ Y (.mk L (gU d) 0 Y g r<|W (bB ..) h) Y
 .intro v x y l n p q;subst q;exact⟨p,λb o e=>(n V).sI b o<|(l V) b o e,W (l J1) Y,W (l J1) Y⟩
 .exactλe y l n t x=>b4 x
def al2{os}(r:RL (vW a os 102) b):cO (CX a).I0 b.heap:=λc o e=>by
 refine TH r (ZE (aii<|bx a) e) ?_;obtain⟨p,d,f⟩:∃p∈KK (bx a),p.2=o:=by
  have g:∀h,cX h c=J o->∃p∈h,p.2=o:=by
   refineλh=>h.rec (λe=>aI e) λq t j=>λe=>?_
   have e:aD _ _ _=J o:=e;cases h:aE q.1 c with
   |true=>rw [h] at e;obtain rfl:=aC e;exact⟨q,b8,Y⟩|false=>rw [h] at e;exact ah (j e) λp x=>⟨p,cy _ x.1,x.2⟩
  exact g _ e
 have g:=gT.mp (alM<|bx a) p d;exact f▸g
def abv:∀a (s:cS),∃b,FV c d e ord (a.map .int) s=J (b,{s with toks:=gu s+U a})/\∀S (I:PM),bR S I (a.map ag) b:=by
 refineλa=>a.rec (λs=>⟨[],Y,λZ Z=>rfl⟩) λf r g=>λs=>aA (g {s with toks:=gu s+1}) λb h q=>⟨ey f s.toks::b,?_,λS I=> .mk _ _ Y (.mk s.toks Y) (q S I)⟩
 show(match FV c d e ord _ {s with toks:=gu s+1} with|some r=>J (ey f s.toks::r.1,r.2)|none=>A)=_;exact W h<|W (cA ..)<|W (eT 1 ..) Y
def acf:∀{a},(∀d∈a,aie c d .int=Q)->∃b:aa au,a=b.map .int:=by intro a;exact a.rec (λZ=>cM ([]) rfl) λx r e=>λh=>bp (e λd m=>h d<|cy _ m) λb e=>bp (ae9<|h x b8) λf q=>⟨f::b,W e<|W q rfl⟩
abbrev RW:=Challenge.rw_nn0431_01
noncomputable abbrev CL:=RW.row.toRowW.claim
def ajd(h:CL.pre b=Q)(c:Ν b=Q):∃a,b=[.list<|a.map .int]/\U a<=cu:=by refine gw (hasAllW_cons (pre_splitW h).1) λd r e f g=>?_;obtain rfl:=hasAllW_nil g;refine aA (hasW_list f) λj k l=>bp (acf λd m=>hasItemsW_at l d m) λa n=>?_;subst e k n;refine⟨a,Y,?_⟩;have l:=length_le_of_layableW<|gT.mp c _ b8;rw [bB] at l;exact ae l<|ao Y
variable{a:lr}{s e:cS}{d:O}{b:aa au}{c:aa a0}
def adf(a:gG):((dY a jj).name,y5<|dY a jj,ud<|dY a jj,(dY a jj).defaults,(dY a jj).kwdefaults,xC<|dY a jj,yK<|dY a jj,(dY a jj).params.defaults,kwWritten? (dY a jj).params.kwonlyargs (dY a jj).params.kw_defaults)=
(("law":bj),("law":bj),([]:aa<|bj×cx),bQ,bQ,(3:O),(0:O),([]:aa cZ),J ([]:aa<|bj×cZ)):=by kernel_rfl
def alT(a:gG):(cX (KK a) jj,(dY a jj).body,PG.theDef "law")=(J ⟨cJ "function",A, .func<|dY a jj,#[]⟩, .stmts<|q0<|aZ 101,J ((dY a jj).params,q0<|aZ 101,dX<|dY a jj)):=by kernel_rfl
def abQ(a:lr)(b:cO (CX a).I0 s.heap)(hg:lJ s.heap iF=Q):isTheDefsW PG s.heap "law":=by
 have c:=adf<|bx a;have d:=alT<|bx a;have e:=PH a b 3 (by decide);refine⟨jj,_,_,_,_,_,?_,b _ _ (aq (·.1) d),Y,aq (·.2.2) d,aq (·.1) c,aq (·.2.1) c,Y,aq (·.2.1) d,Y,aq (·.2.2.2.2.2.1) c,aq (·.2.2.1) c,aq (·.2.2.2.2.2.2.1) c,aL ⟨aq (·.2.2.2.2.2.2.2.1) c,aq (·.2.2.2.1) c⟩,[],aq (·.2.2.2.2.2.2.2.2) c,aL ⟨Y,aq (·.2.2.2.2.1) c⟩⟩
 rw [Pw hg,show lZ s.heap iF=lZ (hG<|bx a) iF by funext x;unfold lZ;rw [show aH s.heap iF=_ from e];rfl];exact TI _
def aan:PG.bare:=⟨Y,Y,Y,Y,by kernel_rfl,by kernel_rfl⟩
def ajh:opensWell PG=true:=by kernel_rfl
def abT:frees RW.row.toRowW=true:=by kernel_rfl
def VB:RW.row.toRowW.promised:=⟨[.list []],by kernel_rfl,by kernel_rfl⟩
def adP(a:lr)(f:s.asleep)(d:s.gens=#[])(g:cO (CX a).I0 s.heap){h:cx->Prop}{j:Prop}{e:ie->Prop}(k:∀l,e l):CL.CallFrom (callStub "law") a h j e s:=by
 refine adG (c:=CL) (tree:=λe=>do match<-nsGet mainNs ("law":bj) with
  |some m=>do ret (<-PySem.call m e)
  |none=>unsupported "claim.caller:no-such-global") f d λe e n p q=>?_
 obtain⟨b,t,v⟩:=ajd e n;subst t;obtain⟨c,e,x⟩:=abv (c:=CL.records) (d:=G2 s.heap) (e:=bx a) (ord:=p) b s;have y:FV CL.records (G2 s.heap) (bx a) p [.list<|b.map .int] s=J ([w s.heap.objs.size],{s with heap:=dh s.heap<|lR (gU c) 0,toks:=gu s+U b}):=by
  show(match(match FV CL.records (G2 s.heap) (bx a) p (b.map .int) s with
   |some r=>J (w r.2.heap.objs.size,{r.2 with heap:=dh r.2.heap {cls:=cJ "list",data:=pq<|gU r.1}})
   |none=>A) with
   |some z=>(match J (([]:aa a0),z.2) with
    |some r=>J (z.1::r.1,r.2)|none=>A)
   |none=>A)=_
  rw [e]
 obtain⟨e,H,L,h⟩:=reads_layAllW q _ _ _ y n _ (λZ Z j=>j);have l:=layAllW_rest _ _ _ y;have f:=layAllW_keeps _ _ _ y;have m:Laid CL.records a s _ [.list<|b.map .int] _ e:=⟨⟨p,q,y⟩,H,L,h,f,af l.1 d,l.2.2.1⟩;have e:cO (CX a).I0 (dh s.heap<|lR (gU c) 0):=λz o j=>iT _ (g z o j);have t:=ak0 (a:={s with heap:=dh s.heap _,toks:=gu s+U b}) a e (i1 _ Y) (x _ _) v;obtain⟨n,p,q,H,L⟩:=frees_parts abT;have h:=ident_freeW p q H;refine⟨_,_,y,aB<|wpAny_nsGet (TC a J6 _ e) ?_⟩;rw [show(CX a).mg ("law":bj)=J _ from TI _];refine aB<|kY t (λe l q=>bq ⟨jM e,Y,?_⟩) λj l q=>b4 q;have g:GoodWG CL (G2 s.heap) (aaw s.heap) [.list<|b.map .int] {s with heap:=dh s.heap _,toks:=gu s+U b} _ l:=
  ⟨aL ⟨e, .bool Q,[],Y,λZ=>rfl,by rw [q.1];exact .bool Q,by kernel_rfl,λZ=>⟨yM,λz f=>bG<|f⟩⟩, .of_keep q.2.1,q.2.2.1, .of_eq<|af q.2.2.2 d⟩
 have d:=g.laid (c:=CL) n Y h m;exact⟨d.1,d.2.1,d.2.2,k _⟩
def amj:RW.row.Holds↔RW.row.wellSaid=true:=by refine⟨λb=>b.1,λc=>⟨c,VB,⟨⟨aan,ajh,Y⟩,VB.witness,λa=>⟨(F! a).1,λd e=>?_⟩⟩⟩⟩;obtain⟨c,f,MH,s,g,h,hg,j,k⟩:=(F! a).2 d e;have d:=al2 k;exact⟨c,f,MH,s,g,λe l=>by cases qh.mp (l:e∈[("law":bj)]);exact abQ a d hg,λx m=>b4<|Sh (m:x∈[]),λx m=>b4<|Sh (m:x∈[]),adP a h (k J2) d λb q=>ay (q:u=Q) hz⟩
end
end Zq
theorem PySem.Challenge.cw_nn0431_01_holds : PySem.Challenge.rw_nn0431_01.Holds :=
 PySem.W.holds_law Zq.Ų Zq.amj.2
