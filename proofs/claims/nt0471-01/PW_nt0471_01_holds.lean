import PyProof.Rows.All
import OpenK.KLine
import KE.KItem
import Wide.Built
import Open.Line
import OpenK.XOpen
import OpenK.ZHead
import KE.BitLaws
import KE.KBits
import PyProof.FitsInt
import Open.FastT9
import Open.Boot
import Open.Tree
import PySem.Challenge.RW_nt0471_01
set_option maxRecDepth 100000
set_option linter.all false
set_option genSizeOf false
set_option genInjectivity false
set_option Elab.async false
namespace TI
open PySem
open PySem.Str renaming ofString->aa
open _root_.Option renaming none->ae,some->ah,map->bZ,isSome_iff_exists->cE,map_eq_some_iff->cT,bind_some->cY,bind_eq_some_iff->fx,isNone_iff_eq_none->uD,map_some->Jk
open PySem renaming Expr->ag,call->kB
open PySem.Builtin renaming bitAnd->aj,bitOr->av,bitXor->c_,bitNot->tH
open _root_.List renaming mem_cons_self->ak,mem_cons_of_mem->ao,length_map->aq,range->ar,replicate->aw,all_eq_true->ax,mem_append_right->ay,mem_range->az,mem_append_left->aF,mem_cons->aG,size_toArray->aJ,length_range->aK,mem_singleton->aN,mem_append->aP,nodup_cons->aQ,lookup_cons->aZ,map_map->a_,append_nil->bc,nodup_append->be,map_congr_left->bg,length_append->bn,mem_of_getElem? ->bG,nodup_nil->bL,map_append->cf,any_eq_true->cm,mem_filter->cA,getElem?_eq_some_iff->cB,forall_mem_cons->cJ,mem_map->c9,append_assoc->dA,getElem?_eq_getElem->dE,eq_nil_of_length_eq_zero->dT,map_nil->d3,getElem?_toArray->ed,length_replicate->gA,filter_cons->gN,range'->gX,nil_append->ic,filter_map->ig,countP_map->ij,zip_cons_cons->iY,filter_append->iZ,getElem?_take_of_lt->jz,length_cons->j9,isEmpty_iff->j_,range_succ_eq_map->ko,range_succ->k8,of_mem_zip->k9,map_const'->k_,foldl_cons->la,getElem?_eq_none->ls,contains_iff_mem->lw,getElem?_range->mY,filterMap_cons->mZ,all_cons->oT,getElem?_map->qF,filter_congr->qG,countP_congr->qH,nodup_range->sJ,length_drop->sK,perm_ext_iff_of_nodup->vS,nodup_iff_pairwise_ne->vT,range_add->wi,map_drop->zC,map_cons->zD,Perm->Ah,find?_cons_of_pos->Aj,find?_cons_of_neg->Ak,filter_eq_nil_iff->Al,drop_eq_nil_of_le->Am,length_filter_le->BZ,range_eq_range'->DO,getElem_toArray->DP,filter->Fc,replicate_succ->Fk,append_toArray->Fl,map_replicate->HF,take_sublist->Jm,push_toArray->Jn,pairwise_map->Jo,not_mem_nil->L6,mem_flatMap->L7,getElem_mem->L8,getElem_inj->L9,drop_length->L_,countP_cons->Ma,sum_append->Mi,find?_some->Mj,any_append->Mk,take_nil->Qx,map_take->Qy,drop_nil->Qz,sum_nil->R8,any_map->R9,lookup->Tc,length->Td,foldl->TN,drop->Uj
open _root_.Nat renaming le_trans->an,le_refl->aA,lt_of_le_of_lt->aC,zero_le->aE,div_lt_of_lt_mul->aH,lt_succ_of_le->aU,le_one_iff_eq_zero_or_eq_one->aY,succ_le_succ->bf,lt_of_succ_lt_succ->bh,le_of_ble_eq_true->bm,sub_le->bE,le_add_right->bJ,lt_of_lt_of_le->bR,add_comm->bU,succ->b_,lt_succ_self->cn,lt_succ_of_lt->cq,le_add_left->cw,le_sub_one_of_lt->cx,sub_sub_self->cH,ne_of_lt->cM,ne_of_gt->cN,add_le_add_left->cV,not_lt_zero->dC,not_lt->dM,mod_lt->d_,add_assoc->eB,beq->eV,succ_lt_succ->eW,succ_pos->eY,mul_comm->eZ,one_mul->f8,le_of_succ_le_succ->f_,lt_trichotomy->gk,le_succ_of_le->gm,add_le_add->gv,zero_add->gw,lt_or_ge->iU,add_right_comm->je,lt_succ_iff_lt_or_eq->jN,lt_irrefl->jV,lt_add_of_pos_right->ke,zero_lt_succ->kf,lt_trans->ll,le_of_lt->lm,le_succ->mS,add_mul->mT,mod_eq_of_lt->tF,one_pos->uB,testBit_and->vI,min_eq_left->vJ,sub_lt->xS,exists_eq_add_of_le->Ai,testBit_lt_two_pow->BY,pow_succ->DK,le_of_eq->DL,add_zero->DM,pow_le_pow_right->Ff,not_succ_le_zero->Fg,mul_le_mul_right->Fh,le_sub_of_add_le->Fi,eq_of_testBit_eq->Fj,mul_le_mul_left->Fu,add_lt_add_left->Fv,mod_eq_sub_mod->Jl,div_eq_of_lt->Mh,two_pow_pos->PS,strongRecOn->PT,mul_add_mod->PU,mul_add_div->PV,le_antisymm->PW,testBit_or->Qw,sub_zero->S_,lt_asymm->Ta,beq_refl->Tb,blt->Tj,log2_lt->TM
open _root_.Int renaming le_trans->ap,natCast_nonneg->au,ofNat_le->aW,le_of_lt->bv,lt_of_le_of_lt->bC,ofNat_lt->bF,mul_le_mul_of_nonneg_right->bN,fdiv_eq_ediv_of_nonneg->bO,add_zero->bQ,lt_of_lt_of_le->bS,not_lt->cC,add_le_add->cO,eq_ofNat_of_zero_le->cR,zero_add->de,add_assoc->dh,min_le_right->di,le_max_right->dj,le_refl->dm,natCast_sub->dD,toNat_of_nonneg->dN,neg_neg->d9,sign_eq_neg_one_of_neg->eP,neg_le_neg->eS,min_le_left->fK,le_max_left->fL,le_antisymm->fM,not_le->fV,sign_eq_one_of_pos->ga,toNat_natCast->gn,mul_le_mul_of_nonpos_right->gO,mul_le_mul_of_nonneg_left->gV,sub_nonneg_of_le->gW,zero_mul->iV,fmod_eq_emod_of_nonneg->i6,neg_nonpos_of_nonneg->jP,neg_nonneg_of_nonpos->jQ,one_mul->jU,min_eq_right->kh,max_eq_right->ki,ne_of_gt->ln,ediv_one->lp,add_comm->lq,min_eq_left->lE,max_eq_left->lF,mul_nonneg->mQ,neg_sub->mU,neg_mul->mV,add_mul->mW,neg_neg_of_pos->p9,max_le->qD,le_min->qE,mul_comm->qU,lt_asymm->qV,le_total->qW,natCast_zero->tG,ofNat->uh,neg_add->uC,sub_le_self->vK,natCast_add->vL,ediv_nonneg->vM,le_add_of_nonneg_right->wX,sub_le_sub->xG,natAbs_neg->xH,ediv_le_of_le_mul->DQ,sub_le_sub_right->Fm,le_sub_one_of_lt->Fo,le_of_lt_add_one->Fp,toNat_le_toNat->Jp,sub_eq_add_neg->Jq,sub_add_cancel->Jr,neg_pos_of_neg->Js,emod_lt_of_pos->Jt,lt_trichotomy->Mb,ediv_le_ediv->Ml,emod_nonneg->PX,fdiv->QE,ofNat_inj->R_,min_assoc->Sa,sub_zero->Te,sign_neg->Tf,min_comm->Tg,lt_toNat->Th,le_of_eq->Ti,mul_one->TO,sign->U1
open _root_.Bool renaming and_eq_true->aB,noConfusion->aL,false_ne_true->aO,and_eq_true_iff->bH,and_false->bP,not_eq_true'->b0,or_false->cg,and_comm->cz,eq_false_iff->cQ,or_eq_true->du,and_true->dF,true_and->ei,or_eq_true_iff->eX,eq_iff_iff->fF,false_eq_true->fG,or_assoc->gS,false_and->mO,false_or->oU,and_assoc->wj,and_or_distrib_left->xT,decide_and->Mm,xor_false->P3,or_comm->Sd
open PySem.Heap renaming get?_push_of_some->aV,get?_push_size->bD,lt_size->d4,SameBut->iJ,get?_update_self->ly,Ns->lG,size_push->mN,IsSliceOf->PY
open _root_.Array renaming toList_inj->qO,toList->zU,mk->DN,any_toList->Ju
open _root_.Classical renaming choose_spec->vU,skolem->B1,byContradiction->UY,choose->UZ,byCases->U0
open _root_.Eq renaming trans->zT
open _root_.Or renaming inl->A2
open _root_.Iff renaming trans->NM,of_eq->NN
open _root_.And renaming left->QF
open _root_.Exists renaming imp->Sb
open PySem
section
inductive T where
 | none | bool (b:Bool) | int (i:Int) | str (s:Str)
 | list (l:List T) | tup (l:List T) | inst (c:Nat) (ks:List Nat) (l:List T) | rng (a b c:Int)
inductive O where
 | sh (t:T) | lst (l:List O) | ins (c:Nat) (ks:List Nat) (l:List O)
inductive n6 where | add | sub | mul | fdv | mod | shl | shr | and | or | xor
 deriving DecidableEq
inductive zF where | eq | ne | lt | le | gt | ge
 deriving DecidableEq
inductive BI where | len | abs | min | max | sum | str | range
 deriving DecidableEq
inductive Mt where | index | count
 deriving DecidableEq
inductive X where
 | lit (t:T) | glob (x:Str) (t:T) | var (i:Nat)
 | bin (op:n6) (a b:X) | neg (a:X) | inv (a:X) | nott (a:X)
 | andd (a b:X) | orr (a b:X) | cmp (op:zF) (a b:X) | ite (c a b:X)
 | attr (a:X) (k:Nat) | idx (a i:X) | slc (a lo hi:X)
 | list (a:X) | tup (a:X) | nil | cons (a r:X)
 | call (f:Nat) (a:X) | new (c:Nat) (a:X) | bi (b:BI) (a:X) | meth (m:Mt) (o a:X)
 | comp (tg:List Nat) (src c e:X)
inductive S where
 | skip | seq (a b:S)
 | asg (y:Nat) (e:X) | asgO (y:Nat) (e:X) | tupa (ys:List Nat) (e:X)
 | setI (a i e:X) | setA (a:X) (k:Nat) (e:X) | setAO (a:X) (k:Nat) (e:X)
 | aug (y:Nat) (op:n6) (e:X) | augI (a i:X) (op:n6) (e:X) | augA (a:X) (k:Nat) (op:n6) (e:X)
 | iff (c:X) (a b:S) | forr (tg:List Nat) (src:X) (b:S) | whl (c:X) (b:S)
 | ret (e:X) | app (a e:X) | ext (y:Nat) (e:X) | callIO (f:Nat) (y:Nat) (a:X) | frz (y:Nat)
mutual
noncomputable def O.toT:O->T
 | .sh t=>t
 | .lst l=> .list (O.toTs l)
 | .ins c ks l=> .inst c ks (O.toTs l)
noncomputable def O.toTs:List O->List T
 |[]=>[]
 | o::r=>o.toT::O.toTs r
end
noncomputable def O.t? :O->Option T
 | .sh t=>some t
 | _=>ae
noncomputable def O.int? :O->Option Int
 | .sh (.int i)=>some i
 | _=>ae
section
variable{α:Type}(t:T)
noncomputable def T.onI(f:Int->Option α):Option α:=t.casesOn ae (λ_=>ae) f (λ_=>ae) (λ_=>ae) (λ_=>ae) (λ_ _ _=>ae) (λ_ _ _=>ae)
noncomputable def T.onB(f:Bool->Option α):Option α:=t.casesOn ae f (λ_=>ae) (λ_=>ae) (λ_=>ae) (λ_=>ae) (λ_ _ _=>ae) (λ_ _ _=>ae)
noncomputable def T.onS(f:Str->Option α):Option α:=t.casesOn ae (λ_=>ae) (λ_=>ae) f (λ_=>ae) (λ_=>ae) (λ_ _ _=>ae) (λ_ _ _=>ae)
noncomputable def T.onL(f:List T->Option α):Option α:=t.casesOn ae (λ_=>ae) (λ_=>ae) (λ_=>ae) f (λ_=>ae) (λ_ _ _=>ae) (λ_ _ _=>ae)
noncomputable def T.onT(f:List T->Option α):Option α:=t.casesOn ae (λ_=>ae) (λ_=>ae) (λ_=>ae) (λ_=>ae) f (λ_ _ _=>ae) (λ_ _ _=>ae)
noncomputable def T.onISL(fi:Int->Option α)(fs:Str->Option α)(fl:List T->Option α):Option α:=t.casesOn ae (λ_=>ae) fi fs fl (λ_=>ae) (λ_ _ _=>ae) (λ_ _ _=>ae)
noncomputable def T.onBIL(fb:Bool->Option α)(fi:Int->Option α)(fl:List T->Option α):Option α:=t.casesOn ae fb fi (λ_=>ae) fl (λ_=>ae) (λ_ _ _=>ae) (λ_ _ _=>ae)
noncomputable def T.onEq(fi:Int->Option α)(fs:Str->Option α)(fl ft:List T->Option α):Option α:=t.casesOn ae (λ_=>ae) fi fs fl ft (λ_ _ _=>ae) (λ_ _ _=>ae)
end
section
variable{α:Type}(l:List T)
noncomputable def S7(o:Option α):Option α:=l.casesOn o λ_ _=>ae
noncomputable def QK(f:T->Option α):Option α:=l.casesOn ae λa r=>S7 r (f a)
noncomputable def TT(f:T->T->Option α):Option α:=l.casesOn ae λa r=>QK r (f a)
end
noncomputable def lP(f:T->T->Option Bool):List T->List T->Option Bool
 |[],m=>some m.isEmpty
 | a::r,m=>m.casesOn (some false) λb q=>(f a b).bind λx=>(lP f r q).map (x&& ·)
noncomputable def xQ:Nat->T->T->Option Bool
 | 0,a,b=>a.onEq (λi=>b.onI λj=>some (i==j)) (λx=>b.onS λy=>some (x==y)) (λ_=>ae) (λ_=>ae)
 | n+1,a,b=>a.onEq (λi=>b.onI λj=>some (i==j)) (λx=>b.onS λy=>some (x==y)) (λl=>b.onL (lP (xQ n) l)) (λl=>b.onT λm=>if l.length=m.length then lP (xQ n) l m else ae)
noncomputable def SL(n:Nat):List T->List T->Option Bool:=lP (xQ n)
noncomputable def small(a:Int):Bool:=decide (-18446744073709551616<a)&&decide (a<18446744073709551616)
noncomputable def bK(op:n6)(x y:T):Option T:=op.casesOn
 (x.onISL (λa=>y.onI λb=>some (.int (a+b))) (λa=>y.onS λb=>if a.length<=1000/\b.length<=1000 then some (.str (a++b))else ae) (λa=>y.onL λb=>if a.length<=1000/\b.length<=1000 then some (.list (a++b))else ae))
 (x.onI λa=>y.onI λb=>some (.int (a - b)))
 (x.onISL (λa=>y.onI λb=>if small a||small b then some (.int (a*b))else ae) (λ_=>ae) (λl=>QK l λa=>y.onI λn=>if -1000<=n/\n<=1000 then some (.list (aw n.toNat a))else ae))
 (x.onI λa=>y.onI λb=>if b==0|| !small b then ae else some (.int (a.fdiv b)))
 (x.onI λa=>y.onI λb=>if b==0 then ae else some (.int (a.fmod b)))
 (x.onI λa=>y.onI λb=>if decide (0<=b)&&decide (b<=1000)&&small a then some (.int (a*2^b.toNat))else ae)
 (x.onI λa=>y.onI λb=>if decide (0<=b)then some (.int (a.fdiv (2^b.toNat)))else ae)
 (x.onI λa=>y.onI λb=>some (.int (aj a b)))
 (x.onI λa=>y.onI λb=>some (.int (av a b)))
 (x.onI λa=>y.onI λb=>some (.int (c_ a b)))
noncomputable def nq(op:n6)(x t:T):Option T:=x.onI λi=>if op= .mod then ae else bK op (.int i) t
noncomputable def gP(op:zF)(x y:T):Option Bool:=op.casesOn
 (x.onBIL (λa=>y.onB λb=>some (a==b)) (λa=>y.onI λb=>some (a==b)) (λa=>y.onL λb=>xQ 8 (.list a) (.list b)))
 (x.onBIL (λa=>y.onB λb=>some (!(a==b))) (λa=>y.onI λb=>some (!(a==b))) (λa=>y.onL λb=>(xQ 8 (.list a) (.list b)).map (!·)))
 (x.onI λa=>y.onI λb=>some (decide (a<b)))
 (x.onI λa=>y.onI λb=>some (decide (a<=b)))
 (x.onI λa=>y.onI λb=>some (decide (b<a)))
 (x.onI λa=>y.onI λb=>some (decide (b<=a)))
noncomputable def bx(t:T):Option Bool:=t.casesOn (some false) some (λi=>some (!(i==0))) (λ_=>ae) (λl=>if l.length<=1000000 then some (!l.isEmpty)else ae) (λ_=>ae) (λ_ _ _=>ae) (λ_ _ _=>ae)
noncomputable def qy:List T->Option (List Int)
 |[]=>some []
 | t::r=>t.onI λi=>(qy r).map (i:: ·)
noncomputable def eT(a:Int):Bool:=decide (-1000000000000<=a)&&decide (a<=1000000000000)
noncomputable def ja(a b c:Int):List T:=(ar (Builtin.Range.rangeSize a b c).toNat).map λ(i:Nat)=>T.int (a+(i:Int)*c)
noncomputable def dg(t:T):Option (List T):=t.casesOn ae (λ_=>ae) (λ_=>ae) (λ_=>ae) some some (λ_ _ _=>ae) (λa b c=>if eT a&&eT b&&(c==1||c== -1)then some (ja a b c)else ae)
noncomputable def lB(t:T):Option (List T):=(dg t).bind λl=>if l.length<=1000000 then some l else ae
noncomputable def qI(f:BI)(l:List T):Option T:=f.casesOn
 (QK l λt=>t.onL λl=>if l.length<=1048576 then some (.int l.length)else ae)
 (QK l λt=>t.onI λa=>some (.int (if a<0 then -a else a)))
 (TT l λx y=>x.onI λa=>y.onI λb=>some (.int (if b<a then b else a)))
 (TT l λx y=>x.onI λa=>y.onI λb=>some (.int (if a<b then b else a)))
 (QK l λt=>t.onL λl=>(qy l).map λis=> .int is.sum)
 (QK l λt=>t.onI λa=>if decide (-1000000000<a)&&decide (a<1000000000)then some (.str (aa (toString a)))else ae)
 (l.casesOn ae λx r=>x.onI λa=>r.casesOn (if eT a then some (.rng 0 a 1)else ae) λy r=>y.onI λb=>r.casesOn (if eT a&&eT b then some (.rng a b 1)else ae) λz r=>S7 r (z.onI λc=>if eT a&&eT b&&c== -1 then some (.rng a b (-1))else ae))
noncomputable def uu(t:T):List T->Option (List Bool)
 |[]=>some []
 | a::r=>(xQ 4 a t).bind λx=>(uu t r).map (x:: ·)
noncomputable def lf:Nat->List Bool->Option Nat
 | _,[]=>ae
 | n,b::r=>if b then some n else lf (n+1) r
noncomputable def uq(m:Mt)(x t:T):Option T:=x.onL λl=>if l.length<=1000 then m.casesOn ((uu t l).bind λbs=>(lf 0 bs).map λ(n:Nat)=> .int (n:Int)) ((uu t l).map λbs=> .int (((bs.filter id).length:Nat):Int))else ae
noncomputable def nth{α:Type}:List α->Nat->Option α
 |[],_=>ae
 | a::_,0=>some a
 | _::r,n+1=>nth r n
noncomputable def dp{α:Type}:List α->Nat->α->List α
 |[],_,_=>[]
 | _::r,0,x=>x::r
 | a::r,n+1,x=>a::dp r n x
noncomputable def iw{α:Type}:List Nat->List α->Nat->Option α
 | k::ks,a::l,j=>if k=j then some a else iw ks l j
 | _,_,_=>ae
noncomputable def cr(n:Int)(len:Nat):Option Nat:=if 0<=n/\n<len/\n<1000000 then some n.toNat else ae
section
variable{α:Type}(o:O)
noncomputable def O.on(fs:T->Option α)(fl:List O->Option α)(fi:Nat->List Nat->List O->Option α):Option α:=o.casesOn fs fl fi
end
noncomputable def T.onN{α:Type}(t:T)(f:List Nat->List T->Option α):Option α:=t.casesOn ae (λ_=>ae) (λ_=>ae) (λ_=>ae) (λ_=>ae) (λ_=>ae) (λ_ ks l=>f ks l) (λ_ _ _=>ae)
noncomputable def T.onQ{α:Type}(t:T)(fl ft:List T->Option α):Option α:=t.casesOn ae (λ_=>ae) (λ_=>ae) (λ_=>ae) fl ft (λ_ _ _=>ae) (λ_ _ _=>ae)
noncomputable def bV(k:Nat)(o:O):Option O:=o.on (λt=>t.onN λks l=>(iw ks l k).map .sh) (λ_=>ae) (λ_ ks l=>iw ks l k)
noncomputable def b4(n:Int)(o:O):Option O:=o.on (λt=>t.onQ (λl=>((cr n l.length).bind (nth l)).map .sh) (λl=>((cr n l.length).bind (nth l)).map .sh)) (λl=>(cr n l.length).bind (nth l)) (λ_ _ _=>ae)
noncomputable def mx(lo hi:Option Int)(t:T):Option T:=t.onL λl=>lo.casesOn ae λa=>hi.casesOn (if decide (0<=a)&&small a&&decide (l.length<=1000000)then some (.list (l.drop a.toNat))else ae)
 λb=>if decide (0<=a)&&decide (0<=b)&&small a&&small b&&decide (l.length<=1000000)then some (.list ((l.take b.toNat).drop a.toNat))else ae
@[reducible] noncomputable def b6:=List (Option O)
noncomputable def get(ρ:b6)(i:Nat):Option O:=(nth ρ i).join
noncomputable def fO(ρ:b6)(i:Nat)(o:O):b6:=dp ρ i (some o)
noncomputable def dz:List Nat->T->b6->Option b6
 |[i],t,ρ=>some (fO ρ i (.sh t))
 | is,.tup l,ρ=>if is.length=l.length then some ((is.zip l).foldl (λr p=>fO r p.1 (.sh p.2)) ρ)else ae
 | _,_,_=>ae
structure d5 where
 call:Nat->List T->Option T
 new:Nat->List T->Option O
 io:Nat->O->List T->Option O
noncomputable def gQ{α:Type}(f:b6->Option Bool)(g:b6->Option α)(tg:List Nat)(ρ:b6):List T->Option (List α)
 |[]=>some []
 | t::r=>(dz tg t ρ).bind λρ'=>(f ρ').bind λb=>
  if b then (g ρ').bind λy=>(gQ f g tg ρ r).map (y:: ·)else gQ f g tg ρ r
noncomputable def mP(o:Option T):Option O:=o.map .sh
noncomputable def mf{α:Type}(x:X)(a b:α):α:=match x with
 | .nil=>a
 | _=>b
noncomputable def Mv:n6->X->Option X
 | .mul,.list (.cons e .nil)=>some e
 | _,_=>ae
section
variable(c:d5)
mutual
noncomputable def ev:X->b6->Option O
 | .lit t,_=>some (.sh t)
 | .glob _ t,_=>some (.sh t)
 | .var i,ρ=>get ρ i
 | .bin op a b,ρ=>((ev a ρ).bind O.t?).bind λx=>((ev b ρ).bind O.t?).bind λy=>mP (bK op x y)
 | .neg a,ρ=>((ev a ρ).bind O.t?).bind λx=>match x with | .int i=>some (.sh (.int (-i))) | _=>ae
 | .inv a,ρ=>((ev a ρ).bind O.t?).bind λx=>match x with | .int i=>some (.sh (.int (-i - 1))) | _=>ae
 | .nott a,ρ=>((ev a ρ).bind O.t?).bind λx=>(bx x).map λb=> .sh (.bool (!b))
 | .andd a b,ρ=>((ev a ρ).bind O.t?).bind λx=>(bx x).bind λq=>if q then (ev b ρ).bind λo=>mP o.t? else some (.sh x)
 | .orr a b,ρ=>((ev a ρ).bind O.t?).bind λx=>(bx x).bind λq=>if q then some (.sh x)else (ev b ρ).bind λo=>mP o.t?
 | .cmp op a b,ρ=>((ev a ρ).bind O.t?).bind λx=>((ev b ρ).bind O.t?).bind λy=>(gP op x y).map λq=> .sh (.bool q)
 | .ite q a b,ρ=>(tst q ρ).bind λv=>if v then (ev a ρ).bind λo=>mP o.t? else (ev b ρ).bind λo=>mP o.t?
 | .attr a k,ρ=>(ev a ρ).bind (bV k)
 | .idx a i,ρ=>(ev a ρ).bind λo=>((ev i ρ).bind O.int?).bind λn=>b4 n o
 | .slc a lo hi,ρ=>((ev a ρ).bind O.t?).bind λt=>((ev lo ρ).bind O.int?).bind λl=>
   mf hi (mP (mx (some l) ae t)) (((ev hi ρ).bind O.int?).bind λh=>mP (mx (some l) (some h) t))
 | .list a,ρ=>(o7 a ρ).map λl=> .sh (.list l)
 | .tup a,ρ=>(o7 a ρ).map λl=> .sh (.tup l)
 | .nil,_=>ae
 | .cons _ _,_=>ae
 | .call f a,ρ=>(o7 a ρ).bind λl=>mP (c.call f l)
 | .new f a,ρ=>(o7 a ρ).bind λl=>(c.new f l).map λo=> .sh o.toT
 | .bi b a,ρ=>(o7 a ρ).bind λl=>mP (qI b l)
 | .meth m o a,ρ=>((ev o ρ).bind O.t?).bind λx=>((ev a ρ).bind O.t?).bind λy=>mP (uq m x y)
 | .comp tg src q e,ρ=>(((ev src ρ).bind O.t?).bind lB).bind λl=>
   (gQ (λr=>mf q (some true) (tst q r)) (λr=>(ev e r).bind O.t?) tg ρ l).map λl=> .sh (.list l)
noncomputable def tst:X->b6->Option Bool
 | .nott a,ρ=>(tst a ρ).map (!·)
 | .andd a b,ρ=>(tst a ρ).bind λq=>if q then tst b ρ else some false
 | .orr a b,ρ=>(tst a ρ).bind λq=>if q then some true else tst b ρ
 | .cmp op a b,ρ=>((ev a ρ).bind O.t?).bind λx=>((ev b ρ).bind O.t?).bind λy=>gP op x y
 | .var i,ρ=>((get ρ i).bind O.t?).bind bx
 | .bin op a b,ρ=>(((ev a ρ).bind O.t?).bind λx=>((ev b ρ).bind O.t?).bind λy=>bK op x y).bind bx
 | .attr a k,ρ=>(((ev a ρ).bind (bV k)).bind O.t?).bind bx
 | .idx a i,ρ=>(((ev a ρ).bind λo=>((ev i ρ).bind O.int?).bind λn=>b4 n o).bind O.t?).bind bx
 | .call f a,ρ=>((o7 a ρ).bind (c.call f)).bind bx
 | _,_=>ae
noncomputable def o7:X->b6->Option (List T)
 | .nil,_=>some []
 | .cons a r,ρ=>((ev a ρ).bind O.t?).bind λx=>(o7 r ρ).map (x:: ·)
 | _,_=>ae
end
mutual
noncomputable def uA:X->b6->Option O
 | .list a,ρ=>(BG a ρ).map .lst
 | .bin op a n,ρ=>(Mv op a).casesOn (((ev c (.bin op a n) ρ).bind O.t?).map .sh) λe=>((ev c e ρ).bind O.t?).bind λx=>((ev c n ρ).bind O.int?).bind λk=>if -1000<=k/\k<=1000 then some (.lst (aw k.toNat (.sh x)))else ae
 | .comp tg src q e,ρ=>(((ev c src ρ).bind O.t?).bind lB).bind λl=>
   (gQ (λr=>mf q (some true) (tst c q r)) (λr=>uA e r) tg ρ l).map λl=> .lst l
 | .new f a,ρ=>(o7 c a ρ).bind λl=>c.new f l
 | e,ρ=>((ev c e ρ).bind O.t?).map .sh
noncomputable def BG:X->b6->Option (List O)
 | .nil,_=>some []
 | .cons a r,ρ=>(uA a ρ).bind λx=>(BG r ρ).map (x:: ·)
 | _,_=>ae
end
noncomputable def upd:X->b6->O->Option b6
 | .var i,ρ,o=>some (fO ρ i o)
 | .attr a k,ρ,o=>(ev c a ρ).bind λr=>match r with
   | .ins q ks l=>let p:=setFld ks l k o;upd a ρ (.ins q p.1 p.2)
   | _=>ae
 | .idx a i,ρ,o=>(ev c a ρ).bind λr=>((ev c i ρ).bind O.int?).bind λn=>match r with
   | .lst l=>(cr n l.length).bind λj=>upd a ρ (.lst (dp l j o))
   | _=>ae
 | _,_,_=>ae
where
 setFld:List Nat->List O->Nat->O->List Nat×List O
 | k::ks,a::l,j,x=>if k=j then (k::ks,x::l)else let r:=setFld ks l j x;(k::r.1,a::r.2)
 | _,_,j,x=>([j],[x])
noncomputable def d6:List Nat->Bool
 |[]=>true
 | k::r=> !r.contains k&&d6 r
noncomputable def Fy(a i:X)(ρ:b6)(o:O):Option b6:=
 (ev c a ρ).bind λr=>((ev c i ρ).bind O.int?).bind λn=>match r with
  | .lst l=>(cr n l.length).bind λj=>upd c a ρ (.lst (dp l j o))
  | _=>ae
noncomputable def xI(a:X)(k:Nat)(ρ:b6)(o:O):Option b6:=
 (ev c a ρ).bind λr=>match r with
  | .ins q ks l=>if decide (ks.length<=900)&&d6 ks then upd c a ρ (.ins q (upd.setFld ks l k o).1 (upd.setFld ks l k o).2)else ae
  | _=>ae
@[reducible] noncomputable def n4:=b6×Option T
noncomputable def fQ(body:b6->Option n4)(tg:List Nat):List T->b6->Option n4
 |[],ρ=>some (ρ,ae)
 | t::r,ρ=>(dz tg t ρ).bind λρ'=>(body ρ').bind λo=>match o.2 with
  | some v=>some (o.1,some v)
  | ae=>fQ body tg r o.1
noncomputable def qJ(test:b6->Option Bool)(body:b6->Option n4):Nat->b6->Option n4
 | 0,_=>ae
 | n+1,ρ=>(test ρ).bind λb=>if b then (body ρ).bind λo=>match o.2 with
   | some v=>some (o.1,some v)
   | ae=>qJ test body n o.1
  else some (ρ,ae)
noncomputable def jW:Nat:=1000
noncomputable def ex:S->b6->Option n4
 | .skip,ρ=>some (ρ,ae)
 | .seq a b,ρ=>(ex a ρ).bind λo=>match o.2 with
  | some v=>some (o.1,some v)
  | ae=>ex b o.1
 | .asg y e,ρ=>((ev c e ρ).bind O.t?).map λt=>(fO ρ y (.sh t),ae)
 | .asgO y e,ρ=>(uA c e ρ).map λo=>(fO ρ y o,ae)
 | .tupa ys e,ρ=>((ev c e ρ).bind O.t?).bind λt=>(dz ys t ρ).map λr=>(r,ae)
 | .setI a i e,ρ=>((ev c e ρ).bind O.t?).bind λt=>(Fy c a i ρ (.sh t)).map λr=>(r,ae)
 | .setA a k e,ρ=>((ev c e ρ).bind O.t?).bind λt=>(xI c a k ρ (.sh t)).map λr=>(r,ae)
 | .setAO a k e,ρ=>(uA c e ρ).bind λt=>(xI c a k ρ t).map λr=>(r,ae)
 | .aug y op e,ρ=>((get ρ y).bind O.t?).bind λx=>((ev c e ρ).bind O.t?).bind λt=>(nq op x t).map λv=>(fO ρ y (.sh v),ae)
 | .augI a i op e,ρ=>((ev c (.idx a i) ρ).bind O.t?).bind λx=>((ev c e ρ).bind O.t?).bind λt=>(nq op x t).bind λv=>(Fy c a i ρ (.sh v)).map λr=>(r,ae)
 | .augA a k op e,ρ=>((ev c (.attr a k) ρ).bind O.t?).bind λx=>((ev c e ρ).bind O.t?).bind λt=>(nq op x t).bind λv=>(xI c a k ρ (.sh v)).map λr=>(r,ae)
 | .iff q a b,ρ=>(tst c q ρ).bind λv=>if v then ex a ρ else ex b ρ
 | .forr tg src b,ρ=>(((ev c src ρ).bind O.t?).bind dg).bind λl=>fQ (ex b) tg l ρ
 | .whl q b,ρ=>qJ (tst c q) (ex b) jW ρ
 | .ret e,ρ=>((ev c e ρ).bind O.t?).map λt=>(ρ,some t)
 | .app a e,ρ=>(ev c a ρ).bind λr=>((ev c e ρ).bind O.t?).bind λt=>match r with
  | .lst l=>if l.length<=1000 then (upd c a ρ (.lst (l++[.sh t]))).map λr=>(r,ae)else ae
  | _=>ae
 | .ext y e,ρ=>(get ρ y).bind λr=>((ev c e ρ).bind O.t?).bind λt=>match r,t with
  | .lst l,.list m=>if l.length<=1000/\m.length<=1000 then some (fO ρ y (.lst (l++m.map .sh)),ae)else ae
  | _,_=>ae
 | .callIO f y a,ρ=>(get ρ y).bind λr=>(o7 c a ρ).bind λl=>(c.io f r l).map λo=>(fO ρ y o,ae)
 | .frz y,ρ=>(get ρ y).map λo=>(fO ρ y (.sh o.toT),ae)
end
structure Fn where
 n:Nat
 slots:Nat
 body:S
structure P5 where
 fn:Nat->Option Fn
 init:Nat->Option Fn
 io:Nat->Bool
noncomputable def ew(f:Fn)(l:List T):Option b6:=
 if l.length=f.n then some (l.map (λt=>some (.sh t))++aw (f.slots - f.n) ae)else ae
noncomputable def zK:n4->T:=λo=>match o.2 with | some t=>t | ae=> .none
noncomputable def bj(P:P5):Nat->d5
 | 0=>⟨λ_ _=>ae,λ_ _=>ae,λ_ _ _=>ae⟩
 | d+1=>{
   call:=λf l=>(P.fn f).bind λF=>(ew F l).bind λρ=>(ex (bj P d) F.body ρ).map zK
   new:=λk l=>(P.init k).bind λF=>(ew F (.none::l)).bind λρ=>(ex (bj P d) F.body (fO ρ 0 (.ins k [] []))).bind λo=>match o.2 with
    | ae=>get o.1 0
    | some _=>ae
   io:=λf r l=>if P.io f then (P.fn f).bind λF=>(ew F (.none::l)).bind λρ=>(ex (bj P d) F.body (fO ρ 0 r)).bind λo=>get o.1 0 else ae}
end
noncomputable def bY:List Str:=[aa "key",aa "files",aa "geo",aa "attacks",aa "span",aa "isolated",aa "doubled",aa "backward",aa "connected",aa "opposed",aa "passed",aa "candidates",aa "reaches",aa "king",aa "has_double",aa "file_masks",aa "rank_masks",aa "rays",aa "knight",aa "pawn",aa "side",aa "ranks",aa "size",aa "full",aa "has_castling",aa "castles",aa "rights_lost",aa "zob",aa "board",aa "kinds",aa "sides",aa "rights",aa "ep",aa "half",aa "history",aa "own",aa "by",aa "twice",aa "shields",aa "pieces"]
noncomputable def fR:List Str:=[aa "count_bits",aa "more_than_one",aa "highest",aa "lowest",aa "squares_of",aa "side_of",aa "kind_of",aa "direction",aa "between",aa "line",aa "is_growing",aa "ray_attacks",aa "rook_attacks",aa "bishop_attacks",aa "queen_attacks",aa "slider_attacks",aa "piece_attacks",aa "put_piece",aa "occupied",aa "pieces",aa "king_square",aa "straight_sliders",aa "slanting_sliders",aa "snipers_of",aa "blockers",aa "wrap_half",aa "divide",aa "make_score",aa "mg_of",aa "eg_of",aa "taper",aa "own_rank",aa "from_edge",aa "is_long_diagonal",aa "pawn_bonus",aa "knight_bonus",aa "bishop_bonus",aa "rook_bonus",aa "queen_bonus",aa "king_bonus",aa "square_bonus",aa "square_score",aa "pawns_of",aa "shift_up",aa "neighbours",aa "fill_up",aa "front_span",aa "attack_span",aa "pawn_attacks",aa "candidates_of",aa "pawn_facts",aa "connected_score",aa "one_pawn_score",aa "pawn_score",aa "nearest_rank",aa "shelter_file",aa "shelter",aa "rank_board",aa "seen_stops",aa "piece_reach",aa "attack_map",aa "attack_maps",aa "area_of",aa "mobility_bonus",aa "mobility_score",aa "off_edge",aa "king_ring",aa "guarded_ring",aa "ring_attackers",aa "weak_squares",aa "check_danger",aa "flank_files",aa "flank_squares",aa "storm_count",aa "king_danger",aa "king_score",aa "count_of",aa "counts_of",aa "worth_of",aa "phase_of",aa "imbalance",aa "light_squares",aa "has_opposite_bishops",aa "scale_factor",aa "strong_side",aa "strongly_held",aa "enemy_officers",aa "weak_pieces",aa "hanging_pieces",aa "lesser_targets",aa "restricted_squares",aa "pawn_hits",aa "safe_squares",aa "safe_pushes",aa "queen_threats",aa "sum_threats",aa "threat_score",aa "space_area",aa "space",aa "blocked_pawns",aa "space_score",aa "clamp",aa "piece_score",aa "side_terms",aa "terms",aa "term_sums",aa "complexity",aa "nudge_value",aa "taper_value",aa "white_value",aa "mover_value",aa "evaluate",aa "score_cell",aa "trace_text",aa "_law_names",aa "_law_ways",aa "_law_geometry",aa "_law_turned",aa "_law_board",aa "_law_position",aa "_law_halves",aa "_law_cut",aa "_law_worth",aa "_law_passed",aa "_law_drive",aa "_law_push",aa "_law_scale",aa "_law_white",aa "_law_cell",aa "_law_wired",aa "law"]
noncomputable def jw:List Str:=[aa "Geometry",aa "Position",aa "PawnFacts",aa "AttackMap",aa "Zobrist"]
section
def QH(f:Lean.Name)(l:List (Lean.TSyntax `term)):Lean.TSyntax `term:=Lean.Syntax.mkApp (Lean.mkCIdent f) l.toArray
def Ji(f o:Lean.Name)(a b:Lean.TSyntax `term):Lean.TSyntax `term:=QH f [Lean.mkCIdent o,a,b]
def Uk(f o:Lean.Name)(a:Array (Lean.TSyntax `term)):Lean.TSyntax `term:=a.foldr (λx r=>QH f [x,r]) (Lean.mkCIdent o)
local macro_rules | `(#[$n]) => pure (QH ``X.var [n])
local macro_rules | `(↑$n) => pure (QH ``X.lit [QH ``T.int [n]])
local macro_rules | `(⇑$n) => pure (QH ``T.int [n])
local macro_rules | `(#v[$a,*]) => pure (Uk ``X.cons ``X.nil a)
local macro_rules | `(⟨$a,*⟩) => pure (Uk ``S.seq ``S.skip a)
local macro_rules | `($a ^ $b) => pure (QH ``X.attr [a, b])
local macro_rules | `($a ++ $b) => pure (QH ``X.idx [a, b])
local macro_rules | `($a + $b) => pure (Ji ``X.bin ``n6.add a b)
local macro_rules | `($a - $b) => pure (Ji ``X.bin ``n6.sub a b)
local macro_rules | `($a * $b) => pure (Ji ``X.bin ``n6.mul a b)
local macro_rules | `($a / $b) => pure (Ji ``X.bin ``n6.fdv a b)
local macro_rules | `($a % $b) => pure (Ji ``X.bin ``n6.mod a b)
local macro_rules | `($a <<< $b) => pure (Ji ``X.bin ``n6.shl a b)
local macro_rules | `($a >>> $b) => pure (Ji ``X.bin ``n6.shr a b)
local macro_rules | `($a &&& $b) => pure (Ji ``X.bin ``n6.and a b)
local macro_rules | `($a ||| $b) => pure (Ji ``X.bin ``n6.or a b)
local macro_rules | `($a ^^^ $b) => pure (Ji ``X.bin ``n6.xor a b)
local macro_rules | `($a = $b) => pure (Ji ``X.cmp ``zF.eq a b)
local macro_rules | `($a ≠ $b) => pure (Ji ``X.cmp ``zF.ne a b)
local macro_rules | `($a < $b) => pure (Ji ``X.cmp ``zF.lt a b)
local macro_rules | `($a <= $b) => pure (Ji ``X.cmp ``zF.le a b)
local macro_rules | `($a > $b) => pure (Ji ``X.cmp ``zF.gt a b)
local macro_rules | `($a >= $b) => pure (Ji ``X.cmp ``zF.ge a b)
noncomputable def jF:Fn:= .mk 1 2 ⟨.asg 1 ↑0,.whl #[0] ⟨.aug 0 .and (#[0]-↑1),.aug 1 .add ↑1⟩,.ret #[1]⟩
noncomputable def qo:Fn:= .mk 1 1 ⟨.ret ((#[0]&&&(#[0]-↑1))≠↑0)⟩
noncomputable def Eb:Fn:= .mk 1 3 ⟨.iff (#[0]=↑0) ⟨.ret (.neg ↑1)⟩ .skip,.asg 1 ↑1,.whl (#[0]>>>#[1]) ⟨.aug 1 .mul ↑2⟩,.asg 2 ↑0,.whl (#[1]>↑1) ⟨.aug 1 .fdv ↑2,.iff (#[0]>>>#[1]) ⟨.aug 0 .shr #[1],.aug 2 .add #[1]⟩ .skip⟩,.ret #[2]⟩
noncomputable def sZ:Fn:= .mk 1 1 ⟨.ret (.call 2 #v[#[0]&&&(.neg #[0])])⟩
noncomputable def jD:Fn:= .mk 1 3 ⟨.asgO 1 (.list .nil),.asg 2 ↑0,.whl #[0] ⟨.whl (.nott (#[0]&&&↑15)) ⟨.aug 0 .shr ↑4,.aug 2 .add ↑4⟩,.iff (#[0]&&&↑1) ⟨.app #[1] #[2]⟩ .skip,.aug 0 .shr ↑1,.aug 2 .add ↑1⟩,.frz 1,.ret #[1]⟩
noncomputable def uN:Fn:= .mk 1 1 ⟨.ret (#[0]>>>↑3)⟩
noncomputable def uP:Fn:= .mk 1 1 ⟨.ret (#[0]&&&↑7)⟩
noncomputable def kD:Fn:= .mk 3 4 ⟨.forr [3] (.bi .range #v[↑8]) ⟨.iff (((((#[0]^17)++#[3])++#[1])>>>#[2])&&&↑1) ⟨.ret #[3]⟩ .skip⟩,.ret (.neg ↑1)⟩
noncomputable def pe:Fn:= .mk 3 4 ⟨.asg 3 (.call 7 #v[#[0],#[1],#[2]]),.iff (#[3]<↑0) ⟨.ret ↑0⟩ .skip,.ret ((((#[0]^17)++#[3])++#[1])&&&(((#[0]^17)++(#[3]^^^↑2))++#[2]))⟩
noncomputable def Bl:Fn:= .mk 3 4 ⟨.asg 3 (.call 7 #v[#[0],#[1],#[2]]),.iff (#[3]<↑0) ⟨.ret ↑0⟩ .skip,.ret (((((#[0]^17)++#[3])++#[1])|||(((#[0]^17)++(#[3]^^^↑2))++#[1]))|||(↑1<<<#[1]))⟩
noncomputable def v_:Fn:= .mk 1 1 ⟨.ret (.orr (((.glob "STEP_RANKS" (.tup [⇑1,⇑0,⇑(-1),⇑0,⇑1,⇑(-1),⇑(-1),⇑1]))++#[0])>↑0) (#[0]=↑1))⟩
noncomputable def gf:Fn:= .mk 4 7 ⟨.asg 4 (((#[0]^17)++#[1])++#[2]),.asg 5 (#[4]&&&#[3]),.iff (#[5]=↑0) ⟨.ret #[4]⟩ .skip,.iff (.call 10 #v[#[1]]) ⟨.ret (#[4]&&&(#[5]^^^(#[5]-↑1)))⟩ .skip,.asg 6 (#[5]>>>↑1),.aug 6 .or (#[6]>>>↑1),.aug 6 .or (#[6]>>>↑2),.aug 6 .or (#[6]>>>↑4),.aug 6 .or (#[6]>>>↑8),.aug 6 .or (#[6]>>>↑16),.aug 6 .or (#[6]>>>↑32),.ret (#[4]&&&(.inv #[6]))⟩
noncomputable def kr:Fn:= .mk 3 5 ⟨.asg 3 ↑0,.forr [4] (.bi .range #v[↑4]) ⟨.aug 3 .or (.call 11 #v[#[0],#[4],#[1],#[2]])⟩,.ret #[3]⟩
noncomputable def jf:Fn:= .mk 3 5 ⟨.asg 3 ↑0,.forr [4] (.bi .range #v[↑4,↑8]) ⟨.aug 3 .or (.call 11 #v[#[0],#[4],#[1],#[2]])⟩,.ret #[3]⟩
noncomputable def qm:Fn:= .mk 3 3 ⟨.ret ((.call 12 #v[#[0],#[1],#[2]])|||(.call 13 #v[#[0],#[1],#[2]]))⟩
noncomputable def oW:Fn:= .mk 4 4 ⟨.iff (#[1]=(.glob "BISHOP" ⇑3)) ⟨.ret (.call 13 #v[#[0],#[2],#[3]])⟩ .skip,.iff (#[1]=(.glob "ROOK" ⇑4)) ⟨.ret (.call 12 #v[#[0],#[2],#[3]])⟩ .skip,.iff (#[1]=(.glob "QUEEN" ⇑5)) ⟨.ret (.call 14 #v[#[0],#[2],#[3]])⟩ .skip,.ret ↑0⟩
noncomputable def qn:Fn:= .mk 5 5 ⟨.iff (#[2]=(.glob "PAWN" ⇑1)) ⟨.ret (((#[0]^19)++#[1])++#[3])⟩ .skip,.iff (#[2]=(.glob "KNIGHT" ⇑2)) ⟨.ret ((#[0]^18)++#[3])⟩ .skip,.iff (#[2]=(.glob "KING" ⇑6)) ⟨.ret ((#[0]^13)++#[3])⟩ .skip,.ret (.call 15 #v[#[0],#[2],#[3],#[4]])⟩
noncomputable def kC:Fn:= .mk 3 4 ⟨.asg 3 (↑1<<<#[2]),.setI (#[0]^28) #[2] #[1],.augI (#[0]^29) (.call 6 #v[#[1]]) .or #[3],.augI (#[0]^30) (.call 5 #v[#[1]]) .or #[3],.augA #[0] 0 .xor ((((#[0]^27)^39)++#[1])++#[2])⟩
noncomputable def rV:Fn:= .mk 1 1 ⟨.ret (((#[0]^30)++(.glob "WHITE" ⇑0))|||((#[0]^30)++(.glob "BLACK" ⇑1)))⟩
noncomputable def yL:Fn:= .mk 3 3 ⟨.ret (((#[0]^30)++#[1])&&&((#[0]^29)++#[2]))⟩
noncomputable def lZ:Fn:= .mk 2 2 ⟨.ret (.call 3 #v[((#[0]^30)++#[1])&&&((#[0]^29)++(.glob "KING" ⇑6))])⟩
noncomputable def mn:Fn:= .mk 1 1 ⟨.ret (((#[0]^29)++(.glob "ROOK" ⇑4))|||((#[0]^29)++(.glob "QUEEN" ⇑5)))⟩
noncomputable def mo:Fn:= .mk 1 1 ⟨.ret (((#[0]^29)++(.glob "BISHOP" ⇑3))|||((#[0]^29)++(.glob "QUEEN" ⇑5)))⟩
noncomputable def vY:Fn:= .mk 2 4 ⟨.asg 2 (.call 20 #v[#[0],#[1]]),.asg 3 ((.call 12 #v[#[0]^2,#[2],↑0])&&&(.call 21 #v[#[0]])),.aug 3 .or ((.call 13 #v[#[0]^2,#[2],↑0])&&&(.call 22 #v[#[0]])),.ret (#[3]&&&((#[0]^30)++(↑1-#[1])))⟩
noncomputable def Az:Fn:= .mk 2 9 ⟨.asg 2 (.call 20 #v[#[0],#[1]]),.asg 3 (.call 23 #v[#[0],#[1]]),.asg 4 ((((#[0]^30)++(.glob "WHITE" ⇑0))|||((#[0]^30)++(.glob "BLACK" ⇑1)))^^^#[3]),.asg 5 ↑0,.asg 6 ↑0,.forr [7] (.call 4 #v[#[3]]) ⟨.asg 8 ((.call 8 #v[#[0]^2,#[2],#[7]])&&&#[4]),.iff (.andd #[8] (.nott (.call 1 #v[#[8]]))) ⟨.aug 5 .or #[8],.iff (#[8]&&&((#[0]^30)++#[1])) ⟨.aug 6 .or (↑1<<<#[7])⟩ .skip⟩ .skip⟩,.ret (.tup #v[#[5],#[6]])⟩
noncomputable def pE:Fn:= .mk 1 1 ⟨.ret (((#[0]+(.glob "HALF" ⇑32768))&&&((.glob "WORD" ⇑65536)-↑1))-(.glob "HALF" ⇑32768))⟩
noncomputable def yM:Fn:= .mk 2 3 ⟨.asg 2 ((.bi .abs #v[#[0]])/(.bi .abs #v[#[1]])),.iff ((#[0]<↑0)≠(#[1]<↑0)) ⟨.ret (.neg #[2])⟩ .skip,.ret #[2]⟩
noncomputable def ny:Fn:= .mk 2 2 ⟨.ret ((#[1]<<<↑16)+#[0])⟩
noncomputable def Cw:Fn:= .mk 1 1 ⟨.ret (.call 25 #v[#[0]])⟩
noncomputable def Cy:Fn:= .mk 1 1 ⟨.ret (.call 25 #v[(#[0]+(.glob "HALF" ⇑32768))>>>↑16])⟩
noncomputable def Cv:Fn:= .mk 4 5 ⟨.asg 4 (.call 26 #v[(#[1]*((.glob "PHASE_FULL" ⇑128)-#[2]))*#[3],.glob "SCALE_NORMAL" ⇑64]),.ret (.call 26 #v[(#[0]*#[2])+#[4],.glob "PHASE_FULL" ⇑128])⟩
noncomputable def mF:Fn:= .mk 3 4 ⟨.asg 3 (#[2]/(#[0]^1)),.ret (.ite (#[1]=(.glob "WHITE" ⇑0)) #[3] (((#[0]^21)-↑1)-#[3]))⟩
noncomputable def x8:Fn:= .mk 2 2 ⟨.ret (.bi .min #v[#[0],(#[1]-↑1)-#[0]])⟩
noncomputable def mq:Fn:= .mk 3 3 ⟨.ret (.orr (#[1]=#[2]) ((#[1]+#[2])=((#[0]^1)-↑1)))⟩
noncomputable def v7:Fn:= .mk 2 2 ⟨.ret (.tup #v[((↑4*#[0])+((↑2*#[0])*(#[1]-↑1)))-↑8,(↑7*(#[1]-↑1))-(↑3*#[0])])⟩
noncomputable def q8:Fn:= .mk 2 3 ⟨.asg 2 (.ite (.orr (#[0]=↑0) (#[1]=↑0)) ↑30 ↑0),.ret (.tup #v[((↑20*(#[0]+#[1]))-↑66)-#[2],((↑15*(#[0]+#[1]))-↑54)-#[2]])⟩
noncomputable def q_:Fn:= .mk 3 3 ⟨.ret (.tup #v[((↑8*(#[0]+#[1]))-↑18)+(.ite #[2] ↑14 ↑0),(↑7*(#[0]+#[1]))-↑24])⟩
noncomputable def v4:Fn:= .mk 3 4 ⟨.asg 3 (.ite (#[2]=(#[0]-↑2)) ↑14 ↑0),.ret (.tup #v[((↑6*#[1])-↑15)+#[3],((↑2*#[2])-↑6)+#[3]])⟩
noncomputable def t_:Fn:= .mk 2 2 ⟨.ret (.tup #v[(↑3*(.bi .min #v[#[0],#[1]]))-↑2,(↑12*(#[0]+#[1]))-↑40])⟩
noncomputable def v9:Fn:= .mk 3 3 ⟨.ret (.tup #v[(↑270-(↑40*#[0]))-(↑55*#[1]),(↑14*(#[0]+#[2]))+(↑30*(.bi .min #v[#[0],#[2]]))])⟩
noncomputable def q4:Fn:= .mk 4 8 ⟨.asg 4 (#[3]%(#[0]^1)),.asg 5 (.call 31 #v[#[0],#[1],#[3]]),.asg 6 (.call 32 #v[#[4],#[0]^1]),.asg 7 (.call 32 #v[#[5],#[0]^21]),.iff (#[2]=(.glob "PAWN" ⇑1)) ⟨.ret (.call 34 #v[#[6],#[5]])⟩ .skip,.iff (#[2]=(.glob "KNIGHT" ⇑2)) ⟨.ret (.call 35 #v[#[6],#[7]])⟩ .skip,.iff (#[2]=(.glob "BISHOP" ⇑3)) ⟨.ret (.call 36 #v[#[6],#[7],.call 33 #v[#[0],#[4],#[5]]])⟩ .skip,.iff (#[2]=(.glob "ROOK" ⇑4)) ⟨.ret (.call 37 #v[#[0]^21,#[6],#[5]])⟩ .skip,.iff (#[2]=(.glob "QUEEN" ⇑5)) ⟨.ret (.call 38 #v[#[6],#[7]])⟩ .skip,.ret (.call 39 #v[#[6],#[5],#[7]])⟩
noncomputable def qZ:Fn:= .mk 3 6 ⟨.asg 3 (.call 6 #v[#[1]]),.tupa [4,5] (.call 40 #v[#[0],.call 5 #v[#[1]],#[3],#[2]]),.ret (.call 27 #v[(((.glob "PIECE_VALUES" (.list [.tup [⇑0,⇑0],.tup [⇑126,⇑208],.tup [⇑781,⇑854],.tup [⇑825,⇑915],.tup [⇑1276,⇑1380],.tup [⇑2538,⇑2682],.tup [⇑0,⇑0]]))++#[3])++↑0)+#[4],(((.glob "PIECE_VALUES" (.list [.tup [⇑0,⇑0],.tup [⇑126,⇑208],.tup [⇑781,⇑854],.tup [⇑825,⇑915],.tup [⇑1276,⇑1380],.tup [⇑2538,⇑2682],.tup [⇑0,⇑0]]))++#[3])++↑1)+#[5]])⟩
noncomputable def rU:Fn:= .mk 2 2 ⟨.ret (((#[0]^29)++(.glob "PAWN" ⇑1))&&&((#[0]^30)++#[1]))⟩
noncomputable def mE:Fn:= .mk 3 3 ⟨.iff (#[2]=(.glob "WHITE" ⇑0)) ⟨.ret ((#[1]<<<(#[0]^1))&&&(#[0]^23))⟩ .skip,.ret (#[1]>>>(#[0]^1))⟩
noncomputable def nx:Fn:= .mk 2 4 ⟨.asg 2 ((#[1]&&&(.inv ((#[0]^15)++((#[0]^1)-↑1))))<<<↑1),.asg 3 ((#[1]&&&(.inv ((#[0]^15)++↑0)))>>>↑1),.ret ((#[2]|||#[3])&&&(#[0]^23))⟩
noncomputable def uQ:Fn:= .mk 3 4 ⟨.asg 3 (#[0]^1),.whl (#[3]<(#[0]^22)) ⟨.iff (#[2]=(.glob "WHITE" ⇑0)) ⟨.aug 1 .or ((#[1]<<<#[3])&&&(#[0]^23))⟩ ⟨.aug 1 .or (#[1]>>>#[3])⟩,.aug 3 .add #[3]⟩,.ret #[1]⟩
noncomputable def nE:Fn:= .mk 3 3 ⟨.ret (.call 43 #v[#[0],.call 45 #v[#[0],#[1],#[2]],#[2]])⟩
noncomputable def l8:Fn:= .mk 3 3 ⟨.ret (.call 46 #v[#[0],.call 44 #v[#[0],#[1]],#[2]])⟩
noncomputable def kt:Fn:= .mk 3 3 ⟨.ret (.call 43 #v[#[0],.call 44 #v[#[0],#[1]],#[2]])⟩
noncomputable def qt:Fn:= .mk 4 10 ⟨.asg 4 ↑0,.forr [5] (.call 4 #v[#[1]]) ⟨.asg 6 (↑1<<<#[5]),.asg 7 (.call 44 #v[#[0],#[6]]),.asg 8 (.call 0 #v[#[1]&&&(.call 45 #v[#[0],#[7],↑1-#[3]])]),.asg 9 (.call 0 #v[#[2]&&&(.call 46 #v[#[0],#[7],#[3]])]),.iff (#[8]>=#[9]) ⟨.aug 4 .or #[6]⟩ .skip⟩,.ret #[4]⟩
noncomputable def nw:Fn:= .mk 2 10 ⟨.asg 2 (#[0]^2),.asg 3 (.call 42 #v[#[0],#[1]]),.asg 4 (.call 42 #v[#[0],↑1-#[1]]),.asg 5 (.call 44 #v[#[2],#[3]]),.asgO 6 (.new 2 #v[#[3]]),.setA #[6] 3 (.call 43 #v[#[2],#[5],#[1]]),.setA #[6] 4 (.call 46 #v[#[2],#[5],#[1]]),.setA #[6] 5 (#[3]&&&(.inv ((.call 45 #v[#[2],#[5],.glob "WHITE" ⇑0])|||(.call 45 #v[#[2],#[5],.glob "BLACK" ⇑1])))),.setA #[6] 6 (#[3]&&&(.call 46 #v[#[2],#[3],↑1-#[1]])),.asg 7 (.call 45 #v[#[2],#[5],#[1]]),.asg 8 (#[4]|||(.call 48 #v[#[2],#[4],↑1-#[1]])),.setA #[6] 7 (((#[3]&&&(.inv #[7]))&&&(.inv (#[6]^5)))&&&(.call 43 #v[#[2],#[8],↑1-#[1]])),.setA #[6] 8 (#[3]&&&(#[5]|||(#[6]^3))),.setA #[6] 9 (#[3]&&&(.call 46 #v[#[2],#[4],↑1-#[1]])),.setA #[6] 10 (((#[3]&&&(.inv (#[6]^6)))&&&(.inv (#[6]^9)))&&&(.inv (.call 47 #v[#[2],#[4],↑1-#[1]]))),.asg 9 (((#[3]&&&(.inv (#[6]^6)))&&&(.inv (#[6]^9)))&&&(.inv (#[6]^10))),.setA #[6] 11 ((.call 49 #v[#[2],#[3],#[4],#[1]])&&&#[9]),.frz 6,.ret #[6]⟩
noncomputable def mR:Fn:= .mk 4 11 ⟨.asg 4 (↑1<<<#[2]),.asg 5 (.call 31 #v[#[0],#[3],#[2]]),.asg 6 (.call 44 #v[#[0],#[4]]),.asg 7 (.ite (#[6]&&&(#[1]^35)) ↑1 ↑0),.asg 8 (.ite (#[4]&&&(#[1]^9)) ↑1 ↑0),.asg 9 (.call 0 #v[(.call 43 #v[#[0],#[6],↑1-#[3]])&&&(#[1]^35)]),.asg 10 ((((↑3*#[5])+↑2)*((↑2+#[7])-#[8]))+(↑9*#[9])),.ret (.call 27 #v[#[10],.call 26 #v[#[10]*(#[5]-↑2),↑4]])⟩
noncomputable def oY:Fn:= .mk 4 8 ⟨.asg 4 (↑1<<<#[2]),.asg 5 (.call 31 #v[#[0],#[3],#[2]]),.asg 6 (.ite (#[4]&&&(#[1]^9)) ↑0 ↑1),.asg 7 ↑0,.iff (#[4]&&&(#[1]^8)) ⟨.aug 7 .add (.call 51 #v[#[0],#[1],#[2],#[3]])⟩ .skip,.iff (#[4]&&&(#[1]^5)) ⟨.aug 7 .sub (.call 27 #v[↑5+(↑12*#[6]),↑15+(↑11*#[6])])⟩ .skip,.iff (#[4]&&&(#[1]^7)) ⟨.aug 7 .sub (.call 27 #v[↑9+(↑12*#[6]),↑24+(↑11*#[6])])⟩ .skip,.iff (#[4]&&&(#[1]^6)) ⟨.aug 7 .sub (.call 27 #v[↑11,↑50])⟩ .skip,.iff (#[4]&&&(#[1]^10)) ⟨.aug 7 .add (.call 27 #v[(↑4*#[5])*#[5],((↑6*#[5])*#[5])+(↑5*#[5])])⟩ .skip,.iff (#[4]&&&(#[1]^11)) ⟨.aug 7 .add (.call 27 #v[↑2*#[5],↑5*#[5]])⟩ .skip,.ret #[7]⟩
noncomputable def v6:Fn:= .mk 2 5 ⟨.asg 2 (.call 50 #v[#[0],#[1]]),.asg 3 ↑0,.forr [4] (.call 4 #v[#[2]^35]) ⟨.aug 3 .add (.call 52 #v[#[0]^2,#[2],#[4],#[1]])⟩,.ret #[3]⟩
noncomputable def ku:Fn:= .mk 4 7 ⟨.asg 4 ↑0,.forr [5] (.call 4 #v[#[1]]) ⟨.asg 6 (.call 31 #v[#[0],#[2],#[5]]),.iff (.andd (#[6]>=#[3]) (.orr (#[4]=↑0) (#[6]<#[4]))) ⟨.asg 4 #[6]⟩ .skip⟩,.ret #[4]⟩
noncomputable def q5:Fn:= .mk 3 4 ⟨.asg 3 (.ite #[0] (.call 27 #v[(↑60-(↑14*#[0]))+(↑4*#[2]),↑0]) (.call 27 #v[(.neg ↑12)-(↑5*#[2]),↑0])),.iff (.andd #[0] (#[1]=(#[0]+↑1))) ⟨.ret (#[3]-(.call 27 #v[.bi .max #v[↑0,↑30-(↑6*#[1])],.bi .max #v[↑0,↑40-(↑9*#[1])]]))⟩ .skip,.iff #[1] ⟨.ret (#[3]-(.call 27 #v[.bi .max #v[↑0,(↑70-(↑12*#[1]))-(↑4*#[2])],↑0]))⟩ .skip,.ret #[3]⟩
noncomputable def Ea:Fn:= .mk 2 10 ⟨.asg 2 (#[0]^2),.asg 3 (.call 3 #v[((#[0]^29)++(.glob "KING" ⇑6))&&&((#[0]^30)++#[1])]),.asg 4 (.call 31 #v[#[2],#[1],#[3]]),.asg 5 (#[3]%(#[2]^1)),.iff ((#[2]^1)>↑2) ⟨.asg 5 (.bi .min #v[.bi .max #v[#[5],↑1],(#[2]^1)-↑2])⟩ .skip,.asg 6 ↑0,.forr [7] (.bi .range #v[.bi .max #v[#[5]-↑1,↑0],(.bi .min #v[#[5]+↑1,(#[2]^1)-↑1])+↑1]) ⟨.asg 8 (.call 54 #v[#[2],(.call 42 #v[#[0],#[1]])&&&((#[2]^15)++#[7]),#[1],#[4]]),.asg 9 (.call 54 #v[#[2],(.call 42 #v[#[0],↑1-#[1]])&&&((#[2]^15)++#[7]),#[1],#[4]]),.aug 6 .add (.call 55 #v[#[8],#[9],.call 32 #v[#[7],#[2]^1]])⟩,.ret #[6]⟩
noncomputable def jE:Fn:= .mk 3 3 ⟨.iff (#[1]=(.glob "WHITE" ⇑0)) ⟨.ret ((#[0]^16)++#[2])⟩ .skip,.ret ((#[0]^16)++(((#[0]^21)-↑1)-#[2]))⟩
noncomputable def vZ:Fn:= .mk 3 4 ⟨.asg 3 (.call 18 #v[#[0]]),.iff (.orr (#[2]=(.glob "BISHOP" ⇑3)) (#[2]=(.glob "ROOK" ⇑4))) ⟨.aug 3 .and (.inv ((#[0]^29)++(.glob "QUEEN" ⇑5)))⟩ .skip,.iff (#[2]=(.glob "ROOK" ⇑4)) ⟨.aug 3 .and (.inv (.call 19 #v[#[0],#[1],.glob "ROOK" ⇑4]))⟩ .skip,.ret #[3]⟩
noncomputable def ua:Fn:= .mk 5 6 ⟨.asg 5 (.call 16 #v[#[0]^2,#[1],#[2],#[3],.call 58 #v[#[0],#[1],#[2]]]),.iff (.andd (#[2]≠(.glob "PAWN" ⇑1)) (.andd (#[2]≠(.glob "KING" ⇑6)) ((#[4]>>>#[3])&&&↑1))) ⟨.aug 5 .and (.call 9 #v[#[0]^2,.call 20 #v[#[0],#[1]],#[3]])⟩ .skip,.ret #[5]⟩
noncomputable def nG:Fn:= .mk 2 9 ⟨.asg 2 ((.call 24 #v[#[0],#[1]])++↑0),.asgO 3 ((.list #v[↑0])*↑7),.asg 4 ↑0,.asgO 5 (.list .nil),.forr [6] (.tup #v[.glob "PAWN" ⇑1,.glob "KNIGHT" ⇑2,.glob "BISHOP" ⇑3,.glob "ROOK" ⇑4,.glob "QUEEN" ⇑5,.glob "KING" ⇑6]) ⟨.forr [7] (.call 4 #v[.call 19 #v[#[0],#[1],#[6]]]) ⟨.asg 8 (.call 59 #v[#[0],#[1],#[6],#[7],#[2]]),.aug 4 .or ((#[3]++↑0)&&&#[8]),.augI #[3] #[6] .or #[8],.augI #[3] ↑0 .or #[8],.iff (.andd (#[6]≠(.glob "PAWN" ⇑1)) (#[6]≠(.glob "KING" ⇑6))) ⟨.app #[5] (.tup #v[#[6],#[8]])⟩ .skip⟩⟩,.frz 5,.frz 3,.ret (.new 3 #v[.call 20 #v[#[0],#[1]],#[3],#[4],#[5],#[2]])⟩
noncomputable def l9:Fn:= .mk 1 1 ⟨.ret (.list #v[.call 60 #v[#[0],.glob "WHITE" ⇑0],.call 60 #v[#[0],.glob "BLACK" ⇑1]])⟩
noncomputable def Ec:Fn:= .mk 3 6 ⟨.asg 3 (#[0]^2),.asg 4 ((.call 57 #v[#[3],#[1],↑1])|||(.call 57 #v[#[3],#[1],↑2])),.asg 5 ((.call 19 #v[#[0],#[1],.glob "PAWN" ⇑1])&&&(#[4]|||(.call 43 #v[#[3],.call 18 #v[#[0]],↑1-#[1]]))),.aug 5 .or (((.call 19 #v[#[0],#[1],.glob "KING" ⇑6])|||(.call 19 #v[#[0],#[1],.glob "QUEEN" ⇑5]))|||#[2]),.ret (((#[3]^23)&&&(.inv #[5]))&&&(.inv (.call 48 #v[#[3],.call 19 #v[#[0],↑1-#[1],.glob "PAWN" ⇑1],↑1-#[1]])))⟩
noncomputable def o3:Fn:= .mk 2 10 ⟨.tupa [2,3,4,5,6] ((.glob "MOBILITY_ENDS" (.list [.none,.none,.tup [⇑(-62),⇑33,⇑(-79),⇑27,⇑8],.tup [⇑(-47),⇑97,⇑(-59),⇑88,⇑13],.tup [⇑(-60),⇑62,⇑(-82),⇑170,⇑14],.tup [⇑(-29),⇑112,⇑(-49),⇑204,⇑27]]))++#[0]),.asg 7 (#[1]*((↑2*#[6])-#[1])),.asg 8 (#[2]+(((#[3]-#[2])*#[7])/(#[6]*#[6]))),.asg 9 (#[4]+(((#[5]-#[4])*#[7])/(#[6]*#[6]))),.ret (.call 27 #v[#[8],#[9]])⟩
noncomputable def oZ:Fn:= .mk 3 7 ⟨.asg 3 (.call 62 #v[#[0],#[1],(#[2]++#[1])^38]),.asg 4 ↑0,.forr [5,6] ((#[2]++#[1])^12) ⟨.aug 4 .add (.call 63 #v[#[5],.call 0 #v[#[6]&&&#[3]]])⟩,.ret #[4]⟩
noncomputable def Ax:Fn:= .mk 2 2 ⟨.iff (#[1]<↑3) ⟨.ret #[0]⟩ .skip,.ret (.bi .min #v[.bi .max #v[#[0],↑1],#[1]-↑2])⟩
noncomputable def xY:Fn:= .mk 2 3 ⟨.asg 2 (((.call 65 #v[#[1]/(#[0]^1),#[0]^21])*(#[0]^1))+(.call 65 #v[#[1]%(#[0]^1),#[0]^1])),.ret (((#[0]^13)++#[2])|||(↑1<<<#[2]))⟩
noncomputable def ky:Fn:= .mk 3 6 ⟨.asg 3 ↑0,.asg 4 ↑0,.forr [5] (.call 4 #v[.call 19 #v[#[0],#[1],.glob "PAWN" ⇑1]]) ⟨.aug 4 .or (#[3]&&&((((#[0]^2)^19)++#[1])++#[5])),.aug 3 .or ((((#[0]^2)^19)++#[1])++#[5])⟩,.ret ((.call 66 #v[#[0]^2,#[2]])&&&(.inv #[4]))⟩
noncomputable def oX:Fn:= .mk 4 11 ⟨.asg 4 (#[2]++(↑1-#[1])),.asg 5 (((#[2]++#[1])^36)++(.glob "KING" ⇑6)),.asg 6 (.call 0 #v[(.call 66 #v[#[0],(#[2]++#[1])^13])&&&((#[4]^36)++(.glob "PAWN" ⇑1))]),.asg 7 ↑0,.asg 8 ↑0,.forr [9,10] (#[4]^12) ⟨.iff (#[10]&&&#[3]) ⟨.aug 6 .add ↑1,.aug 7 .add ((.glob "RING_WEIGHTS" (.list [⇑0,⇑0,⇑81,⇑52,⇑44,⇑10,⇑0]))++#[9]),.aug 8 .add (.call 0 #v[#[10]&&&#[5]])⟩ .skip⟩,.ret (.tup #v[#[6],#[7],#[8]])⟩
noncomputable def qX:Fn:= .mk 2 3 ⟨.asg 2 (#[1]++#[0]),.ret (((((#[1]++(↑1-#[0]))^36)++↑0)&&&(.inv (#[2]^37)))&&&(((.inv ((#[2]^36)++↑0))|||((#[2]^36)++(.glob "KING" ⇑6)))|||((#[2]^36)++(.glob "QUEEN" ⇑5))))⟩
noncomputable def q9:Fn:= .mk 3 16 ⟨.asg 3 (#[0]^2),.asg 4 (#[2]++#[1]),.asg 5 (#[2]++(↑1-#[1])),.asg 6 (#[4]^13),.asg 7 ((.call 18 #v[#[0]])&&&(.inv (.call 19 #v[#[0],#[1],.glob "QUEEN" ⇑5]))),.asg 8 (.call 12 #v[#[3],#[6],#[7]]),.asg 9 (.call 13 #v[#[3],#[6],#[7]]),.asg 10 (((#[3]^23)&&&(.inv ((#[0]^30)++(↑1-#[1]))))&&&((.inv ((#[4]^36)++↑0))|||((.call 69 #v[#[1],#[2]])&&&(#[5]^37)))),.asgO 11 ((.list #v[↑0])*↑7),.setI #[11] (.glob "KNIGHT" ⇑2) (((#[3]^18)++#[6])&&&((#[5]^36)++(.glob "KNIGHT" ⇑2))),.setI #[11] (.glob "BISHOP" ⇑3) (#[9]&&&((#[5]^36)++(.glob "BISHOP" ⇑3))),.setI #[11] (.glob "ROOK" ⇑4) (#[8]&&&((#[5]^36)++(.glob "ROOK" ⇑4))),.setI #[11] (.glob "QUEEN" ⇑5) (((((#[8]|||#[9])&&&((#[5]^36)++(.glob "QUEEN" ⇑5)))&&&#[10])&&&(.inv ((#[4]^36)++(.glob "QUEEN" ⇑5))))&&&(.inv ((#[11]++(.glob "ROOK" ⇑4))&&&#[10]))),.asg 12 ↑0,.asg 13 ↑0,.forr [14] (.tup #v[.glob "KNIGHT" ⇑2,.glob "BISHOP" ⇑3,.glob "ROOK" ⇑4,.glob "QUEEN" ⇑5]) ⟨.asg 15 ((#[11]++#[14])&&&#[10]),.iff (#[14]=(.glob "BISHOP" ⇑3)) ⟨.aug 15 .and (.inv (#[11]++(.glob "QUEEN" ⇑5)))⟩ .skip,.iff #[15] ⟨.aug 12 .add (((.glob "SAFE_CHECKS" (.list [.none,.none,.tup [⇑803,⇑1292],.tup [⇑639,⇑974],.tup [⇑1087,⇑1878],.tup [⇑759,⇑1132]]))++#[14])++(.ite (.call 1 #v[#[15]]) ↑1 ↑0))⟩ ⟨.aug 13 .or (#[11]++#[14])⟩⟩,.ret (.tup #v[#[12],#[13]])⟩
noncomputable def ud:Fn:= .mk 2 4 ⟨.asg 2 ↑0,.forr [3] (.bi .range #v[#[0]^1]) ⟨.iff ((.bi .abs #v[#[3]-(#[1]%(#[0]^1))])<=↑2) ⟨.aug 2 .or ((#[0]^15)++#[3])⟩ .skip⟩,.ret #[2]⟩
noncomputable def qr:Fn:= .mk 3 5 ⟨.asg 3 ↑0,.forr [4] (.bi .range #v[((#[0]^21)*↑5)/↑8]) ⟨.aug 3 .or (.call 57 #v[#[0],#[1],#[4]])⟩,.ret (#[3]&&&(.call 71 #v[#[0],#[2]]))⟩
noncomputable def t7:Fn:= .mk 3 4 ⟨.asg 3 (.call 72 #v[#[0],#[1],(#[2]++#[1])^13]),.ret ((.call 0 #v[(((#[2]++(↑1-#[1]))^36)++↑0)&&&#[3]])+(.call 0 #v[((#[2]++(↑1-#[1]))^37)&&&#[3]]))⟩
noncomputable def ub:Fn:= .mk 3 12 ⟨.asg 3 (#[2]++#[1]),.asg 4 (.call 67 #v[#[0],#[1],#[3]^13]),.tupa [5,6,7] (.call 68 #v[#[0]^2,#[1],#[2],#[4]]),.tupa [8,9] (.call 70 #v[#[0],#[1],#[2]]),.asg 10 (.call 73 #v[#[0]^2,#[1],#[2]]),.asg 11 (((#[8]+(#[5]*#[6]))+(↑69*#[7]))+↑37),.aug 11 .add ((↑183*(.call 0 #v[#[4]&&&(.call 69 #v[#[1],#[2]])]))+(↑148*(.call 0 #v[#[9]]))),.aug 11 .add ((↑98*(.call 0 #v[#[3]^38]))+(((↑3*#[10])*#[10])/↑8)),.aug 11 .add ((.call 28 #v[.call 64 #v[#[0],↑1-#[1],#[2]]])-(.call 28 #v[.call 64 #v[#[0],#[1],#[2]]])),.aug 11 .sub (↑4*(.call 0 #v[((#[3]^36)++↑0)&&&(.call 72 #v[#[0]^2,#[1],#[3]^13])])),.iff (.nott (.call 19 #v[#[0],↑1-#[1],.glob "QUEEN" ⇑5])) ⟨.aug 11 .sub ↑873⟩ .skip,.iff (((#[3]^36)++(.glob "KNIGHT" ⇑2))&&&((#[3]^36)++(.glob "KING" ⇑6))) ⟨.aug 11 .sub ↑100⟩ .skip,.ret #[11]⟩
noncomputable def v8:Fn:= .mk 3 5 ⟨.asg 3 (.call 56 #v[#[0],#[1]]),.asg 4 (.bi .min #v[(.call 74 #v[#[0],#[1],#[2]])-(.call 26 #v[↑6*(.call 28 #v[#[3]]),↑8]),.glob "MOST_DANGER" ⇑5000]),.iff (#[4]>↑100) ⟨.aug 3 .sub (.call 27 #v[(#[4]*#[4])/↑4096,#[4]/↑16])⟩ .skip,.iff (.nott (((#[0]^29)++(.glob "PAWN" ⇑1))&&&(.call 71 #v[#[0]^2,(#[2]++#[1])^13]))) ⟨.aug 3 .sub (.call 27 #v[↑17,↑95])⟩ .skip,.ret (#[3]-(.call 27 #v[↑8*(.call 73 #v[#[0]^2,#[1],#[2]]),↑0]))⟩
noncomputable def rZ:Fn:= .mk 3 3 ⟨.ret (.call 0 #v[((#[0]^29)++#[2])&&&((#[0]^30)++#[1])])⟩
noncomputable def pN:Fn:= .mk 1 5 ⟨.asgO 1 (.list .nil),.forr [2] (.tup #v[.glob "WHITE" ⇑0,.glob "BLACK" ⇑1]) ⟨.asgO 3 (.list #v[↑0]),.forr [4] (.tup #v[.glob "PAWN" ⇑1,.glob "KNIGHT" ⇑2,.glob "BISHOP" ⇑3,.glob "ROOK" ⇑4,.glob "QUEEN" ⇑5]) ⟨.app #[3] (.call 76 #v[#[0],#[2],#[4]])⟩,.setI #[3] ↑0 (.ite ((#[3]++(.glob "BISHOP" ⇑3))>↑1) ↑1 ↑0),.frz 3,.app #[1] #[3]⟩,.frz 1,.ret #[1]⟩
noncomputable def rQ:Fn:= .mk 2 4 ⟨.asg 2 ↑0,.forr [3] (.bi .range #v[#[1],(.glob "QUEEN" ⇑5)+↑1]) ⟨.aug 2 .add ((#[0]++#[3])*(((.glob "PIECE_VALUES" (.list [.tup [⇑0,⇑0],.tup [⇑126,⇑208],.tup [⇑781,⇑854],.tup [⇑825,⇑915],.tup [⇑1276,⇑1380],.tup [⇑2538,⇑2682],.tup [⇑0,⇑0]]))++#[3])++↑0))⟩,.ret #[2]⟩
noncomputable def rR:Fn:= .mk 1 5 ⟨.asg 1 (.call 77 #v[#[0]]),.asg 2 (((.glob "PHASE_LOW" ⇑3915)*((#[0]^2)^22))/(.glob "BOARD_SIZE" ⇑64)),.asg 3 (((.glob "PHASE_HIGH" ⇑15258)*((#[0]^2)^22))/(.glob "BOARD_SIZE" ⇑64)),.asg 4 ((.call 78 #v[#[1]++(.glob "WHITE" ⇑0),.glob "KNIGHT" ⇑2])+(.call 78 #v[#[1]++(.glob "BLACK" ⇑1),.glob "KNIGHT" ⇑2])),.asg 4 (.bi .min #v[.bi .max #v[#[4],#[2]],#[3]]),.ret (((#[4]-#[2])*(.glob "PHASE_FULL" ⇑128))/(#[3]-#[2]))⟩
noncomputable def xZ:Fn:= .mk 2 8 ⟨.asg 2 (#[0]++#[1]),.asg 3 (#[0]++(↑1-#[1])),.asg 4 ↑0,.forr [5] (.bi .range #v[↑6]) ⟨.iff (#[2]++#[5]) ⟨.asg 6 ↑0,.forr [7] (.bi .range #v[#[5]+↑1]) ⟨.aug 6 .add (((((.glob "OWN_WEIGHTS" (.list [.list [⇑1400],.list [⇑40,⇑30],.list [⇑30,⇑240,⇑(-50)],.list [⇑0,⇑100,⇑0,⇑0],.list [⇑(-25),⇑0,⇑50,⇑100,⇑(-200)],.list [⇑(-180),⇑20,⇑120,⇑130,⇑(-140),⇑0]]))++#[5])++#[7])*(#[2]++#[7]))+((((.glob "FOE_WEIGHTS" (.list [.list [⇑0],.list [⇑35,⇑0],.list [⇑10,⇑60,⇑0],.list [⇑60,⇑70,⇑40,⇑0],.list [⇑50,⇑40,⇑20,⇑(-30),⇑0],.list [⇑90,⇑100,⇑(-40),⇑140,⇑260,⇑0]]))++#[5])++#[7])*(#[3]++#[7])))⟩,.aug 4 .add ((#[2]++#[5])*#[6])⟩ .skip⟩,.ret #[4]⟩
noncomputable def qp:Fn:= .mk 1 3 ⟨.asg 1 ↑0,.forr [2] (.bi .range #v[#[0]^22]) ⟨.iff (((#[2]%(#[0]^1))+(#[2]/(#[0]^1)))&&&↑1) ⟨.aug 1 .or (↑1<<<#[2])⟩ .skip⟩,.ret #[1]⟩
noncomputable def fE:Fn:= .mk 1 4 ⟨.asg 1 (((#[0]^29)++(.glob "BISHOP" ⇑3))&&&((#[0]^30)++(.glob "WHITE" ⇑0))),.asg 2 (((#[0]^29)++(.glob "BISHOP" ⇑3))&&&((#[0]^30)++(.glob "BLACK" ⇑1))),.iff (.orr ((.call 0 #v[#[1]])≠↑1) ((.call 0 #v[#[2]])≠↑1)) ⟨.ret (.lit (.bool false))⟩ .skip,.asg 3 (.call 81 #v[#[0]^2]),.ret (((#[1]&&&#[3])≠↑0)≠((#[2]&&&#[3])≠↑0))⟩
noncomputable def kq:Fn:= .mk 2 7 ⟨.asg 2 (.call 77 #v[#[0]]),.asg 3 (#[2]++#[1]),.asg 4 (.call 78 #v[#[3],.glob "KNIGHT" ⇑2]),.asg 5 (.call 78 #v[#[2]++(↑1-#[1]),.glob "KNIGHT" ⇑2]),.asg 6 (((.glob "PIECE_VALUES" (.list [.tup [⇑0,⇑0],.tup [⇑126,⇑208],.tup [⇑781,⇑854],.tup [⇑825,⇑915],.tup [⇑1276,⇑1380],.tup [⇑2538,⇑2682],.tup [⇑0,⇑0]]))++(.glob "BISHOP" ⇑3))++↑0),.iff (.andd ((#[3]++(.glob "PAWN" ⇑1))=↑0) ((#[4]-#[5])<=#[6])) ⟨.iff (#[4]<(((.glob "PIECE_VALUES" (.list [.tup [⇑0,⇑0],.tup [⇑126,⇑208],.tup [⇑781,⇑854],.tup [⇑825,⇑915],.tup [⇑1276,⇑1380],.tup [⇑2538,⇑2682],.tup [⇑0,⇑0]]))++(.glob "ROOK" ⇑4))++↑0)) ⟨.ret ↑0⟩ .skip,.ret (.ite (#[5]<=#[6]) ↑4 ↑14)⟩ .skip,.iff (.call 82 #v[#[0]]) ⟨.iff (.andd (#[4]=#[6]) (#[5]=#[6])) ⟨.ret (.bi .min #v[.glob "SCALE_NORMAL" ⇑64,↑18+(↑4*(#[3]++(.glob "PAWN" ⇑1)))])⟩ .skip,.ret (.bi .min #v[.glob "SCALE_NORMAL" ⇑64,↑22+(↑3*(.call 0 #v[(#[0]^30)++#[1]]))])⟩ .skip,.ret (.bi .min #v[.glob "SCALE_NORMAL" ⇑64,↑36+(↑7*(#[3]++(.glob "PAWN" ⇑1)))])⟩
noncomputable def lV:Fn:= .mk 1 1 ⟨.ret (.ite (#[0]>↑0) (.glob "WHITE" ⇑0) (.glob "BLACK" ⇑1))⟩
noncomputable def qk:Fn:= .mk 2 4 ⟨.asg 2 (#[1]++#[0]),.asg 3 (#[1]++(↑1-#[0])),.ret (((#[3]^36)++(.glob "PAWN" ⇑1))|||((#[3]^37)&&&(.inv (#[2]^37))))⟩
noncomputable def o6:Fn:= .mk 2 2 ⟨.ret (((#[0]^30)++(↑1-#[1]))&&&(.inv ((#[0]^29)++(.glob "PAWN" ⇑1))))⟩
noncomputable def t5:Fn:= .mk 3 3 ⟨.ret ((((#[0]^30)++(↑1-#[1]))&&&(.inv (.call 85 #v[#[1],#[2]])))&&&(((#[2]++#[1])^36)++↑0))⟩
noncomputable def o5:Fn:= .mk 3 4 ⟨.asg 3 ((.inv (((#[2]++(↑1-#[1]))^36)++↑0))|||((.call 86 #v[#[0],#[1]])&&&((#[2]++#[1])^37))),.ret ((.call 87 #v[#[0],#[1],#[2]])&&&#[3])⟩
noncomputable def o4:Fn:= .mk 3 4 ⟨.asg 3 ((.call 86 #v[#[0],#[1]])&&&(.call 85 #v[#[1],#[2]])),.ret (((.call 87 #v[#[0],#[1],#[2]])|||#[3])&&&((((#[2]++#[1])^36)++(.glob "KNIGHT" ⇑2))|||(((#[2]++#[1])^36)++(.glob "BISHOP" ⇑3))))⟩
noncomputable def kj:Fn:= .mk 2 2 ⟨.ret (((((#[1]++(↑1-#[0]))^36)++↑0)&&&(.inv (.call 85 #v[#[0],#[1]])))&&&(((#[1]++#[0])^36)++↑0))⟩
noncomputable def xX:Fn:= .mk 3 3 ⟨.ret ((.call 48 #v[#[0]^2,#[2],#[1]])&&&(.call 86 #v[#[0],#[1]]))⟩
noncomputable def q6:Fn:= .mk 3 3 ⟨.ret (((#[0]^2)^23)&&&((.inv (((#[2]++(↑1-#[1]))^36)++↑0))|||(((#[2]++#[1])^36)++↑0)))⟩
noncomputable def t9:Fn:= .mk 3 6 ⟨.asg 3 (#[0]^2),.asg 4 ((#[3]^23)&&&(.inv (.call 18 #v[#[0]]))),.asg 5 ((.call 43 #v[#[3],.call 19 #v[#[0],#[1],.glob "PAWN" ⇑1],#[1]])&&&#[4]),.iff (#[3]^14) ⟨.aug 5 .or ((.call 43 #v[#[3],#[5]&&&(.call 57 #v[#[3],#[1],↑2]),#[1]])&&&#[4])⟩ .skip,.ret ((#[5]&&&(.inv (((#[2]++(↑1-#[1]))^36)++(.glob "PAWN" ⇑1))))&&&(.call 92 #v[#[0],#[1],#[2]]))⟩
noncomputable def ql:Fn:= .mk 3 9 ⟨.asg 3 (.call 19 #v[#[0],↑1-#[1],.glob "QUEEN" ⇑5]),.iff ((.call 0 #v[#[3]])≠↑1) ⟨.ret (.tup #v[↑0,↑0])⟩ .skip,.asg 4 (#[2]++#[1]),.asg 5 (.call 3 #v[#[3]]),.asg 6 (((.call 62 #v[#[0],#[1],#[4]^38])&&&(.inv (.call 19 #v[#[0],#[1],.glob "PAWN" ⇑1])))&&&(.inv (.call 85 #v[#[1],#[2]]))),.asg 7 (((#[4]^36)++(.glob "KNIGHT" ⇑2))&&&(((#[0]^2)^18)++#[5])),.asg 8 (((#[4]^36)++(.glob "BISHOP" ⇑3))&&&(.call 13 #v[#[0]^2,#[5],.call 18 #v[#[0]]])),.aug 8 .or (((#[4]^36)++(.glob "ROOK" ⇑4))&&&(.call 12 #v[#[0]^2,#[5],.call 18 #v[#[0]]])),.ret (.tup #v[#[7]&&&#[6],(#[8]&&&#[6])&&&(#[4]^37)])⟩
noncomputable def t6:Fn:= .mk 3 7 ⟨.asg 3 ↑0,.forr [4] (.call 4 #v[#[1]]) ⟨.tupa [5,6] (#[2]++(.call 6 #v[(#[0]^28)++#[4]])),.aug 3 .add (.call 27 #v[#[5],#[6]])⟩,.ret #[3]⟩
noncomputable def qY:Fn:= .mk 3 10 ⟨.asg 3 (#[2]++#[1]),.asg 4 (.call 87 #v[#[0],#[1],#[2]]),.asg 5 (.call 95 #v[#[0],.call 89 #v[#[0],#[1],#[2]],.glob "MINOR_THREATS" (.list [.none,.tup [⇑5,⇑32],.tup [⇑55,⇑41],.tup [⇑77,⇑56],.tup [⇑89,⇑119],.tup [⇑79,⇑162],.tup [⇑0,⇑0]])]),.aug 5 .add (.call 95 #v[#[0],#[4]&&&((#[3]^36)++(.glob "ROOK" ⇑4)),.glob "ROOK_THREATS" (.list [.none,.tup [⇑3,⇑44],.tup [⇑37,⇑68],.tup [⇑42,⇑60],.tup [⇑0,⇑39],.tup [⇑58,⇑43],.tup [⇑0,⇑0]])]),.iff (#[4]&&&((#[3]^36)++(.glob "KING" ⇑6))) ⟨.aug 5 .add (.call 27 #v[↑24,↑89])⟩ .skip,.aug 5 .add ((.call 27 #v[↑69,↑36])*(.call 0 #v[.call 88 #v[#[0],#[1],#[2]]])),.aug 5 .add ((.call 27 #v[↑14,↑0])*(.call 0 #v[#[4]&&&(((#[2]++(↑1-#[1]))^36)++(.glob "QUEEN" ⇑5))])),.aug 5 .add ((.call 27 #v[↑7,↑7])*(.call 0 #v[.call 90 #v[#[1],#[2]]])),.asg 6 ((.call 19 #v[#[0],#[1],.glob "PAWN" ⇑1])&&&(.call 92 #v[#[0],#[1],#[2]])),.aug 5 .add ((.call 27 #v[↑173,↑94])*(.call 0 #v[.call 91 #v[#[0],#[1],#[6]]])),.aug 5 .add ((.call 27 #v[↑48,↑39])*(.call 0 #v[.call 91 #v[#[0],#[1],.call 93 #v[#[0],#[1],#[2]]]])),.tupa [7,8] (.call 94 #v[#[0],#[1],#[2]]),.asg 9 (.ite ((.call 0 #v[(#[0]^29)++(.glob "QUEEN" ⇑5)])=↑1) ↑2 ↑1),.ret ((#[5]+(((.call 27 #v[↑16,↑11])*(.call 0 #v[#[7]]))*#[9]))+(((.call 27 #v[↑60,↑18])*(.call 0 #v[#[8]]))*#[9]))⟩
noncomputable def vX:Fn:= .mk 2 6 ⟨.asg 2 ↑0,.forr [3] (.bi .range #v[(#[0]^1)/↑4,(#[0]^1)-((#[0]^1)/↑4)]) ⟨.aug 2 .or ((#[0]^15)++#[3])⟩,.asg 4 (.call 57 #v[#[0],#[1],↑1]),.forr [5] (.bi .range #v[↑2,(#[0]^21)/↑2]) ⟨.aug 4 .or (.call 57 #v[#[0],#[1],#[5]])⟩,.ret (#[2]&&&#[4])⟩
noncomputable def Kl:Fn:= .mk 3 8 ⟨.asg 3 (#[0]^2),.asg 4 (.call 19 #v[#[0],#[1],.glob "PAWN" ⇑1]),.asg 5 (((.call 97 #v[#[3],#[1]])&&&(.inv #[4]))&&&(.inv (((#[2]++(↑1-#[1]))^36)++(.glob "PAWN" ⇑1)))),.asg 6 (↑1-#[1]),.asg 7 (#[4]|||(.call 43 #v[#[3],#[4],#[6]])),.aug 7 .or (.call 43 #v[#[3],.call 43 #v[#[3],#[7],#[6]],#[6]]),.ret ((.call 0 #v[#[5]])+(.call 0 #v[(#[7]&&&#[5])&&&(.inv (((#[2]++(↑1-#[1]))^36)++↑0))]))⟩
noncomputable def jR:Fn:= .mk 1 1 ⟨.ret (↑2*(.call 0 #v[(.call 19 #v[#[0],.glob "BLACK" ⇑1,.glob "PAWN" ⇑1])&&&(.call 43 #v[#[0]^2,.call 19 #v[#[0],.glob "WHITE" ⇑0,.glob "PAWN" ⇑1],.glob "WHITE" ⇑0])]))⟩
noncomputable def t8:Fn:= .mk 3 5 ⟨.asg 3 (.call 0 #v[((.call 18 #v[#[0]])&&&(.inv ((#[0]^29)++(.glob "PAWN" ⇑1))))&&&(.inv ((#[0]^29)++(.glob "KING" ⇑6)))]),.iff ((↑16*#[3])<(↑3*((#[0]^2)^22))) ⟨.ret ↑0⟩ .skip,.asg 4 (.bi .max #v[((.call 0 #v[(#[0]^30)++#[1]])-↑3)+(.bi .min #v[.call 99 #v[#[0]],↑9]),↑0]),.ret (.call 27 #v[(((.call 98 #v[#[0],#[1],#[2]])*#[4])*#[4])/↑16,↑0])⟩
noncomputable def Cz:Fn:= .mk 1 1 ⟨.iff (#[0]>(.glob "EVAL_MOST" ⇑31753)) ⟨.ret (.glob "EVAL_MOST" ⇑31753)⟩ .skip,.iff (#[0]<(.neg (.glob "EVAL_MOST" ⇑31753))) ⟨.ret (.neg (.glob "EVAL_MOST" ⇑31753))⟩ .skip,.ret #[0]⟩
noncomputable def lW:Fn:= .mk 2 4 ⟨.asg 2 ↑0,.forr [3] (.call 4 #v[(#[0]^30)++#[1]]) ⟨.aug 2 .add (.call 41 #v[#[0]^2,(#[0]^28)++#[3],#[3]])⟩,.ret #[2]⟩
noncomputable def nu:Fn:= .mk 3 4 ⟨.asg 3 (.call 26 #v[.call 80 #v[.call 77 #v[#[0]],#[1]],↑16]),.ret (.list #v[.call 102 #v[#[0],#[1]],.call 27 #v[#[3],#[3]],.call 53 #v[#[0],#[1]],.call 64 #v[#[0],#[1],#[2]],.call 75 #v[#[0],#[1],#[2]],.call 96 #v[#[0],#[1],#[2]],.call 100 #v[#[0],#[1],#[2]]])⟩
noncomputable def Cu:Fn:= .mk 1 5 ⟨.asg 1 (.call 61 #v[#[0]]),.asg 2 (.call 103 #v[#[0],.glob "WHITE" ⇑0,#[1]]),.asg 3 (.call 103 #v[#[0],.glob "BLACK" ⇑1,#[1]]),.ret (.comp [4] (.bi .range #v[.bi .len #v[.glob "TERM_NAMES" (.list [.str "pieces",.str "imbalance",.str "pawns",.str "mobility",.str "king",.str "threats",.str "space"])]]) .nil (.tup #v[(.glob "TERM_NAMES" (.list [.str "pieces",.str "imbalance",.str "pawns",.str "mobility",.str "king",.str "threats",.str "space"]))++#[4],#[2]++#[4],#[3]++#[4]]))⟩
noncomputable def pF:Fn:= .mk 1 6 ⟨.asg 1 ↑0,.asg 2 ↑0,.forr [3,4,5] #[0] ⟨.aug 1 .add ((.call 28 #v[#[4]])-(.call 28 #v[#[5]])),.aug 2 .add ((.call 29 #v[#[4]])-(.call 29 #v[#[5]]))⟩,.ret (.tup #v[#[1],#[2]])⟩
noncomputable def nF:Fn:= .mk 1 12 ⟨.asg 1 (#[0]^2),.asg 2 (.call 20 #v[#[0],.glob "WHITE" ⇑0]),.asg 3 (.call 20 #v[#[0],.glob "BLACK" ⇑1]),.asg 4 (#[2]/(#[1]^1)),.asg 5 (((#[1]^21)-↑1)-(#[3]/(#[1]^1))),.asg 6 ((#[0]^29)++(.glob "PAWN" ⇑1)),.asgO 7 (.list #v[↑0,↑0]),.forr [8] (.bi .range #v[(#[1]^1)/↑2]) ⟨.augI #[7] ↑0 .or (#[6]&&&((#[1]^15)++#[8])),.augI #[7] ↑1 .or (#[6]&&&((#[1]^15)++(((#[1]^1)-↑1)-#[8])))⟩,.asg 9 (((((.bi .abs #v[(#[2]%(#[1]^1))-(#[3]%(#[1]^1))])+#[4])+#[5])-(#[1]^21))+↑1),.asg 10 ((.call 0 #v[(.call 50 #v[#[0],.glob "WHITE" ⇑0])^10])+(.call 0 #v[(.call 50 #v[#[0],.glob "BLACK" ⇑1])^10])),.asg 11 ((((↑9*#[10])+(↑12*(.call 0 #v[#[6]])))+(↑9*#[9]))-↑110),.iff (.andd (#[7]++↑0) (#[7]++↑1)) ⟨.aug 11 .add ↑21⟩ ⟨.iff (#[9]<↑0) ⟨.aug 11 .sub ↑43⟩ .skip⟩,.iff ((.bi .max #v[#[4],#[5]])>=(((#[1]^21)+↑1)/↑2)) ⟨.aug 11 .add ↑24⟩ .skip,.iff ((.call 18 #v[#[0]])=(#[6]|||((#[0]^29)++(.glob "KING" ⇑6)))) ⟨.aug 11 .add ↑51⟩ .skip,.ret #[11]⟩
noncomputable def lX:Fn:= .mk 2 2 ⟨.iff (#[0]>↑0) ⟨.ret (#[0]+(.bi .max #v[#[1],.neg #[0]]))⟩ .skip,.iff (#[0]<↑0) ⟨.ret (#[0]-(.bi .max #v[#[1],#[0]]))⟩ .skip,.ret ↑0⟩
noncomputable def lU:Fn:= .mk 3 4 ⟨.asg 3 (.call 106 #v[#[0]]),.asg 1 (.call 107 #v[#[1],.bi .min #v[#[3]+↑50,↑0]]),.asg 2 (.call 107 #v[#[2],#[3]]),.ret (.call 30 #v[#[1],#[2],.call 79 #v[#[0]],.call 83 #v[#[0],.call 84 #v[#[2]]]])⟩
noncomputable def lT:Fn:= .mk 1 3 ⟨.tupa [1,2] (.call 105 #v[.call 104 #v[#[0]]]),.ret (.call 108 #v[#[0],#[1],#[2]])⟩
noncomputable def lY:Fn:= .mk 2 2 ⟨.iff ((#[0]^20)=(.glob "BLACK" ⇑1)) ⟨.asg 1 (.neg #[1])⟩ .skip,.ret (.call 101 #v[#[1]+(.glob "TEMPO" ⇑28)])⟩
noncomputable def rY:Fn:= .mk 1 1 ⟨.ret (.call 110 #v[#[0],.call 109 #v[#[0]]])⟩
noncomputable def nv:Fn:= .mk 1 1 ⟨.ret (((.bi .str #v[.call 28 #v[#[0]]])+(.lit (.str "/")))+(.bi .str #v[.call 29 #v[#[0]]]))⟩
noncomputable def nr:Fn:= .mk 2 9 ⟨.tupa [2,3] (.call 105 #v[#[1]]),.asgO 4 (.list #v[.lit (.str "term white black")]),.forr [5,6,7] #[1] ⟨.app #[4] ((((#[5]+(.lit (.str " ")))+(.call 112 #v[#[6]]))+(.lit (.str " ")))+(.call 112 #v[#[7]]))⟩,.app #[4] ((((.lit (.str "total "))+(.bi .str #v[#[2]]))+(.lit (.str "/")))+(.bi .str #v[#[3]])),.asg 8 (.call 108 #v[#[0],#[2],#[3]]),.app #[4] ((.lit (.str "white "))+(.bi .str #v[#[8]])),.app #[4] ((.lit (.str "mover "))+(.bi .str #v[.call 110 #v[#[0],#[8]]])),.frz 4,.ret #[4]⟩
noncomputable def pK:Fn:= .mk 0 0 ⟨.ret (.list #v[.lit (.str "pieces"),.lit (.str "imbalance"),.lit (.str "pawns"),.lit (.str "mobility"),.lit (.str "king"),.lit (.str "threats"),.lit (.str "space")])⟩
noncomputable def Ay:Fn:= .mk 0 0 ⟨.ret (.list #v[.tup #v[↑0,↑1],.tup #v[↑1,↑0],.tup #v[↑0,.neg ↑1],.tup #v[.neg ↑1,↑0],.tup #v[↑1,↑1],.tup #v[↑1,.neg ↑1],.tup #v[.neg ↑1,.neg ↑1],.tup #v[.neg ↑1,↑1]])⟩
noncomputable def q7:Fn:= .mk 2 19 ⟨.asgO 2 (.new 0 #v[#[0],#[1],.lit (.bool true),.lit (.bool false)]),.asg 3 (.bi .range #v[#[0]*#[1]]),.setAO #[2] 15 (.comp [17] (.bi .range #v[#[0]]) .nil (.bi .sum #v[.comp [18] #[3] ((#[18]%#[0])=#[17]) (↑1<<<#[18])])),.setAO #[2] 16 (.comp [15] (.bi .range #v[#[1]]) .nil (.bi .sum #v[.comp [16] #[3] ((#[16]/#[0])=#[15]) (↑1<<<#[16])])),.setAO #[2] 17 (.comp [13] (.bi .range #v[↑8]) .nil (.comp [14] #[3] .nil ↑0)),.setAO #[2] 13 (.comp [12] #[3] .nil ↑0),.setAO #[2] 18 (.comp [11] #[3] .nil ↑0),.setAO #[2] 19 (.list #v[.comp [10] #[3] .nil ↑0,.comp [9] #[3] .nil ↑0]),.forr [4] #[3] ⟨.forr [5] #[3] ⟨.asg 6 ((#[5]%#[0])-(#[4]%#[0])),.asg 7 ((#[5]/#[0])-(#[4]/#[0])),.asg 8 (.bi .max #v[.bi .abs #v[#[6]],.bi .abs #v[#[7]]]),.iff (((#[6]*#[6])+(#[7]*#[7]))=↑5) ⟨.augI (#[2]^18) #[4] .or (↑1<<<#[5])⟩ ⟨.iff (.andd #[8] (((#[6]*#[7])*((#[6]*#[6])-(#[7]*#[7])))=↑0)) ⟨.augI ((#[2]^17)++(.meth .index (.call 115 .nil) (.tup #v[#[6]/#[8],#[7]/#[8]]))) #[4] .or (↑1<<<#[5]),.iff (#[8]=↑1) ⟨.augI (#[2]^13) #[4] .or (↑1<<<#[5])⟩ .skip,.iff (.andd (#[8]=↑1) (.andd #[6] #[7])) ⟨.augI ((#[2]^19)++(.ite (#[7]>↑0) ↑0 ↑1)) #[4] .or (↑1<<<#[5])⟩ .skip⟩ .skip⟩⟩⟩,.frz 2,.ret #[2]⟩
noncomputable def nA:Fn:= .mk 3 6 ⟨.asgO 3 (.list .nil),.forr [4] (.bi .range #v[#[1]-↑1,.neg ↑1,.neg ↑1]) ⟨.ext 3 (.comp [5] (.slc #[2] (#[4]*#[0]) ((#[4]*#[0])+#[0])) .nil (.ite #[5] (#[5]^^^↑8) ↑0))⟩,.frz 3,.ret #[3]⟩
noncomputable def pM:Fn:= .mk 3 10 ⟨.asg 3 (#[0]*#[1]),.asg 2 (#[2]+(.slc (.list #v[↑0,↑9]) (.bi .len #v[#[2]]) .nil)),.asgO 4 ((.list #v[↑0])*#[3]),.asg 5 ((#[2]++↑0)%#[3]),.setI #[4] #[5] ↑6,.setI #[4] (((#[5]+↑1)+((#[2]++↑1)%(#[3]-↑1)))%#[3]) ↑14,.forr [6] (.slc #[2] ↑2 .nil) ⟨.asg 7 (#[6]%#[3]),.asg 8 (↑1+((#[6]/#[3])%↑5)),.asg 9 (.orr ((#[7]/#[0])=↑0) ((#[7]/#[0])=(#[1]-↑1))),.iff (.andd ((#[4]++#[7])=↑0) (.nott (.andd (#[8]=↑1) #[9]))) ⟨.setI #[4] #[7] (#[8]+(((#[6]/(#[3]*↑5))%↑2)*↑8))⟩ .skip⟩,.frz 4,.ret #[4]⟩
noncomputable def kv:Fn:= .mk 3 7 ⟨.asg 3 (.comp [6] (.bi .range #v[↑15]) .nil ((.list #v[↑0])*(#[0]^22))),.asgO 4 (.new 1 #v[#[0],.new 4 #v[#[3],(.list #v[↑0])*(#[0]^1),(.list #v[↑0])*↑16,↑0]]),.forr [5] (.bi .range #v[#[0]^22]) ⟨.iff (#[1]++#[5]) ⟨.callIO 17 4 #v[#[1]++#[5],#[5]]⟩ .skip⟩,.setA #[4] 20 #[2],.frz 4,.ret #[4]⟩
noncomputable def nC:Fn:= .mk 1 2 ⟨.asg 1 (((#[0]+↑32768)%↑65536)-↑32768),.ret (.tup #v[#[1],(#[0]-#[1])/↑65536])⟩
noncomputable def uO:Fn:= .mk 2 2 ⟨.ret (.ite (#[0]>=↑0) (#[0]/#[1]) (.neg ((.neg #[0])/#[1])))⟩
noncomputable def pG:Fn:= .mk 3 5 ⟨.asg 3 ↑0,.forr [4] #[0] ⟨.iff (.andd ((#[4]/↑8)=#[1]) ((#[4]%↑8)>=#[2])) ⟨.aug 3 .add ((.glob "_law_values" (.list [⇑0,⇑126,⇑781,⇑825,⇑1276,⇑2538,⇑0]))++(#[4]%↑8))⟩ .skip⟩,.ret #[3]⟩
noncomputable def nB:Fn:= .mk 3 10 ⟨.asg 3 ↑0,.forr [4] (.bi .range #v[.bi .len #v[#[2]]]) ⟨.iff (((#[2]++#[4])%↑8)=↑1) ⟨.asg 5 ((#[2]++#[4])/↑8),.asg 6 (.lit (.bool true)),.forr [7] (.bi .range #v[.bi .len #v[#[2]]]) ⟨.asg 8 (.ite (#[5]=↑0) ((#[7]/#[0])>(#[4]/#[0])) ((#[7]/#[0])<(#[4]/#[0]))),.asg 9 (.bi .abs #v[(#[7]%#[0])-(#[4]%#[0])]),.iff (.andd #[8] (.orr (.andd ((#[2]++#[7])=(↑9-(#[5]*↑8))) (#[9]<↑2)) (.andd ((#[2]++#[7])=(#[2]++#[4])) (#[9]=↑0)))) ⟨.asg 6 (.lit (.bool false))⟩ .skip⟩,.iff #[6] ⟨.aug 3 .add ↑1⟩ .skip⟩ .skip⟩,.ret #[3]⟩
noncomputable def pL:Fn:= .mk 3 14 ⟨.asg 3 (.meth .index #[2] ↑6),.asg 4 (.meth .index #[2] ↑14),.asg 5 (.comp [13] (.bi .range #v[.bi .len #v[#[2]]]) (((#[2]++#[13])%↑8)=↑1) #[13]),.asg 6 (((.bi .abs #v[(#[3]%#[0])-(#[4]%#[0])])+(#[3]/#[0]))-(#[4]/#[0])),.asg 7 (.comp [12] #[5] ((#[12]%#[0])<(#[0]/↑2)) #[12]),.asg 8 (.comp [11] #[5] (((#[0]-↑1)-(#[11]%#[0]))<(#[0]/↑2)) #[11]),.asg 9 ((((↑9*(.call 123 #v[#[0],#[1],#[2]]))+(↑12*(.bi .len #v[#[5]])))+(↑9*#[6]))-↑110),.iff (.andd #[7] #[8]) ⟨.aug 9 .add ↑21⟩ ⟨.iff (#[6]<↑0) ⟨.aug 9 .sub ↑43⟩ .skip⟩,.iff (.orr (((#[3]/#[0])*↑2)>=#[1]) ((((#[1]-↑1)-(#[4]/#[0]))*↑2)>=#[1])) ⟨.aug 9 .add ↑24⟩ .skip,.iff (((.bi .len #v[#[5]])+↑2)=(.bi .len #v[.comp [10] #[2] #[10] #[10]])) ⟨.aug 9 .add ↑51⟩ .skip,.ret #[9]⟩
noncomputable def rW:Fn:= .mk 2 3 ⟨.asg 2 (.ite (#[0]>↑0) ↑1 (.neg ↑1)),.ret (.ite #[0] (#[0]+(#[2]*(.bi .max #v[#[1],.neg (.bi .abs #v[#[0]])]))) ↑0)⟩
noncomputable def pJ:Fn:= .mk 3 10 ⟨.asg 3 (.comp [9] #[1] (.andd #[9] ((#[9]/↑8)=#[2])) (#[9]%↑8)),.asg 4 (.call 122 #v[#[1],#[2],↑2]),.asg 5 (.call 122 #v[#[1],↑1-#[2],↑2]),.iff (.andd ((.meth .count #[3] ↑1)=↑0) ((#[4]-#[5])<=↑825)) ⟨.iff (#[4]<↑1276) ⟨.ret ↑0⟩ .skip,.ret (.ite (#[5]<=↑825) ↑4 ↑14)⟩ .skip,.asg 6 (.comp [8] (.bi .range #v[.bi .len #v[#[1]]]) (((#[1]++#[8])%↑8)=↑3) #[8]),.iff (.andd ((.bi .len #v[#[6]])=↑2) ((#[1]++(#[6]++↑0))≠(#[1]++(#[6]++↑1)))) ⟨.iff (((.bi .sum #v[.comp [7] #[6] .nil ((#[7]%#[0])+(#[7]/#[0]))])%↑2)=↑1) ⟨.iff (.andd (#[4]=↑825) (#[5]=↑825)) ⟨.ret (.bi .min #v[↑64,↑18+(↑4*(.meth .count #[3] ↑1))])⟩ .skip,.ret (.bi .min #v[↑64,↑22+(↑3*(.bi .len #v[#[3]]))])⟩ .skip⟩ .skip,.ret (.bi .min #v[↑64,↑36+(↑7*(.meth .count #[3] ↑1))])⟩
noncomputable def pI:Fn:= .mk 4 17 ⟨.asgO 4 (.list #v[↑0,↑0]),.forr [5,6,7] #[3] ⟨.forr [8] (.tup #v[↑0,↑1]) ⟨.augI #[4] #[8] .add (((.call 120 #v[#[6]])++#[8])-((.call 120 #v[#[7]])++#[8]))⟩⟩,.asg 9 (.call 124 #v[#[0],#[1],#[2]]),.asg 10 (.call 125 #v[#[4]++↑0,.bi .min #v[#[9]+↑50,↑0]]),.asg 11 (.call 125 #v[#[4]++↑1,#[9]]),.asg 12 ((↑3915*(.bi .len #v[#[2]]))/↑64),.asg 13 ((↑15258*(.bi .len #v[#[2]]))/↑64),.asg 14 (.bi .min #v[.bi .max #v[(.call 122 #v[#[2],↑0,↑2])+(.call 122 #v[#[2],↑1,↑2]),#[12]],#[13]]),.asg 15 (((#[14]-#[12])*↑128)/(#[13]-#[12])),.asg 16 (.call 121 #v[(#[11]*(↑128-#[15]))*(.call 126 #v[#[0],#[2],.ite (#[11]>↑0) ↑0 ↑1]),↑64]),.frz 4,.ret (.tup #v[#[4],.call 121 #v[(#[10]*#[15])+#[16],↑128]])⟩
noncomputable def rX:Fn:= .mk 1 3 ⟨.tupa [1,2] (.call 120 #v[#[0]]),.ret (((.bi .str #v[#[1]])+(.lit (.str "/")))+(.bi .str #v[#[2]]))⟩
noncomputable def pH:Fn:= .mk 3 10 ⟨.asg 3 (.call 61 #v[#[0]]),.forr [4] (.tup #v[↑0,↑1]) ⟨.asg 5 (.bi .sum #v[.comp [9] (.bi .range #v[.bi .len #v[#[1]]]) (.andd (#[1]++#[9]) (((#[1]++#[9])/↑8)=#[4])) (.call 41 #v[#[0]^2,#[1]++#[9],#[9]])]),.asg 6 (.call 121 #v[.call 80 #v[.call 77 #v[#[0]],#[4]],↑16]),.asg 7 (.list #v[#[5],#[6]*↑65537,.call 53 #v[#[0],#[4]],.call 64 #v[#[0],#[4],#[3]],.call 75 #v[#[0],#[4],#[3]],.call 96 #v[#[0],#[4],#[3]],.call 100 #v[#[0],#[4],#[3]]]),.iff ((.comp [8] #[2] .nil (#[8]++(↑1+#[4])))≠#[7]) ⟨.ret (.lit (.bool false))⟩ .skip⟩,.ret (.lit (.bool true))⟩
noncomputable def MW:Fn:= .mk 1 21 ⟨.asg 1 (.ite #[0] (#[0]++↑0) ↑5),.asg 2 (↑3+(#[1]%↑2)),.asg 3 (↑4+((#[1]/↑2)%↑2)),.asg 4 ((#[1]/↑4)%↑2),.asg 5 (.call 118 #v[#[2],#[3],.slc #[0] ↑1 ↑8]),.asg 6 (.call 116 #v[#[2],#[3]]),.asg 7 (.call 119 #v[#[6],#[5],#[4]]),.asg 8 (.call 104 #v[#[7]]),.iff ((.comp [20] #[8] .nil (#[20]++↑0))≠(.call 114 .nil)) ⟨.ret (.lit (.bool false))⟩ .skip,.tupa [9,10] (.call 127 #v[#[2],#[3],#[5],#[8]]),.asg 11 (.bi .min #v[.bi .max #v[(.ite (#[4]=↑0) #[10] (.neg #[10]))+↑28,.neg ↑31753],↑31753]),.asgO 12 (.list #v[.lit (.str "term white black")]),.forr [13,14,15] #[8] ⟨.app #[12] ((((#[13]+(.lit (.str " ")))+(.call 128 #v[#[14]]))+(.lit (.str " ")))+(.call 128 #v[#[15]]))⟩,.app #[12] ((((.lit (.str "total "))+(.bi .str #v[#[9]++↑0]))+(.lit (.str "/")))+(.bi .str #v[#[9]++↑1])),.app #[12] ((.lit (.str "white "))+(.bi .str #v[#[10]])),.app #[12] ((.lit (.str "mover "))+(.bi .str #v[#[11]])),.frz 12,.iff ((.call 113 #v[#[7],#[8]])≠#[12]) ⟨.ret (.lit (.bool false))⟩ .skip,.asg 16 (.call 119 #v[#[6],.call 117 #v[#[2],#[3],#[5]],↑1-#[4]]),.iff (((#[1]/↑8)%↑3)=↑1) ⟨.ret ((.call 104 #v[#[16]])=(.comp [17,18,19] #[8] .nil (.tup #v[#[17],#[19],#[18]])))⟩ .skip,.iff (((#[1]/↑8)%↑3)=↑2) ⟨.ret (.call 129 #v[#[7],#[5],#[8]])⟩ .skip,.ret ((.call 111 #v[#[16]])=#[11])⟩
noncomputable def AH:Fn:= .mk 5 5 ⟨.setA #[0] 1 #[1],.setA #[0] 21 #[2],.setA #[0] 22 (#[1]*#[2]),.setA #[0] 23 ((↑1<<<(#[1]*#[2]))-↑1),.setA #[0] 14 (.andd #[3] (#[2]>=↑5)),.setA #[0] 24 #[4],.setAO #[0] 15 (.list .nil),.setAO #[0] 16 (.list .nil),.setAO #[0] 17 (.list .nil),.setAO #[0] 13 (.list .nil),.setAO #[0] 18 (.list .nil),.setAO #[0] 19 (.list #v[.list .nil,.list .nil]),.setAO #[0] 25 (.list .nil),.setAO #[0] 26 (.list .nil)⟩
noncomputable def mL:Fn:= .mk 3 3 ⟨.setA #[0] 2 #[1],.setA #[0] 27 #[2],.setAO #[0] 28 ((.list #v[.glob "EMPTY" ⇑0])*(#[1]^22)),.setAO #[0] 29 ((.list #v[↑0])*↑7),.setAO #[0] 30 (.list #v[↑0,↑0]),.setA #[0] 20 (.glob "WHITE" ⇑0),.setA #[0] 31 ↑0,.setA #[0] 32 (.neg ↑1),.setA #[0] 33 ↑0,.setA #[0] 23 ↑1,.setA #[0] 0 ↑0,.setAO #[0] 34 (.list .nil)⟩
noncomputable def pU:Fn:= .mk 2 2 ⟨.setA #[0] 35 #[1],.setA #[0] 3 ↑0,.setA #[0] 4 ↑0,.setA #[0] 5 ↑0,.setA #[0] 6 ↑0,.setA #[0] 7 ↑0,.setA #[0] 8 ↑0,.setA #[0] 9 ↑0,.setA #[0] 10 ↑0,.setA #[0] 11 ↑0⟩
noncomputable def pV:Fn:= .mk 6 6 ⟨.setA #[0] 13 #[1],.setA #[0] 36 #[2],.setA #[0] 37 #[3],.setA #[0] 12 #[4],.setA #[0] 38 #[5]⟩
noncomputable def pj:Fn:= .mk 5 5 ⟨.setA #[0] 39 #[1],.setA #[0] 32 #[2],.setA #[0] 31 #[3],.setA #[0] 20 #[4]⟩
end
noncomputable def Ud:List Fn:=[jF,qo,Eb,sZ,jD,uN,uP,kD,pe,Bl,v_,gf,kr,jf,qm,oW,qn,kC,rV,yL,lZ,mn,mo,vY,Az,pE,yM,ny,Cw,Cy,Cv,mF,x8,mq,v7,q8,q_,v4,t_,v9,q4,qZ,rU,mE,nx,uQ,nE,l8,kt,qt,nw,mR,oY,v6,ku,q5,Ea,jE,vZ,ua,nG,l9,Ec,o3,oZ,Ax,xY,ky,oX,qX,q9,ud,qr,t7,ub,v8,rZ,pN,rQ,rR,xZ,qp,fE,kq,lV,qk,o6,t5,o5,o4,kj,xX,q6,t9,ql,t6,qY,vX,Kl,jR,t8,Cz,lW,nu,Cu,pF,nF,lX,lU,lT,lY,rY,nv,nr,pK,Ay,q7,nA,pM,kv,nC,uO,pG,nB,pL,rW,pJ,pI,rX,pH,MW]
noncomputable def Ac:List Fn:=[AH,mL,pU,pV,pj]
noncomputable def C_:List (List Str):=[[aa "b",aa "count"],[aa "b"],[aa "b",aa "width",aa "square"],[aa "b"],[aa "b",aa "out",aa "square"],[aa "piece"],[aa "piece"],[aa "geo",aa "a",aa "b",aa "d"],[aa "geo",aa "a",aa "b",aa "d"],[aa "geo",aa "a",aa "b",aa "d"],[aa "d"],[aa "geo",aa "d",aa "square",aa "occupied",aa "ray",aa "stop",aa "behind"],[aa "geo",aa "square",aa "occupied",aa "found",aa "d"],[aa "geo",aa "square",aa "occupied",aa "found",aa "d"],[aa "geo",aa "square",aa "occupied"],[aa "geo",aa "kind",aa "square",aa "occupied"],[aa "geo",aa "side",aa "kind",aa "square",aa "occupied"],[aa "pos",aa "piece",aa "s",aa "bit"],[aa "pos"],[aa "pos",aa "side",aa "kind"],[aa "pos",aa "side"],[aa "pos"],[aa "pos"],[aa "pos",aa "side",aa "king",aa "hits"],[aa "pos",aa "side",aa "king",aa "snipers",aa "standing",aa "held",aa "pinners",aa "sniper",aa "inside"],[aa "n"],[aa "a",aa "n",aa "quotient"],[aa "mg",aa "eg"],[aa "s"],[aa "s"],[aa "mg",aa "eg",aa "phase",aa "factor",aa "late"],[aa "geo",aa "side",aa "square",aa "rank"],[aa "n",aa "size"],[aa "geo",aa "file",aa "rank"],[aa "file_in",aa "rank"],[aa "file_in",aa "rank_in",aa "dim"],[aa "file_in",aa "rank_in",aa "is_long"],[aa "ranks",aa "file_in",aa "rank",aa "seventh"],[aa "file_in",aa "rank_in"],[aa "file_in",aa "rank",aa "rank_in"],[aa "geo",aa "side",aa "kind",aa "square",aa "file",aa "rank",aa "file_in",aa "rank_in"],[aa "geo",aa "piece",aa "square",aa "kind",aa "mg",aa "eg"],[aa "pos",aa "side"],[aa "geo",aa "b",aa "side"],[aa "geo",aa "b",aa "right",aa "left"],[aa "geo",aa "b",aa "side",aa "step"],[aa "geo",aa "b",aa "side"],[aa "geo",aa "b",aa "side"],[aa "geo",aa "b",aa "side"],[aa "geo",aa "own",aa "foe",aa "side",aa "found",aa "square",aa "bit",aa "beside",aa "helping",aa "guarding"],[aa "pos",aa "side",aa "geo",aa "own",aa "foe",aa "beside",aa "facts",aa "helped",aa "held",aa "free"],[aa "geo",aa "facts",aa "square",aa "side",aa "bit",aa "rank",aa "beside",aa "is_phalanx",aa "is_opposed",aa "guards",aa "v"],[aa "geo",aa "facts",aa "square",aa "side",aa "bit",aa "rank",aa "is_free",aa "score"],[aa "pos",aa "side",aa "facts",aa "score",aa "square"],[aa "geo",aa "b",aa "side",aa "first",aa "nearest",aa "square",aa "rank"],[aa "own_at",aa "foe_at",aa "file_in",aa "score"],[aa "pos",aa "side",aa "geo",aa "king",aa "first",aa "centre",aa "score",aa "file",aa "own_at",aa "foe_at"],[aa "geo",aa "side",aa "rank"],[aa "pos",aa "side",aa "kind",aa "stops"],[aa "pos",aa "side",aa "kind",aa "square",aa "shields",aa "b"],[aa "pos",aa "side",aa "shields",aa "by",aa "twice",aa "reaches",aa "kind",aa "square",aa "b"],[aa "pos"],[aa "pos",aa "side",aa "shields",aa "geo",aa "low",aa "out"],[aa "kind",aa "count",aa "low_mg",aa "high_mg",aa "low_eg",aa "high_eg",aa "most",aa "bend",aa "mg",aa "eg"],[aa "pos",aa "side",aa "maps",aa "area",aa "total",aa "kind",aa "b"],[aa "n",aa "count"],[aa "geo",aa "square",aa "centre"],[aa "pos",aa "side",aa "king",aa "once",aa "twice",aa "square"],[aa "geo",aa "side",aa "maps",aa "ring",aa "enemy",aa "near",aa "count",aa "weight",aa "hits",aa "kind",aa "b"],[aa "side",aa "maps",aa "own"],[aa "pos",aa "side",aa "maps",aa "geo",aa "own",aa "enemy",aa "king",aa "stops",aa "straight",aa "slant",aa "safe",aa "goals",aa "danger",aa "unsafe",aa "kind",aa "good"],[aa "geo",aa "square",aa "out",aa "file"],[aa "geo",aa "side",aa "king",aa "camp",aa "rank"],[aa "geo",aa "side",aa "maps",aa "near"],[aa "pos",aa "side",aa "maps",aa "own",aa "ring",aa "count",aa "weight",aa "hits",aa "checks",aa "unsafe",aa "storm",aa "danger"],[aa "pos",aa "side",aa "maps",aa "score",aa "danger"],[aa "pos",aa "side",aa "kind"],[aa "pos",aa "counts",aa "side",aa "row",aa "kind"],[aa "row",aa "first",aa "total",aa "kind"],[aa "pos",aa "counts",aa "low",aa "high",aa "total"],[aa "counts",aa "side",aa "own",aa "foe",aa "bonus",aa "kind",aa "weight",aa "other"],[aa "geo",aa "b",aa "square"],[aa "pos",aa "white",aa "black",aa "light"],[aa "pos",aa "strong",aa "counts",aa "own",aa "own_worth",aa "foe_worth",aa "bishop"],[aa "late"],[aa "side",aa "maps",aa "own",aa "enemy"],[aa "pos",aa "side"],[aa "pos",aa "side",aa "maps"],[aa "pos",aa "side",aa "maps",aa "loose"],[aa "pos",aa "side",aa "maps",aa "held"],[aa "side",aa "maps"],[aa "pos",aa "side",aa "pawns"],[aa "pos",aa "side",aa "maps"],[aa "pos",aa "side",aa "maps",aa "geo",aa "empty",aa "goals"],[aa "pos",aa "side",aa "maps",aa "queens",aa "own",aa "square",aa "safe",aa "jumps",aa "slides"],[aa "pos",aa "targets",aa "values",aa "total",aa "square",aa "mg",aa "eg"],[aa "pos",aa "side",aa "maps",aa "own",aa "weak",aa "total",aa "pawns",aa "jumps",aa "slides",aa "times"],[aa "geo",aa "side",aa "files",aa "file",aa "ranks",aa "rank"],[aa "pos",aa "side",aa "maps",aa "geo",aa "pawns",aa "safe",aa "behind",aa "shadow"],[aa "pos"],[aa "pos",aa "side",aa "maps",aa "officers",aa "weight"],[aa "value"],[aa "pos",aa "side",aa "total",aa "square"],[aa "pos",aa "side",aa "maps",aa "odd"],[aa "pos",aa "maps",aa "white",aa "black"],[aa "rows",aa "mg",aa "eg",aa "_",aa "white",aa "black"],[aa "pos",aa "geo",aa "white",aa "black",aa "rank_white",aa "rank_black",aa "pawns",aa "wings",aa "file",aa "outflanking",aa "passed",aa "value"],[aa "value",aa "bonus"],[aa "pos",aa "mg",aa "eg",aa "drive"],[aa "pos",aa "mg",aa "eg"],[aa "pos",aa "value"],[aa "pos"],[aa "score"],[aa "pos",aa "rows",aa "mg",aa "eg",aa "out",aa "name",aa "white",aa "black",aa "value"],[],[],[aa "files",aa "ranks",aa "geo",aa "squares",aa "t",aa "u",aa "df",aa "dr",aa "most"],[aa "files",aa "ranks",aa "board",aa "out",aa "r"],[aa "files",aa "ranks",aa "nums",aa "size",aa "board",aa "white",aa "n",aa "square",aa "kind",aa "is_outer"],[aa "geo",aa "board",aa "side",aa "numbers",aa "pos",aa "square"],[aa "score",aa "mg"],[aa "n",aa "by"],[aa "board",aa "side",aa "first",aa "total",aa "piece"],[aa "files",aa "ranks",aa "board",aa "count",aa "t",aa "side",aa "free",aa "u",aa "is_ahead",aa "gap"],[aa "files",aa "ranks",aa "board",aa "white",aa "black",aa "pawns",aa "far",aa "low",aa "high",aa "drive"],[aa "value",aa "bonus",aa "sign"],[aa "files",aa "board",aa "strong",aa "own",aa "mine",aa "theirs",aa "bishops"],[aa "files",aa "ranks",aa "board",aa "rows",aa "sums",aa "name",aa "white",aa "black",aa "half",aa "drive",aa "mg",aa "eg",aa "least",aa "most",aa "both",aa "phase",aa "late"],[aa "score",aa "mg",aa "eg"],[aa "pos",aa "board",aa "rows",aa "maps",aa "side",aa "men",aa "odd",aa "want"],[aa "script",aa "first",aa "files",aa "ranks",aa "side",aa "board",aa "geo",aa "pos",aa "rows",aa "sums",aa "value",aa "mover",aa "text",aa "name",aa "white",aa "black",aa "turned"]]
noncomputable def u5:List (List Str):=[[aa "self",aa "files",aa "ranks",aa "has_double",aa "has_castling"],[aa "self",aa "geo",aa "zob"],[aa "self",aa "own"],[aa "self",aa "king",aa "by",aa "twice",aa "reaches",aa "shields"],[aa "self",aa "pieces",aa "ep",aa "rights",aa "side"]]
noncomputable def oz:List (Str×T):=[(aa "WHITE",(.int 0)),(aa "BLACK",(.int 1)),(aa "PAWN",(.int 1)),(aa "KNIGHT",(.int 2)),(aa "BISHOP",(.int 3)),(aa "ROOK",(.int 4)),(aa "QUEEN",(.int 5)),(aa "KING",(.int 6)),(aa "EMPTY",(.int 0)),(aa "STEP_RANKS",(.tup [(.int 1),(.int 0),(.int (-1)),(.int 0),(.int 1),(.int (-1)),(.int (-1)),(.int 1)])),(aa "HALF",(.int 32768)),(aa "WORD",(.int 65536)),(aa "PHASE_FULL",(.int 128)),(aa "SCALE_NORMAL",(.int 64)),(aa "PIECE_VALUES",(.list [(.tup [(.int 0),(.int 0)]),(.tup [(.int 126),(.int 208)]),(.tup [(.int 781),(.int 854)]),(.tup [(.int 825),(.int 915)]),(.tup [(.int 1276),(.int 1380)]),(.tup [(.int 2538),(.int 2682)]),(.tup [(.int 0),(.int 0)])])),(aa "MOBILITY_ENDS",(.list [.none,.none,(.tup [(.int (-62)),(.int 33),(.int (-79)),(.int 27),(.int 8)]),(.tup [(.int (-47)),(.int 97),(.int (-59)),(.int 88),(.int 13)]),(.tup [(.int (-60)),(.int 62),(.int (-82)),(.int 170),(.int 14)]),(.tup [(.int (-29)),(.int 112),(.int (-49)),(.int 204),(.int 27)])])),(aa "RING_WEIGHTS",(.list [(.int 0),(.int 0),(.int 81),(.int 52),(.int 44),(.int 10),(.int 0)])),(aa "SAFE_CHECKS",(.list [.none,.none,(.tup [(.int 803),(.int 1292)]),(.tup [(.int 639),(.int 974)]),(.tup [(.int 1087),(.int 1878)]),(.tup [(.int 759),(.int 1132)])])),(aa "MOST_DANGER",(.int 5000)),(aa "PHASE_LOW",(.int 3915)),(aa "PHASE_HIGH",(.int 15258)),(aa "BOARD_SIZE",(.int 64)),(aa "OWN_WEIGHTS",(.list [(.list [(.int 1400)]),(.list [(.int 40),(.int 30)]),(.list [(.int 30),(.int 240),(.int (-50))]),(.list [(.int 0),(.int 100),(.int 0),(.int 0)]),(.list [(.int (-25)),(.int 0),(.int 50),(.int 100),(.int (-200))]),(.list [(.int (-180)),(.int 20),(.int 120),(.int 130),(.int (-140)),(.int 0)])])),(aa "FOE_WEIGHTS",(.list [(.list [(.int 0)]),(.list [(.int 35),(.int 0)]),(.list [(.int 10),(.int 60),(.int 0)]),(.list [(.int 60),(.int 70),(.int 40),(.int 0)]),(.list [(.int 50),(.int 40),(.int 20),(.int (-30)),(.int 0)]),(.list [(.int 90),(.int 100),(.int (-40)),(.int 140),(.int 260),(.int 0)])])),(aa "MINOR_THREATS",(.list [.none,(.tup [(.int 5),(.int 32)]),(.tup [(.int 55),(.int 41)]),(.tup [(.int 77),(.int 56)]),(.tup [(.int 89),(.int 119)]),(.tup [(.int 79),(.int 162)]),(.tup [(.int 0),(.int 0)])])),(aa "ROOK_THREATS",(.list [.none,(.tup [(.int 3),(.int 44)]),(.tup [(.int 37),(.int 68)]),(.tup [(.int 42),(.int 60)]),(.tup [(.int 0),(.int 39)]),(.tup [(.int 58),(.int 43)]),(.tup [(.int 0),(.int 0)])])),(aa "MATE",(.int 32000)),(aa "MAX_PLY",(.int 246)),(aa "MATE_LEAST",(.int 31754)),(aa "EVAL_MOST",(.int 31753)),(aa "TEMPO",(.int 28)),(aa "TERM_NAMES",(.list [(.str (aa "pieces")),(.str (aa "imbalance")),(.str (aa "pawns")),(.str (aa "mobility")),(.str (aa "king")),(.str (aa "threats")),(.str (aa "space"))])),(aa "_law_values",(.list [(.int 0),(.int 126),(.int 781),(.int 825),(.int 1276),(.int 2538),(.int 0)]))]
noncomputable def br:P5:=⟨nth Ud,nth Ac,λf=>f==17⟩
section
open PyProof.Rows PySem.W PySem.Spec
theorem no{P:Prop}{α:Type}{a:α}(h:(none:Option α)=some a):P:=nomatch h
@[reducible] noncomputable def aX:=Addr->Option Obj
noncomputable def BI.fn:BI->Value
 | .len=> .builtin "len" | .abs=> .builtin "abs" | .min=> .builtin "min" | .max=> .builtin "max" | .sum=> .builtin "sum" | .str=> .type "str" | .range=> .type "range"
noncomputable def BI.name:BI->Str
 | .len=>aa "len" | .abs=>aa "abs" | .min=>aa "min" | .max=>aa "max" | .sum=>aa "sum" | .str=>aa "str" | .range=>aa "range"
noncomputable def xh{α:Type}{p:Prop}[Decidable p](d:α)(f:p->α):α:=if h:p then f h else d
noncomputable def Fd(l:List α):Bool:=l.isEmpty
noncomputable def M_(l:List α)(f:α->List α->Bool):Bool:=match l with
 | a::r=>f a r
 |[]=>false
noncomputable def My{α:Type}(e:ag)(d:Option α)(f:Str->Option α):Option α:=xh (p:=e.ctorIdx=23) d λq=>Expr.Name.elim (motive_1:=λ_=>Option α) e q λx _=>f x
noncomputable def T4{α:Type}(s:Stmt)(d:α)(f:Str->Arguments->List Stmt->Scope->α):α:=xh (p:=s.ctorIdx=0) d λq=>Stmt.FunctionDef.elim (motive_2:=λ_=>α) s q λn a b _ _ _ sc _ _ _=>f n a b sc
noncomputable def Uu{α:Type}(s:Stmt)(d:α)(f:Str->List Stmt->α):α:=xh (p:=s.ctorIdx=2) d λq=>Stmt.ClassDef.elim (motive_2:=λ_=>α) s q λn _ _ b _ _ _ _ _ _ _=>f n b
noncomputable def nh(p:Program):List (Arguments×List Stmt×Scope):=p.main.body.filterMap λst=>T4 st none λ_ a b sc=>some (a,b,sc)
noncomputable def rC(p:Program):List (Arguments×List Stmt×Scope):=p.main.body.filterMap λst=>Uu st none λ_ l=>l.head?.bind λst=>T4 st none λ_ a b sc=>some (a,b,sc)
noncomputable def Nx:List Nat->Nat
 |[]=>0
 | c::r=>b_ (Nat.add c (Nat.mul 1114112 (Nx r)))
noncomputable def code(s:Str):Nat:=Nx s.cps.toList
noncomputable def w':Value->Nat
 | .str s _=>b_ (code s)
 | _=>0
noncomputable def ff:List DictEntry->Nat->Option DictEntry
 |[],_=>none
 | e::r,k=>match eV (w' e.key) k with
  | true=>some e
  | false=>ff r k
noncomputable def FD(g:aX)(a:Addr):List DictEntry:=match g a with
 | some o=>(match o.data with | .dict es _=>es.toList | _=>[])
 | none=>[]
noncomputable def NP(g:aX)(a:Addr)(x:Str):Option Value:=(ff (FD g a) (b_ (code x))).bind λe=>if e.key.isStr x then some e.val else none
noncomputable def I1(g:aX)(a:Addr)(x:Str):Bool:=(ff (FD g a) (b_ (code x))).isNone
noncomputable def Aa(g:aX)(a:Addr):Bool:=(match g a with | some o=>(match o.data with | .dict .. =>true | _=>false) | none=>false)&&(FD g a).all λe=>match e.key with | .str .. =>true | _=>false
noncomputable def Q9(v:Value)(f:Addr->Bool):Bool:=match v with
 | .ref a=>f a
 | _=>false
noncomputable def IX(g:aX)(T:String)(v:Value)(f:List Value->Bool):Bool:=Q9 v λa=>match g a with
 | some ⟨.type t,none,.seq its _,sl⟩=>(t==T)&&((sl.size==0)&&f its.toList)
 | _=>false
noncomputable def Ms(f:T->Value->Bool):List T->List Value->Bool
 |[],vs=>Fd vs
 | t::ts,vs=>M_ vs λv vs=>f t v&&Ms f ts vs
noncomputable def Mu(g:aX):Nat->T->Value->Bool
 | 0,_,_=>false
 | n+1,t,v=>t.casesOn (match v with | .none=>true | _=>false) (λb=>match v with | .bool a=>a==b | _=>false) (λi=>match v with | .int a _=>a==i | _=>false) (λx=>match v with | .str a _=>a==x | _=>false)
   (λl=>IX g "list" v (Ms (Mu g n) l)) (λl=>IX g "tuple" v (Ms (Mu g n) l)) (λ_ _ _=>false) λ_ _ _=>false
noncomputable def Jz(g:aX)(a:Addr):List (Addr×Obj):=(g a).elim [] λo=>[(a,o)]
noncomputable def Jf(v:Option Value)(f:Addr->List (Addr×Obj)):List (Addr×Obj):=match v with
 | some (.ref a)=>f a
 | _=>[]
noncomputable def Sx(o:Option Obj)(f:Addr->List (Addr×Obj)):List (Addr×Obj):=match o with
 | some ⟨_,_,.cls cd,_⟩=>f cd.ns
 | _=>[]
noncomputable def C6(g:aX)(x:Str):Frag:=Jf (NP g mainGlobals x) λC=>Jz g C++Sx (g C) λn=>Jz g n++Jf (NP g n (aa "__init__")) λf=>Jz g f
noncomputable def jh(g:aX):Frag:=jw.flatMap (C6 g)
@[reducible] noncomputable def Tt:=Arguments×List Stmt×Scope
@[reducible] noncomputable def uy:=Arguments×FuncBody×Scope×Addr×List (Str×Addr)×Addr×Value×Bool
noncomputable def Hd(g:aX)(cd:Value)(q:Str):Bool:=match cd with
 | .ref c=>(match g c with
  | some o=>(match o.data with
   | .fields vs=>(match (vs[1]? :Option Value)with | some (Value.str n _)=>n==q | _=>false)
   | _=>false)
  | none=>false)
 | _=>false
noncomputable def ES(g:aX)(a:Addr):Option uy:=match g a with
 | some o=>match o.data with
  | .func fd=>some (fd.params,fd.body,fd.scope,fd.globals,fd.closure,fd.builtins,fd.defaults,Hd g fd.code fd.qualname)
  | _=>none
 | none=>none
noncomputable def Br(d:Tt):uy:=(d.1,.stmts d.2.1,d.2.2,mainGlobals,[],builtinsNs,.none,true)
noncomputable def Jx(v:Option Value):Addr:=match v with
 | some (.ref a)=>a
 | _=>0
noncomputable def BO(v:Option Value)(f:Addr->Option uy):Option uy:=match v with
 | some (.ref a)=>f a
 | _=>none
noncomputable def QN(c:Nat):Str:=(nth jw c).getD (aa "Geometry")
noncomputable def Me(g:aX)(c:Nat):Addr:=Jx (NP g mainGlobals (QN c))
noncomputable def Ad(K:Frag)(C:Addr):Option Value:=(findIn K (.ref C) (aa "__init__")).join
noncomputable def wD(g:aX):List (Option uy):=fR.map λx=>BO (NP g mainGlobals x) (ES g)
noncomputable def wE(p:Program):List (Option uy):=(nh p).map λd=>some (Br d)
noncomputable def FC:List Nat:=[0,1,2,3,4]
noncomputable def pg(g:aX):List (Option uy):=FC.map λc=>BO (Ad (jh g) (Me g c)) (ES g)
noncomputable def pi(p:Program):List (Option uy):=(rC p).map λd=>some (Br d)
noncomputable def Iw(g:aX)(K:Frag)(c:Nat)(C:Addr):Bool:=
 (findIn K (.ref C) "__getattribute__"==some (some (.builtin "object.__getattribute__")))&&(hasDictIn K C&&((bY.all λx=>findIn K (.ref C) x==some none)&&
 ((findIn K (.ref C) "__setattr__"==some (some (.builtin "object.__setattr__")))&&(plainOver K C&&(makesIn K C&&((NP g mainGlobals (QN c)==some (.ref C))&&
 ((Ad K C).any λf=>typeIn K f==some (.type "function"))))))))
noncomputable def ND:List BI:=[.len,.abs,.min,.max,.sum,.str,.range]
noncomputable def MB(g:aX):Bool:=(FC.all λc=>Iw g (jh g) c (Me g c))&&((oz.all λp=>(NP g mainGlobals p.1).any (Mu g 8 p.2))&&
 ((ND.all λb=>I1 g mainGlobals b.name&&(NP g builtinsNs b.name==some b.fn))&&(Aa g mainGlobals&&(Aa g builtinsNs&&(Aa g cStatics&&I1 g cStatics "sys.recursionlimit")))))
@[reducible] noncomputable def SW:=List (Option uy)×List (Option uy)×Bool
noncomputable def me(g:aX):SW:=(wD g,pg g,MB g)
noncomputable def nW(p:Program):SW:=(wE p,pi p,true)
@[reducible] noncomputable def pw:Program:=PySem.Challenge.pw_nt0471_01
noncomputable def No(s:Stmt):Bool:=T4 s false λn _ _ _=>n==aa "law"
noncomputable def OJ(s:Stmt):Option Str:=T4 s (Uu s (xh (p:=s.ctorIdx=5) none λq=>Stmt.Assign.elim (motive_2:=λ_=>Option Str) s q λts _ _=>ts.head?.bind λt=>My t none some) λn _=>some n) λn _ _ _=>some n
noncomputable def q1(p:Program):Program:={p with main:={p.main with body:=p.main.body.filter No}}
noncomputable def xv(p:Program):List Str:=(p.main.body.filter (λs=> !No s)).filterMap OJ
@[reducible] noncomputable def Sn:OpenLaw:=PySem.Challenge.rw_nt0471_01
theorem J8:Fc (readsOut Challenge.rw_nt0471_01.row.prog Challenge.rw_nt0471_01.row.prog.main.body) ["vars","dir","locals"]=[]:=by kernel_rfl
theorem Ol:(importedModules Challenge.rw_nt0471_01.row.prog.main.body).all cThrough.contains=true:=by kernel_rfl
theorem Ga:noRoadLSs {strict:= !true,foot:=none,bare:=[]} Challenge.rw_nt0471_01.row.prog.main.body=true:=by kernel_rfl
theorem J7:noRoadLSs {strict:= !(importedModules Challenge.rw_nt0471_01.row.prog.main.body).all cThrough.contains,foot:=none,bare:=Fc (readsOut Challenge.rw_nt0471_01.row.prog Challenge.rw_nt0471_01.row.prog.main.body) ["vars","dir","locals"]} Challenge.rw_nt0471_01.row.prog.main.body=true:=by
 rw [J8,Ol];exact Ga
theorem Oj:namesResolve Challenge.rw_nt0471_01.row.prog=true:=by kernel_rfl
theorem J9:(namesMeet Challenge.rw_nt0471_01.row.prog Challenge.rw_nt0471_01.row.prog.main.body λ_ n=>attrL n)=true:=by kernel_rfl
theorem Tv:OpenLaw.wellSaid PySem.Challenge.rw_nt0471_01=true:=by
 unfold OpenLaw.wellSaid OpenRow.wellSaid OpenRow.partSaid looksOpen
 repeat' (with_reducible refine look_both ?_ ?_)
 kernel_rfl
 kernel_rfl
 with_reducible exact Oj
 kernel_rfl
 with_reducible exact J7
 with_reducible exact J9
 all_goals kernel_rfl
@[reducible] noncomputable def pr:Program:=Sn.row.prog
noncomputable def Mr(p:Program)(w:World)(n₀:Nat)(ann:Option Value):Nat->SharedT->Thread->Option SharedT
 | 0,_,_=>none
 | n+1,s,t=>match through t with
  | true=>some s
  | false=>match PySem.W.Fast.tw6613529449190102663 n₀ ann t with
   | false=>none
   | true=>match PySem.W.Fast.tw10156331382660048174 (PySem.W.Fast.tw11892475500146522536 PySem.W.Fast.tw14364793385576792824) p w s t with
    | some (s',t')=>Mr p w n₀ ann n s' t'
    | none=>none
theorem yC{p:Program}{w:World}{n₀:Nat}{ann:Option Value}:∀(N:Nat) (s:SharedT) (t:Thread) (s':SharedT),Mr p w n₀ ann N s t=some s'->topRun treeTable p w n₀ ann N s.abs t=some s'.abs
 | 0,_,_,_,h=>no h
 | n+1,s,t,s',h=>by
  unfold Mr at h
  unfold topRun
  rw [<-PySem.W.Fast.te6613529449190102663,<-PySem.W.Fast.te10156331382660048174,<-PySem.W.Fast.te11892475500146522536,<-PySem.W.Fast.te14364793385576792824]at h
  cases q:through t with
  | true=>rw [q]at h;exact congrArg (λs=>some s.abs) (ah.inj h)
  | false=>
   rw [q]at h
   cases k:stepOk n₀ ann t with
   | false=>rw [k]at h;exact no h
   | true=>
    rw [k]at h
    cases e:stepT (denote treeTable) p w s t with
    | none=>rw [e]at h;exact no h
    | some r=>
     rw [e]at h
     dsimp only
     rw [stepT_spec e]
     exact yC n r.1 r.2 s' h
noncomputable def Us:Nat->BT->List Obj->BT
 | _,t,[]=>t
 | n,t,o::r=>Us (n+1) (t.ins n o) r
noncomputable def NB(P:Params):BT:=Us 0 .nil (boot_heap P).objs.toList
noncomputable def Bb(w:World)(os:OsState):Option SharedT:=Mr pr w (boot_heap w.params).objs.size ((boot_heap w.params).nsMap mainGlobals "__annotations__") 12464 ⟨NB w.params,(boot_heap w.params).objs.size,(boot_heap w.params).life,DN [],boot_drawn,boot_toks,os⟩ (topStub pr)
noncomputable def gT(s:SharedT)(a:Addr):Option Obj:=match Tj a s.n with
 | true=>alive ((s.tree.get a).getD default)
 | false=>none
theorem O7(s:SharedT):s.abs.heap.get? =gT s:=funext λa=>by
 unfold gT
 cases e:Tj a s.n with
 | false=>exact abs_get_none λq=>by rw [show Tj a s.n=true from Nat.ble_eq_true_of_le q]at e;cases e
 | true=>
  show (absHeap s.tree s.n s.life).get? a=_
  unfold Heap.get?
  rw [absHeap_at,if_pos (show a<s.n from bm e)]
  show (match some ((s.tree.get a).getD default)with | some ⟨_,_,.freed,_⟩=>none | o=>o)=alive ((s.tree.get a).getD default)
  generalize (s.tree.get a).getD default=o
  obtain ⟨c,d,dt,sl⟩:=o
  cases dt<;>rfl
theorem Hv(P:Params):absHeap (NB P) (boot_heap P).objs.size (boot_heap P).life=boot_heap P:=by kernel_rfl
theorem Rm(w:World)(os:OsState):(Bb w os).map (λs=>staticsOk (importedModules pr.main.body) (boot_heap w.params) s.abs.heap&&namesBound pr s.abs.heap&&gensDone s.abs&&laidKept (boot_heap w.params) s.abs.heap)=some true:=by
 unfold Bb
 rw [PySem.W.Fast.te8920871248978507458]
 kernel_rfl
theorem Rl(w:World)(os:OsState):(Bb w os).map (λs=>openSeen (q1 pr) (xv pr) (importedModules pr.main.body) (λs=>recOk Sn.row.records s) true s.abs)=some (openGood (q1 pr) (xv pr)):=by
 unfold Bb
 rw [PySem.W.Fast.te8920871248978507458]
 kernel_rfl
theorem Rk(w:World)(os:OsState):(Bb w os).map (λs=>me (gT s))=some (nW pw):=by
 unfold Bb
 rw [PySem.W.Fast.te8920871248978507458]
 kernel_rfl
theorem Ly{p:Program}{w:World}{N:Nat}{a s:Shared}(e:fencedOpening treeTable p w N=some a)(g:(a.heap.isNs mainGlobals&&a.gens.size==0)=true)(r:topRun treeTable p w a.heap.objs.size (a.heap.nsMap mainGlobals "__annotations__") N a (topStub p)=some s)(l:(staticsOk (importedModules p.main.body) a.heap s.heap&&namesBound p s.heap&&gensDone s&&laidKept a.heap s.heap)=true):openEnds treeTable p w N=some s:=by
 unfold openEnds
 rw [e]
 show topFrom treeTable p w N a=_
 unfold topFrom
 rw [g]
 show (topRun _ _ _ _ _ _ _ _).bind _=_
 rw [r]
 show (match staticsOk (importedModules p.main.body) a.heap s.heap&&namesBound p s.heap&&gensDone s&&laidKept a.heap s.heap with | true=>some s | false=>none)=_
 rw [l]
theorem PN{h:Heap}{tr:BT}{n:Nat}{l:Life}{gs}{d:Drawn}{k}{os:OsState}(e:absHeap tr n l=h):SharedT.abs ⟨tr,n,l,gs,d,k,os⟩=⟨h,gs,d,k,os⟩:=congrArg (λh=>Shared.mk h gs d k os) e
theorem LO(P:Params):((boot_heap P).isNs mainGlobals&&(DN []:Array GenState).size==0)=true:=by kernel_rfl
theorem G4(s:Shared):fenceModules? pr s=some s:=rfl
theorem AB:opening pr=plainProg pr.main.scope.names:=rfl
theorem FT{w:World}{os:OsState}{s:SharedT}(e:Bb w os=some s):topRun treeTable pr w (boot_heap w.params).objs.size ((boot_heap w.params).nsMap mainGlobals "__annotations__") 12464 ⟨boot_heap w.params,DN [],boot_drawn,boot_toks,os⟩ (topStub pr)=some s.abs:=by
 unfold Bb at e
 have r:=yC _ _ _ _ e
 rw [PN (Hv w.params)]at r
 exact r
theorem left:LeftO pr (q1 pr) (xv pr) (λs=>recOk Sn.row.records s) (λs=>me s.heap.get?) (λ_=>nW pw) 12464:=λw=>by
 obtain ⟨⟨h,gs,d,k,os⟩,e1,e2⟩:=cT.mp (boot_open (N:=12464) AB (by decide) G4 w)
 obtain ⟨rfl,rfl,rfl,rfl⟩:h=boot_heap w.params/\gs=DN []/\d=boot_drawn/\k=boot_toks:=⟨congrArg (·.1) e2,congrArg (·.2.1) e2,congrArg (·.2.2.1) e2,congrArg (·.2.2.2) e2⟩
 obtain ⟨s,t1,l1⟩:=cT.mp (Rm w os)
 obtain ⟨s',t2,l2⟩:=cT.mp (Rl w os)
 obtain ⟨s3,t3,l3⟩:=cT.mp (Rk w os)
 obtain rfl:=ah.inj (t1.symm.trans t2)
 obtain rfl:=ah.inj (t1.symm.trans t3)
 rw [Ly e1 (LO w.params) (FT t1) l1]
 exact congrArg some (Prod.ext l2 ((congrArg me (O7 s)).trans l3))
end
section
theorem T.int_inj{a b:Int}(h:T.int a=T.int b):a=b:=by cases h;rfl
theorem T.list_inj{a b:List T}(h:T.list a=T.list b):a=b:=by cases h;rfl
theorem O.sh_inj{a b:T}(h:O.sh a=O.sh b):a=b:=by cases h;rfl
noncomputable def Ok{α:Type}(o:Option α)(P:α->Prop):Prop:=∀t,o=some t->P t
section
variable{α β:Type}{P Q:α->Prop}{o o':Option α}
theorem Ok.none:Ok none P:=λ_ h=>no h
theorem Ok.some{a:α}(h:P a):Ok (some a) P:=λ_ e=>ah.inj e▸h
theorem Ok.bind{f:α->Option β}{R:β->Prop}(h:Ok o P)(k:∀t,P t->Ok (f t) R):Ok (o.bind f) R:=by
 cases o with
 | none=>exact Ok.none
 | some a=>exact k a (h a rfl)
theorem Ok.map{f:α->β}{R:β->Prop}(h:Ok o λt=>R (f t)):Ok (o.map f) R:=by
 cases o with
 | none=>exact Ok.none
 | some a=>exact Ok.some (h a rfl)
theorem Ok.mono(h:Ok o P)(k:∀t,P t->Q t):Ok o Q:=λt e=>k t (h t e)
theorem Ok.alt(h:Ok o P)(k:Ok o' P):Ok (o.or o') P:=by
 cases o with
 | none=>exact k
 | some a=>exact h
theorem Ok.if1{c:Prop}[Decidable c](h:c->Ok o P):Ok (if c then o else ae) P:=by
 split
 ·exact h ‹_›
 ·exact Ok.none
theorem Ok.ite{c:Prop}[Decidable c](h:c->Ok o P)(k:¬c->Ok o' P):Ok (if c then o else o') P:=by
 split
 ·exact h ‹_›
 ·exact k ‹_›
end
noncomputable def P2{α β:Type}(P:α->β->Prop)(x:Option α)(y:Option β):Prop:=∃a b,x=some a/\y=some b/\P a b
section
variable{α β γ δ:Type}{P:α->β->Prop}{x:Option α}{y:Option β}
theorem P2.mk{a:α}{b:β}(h:P a b):P2 P (some a) (some b):=⟨a,b,rfl,rfl,h⟩
theorem P2.bind{Q:γ->δ->Prop}{f:α->Option γ}{g:β->Option δ}(h:P2 P x y)(k:∀a b,P a b->P2 Q (f a) (g b)):P2 Q (x.bind f) (y.bind g):=by
 obtain ⟨a,b,rfl,rfl,h⟩:=h;exact k a b h
theorem P2.map{Q:γ->δ->Prop}{f:α->γ}{g:β->δ}(h:P2 P x y)(k:∀a b,P a b->Q (f a) (g b)):P2 Q (x.map f) (y.map g):=by
 obtain ⟨a,b,rfl,rfl,h⟩:=h;exact P2.mk (k a b h)
theorem P2.mono{Q:α->β->Prop}(h:P2 P x y)(k:∀a b,P a b->Q a b):P2 Q x y:=by
 obtain ⟨a,b,rfl,rfl,h⟩:=h;exact P2.mk (k a b h)
theorem bind_some{α β:Type}{o:Option α}{g:α->Option β}{y:β}(h:o.bind g=some y):∃x,o=some x/\g x=some y:=by
 cases o with
 | none=>exact no h
 | some x=>exact ⟨x,rfl,h⟩
theorem aT{α β:Type}{o:Option α}{g:α->β}{y:β}(h:o.map g=some y):∃x,o=some x/\g x=y:=by
 cases o with
 | none=>exact no h
 | some x=>exact ⟨x,rfl,ah.inj h⟩
end
section
variable{β:Type}{t:T}{P:T->β->Prop}
theorem T.onI_ok{f:Int->Option β}(h:∀i,Ok (f i) (P (.int i))):Ok (t.onI f) (P t):=by cases t<;>first | exact h _ | exact Ok.none
theorem T.onB_ok{f:Bool->Option β}(h:∀i,Ok (f i) (P (.bool i))):Ok (t.onB f) (P t):=by cases t<;>first | exact h _ | exact Ok.none
theorem T.onS_ok{f:Str->Option β}(h:∀i,Ok (f i) (P (.str i))):Ok (t.onS f) (P t):=by cases t<;>first | exact h _ | exact Ok.none
theorem T.onL_ok{f:List T->Option β}(h:∀i,Ok (f i) (P (.list i))):Ok (t.onL f) (P t):=by cases t<;>first | exact h _ | exact Ok.none
theorem T.onT_ok{f:List T->Option β}(h:∀i,Ok (f i) (P (.tup i))):Ok (t.onT f) (P t):=by cases t<;>first | exact h _ | exact Ok.none
theorem T.onISL_ok{fi:Int->Option β}{fs:Str->Option β}{fl:List T->Option β}(h1:∀i,Ok (fi i) (P (.int i)))(h2:∀i,Ok (fs i) (P (.str i)))(h3:∀i,Ok (fl i) (P (.list i))):Ok (t.onISL fi fs fl) (P t):=by cases t<;>first | exact h1 _ | exact h2 _ | exact h3 _ | exact Ok.none
theorem T.onBIL_ok{fb:Bool->Option β}{fi:Int->Option β}{fl:List T->Option β}(h1:∀i,Ok (fb i) (P (.bool i)))(h2:∀i,Ok (fi i) (P (.int i)))(h3:∀i,Ok (fl i) (P (.list i))):Ok (t.onBIL fb fi fl) (P t):=by cases t<;>first | exact h1 _ | exact h2 _ | exact h3 _ | exact Ok.none
theorem T.onEq_ok{fi:Int->Option β}{fs:Str->Option β}{fl ft:List T->Option β}(h1:∀i,Ok (fi i) (P (.int i)))(h2:∀i,Ok (fs i) (P (.str i)))(h3:∀i,Ok (fl i) (P (.list i)))(h4:∀i,Ok (ft i) (P (.tup i))):Ok (t.onEq fi fs fl ft) (P t):=by cases t<;>first | exact h1 _ | exact h2 _ | exact h3 _ | exact h4 _ | exact Ok.none
end
section
variable{β:Type}{l:List T}{P:List T->β->Prop}
theorem H0{o:Option β}(h:Ok o (P [])):Ok (S7 l o) (P l):=by cases l<;>first | exact h | exact Ok.none
theorem Bm{f:T->Option β}(h:∀a,Ok (f a) (P [a])):Ok (QK l f) (P l):=by
 cases l with
 | nil=>exact Ok.none
 | cons a r=>exact H0 (P:=λr=>P (a::r)) (h a)
theorem OB{f:T->T->Option β}(h:∀a b,Ok (f a b) (P [a,b])):Ok (TT l f) (P l):=by
 cases l with
 | nil=>exact Ok.none
 | cons a r=>exact Bm (P:=λr=>P (a::r)) (h a)
end
noncomputable def T.onX{α:Type}(t:T)(f:Nat->List Nat->List T->Option α):Option α:=t.casesOn ae (λ_=>ae) (λ_=>ae) (λ_=>ae) (λ_=>ae) (λ_=>ae) f (λ_ _ _=>ae)
noncomputable def T.onO{α:Type}(t:T)(o:Option α):Option α:=t.casesOn o (λ_=>ae) (λ_=>ae) (λ_=>ae) (λ_=>ae) (λ_=>ae) (λ_ _ _=>ae) (λ_ _ _=>ae)
theorem T.onX_ok{β:Type}{t:T}{P:T->β->Prop}{f:Nat->List Nat->List T->Option β}(h:∀c k l,Ok (f c k l) (P (.inst c k l))):Ok (t.onX f) (P t):=by cases t<;>first | exact h _ _ _ | exact Ok.none
theorem T.onO_ok{β:Type}{t:T}{P:T->β->Prop}{o:Option β}(h:Ok o (P .none)):Ok (t.onO o) (P t):=by cases t<;>first | exact h | exact Ok.none
noncomputable def T.sameN:Nat->T->T->Option Bool
 | 0,_,_=>ae
 | n+1,a,b=>a.casesOn (b.onO (some true)) (λx=>b.onB λy=>some (x==y)) (λx=>b.onI λy=>some (x==y)) (λx=>b.onS λy=>some (x==y)) (λl=>b.onL (lP (sameN n) l)) (λl=>b.onT (lP (sameN n) l))
   (λc k l=>b.onX λd j m=>if c=d/\k=j then lP (sameN n) l m else ae) λ_ _ _=>ae
noncomputable def T.same(a b:T):Bool:=(T.sameN 8 a b).any id
noncomputable def Ui{α:Type}(f:α->α->Option Bool):Prop:=∀a b,Ok (f a b) λr=>r=true->a=b
theorem rE{f:T->T->Option Bool}(hf:Ui f):Ui (lP f)
 |[],[]=> .some λ_=>rfl
 |[],_::_=> .some λh=>aL h
 | _::_,[]=> .some λh=>aL h
 | a::r,b::q=> .bind (hf a b) λx hx=> .map ((rE hf r q).mono λy hy h=>by rw [aB]at h;rw [hx h.1,hy h.2])
theorem T.sameN_eq:∀n,Ui (T.sameN n)
 | 0,_,_=> .none
 | n+1,a,b=>by
  cases a with
  | none=>exact T.onO_ok (P:=λb r=>r=true->T.none=b) (.some λ_=>rfl)
  | bool x=>exact T.onB_ok (P:=λb r=>r=true-> .bool x=b) λy=> .some λh=>congrArg T.bool (eq_of_beq h)
  | int x=>exact T.onI_ok (P:=λb r=>r=true-> .int x=b) λy=> .some λh=>congrArg T.int (eq_of_beq h)
  | str x=>exact T.onS_ok (P:=λb r=>r=true-> .str x=b) λy=> .some λh=>congrArg T.str (eq_of_beq h)
  | list x=>exact T.onL_ok (P:=λb r=>r=true-> .list x=b) λy=>(rE (T.sameN_eq n) x y).mono λr e h=>congrArg T.list (e h)
  | tup x=>exact T.onT_ok (P:=λb r=>r=true-> .tup x=b) λy=>(rE (T.sameN_eq n) x y).mono λr e h=>congrArg T.tup (e h)
  | inst c k x=>exact T.onX_ok (P:=λb r=>r=true-> .inst c k x=b) λd j y=> .if1 λq=>(rE (T.sameN_eq n) x y).mono λr e h=>by rw [q.1,q.2,e h]
  | rng x y z=>exact .none
theorem T.same_eq{a b:T}(h:T.same a b=true):a=b:=by
 have h:(T.sameN 8 a b).any id=true:=h
 cases e:T.sameN 8 a b with
 | none=>rw [e]at h;cases h
 | some r=>rw [e]at h;exact T.sameN_eq 8 a b r e h
end
open PySem.W PyProof.Rows
section
noncomputable def Le(V W:aX):Prop:=∀b o,V b=some o->W b=some o
theorem Le.rfl{V:aX}:Le V V:=λ_ _ e=>e
theorem Le.trans{U V W:aX}(a:Le U V)(b:Le V W):Le U W:=λx o e=>b x o (a x o e)
noncomputable def nm(k:Nat):Str:=(nth bY k).getD (aa "")
noncomputable def cX(es:List DictEntry):List Nat->List Value->Prop
 |[],vs=>vs=[]
 | k::ks,vs=>∃v us,vs=v::us/\getL (nm k) es=some (some v)/\cX es ks us
@[reducible] noncomputable def nR(its:Array Value)(n:Nat):Obj:={cls:= .type "tuple",data:= .seq its n}
@[reducible] noncomputable def qj(a b c:Int)(t u v:Tok):Obj:={cls:= .type "range",dict:=none,data:= .fields #[.int a t,.int b u,.int c v],slots:= #[]}
section
variable(cl:Nat->Addr)
mutual
noncomputable def dw(V:aX):Value->T->Prop
 | v,.none=>v= .none
 | v,.bool b=>v= .bool b
 | v,.int i=>∃t,v= .int i t
 | v,.str x=>∃t,v= .str x t
 | v,.list ts=>∃a vs n,v= .ref a/\V a=some (listOf vs.toArray n)/\bA V vs ts
 | v,.tup ts=>∃a vs n,v= .ref a/\V a=some (nR vs.toArray n)/\bA V vs ts
 | v,.inst c ks ts=>∃a dx es n vs,v= .ref a/\V a=some (instObj (cl c) dx)/\V dx=some (dictOf es n)/\cX es ks vs/\bA V vs ts
 | v,.rng x y z=>∃a t u w,v= .ref a/\V a=some (qj x y z t u w)
noncomputable def bA(V:aX):List Value->List T->Prop
 | vs,[]=>vs=[]
 | vs,t::ts=>∃v us,vs=v::us/\dw V v t/\bA V us ts
end
mutual
noncomputable def ce(V g:aX):Value->O->List Addr->Prop
 | v,.sh t,fp=>fp=[]/\dw cl V v t
 | v,.lst os,fp=>∃a vs n f,v= .ref a/\fp=a::f/\g a=some (listOf vs.toArray n)/\bw V g vs os f
 | v,.ins c ks os,fp=>∃a dx es n vs f,v= .ref a/\fp=a::dx::f/\g a=some (instObj (cl c) dx)/\g dx=some (dictOf es n)/\(∀e∈es,e.refKey=false)/\es.length<=ks.length/\cX es ks vs/\bw V g vs os f
noncomputable def bw(V g:aX):List Value->List O->List Addr->Prop
 | vs,[],fp=>vs=[]/\fp=[]
 | vs,o::os,fp=>∃v us f1 f2,vs=v::us/\fp=f1++f2/\ce V g v o f1/\bw V g us os f2
end
end
theorem T.both{P:T->Prop}{Q:List T->Prop}(h1:P .none)(h2:∀b,P (.bool b))(h3:∀i,P (.int i))(h4:∀x,P (.str x))(h5:∀l,Q l->P (.list l))(h6:∀l,Q l->P (.tup l))(h7:∀c ks l,Q l->P (.inst c ks l))(h8:∀a b c,P (.rng a b c))(h9:Q [])(h10:∀t l,P t->Q l->Q (t::l)):(∀t,P t)/\∀l,Q l:=
 ⟨λt=>T.rec (motive_1:=P) (motive_2:=Q) h1 h2 h3 h4 h5 h6 h7 h8 h9 h10 t,λl=>T.rec_1 (motive_1:=P) (motive_2:=Q) h1 h2 h3 h4 h5 h6 h7 h8 h9 h10 l⟩
theorem O.both{P:O->Prop}{Q:List O->Prop}(h1:∀t,P (.sh t))(h2:∀l,Q l->P (.lst l))(h3:∀c ks l,Q l->P (.ins c ks l))(h9:Q [])(h10:∀t l,P t->Q l->Q (t::l)):(∀t,P t)/\∀l,Q l:=
 ⟨λt=>O.rec (motive_1:=P) (motive_2:=Q) h1 h2 h3 h9 h10 t,λl=>O.rec_1 (motive_1:=P) (motive_2:=Q) h1 h2 h3 h9 h10 l⟩
section
variable{cl:Nat->Addr}{V W g g':aX}
theorem dw.none:dw cl V .none .none:=rfl
theorem dw.bool(b:Bool):dw cl V (.bool b) (.bool b):=rfl
theorem dw.int(i:Int)(t:Tok):dw cl V (.int i t) (.int i):=⟨t,rfl⟩
theorem dw.str(x:Str)(t:Tok):dw cl V (.str x t) (.str x):=⟨t,rfl⟩
theorem dw.list(a:Addr)(vs:List Value)(n:Nat)(ts:List T)(h:V a=some (listOf vs.toArray n))(k:bA cl V vs ts):dw cl V (.ref a) (.list ts):=⟨a,vs,n,rfl,h,k⟩
theorem dw.tup(a:Addr)(vs:List Value)(n:Nat)(ts:List T)(h:V a=some (nR vs.toArray n))(k:bA cl V vs ts):dw cl V (.ref a) (.tup ts):=⟨a,vs,n,rfl,h,k⟩
theorem dw.inst(a dx:Addr)(es:List DictEntry)(n c:Nat)(ks:List Nat)(vs:List Value)(ts:List T)(h1:V a=some (instObj (cl c) dx))(h2:V dx=some (dictOf es n))(h3:cX es ks vs)(k:bA cl V vs ts):dw cl V (.ref a) (.inst c ks ts):=⟨a,dx,es,n,vs,rfl,h1,h2,h3,k⟩
theorem dw.rng(a:Addr)(x y z:Int)(t u v:Tok)(h:V a=some (qj x y z t u v)):dw cl V (.ref a) (.rng x y z):=⟨a,t,u,v,rfl,h⟩
theorem bA.nil:bA cl V [] []:=rfl
theorem bA.cons{v:Value}{t:T}{vs:List Value}{ts:List T}(h:dw cl V v t)(k:bA cl V vs ts):bA cl V (v::vs) (t::ts):=⟨v,vs,rfl,h,k⟩
theorem ce.sh{v:Value}{t:T}(h:dw cl V v t):ce cl V g v (.sh t) []:=⟨rfl,h⟩
theorem ce.lst(a:Addr)(vs:List Value)(n:Nat)(os:List O)(fp:List Addr)(h:g a=some (listOf vs.toArray n))(k:bw cl V g vs os fp):ce cl V g (.ref a) (.lst os) (a::fp):=⟨a,vs,n,fp,rfl,rfl,h,k⟩
theorem ce.ins(a dx:Addr)(es:List DictEntry)(n c:Nat)(ks:List Nat)(vs:List Value)(os:List O)(fp:List Addr)(h1:g a=some (instObj (cl c) dx))(h2:g dx=some (dictOf es n))(h3:∀e∈es,e.refKey=false)(h4:es.length<=ks.length)(h5:cX es ks vs)(k:bw cl V g vs os fp):ce cl V g (.ref a) (.ins c ks os) (a::dx::fp):=⟨a,dx,es,n,vs,fp,rfl,rfl,h1,h2,h3,h4,h5,k⟩
theorem bw.nil:bw cl V g [] [] []:=⟨rfl,rfl⟩
theorem bw.cons{v:Value}{o:O}{vs:List Value}{os:List O}{f1 f2:List Addr}(h:ce cl V g v o f1)(k:bw cl V g vs os f2):bw cl V g (v::vs) (o::os) (f1++f2):=⟨v,vs,f1,f2,rfl,rfl,h,k⟩
section
variable{Q:Value->Prop}{R:List Value->Prop}{v:Value}{vs:List Value}{t:T}{ts:List T}
theorem dw.noneE(h:dw cl V v .none)(k:Q .none):Q v:=by rw [show v= .none from h];exact k
theorem dw.boolE{b:Bool}(h:dw cl V v (.bool b))(k:Q (.bool b)):Q v:=by rw [show v= .bool b from h];exact k
theorem dw.intE{i:Int}(h:dw cl V v (.int i))(k:∀t,Q (.int i t)):Q v:=by obtain ⟨t,e⟩:=h;rw [e];exact k t
theorem dw.strE{x:Str}(h:dw cl V v (.str x))(k:∀t,Q (.str x t)):Q v:=by obtain ⟨t,e⟩:=h;rw [e];exact k t
theorem dw.listE(h:dw cl V v (.list ts))(k:∀a vs n,V a=some (listOf vs.toArray n)->bA cl V vs ts->Q (.ref a)):Q v:=by obtain ⟨a,vs,n,e,e1,e2⟩:=h;rw [e];exact k a vs n e1 e2
theorem dw.tupE(h:dw cl V v (.tup ts))(k:∀a vs n,V a=some (nR vs.toArray n)->bA cl V vs ts->Q (.ref a)):Q v:=by obtain ⟨a,vs,n,e,e1,e2⟩:=h;rw [e];exact k a vs n e1 e2
theorem dw.instE{c:Nat}{ks:List Nat}(h:dw cl V v (.inst c ks ts))(k:∀a dx es n vs,V a=some (instObj (cl c) dx)->V dx=some (dictOf es n)->cX es ks vs->bA cl V vs ts->Q (.ref a)):Q v:=by obtain ⟨a,dx,es,n,vs,e,e1,e2,e3,e4⟩:=h;rw [e];exact k a dx es n vs e1 e2 e3 e4
theorem dw.rngE{x y z:Int}(h:dw cl V v (.rng x y z))(k:∀a t u w,V a=some (qj x y z t u w)->Q (.ref a)):Q v:=by obtain ⟨a,t,u,w,e,e1⟩:=h;rw [e];exact k a t u w e1
theorem bA.nilE(h:bA cl V vs [])(k:R []):R vs:=by rw [show vs=[]from h];exact k
theorem bA.consE(h:bA cl V vs (t::ts))(k:∀v us,dw cl V v t->bA cl V us ts->R (v::us)):R vs:=by obtain ⟨v,us,e,e1,e2⟩:=h;rw [e];exact k v us e1 e2
end
section
variable{Q:Value->List Addr->Prop}{R:List Value->List Addr->Prop}{v:Value}{vs:List Value}{o:O}{os:List O}{fp:List Addr}
theorem ce.lstE(h:ce cl V g v (.lst os) fp)(k:∀a vs n f,g a=some (listOf vs.toArray n)->bw cl V g vs os f->Q (.ref a) (a::f)):Q v fp:=by obtain ⟨a,vs,n,f,e,e',e1,e2⟩:=h;rw [e,e'];exact k a vs n f e1 e2
theorem ce.insE{c:Nat}{ks:List Nat}(h:ce cl V g v (.ins c ks os) fp)(k:∀a dx es n vs f,g a=some (instObj (cl c) dx)->g dx=some (dictOf es n)->(∀e∈es,e.refKey=false)->es.length<=ks.length->cX es ks vs->bw cl V g vs os f->Q (.ref a) (a::dx::f)):Q v fp:=by
 obtain ⟨a,dx,es,n,vs,f,e,e',e1,e2,e3,e4,e5,e6⟩:=h;rw [e,e'];exact k a dx es n vs f e1 e2 e3 e4 e5 e6
theorem bw.nilE(h:bw cl V g vs [] fp)(k:R [] []):R vs fp:=by rw [h.1,h.2];exact k
theorem bw.consE(h:bw cl V g vs (o::os) fp)(k:∀v us f1 f2,ce cl V g v o f1->bw cl V g us os f2->R (v::us) (f1++f2)):R vs fp:=by obtain ⟨v,us,f1,f2,e,e',e1,e2⟩:=h;rw [e,e'];exact k v us f1 f2 e1 e2
end
theorem yE(h:Le V W):(∀(t:T) v,dw cl V v t->dw cl W v t)/\∀(ts:List T) vs,bA cl V vs ts->bA cl W vs ts:=
 T.both (λ_ q=>q) (λ_ _ q=>q) (λ_ _ q=>q) (λ_ _ q=>q) (λl ih v q=>q.listE (Q:=λv=>dw cl W v (.list l)) λa vs n e r=> .list a vs n l (h _ _ e) (ih vs r)) (λl ih v q=>q.tupE (Q:=λv=>dw cl W v (.tup l)) λa vs n e r=> .tup a vs n l (h _ _ e) (ih vs r))
  (λc ks l ih v q=>q.instE (Q:=λv=>dw cl W v (.inst c ks l)) λa dx es n vs e1 e2 e3 r=> .inst a dx es n c ks vs l (h _ _ e1) (h _ _ e2) e3 (ih vs r)) (λx y z v q=>q.rngE (Q:=λv=>dw cl W v (.rng x y z)) λa t u w e=> .rng a x y z t u w (h _ _ e)) (λ_ q=>q)
  λt l i1 i2 vs q=>q.consE (R:=λvs=>bA cl W vs (t::l)) λv us a r=> .cons (i1 v a) (i2 us r)
theorem dw.mono(h:Le V W){v:Value}{t:T}(r:dw cl V v t):dw cl W v t:=(yE h).1 t v r
theorem bA.mono(h:Le V W){vs:List Value}{ts:List T}(r:bA cl V vs ts):bA cl W vs ts:=(yE h).2 ts vs r
noncomputable def gy(fp:List Addr)(g g':aX):Prop:=∀a∈fp,∀x,g a=some x->g' a=some x
theorem gy.tl{a:Addr}{f:List Addr}(k:gy (a::f) g g'):gy f g g':=λb hb=>k b (.tail _ hb)
theorem gy.l{p q:List Addr}(k:gy (p++q) g g'):gy p g g':=λb hb=>k b (aF _ hb)
theorem gy.r{p q:List Addr}(k:gy (p++q) g g'):gy q g g':=λb hb=>k b (ay _ hb)
theorem uR(h:Le V W):(∀(o:O) v fp,ce cl V g v o fp->gy fp g g'->ce cl W g' v o fp)/\∀(os:List O) vs fp,bw cl V g vs os fp->gy fp g g'->bw cl W g' vs os fp:=
 O.both (λt v fp q _=>⟨q.1,q.2.mono h⟩) (λl ih v fp q=>q.lstE (Q:=λv fp=>gy fp g g'->ce cl W g' v (.lst l) fp) λa vs n f e r k=> .lst a vs n l f (k a (.head _) _ e) (ih vs f r k.tl))
  (λc ks l ih v fp q=>q.insE (Q:=λv fp=>gy fp g g'->ce cl W g' v (.ins c ks l) fp) λa dx es n vs f e1 e2 e3 e4 e5 r k=> .ins a dx es n c ks vs l f (k a (.head _) _ e1) (k dx (.tail _ (.head _)) _ e2) e3 e4 e5 (ih vs f r k.tl.tl))
  (λ_ _ q _=>q) λo l i1 i2 vs fp q=>q.consE (R:=λvs fp=>gy fp g g'->bw cl W g' vs (o::l) fp) λv us f1 f2 a r k=> .cons (i1 v f1 a k.l) (i2 us f2 r k.r)
theorem ce.mono(h:Le V W){v:Value}{o:O}{fp:List Addr}(r:ce cl V g v o fp)(k:∀a∈fp,∀x,g a=some x->g' a=some x):ce cl W g' v o fp:=(uR h).1 o v fp r k
theorem bw.mono(h:Le V W){vs:List Value}{os:List O}{fp:List Addr}(r:bw cl V g vs os fp)(k:∀a∈fp,∀x,g a=some x->g' a=some x):bw cl W g' vs os fp:=(uR h).2 os vs fp r k
theorem x_(h:Le V W):(∀(o:O) v fp,ce cl V g v o fp->gy fp g W->dw cl W v o.toT)/\∀(os:List O) vs fp,bw cl V g vs os fp->gy fp g W->bA cl W vs (O.toTs os):=
 O.both (λt v fp q _=>q.2.mono h) (λl ih v fp q=>q.lstE (Q:=λv fp=>gy fp g W->dw cl W v (.list (O.toTs l))) λa vs n f e r k=> .list a vs n _ (k a (.head _) _ e) (ih vs f r k.tl))
  (λc ks l ih v fp q=>q.insE (Q:=λv fp=>gy fp g W->dw cl W v (.inst c ks (O.toTs l))) λa dx es n vs f e1 e2 e3 e4 e5 r k=> .inst a dx es n c ks vs _ (k a (.head _) _ e1) (k dx (.tail _ (.head _)) _ e2) e5 (ih vs f r k.tl.tl))
  (λ_ _ q _=>q.1) λo l i1 i2 vs fp q=>q.consE (R:=λvs fp=>gy fp g W->bA cl W vs (o.toT::O.toTs l)) λv us f1 f2 a r k=> .cons (i1 v f1 a k.l) (i2 us f2 r k.r)
theorem ce.freeze(h:Le V W){v:Value}{o:O}{fp:List Addr}(r:ce cl V g v o fp)(k:∀a∈fp,∀x,g a=some x->W a=some x):dw cl W v o.toT:=(x_ h).1 o v fp r k
theorem bA.length:∀{ts:List T} {vs:List Value},bA cl V vs ts->vs.length=ts.length
 |[],_,h=>h.nilE (R:=λvs=>vs.length=0) rfl
 | _::ts,_,h=>h.consE (R:=λvs=>vs.length=ts.length+1) λ_ _ _ r=>congrArg (· +1) r.length
theorem bA.nth:∀{ts:List T} {vs:List Value} {i:Nat} {t:T},bA cl V vs ts->nth ts i=some t->∃v,vs[i]? =some v/\dw cl V v t
 |[],_,_,_,_,h=>nomatch h
 | _::_,_,0,t,q,h=>q.consE (R:=λvs=>∃v,vs[0]? =some v/\dw cl V v t) λv _ a _=>⟨v,rfl,ah.inj h▸a⟩
 | _::_,_,i+1,t,q,h=>q.consE (R:=λvs=>∃v,vs[i+1]? =some v/\dw cl V v t) λ_ _ _ r=>r.nth (i:=i) h
theorem bA.append:∀{ts:List T} {vs us:List Value} {rs:List T},bA cl V vs ts->bA cl V us rs->bA cl V (vs++us) (ts++rs)
 |[],_,us,rs,h,k=>h.nilE (R:=λvs=>bA cl V (vs++us) rs) k
 | t::ts,_,us,rs,h,k=>h.consE (R:=λvs=>bA cl V (vs++us) (t::(ts++rs))) λ_ _ a r=> .cons a (r.append k)
theorem bA.take:∀{ts:List T} {vs:List Value} (n:Nat),bA cl V vs ts->bA cl V (vs.take n) (ts.take n)
 | _,_,0,_=>rfl
 |[],_,n+1,h=>h.nilE (R:=λvs=>bA cl V (vs.take (n+1)) []) rfl
 | t::ts,_,n+1,h=>h.consE (R:=λvs=>bA cl V (vs.take (n+1)) (t::ts.take n)) λ_ _ a r=> .cons a (r.take n)
theorem bA.drop:∀{ts:List T} {vs:List Value} (n:Nat),bA cl V vs ts->bA cl V (vs.drop n) (ts.drop n)
 | _,_,0,h=>h
 |[],_,n+1,h=>h.nilE (R:=λvs=>bA cl V (vs.drop (n+1)) []) rfl
 | _::ts,_,n+1,h=>h.consE (R:=λvs=>bA cl V (vs.drop (n+1)) (ts.drop n)) λ_ _ _ r=>r.drop n
theorem bA.replicate{v:Value}{t:T}(h:dw cl V v t):∀n:Nat,bA cl V (aw n v) (aw n t)
 | 0=> .nil
 | n+1=> .cons h (bA.replicate h n)
theorem bw.length:∀{os:List O} {vs:List Value} {fp:List Addr},bw cl V g vs os fp->vs.length=os.length
 |[],_,_,h=>h.nilE (R:=λvs _=>vs.length=0) rfl
 | _::os,_,_,h=>h.consE (R:=λvs _=>vs.length=os.length+1) λ_ _ _ _ _ r=>congrArg (· +1) r.length
theorem bw.ofReps:∀{ts:List T} {vs:List Value},bA cl V vs ts->bw cl V g vs (ts.map .sh) []
 |[],_,h=>⟨h,rfl⟩
 | t::ts,_,h=>h.consE (R:=λvs=>bw cl V g vs (.sh t::ts.map .sh) []) λ_ _ a r=> .cons (f1:=[]) (f2:=[]) (.sh a) (bw.ofReps r)
theorem bw.append:∀{os:List O} {vs us:List Value} {ps:List O} {f1 f2:List Addr},bw cl V g vs os f1->bw cl V g us ps f2->bw cl V g (vs++us) (os++ps) (f1++f2)
 |[],_,us,ps,_,f,h,k=>h.nilE (R:=λvs f1=>bw cl V g (vs++us) ps (f1++f)) k
 | o::os,_,us,ps,_,f,h,k=>h.consE (R:=λvs f1=>bw cl V g (vs++us) (o::(os++ps)) (f1++f)) λ_ _ _ _ a r=>dA .. ▸.cons a (r.append k)
theorem bw.nth:∀{os:List O} {vs:List Value} {fp:List Addr} {i:Nat} {o:O},bw cl V g vs os fp->nth os i=some o->∃v f,vs[i]? =some v/\ce cl V g v o f/\∀b∈f,b∈fp
 |[],_,_,_,_,_,h=>nomatch h
 | _::_,_,_,0,o,q,h=>q.consE (R:=λvs fp=>∃v f,vs[0]? =some v/\ce cl V g v o f/\∀b∈f,b∈fp) λv _ f1 _ a _=>⟨v,f1,rfl,ah.inj h▸a,λ_=>aF _⟩
 | _::_,_,_,i+1,o,q,h=>q.consE (R:=λvs fp=>∃v f,vs[i+1]? =some v/\ce cl V g v o f/\∀b∈f,b∈fp) λ_ _ _ _ _ r=>(r.nth (i:=i) h).imp λ_=>Sb λ_ e=>⟨e.1,e.2.1,λb hb=>ay _ (e.2.2 b hb)⟩
theorem cX.consE{es:List DictEntry}{k:Nat}{ks:List Nat}{vs:List Value}{R:List Value->Prop}(h:cX es (k::ks) vs)(c:∀v us,getL (nm k) es=some (some v)->cX es ks us->R (v::us)):R vs:=by
 obtain ⟨v,us,e,e1,e2⟩:=h;rw [e];exact c v us e1 e2
theorem cX.get:∀{ks:List Nat} {vs:List Value} {ts:List T} {es:List DictEntry} {k:Nat} {t:T},cX es ks vs->bA cl V vs ts->iw ks ts k=some t->∃v,getL (nm k) es=some (some v)/\dw cl V v t
 |[],_,_,_,_,_,_,_,h=>nomatch h
 | _::_,_,[],_,_,_,_,_,h=>nomatch h
 | k'::ks,_,t'::ts,es,k,t,f,q,h=>f.consE (R:=λvs=>bA cl V vs (t'::ts)->∃v,getL (nm k) es=some (some v)/\dw cl V v t) (λv us e fr q=>by
   have h:(if k'=k then some t' else iw ks ts k)=some t:=h
   have q':dw cl V v t'/\bA cl V us ts:=by obtain ⟨_,_,e,a,r⟩:=q;cases e;exact ⟨a,r⟩
   by_cases z:k'=k
   ·rw [if_pos z]at h;exact ⟨v,z▸e,ah.inj h▸q'.1⟩
   ·rw [if_neg z]at h;exact cX.get fr q'.2 h) q
theorem bw.inv{v:Value}{us:List Value}{o:O}{os:List O}{fp:List Addr}(q:bw cl V g (v::us) (o::os) fp):∃f1 f2,fp=f1++f2/\ce cl V g v o f1/\bw cl V g us os f2:=by
 obtain ⟨_,_,f1,f2,e,e',a,r⟩:=q;cases e;exact ⟨f1,f2,e',a,r⟩
theorem cX.getO:∀{ks:List Nat} {vs:List Value} {os:List O} {es:List DictEntry} {fp:List Addr} {k:Nat} {o:O},cX es ks vs->bw cl V g vs os fp->iw ks os k=some o->∃v f,getL (nm k) es=some (some v)/\ce cl V g v o f/\∀b∈f,b∈fp
 |[],_,_,_,_,_,_,_,_,h=>nomatch h
 | _::_,_,[],_,_,_,_,_,_,h=>nomatch h
 | k'::ks,_,t'::ts,es,fp,k,t,f,q,h=>f.consE (R:=λvs=>bw cl V g vs (t'::ts) fp->∃v f,getL (nm k) es=some (some v)/\ce cl V g v t f/\∀b∈f,b∈fp) (λv us e fr q=>by
   have h:(if k'=k then some t' else iw ks ts k)=some t:=h
   obtain ⟨f1,f2,e',a,r⟩:=q.inv
   rw [e']
   by_cases z:k'=k
   ·rw [if_pos z]at h;exact ⟨v,f1,z▸e,ah.inj h▸a,λ_=>aF _⟩
   ·rw [if_neg z]at h
    exact (cX.getO fr r h).imp λ_=>Sb λ_ e=>⟨e.1,e.2.1,λb hb=>ay _ (e.2.2 b hb)⟩) q
end
end
section
structure iF(V:aX)(s:Shared)(V':aX)(s':Shared):Prop where
 keeps:Keeps s s'
 le:Le V V'
 sub:Le V' s'.heap.get?
 new:∀a o,V' a=some o->V a=some o\/s.heap.get? a=none
theorem iF.refl{V:aX}{s:Shared}(h:Le V s.heap.get?):iF V s V s:=⟨⟨s.heap,s.toks,rfl,λ_ _ e=>e⟩,Le.rfl,h,λ_ _ e=>A2 e⟩
theorem iF.toks{V:aX}{s:Shared}(h:Le V s.heap.get?)(k:Nat):iF V s V {s with toks:=k}:=⟨⟨s.heap,k,rfl,λ_ _ e=>e⟩,Le.rfl,h,λ_ _ e=>A2 e⟩
theorem iF.heap{V:aX}{s:Shared}(h:Le V s.heap.get?){h':Heap}{k:Nat}(hk:∀b o,s.heap.get? b=some o->h'.get? b=some o):iF V s V {s with heap:=h',toks:=k}:=
 ⟨⟨h',k,rfl,hk⟩,Le.rfl,h.trans hk,λ_ _ e=>A2 e⟩
theorem aS{s s':Shared}(x:Keeps s s'):∀b o,s.heap.get? b=some o->s'.heap.get? b=some o:=by obtain ⟨h,k,rfl,e⟩:=x;exact e
theorem Keeps.trans'{s s' s'':Shared}(x:Keeps s s')(y:Keeps s' s''):Keeps s s'':=by
 obtain ⟨h,k,rfl,e⟩:=x;obtain ⟨h',k',rfl,e'⟩:=y;exact ⟨h',k',rfl,λb o q=>e' b o (e b o q)⟩
theorem iF.trans{V V' V'':aX}{s s' s'':Shared}(x:iF V s V' s')(y:iF V' s' V'' s''):iF V s V'' s'':=
 ⟨Keeps.trans' x.keeps y.keeps,x.le.trans y.le,y.sub,λa o e=>(y.new a o e).elim (x.new a o) λh=>Or.inr (by
  cases q:s.heap.get? a with
  | none=>rfl
  | some o'=>rw [aS x.keeps a o' q]at h;cases h)⟩
noncomputable def ux(V:aX)(a:Addr)(o:Obj):aX:=λb=>if b=a then some o else V b
theorem fC(V:aX)(a:Addr)(o:Obj):ux V a o a=some o:=if_pos rfl
theorem gc(h:Heap):h.get? h.objs.size=none:=by
 cases e:h.get? h.objs.size with
 | none=>rfl
 | some o=>exact absurd (d4 e) (jV _)
theorem lK{V:aX}{h:Heap}(hV:Le V h.get?)(o:Obj):Le V (ux V h.objs.size o):=λb x e=>by
 unfold ux
 split
 ·rename_i q;subst q;have:=hV _ _ e;rw [gc]at this;cases this
 ·exact e
theorem HE{V:aX}{h:Heap}(hV:Le V h.get?){o:Obj}(ho:o.isFreed=false):Le (ux V h.objs.size o) (h.push o).get? :=λb x e=>by
 unfold ux at e
 split at e
 ·rename_i q;subst q;cases e;exact bD _ ho
 ·exact aV _ (hV _ _ e)
theorem iF.push{V:aX}{s:Shared}(h:Le V s.heap.get?){o:Obj}(ho:o.isFreed=false)(k:Nat):iF V s (ux V s.heap.objs.size o) {s with heap:=s.heap.push o,toks:=k}:=
 ⟨⟨_,k,rfl,λ_ _ e=>aV _ e⟩,lK h o,HE h ho,λa x e=>by
  unfold ux at e
  split at e
  ·rename_i q;subst q;exact Or.inr (gc _)
  ·exact A2 e⟩
noncomputable def n6.py:n6->Operator
 | .add=> .Add | .sub=> .Sub | .mul=> .Mult | .fdv=> .FloorDiv | .mod=> .Mod | .shl=> .LShift | .shr=> .RShift | .and=> .BitAnd | .or=> .BitOr | .xor=> .BitXor
noncomputable def zF.py:zF->CmpOp
 | .eq=> .Eq | .ne=> .NotEq | .lt=> .Lt | .le=> .LtE | .gt=> .Gt | .ge=> .GtE
theorem jI{a:Int}(h:small a=true):Builtin.Int.intBits a<=64:=by
 unfold small at h
 rw [aB,decide_eq_true_iff,decide_eq_true_iff]at h
 exact intBits_le_64 (by omega) (by omega)
section
variable{cl:Nat->Addr}{V:aX}{prog:Program}{w:World}{A:Around}{E:Value->Shared->Prop}{s:Shared}
@[reducible] noncomputable def K(cl:Nat->Addr)(V:aX)(s:Shared)(t:T)(Q:Value->Shared->Prop):Prop:=∀v s' V',iF V s V' s'->dw cl V' v t->Q v s'
theorem kl{Q:Value->Shared->Prop}{i:Int}(hV:Le V s.heap.get?)(hQ:K cl V s (.int i) Q):Q (.int i s.toks) {s with toks:=s.toks+1}:=hQ _ _ V (.toks hV _) (.int _ _)
theorem Ng{a b:Int}(h:(small a||small b)=true):IntMulOk a b:=by
 rcases eX.mp h with q | q
 ·exact .of_left (jI q)
 ·exact .of_right (jI q)
theorem Sy{a b:Int}(h:small b=true):Builtin.divisionGoesByPylong a b=false:=by
 refine PyProof.noPylong_of_log2 ?_
 unfold small at h
 rw [aB,decide_eq_true_iff,decide_eq_true_iff]at h
 by_cases h0:b.natAbs=0
 ·rw [h0];decide+kernel
 ·have:b.natAbs<2^64:=by omega
  have:=(TM h0).mpr this
  omega
theorem u7(v:Value):∀(k:Nat) (acc:Array Value),TN (λx1 x2=>x1++x2) acc (aw k #[v])=acc++(aw k v).toArray
 | 0,acc=>by simp
 | k+1,acc=>by
  rw [Fk,la,u7 v k,Fk]
  apply qO.mp
  simp
theorem uW{l:Addr}{v:Value}{k:Nat}{x:Int}{u:Tok}{Q:Value->Shared->Prop}(hl:s.heap.get? l=some (listOf #[v] k))(h1: -1000<=x)(h2:x<=1000)
  (h:∀vs:List Value,vs=aw x.toNat v->Q (.ref s.heap.objs.size) {s with heap:=s.heap.push (listOf vs.toArray 0)}):
  wpAny (model prog w) A (binaryOp .Mult (.ref l) (.int x u)) Q E s:=
 wpAny_binaryOp_repeat_ref (T:="list") (U:="int") (by decide) ⟨_,hl,rfl⟩ (λs'=>typeIs_int s' x u) noFill_list_mul F.fills_int_mul F.slot_int_rmul repeat_list F.slot_int_index.lookup
  (call_meets F.slot_int_rmul (typeIs_int s x u) F.entry_int_rmul (F.args_int_rmul_2 _ _) (int___rmul___int_list x u l #[v] k)
   ⟨hl,rfl,⟨_,hl,rfl⟩,call_meets F.slot_list_mul ⟨_,hl,rfl⟩ F.entry_list_mul (F.args_list_mul_2 _ _)
    (AutoListH.list___mul___list_int_3 l #[v] k x u (by simp [Builtin.List.listFitsIndex];omega) (by simp;omega) (by simp [Builtin.List.listTooLong,sizeLine];omega))
    ⟨hl,by
     have:=h _ rfl
     have e:TN (λx1 x2=>x1++x2) #[] (aw (if (#[v]:Array Value).isEmpty=true then 0 else x.toNat) #[v])=(aw x.toNat v).toArray:=by
      have e0:(#[v]:Array Value).isEmpty=false:=rfl
      rw [if_neg (by rw [e0];exact aO),u7];simp
     rw [e];exact this⟩⟩)
section
variable{β:Type}{v:Value}{t:T}{Q:Value->β->Prop}
theorem rI{f:Int->Option β}(hr:dw cl V v t)(h:∀i k,Ok (f i) (Q (.int i k))):Ok (t.onI f) (Q v):=λb e=>T.onI_ok (P:=λt b=>dw cl V v t->Q v b) (λi b e r=>r.intE (Q:=λv=>Q v b) λk=>h i k b e) b e hr
theorem rB{f:Bool->Option β}(hr:dw cl V v t)(h:∀i,Ok (f i) (Q (.bool i))):Ok (t.onB f) (Q v):=λb e=>T.onB_ok (P:=λt b=>dw cl V v t->Q v b) (λi b e r=>r.boolE (Q:=λv=>Q v b) (h i b e)) b e hr
theorem rS{f:Str->Option β}(hr:dw cl V v t)(h:∀i k,Ok (f i) (Q (.str i k))):Ok (t.onS f) (Q v):=λb e=>T.onS_ok (P:=λt b=>dw cl V v t->Q v b) (λi b e r=>r.strE (Q:=λv=>Q v b) λk=>h i k b e) b e hr
theorem rL{f:List T->Option β}(hr:dw cl V v t)(h:∀l a vs n,V a=some (listOf vs.toArray n)->bA cl V vs l->Ok (f l) (Q (.ref a))):Ok (t.onL f) (Q v):=λb e=>T.onL_ok (P:=λt b=>dw cl V v t->Q v b) (λl b e r=>r.listE (Q:=λv=>Q v b) λa vs n e1 e2=>h l a vs n e1 e2 b e) b e hr
theorem Sp{fi:Int->Option β}{fs:Str->Option β}{fl:List T->Option β}(hr:dw cl V v t)(h1:∀i k,Ok (fi i) (Q (.int i k)))(h2:∀i k,Ok (fs i) (Q (.str i k)))(h3:∀l a vs n,V a=some (listOf vs.toArray n)->bA cl V vs l->Ok (fl l) (Q (.ref a))):Ok (t.onISL fi fs fl) (Q v):=
 λb e=>T.onISL_ok (P:=λt b=>dw cl V v t->Q v b) (λi b e r=>r.intE (Q:=λv=>Q v b) λk=>h1 i k b e) (λi b e r=>r.strE (Q:=λv=>Q v b) λk=>h2 i k b e) (λl b e r=>r.listE (Q:=λv=>Q v b) λa vs n e1 e2=>h3 l a vs n e1 e2 b e) b e hr
theorem Sq{fb:Bool->Option β}{fi:Int->Option β}{fl:List T->Option β}(hr:dw cl V v t)(h1:∀i,Ok (fb i) (Q (.bool i)))(h2:∀i k,Ok (fi i) (Q (.int i k)))(h3:∀l a vs n,V a=some (listOf vs.toArray n)->bA cl V vs l->Ok (fl l) (Q (.ref a))):Ok (t.onBIL fb fi fl) (Q v):=
 λb e=>T.onBIL_ok (P:=λt b=>dw cl V v t->Q v b) (λi b e r=>r.boolE (Q:=λv=>Q v b) (h1 i b e)) (λi b e r=>r.intE (Q:=λv=>Q v b) λk=>h2 i k b e) (λl b e r=>r.listE (Q:=λv=>Q v b) λa vs n e1 e2=>h3 l a vs n e1 e2 b e) b e hr
end
noncomputable def Wp(cl:Nat->Addr)(V:aX)(prog:Program)(w:World)(A:Around)(E:Value->Shared->Prop)(s:Shared)(m:Sem Value)(t:T):Prop:=∀Q,K cl V s t Q->wpAny (model prog w) A m Q E s
theorem A'{va vb:Value}{ta tb:T}{f:Int->Int->Option T}{op:Operator}(ha:dw cl V va ta)(hb:dw cl V vb tb)(h:∀a k b j,Ok (f a b) (Wp cl V prog w A E s (binaryOp op (.int a k) (.int b j)))):Ok (ta.onI λa=>tb.onI (f a)) (Wp cl V prog w A E s (binaryOp op va vb)):=
 rI (Q:=λv=>Wp cl V prog w A E s (binaryOp op v vb)) ha λa k=>rI (Q:=λv=>Wp cl V prog w A E s (binaryOp op (.int a k) v)) hb λb j=>h a k b j
variable(hV:Le V s.heap.get?){va vb:Value}{ta tb:T}(ha:dw cl V va ta)(hb:dw cl V vb tb)
include hV ha hb
theorem PL:Ok (bK .add ta tb) (Wp cl V prog w A E s (binaryOp .Add va vb)):=
 Sp (Q:=λv=>Wp cl V prog w A E s (binaryOp .Add v vb)) ha (λa k=>rI (Q:=λv=>Wp cl V prog w A E s (binaryOp .Add (.int a k) v)) hb λb j=> .some λQ hQ=>P.add_int (kl hV hQ))
  (λa k=>rS (Q:=λv=>Wp cl V prog w A E s (binaryOp .Add (.str a k) v)) hb λb j=> .if1 λq=> .some λQ hQ=>add_str (λt' tk=>hQ _ _ V (.toks hV _) (.str _ _)) (by rw [sizeLine_eq];omega))
  (λl a vs n ea ra=>rL (Q:=λv=>Wp cl V prog w A E s (binaryOp .Add (.ref a) v)) hb λm b us k eb rb=> .if1 λq=> .some λQ hQ=>by
   have e1:=ra.length
   have e2:=rb.length
   refine P.add_list (hV _ _ ea) (hV _ _ eb) (hQ _ _ (ux V s.heap.objs.size (listOf (vs++us).toArray 0)) (Fl vs us▸iF.push hV (o:=listOf (vs++us).toArray 0) rfl s.toks) ?_) (by rw [sizeLine_eq,aJ,aJ];omega)
   exact .list _ (vs++us) 0 _ (fC ..) ((ra.append rb).mono (lK hV _)))
theorem Ku:Ok (bK .mul ta tb) (Wp cl V prog w A E s (binaryOp .Mult va vb)):=
 Sp (Q:=λv=>Wp cl V prog w A E s (binaryOp .Mult v vb)) ha (λa k=>rI (Q:=λv=>Wp cl V prog w A E s (binaryOp .Mult (.int a k) v)) hb λb j=> .if1 λq=> .some λQ hQ=>P.mul_int (kl hV hQ) (Ng q)) (λ_ _=> .none)
  (λl a vs n ea ra=>λt h=>Bm (P:=λl (t:T)=>bA cl V vs l->Wp cl V prog w A E s (binaryOp .Mult (.ref a) vb) t) (λx=>λt h ra=>rI (Q:=λv=>Wp cl V prog w A E s (binaryOp .Mult (.ref a) v)) hb (λb j=> .if1 λq=> .some λQ hQ=>
   ra.consE (R:=λvs=>V a=some (listOf vs.toArray n)->wpAny (model prog w) A (binaryOp .Mult (.ref a) (.int b j)) Q E s) (λv us r1 r2 ea=>uW (hV _ _ (r2.nilE (R:=λus=>V a=some (listOf (v::us).toArray n)->V a=some (listOf #[v] n)) (λe=>e) ea)) q.1 q.2 λvs' e=>by
    subst e
    exact hQ _ _ (ux V s.heap.objs.size (listOf _ 0)) (iF.push hV (o:=listOf _ 0) rfl s.toks) (.list _ _ 0 _ (fC ..) ((bA.replicate r1 _).mono (lK hV _)))) ea) t h) t h ra)
theorem PB(op:n6):Ok (bK op ta tb) (Wp cl V prog w A E s (binaryOp op.py va vb)):=by
 cases op
 ·exact PL hV ha hb
 ·exact A' ha hb λa k b j=> .some λQ hQ=>P.sub_int (kl hV hQ)
 ·exact Ku hV ha hb
 ·exact A' ha hb λa k b j=> .ite (λ_=> .none) λq=> .some λQ hQ=>floordiv_int (λe=>q (by rw [e];rfl)) (kl hV hQ) (A2 (Sy (by cases h:small b with | true=>rfl | false=>exact absurd (by rw [h];cases (b==0)<;>rfl) q)))
 ·exact A' ha hb λa k b j=> .ite (λ_=> .none) λq=> .some λQ hQ=>mod_int' (λe=>q (by rw [e];rfl)) (kl hV hQ)
 ·exact A' ha hb λa k b j=> .if1 λq=> .some λQ hQ=>by
   simp only [aB,decide_eq_true_iff]at q
   have:=jI q.2
   exact lshift_int q.1.1 (by omega) (kl hV hQ)
 ·exact A' ha hb λa k b j=> .if1 λq=> .some λQ hQ=>rshift_int (of_decide_eq_true q) (kl hV hQ)
 ·exact A' ha hb λa k b j=> .some λQ hQ=>and_int (kl hV hQ)
 ·exact A' ha hb λa k b j=> .some λQ hQ=>or_int (kl hV hQ)
 ·exact A' ha hb λa k b j=> .some λQ hQ=>xor_int (kl hV hQ)
end
end
open PySem.SeqAt
section
section
variable{cl:Nat->Addr}{V:aX}
theorem Mx{a:Addr}{vs us:List Value}{n m:Nat}(e:V a=some (listOf vs.toArray n))(e':V a=some (listOf us.toArray m)):vs=us:=by
 have:=ah.inj (e.symm.trans e')
 injection this with _ _ h1 _
 injection h1 with h1 _
 exact congrArg zU h1
theorem Qf{a:Addr}{vs us:List Value}{n m:Nat}(e:V a=some (nR vs.toArray n))(e':V a=some (nR us.toArray m)):vs=us:=by
 have:=ah.inj (e.symm.trans e')
 injection this with _ _ h1 _
 injection h1 with h1 _
 exact congrArg zU h1
theorem bA.inv{v:Value}{us:List Value}{t:T}{ts:List T}(q:bA cl V (v::us) (t::ts)):dw cl V v t/\bA cl V us ts:=by
 obtain ⟨_,_,e,a,r⟩:=q;cases e;exact ⟨a,r⟩
section
variable{β:Type}{v:Value}{t:T}{Q:Value->β->Prop}
theorem rT{f:List T->Option β}(hr:dw cl V v t)(h:∀l a vs n,V a=some (nR vs.toArray n)->bA cl V vs l->Ok (f l) (Q (.ref a))):Ok (t.onT f) (Q v):=λb e=>T.onT_ok (P:=λt b=>dw cl V v t->Q v b) (λl b e r=>r.tupE (Q:=λv=>Q v b) λa vs n e1 e2=>h l a vs n e1 e2 b e) b e hr
theorem S5{fi:Int->Option β}{fs:Str->Option β}{fl ft:List T->Option β}(hr:dw cl V v t)(h1:∀i k,Ok (fi i) (Q (.int i k)))(h2:∀i k,Ok (fs i) (Q (.str i k)))(h3:∀l a vs n,V a=some (listOf vs.toArray n)->bA cl V vs l->Ok (fl l) (Q (.ref a)))(h4:∀l a vs n,V a=some (nR vs.toArray n)->bA cl V vs l->Ok (ft l) (Q (.ref a))):Ok (t.onEq fi fs fl ft) (Q v):=
 λb e=>T.onEq_ok (P:=λt b=>dw cl V v t->Q v b) (λi b e r=>r.intE (Q:=λv=>Q v b) λk=>h1 i k b e) (λi b e r=>r.strE (Q:=λv=>Q v b) λk=>h2 i k b e) (λl b e r=>r.listE (Q:=λv=>Q v b) λa vs n e1 e2=>h3 l a vs n e1 e2 b e) (λl b e r=>r.tupE (Q:=λv=>Q v b) λa vs n e1 e2=>h4 l a vs n e1 e2 b e) b e hr
end
noncomputable def SX(cl:Nat->Addr)(V:aX)(f:T->T->Option Bool):Prop:=∀v a b,dw cl V v a->dw cl V v b->Ok (f a b) (· =true)
theorem jn{f:T->T->Option Bool}(hf:SX cl V f):∀a b vs,bA cl V vs a->bA cl V vs b->Ok (lP f a b) (· =true)
 |[],[],_,_,_=> .some rfl
 |[],_::_,vs,h,k=>by rw [show vs=[]from h]at k;obtain ⟨_,_,e,_⟩:=k;cases e
 | _::_,[],vs,h,k=>by rw [show vs=[]from k]at h;obtain ⟨_,_,e,_⟩:=h;cases e
 | a::r,b::q,vs,h,k=>h.consE (R:=λvs=>bA cl V vs (b::q)->Ok (lP f (a::r) (b::q)) (· =true)) (λv us x xs k=> .bind (hf v a b x k.inv.1) λp hp=> .map ((jn hf r q us xs k.inv.2).mono λz hz=>by rw [hp,hz];rfl)) k
theorem HP{b:T}{i:Int}{k:Tok}(hb:dw cl V (.int i k) b):Ok (b.onI λj=>some (i==j)) (· =true):=
 (rI (Q:=λv r=>v= .int i k->r=true) hb λj k'=> .some λe=>by cases e;exact beq_self_eq_true _).mono λr h=>h rfl
theorem HO{b:T}{i:Str}{k:Tok}(hb:dw cl V (.str i k) b):Ok (b.onS λj=>some (i==j)) (· =true):=
 (rS (Q:=λv r=>v= .str i k->r=true) hb λj k'=> .some λe=>by cases e;exact beq_self_eq_true _).mono λr h=>h rfl
theorem ow:∀n,SX cl V (xQ n)
 | 0,v,a,b,ha,hb=>S5 (Q:=λv r=>dw cl V v b->r=true) ha (λi k r e hb=>HP hb r e) (λi k r e hb=>HO hb r e) (λ_ _ _ _ _ _=> .none) (λ_ _ _ _ _ _=> .none)|>.mono λr h=>h hb
 | n+1,v,a,b,ha,hb=>S5 (Q:=λv r=>dw cl V v b->r=true) ha (λi k r e hb=>HP hb r e) (λi k r e hb=>HO hb r e)
   (λl a vs k e ra r er hb=>rL (Q:=λv r=>v= .ref a->r=true) hb (λm a' us k' e' rb=>(λr er h=>by cases h;exact jn (ow n) l m vs ra (Mx e e'▸rb) r er)) r er rfl)
   (λl a vs k e ra r er hb=>rT (Q:=λv r=>v= .ref a->r=true) hb (λm a' us k' e' rb=> .if1 λ_=>(λr er h=>by cases h;exact jn (ow n) l m vs ra (Qf e e'▸rb) r er)) r er rfl)|>.mono λr h=>h hb
theorem oy{f:T->T->Option Bool}:∀{a b:List T},a.length=b.length->Ok (lP f a b) λr=>∃e:Nat->Bool,(∀j (h1:j<a.length) (h2:j<b.length),f a[j] b[j]=some (e j))/\r=(ar a.length).all e
 |[],[],_=> .some ⟨λ_=>true,λj h1=>absurd h1 (dC j),rfl⟩
 | x::a,y::b,hl=> .bind (P:=λp=>f x y=some p) (λp e=>e) λp hp=> .map ((oy (b_.inj hl)).mono λq ⟨e,he,hr⟩=>⟨λj=>j.casesOn p e,λj h1 h2=>by
   cases j with
   | zero=>exact hp
   | succ j=>exact he j (bh h1) (bh h2),by
   rw [hr,j9,ko,oT,List.all_map];rfl⟩)
theorem wI{f:T->T->Option Bool}:∀{a b:List T},a.length≠b.length->Ok (lP f a b) (· =false)
 |[],[],hl=>absurd rfl hl
 |[],_::_,_=> .some rfl
 | _::_,[],_=> .some rfl
 | x::a,y::b,hl=> .bind (P:=λ_=>True) (λ_ _=>trivial) λp _=> .map ((wI λe=>hl (congrArg (· +1) e)).mono λq h=>by rw [h,bP])
theorem bA.at:∀{ts:List T} {vs:List Value} (j:Nat) (h1:j<vs.length) (h2:j<ts.length),bA cl V vs ts->dw cl V vs[j] ts[j]
 | _::_,_::_,0,_,_,h=>h.inv.1
 | _::_,_::_,j+1,h1,h2,h=>bA.at j (bh h1) (bh h2) h.inv.2
theorem ck{h:Heap}{a:Addr}{its:Array Value}{n:Nat}(e:h.get? a=some (listOf its n)):h.IsList a its:=⟨_,e,rfl,n,rfl⟩
theorem fe{h:Heap}{a:Addr}{its:Array Value}{n:Nat}(e:h.get? a=some (nR its n)):h.IsTuple a its:=⟨_,e,rfl,n,rfl⟩
theorem JR(x y:Str):(x.cps.toList==y.cps.toList)=(x==y):=fF.mpr (beq_iff_eq.trans (NM ⟨λh=>by
 cases x;cases y;exact congrArg Str.mk (qO.mp h),λh=>congrArg (λz:Str=>z.cps.toList) h⟩ beq_iff_eq.symm))
section
variable{s:Shared}(hV:Le V s.heap.get?)
include hV
theorem tc{n:Nat}(ih:∀{A:Around} {va vb:Value} {a b:T},A.units+n<cLine->dw cl V va a->dw cl V vb b->Ok (xQ n a b) (EqAt A s va vb)){A:Around}{l m:List T}{vs us:List Value}{f:Nat->Bool}(hu:A.units+n<cLine)(ra:bA cl V vs l)(rb:bA cl V us m)(hf:∀j (h1:j<l.length) (h2:j<m.length),xQ n l[j] m[j]=some (f j))(j:Nat)(h1:j<vs.toArray.size)(h2:j<us.toArray.size):EqAt A s vs.toArray[j] us.toArray[j] (f j):=by
 rw [aJ]at h1 h2
 rw [DP,DP]
 exact ih hu (bA.at j h1 (ra.length▸h1) ra) (bA.at j h2 (rb.length▸h2) rb) _ (hf j (ra.length▸h1) (rb.length▸h2))
theorem eq_int{A:Around}{vb:Value}{b:T}{i:Int}{k:Tok}(hb:dw cl V vb b):Ok (b.onI λj=>some (i==j)) (EqAt A s (.int i k) vb):=rI (Q:=λv=>EqAt A s (.int i k) v) hb λj k'=> .some ((MeetsSeq.EqGives.int _ _ _ _).at _ _)
theorem Ir{A:Around}{vb:Value}{b:T}{i:Str}{k:Tok}(hb:dw cl V vb b):Ok (b.onS λj=>some (i==j)) (EqAt A s (.str i k) vb):=rS (Q:=λv=>EqAt A s (.str i k) v) hb λj k'=> .some (by rw [<-JR];exact (SeqRoads2.EqGives.str _ _ _ _).at _ _)
theorem rG:∀(n:Nat) {A:Around} {va vb:Value} {a b:T},A.units+n<cLine->dw cl V va a->dw cl V vb b->Ok (xQ n a b) (EqAt A s va vb)
 | 0,A,va,vb,a,b,hu,ha,hb=>S5 (Q:=λv=>EqAt A s v vb) ha (λi k=>eq_int hV hb) (λi k=>Ir hV hb) (λ_ _ _ _ _ _=> .none) λ_ _ _ _ _ _=> .none
 | n+1,A,va,vb,a,b,hu,ha,hb=>by
  have hu':A.in1.units+n<cLine:=by show A.units+1+n<cLine;omega
  have hA:A.units<cLine:=aC (bJ ..) hu
  refine S5 (Q:=λv=>EqAt A s v vb) ha (λi k=>eq_int hV hb) (λi k=>Ir hV hb) (λl a1 vs k e ra=>rL (Q:=λv=>EqAt A s (.ref a1) v) hb λm b1 us k' e' rb r hr=> ?_) λl a1 vs k e ra=>rT (Q:=λv=>EqAt A s (.ref a1) v) hb λm b1 us k' e' rb=> .if1 λhl r hr=> ?_
  ·by_cases hab:a1=b1
   ·subst hab
    rw [jn (ow n) l m vs ra (Mx e e'▸rb) r hr];exact EqAt.same _
   ·refine EqAt.of_refs hab ?_
    by_cases hl:l.length=m.length
    ·obtain ⟨f,hf,e2⟩:=oy hl r hr
     have:=RcAt.lists (A:=A) (e:=f) (ck (hV _ _ e)) (ck (hV _ _ e')) (by rw [aJ,aJ,ra.length,rb.length,hl]) hA (tc hV (rG n) hu' ra rb hf)
     rw [aJ,ra.length]at this
     rw [e2];exact this
    ·rw [wI hl r hr]
     exact RcAt.lists_lengths (ck (hV _ _ e)) (ck (hV _ _ e')) (by rw [aJ,aJ,ra.length,rb.length];exact bne_iff_ne.mpr hl) hA
  ·by_cases hab:a1=b1
   ·subst hab
    rw [jn (ow n) l m vs ra (Qf e e'▸rb) r hr];exact EqAt.same _
   ·refine EqAt.of_refs hab ?_
    obtain ⟨f,hf,e2⟩:=oy hl r hr
    have:=RcAt.tuples (A:=A) (e:=f) (fe (hV _ _ e)) (fe (hV _ _ e')) hA (tc hV (rG n) hu' ra rb hf)
    rw [e2];simpa [ra.length,rb.length,hl]using this
end
end
end
section
structure fD(A:Around)(n:Nat):Prop where
 handled:A.handled=none
 depth:A.depth+3*n+10<recursionLimit
 units:A.units+20*n+100<cLine
section
variable{cl:Nat->Addr}{V:aX}{prog:Program}{w:World}{A:Around}{E:Value->Shared->Prop}{s:Shared}
section
variable{β:Type}{vs:List Value}{l:List T}{Q:List Value->β->Prop}
theorem r0{o:Option β}(hr:bA cl V vs l)(h:Ok o (Q [])):Ok (S7 l o) (Q vs):=λb e=>H0 (P:=λl b=>bA cl V vs l->Q vs b) (λb e r=>r.nilE (R:=λvs=>Q vs b) (h b e)) b e hr
theorem r1{f:T->Option β}(hr:bA cl V vs l)(h:∀v a,dw cl V v a->Ok (f a) (Q [v])):Ok (QK l f) (Q vs):=λb e=>Bm (P:=λl b=>bA cl V vs l->Q vs b) (λa b e r=>r.consE (R:=λvs=>Q vs b) λv us x xs=>xs.nilE (R:=λus=>Q (v::us) b) (h v a x b e)) b e hr
theorem r2{f:T->T->Option β}(hr:bA cl V vs l)(h:∀v a u c,dw cl V v a->dw cl V u c->Ok (f a c) (Q [v,u])):Ok (TT l f) (Q vs):=
 λb e=>OB (P:=λl b=>bA cl V vs l->Q vs b) (λa c b e r=>r.consE (R:=λvs=>Q vs b) λv us x xs=>xs.consE (R:=λus=>Q (v::us) b) λu us y ys=>ys.nilE (R:=λus=>Q (v::u::us) b) (h v a u c x y b e)) b e hr
end
noncomputable def Wb(prog:Program)(w:World)(A:Around)(E:Value->Shared->Prop)(s:Shared)(m:Sem Value)(r:Bool):Prop:=∀Q:Value->Shared->Prop,Q (.bool r) s->wpAny (model prog w) A m Q E s
section
variable(hA:A.units+10<cLine)(hV:Le V s.heap.get?)
include hA hV
theorem yV{l m:List T}{a b:Addr}{vs us:List Value}{n k:Nat}(ea:V a=some (listOf vs.toArray n))(ra:bA cl V vs l)(eb:V b=some (listOf us.toArray k))(rb:bA cl V us m):Ok (lP (xQ 7) l m) λr=>Wb prog w A E s (compareOp .Eq (.ref a) (.ref b)) r/\Wb prog w A E s (compareOp .NotEq (.ref a) (.ref b)) (!r):=by
 have hu:A.in1.units+7<cLine:=aC (DL (eB ..)) (aC (cV (by decide:1+7<=10) _) hA)
 have hA0:A.units<cLine:=aC (bJ ..) hA
 have il:=ck (hV _ _ ea)
 have im:=ck (hV _ _ eb)
 have z1:vs.toArray.size=l.length:=ra.length
 have z2:us.toArray.size=m.length:=rb.length
 by_cases hl:l.length=m.length
 ·refine (oy hl).mono λr ⟨f,hf,e⟩=> ?_
  have p:=tc hV (λhu=>rG hV 7 hu) hu ra rb hf
  have q1:=RcAt.lists (A:=A) (e:=f) il im (by rw [z1,z2,hl]) hA0 p prog w E
  have q2:=RcNeAt.lists (A:=A) (e:=f) il im (by rw [z1,z2,hl]) hA0 p prog w E
  rw [z1,<-e]at q1 q2
  exact ⟨q1,q2⟩
 ·refine (wI hl).mono λr e=> ?_
  rw [e]
  exact ⟨λQ=>RcAt.lists_lengths il im (by rw [z1,z2];exact bne_iff_ne.mpr hl) hA0 prog w E Q,λQ=>RcNeAt.lists_lengths il im (by rw [z1,z2];exact bne_iff_ne.mpr hl) hA0 prog w E Q⟩
theorem Iv(op:zF){va vb:Value}{ta tb:T}(ha:dw cl V va ta)(hb:dw cl V vb tb):Ok (gP op ta tb) (Wb prog w A E s (compareOp op.py va vb)):=by
 have two:∀{op:CmpOp} {f:Int->Int->Option Bool},(∀a k b j,Ok (f a b) (Wb prog w A E s (compareOp op (.int a k) (.int b j))))->Ok (ta.onI λa=>tb.onI (f a)) (Wb prog w A E s (compareOp op va vb)):=λ{op f} h=>
  rI (Q:=λv=>Wb prog w A E s (compareOp op v vb)) ha λa k=>rI (Q:=λv=>Wb prog w A E s (compareOp op (.int a k) v)) hb λb j=>h a k b j
 cases op
 ·exact Sq (Q:=λv=>Wb prog w A E s (compareOp .Eq v vb)) ha (λa=>rB (Q:=λv=>Wb prog w A E s (compareOp .Eq (.bool a) v)) hb λb=> .some λQ hQ=>RcAt.bool_bool _ _ _ _ _ _ hQ) (λa k=>rI (Q:=λv=>Wb prog w A E s (compareOp .Eq (.int a k) v)) hb λb j=> .some λQ hQ=>P.eq_int hQ)
   (λl a vs n ea ra=>rL (Q:=λv=>Wb prog w A E s (compareOp .Eq (.ref a) v)) hb λm b us k eb rb=>(yV hA hV ea ra eb rb).mono λr h=>h.1)
 ·exact Sq (Q:=λv=>Wb prog w A E s (compareOp .NotEq v vb)) ha (λa=>rB (Q:=λv=>Wb prog w A E s (compareOp .NotEq (.bool a) v)) hb λb=> .some λQ hQ=>RcNeAt.bool_bool _ _ _ _ _ _ hQ) (λa k=>rI (Q:=λv=>Wb prog w A E s (compareOp .NotEq (.int a k) v)) hb λb j=> .some λQ hQ=>P.ne_int hQ)
   (λl a vs n ea ra=>rL (Q:=λv=>Wb prog w A E s (compareOp .NotEq (.ref a) v)) hb λm b us k eb rb=> .map ((yV hA hV ea ra eb rb).mono λr h=>h.2))
 ·exact two λa k b j=> .some λQ hQ=>P.lt_int hQ
 ·exact two λa k b j=> .some λQ hQ=>P.le_int hQ
 ·exact two λa k b j=> .some λQ hQ=>P.gt_int hQ
 ·exact two λa k b j=> .some λQ hQ=>P.ge_int hQ
end
noncomputable def Wt(prog:Program)(w:World)(A:Around)(E:Value->Shared->Prop)(s:Shared)(v:Value)(r:Bool):Prop:=∀Q:Bool->Shared->Prop,(∀k,Q r {s with toks:=k})->wpAny (model prog w) A (truthy v) Q E s
theorem n8(hV:Le V s.heap.get?){v:Value}{t:T}(ha:dw cl V v t):Ok (bx t) (Wt prog w A E s v):=by
 cases t with
 | none=>exact .some λQ hQ=>ha.noneE (Q:=λv=>wpAny (model prog w) A (truthy v) Q E s) (truthy_none (hQ s.toks))
 | bool b=>exact .some λQ hQ=>ha.boolE (Q:=λv=>wpAny (model prog w) A (truthy v) Q E s) (wpAny_truthy_bool (hQ s.toks))
 | int i=>exact .some λQ hQ=>ha.intE (Q:=λv=>wpAny (model prog w) A (truthy v) Q E s) λt=>P.truthy_int (hQ s.toks)
 | list l=>exact .if1 λhl=> .some λQ hQ=>ha.listE (Q:=λv=>wpAny (model prog w) A (truthy v) Q E s) λa vs n ea ra=>
   wpAny_truthy_list (ck (hV _ _ ea)) (by rw [aJ,ra.length];omega) ((show (!vs.toArray.isEmpty)= !l.isEmpty by
    have:=ra.length
    cases vs<;>cases l<;>first | rfl |(cases this))▸hQ _)
 | _=>exact .none
theorem u4:∀{ts:List T} {vs:List Value},bA cl V vs ts->Ok (qy ts) λis=>∃xs:Array (Int×Tok),vs.toArray=intItems xs/\xs.toList.map (·.1)=is
 |[],vs,h=> .some ⟨#[],by rw [show vs=[]from h];simp [intItems],rfl⟩
 | t::ts,vs,h=>h.consE (R:=λvs=>Ok (qy (t::ts)) λis=>∃xs:Array (Int×Tok),vs.toArray=intItems xs/\xs.toList.map (·.1)=is) λv us x r=>rI (Q:=λv is=>∃xs:Array (Int×Tok),(v::us).toArray=intItems xs/\xs.toList.map (·.1)=is) x λi k=> .map ((u4 r).mono λis ⟨xs,e1,e2⟩=>⟨((i,k)::xs.toList).toArray,by
   have e3:=congrArg zU e1
   unfold intItems at e3⊢
   apply qO.mp
   simpa using e3,congrArg (i:: ·) e2⟩)
theorem Eh{i:Int}(h1: -1000000000<i)(h2:i<1000000000):i.natAbs.log2<1920:=by
 by_cases h0:i.natAbs=0
 ·rw [h0];decide+kernel
 ·have:i.natAbs<2^30:=by omega
  have:=(TM h0).mpr this
  omega
theorem RT(hA:fD A 0)(hV:Le V s.heap.get?)(b:BI){vs:List Value}{ts:List T}(ha:bA cl V vs ts):Ok (qI b ts) (Wp cl V prog w A E s (call b.fn vs)):=by
 cases b
 ·exact r1 (Q:=λvs=>Wp cl V prog w A E s (call BI.len.fn vs)) ha λv t a=>rL (Q:=λv=>Wp cl V prog w A E s (call BI.len.fn [v])) a λl b us n e r=> .if1 λq=> .some λQ hQ=>
   len_list (ck (hV _ _ e)) (by rw [aJ,r.length];omega) (hQ (.int us.toArray.size (s.toks+1)) {s with toks:=s.toks+1+1} V (.toks hV _) (by rw [aJ,r.length];exact .int _ _))
 ·exact r1 (Q:=λvs=>Wp cl V prog w A E s (call BI.abs.fn vs)) ha λv t a=>rI (Q:=λv=>Wp cl V prog w A E s (call BI.abs.fn [v])) a λi k=> .some λQ hQ=>call_abs_int λu tk=>hQ _ _ V (.toks hV _) (.int _ _)
 ·exact r2 (Q:=λvs=>Wp cl V prog w A E s (call BI.min.fn vs)) ha λv t u t' a b=>rI (Q:=λv=>Wp cl V prog w A E s (call BI.min.fn [v,u])) a λi k=>rI (Q:=λu=>Wp cl V prog w A E s (call BI.min.fn [.int i k,u])) b λj k'=> .some λQ hQ=>min_two_ints hA.handled λh' tk hk=>by
   split
   ·exact hQ _ _ V (.heap hV hk) (by rename_i q;rw [if_pos q];exact .int _ _)
   ·exact hQ _ _ V (.heap hV hk) (by rename_i q;rw [if_neg q];exact .int _ _)
 ·exact r2 (Q:=λvs=>Wp cl V prog w A E s (call BI.max.fn vs)) ha λv t u t' a b=>rI (Q:=λv=>Wp cl V prog w A E s (call BI.max.fn [v,u])) a λi k=>rI (Q:=λu=>Wp cl V prog w A E s (call BI.max.fn [.int i k,u])) b λj k'=> .some λQ hQ=>max_two_ints hA.handled λh' tk hk=>by
   split
   ·exact hQ _ _ V (.heap hV hk) (by rename_i q;rw [if_pos (show _<_ from q)];exact .int _ _)
   ·exact hQ _ _ V (.heap hV hk) (by rename_i q;rw [if_neg (show ¬_<_ from q)];exact .int _ _)
 ·exact r1 (Q:=λvs=>Wp cl V prog w A E s (call BI.sum.fn vs)) ha λv t a=>rL (Q:=λv=>Wp cl V prog w A E s (call BI.sum.fn [v])) a λl b us n e r=> .map ((u4 r).mono λis ⟨xs,e1,e2⟩ Q hQ=>
   sum_intListG hA.handled (xs:=xs) (by rw [<-e1];exact ck (hV _ _ e)) λh' tk t' hk=>hQ _ _ V (.heap hV hk) (by
    rw [preSum_eq,List.take_of_length_le (by simp),e2]
    exact .int _ _))
 ·exact r1 (Q:=λvs=>Wp cl V prog w A E s (call BI.str.fn vs)) ha λv t a=>rI (Q:=λv=>Wp cl V prog w A E s (call BI.str.fn [v])) a λi k=> .if1 λq=> .some λQ hQ=>
   P.str_of_int (Eh (of_decide_eq_true (aB _ _▸q:_/\_).1) (of_decide_eq_true (aB _ _▸q:_/\_).2)) (hQ _ _ V (.toks hV _) (.str _ _))
 ·match ts,ha with
  |[],_=>exact .none
  | t::ts,ha=>
   exact ha.consE (R:=λvs=>Ok (qI .range (t::ts)) (Wp cl V prog w A E s (call BI.range.fn vs))) λv us a r=>rI (Q:=λv=>Wp cl V prog w A E s (call BI.range.fn (v::us))) a λi k=>by
    match ts,r with
    |[],r=>
     exact r.nilE (R:=λus=>Ok (if eT i then some (.rng 0 i 1)else none) (Wp cl V prog w A E s (call BI.range.fn (.int i k::us)))) (.if1 λ_=> .some λQ hQ=>call_range_1 (hQ _ _ (ux V s.heap.objs.size (qj 0 _ 1 _ _ _)) (iF.push hV rfl _) (.rng _ _ _ _ _ _ _ (fC ..))))
    | t'::ts,r=>
     exact r.consE (R:=λus=>Ok (t'.onI λb=>ts.casesOn (if eT i&&eT b then some (.rng i b 1)else none) λz r=>S7 r (z.onI λc=>if eT i&&eT b&&c== -1 then some (.rng i b (-1))else none)) (Wp cl V prog w A E s (call BI.range.fn (.int i k::us)))) λv us a r=>rI (Q:=λv=>Wp cl V prog w A E s (call BI.range.fn (.int i k::v::us))) a λj k'=>by
      match ts,r with
      |[],r=>
       exact r.nilE (R:=λus=>Ok (if eT i&&eT j then some (.rng i j 1)else none) (Wp cl V prog w A E s (call BI.range.fn (.int i k:: .int j k'::us)))) (.if1 λ_=> .some λQ hQ=>call_range_2 (hQ _ _ (ux V s.heap.objs.size (qj _ _ 1 _ _ _)) (iF.push hV rfl _) (.rng _ _ _ _ _ _ _ (fC ..))))
      | t''::ts,r=>
       exact r.consE (R:=λus=>Ok (S7 ts (t''.onI λc=>if eT i&&eT j&&c== -1 then some (.rng i j (-1))else none)) (Wp cl V prog w A E s (call BI.range.fn (.int i k:: .int j k'::us)))) λv us a r=>r0 (Q:=λus=>Wp cl V prog w A E s (call BI.range.fn (.int i k:: .int j k'::v::us))) r (rI (Q:=λv=>Wp cl V prog w A E s (call BI.range.fn [.int i k,.int j k',v])) a λc k''=> .if1 λq=> .some λQ hQ=>by
        obtain rfl:c= -1:=beq_iff_eq.mp (aB _ _▸q:_/\_).2
        exact call_range_3 (by decide) (hQ _ _ (ux V s.heap.objs.size (qj _ _ (-1) _ _ _)) (iF.push hV rfl _) (.rng _ _ _ _ _ _ _ (fC ..))) (A2 (PyProof.noPylong_small (by decide))))
end
end
section
section
variable{cl:Nat->Addr}{V:aX}{prog:Program}{w:World}{A:Around}{E:Value->Shared->Prop}{s:Shared}
theorem xV{a b c:Int}(h:(eT a&&eT b&&(c==1||c== -1))=true):Builtin.Range.small a b c=true:=by
 simp only [aB,du,beq_iff_eq,eT,decide_eq_true_iff]at h
 obtain ⟨⟨h1,h2⟩,h3⟩:=h
 unfold Builtin.Range.small
 have hs: -1000000000000<=Builtin.Range.rangeSize a b c/\Builtin.Range.rangeSize a b c<=4000000000000:=by
  unfold Builtin.Range.rangeSize
  rcases h3 with rfl | rfl
  ·simp only [show (1:Int)>0 by decide,if_true,lp];split<;>omega
  ·simp only [show ¬((-1:Int)>0) by decide,if_false,d9,lp];split<;>omega
 simp only [aB,Builtin.Range.rangeFitsLong,decide_eq_true_iff]
 rcases h3 with rfl | rfl
 ·refine ⟨⟨⟨⟨?_,?_⟩,?_⟩,?_⟩,?_⟩<;>first | omega |(simp;omega) |(simp;right;omega)
 ·refine ⟨⟨⟨⟨?_,?_⟩,?_⟩,?_⟩,?_⟩<;>first | omega |(simp;omega) |(simp;right;omega)
theorem xW{a b c:Int}(h:(c==1||c== -1)=true):0<=Builtin.Range.rangeSize a b c:=by
 simp only [du,beq_iff_eq]at h
 unfold Builtin.Range.rangeSize
 rcases h with rfl | rfl
 ·simp only [show (1:Int)>0 by decide,if_true,lp];split<;>omega
 ·simp only [show ¬((-1:Int)>0) by decide,if_false,d9,lp];split<;>omega
noncomputable def vH(h:Heap)(I:Addr):Prop:=∃o,h.get? I=some o/\(o.cls= .type "list_iterator"\/o.cls= .type "tuple_iterator"\/o.cls= .type "range_iterator")
theorem OA{P:Sem Unit->Prop}{c:Value}{d:Data}{f:String->Array Value->Sem Unit}(k:P (pure ()))(h:∀n vs,c= .type n->P (f n vs)):P (match (generalizing:=false) c,d with | .type n,.fields vs=>f n vs | _,_=>pure ()):=by
 cases c with
 | type n=>
  cases d with
  | fields vs=>exact h n vs rfl
  | _=>exact k
 | _=>exact k
theorem kA{target:ag}{I:Addr}{v:Value}{Q:Unit->Shared->Prop}(q:vH s.heap I)(h:Q () s):wpAny (model prog w) A (letOwnedTupleGo target (.ref I) v) Q E s:=by
 obtain ⟨o,ho,hc⟩:=q
 have k:∀es p,wpAny (model prog w) A (letOwnedTupleGo (.List es p) (.ref I) v) Q E s:=λes p=>by
  cases v with
  | ref a=>
   refine wpAny_bind (wpAny_load ho ?_)
   refine OA (P:=λm=>wpAny (model prog w) A m Q E s) (wpAny_pure h) λn vs e=> ?_
   have q:["enumerate","zip","dict_itemiterator","dict_reverseitemiterator","odict_iterator","itertools.zip_longest","itertools.pairwise"].contains n=false:=by
    rcases hc with hc | hc | hc<;>(cases hc.symm.trans e;rfl)
   rw [q]
   exact wpAny_pure h
  | _=>exact wpAny_pure h
 cases target with
 | Tuple es _ p=>exact k es p
 | List es p=>exact k es p
 | _=>exact wpAny_pure h
structure SY(cl:Nat->Addr)(V:aX)(prog:Program)(w:World)(A:Around)(I:Addr)(l:List T)(fp:List Addr)(P:Nat->Value->Prop)(St:Nat->Heap->Prop):Prop where
 walks:Walks prog w A I fp [I] l.length P St
 items:∀i v,i<l.length->P i v->∃t,nth l i=some t/\dw cl V v t
 old:∀b∈fp,b=I\/∃o,V b=some o
 quiet:∀i h,St i h->vH h I
theorem gB{α:Type}:∀{l:List α} {i:Nat} (h:i<l.length),nth l i=some l[i]
 | _::_,0,_=>rfl
 | _::_,_+1,h=>gB (bh h)
theorem m_{α:Type}:∀{l:List α} {i:Nat} {a:α},nth l i=some a->i<l.length
 |[],i,_,h=>by cases i<;>cases h
 | _::_,0,_,_=>kf _
 | _::r,i+1,_,h=>eW (m_ (l:=r) h)
theorem uJ{vs:List Value}{l:List T}(ra:bA cl V vs l)(i:Nat)(v:Value)(hi:i<l.length)(hp:vs.toArray[i]? =some v):∃t,nth l i=some t/\dw cl V v t:=by
 have hi':i<vs.length:=ra.length▸hi
 rw [ed,dE hi']at hp
 cases hp
 exact ⟨_,gB hi,bA.at i hi' hi ra⟩
theorem CC{a I:Addr}{o:Obj}(ea:V a=some o):∀b∈[I,a],b=I\/∃o,V b=some o:=λb hb=>(aG.mp hb).imp id λhb=>⟨_,(aN.mp hb)▸ea⟩
noncomputable def UV(cl:Nat->Addr)(V:aX)(prog:Program)(w:World)(A:Around)(s:Shared)(l:List T)(Q:Value->Shared->Prop):Prop:=∀I fp P St h',SY cl V prog w A I l fp P St->s.heap.get? I=none->(∀b o,s.heap.get? b=some o->h'.get? b=some o)->(∃o,h'.get? I=some o)->St 0 h'->Q (.ref I) {s with heap:=h'}
theorem C0(hh:A.handled=none)(hV:Le V s.heap.get?){v:Value}{t:T}(ha:dw cl V v t):Ok (dg t) λl=>∀Q,UV cl V prog w A s l Q->wpAny (model prog w) A (pyIter v) Q E s:=by
 cases t with
 | list l=>
  refine .some λQ hQ=>ha.listE (Q:=λv=>wpAny (model prog w) A (pyIter v) Q E s) λa vs n ea ra=>wpAny_pyIter_list (ck (hV _ _ ea)) ?_
  have hne:a≠s.heap.objs.size:=cM (d4 (hV _ _ ea))
  have W:=Walks.list (prog:=prog) (w:=w) hh s.heap.objs.size a hne vs.toArray
  rw [show vs.toArray.size=l.length from ra.length]at W
  exact hQ _ [s.heap.objs.size,a] (λi v=>vs.toArray[i]? =some v) (λi h=>h.IsListIter s.heap.objs.size a i/\h.IsList a vs.toArray) _ ⟨W,uJ ra,CC ea,λi h st=>let ⟨⟨o,e1,e2,_⟩,_⟩:=st;⟨o,e1,.inl e2⟩⟩ (gc _) (λb o e=>aV _ e)
   ⟨_,bD _ rfl⟩ ⟨⟨_,bD _ rfl,rfl,rfl⟩,(ck (hV _ _ ea)).push _⟩
 | tup l=>
  refine .some λQ hQ=>ha.tupE (Q:=λv=>wpAny (model prog w) A (pyIter v) Q E s) λa vs n ea ra=>wpAny_pyIter_tuple (fe (hV _ _ ea)) ?_
  have hne:a≠s.heap.objs.size:=cM (d4 (hV _ _ ea))
  have W:=Walks.tuple (prog:=prog) (w:=w) hh s.heap.objs.size a hne vs.toArray
  rw [show vs.toArray.size=l.length from ra.length]at W
  exact hQ _ [s.heap.objs.size,a] (λi v=>vs.toArray[i]? =some v) (λi h=>h.IsTupleIter s.heap.objs.size a i/\h.IsTuple a vs.toArray) _ ⟨W,uJ ra,CC ea,λi h st=>let ⟨⟨o,e1,e2,_⟩,_⟩:=st;⟨o,e1,.inr (.inl e2)⟩⟩ (gc _) (λb o e=>aV _ e)
   ⟨_,bD _ rfl⟩ ⟨⟨_,bD _ rfl,rfl,rfl⟩,(fe (hV _ _ ea)).at λo e=>aV _ e⟩
 | rng a b c=>
  refine .if1 λhc=> .some λQ hQ=>ha.rngE (Q:=λv=>wpAny (model prog w) A (pyIter v) Q E s) λr t u v' ea=>wpAny_pyIter_range (hV _ _ ea) (xV hc) ?_
  have hn:=xW (a:=a) (b:=b) (bH.mp hc).2
  have hl:(ja a b c).length=(Builtin.Range.rangeSize a b c).toNat:=by unfold ja;rw [aq,aK]
  have W:=(Walks.range (prog:=prog) (w:=w) hh s.heap.objs.size a c (Builtin.Range.rangeSize a b c).toNat).bound
  rw [<-hl]at W
  refine hQ _ [s.heap.objs.size] (λi v=>i<(ja a b c).length/\∃t,v= .int (a+i*c) t)
   (λi h=>IsRangeIter h s.heap.objs.size (a+(i:Nat)*c) (((ja a b c).length:Int) -(i:Nat)) c) _ ⟨W,λi v hi hp=> ?_,λb hb=> .inl (aN.mp hb),λi h st=>⟨_,st,.inr (.inr rfl)⟩⟩ (gc _) (λb o e=>aV _ e)
   ⟨_,bD _ rfl⟩ ?_
  ·obtain ⟨hi',tk,rfl⟩:=hp
   refine ⟨.int (a+i*c),?_,.int _ _⟩
   rw [gB hi]
   simp [ja]
  ·rw [show a+((0:Nat):Int)*c=a by rw [tG,iV,bQ],hl,dN hn,tG,Te]
   exact bD _ rfl
 | _=>exact .none
end
end
section
structure T_(K:Frag)(cl:Nat->Addr):Prop where
 get:∀c,findIn K (.ref (cl c)) "__getattribute__"=some (some (.builtin "object.__getattribute__"))
 dict:∀c,hasDictIn K (cl c)=true
 attr:∀c k,k<bY.length->findIn K (.ref (cl c)) (nm k)=some none
 set:∀c,findIn K (.ref (cl c)) "__setattr__"=some (some (.builtin "object.__setattr__"))
 over:∀c,plainOver K (cl c)=true
 nodup:bY.Nodup
section
variable{cl:Nat->Addr}{V:aX}{prog:Program}{w:World}{A:Around}{E:Value->Shared->Prop}{s:Shared}{K:Frag}
theorem dw.handed{v:Value}{t:T}(h:dw cl V v t):handedIn v=true:=by
 cases t with
 | none=>exact h.noneE (Q:=λv=>handedIn v=true) rfl
 | bool b=>exact h.boolE (Q:=λv=>handedIn v=true) rfl
 | int b=>exact h.intE (Q:=λv=>handedIn v=true) λ_=>rfl
 | str b=>exact h.strE (Q:=λv=>handedIn v=true) λ_=>rfl
 | list b=>exact h.listE (Q:=λv=>handedIn v=true) λ_ _ _ _ _=>rfl
 | tup b=>exact h.tupE (Q:=λv=>handedIn v=true) λ_ _ _ _ _=>rfl
 | inst c ks l=>exact h.instE (Q:=λv=>handedIn v=true) λ_ _ _ _ _ _ _ _ _=>rfl
 | rng x y z=>exact h.rngE (Q:=λv=>handedIn v=true) λ_ _ _ _ _=>rfl
theorem ce.handed{g:aX}{v:Value}{o:O}{fp:List Addr}(h:ce cl V g v o fp):handedIn v=true:=by
 cases o with
 | sh t=>exact h.2.handed
 | lst l=>exact h.lstE (Q:=λv _=>handedIn v=true) λ_ _ _ _ _ _=>rfl
 | ins c ks l=>exact h.insE (Q:=λv _=>handedIn v=true) λ_ _ _ _ _ _ _ _ _ _ _ _=>rfl
theorem Bz{a dx:Addr}{es:List DictEntry}{n c k:Nat}{v:Value}{expr:Bool}{Q:Value->Shared->Prop}(X:K.In s.heap)(C:T_ K cl)(ha:s.heap.get? a=some (instObj (cl c) dx))(hd:s.heap.get? dx=some (dictOf es n))
  (hk:k<bY.length) (hl:getL (nm k) es=some (some v)) (hv:handedIn v=true) (hQ:Q v {s with toks:=s.toks+1}):wpAny (model prog w) A (getAttr (.ref a) (nm k) expr) Q E s:=
 get_value X (ox:=instObj (cl c) dx) (od:=some (dictOf es n)) ⟨ha,rfl,rfl,hd⟩ (C.get c) (findObj_own (C.dict c) (C.attr c k hk) rfl (by rw [lookIn_dict];exact hl)) hv hQ
noncomputable def MG(cl:Nat->Addr)(V g:aX)(o':O)(fp:List Addr)(Q:Value->Prop):Prop:=∀v' f',ce cl V g v' o' f'->(∀b∈f',b∈fp)->Q v'
theorem wQ{v:Value}{o o':O}{fp:List Addr}{k:Nat}{expr:Bool}{Q:Value->Shared->Prop}(X:K.In s.heap)(C:T_ K cl)(hV:Le V s.heap.get?)(ho:ce cl V s.heap.get? v o fp)(hk:k<bY.length)(h:bV k o=some o')
  (hQ:MG cl V s.heap.get? o' fp λv'=>Q v' {s with toks:=s.toks+1}):wpAny (model prog w) A (getAttr v (nm k) expr) Q E s:=by
 cases o with
 | lst l=>exact no h
 | ins c ks l=>
  exact ho.insE (Q:=λv fp=>MG cl V s.heap.get? o' fp (λv'=>Q v' {s with toks:=s.toks+1})->wpAny (model prog w) A (getAttr v (nm k) expr) Q E s) (λa dx es n vs f e1 e2 _ _ e5 r hQ=>by
   obtain ⟨v',f',q1,q2,q3⟩:=e5.getO r h
   exact Bz X C e1 e2 hk q1 q2.handed (hQ _ _ q2 λb hb=> .tail _ (.tail _ (q3 b hb)))) hQ
 | sh t=>
  cases t with
  | inst c ks l=>
   obtain ⟨t,ht,e⟩:=aT h
   exact ho.2.instE (Q:=λv=>wpAny (model prog w) A (getAttr v (nm k) expr) Q E s) λa dx es n vs e1 e2 f r=>by
    obtain ⟨v',q1,q2⟩:=f.get r ht
    exact Bz X C (hV _ _ e1) (hV _ _ e2) hk q1 q2.handed (hQ _ [] (e▸.sh q2) λb hb=>nomatch hb)
  | _=>exact no h
theorem sW{α:Type}{f:Nat->Option α}{n:Int}{len:Nat}{P:α->Prop}(h:0<=n->n<len->n<1000000->Ok (f n.toNat) P):Ok ((cr n len).bind f) P:=
 .bind (P:=λj=>(0<=n/\n<len/\n<1000000)/\j=n.toNat) (.if1 λq=> .some ⟨q,rfl⟩) λ_ q=>q.2▸h q.1.1 q.1.2.1 q.1.2.2
theorem wz{v:Value}{o o':O}{fp:List Addr}{k:Int}{u:Tok}{Q:Value->Shared->Prop}(hV:Le V s.heap.get?)(ho:ce cl V s.heap.get? v o fp)(h:b4 k o=some o')
  (hQ:MG cl V s.heap.get? o' fp λv'=>Q v' s):wpAny (model prog w) A (getItem v (.int k u)) Q E s:=by
 cases o with
 | ins c ks l=>exact no h
 | lst l=>
  exact ho.lstE (Q:=λv fp=>MG cl V s.heap.get? o' fp (λv'=>Q v' s)->wpAny (model prog w) A (getItem v (.int k u)) Q E s) (λa vs n f e r hQ=>sW (f:=nth l) (P:=λo=>o=o'->wpAny (model prog w) A (getItem (.ref a) (.int k u)) Q E s)
   (λh0 h1 h2 x hn ex=>by
    obtain ⟨v',f',q1,q2,q3⟩:=r.nth hn
    exact wpAny_getItem_list (ck e) h0 (by omega) (ed.trans q1) (hQ _ _ (ex▸q2) λb hb=> .tail _ (q3 b hb))) o' h rfl) hQ
 | sh t=>
  cases t with
  | list l=>
   obtain ⟨t,ht,e⟩:=aT h
   exact ho.2.listE (Q:=λv=>wpAny (model prog w) A (getItem v (.int k u)) Q E s) λa vs n e1 r=>sW (f:=nth l) (P:=λx=>x=t->wpAny (model prog w) A (getItem (.ref a) (.int k u)) Q E s)
    (λh0 h1 h2 x hn ex=>by
     obtain ⟨v',q1,q2⟩:=r.nth hn
     exact wpAny_getItem_list (ck (hV _ _ e1)) h0 (by omega) (ed.trans q1) (hQ _ [] (e▸.sh (ex▸q2)) λb hb=>nomatch hb)) t ht rfl
  | tup l=>
   obtain ⟨t,ht,e⟩:=aT h
   exact ho.2.tupE (Q:=λv=>wpAny (model prog w) A (getItem v (.int k u)) Q E s) λa vs n e1 r=>sW (f:=nth l) (P:=λx=>x=t->wpAny (model prog w) A (getItem (.ref a) (.int k u)) Q E s)
    (λh0 h1 h2 x hn ex=>by
     obtain ⟨v',q1,q2⟩:=r.nth hn
     have l1:=r.length
     exact PyProof.Rows.getItem_tuple (j:=k.toNat) (fe (hV _ _ e1)) (by omega) (by omega) (seqIndex_of h0 (by rw [aJ];omega)) (ed.trans q1) (hQ _ [] (e▸.sh (ex▸q2)) λb hb=>nomatch hb)) t ht rfl
  | _=>exact no h
theorem nM:∀{bs:List Bool} {n:Nat},Ok (lf n bs) λk=>∃j,k=n+j/\∃h:j<bs.length,bs[j]=true/\∀m (hm:m<bs.length),m<j->bs[m]=false
 |[],_=> .none
 | b::r,n=> .ite (λq=> .some ⟨0,rfl,kf _,q,λm _ hm=>absurd hm (dC m)⟩) λq=>(nM (bs:=r)).mono λk ⟨j,e,hj,h1,h2⟩=>
   ⟨j+1,by omega,eW hj,h1,λm hm hlt=>by
    cases m with
    | zero=>exact cQ.mpr q
    | succ m=>exact h2 m (bh hm) (bh hlt)⟩
theorem zf{t:T}:∀{ts:List T},Ok (uu t ts) λbs=>bs.length=ts.length/\∀j (h1:j<ts.length) (h2:j<bs.length),xQ 4 ts[j] t=some bs[j]
 |[]=> .some ⟨rfl,λj h1=>absurd h1 (dC j)⟩
 | a::r=> .bind (P:=λx=>xQ 4 a t=some x) (λ_ e=>e) λx hx=> .map ((zf (ts:=r)).mono λbs h=>⟨congrArg (· +1) h.1,λj h1 h2=>by
   cases j with
   | zero=>exact hx
   | succ j=>exact h.2 j (bh h1) (bh h2)⟩)
end
end
section
section
variable{cl:Nat->Addr}{V:aX}
section
variable{P:T->Prop}{b:T}
theorem dw.ofInt{i:Int}{k:Tok}(h:dw cl V (.int i k) b)(q:P (.int i)):P b:=by
 cases b with
 | int j=>obtain ⟨_,e⟩:=h;cases e;exact q
 | str x=>obtain ⟨_,e⟩:=h;cases e
 | none=>cases (h:Value.int i k= .none)
 | bool c=>cases (h:Value.int i k= .bool c)
 | list l=>obtain ⟨_,_,_,e,_⟩:=h;cases e
 | tup l=>obtain ⟨_,_,_,e,_⟩:=h;cases e
 | inst c ks l=>obtain ⟨_,_,_,_,_,e,_⟩:=h;cases e
 | rng x y z=>obtain ⟨_,_,_,_,e,_⟩:=h;cases e
theorem dw.ofStr{i:Str}{k:Tok}(h:dw cl V (.str i k) b)(q:P (.str i)):P b:=by
 cases b with
 | str j=>obtain ⟨_,e⟩:=h;cases e;exact q
 | int x=>obtain ⟨_,e⟩:=h;cases e
 | none=>cases (h:Value.str i k= .none)
 | bool c=>cases (h:Value.str i k= .bool c)
 | list l=>obtain ⟨_,_,_,e,_⟩:=h;cases e
 | tup l=>obtain ⟨_,_,_,e,_⟩:=h;cases e
 | inst c ks l=>obtain ⟨_,_,_,_,_,e,_⟩:=h;cases e
 | rng x y z=>obtain ⟨_,_,_,_,e,_⟩:=h;cases e
theorem Jd{a:Addr}{o o':Obj}(e:V a=some o)(e':V a=some o'):o.cls=o'.cls:=congrArg Obj.cls (ah.inj (e.symm.trans e'))
theorem Mo{C:Prop}{x y:String}{a:Addr}{o o':Obj}(e:V a=some o)(e':V a=some o')(h:o.cls= .type x)(h':o'.cls= .type y)(n:x≠y):C:=by
 have:=h.symm.trans ((Jd e e').trans h')
 injection this with q
 exact absurd q n
theorem dw.ofList{a:Addr}{vs:List Value}{n:Nat}(e0:V a=some (listOf vs.toArray n))(h:dw cl V (.ref a) b)(q:∀m,bA cl V vs m->P (.list m)):P b:=by
 cases b with
 | str j=>obtain ⟨_,e⟩:=h;cases e
 | int x=>obtain ⟨_,e⟩:=h;cases e
 | none=>cases (h:Value.ref a= .none)
 | bool c=>cases (h:Value.ref a= .bool c)
 | list l=>obtain ⟨_,_,_,e,e1,r⟩:=h;cases e;exact q l (Mx e0 e1▸r)
 | tup l=>obtain ⟨_,_,_,e,e1,_⟩:=h;cases e;exact Mo e0 e1 rfl rfl (by decide)
 | inst c ks l=>obtain ⟨_,_,_,_,_,e,e1,_⟩:=h;cases e;cases Jd e0 e1
 | rng x y z=>obtain ⟨_,_,_,_,e,e1⟩:=h;cases e;exact Mo e0 e1 rfl rfl (by decide)
theorem dw.ofTup{a:Addr}{vs:List Value}{n:Nat}(e0:V a=some (nR vs.toArray n))(h:dw cl V (.ref a) b)(q:∀m,bA cl V vs m->P (.tup m)):P b:=by
 cases b with
 | str j=>obtain ⟨_,e⟩:=h;cases e
 | int x=>obtain ⟨_,e⟩:=h;cases e
 | none=>cases (h:Value.ref a= .none)
 | bool c=>cases (h:Value.ref a= .bool c)
 | list l=>obtain ⟨_,_,_,e,e1,_⟩:=h;cases e;exact Mo e0 e1 rfl rfl (by decide)
 | tup l=>obtain ⟨_,_,_,e,e1,r⟩:=h;cases e;exact q l (Qf e0 e1▸r)
 | inst c ks l=>obtain ⟨_,_,_,_,_,e,e1,_⟩:=h;cases e;cases Jd e0 e1
 | rng x y z=>obtain ⟨_,_,_,_,e,e1⟩:=h;cases e;exact Mo e0 e1 rfl rfl (by decide)
end
noncomputable def Ux(cl:Nat->Addr)(V:aX)(f:T->T->Option Bool):Prop:=∀v a b t,dw cl V v a->dw cl V v b->Ok (f a t) λr=>f b t=some r
theorem wJ{f:T->T->Option Bool}(hf:Ux cl V f):∀a b t vs,bA cl V vs a->bA cl V vs b->Ok (lP f a t) λr=>lP f b t=some r
 |[],[],_,_,_,_=>λ_ e=>e
 |[],_::_,_,vs,h,k=>by rw [show vs=[]from h]at k;obtain ⟨_,_,e,_⟩:=k;cases e
 | _::_,[],_,vs,h,k=>by rw [show vs=[]from k]at h;obtain ⟨_,_,e,_⟩:=h;cases e
 | _::_,_::_,[],_,_,_=>λ_ e=>e
 | a::r,b::q,t::m,vs,h,k=>h.consE (R:=λvs=>bA cl V vs (b::q)->Ok (lP f (a::r) (t::m)) λz=>lP f (b::q) (t::m)=some z)
   (λv us x xs k=> .bind (hf v a b t x k.inv.1) λp hp=> .map ((wJ hf r q m us xs k.inv.2).mono λz hz=>by show (f b t).bind (λx=>(lP f q m).map (x&& ·))=some (p&&z);rw [hp];show (lP f q m).map _=_;rw [hz];rfl)) k
theorem BJ:∀n,Ux cl V (xQ n)
 | 0,v,a,b,t,ha,hb=>S5 (Q:=λv r=>dw cl V v b->xQ 0 b t=some r) ha (λi k r e hb=>hb.ofInt (P:=λb=>xQ 0 b t=some r) e) (λi k r e hb=>hb.ofStr (P:=λb=>xQ 0 b t=some r) e) (λ_ _ _ _ _ _=> .none) (λ_ _ _ _ _ _=> .none)|>.mono λr h=>h hb
 | n+1,v,a,b,t,ha,hb=>S5 (Q:=λv r=>dw cl V v b->xQ (n+1) b t=some r) ha (λi k r e hb=>hb.ofInt (P:=λb=>xQ (n+1) b t=some r) e) (λi k r e hb=>hb.ofStr (P:=λb=>xQ (n+1) b t=some r) e)
   (λl a vs k e ra r er hb=>hb.ofList (P:=λb=>xQ (n+1) b t=some r) e λm rb=>
    T.onL_ok (P:=λt r=>xQ (n+1) (.list m) t=some r) (λq=>wJ (BJ n) l m q vs ra rb) r er)
   (λl a vs k e ra r er hb=>hb.ofTup (P:=λb=>xQ (n+1) b t=some r) e λm rb=>
    T.onT_ok (P:=λt r=>xQ (n+1) (.tup m) t=some r) (λq=> .if1 λhl r e=>(if_pos (rb.length.symm.trans (ra.length.trans hl))).trans (wJ (BJ n) l m q vs ra rb r e)) r er)|>.mono λr h=>h hb
end
section
variable{cl:Nat->Addr}{V:aX}{prog:Program}{w:World}{A:Around}{E:Value->Shared->Prop}{s:Shared}
open Classical in
theorem zB(hV:Le V s.heap.get?){B:Around}{vs:List Value}{ts:List T}{v:Value}{t:T}(hu:B.units+4<cLine)(ra:bA cl V vs ts)(rv:dw cl V v t):
  Ok (uu t ts) λbs=>bs.length=vs.length/\∃e:Value->Bool,(∀y∈vs.toArray,EqAt B s y v (e y))/\∀j (h1:j<vs.length) (h2:j<bs.length),e vs[j]=bs[j]:=zf.mono λbs ⟨l,f⟩=>by
 have l1:=ra.length
 refine ⟨l.trans l1.symm,?_⟩
 let e:Value->Bool:=λy=>if q:∃j,∃h:j<vs.length,vs[j]=y then bs[q.choose]'(by have:=q.choose_spec.choose;omega)else false
 have key:∀j (h1:j<vs.length) (h2:j<bs.length),e vs[j]=bs[j]:=λj h1 h2=>by
  have q:∃i,∃h:i<vs.length,vs[i]=vs[j]:=⟨j,h1,rfl⟩
  show (if q:∃i,∃h:i<vs.length,vs[i]=vs[j]then _ else _)=_
  rw [dif_pos q]
  have c1:=q.choose_spec.choose
  have r1:=bA.at _ c1 (l1▸c1) ra
  rw [q.choose_spec.choose_spec]at r1
  exact ah.inj (((f _ (l1▸c1) (by omega)).symm.trans (BJ 4 _ _ _ t (bA.at j h1 (l1▸h1) ra) r1 _ (f j (l1▸h1) h2))))
 refine ⟨e,λy hy=> ?_,key⟩
 obtain ⟨j,hj,rfl⟩:=List.getElem_of_mem (List.mem_toArray.mp hy)
 rw [key j hj (by omega)]
 exact rG hV 4 hu (bA.at j hj (l1▸hj) ra) rv _ (f j (l1▸hj) (by omega))
theorem zm{f:Value->Bool}:∀(us:List Value) (cs:List Bool),cs.length=us.length->(∀j (h1:j<us.length) (h2:j<cs.length),f us[j]=cs[j])->us.countP f=(cs.filter id).length
 |[],[],_,_=>rfl
 | u::us,c::cs,hl,hh=>by
  have ih:=zm us cs (b_.inj hl) λj h1 h2=>hh (j+1) (eW h1) (eW h2)
  have h0:f u=c:=hh 0 (kf _) (kf _)
  rw [Ma,h0,ih]
  cases c<;>rfl
noncomputable def Mt.id:Mt->String
 | .index=>"list.index" | .count=>"list.count"
theorem Kw{m:Mt}{vo va:Value}{to ta:T}(hA:fD A 0)(hV:Le V s.heap.get?)(ho:dw cl V vo to)(ha:dw cl V va ta):Ok (uq m to ta) (Wp cl V prog w A E s (call (.builtin m.id) [vo,va])):=by
 have hu:A.in1.units+4<cLine:=by have:=hA.units;show A.units+1+4<cLine;omega
 refine rL (Q:=λvo=>Wp cl V prog w A E s (call (.builtin m.id) [vo,va])) ho λl a vs n e ra=> .if1 λhl=> ?_
 have l1:=ra.length
 cases m with
 | index=>
  exact .bind (zB hV hu ra ha) λbs ⟨l2,f,he,hf⟩=> .map (nM.mono λk ⟨j,ek,hj,h1,h2⟩ Q hQ=>by
   have hj':j<vs.length:=l2▸hj
   refine call_meets F.slot_list_index ⟨_,hV _ _ e,rfl⟩ F.entry_list_index (F.args_list_index_2 _ _)
    (list_indexAt a vs.toArray n none #[] va f j hj' (by omega) ((hf j hj' hj).trans h1) λm hm hlt=>(hf m hm (l2.symm▸hm)).trans (h2 m (l2.symm▸hm) hlt)) ⟨hV _ _ e,λy hy=>he y hy,?_⟩
   rw [ek,gw]at hQ
   exact kl (i:=(j:Int)) hV hQ)
 | count=>
  exact .map ((zB hV hu ra ha).mono λbs ⟨l2,f,he,hf⟩ Q hQ=>by
   refine call_meets F.slot_list_count ⟨_,hV _ _ e,rfl⟩ F.entry_list_count (F.args_list_count_2 _ _) (list_countAt a vs.toArray n none #[] va f) ⟨hV _ _ e,λy hy=>he y hy,?_⟩
   rw [show vs.toArray.toList.countP f=(bs.filter id).length from zm vs bs l2 hf]
   exact kl hV hQ)
end
end
section
section
variable{cl:Nat->Addr}{V:aX}{prog:Program}{w:World}{A:Around}{E:Value->Shared->Prop}{s:Shared}
theorem D9{vs:List Value}{a:Int}(h:0<=a):slicePick vs.toArray (some a) none none=(vs.drop a.toNat).toArray:=by
 obtain ⟨x,rfl⟩:∃k:Nat,a=k:=⟨a.toNat,(dN h).symm⟩
 exact slicePick_from' ..
theorem Gj{vs:List Value}{a b:Int}(h:0<=a)(k:0<=b):slicePick vs.toArray (some a) (some b) none=((vs.take b.toNat).drop a.toNat).toArray:=by
 obtain ⟨x,rfl⟩:∃k:Nat,a=k:=⟨a.toNat,(dN h).symm⟩
 obtain ⟨y,rfl⟩:∃k:Nat,b=k:=⟨b.toNat,(dN k).symm⟩
 rw [slicePick_plain]
 simp only [Option.elim,clipAt_nat,aJ,gn]
 refine congrArg List.toArray ?_
 rw [List.drop_take]
 by_cases c1:x<=vs.length
 ·rw [vJ c1,List.take_eq_take_iff,sK]
  exact (vJ (Nat.sub_le_sub_right (Nat.min_le_right _ _) x)).trans (Nat.sub_min_sub_right ..).symm
 ·have c2:=Nat.le_of_not_le c1
  rw [Nat.min_eq_right c2,Am (aA _),Am c2,Qx,Qx]
theorem F6{v vl vu:Value}{t:T}{lo hi:Option Int}{sl:Addr}(hV:Le V s.heap.get?)(ha:dw cl V v t)(hs:s.heap.IsSliceOf sl vl vu .none)(pl:IsPart vl lo)(pu:IsPart vu hi):
  Ok (mx lo hi t) (Wp cl V prog w A E s (getItem v (.ref sl))):=rL (Q:=λv=>Wp cl V prog w A E s (getItem v (.ref sl))) ha λl a vs n e r=>by
 have fin:∀(ps:List T) (us:List Value),bA cl V us ps->slicePick vs.toArray lo hi none=us.toArray->l.length<=1000000->Wp cl V prog w A E s (getItem (.ref a) (.ref sl)) (.list ps):=λps us hr hp hz Q hQ=>by
  refine wpAny_getItem_list_slice (ck (hV _ _ e)) hs pl pu .none (λq=>nomatch q) ?_ (by rw [aJ,r.length,sizeLine_eq];omega)
  rw [hp]
  exact hQ _ _ _ (iF.push hV (o:=listOf us.toArray 0) rfl s.toks) (.list _ us 0 _ (fC ..) (hr.mono (lK hV _)))
 cases lo with
 | none=>exact .none
 | some x=>
  cases hi with
  | none=>
   exact .if1 λq=> .some (by
    rw [aB,aB,decide_eq_true_iff,decide_eq_true_iff]at q
    exact fin _ _ (r.drop _) (D9 q.1.1) q.2)
  | some y=>
   exact .if1 λq=> .some (by
    rw [aB,aB,aB,aB,decide_eq_true_iff,decide_eq_true_iff,decide_eq_true_iff]at q
    exact fin _ _ ((r.take _).drop _) (Gj q.1.1.1.1 q.1.1.1.2) q.2)
end
end
section
structure Sc where
 scope:Scope
 res:List (Str×Nat)
 top:Nat
@[reducible] noncomputable def kd(sc:Sc)(x:Str):Option NameKind:=sc.scope.names.lookup x
noncomputable def kb(sc:Sc)(x:Str):Bool:=(kd sc x==some .globalImplicit)&& !(x==("__debug__":Str))
noncomputable def fy(x:Str):Bool:= !(x==("__debug__":Str))&& !(x==("__classdict__":Str))
noncomputable def Mt.name:Mt->Str
 | .index=>aa "index" | .count=>aa "count"
structure Wd where
 prog:Program
 w:World
 B:aX
 cl:Nat->Addr
 fa:Nat->Addr
 K:Frag
 mg:Str->Option Value
 mb:Str->Option Value
 consts:List (Str×T)
structure Wd.Ok(W:Wd):Prop where
 ns:∀h:Heap,Le W.B h.get? ->h.Ns mainGlobals W.mg
 nb:∀h:Heap,Le W.B h.get? ->h.Ns builtinsNs W.mb
 kin:∀h:Heap,Le W.B h.get? ->W.K.In h
 cls:T_ W.K W.cl
 const:∀x t,W.consts.lookup x=some t->∃v,W.mg x=some v/\dw W.cl W.B v t
 fn:∀f x,nth fR f=some x->W.mg x=some (.ref (W.fa f))/\∀h:Heap,Le W.B h.get? ->∃o fd,h.get? (W.fa f)=some o/\o.data= .func fd
 clsn:∀c x,nth jw c=some x->W.mg x=some (.ref (W.cl c))/\∀h:Heap,Le W.B h.get? ->Makes (model W.prog W.w) h (W.cl c)
 bi:∀b:BI,W.mg b.name=none/\W.mb b.name=some b.fn
noncomputable def b9(env:Env)(h:Heap)(x:Str)(v:Value):Prop:=
 (env.kindOf x=some .local/\∃m,h.Ns env.locals m/\m x=some v)\/
 ((env.kindOf x=some .cell\/env.kindOf x=some .free)/\∃c,env.cells.lookup x=some c/\h.IsCell c (some v))
section
variable{W:Wd}{A:Around}{E:Value->Shared->Prop}{s:Shared}{env:Env}{V:aX}
theorem b9.keeps{h h':Heap}{x:Str}{v:Value}(l:b9 env h x v)(hk:∀b o,h.get? b=some o->h'.get? b=some o):b9 env h' x v:=by
 rcases l with ⟨a,m,b,c⟩ |⟨a,c,b,d⟩
 ·exact .inl ⟨a,m,b.keeps hk,c⟩
 ·exact .inr ⟨a,c,b,d.keeps hk⟩
theorem b9.name{x:Str}{v:Value}{Q:Value->Shared->Prop}(hk:env.scope.kind= .function)(l:b9 env s.heap x v)(hx:fy x=true)(h:Q v s):wpAny (model W.prog W.w) A (loadName env x) Q E s:=by
 unfold fy at hx
 simp only [aB,b0]at hx
 rcases l with ⟨a,m,b,c⟩ |⟨a | a,c,b,d⟩
 ·exact wpAny_loadName_local hk a b c h
 ·exact wpAny_loadName_cell hk a b d h
 ·exact wpAny_loadName_free hk a b d h hx.2
theorem b9.eval{x:Str}{pos:Pos}{v:Value}{Q:Value->Shared->Prop}(hk:env.scope.kind= .function)(l:b9 env s.heap x v)(hx:fy x=true)(h:Q v s):wpAny (model W.prog W.w) A (eval (.Name x pos) env) Q E s:=by
 refine wpAny_Name (l.name hk hx h) ?_
 unfold fy at hx
 simp only [aB,b0]at hx
 exact hx.1
structure bM(W:Wd)(sc:Sc)(env:Env)(X:List Addr)(V:aX)(ρ:b6)(s:Shared):Prop where
 kind:env.scope.kind= .function
 scope:env.scope=sc.scope
 glb:env.globals=mainGlobals
 blt:env.builtins=builtinsNs
 base:Le W.B V
 le:Le V s.heap.get?
 top:∀i,sc.top<=i->get ρ i=none
 loc:∃m,s.heap.Ns env.locals m
 locV:V env.locals=none
 locX:env.locals∉X
 cells:∀x,(kd sc x=some .cell\/kd sc x=some .free)->∃c,env.cells.lookup x=some c
 cellA:∀x c,env.cells.lookup x=some c->(∃v,s.heap.IsCell c v)/\V c=none/\c≠env.locals/\c∉X
 apart:∀x y c,env.cells.lookup x=some c->env.cells.lookup y=some c->x=y
 xs:∀a∈X,V a=none/\∃o,s.heap.get? a=some o
 slot:∀x i,sc.res.lookup x=some i->∀o,get ρ i=some o->∃v fp,b9 env s.heap x v/\ce W.cl V s.heap.get? v o fp/\∀a∈fp,V a=none/\a≠env.locals/\a∉X/\∀y c,env.cells.lookup y=some c->a≠c
variable{sc:Sc}{ρ:b6}{V':aX}{s':Shared}{X:List Addr}
theorem r6{cl:Nat->Addr}{V g:aX}:(∀(o:O) v fp,ce cl V g v o fp->∀a∈fp,∃x,g a=some x)/\∀(os:List O) vs fp,bw cl V g vs os fp->∀a∈fp,∃x,g a=some x:=
 O.both (λt v fp q a h=>nomatch (q.1▸h:a∈[])) (λl ih v fp q=>q.lstE (Q:=λ_ fp=>∀a∈fp,∃x,g a=some x) λb vs n f e r a h=>(aG.mp h).elim (λq=>⟨_,q▸e⟩) (ih vs f r a))
  (λc ks l ih v fp q=>q.insE (Q:=λ_ fp=>∀a∈fp,∃x,g a=some x) λb dx es n vs f e1 e2 _ _ _ r a h=>(aG.mp h).elim (λq=>⟨_,q▸e1⟩) λh=>(aG.mp h).elim (λq=>⟨_,q▸e2⟩) (ih vs f r a))
  (λvs fp q a h=>nomatch (q.2▸h:a∈[])) λo l i1 i2 vs fp q=>q.consE (R:=λ_ fp=>∀a∈fp,∃x,g a=some x) λv us f1 f2 x r a h=>(aP.mp h).elim (i1 v f1 x a) (i2 us f2 r a)
theorem ce.alive{cl:Nat->Addr}{V g:aX}{v:Value}{o:O}{fp:List Addr}(h:ce cl V g v o fp):∀a∈fp,∃x,g a=some x:=r6.1 o v fp h
theorem bw.alive{cl:Nat->Addr}{V g:aX}{vs:List Value}{os:List O}{fp:List Addr}(h:bw cl V g vs os fp):∀a∈fp,∃x,g a=some x:=r6.2 os vs fp h
theorem gG(x:iF V s V' s'){a:Addr}(h:V a=none)(al:∃o,s.heap.get? a=some o):V' a=none:=by
 cases q:V' a with
 | none=>rfl
 | some o=>
  rcases x.new a o q with e | e
  ·rw [h]at e;cases e
  ·obtain ⟨o',e'⟩:=al;rw [e]at e';cases e'
theorem ju{h:Heap}{a:Addr}{m:Str->Option Value}(n:h.Ns a m):∃o,h.get? a=some o:=by obtain ⟨o,_,_,e,_⟩:=n;exact ⟨o,e⟩
theorem eC{h:Heap}{a:Addr}{m:Option Value}(n:h.IsCell a m):∃o,h.get? a=some o:=by obtain ⟨o,e,_⟩:=n;exact ⟨o,e⟩
theorem bM.ext(h:bM W sc env X V ρ s)(x:iF V s V' s'):bM W sc env X V' ρ s' where
 kind:=h.kind
 scope:=h.scope
 glb:=h.glb
 blt:=h.blt
 base:=h.base.trans x.le
 le:=x.sub
 top:=h.top
 loc:=let ⟨m,n⟩:=h.loc;⟨m,n.keeps (aS x.keeps)⟩
 locV:=gG x h.locV (let ⟨_,n⟩:=h.loc;ju n)
 locX:=h.locX
 cells:=h.cells
 cellA:=λy c e=>by
  obtain ⟨⟨v,a⟩,b,d,f⟩:=h.cellA y c e
  exact ⟨⟨v,a.keeps (aS x.keeps)⟩,gG x b (eC a),d,f⟩
 apart:=h.apart
 xs:=λa ha=>by
  obtain ⟨b,o,e⟩:=h.xs a ha
  exact ⟨gG x b ⟨o,e⟩,o,aS x.keeps _ _ e⟩
 slot:=λy i e o q=>by
  obtain ⟨v,fp,l,r,k⟩:=h.slot y i e o q
  exact ⟨v,fp,l.keeps (aS x.keeps),r.mono x.le λb _ o e=>aS x.keeps b o e,λa ha=>⟨gG x (k a ha).1 (r.alive a ha),(k a ha).2⟩⟩
theorem bM.kd(h:bM W sc env X V ρ s)(x:Str):env.kindOf x=kd sc x:=by unfold Env.kindOf;rw [h.scope]
theorem bM.other(h:bM W sc env X V ρ s){h':Heap}{k:Nat}{a:Addr}(ha:a∈X)(hk:∀b o,b≠a->s.heap.get? b=some o->h'.get? b=some o)(hal:∃o,h'.get? a=some o):
  bM W sc env X V ρ {s with heap:=h',toks:=k} where
 kind:=h.kind
 scope:=h.scope
 glb:=h.glb
 blt:=h.blt
 base:=h.base
 le:=λb o e=>hk b o (by rintro rfl;rw [(h.xs _ ha).1]at e;cases e) (h.le b o e)
 top:=h.top
 loc:=let ⟨m,n⟩:=h.loc;⟨m,n.at' λo e=>hk _ o (by intro q;exact h.locX (q▸ha)) e⟩
 locV:=h.locV
 locX:=h.locX
 cells:=h.cells
 cellA:=λy c e=>by
  obtain ⟨⟨v,o,a1,a2⟩,b,d,f⟩:=h.cellA y c e
  exact ⟨⟨v,o,hk _ o (by rintro rfl;exact f ha) a1,a2⟩,b,d,f⟩
 apart:=h.apart
 xs:=λb hb=>by
  obtain ⟨c,o,e⟩:=h.xs b hb
  refine ⟨c,?_⟩
  by_cases q:b=a
  ·subst q;exact hal
  ·exact ⟨o,hk _ _ q e⟩
 slot:=λy i e o q=>by
  obtain ⟨v,fp,l,r,kk⟩:=h.slot y i e o q
  have hb:∀b∈fp,∀x,s.heap.get? b=some x->h'.get? b=some x:=λb hb x e=>hk b x (by rintro rfl;exact (kk _ hb).2.2.1 ha) e
  refine ⟨v,fp,?_,r.mono Le.rfl hb,kk⟩
  rcases l with ⟨l1,m,l2,l3⟩ |⟨l1,c,l2,l3⟩
  ·exact .inl ⟨l1,m,l2.at' λo e=>hk _ o (by intro q;exact h.locX (q▸ha)) e,l3⟩
  ·obtain ⟨o',c1,c2⟩:=l3
   exact .inr ⟨l1,c,l2,o',hk _ _ (by rintro rfl;exact (h.cellA _ _ l2).2.2.2 ha) c1,c2⟩
theorem bM.drop{ρ':b6}(h:bM W sc env X V ρ' s)(hg:∀i o,get ρ i=some o->get ρ' i=some o):bM W sc env X V ρ s:=
 ⟨h.kind,h.scope,h.glb,h.blt,h.base,h.le,λi hi=>Option.eq_none_iff_forall_ne_some.mpr λo q=>(nomatch (h.top i hi).symm.trans (hg _ _ q)),h.loc,h.locV,h.locX,h.cells,h.cellA,h.apart,h.xs,λx i e o q=>h.slot x i e o (hg _ _ q)⟩
theorem bM.less{X':List Addr}(h:bM W sc env X V ρ s)(hs:∀a∈X',a∈X):bM W sc env X' V ρ s:=
 ⟨h.kind,h.scope,h.glb,h.blt,h.base,h.le,h.top,h.loc,h.locV,λq=>h.locX (hs _ q),h.cells,λx c e=>let ⟨a,b,d,f⟩:=h.cellA x c e;⟨a,b,d,λq=>f (hs _ q)⟩,h.apart,
  λa ha=>h.xs a (hs _ ha),λx i e o q=>let ⟨v,fp,a,b,c⟩:=h.slot x i e o q;⟨v,fp,a,b,λa ha=>⟨(c a ha).1,(c a ha).2.1,λq=>(c a ha).2.2.1 (hs _ q),(c a ha).2.2.2⟩⟩⟩
theorem bM.more(h:bM W sc env X V ρ s){Y:List Addr}(hY:∀a∈Y,V a=none/\(∃o,s.heap.get? a=some o)/\a≠env.locals/\(∀y c,env.cells.lookup y=some c->a≠c))
  (hf:∀x i,sc.res.lookup x=some i->∀o,get ρ i=some o->∃v fp,b9 env s.heap x v/\ce W.cl V s.heap.get? v o fp/\∀a∈fp,V a=none/\a≠env.locals/\a∉Y++X/\∀y c,env.cells.lookup y=some c->a≠c):bM W sc env (Y++X) V ρ s:=
 ⟨h.kind,h.scope,h.glb,h.blt,h.base,h.le,h.top,h.loc,h.locV,λq=>(aP.mp q).elim (λq=>(hY _ q).2.2.1 rfl) h.locX,h.cells,
  λx c e=>let ⟨a,b,d,f⟩:=h.cellA x c e;⟨a,b,d,λq=>(aP.mp q).elim (λq=>(hY _ q).2.2.2 x c e rfl) f⟩,h.apart,
  λa ha=>(aP.mp ha).elim (λq=>⟨(hY _ q).1,(hY _ q).2.1⟩) (h.xs a),hf⟩
theorem gb{o:O}:∀{r:b6} {i j:Nat},i≠j->get (fO r i o) j=get r j
 |[],_,_,_=>rfl
 | _::_,0,0,h=>absurd rfl h
 | _::_,0,_+1,_=>rfl
 | _::_,_+1,0,_=>rfl
 | _::r,i+1,j+1,h=>gb (r:=r) (i:=i) (j:=j) λq=>h (by rw [q])
theorem sr{o o':O}:∀{r:b6} {i:Nat},get (fO r i o) i=some o'->o'=o
 |[],_,h=>no h
 | _::_,0,h=>by cases h;rfl
 | _::r,i+1,h=>sr (r:=r) (i:=i) h
theorem wB{o o':O}{i j:Nat}(h:get (fO ρ i o) j=some o'):(i=j/\o'=o)\/(i≠j/\get ρ j=some o'):=by
 by_cases q:i=j
 ·subst q;exact .inl ⟨rfl,sr h⟩
 ·rw [gb q]at h;exact .inr ⟨q,h⟩
noncomputable def db(sc:Sc):Prop:=(∀x y i,sc.res.lookup x=some i->sc.res.lookup y=some i->x=y)/\∀x i,sc.res.lookup x=some i->i<sc.top
noncomputable def lj(env:Env)(x:Str)(h h':Heap):Prop:=∀b o,b≠env.locals->(∀c,env.cells.lookup x=some c->b≠c)->h.get? b=some o->h'.get? b=some o
theorem bM.store(h:bM W sc env X V ρ s)(R:db sc){x:Str}{i:Nat}{v:Value}{o:O}{fp:List Addr}{Q:Unit->Shared->Prop}(hi:sc.res.lookup x=some i)(hk:TI.kd sc x=some .local\/TI.kd sc x=some .cell)
  (r:ce W.cl V s.heap.get? v o fp) (hfp:∀a∈fp,V a=none/\a≠env.locals/\a∉X/\∀y c,env.cells.lookup y=some c->a≠c)
  (q:∀h' k,bM W sc env X V (fO ρ i o) {s with heap:=h',toks:=k}->lj env x s.heap h'->b9 env h' x v->(∀y u,y≠x->b9 env s.heap y u->b9 env h' y u)->Q () {s with heap:=h',toks:=k}):wpAny (model W.prog W.w) A (storeName env x v) Q E s:=by
 have hne:∀y j,sc.res.lookup y=some j->y≠x->j≠i:=λy j e n q=>n (R.1 y x i (q▸e) hi)
 have fin:∀(h':Heap) (k:Nat) (a:Addr),(∀b o,b≠a->s.heap.get? b=some o->h'.get? b=some o)->V a=none->a∉X->(∀y j o fp',sc.res.lookup y=some j->ce W.cl V s.heap.get? v o fp'->True)->
   (∃o,h'.get? a=some o)->(a=env.locals\/∃c,env.cells.lookup x=some c/\a=c)->(∃m,h'.Ns env.locals m)->(∀y c,env.cells.lookup y=some c->∃v,h'.IsCell c v)->(∀y u,y≠x->b9 env s.heap y u->b9 env h' y u)->b9 env h' x v->bM W sc env X V (fO ρ i o) {s with heap:=h',toks:=k}:=by
  intro h' k a hb hVa hXa _ hal hwho hloc hcell hl hx
  have off:∀{fp':List Addr},(∀b∈fp',V b=none/\b≠env.locals/\b∉X/\∀y c,env.cells.lookup y=some c->b≠c)->a∉fp':=λkk hm=>by
   rcases hwho with e |⟨c,e,e'⟩
   ·exact (kk _ hm).2.1 e
   ·exact (kk _ hm).2.2.2 _ _ e e'
  refine ⟨h.kind,h.scope,h.glb,h.blt,h.base,λb o e=>hb b o (by rintro rfl;rw [hVa]at e;cases e) (h.le b o e),λj hj=> ?_,hloc,h.locV,h.locX,h.cells,λy c e=>⟨hcell y c e,(h.cellA y c e).2⟩,h.apart,λb hm=>⟨(h.xs b hm).1,?_⟩,λy j e o' g=> ?_⟩
  ·have:=R.2 x i hi
   rw [gb (by omega)];exact h.top j hj
  ·obtain ⟨_,o,e⟩:=h.xs b hm
   exact ⟨o,hb b o (by rintro rfl;exact hXa hm) e⟩
  ·rcases wB g with ⟨q1,q2⟩ |⟨q1,q2⟩
   ·subst q1;subst q2
    obtain rfl:=R.1 y x _ e hi
    exact ⟨v,fp,hx,r.mono Le.rfl λb hm x e=>hb b x (by rintro rfl;exact off hfp hm) e,hfp⟩
   ·obtain ⟨u,fp',l,r',kk⟩:=h.slot y j e o' q2
    refine ⟨u,fp',hl y u (by rintro rfl;rw [e]at hi;exact q1 (ah.inj hi).symm) l,r'.mono Le.rfl λb hm x e=>hb b x (by rintro rfl;exact off kk hm) e,kk⟩
 rcases hk with hk | hk
 ·obtain ⟨m,hm⟩:=h.loc
  refine wpAny_storeName_local (by rw [h.kd,hk]) hm (λh' hn hs=> ?_) (by rw [h.kind];rfl)
  have hL:b9 env h' x v:= .inl ⟨by rw [h.kd,hk],_,hn,if_pos rfl⟩
  have hO:∀y u,y≠x->b9 env s.heap y u->b9 env h' y u:= ?_
  refine q h' _ (fin h' _ env.locals (λb o=>hs.extBut b o) h.locV h.locX (λ_ _ _ _ _ _=>trivial) (ju hn) (.inl rfl) ⟨_,hn⟩ (λy c e=> ?_) hO hL) (λb o hb _ e=>hs.extBut b o hb e) hL hO
  ·obtain ⟨⟨w,a⟩,_,d,_⟩:=h.cellA y c e
   exact ⟨w,a.sameBut hs d⟩
  ·intro y u hy l
   rcases l with ⟨l1,m',l2,l3⟩ |⟨l1,c,l2,l3⟩
   ·obtain ⟨o1,es1,ep1,g1,r1⟩:=id hn
    refine .inl ⟨l1,_,hn,?_⟩
    rw [if_neg hy]
    have:m y=m' y:=by rw [lG.eq_nsMap hm,lG.eq_nsMap l2]
    rw [this];exact l3
   ·exact .inr ⟨l1,c,l2,l3.sameBut hs (h.cellA y c l2).2.2.1⟩
 ·obtain ⟨c,hc⟩:=h.cells x (.inl hk)
  obtain ⟨⟨w,ha⟩,hVc,hcl,hcX⟩:=h.cellA x c hc
  refine wpAny_storeName_cell h.kind (by rw [h.kd,hk]) hc ha λh' hn hs=> ?_
  have hL:b9 env h' x v:= .inr ⟨.inl (by rw [h.kd,hk]),c,hc,hn⟩
  obtain ⟨m,hm⟩:=h.loc
  have hO:∀y u,y≠x->b9 env s.heap y u->b9 env h' y u:= ?_
  refine q h' s.toks (fin h' _ c (λb o=>hs.extBut b o) hVc hcX (λ_ _ _ _ _ _=>trivial) (eC hn) (.inr ⟨c,hc,rfl⟩) ⟨m,hm.sameBut hs (Ne.symm hcl)⟩ (λy c' e=> ?_) hO hL) (λb o _ hb e=>hs.extBut b o (hb c hc) e) hL hO
  ·by_cases q:c'=c
   ·subst q;exact ⟨_,hn⟩
   ·obtain ⟨⟨w,a⟩,_,d,_⟩:=h.cellA y c' e
    exact ⟨w,a.sameBut hs q⟩
  ·intro y u hy l
   rcases l with ⟨l1,m',l2,l3⟩ |⟨l1,c',l2,l3⟩
   ·exact .inl ⟨l1,m',l2.sameBut hs (Ne.symm hcl),l3⟩
   ·exact .inr ⟨l1,c',l2,l3.sameBut hs (by rintro rfl;exact hy (h.apart _ _ _ l2 hc))⟩
theorem u0{x:Str}(h:kb sc x=true):TI.kd sc x=some .globalImplicit/\(x==("__debug__":Str))=false:=by
 unfold kb at h
 rw [aB,beq_iff_eq,b0]at h
 exact h
theorem bM.glob(O:W.Ok)(h:bM W sc env X V ρ s){x:Str}{pos:Pos}{v:Value}{Q:Value->Shared->Prop}(g:kb sc x=true)(hv:W.mg x=some v)(q:Q v s):wpAny (model W.prog W.w) A (eval (.Name x pos) env) Q E s:=by
 obtain ⟨g1,g2⟩:=u0 g
 refine Calls.Name_function_global h.kind (by rw [h.kd,g1]) (Calls.loadGlobal_global (mg:=W.mg) ?_ hv q) g2
 rw [h.glb];exact O.ns _ (h.base.trans h.le)
theorem bM.blti(O:W.Ok)(h:bM W sc env X V ρ s){x:Str}{pos:Pos}{v:Value}{Q:Value->Shared->Prop}(g:kb sc x=true)(hn:W.mg x=none)(hv:W.mb x=some v)(q:Q v s):wpAny (model W.prog W.w) A (eval (.Name x pos) env) Q E s:=by
 obtain ⟨g1,g2⟩:=u0 g
 refine Calls.Name_function_global h.kind (by rw [h.kd,g1]) (Calls.loadGlobal_builtin (mg:=W.mg) (mb:=W.mb) ?_ hn ?_ hv q) g2
 ·rw [h.glb];exact O.ns _ (h.base.trans h.le)
 ·rw [h.blt];exact O.nb _ (h.base.trans h.le)
theorem fD.mono{n m:Nat}(h:fD A n)(hm:m<=n):fD A m:=⟨h.handled,by have:=h.depth;omega,by have:=h.units;omega⟩
theorem ce.t?{g:aX}{v:Value}{o:O}{fp:List Addr}{t:T}(h:ce W.cl V g v o fp)(e:o.t? =some t):dw W.cl V v t:=by
 cases o with
 | sh x=>cases e;exact h.2
 | lst l=>exact no e
 | ins c ks l=>exact no e
theorem ce.int?{g:aX}{v:Value}{o:O}{fp:List Addr}{i:Int}(h:ce W.cl V g v o fp)(e:o.int? =some i):∃t,v= .int i t:=by
 cases o with
 | sh x=>
  cases x with
  | int k=>cases e;exact h.2
  | _=>exact no e
 | lst l=>exact no e
 | ins c ks l=>exact no e
noncomputable def fW(e:ag):Bool:= !eV e.ctorIdx 22
theorem cF{e:ag}{rest:List ag}(h:fW e=true):starEach (e::rest) env=(false,eval e env)::starEach rest env:=by
 cases e<;>first | rfl | cases h
theorem li{pos:Pos}:∀{es:List ag},es.all fW=true->(backTo pos (starEach es env)).any (·.1)=false
 |[],_=>rfl
 | e::es,h=>by
  rw [oT,aB]at h
  rw [cF h.1]
  show (false||(backTo pos (starEach es env)).any (·.1))=false
  rw [li h.2];rfl
theorem gU{M:Model}{pos:Pos}{f:Value}{es:List ag}{Q:Args->Shared->Prop}(h:es.all fW=true)
  (q:wpAny M A (spliced (backTo pos (starEach es env))) (λvs s'=>Q ⟨vs,[]⟩ s') E s):wpAny M A (evalArgs f true (backTo pos (starEach es env)) []) Q E s:=by
 cases es with
 | nil=>
  have q':wpAny M A (spliced []) (λvs s'=>Q ⟨vs,[]⟩ s') E s:=q
  show wpAny M A (evalArgs f true [] []) Q E s
  unfold evalArgs
  show wpAny M A (spliced []>>=_) Q E s
  refine wpAny_bind (wpAny_mono q' (λvs s' h'=>wpAny_bind (wpAny_pure ?_)) λ_ _ e=>e)
  refine wpAny_holding ?_
  exact wpAny_bind (wpAny_pure (wpAny_bind (wpAny_pure (wpAny_pure h'))))
 | cons e es=>
  rw [oT,aB]at h
  rw [cF h.1]at q⊢
  exact Calls.evalArgs_plain q
theorem uf{M:Model}{C:Addr}{pos:Pos}{es:List ag}{Q:Value->Shared->Prop}(h:es.all fW=true)
  (q:wpAny M A (spliced (backTo pos (starEach es env))) (λvs s'=>Makes M s'.heap C/\wpAny M A (call (.ref C) vs) Q E s') E s):wpAny M A (callWith pos (.ref C) [] (backTo pos (starEach es env)) []) Q E s:=by
 unfold callWith
 refine wpAny_bind (wpAny_holding (gU h (wpAny_mono q (λvs s₁ h₁=>wpAny_bind (wpAny_standAt ?_)) λ_ _ e=>e)))
 obtain ⟨⟨⟨oc,od,cd,sl,hC,_⟩,_,_,_,_,hc,_⟩,hq⟩:=h₁
 have hst:=li (env:=env) (pos:=pos) h
 refine wpAny_bind ?_
 unfold keeperOf
 refine wpAny_bind (wpAny_load hC ?_)
 refine wpAny_bind (hc.here ?_)
 rw [if_pos (by rfl)]
 refine wpAny_pure ?_
 simp only [hst,List.any_nil,cg]
 exact wpAny_bind (wpAny_mono hq (λr s₂ hr=>wpAny_bind (wpAny_holding (wpAny_point (wpAny_pure hr)))) λ_ _ x=>x)
structure fm(W:Wd)(n:Nat)(c:d5):Prop where
 call:∀f ts t,c.call f ts=some t->∀A,fD A n->∀V s,Le W.B V->Le V s.heap.get? ->∀vs,bA W.cl V vs ts->∀E Q,K W.cl V s t Q->wpAny (model W.prog W.w) A (kB (.ref (W.fa f)) vs) Q E s
 new:∀k ts o,c.new k ts=some o->∀A,fD A n->∀V s,Le W.B V->Le V s.heap.get? ->∀vs,bA W.cl V vs ts->∀(E:Value->Shared->Prop) (Q:Value->Shared->Prop),
  (∀v s' V' fp,iF V s V' s'->ce W.cl V' s'.heap.get? v o fp->fp.Nodup->(∀a∈fp,s.heap.get? a=none/\V' a=none)->Q v s')->wpAny (model W.prog W.w) A (kB (.ref (W.cl k)) vs) Q E s
end
end
section
theorem dI{p P:Prop}[Decidable p]{f:p->Bool}(h:xh false f=true)(k:∀q,f q=true->P):P:=by
 unfold xh at h
 split at h
 ·exact k _ h
 ·exact aL h
section
variable{P:ag->Prop}{e:ag}
noncomputable def M8(e:ag)(f:Const->Nat->Pos->Bool):Bool:=xh (p:=e.ctorIdx=19) false λq=>Expr.Constant.elim (motive_1:=λ_=>Bool) e q f
theorem GE{f:Const->Nat->Pos->Bool}(h:M8 e f=true)(k:∀c n p,f c n p=true->P (.Constant c n p)):P e:=
 dI h λq h=>Expr.Constant.elim (motive_1:=λe=>∀q,Expr.Constant.elim (motive_1:=λ_=>Bool) e q f=true->P e) e q (λc n p _ h=>k c n p h) q h
noncomputable def i8(e:ag)(f:Str->Pos->Bool):Bool:=xh (p:=e.ctorIdx=23) false λq=>Expr.Name.elim (motive_1:=λ_=>Bool) e q f
theorem dL{f:Str->Pos->Bool}(h:i8 e f=true)(k:∀y p,f y p=true->P (.Name y p)):P e:=
 dI h λq h=>Expr.Name.elim (motive_1:=λe=>∀q,Expr.Name.elim (motive_1:=λ_=>Bool) e q f=true->P e) e q (λy p _ h=>k y p h) q h
noncomputable def M'(e:ag)(f:ag->Operator->ag->Pos->Bool):Bool:=xh (p:=e.ctorIdx=2) false λq=>Expr.BinOp.elim (motive_1:=λ_=>Bool) e q f
theorem s7{f:ag->Operator->ag->Pos->Bool}(h:M' e f=true)(k:∀l o r p,f l o r p=true->P (.BinOp l o r p)):P e:=
 dI h λq h=>Expr.BinOp.elim (motive_1:=λe=>∀q,Expr.BinOp.elim (motive_1:=λ_=>Bool) e q f=true->P e) e q (λl o r p _ h=>k l o r p h) q h
noncomputable def Mw(e:ag)(f:UnaryOp->ag->Pos->Bool):Bool:=xh (p:=e.ctorIdx=3) false λq=>Expr.UnaryOp.elim (motive_1:=λ_=>Bool) e q f
theorem rm{f:UnaryOp->ag->Pos->Bool}(h:Mw e f=true)(k:∀o x p,f o x p=true->P (.UnaryOp o x p)):P e:=
 dI h λq h=>Expr.UnaryOp.elim (motive_1:=λe=>∀q,Expr.UnaryOp.elim (motive_1:=λ_=>Bool) e q f=true->P e) e q (λo x p _ h=>k o x p h) q h
noncomputable def I0(e:ag)(f:BoolOp->List ag->Pos->Bool):Bool:=xh (p:=e.ctorIdx=0) false λq=>Expr.BoolOp.elim (motive_1:=λ_=>Bool) e q f
theorem oe{f:BoolOp->List ag->Pos->Bool}(h:I0 e f=true)(k:∀o l p,f o l p=true->P (.BoolOp o l p)):P e:=
 dI h λq h=>Expr.BoolOp.elim (motive_1:=λe=>∀q,Expr.BoolOp.elim (motive_1:=λ_=>Bool) e q f=true->P e) e q (λo l p _ h=>k o l p h) q h
noncomputable def M9(e:ag)(f:ag->List CmpOp->List ag->Pos->Bool):Bool:=xh (p:=e.ctorIdx=15) false λq=>Expr.Compare.elim (motive_1:=λ_=>Bool) e q f
theorem yQ{f:ag->List CmpOp->List ag->Pos->Bool}(h:M9 e f=true)(k:∀l o r p,f l o r p=true->P (.Compare l o r p)):P e:=
 dI h λq h=>Expr.Compare.elim (motive_1:=λe=>∀q,Expr.Compare.elim (motive_1:=λ_=>Bool) e q f=true->P e) e q (λl o r p _ h=>k l o r p h) q h
noncomputable def M5(e:ag)(f:ag->ag->ag->Pos->Bool):Bool:=xh (p:=e.ctorIdx=5) false λq=>Expr.IfExp.elim (motive_1:=λ_=>Bool) e q f
theorem GB{f:ag->ag->ag->Pos->Bool}(h:M5 e f=true)(k:∀t x y p,f t x y p=true->P (.IfExp t x y p)):P e:=
 dI h λq h=>Expr.IfExp.elim (motive_1:=λe=>∀q,Expr.IfExp.elim (motive_1:=λ_=>Bool) e q f=true->P e) e q (λt x y p _ h=>k t x y p h) q h
noncomputable def ul(e:ag)(f:ag->Str->Pos->Bool):Bool:=xh (p:=e.ctorIdx=20) false λq=>Expr.Attribute.elim (motive_1:=λ_=>Bool) e q f
theorem iz{f:ag->Str->Pos->Bool}(h:ul e f=true)(k:∀v n p,f v n p=true->P (.Attribute v n p)):P e:=
 dI h λq h=>Expr.Attribute.elim (motive_1:=λe=>∀q,Expr.Attribute.elim (motive_1:=λ_=>Bool) e q f=true->P e) e q (λv n p _ h=>k v n p h) q h
noncomputable def z6(e:ag)(f:ag->ag->Pos->Bool):Bool:=xh (p:=e.ctorIdx=21) false λq=>Expr.Subscript.elim (motive_1:=λ_=>Bool) e q f
theorem jr{f:ag->ag->Pos->Bool}(h:z6 e f=true)(k:∀v i p,f v i p=true->P (.Subscript v i p)):P e:=
 dI h λq h=>Expr.Subscript.elim (motive_1:=λe=>∀q,Expr.Subscript.elim (motive_1:=λ_=>Bool) e q f=true->P e) e q (λv i p _ h=>k v i p h) q h
noncomputable def M2(e:ag)(f:Option ag->Option ag->Option ag->Pos->Bool):Bool:=xh (p:=e.ctorIdx=26) false λq=>Expr.Slice.elim (motive_1:=λ_=>Bool) e q f
theorem Gz{f:Option ag->Option ag->Option ag->Pos->Bool}(h:M2 e f=true)(k:∀l u t p,f l u t p=true->P (.Slice l u t p)):P e:=
 dI h λq h=>Expr.Slice.elim (motive_1:=λe=>∀q,Expr.Slice.elim (motive_1:=λ_=>Bool) e q f=true->P e) e q (λl u t p _ h=>k l u t p h) q h
noncomputable def M4(e:ag)(f:List ag->Pos->Bool):Bool:=xh (p:=e.ctorIdx=24) false λq=>Expr.List.elim (motive_1:=λ_=>Bool) e q f
theorem yO{f:List ag->Pos->Bool}(h:M4 e f=true)(k:∀l p,f l p=true->P (.List l p)):P e:=
 dI h λq h=>Expr.List.elim (motive_1:=λe=>∀q,Expr.List.elim (motive_1:=λ_=>Bool) e q f=true->P e) e q (λl p _ h=>k l p h) q h
noncomputable def M1(e:ag)(f:List ag->Nat->Pos->Bool):Bool:=xh (p:=e.ctorIdx=25) false λq=>Expr.Tuple.elim (motive_1:=λ_=>Bool) e q f
theorem Gy{f:List ag->Nat->Pos->Bool}(h:M1 e f=true)(k:∀l n p,f l n p=true->P (.Tuple l n p)):P e:=
 dI h λq h=>Expr.Tuple.elim (motive_1:=λe=>∀q,Expr.Tuple.elim (motive_1:=λ_=>Bool) e q f=true->P e) e q (λl n p _ h=>k l n p h) q h
noncomputable def qR(e:ag)(f:ag->List ag->List Keyword->Pos->Bool):Bool:=xh (p:=e.ctorIdx=16) false λq=>Expr.Call.elim (motive_1:=λ_=>Bool) e q f
theorem iy{f:ag->List ag->List Keyword->Pos->Bool}(h:qR e f=true)(k:∀g a w p,f g a w p=true->P (.Call g a w p)):P e:=
 dI h λq h=>Expr.Call.elim (motive_1:=λe=>∀q,Expr.Call.elim (motive_1:=λ_=>Bool) e q f=true->P e) e q (λg a w p _ h=>k g a w p h) q h
noncomputable def IZ(e:ag)(f:ag->List Comprehension->Scope->Pos->Bool):Bool:=xh (p:=e.ctorIdx=8) false λq=>Expr.ListComp.elim (motive_1:=λ_=>Bool) e q f
theorem GF{f:ag->List Comprehension->Scope->Pos->Bool}(h:IZ e f=true)(k:∀e g s p,f e g s p=true->P (.ListComp e g s p)):P e:=
 dI h λq h=>Expr.ListComp.elim (motive_1:=λe=>∀q,Expr.ListComp.elim (motive_1:=λ_=>Bool) e q f=true->P e) e q (λe g s p _ h=>k e g s p h) q h
end
section
variable{P:Stmt->Prop}{e:Stmt}
noncomputable def um(e:Stmt)(f:List ag->ag->Pos->Bool):Bool:=xh (p:=e.ctorIdx=5) false λq=>Stmt.Assign.elim (motive_2:=λ_=>Bool) e q f
theorem kS{f:List ag->ag->Pos->Bool}(h:um e f=true)(k:∀t v p,f t v p=true->P (.Assign t v p)):P e:=
 dI h λq h=>Stmt.Assign.elim (motive_2:=λe=>∀q,Stmt.Assign.elim (motive_2:=λ_=>Bool) e q f=true->P e) e q (λt v p _ h=>k t v p h) q h
noncomputable def z7(e:Stmt)(f:ag->Operator->ag->Pos->Bool):Bool:=xh (p:=e.ctorIdx=7) false λq=>Stmt.AugAssign.elim (motive_2:=λ_=>Bool) e q f
theorem og{f:ag->Operator->ag->Pos->Bool}(h:z7 e f=true)(k:∀t o v p,f t o v p=true->P (.AugAssign t o v p)):P e:=
 dI h λq h=>Stmt.AugAssign.elim (motive_2:=λe=>∀q,Stmt.AugAssign.elim (motive_2:=λ_=>Bool) e q f=true->P e) e q (λt o v p _ h=>k t o v p h) q h
noncomputable def M6(e:Stmt)(f:ag->List Stmt->List Stmt->Pos->Bool):Bool:=xh (p:=e.ctorIdx=12) false λq=>Stmt.If.elim (motive_2:=λ_=>Bool) e q f
theorem GC{f:ag->List Stmt->List Stmt->Pos->Bool}(h:M6 e f=true)(k:∀t x y p,f t x y p=true->P (.If t x y p)):P e:=
 dI h λq h=>Stmt.If.elim (motive_2:=λe=>∀q,Stmt.If.elim (motive_2:=λ_=>Bool) e q f=true->P e) e q (λt x y p _ h=>k t x y p h) q h
noncomputable def M7(e:Stmt)(f:ag->ag->List Stmt->List Stmt->Pos->Bool):Bool:=xh (p:=e.ctorIdx=9) false λq=>Stmt.For.elim (motive_2:=λ_=>Bool) e q f
theorem GD{f:ag->ag->List Stmt->List Stmt->Pos->Bool}(h:M7 e f=true)(k:∀t i x y p,f t i x y p=true->P (.For t i x y p)):P e:=
 dI h λq h=>Stmt.For.elim (motive_2:=λe=>∀q,Stmt.For.elim (motive_2:=λ_=>Bool) e q f=true->P e) e q (λt i x y p _ h=>k t i x y p h) q h
noncomputable def M0(e:Stmt)(f:ag->List Stmt->List Stmt->Pos->Bool):Bool:=xh (p:=e.ctorIdx=11) false λq=>Stmt.While.elim (motive_2:=λ_=>Bool) e q f
theorem Gx{f:ag->List Stmt->List Stmt->Pos->Bool}(h:M0 e f=true)(k:∀t x y p,f t x y p=true->P (.While t x y p)):P e:=
 dI h λq h=>Stmt.While.elim (motive_2:=λe=>∀q,Stmt.While.elim (motive_2:=λ_=>Bool) e q f=true->P e) e q (λt x y p _ h=>k t x y p h) q h
noncomputable def M3(e:Stmt)(f:Option ag->Pos->Bool):Bool:=xh (p:=e.ctorIdx=3) false λq=>Stmt.Return.elim (motive_2:=λ_=>Bool) e q f
theorem GA{f:Option ag->Pos->Bool}(h:M3 e f=true)(k:∀v p,f v p=true->P (.Return v p)):P e:=
 dI h λq h=>Stmt.Return.elim (motive_2:=λe=>∀q,Stmt.Return.elim (motive_2:=λ_=>Bool) e q f=true->P e) e q (λv p _ h=>k v p h) q h
noncomputable def IY(e:Stmt)(f:ag->Pos->Bool):Bool:=xh (p:=e.ctorIdx=24) false λq=>Stmt.Expr.elim (motive_2:=λ_=>Bool) e q f
theorem yP{f:ag->Pos->Bool}(h:IY e f=true)(k:∀v p,f v p=true->P (.Expr v p)):P e:=
 dI h λq h=>Stmt.Expr.elim (motive_2:=λe=>∀q,Stmt.Expr.elim (motive_2:=λ_=>Bool) e q f=true->P e) e q (λv p _ h=>k v p h) q h
end
section
variable{α:Type}{P:List α->Prop}{l:List α}
theorem fJ(h:Fd l=true)(k:P []):P l:=by
 cases l with
 | nil=>exact k
 | cons a r=>exact aL (show false=true from h)
theorem fH{f:α->List α->Bool}(h:M_ l f=true)(k:∀a r,f a r=true->P (a::r)):P l:=by
 cases l with
 | nil=>exact aL (show false=true from h)
 | cons a r=>exact k a r h
noncomputable def onO(l:List α)(f:α->Bool):Bool:=M_ l λa r=>Fd r&&f a
theorem onO_ok{f:α->Bool}(h:onO l f=true)(k:∀a,f a=true->P [a]):P l:=
 fH h λa r q=>fJ (P:=λr=>P (a::r)) (bH.mp q).1 (k a (bH.mp q).2)
end
theorem aR{a b:Bool}{P:Prop}(h:(a&&b)=true)(k:a=true->b=true->P):P:=k (bH.mp h).1 (bH.mp h).2
end
noncomputable def TG:Const->Option T
 | .none=>some .none
 | .bool b=>some (.bool b)
 | .int i=>some (.int i)
 | .str s=>some (.str s)
 | _=>ae
noncomputable def kT(e:ag):Bool:= !eV e.ctorIdx 26
noncomputable def jl(e:ag):Bool:= !qR e λg a k _=>Fd a&&(Fd k&&i8 g λid _=>id==("super":Str))
noncomputable def xr(e:ag):Bool:= !eV e.ctorIdx 7
noncomputable def isNil:X->Bool
 | .nil=>true
 | _=>false
noncomputable def hW:List ag->Option (List Str)
 |[]=>some []
 | e::r=>My e none λx=>(hW r).map (x:: ·)
noncomputable def zG(e:ag):Option (List Str):=My e (xh (p:=e.ctorIdx=25) none λq=>Expr.Tuple.elim (motive_1:=λ_=>Option (List Str)) e q λes _ _=>if 2<=es.length then hW es else none) λx=>some [x]
noncomputable def eG(scope outer:Scope):Scope:=
 {scope with names:=scope.names.map λ(n,k)=>if (k== .free&&outer.kind== .function&&outer.names.lookup n==some .cell)then (n,.cell)else (n,k)}
noncomputable def iM(sc:Sc)(scope:Scope)(ns:List Str)(tg:List Nat):Sc:=
 ⟨eG scope sc.scope,ns.zip tg++sc.res.filter (λp=>scope.names.lookup p.1==some .free),tg.foldl (λm i=>max m (i+1)) sc.top⟩
noncomputable def BM(sc:Sc)(scope:Scope)(ns:List Str)(tg:List Nat):Bool:=
 (scope.kind== .function)&&(scope.names.all λx=>x.2 != .local||scope.names.lookup x.1==some .local)&&(scope.names.all λx=>x.2 != .free||(kd sc x.1==some .cell||kd sc x.1==some .free))&&
 decide ((scope.names.filter (λx=>x.2== .cell)).length<=1)&&(scope.names.all λx=>x.2 != .cell||scope.names.lookup x.1==some .cell)&&
 (scope.names.all λx=>x.2 != .free||scope.names.lookup x.1==some .free)&&(ns.all λx=>scope.names.lookup x==some .local||scope.names.lookup x==some .cell)&&decide ns.Nodup&&decide tg.Nodup&&(ns.length==tg.length)&&(tg.all λi=>decide (sc.top<=i))
noncomputable def gK(o:BoolOp)(y:ag)(r:List ag)(p:Pos):ag:=r.casesOn y λ_ _=> .BoolOp o (y::r) p
noncomputable def UH(n:X)(u:Option ag)(f:ag->Bool):Bool:=u.casesOn (isNil n) λh=> !isNil n&&f h
noncomputable def Su(n:X)(u:List ag)(f:ag->Bool):Bool:=u.casesOn (isNil n) λh r=>Fd r&&(!isNil n&&f h)
mutual
noncomputable def cG(cs:List (Str×T)):X->Sc->ag->Bool
 | .lit t,_,e=>M8 e λc _ _=>(TG c).any (T.same t)
 | .glob x t,sc,e=>i8 e λy _=>(x==y)&&(kb sc y&&(cs.lookup y).any (T.same t))
 | .var i,sc,e=>i8 e λy _=>(sc.res.lookup y==some i)&&fy y
 | .bin op a b,sc,e=>M' e λl o r _=>(op.py==o)&&(cG cs a sc l&&cG cs b sc r)
 | .neg a,sc,e=>Mw e λo x _=>(o== .USub)&&cG cs a sc x
 | .inv a,sc,e=>Mw e λo x _=>(o== .Invert)&&cG cs a sc x
 | .nott a,sc,e=>Mw e λo x _=>(o== .Not)&&cG cs a sc x
 | .andd a b,sc,e=>I0 e λo l p=>(o== .And)&&M_ l λx l=>M_ l λy r=>cG cs a sc x&&cG cs b sc (gK .And y r p)
 | .orr a b,sc,e=>I0 e λo l p=>(o== .Or)&&M_ l λx l=>M_ l λy r=>cG cs a sc x&&cG cs b sc (gK .Or y r p)
 | .cmp op a b,sc,e=>M9 e λl o r _=>onO o λo=>onO r λr=>(op.py==o)&&(cG cs a sc l&&cG cs b sc r)
 | .ite q a b,sc,e=>M5 e λt x y _=>cG cs q sc t&&(cG cs a sc x&&cG cs b sc y)
 | .attr a k,sc,e=>ul e λv n _=>(n==nm k)&&(decide (k<bY.length)&&(jl v&&cG cs a sc v))
 | .idx a i,sc,e=>z6 e λv ix _=>kT ix&&(cG cs a sc v&&cG cs i sc ix)
 | .slc a lo hi,sc,e=>z6 e λv ix _=>M2 ix λl u t _=>t.isNone&&l.any λl=>cG cs a sc v&&(cG cs lo sc l&&UH hi u λh=>cG cs hi sc h)
 | .list a,sc,e=>M4 e λes _=>qM cs a sc es&&decide (es.length<=1000)
 | .tup a,sc,e=>M1 e λes _ _=>qM cs a sc es&&decide (es.length<=1000)
 | .nil,_,_=>false
 | .cons _ _,_,_=>false
 | .call f a,sc,e=>qR e λg args kw _=>Fd kw&&i8 g λy _=>(nth fR f==some y)&&(kb sc y&&qM cs a sc args)
 | .new f a,sc,e=>qR e λg args kw _=>Fd kw&&i8 g λy _=>(nth jw f==some y)&&(kb sc y&&qM cs a sc args)
 | .bi b a,sc,e=>qR e λg args kw _=>Fd kw&&i8 g λy _=>(y==b.name)&&(kb sc y&&qM cs a sc args)
 | .meth m o a,sc,e=>qR e λg args kw pos=>Fd kw&&ul g λov n apos=>onO args λarg=>(n==m.name)&&((apos.endLine==pos.line)&&(jl ov&&(fW arg&&(cG cs o sc ov&&cG cs a sc arg))))
 | .comp tg src q e',sc,e=>IZ e λelt gs scope _=>onO gs λg=>(zG g.target).any λns=>(g.is_async==0)&&(BM sc scope ns tg&&(xr g.iter&&(cG cs src sc g.iter&&(Su q g.ifs (λc=>cG cs q (iM sc scope ns tg) c)&&cG cs e' (iM sc scope ns tg) elt))))
noncomputable def qM(cs:List (Str×T)):X->Sc->List ag->Bool
 | .nil,_,es=>Fd es
 | .cons a r,sc,es=>M_ es λe es=>fW e&&(cG cs a sc e&&qM cs r sc es)
 | _,_,_=>false
end
theorem ty{cs:List (Str×T)}{sc:Sc}{P:X->List ag->Prop}(h0:P .nil [])(h1:∀a r e es,fW e=true->cG cs a sc e=true->qM cs r sc es=true->P r es->P (.cons a r) (e::es))(x:X):∀es:List ag,qM cs x sc es=true->P x es:=by
 induction x with
 | nil=>exact λes h=>fJ (P:=λes=>P .nil es) h h0
 | cons a r _ ih=>exact λes h=>fH (P:=λes=>P (.cons a r) es) h λe es h=>aR h λn h=>aR h λx y=>h1 a r e es n x y (ih es y)
 | _=>exact λes h=>aL h
theorem jL{cs:List (Str×T)}{x:X}{sc:Sc}{es:List ag}(h:qM cs x sc es=true):es.all fW=true:=
 ty (P:=λ_ es=>es.all fW=true) rfl (λ_ _ _ _ n _ _ ih=>bH.mpr ⟨n,ih⟩) x es h
section
theorem si{g:Str->NameKind->NameKind}:∀{l:List (Str×NameKind)} {x:Str},(l.map λ(n,k)=>(n,g n k)).lookup x=(l.lookup x).map (g x)
 |[],_=>rfl
 |(n,k)::r,x=>by
  show Tc x ((n,g n k)::_)=_
  rw [aZ,aZ]
  cases h:x==n with
  | true=>rw [beq_iff_eq.mp h];rfl
  | false=>exact si
theorem iW(scope outer:Scope)(x:Str):(eG scope outer).names.lookup x=(scope.names.lookup x).map λk=>if (k== .free&&outer.kind== .function&&outer.names.lookup x==some .cell)then .cell else k:=by
 have e:(eG scope outer).names=scope.names.map λ(n,k)=>(n,if (k== .free&&outer.kind== .function&&outer.names.lookup n==some .cell)then NameKind.cell else k):=by
  unfold eG
  refine bg λp _=> ?_
  obtain ⟨n,k⟩:=p
  dsimp only
  split<;>rfl
 rw [e];exact si (g:=λn k=>if (k== .free&&outer.kind== .function&&outer.names.lookup n==some .cell)then NameKind.cell else k)
theorem iX{α:Type}:∀{l r:List (Str×α)} {x:Str},(l++r).lookup x=(l.lookup x).or (r.lookup x)
 |[],_,_=>by simp
 |(n,k)::l,r,x=>by
  rw [List.cons_append,aZ,aZ]
  cases x==n with
  | true=>rfl
  | false=>exact iX
theorem gh{α:Type}{p:Str->Bool}:∀{l:List (Str×α)} {x:Str} {a:α},(l.filter λq=>p q.1).lookup x=some a->p x=true/\l.lookup x=some a
 |[],_,_,h=>by cases h
 |(n,k)::l,x,a,h=>by
  rw [gN]at h
  rw [aZ]
  cases hx:x==n with
  | true=>
   obtain rfl:=beq_iff_eq.mp hx
   cases hp:p x with
   | true=>simp only [hp,if_true,aZ,hx]at h;exact ⟨rfl,h⟩
   | false=>
    simp only [hp,fG,if_false]at h
    have:=(gh h).1
    rw [hp]at this;cases this
  | false=>
   split at h
   ·rw [aZ,hx]at h;exact gh h
   ·exact gh h
theorem mH:∀{ns:List Str} {tg:List Nat} {x:Str} {i:Nat},(ns.zip tg).lookup x=some i->∃j:Nat,ns[j]? =some x/\tg[j]? =some i
 |[],_,_,_,h=>by simp at h
 | _::_,[],_,_,h=>by simp at h
 | n::ns,t::tg,x,i,h=>by
  rw [iY,aZ]at h
  cases hx:x==n with
  | true=>rw [hx]at h;cases h;exact ⟨0,by simp [beq_iff_eq.mp hx],rfl⟩
  | false=>rw [hx]at h;obtain ⟨j,a,b⟩:=mH h;exact ⟨j+1,by simpa using a,by simpa using b⟩
theorem oh:∀{l:List Nat} {m:Nat},m<=l.foldl (λm i=>max m (i+1)) m/\∀i∈l,i<l.foldl (λm i=>max m (i+1)) m
 |[],m=>⟨aA _,λ_ h=>nomatch h⟩
 | a::l,m=>by
  have:=oh (l:=l) (m:=max m (a+1))
  refine ⟨by rw [la];omega,λi hi=> ?_⟩
  rw [la]
  rcases aG.mp hi with rfl | hi
  ·omega
  ·exact this.2 i hi
structure lH(sc:Sc)(scope:Scope)(ns:List Str)(tg:List Nat):Prop where
 kind:scope.kind= .function
 loc:∀x∈scope.names,x.2= .local->scope.names.lookup x.1=some .local
 free:∀x∈scope.names,x.2= .free->kd sc x.1=some .cell\/kd sc x.1=some .free
 one:(scope.names.filter (λx=>x.2== .cell)).length<=1
 cell:∀x∈scope.names,x.2= .cell->scope.names.lookup x.1=some .cell
 fre:∀x∈scope.names,x.2= .free->scope.names.lookup x.1=some .free
 tgs:∀x∈ns,scope.names.lookup x=some .local\/scope.names.lookup x=some .cell
 nsn:ns.Nodup
 tgn:tg.Nodup
 len:ns.length=tg.length
 top:∀i∈tg,sc.top<=i
theorem AM{sc:Sc}{scope:Scope}{ns:List Str}{tg:List Nat}(h:BM sc scope ns tg=true):lH sc scope ns tg:=by
 unfold BM at h
 simp only [aB,beq_iff_eq,ax,du,bne_iff_ne,decide_eq_true_iff]at h
 obtain ⟨⟨⟨⟨⟨⟨⟨⟨⟨⟨h1,h2⟩,h3⟩,h4⟩,h5⟩,h55⟩,h6⟩,h7⟩,h8⟩,h9⟩,h10⟩:=h
 exact ⟨h1,λx hx e=>(h2 x hx).resolve_left (λq=>q e),λx hx e=>(h3 x hx).resolve_left (λq=>q e),h4,λx hx e=>(h5 x hx).resolve_left (λq=>q e),λx hx e=>(h55 x hx).resolve_left (λq=>q e),h6,h7,h8,h9,h10⟩
theorem cv{α:Type}{l:List (Str×α)}{x:Str}{a:α}(h:l.lookup x=some a):(x,a)∈l:=mem_of_lookup h
theorem jK{sc:Sc}(R:db sc){scope:Scope}{ns:List Str}{tg:List Nat}(C:lH sc scope ns tg){x:Str}{i:Nat}(h:(iM sc scope ns tg).res.lookup x=some i):
  (∃j:Nat,ns[j]? =some x/\tg[j]? =some i)\/(scope.names.lookup x=some .free/\sc.res.lookup x=some i):=by
 have h':(ns.zip tg++sc.res.filter (λp=>scope.names.lookup p.1==some .free)).lookup x=some i:=h
 rw [iX]at h'
 cases q:(ns.zip tg).lookup x with
 | some k=>rw [q]at h';cases h';exact .inl (mH q)
 | none=>
  rw [q]at h'
  have:=gh (p:=λx=>scope.names.lookup x==some .free) (show (sc.res.filter (λp=>scope.names.lookup p.1==some .free)).lookup x=some i from h')
  exact .inr ⟨beq_iff_eq.mp this.1,this.2⟩
theorem u_{sc:Sc}(R:db sc){scope:Scope}{ns:List Str}{tg:List Nat}(C:lH sc scope ns tg):db (iM sc scope ns tg):=by
 refine ⟨λx y i h1 h2=> ?_,λx i h=> ?_⟩
 ·rcases jK R C h1 with ⟨j,a,b⟩ |⟨a,b⟩<;>rcases jK R C h2 with ⟨k,c,d⟩ |⟨c,d⟩
  ·have:j=k:=by
    obtain ⟨hj,b⟩:=cB.mp b
    obtain ⟨hk,d⟩:=cB.mp d
    exact (L9 C.tgn).mp (b.trans d.symm)
   subst this
   rw [a]at c;exact ah.inj c
  ·have:=C.top i (bG b)
   have:=R.2 _ _ d
   omega
  ·have:=C.top i (bG d)
   have:=R.2 _ _ b
   omega
  ·exact R.1 _ _ _ b d
 ·show i<tg.foldl _ sc.top
  rcases jK R C h with ⟨j,a,b⟩ |⟨a,b⟩
  ·exact oh.2 i (bG b)
  ·exact bR (R.2 _ _ b) oh.1
end
section
noncomputable def lQ(env:Env):List (Str×NameKind)->List (Str×Addr)->List (Str×Addr)
 |[],acc=>acc
 |(n,k)::r,acc=>if k== .free then lQ env r ((n,(env.cells.lookup n).getD 0)::acc)else lQ env r acc
section
variable{W:Wd}{A:Around}{E:Value->Shared->Prop}{s:Shared}{env:Env}{V:aX}
theorem AO{scope:Scope}(h:∀x∈scope.names,x.2= .free->∃c,env.cells.lookup x.1=some c):closureFor scope env=pure (lQ env scope.names []):=by
 unfold closureFor
 have key:∀(names:List (Str×NameKind)) (acc:List (Str×Addr)),(∀x∈names,x.2= .free->∃c,env.cells.lookup x.1=some c)->
   (forIn names acc (λ(x:Str×NameKind) (r:List (Str×Addr))=>(match x with
    |(name,kind)=>if (kind== .free)=true then do let __do_lift<-cellOf env name;pure (ForInStep.yield ((name,__do_lift)::r))else pure (ForInStep.yield r):Sem (ForInStep (List (Str×Addr))))):Sem (List (Str×Addr)))=pure (lQ env names acc):=by
  intro names
  induction names with
  | nil=>intro acc _;rfl
  | cons p r ih=>
   intro acc hh
   obtain ⟨n,k⟩:=p
   rw [List.forIn_cons]
   show _=pure (if k== .free then lQ env r ((n,(env.cells.lookup n).getD 0)::acc)else lQ env r acc)
   cases hk:k==NameKind.free with
   | true=>
    obtain ⟨c,hc⟩:=hh (n,k) ak (beq_iff_eq.mp hk)
    have hc':env.cells.lookup n=some c:=hc
    dsimp only
    rw [if_pos hk,if_pos rfl]
    unfold cellOf
    rw [hc']
    exact ih _ λx hx=>hh x (ao _ hx)
   | false=>
    dsimp only
    rw [if_neg (by rw [hk];exact aO),if_neg aO]
    exact ih _ λx hx=>hh x (ao _ hx)
 exact (congrArg (λ(m:Sem (List (Str×Addr)))=>m>>=λs=>pure s) (key scope.names [] h)).trans rfl
theorem iQ{x:Str}:∀{names:List (Str×NameKind)} {acc:List (Str×Addr)},(lQ env names acc).lookup x=if names.any (λp=>p.1==x&&p.2== .free)then some ((env.cells.lookup x).getD 0)else acc.lookup x
 |[],acc=>rfl
 |(n,k)::r,acc=>by
  show (if k== .free then lQ env r ((n,(env.cells.lookup n).getD 0)::acc)else lQ env r acc).lookup x=_
  rw [List.any_cons]
  cases hk:k==NameKind.free with
  | true=>
   simp only [if_true,dF]
   rw [iQ]
   cases hx:n==x with
   | true=>
    obtain rfl:=beq_iff_eq.mp hx
    simp [aZ]
   | false=>
    have:(x==n)=false:=by rw [beq_eq_false_iff_ne]at hx⊢;exact Ne.symm hx
    simp [aZ,this]
  | false=>
   simp only [fG,if_false,bP,oU]
   exact iQ
theorem dU:∀{names:List (Str×NameKind)} {k:Nat} {acc:List (Str×Addr)},(names.filter (λx=>x.2== .cell)).length<=1->
  (names.filter (λx=>x.2== .cell)=[]/\cellsFrom k names acc=acc/\∀h,pushCells h names=h)\/(∃n,names.filter (λx=>x.2== .cell)=[(n,.cell)]/\cellsFrom k names acc=(n,k)::acc/\∀h,pushCells h names=h.push {cls:= .type "cell",data:= .cell none})
 |[],k,acc,_=> .inl ⟨rfl,rfl,λ_=>rfl⟩
 |(n,c)::r,k,acc,hl=>by
  unfold cellsFrom pushCells
  rw [gN]at hl⊢
  cases hc:c==NameKind.cell with
  | true=>
   simp only [hc,if_true]at hl⊢
   have h0:(r.filter (λx=>x.2== .cell))=[]:=dT (by simp only [j9]at hl;omega)
   rcases dU (names:=r) (k:=k+1) (acc:=(n,k)::acc) (by rw [h0];exact aE _)with ⟨a,b,d⟩ |⟨m,a,_⟩
   ·exact .inr ⟨n,by rw [h0,beq_iff_eq.mp hc],b,λh=>d _⟩
   ·rw [h0]at a;cases a
  | false=>
   simp only [hc,fG,if_false]at hl⊢
   exact dU (names:=r) (k:=k) (acc:=acc) hl
theorem AC{M:Model}{scope:Scope}{globals:Addr}{closure:List (Str×Addr)}{qual:Str}{Q:Env->Shared->Prop}
  (q:Q {scope,locals:=s.heap.objs.size,globals,cells:=cellsFrom (s.heap.objs.size+1) scope.names closure,qual,func:=none,code:=env.code,frame:=env.frame,builtins:=env.builtins}
   {s with heap:=pushCells (s.heap.push {cls:= .type "dict",data:= .dict #[]}) scope.names}):
  wpAny M A (newFunctionEnv scope globals closure [] qual none .none (some env)) Q E s:=by
 simp only [newFunctionEnv,Option.isSome_some,if_true]
 refine wpAny_bind (wpAny_alloc ?_)
 refine wpAny_bind (wpAny_layCells _ (λname kind cells=>by cases hkc:kind==NameKind.cell<;>simp [hkc]) _ _ _ _ ?_)
 rw [show ({s with heap:=s.heap.push {cls:= .type "dict",data:= .dict #[]}}:Shared).heap.objs.size=s.heap.objs.size+1 from mN ..]
 exact wpAny_bind (wpAny_pure (wpAny_pure q))
variable{sc:Sc}{ρ:b6}{V':aX}{s':Shared}{X:List Addr}
noncomputable def qA(scope:Scope)(env:Env)(C k:Addr):Env:=
 {scope:=relabel scope env,locals:=C,globals:=env.globals,cells:=cellsFrom k scope.names (lQ env scope.names []),qual:=env.qual,func:=none,code:=env.code,frame:=env.frame,builtins:=env.builtins}
theorem rP(h:bM W sc env X V ρ s)(scope:Scope):relabel scope env=eG scope sc.scope:=by
 unfold relabel eG Env.kindOf
 rw [h.scope]
theorem ip{scope:Scope}{ns:List Str}{tg:List Nat}(h:bM W sc env X V ρ s)(C:lH sc scope ns tg){k:Addr}{x:Str}{c:Addr}(e:(cellsFrom k scope.names (lQ env scope.names [])).lookup x=some c):
  (scope.names.lookup x=some .cell/\c=k)\/(scope.names.lookup x=some .free/\env.cells.lookup x=some c):=by
 have clo:(lQ env scope.names []).lookup x=some c->scope.names.lookup x=some .free/\env.cells.lookup x=some c:=λe=>by
  rw [iQ]at e
  split at e
  ·rename_i q
   obtain ⟨p,hp,hq⟩:=cm.mp q
   simp only [aB,beq_iff_eq]at hq
   obtain ⟨rfl,hf⟩:=hq
   obtain ⟨c',hc'⟩:=h.cells _ (C.free p hp hf)
   rw [hc']at e⊢
   exact ⟨C.fre p hp hf,e⟩
  ·cases e
 rcases dU (names:=scope.names) (k:=k) (acc:=lQ env scope.names []) C.one with ⟨_,b,_⟩ |⟨n,a,b,_⟩
 ·rw [b]at e;exact .inr (clo e)
 ·rw [b,aZ]at e
  cases hx:x==n with
  | true=>
   rw [hx]at e
   obtain rfl:=beq_iff_eq.mp hx
   have hm:(x,NameKind.cell)∈scope.names:=(cA.mp (by rw [a];exact ak)).1
   exact .inl ⟨C.cell _ hm rfl,(ah.inj e).symm⟩
  | false=>rw [hx]at e;exact .inr (clo e)
theorem jT{scope:Scope}{ns:List Str}{tg:List Nat}(h:bM W sc env X V ρ s)(C:lH sc scope ns tg){k:Addr}{x:Str}(e:scope.names.lookup x=some .free):
  ∃c,env.cells.lookup x=some c/\(cellsFrom k scope.names (lQ env scope.names [])).lookup x=some c:=by
 have hm:=cv e
 obtain ⟨c,hc⟩:=h.cells x (C.free _ hm rfl)
 refine ⟨c,hc,?_⟩
 have clo:(lQ env scope.names []).lookup x=some c:=by
  rw [iQ,if_pos (cm.mpr ⟨_,hm,by simp⟩),hc];rfl
 rcases dU (names:=scope.names) (k:=k) (acc:=lQ env scope.names []) C.one with ⟨_,b,_⟩ |⟨n,a,b,_⟩
 ·rw [b];exact clo
 ·rw [b,aZ]
  cases hx:x==n with
  | true=>
   obtain rfl:=beq_iff_eq.mp hx
   have hm:(x,NameKind.cell)∈scope.names:=(cA.mp (by rw [a];exact ak)).1
   rw [C.cell _ hm rfl]at e;cases e
  | false=>exact clo
theorem g_{scope:Scope}{ns:List Str}{tg:List Nat}(C:lH sc scope ns tg){k:Addr}{x:Str}(e:scope.names.lookup x=some .cell):
  (cellsFrom k scope.names (lQ env scope.names [])).lookup x=some k/\∀h,pushCells h scope.names=h.push {cls:= .type "cell",data:= .cell none}:=by
 have hm:=cv e
 have hf:(x,NameKind.cell)∈scope.names.filter (λx=>x.2== .cell):=cA.mpr ⟨hm,rfl⟩
 rcases dU (names:=scope.names) (k:=k) (acc:=lQ env scope.names []) C.one with ⟨a,_⟩ |⟨n,a,b,d⟩
 ·rw [a]at hf;cases hf
 ·rw [a]at hf
  have:x=n:=by simpa using hf
  subst this
  exact ⟨by rw [b,aZ];simp,d⟩
theorem Dm{scope:Scope}{ns:List Str}{tg:List Nat}{x:Str}{k:NameKind}(e:kd (iM sc scope ns tg) x=some k):
  scope.names.lookup x=some k\/(scope.names.lookup x=some .free/\k= .cell):=by
 have e':(eG scope sc.scope).names.lookup x=some k:=e
 rw [iW]at e'
 obtain ⟨k',h1,h2⟩:=cT.mp e'
 split at h2
 ·rename_i q
  simp only [aB,beq_iff_eq]at q
  obtain ⟨⟨rfl,_⟩,_⟩:=q
  exact .inr ⟨h1,h2.symm⟩
 ·subst h2;exact .inl h1
theorem sw{scope:Scope}{ns:List Str}{tg:List Nat}{x:Str}{k:NameKind}(e:scope.names.lookup x=some k)(hk:k≠.free):kd (iM sc scope ns tg) x=some k:=by
 show (eG scope sc.scope).names.lookup x=some k
 rw [iW,e]
 have:(k==NameKind.free)=false:=by simpa using hk
 simp only [this,Jk,mO,fG,if_false]
theorem Hc{scope:Scope}{ns:List Str}{tg:List Nat}(R:db sc)(h:bM W sc env X V ρ s)(C:lH sc scope ns tg){h4:Heap}{tk:Nat}{L k I D:Addr}
  (hk:∀b o,s.heap.get? b=some o->h4.get? b=some o) (hL:s.heap.get? L=none) (hkn:s.heap.get? k=none) (hI:s.heap.get? I=none) (hD:s.heap.get? D=none)
  (hLk:L≠k) (hLI:L≠I) (hLD:L≠D) (hkI:k≠I) (hkD:k≠D) (aI:∃o,h4.get? I=some o) (aD:∃o,h4.get? D=some o) (nL:∃m,h4.Ns L m) (nk:∀x,scope.names.lookup x=some .cell->∃v,h4.IsCell k v):
  bM W (iM sc scope ns tg) (qA scope env L k) [I,D] V ρ {s with heap:=h4,toks:=tk}:=by
 have fr:∀{a:Addr},s.heap.get? a=none->V a=none:=λ{a} e=>by
  cases q:V a with
  | none=>rfl
  | some o=>rw [h.le _ _ q]at e;cases e
 have al:∀{a b:Addr},(∃o,s.heap.get? a=some o)->s.heap.get? b=none->a≠b:=λ{a b} x y q=>by obtain ⟨o,e⟩:=x;rw [q,y]at e;cases e
 have two:∀{a:Addr},a≠I->a≠D->a∉[I,D]:=λ{a} x y q=>by
  rcases aG.mp q with q | q
  ·exact x q
  ·rcases aG.mp q with q | q
   ·exact y q
   ·cases q
 refine ⟨?_,rP h scope,h.glb,h.blt,h.base,h.le.trans hk,λi hi=>h.top i (an oh.1 hi),nL,fr hL,two hLI hLD,λx hx=> ?_,λx c e=> ?_,λx y c e1 e2=> ?_,λa ha=> ?_,λx i hi o ho=> ?_⟩
 ·show (relabel scope env).kind= .function
  exact C.kind
 ·have:scope.names.lookup x=some .cell\/scope.names.lookup x=some .free:=by
   rcases hx with hx | hx
   ·rcases Dm hx with q |⟨q,_⟩
    ·exact .inl q
    ·exact .inr q
   ·rcases Dm hx with q |⟨q,_⟩<;>exact .inr q
  rcases this with q | q
  ·exact ⟨_,(g_ (env:=env) C q).1⟩
  ·obtain ⟨c,_,e⟩:=jT (k:=k) h C q;exact ⟨c,e⟩
 ·rcases ip h C e with ⟨q,rfl⟩ |⟨_,q⟩
  ·exact ⟨nk x q,fr hkn,Ne.symm hLk,two hkI hkD⟩
  ·obtain ⟨⟨v,a⟩,b,d,_⟩:=h.cellA x c q
   have ac:=eC a
   exact ⟨⟨v,a.keeps hk⟩,b,al ac hL,two (al ac hI) (al ac hD)⟩
 ·rcases ip h C e1 with ⟨q1,rfl⟩ |⟨q1,p1⟩<;>rcases ip h C e2 with ⟨q2,r2⟩ |⟨q2,p2⟩
  ·have hf1:(x,NameKind.cell)∈scope.names.filter (λx=>x.2== .cell):=cA.mpr ⟨cv q1,rfl⟩
   have hf2:(y,NameKind.cell)∈scope.names.filter (λx=>x.2== .cell):=cA.mpr ⟨cv q2,rfl⟩
   rcases dU (names:=scope.names) (k:=c) (acc:=lQ env scope.names []) C.one with ⟨a,_⟩ |⟨n,a,_⟩
   ·rw [a]at hf1;cases hf1
   ·rw [a]at hf1 hf2
    have z1:x=n:=by simpa using hf1
    have z2:y=n:=by simpa using hf2
    rw [z1,z2]
  ·obtain ⟨⟨v,a⟩,_⟩:=h.cellA y c p2
   exact absurd rfl (al (eC a) hkn)
  ·subst r2
   obtain ⟨⟨v,a⟩,_⟩:=h.cellA x c p1
   exact absurd rfl (al (eC a) hkn)
  ·exact h.apart _ _ _ p1 p2
 ·rcases aG.mp ha with rfl | ha
  ·exact ⟨fr hI,aI⟩
  ·rcases aG.mp ha with rfl | ha
   ·exact ⟨fr hD,aD⟩
   ·cases ha
 ·rcases jK R C hi with ⟨j,a,b⟩ |⟨a,b⟩
  ·have:=h.top i (C.top i (bG b))
   rw [this]at ho;cases ho
  ·obtain ⟨v,fp,l,r,kk⟩:=h.slot x i b o ho
   obtain ⟨c,hc,hc'⟩:=jT (k:=k) h C a
   have hkd:=C.free _ (cv a) rfl
   refine ⟨v,fp,?_,r.mono Le.rfl λb _ x e=>hk b x e,λb hb=> ?_⟩
   ·rcases l with ⟨l1,_⟩ |⟨_,c',l2,l3⟩
    ·rw [h.kd]at l1
     rcases hkd with q | q<;>(rw [show kd sc x=_ from q]at l1;cases l1)
    ·rw [hc]at l2;cases l2
     refine .inr ⟨?_,c,hc',l3.keeps hk⟩
     have:(qA scope env L k).kindOf x=kd (iM sc scope ns tg) x:=by unfold Env.kindOf;rw [show (qA scope env L k).scope=eG scope sc.scope from rP h scope];rfl
     rw [this]
     show (eG scope sc.scope).names.lookup x=_\/(eG scope sc.scope).names.lookup x=_
     rw [iW,a,Jk]
     split
     ·exact .inl rfl
     ·exact .inr rfl
   ·have ab:=r.alive b hb
    refine ⟨(kk b hb).1,al ab hL,two (al ab hI) (al ab hD),λy c e=> ?_⟩
    rcases ip h C e with ⟨_,rfl⟩ |⟨_,q⟩
    ·exact al ab hkn
    ·exact (kk b hb).2.2.2 y c q
end
end
section
section
variable{W:Wd}{A:Around}{E:Value->Shared->Prop}{s:Shared}{env:Env}{V:aX}{sc:Sc}{ρ:b6}{V':aX}{s':Shared}{X:List Addr}
noncomputable def sH(env:Env)(ns:List Str)(h h':Heap):Prop:=∀b o,b≠env.locals->(∀x∈ns,∀c,env.cells.lookup x=some c->b≠c)->h.get? b=some o->h'.get? b=some o
theorem DB{α:Type}{p:Prop}[Decidable p]{d:Option α}{f:p->Option α}{P:α->Prop}(k1:∀q,Ok (f q) P)(k2:Ok d P):Ok (xh d f) P:=by
 by_cases q:p
 ·exact Eq.mpr (congrArg (Ok · P) (dif_pos q)) (k1 q)
 ·exact Eq.mpr (congrArg (Ok · P) (dif_neg q)) k2
theorem CL{α:Type}{P:ag->α->Prop}{e:ag}{d:Option α}{f:Str->Option α}(k1:∀x p,Ok (f x) (P (.Name x p)))(k2:Ok d (P e)):Ok (My e d f) (P e):=by
 exact DB (λq=>Expr.Name.elim (motive_1:=λe=>∀q,Ok (Expr.Name.elim (motive_1:=λ_=>Option α) e q λx _=>f x) (P e)) e q (λx p _=>k1 x p) q) k2
theorem nH{e:ag}{es:List ag}{ns:List Str}(h:hW (e::es)=some ns):∃x pos ns',e= .Name x pos/\hW es=some ns'/\ns=x::ns':=
 CL (P:=λe ns=>∃x pos ns',e= .Name x pos/\hW es=some ns'/\ns=x::ns') (λx p t h=>let ⟨ns',h1,h2⟩:=aT h;⟨x,p,ns',rfl,h1,h2.symm⟩) .none ns h
noncomputable def Ug(W:Wd)(A:Around)(env:Env)(V:aX)(I:b6->Shared->Prop)(p:Str×Nat):Prop:=∀(E:Value->Shared->Prop) ρ s v t (Q:Unit->Shared->Prop),I ρ s->dw W.cl V v t->(∀s',I (fO ρ p.2 (.sh t)) s'->Q () s')->wpAny (model W.prog W.w) A (storeName env p.1 v) Q E s
section
variable{I:b6->Shared->Prop}
theorem vE:∀{es:List ag} {ns:List Str} {tg:List Nat} {l:List T} {vs:List Value} {ρ:b6} {s:Shared} {Q:Unit->Shared->Prop},hW es=some ns->ns.length=tg.length->tg.length=l.length->(∀p∈ns.zip tg,Ug W A env V I p)->I ρ s->bA W.cl V vs l->
  (∀s',I ((tg.zip l).foldl (λr p=>fO r p.1 (.sh p.2)) ρ) s'->Q () s')->wpAny (model W.prog W.w) A (assignInOrder ((assignEach es env).map (·.2)) vs) Q E s
 |[],ns,tg,l,vs,ρ,s,Q,hn,h1,h2,_,h,r,q=>by
  obtain rfl:=ah.inj hn
  obtain rfl:=dT h1.symm
  obtain rfl:=dT h2.symm
  exact assignInOrder_nil (q s h)
 | e::es,ns,tg,l,vs,ρ,s,Q,hn,h1,h2,hk,h,r,q=>by
  obtain ⟨x,pos,ns',rfl,hn',rfl⟩:=nH hn
  cases tg with
  | nil=>exact nomatch h1
  | cons i tg=>
   cases l with
   | nil=>exact nomatch h2
   | cons t l=>
    obtain ⟨v,vs,rfl,a,ra⟩:=r
    exact assignInOrder_cons (t:=assign (.Name x pos) env) (ts:=(assignEach es env).map (·.2)) (wpAny_assign_Name (hk (x,i) ak E ρ s v t _ h a λs' h'=>
     vE (l:=l) hn' (b_.inj h1) (b_.inj h2) (λp hp=>hk p (ao _ hp)) h' ra q))
theorem pP{env:Env}:∀{es:List ag} {ns:List Str},hW es=some ns->es.length=ns.length/\(assignEach es env).length=ns.length/\(assignEach es env).findIdx? (·.1)=none
 |[],ns,h=>by obtain rfl:=ah.inj h;exact ⟨rfl,rfl,rfl⟩
 | e::es,ns,h=>by
  obtain ⟨x,pos,ns',rfl,hn',rfl⟩:=nH h
  obtain ⟨a,b,c⟩:=pP (env:=env) hn'
  refine ⟨congrArg (· +1) a,congrArg (· +1) b,?_⟩
  show List.findIdx? (·.1) ((false,assign (.Name x pos) env)::assignEach es env)=none
  rw [List.findIdx?_cons,c];rfl
theorem Cc{P:ag->List Str->Prop}{e:ag}{ns:List Str}(h:zG e=some ns)(k1:∀x pos,P (.Name x pos) [x])(k2:∀es k pos,2<=es.length->hW es=some ns->P (.Tuple es k pos) ns):P e ns:=by
 refine CL (P:=λe n=>n=ns->P e n) (λx p=> .some λ_=>k1 x p) ?_ ns h rfl
 exact DB (λq=>Expr.Tuple.elim (motive_1:=λe=>∀q,Ok (Expr.Tuple.elim (motive_1:=λ_=>Option (List Str)) e q λes _ _=>if 2<=es.length then hW es else none) λn=>n=ns->P e n) e q (λes k p _=> .if1 λq t h e=>e▸k2 es k p q (e▸h)) q) .none
theorem zq{P:Prop}{tg:List Nat}{t:T}{ρ ρ':b6}(h:dz tg t ρ=some ρ')(k1:∀i,tg=[i]->fO ρ i (.sh t)=ρ'->P)(k2:∀l,t= .tup l->tg.length=l.length->(tg.zip l).foldl (λr p=>fO r p.1 (.sh p.2)) ρ=ρ'->P):P:=by
 have k:∀l,t= .tup l->(if tg.length=l.length then some ((tg.zip l).foldl (λr p=>fO r p.1 (.sh p.2)) ρ)else none)=some ρ'->P:=λl e h=>by
  by_cases q:tg.length=l.length
  ·rw [if_pos q]at h;exact k2 l e q (ah.inj h)
  ·rw [if_neg q]at h;exact no h
 cases tg with
 | nil=>
  cases t with
  | tup l=>exact k l rfl h
  | _=>exact no h
 | cons i tg=>
  cases tg with
  | nil=>exact k1 i rfl (ah.inj h)
  | cons j tg=>
   cases t with
   | tup l=>exact k l rfl h
   | _=>exact no h
theorem EI{tg:List Nat}{t:T}{ρ ρ':b6}(h2:2<=tg.length)(h:dz tg t ρ=some ρ'):∃l,t= .tup l/\tg.length=l.length/\(tg.zip l).foldl (λr p=>fO r p.1 (.sh p.2)) ρ=ρ':=by
 exact zq h (λi e _=>by rw [e]at h2;exact absurd (f_ h2) (Fg _)) λl a b c=>⟨l,a,b,c⟩
theorem IB(hA:A.handled=none)(hle:∀ρ s,I ρ s->Le V s.heap.get?)(hx:∀ρ s h',I ρ s->(∀b o,s.heap.get? b=some o->h'.get? b=some o)->I ρ {s with heap:=h'}){target:ag}{ns:List Str}{tg:List Nat}{v:Value}{t:T}{ρ':b6}{Q:Unit->Shared->Prop}
  (ht:zG target=some ns) (hl:ns.length=tg.length) (hk:∀p∈ns.zip tg,Ug W A env V I p) (hb:dz tg t ρ=some ρ') (h:I ρ s) (r:dw W.cl V v t) (q:∀s',I ρ' s'->Q () s'):wpAny (model W.prog W.w) A (assign target env v) Q E s:=by
 refine Cc (P:=λtarget ns=>ns.length=tg.length->(∀p∈ns.zip tg,Ug W A env V I p)->wpAny (model W.prog W.w) A (assign target env v) Q E s) ht (λx pos hl hk=> ?_) (λes k pos h2 hn hl hk=> ?_) hl hk
 ·cases tg with
  | nil=>exact nomatch hl
  | cons i tg=>
   obtain rfl:=dT (b_.inj hl).symm
   obtain rfl:=ah.inj (show some (fO ρ i (.sh t))=some ρ' from hb)
   exact wpAny_assign_Name (hk (x,i) ak E ρ s v t _ h r q)
 ·obtain ⟨l1,l2,l3⟩:=pP (env:=env) hn
  obtain ⟨l,rfl,hlen,rfl⟩:=EI (by omega) hb
  obtain ⟨a,vs,n,rfl,e,ra⟩:=r
  have lr:=ra.length
  exact wpAny_assign_Tuple hA (fe (hle _ _ h _ _ e)) (by rw [l2,aJ];omega) l3 λh' he=>vE hn hl hlen hk (hx _ _ h' h λb o e=>he b o (cM (d4 e)) e) ra q
end
theorem mG{α β:Type}{x:α}{y:β}:∀{l:List α} {m:List β},(x,y)∈l.zip m->∃j:Nat,l[j]? =some x/\m[j]? =some y
 |[],_,h=>nomatch h
 | _::_,[],h=>nomatch h
 | a::l,b::m,h=>(aG.mp h).elim (λe=>⟨0,congrArg (λp:α×β=>some p.1) e.symm,congrArg (λp:α×β=>some p.2) e.symm⟩) λh=>let ⟨j,e1,e2⟩:=mG h;⟨j+1,e1,e2⟩
theorem EJ(hA:A.handled=none)(R:db sc){target:ag}{ns:List Str}{tg:List Nat}{v:Value}{t:T}{ρ':b6}{Q:Unit->Shared->Prop}(ht:zG target=some ns)(hl:ns.length=tg.length)
  (hr:∀(j:Nat) x i,ns[j]? =some x->tg[j]? =some i->sc.res.lookup x=some i) (hk:∀x∈ns,TI.kd sc x=some .local\/TI.kd sc x=some .cell) (hb:dz tg t ρ=some ρ') (h:bM W sc env X V ρ s) (r:dw W.cl V v t)
  (q:∀h' k,bM W sc env X V ρ' {s with heap:=h',toks:=k}->sH env ns s.heap h'->Q () {s with heap:=h',toks:=k}):wpAny (model W.prog W.w) A (assign target env v) Q E s:=by
 refine IB (I:=λρ s1=>(∃h' k,s1={s with heap:=h',toks:=k})/\bM W sc env X V ρ s1/\sH env ns s.heap s1.heap) hA (λ_ _ h=>h.2.1.le) (λρ s1 h' h he=> ?_) ht hl (λp hp=> ?_) hb ⟨⟨s.heap,s.toks,rfl⟩,h,λb o _ _ e=>e⟩ r λs' h=> ?_
 ·obtain ⟨⟨h1,k1,rfl⟩,h2,h3⟩:=h
  exact ⟨⟨h',k1,rfl⟩,h2.ext (iF.heap (k:=k1) h2.le he),λb o hb hc e=>he b o (h3 b o hb hc e)⟩
 ·intro E ρ s1 v t Q h r q
  obtain ⟨⟨h1,k1,rfl⟩,h2,h3⟩:=h
  obtain ⟨j,e1,e2⟩:=mG hp
  refine h2.store R (hr j _ _ e1 e2) (hk _ (bG e1)) (ce.sh r) (λa ha=>nomatch ha) λh' k h'' un _ _=>q _ ⟨⟨h',k,rfl⟩,h'',λb o hb hc e=>un b o hb (λc e=>hc _ (bG e1) c e) (h3 b o hb hc e)⟩
 ·obtain ⟨⟨h1,k1,rfl⟩,h2,h3⟩:=h
  exact q h1 k1 h2 h3
theorem AL{R:Result->Shared->Prop}{elt target iter:ag}{ifs:List ag}{scope:Scope}{pos:Pos}{it acc:Value}(J:Nat->Shared->Prop)
  (turn:∀n s,J n s->∀N:Value->Shared->Prop,wpAny (model W.prog W.w) A (pyNext it) (λr s₁=>match r with
   | none=>R (.ok .next) s₁
   | some v=>wpAny (model W.prog W.w) A (letOwnedTupleGo target it v) (λ_ s₁'=>wpAny (model W.prog W.w) A (assign target env v) (λ_ s₂=>
     wpAny (model W.prog W.w) A (forIn ifs true λc r=>if r=true then do let ok<-isTrue c env (eval c env);pure (ForInStep.yield ok)else pure (ForInStep.yield r)) (λok s₃=>
      if ok=true then wpAny (model W.prog W.w) A (eval elt env) (λx s₄=>wpAny (model W.prog W.w) A (call (.builtin "list.append") [acc,x]) (λ_ s₅=>∃m,m<n/\J m s₅) N s₄) N s₃
      else ∃m,m<n/\J m s₃) N s₂) N s₁') N s₁) N s)
  (n:Nat) (h:J n s):codeAny (model W.prog W.w) A (.compLoop (.ListComp elt [⟨target,iter,ifs,0⟩] scope pos) 0 it acc env) R s:=by
 refine codeAny_loop rfl J (λn s hI=> ?_) n h
 show wpAny _ A ((compTurn (.ListComp elt [⟨target,iter,ifs,0⟩] scope pos) 0 it acc env).onRaise (λx=>do noteFrame x env;theTreesLotGoes x)) _ _ s
 refine wpAny_noted ?_
 rw [compTurn_list]
 refine wpAny_bind (wpAny_standAt (wpAny_bind (wpAny_mono (turn n s hI _) (λr s₁ h₁=> ?_) λ_ _ h'=>h')))
 cases r with
 | none=>exact wpAny_pure h₁
 | some v=>
  refine wpAny_bind (wpAny_mono h₁ (λ_ s₁' h₁'=>wpAny_bind (wpAny_mono h₁' (λ_ s₂ h₂=>wpAny_bind (wpAny_mono h₂ (λok s₃ h₃=> ?_) λ_ _ h'=>h')) λ_ _ h'=>h')) λ_ _ h'=>h')
  cases ok with
  | false=>exact wpAny_pure ⟨rfl,h₃⟩
  | true=>exact wpAny_bind (wpAny_bind (wpAny_mono h₃ (λx s₄ h₄=>wpAny_bind (wpAny_mono h₄ (λ_ s₅ h₅=>wpAny_pure (wpAny_pure ⟨rfl,h₅⟩)) λ_ _ h'=>h')) λ_ _ h'=>h'))
theorem u6:∀{ps:List (Nat×T)} {r:b6} {j:Nat} {o:O},(∀p∈ps,p.1≠j)->get r j=some o->get (ps.foldl (λr p=>fO r p.1 (.sh p.2)) r) j=some o
 |[],_,_,_,_,e=>e
 | p::ps,r,j,o,h,e=>by
  rw [la]
  exact u6 (λp hp=>h p (ao _ hp)) (by rw [gb (h p ak)];exact e)
theorem ym{tg:List Nat}{t:T}{ρ ρ':b6}(hb:dz tg t ρ=some ρ'){j:Nat}{o:O}(hj:j∉tg)(e:get ρ j=some o):get ρ' j=some o:=by
 exact zq hb (λi a b=>by rw [<-b,gb λq=>hj (by rw [a,q];exact ak)];exact e) λl _ _ b=>by rw [<-b];exact u6 (λp hp q=>hj (q▸(k9 hp).1)) e
structure xN(T0:List Addr)(V:aX)(s:Shared)(V':aX)(s':Shared):Prop where
 same:∃h' k,s'={s with heap:=h',toks:=k}
 le:Le V V'
 sub:Le V' s'.heap.get?
 new:∀a o,V' a=some o->V a=some o\/s.heap.get? a=none
 keep:∀b o,b∉T0->s.heap.get? b=some o->s'.heap.get? b=some o
theorem xN.ext{T0:List Addr}{V'':aX}{s'':Shared}(x:xN T0 V s V' s')(hT:∀b∈T0,V b=none)(hd:∀b∈T0,∃o,s'.heap.get? b=some o)(y:iF V' s' V'' s''):xN T0 V s V'' s'':=by
 refine ⟨?_,x.le.trans y.le,y.sub,λa o e=> ?_,λb o hb e=>aS y.keeps _ _ (x.keep b o hb e)⟩
 ·obtain ⟨h',k,rfl⟩:=x.same
  obtain ⟨h'',k',rfl,_⟩:=y.keeps
  exact ⟨h'',k',rfl⟩
 ·rcases y.new a o e with q | q
  ·exact x.new a o q
  ·by_cases hb:a∈T0
   ·obtain ⟨o',e'⟩:=hd a hb;rw [q]at e';cases e'
   ·cases r:s.heap.get? a with
    | none=>exact .inr rfl
    | some o'=>rw [x.keep a o' hb r]at q;cases q
theorem xN.heap{T0:List Addr}(x:xN T0 V s V' s'){h':Heap}{k:Nat}(hk:∀b o,b∉T0->s'.heap.get? b=some o->h'.get? b=some o)(hT:∀b∈T0,V' b=none):xN T0 V s V' {s' with heap:=h',toks:=k}:=by
 refine ⟨?_,x.le,λb o e=>hk b o (λq=>by rw [hT b q]at e;cases e) (x.sub b o e),x.new,λb o hb e=>hk b o hb (x.keep b o hb e)⟩
 obtain ⟨h1,k1,rfl⟩:=x.same
 exact ⟨h',k,rfl⟩
end
end
section
section
variable{W:Wd}{A:Around}{E:Value->Shared->Prop}{s:Shared}{env:Env}{V:aX}{sc:Sc}{ρ:b6}{V':aX}{s':Shared}{X:List Addr}
theorem bM.extMore(h:bM W sc env X V ρ s)(x:iF V s V' s'){Y:List Addr}(hY:∀a∈Y,s.heap.get? a=none/\V' a=none)(hal:∀a∈Y,∃o,s'.heap.get? a=some o):bM W sc env (Y++X) V' ρ s':=by
 have ne:∀{a b:Addr},a∈Y->(∃o,s.heap.get? b=some o)->a≠b:=λ{a b} ha hb q=>by
  obtain ⟨o,e⟩:=hb
  rw [<-q,(hY a ha).1]at e;cases e
 refine (h.ext x).more (λa ha=>⟨(hY a ha).2,hal a ha,ne ha (let ⟨_,n⟩:=h.loc;ju n),λy c e=>ne ha (let ⟨⟨_,q⟩,_⟩:=h.cellA y c e;eC q)⟩) λy i e o q=> ?_
 obtain ⟨v,fp,l,r,k⟩:=h.slot y i e o q
 refine ⟨v,fp,l.keeps (aS x.keeps),r.mono x.le λb _ o e=>aS x.keeps b o e,λa ha=>⟨gG x (k a ha).1 (r.alive a ha),(k a ha).2.1,λq=> ?_,(k a ha).2.2.2⟩⟩
 rcases aP.mp q with q | q
 ·exact ne q (r.alive a ha) rfl
 ·exact (k a ha).2.2.1 q
theorem bM.gone(h:bM W sc env X V ρ s){h':Heap}{k:Nat}{a:Addr}{X':List Addr}(ha:a∈X)(hX:∀b∈X',b∈X/\b≠a)(hk:∀b o,b≠a->s.heap.get? b=some o->h'.get? b=some o):
  bM W sc env X' V ρ {s with heap:=h',toks:=k} where
 kind:=h.kind
 scope:=h.scope
 glb:=h.glb
 blt:=h.blt
 base:=h.base
 le:=λb o e=>hk b o (by rintro rfl;rw [(h.xs _ ha).1]at e;cases e) (h.le b o e)
 top:=h.top
 loc:=let ⟨m,n⟩:=h.loc;⟨m,n.at' λo e=>hk _ o (by intro q;exact h.locX (q▸ha)) e⟩
 locV:=h.locV
 locX:=λq=>h.locX (hX _ q).1
 cells:=h.cells
 cellA:=λy c e=>by
  obtain ⟨⟨v,o,a1,a2⟩,b,d,f⟩:=h.cellA y c e
  exact ⟨⟨v,o,hk _ o (by rintro rfl;exact f ha) a1,a2⟩,b,d,λq=>f (hX _ q).1⟩
 apart:=h.apart
 xs:=λb hb=>by
  obtain ⟨c,o,e⟩:=h.xs b (hX b hb).1
  exact ⟨c,o,hk _ _ (hX b hb).2 e⟩
 slot:=λy i e o q=>by
  obtain ⟨v,fp,l,r,kk⟩:=h.slot y i e o q
  have hb:∀b∈fp,∀x,s.heap.get? b=some x->h'.get? b=some x:=λb hb x e=>hk b x (by rintro rfl;exact (kk _ hb).2.2.1 ha) e
  refine ⟨v,fp,?_,r.mono Le.rfl hb,λb hb=>⟨(kk b hb).1,(kk b hb).2.1,λq=>(kk b hb).2.2.1 (hX _ q).1,(kk b hb).2.2.2⟩⟩
  rcases l with ⟨l1,m,l2,l3⟩ |⟨l1,c,l2,l3⟩
  ·exact .inl ⟨l1,m,l2.at' λo e=>hk _ o (by intro q;exact h.locX (q▸ha)) e,l3⟩
  ·obtain ⟨o',c1,c2⟩:=l3
   exact .inr ⟨l1,c,l2,o',hk _ _ (by rintro rfl;exact (h.cellA _ _ l2).2.2.2 ha) c1,c2⟩
theorem po{α:Type}:∀{l:List α} {i:Nat} {a:α},nth l i=some a->l.drop i=a::l.drop (i+1)
 |[],i,_,h=>no h
 | a::l,0,_,h=>by obtain rfl:=ah.inj h;rfl
 | a::l,i+1,_,h=>po (l:=l) (i:=i) h
structure UX(W:Wd)(sc:Sc)(env:Env)(I D:Addr)(T0:List Addr)(V:aX)(s:Shared)(ρ:b6)(rest:List O->Prop)(len:Nat)(St:Nat->Heap->Prop)(i:Nat)(V1:aX)(vs:List Value)(os:List O)(fp:List Addr)(k:Nat)(s1:Shared):Prop where
 env:bM W sc env (fp++[I,D]) V1 ρ s1
 obj:s1.heap.get? D=some (listOf vs.toArray k)
 rep:bw W.cl V1 s1.heap.get? vs os fp
 nd:fp.Nodup
 nI:I∉fp
 nD:D∉fp
 st:St i s1.heap
 rest:rest os
 xb:xN T0 V s V1 s1
 vl:vs.length<=i
 le:i<=len
 fr:∀a∈fp,s.heap.get? a=none
theorem EC(hA:A.handled=none)(R:db sc){f:b6->Option Bool}{g:b6->Option O}{tg:List Nat}{ns:List Str}{target elt iter:ag}{ifs:List ag}{scope:Scope}{pos:Pos}{I D:Addr}{V1:aX}{l:List T}{os:List O}{fp:List Addr}
  {P:Nat->Value->Prop} {St:Nat->Heap->Prop} {Rr:Result->Shared->Prop} {T0:List Addr} {n0:Nat}
  (It:SY W.cl V1 W.prog W.w A I l fp P St) (hV1:Le V1 V) (h:bM W sc env [I,D] V ρ s) (hID:I≠D) (hD:s.heap.get? D=some (listOf #[] n0)) (hSt:St 0 s.heap) (hlen:l.length<=1000000) (hc:gQ f g tg ρ l=some os)
  (ht:zG target=some ns) (hl:ns.length=tg.length) (hr:∀(j:Nat) x i,ns[j]? =some x->tg[j]? =some i->sc.res.lookup x=some i) (hk:∀x∈ns,TI.kd sc x=some .local\/TI.kd sc x=some .cell) (hfree:∀i∈tg,get ρ i=none)
  (htest:∀ρ' b,f ρ'=some b->∀V s Y,bM W sc env Y V ρ' s->∀(E:Value->Shared->Prop) (Q:Bool->Shared->Prop),(∀s' V',iF V s V' s'->Q b s')->
   wpAny (model W.prog W.w) A (forIn ifs true λc r=>if r=true then do let ok<-isTrue c env (eval c env);pure (ForInStep.yield ok)else pure (ForInStep.yield r)) Q E s)
  (helt:∀ρ' o,g ρ'=some o->∀V s Y,bM W sc env Y V ρ' s->∀(E Q:Value->Shared->Prop),(∀v s' V' fp,iF V s V' s'->ce W.cl V' s'.heap.get? v o fp->fp.Nodup->(∀a∈fp,s.heap.get? a=none/\V' a=none)->Q v s')->
   wpAny (model W.prog W.w) A (eval elt env) Q E s)
  (hT0:∀b∈T0,b=I\/b=D\/b=env.locals\/∃x,env.cells.lookup x=some b) (hT1:I∈T0/\D∈T0/\env.locals∈T0/\∀x∈ns,∀c,env.cells.lookup x=some c->c∈T0)
  (hfin:∀s' V' vs fp n,xN T0 V s V' s'->bM W sc env (fp++[D]) V' ρ s'->s'.heap.get? D=some (listOf vs.toArray n)->bw W.cl V' s'.heap.get? vs os fp->fp.Nodup->D∉fp->(∀a∈fp,s.heap.get? a=none)->Rr (.ok .next) s'):
  codeAny (model W.prog W.w) A (.compLoop (.ListComp elt [⟨target,iter,ifs,0⟩] scope pos) 0 (.ref I) (.ref D) env) Rr s:=by
 have mI:∀{Y:List Addr},I∈Y++[I,D]:=ay _ (.head _)
 have mD:∀{Y:List Addr},D∈Y++[I,D]:=ay _ (.tail _ (.head _))
 have t0:∀{Y:List Addr} {V':aX} {ρ':b6} {s':Shared},bM W sc env (Y++[I,D]) V' ρ' s'->∀b∈T0,V' b=none/\∃o,s'.heap.get? b=some o:=λ{Y V' ρ' s'} e b hb=>
  (hT0 b hb).elim (λq=>q▸e.xs _ mI) λq=>q.elim (λq=>q▸e.xs _ mD) λq=>q.elim (λq=>q▸⟨e.locV,let ⟨_,n⟩:=e.loc;ju n⟩) λ⟨x,q⟩=>let ⟨⟨v,a⟩,b,_⟩:=e.cellA x _ q;⟨b,eC a⟩
 refine AL (λn s1=>∃i V1' vs os1 fp1 k,n=(l.drop i).length+1/\UX W sc env I D T0 V s ρ (λos1=>∃os2,gQ f g tg ρ (l.drop i)=some os2/\os=os1++os2) l.length St i V1' vs os1 fp1 k s1) ?_ (l.length+1)
  ⟨0,V,[],[],[],n0,rfl,h,hD,.nil,bL,(λq=>nomatch q),(λq=>nomatch q),hSt,⟨os,hc,rfl⟩,⟨⟨s.heap,s.toks,rfl⟩,Le.rfl,h.le,λ_ _ e=> .inl e,λ_ _ _ e=>e⟩,aA _,aE _,λa ha=>nomatch ha⟩
 rintro n s1 ⟨i,V1',vs,os1,fp1,k,rfl,e1,eD,rs,nd,nI,nD,st,⟨os2,hc2,ho⟩,xb,hvl,hi,hfr⟩ N
 have hVV:Le V1 V1':=hV1.trans xb.le
 have one:∀{h':Heap},(∀b o,b∉[I]->s1.heap.get? b=some o->h'.get? b=some o)->∀b o,b≠I->s1.heap.get? b=some o->h'.get? b=some o:=λhk b o hb=>hk b o λz=>hb (aN.mp z)
 have offT:∀{b:Addr},b∉T0->b≠I:=λhb q=>hb (q▸hT1.1)
 have offF:∀{b:Addr},b∈fp1->b≠I:=λhb q=>nI (q▸hb)
 rcases iU i l.length with hlt | hge
 ·refine It.walks.item i s1 _ N hlt st λv h' tk hp hst' hk'=> ?_
  obtain ⟨t,hnt,rt⟩:=It.items i v hlt hp
  have hk1:=one hk'
  obtain ⟨oI,eI,_⟩:=It.quiet _ _ hst'
  have e2:=e1.other (k:=tk) mI hk1 ⟨oI,eI⟩
  have hdr:=po hnt
  have dec:(l.drop (i+1)).length+1<(l.drop i).length+1:=by rw [hdr];exact cn _
  rw [hdr]at hc2
  obtain ⟨ρ',hb,hc2⟩:=bind_some hc2
  obtain ⟨b,hf,hc2⟩:=bind_some hc2
  refine kA (It.quiet _ _ hst') ?_
  refine EJ hA R ht hl hr hk hb e2 (rt.mono hVV) λh3 k3 e3 un=> ?_
  have offX:∀a∈fp1++[I,D],∀o,h'.get? a=some o->h3.get? a=some o:=λa ha o=>un a o (λq=>e2.locX (q▸ha)) λx _ c hc q=>(e2.cellA x c hc).2.2.2 (q▸ha)
  have offV:∀a o',V1' a=some o'->∀o,h'.get? a=some o->h3.get? a=some o:=λa o' ha o=>un a o (λq=>nomatch (q▸e2.locV).symm.trans ha) λx _ c hc q=>nomatch (q▸(e2.cellA x c hc).2.1).symm.trans ha
  have hst3:St (i+1) h3:=It.walks.frame _ _ _ hst' λb hb o e=>(It.old b hb).elim (λq=>offX b (by rw [q];exact mI) o e) λ⟨o',q⟩=>offV b o' (hVV _ _ q) o e
  have eD3:=offX D mD _ (hk1 D _ (Ne.symm hID) eD)
  have rs3:bw W.cl V1' h3.get? vs os1 fp1:=rs.mono Le.rfl λb hb x e=>offX b (aF _ hb) x (hk1 b x (offF hb) e)
  have xb3:xN T0 V s V1' {s1 with heap:=h3,toks:=k3}:=xb.heap (λb o hb e=>un b o (λq=>hb (q▸hT1.2.2.1)) (λx hx c hc q=>hb (q▸hT1.2.2.2 x hx c hc)) (hk1 b o (offT hb) e)) λb hb=>(t0 e1 b hb).1
  have tV:∀b∈T0,V b=none:=λb hb=>(t0 h (Y:=[]) b hb).1
  refine htest ρ' b hf V1' _ _ e3 _ _ λs4 V4 x4=> ?_
  have e4:=e3.ext x4
  have hst4:St (i+1) s4.heap:=It.walks.frame _ _ _ hst3 λb _ o e=>aS x4.keeps b o e
  have eD4:=aS x4.keeps _ _ eD3
  have rs4:=rs3.mono x4.le λb _ x e=>aS x4.keeps b x e
  have xb4:=xb3.ext tV (λb hb=>(t0 e3 b hb).2) x4
  have keepρ:∀j o,get ρ j=some o->get ρ' j=some o:=λj o e=>ym hb (λq=>nomatch (hfree j q).symm.trans e) e
  cases b with
  | false=>exact ⟨_,dec,i+1,V4,vs,os1,fp1,k,rfl,e4.drop keepρ,eD4,rs4,nd,nI,nD,hst4,⟨os2,hc2,ho⟩,xb4,gm hvl,hlt,hfr⟩
  | true=>
   obtain ⟨y,hg,hc2⟩:=bind_some hc2
   obtain ⟨os3,hc3,rfl⟩:=aT hc2
   refine helt ρ' y hg V4 _ _ e4 _ _ λv5 s5 V5 fp5 x5 r5 nd5 hf5=> ?_
   have e5:bM W sc env (fp5++(fp1++[I,D])) V5 ρ' s5:=e4.extMore x5 hf5 r5.alive
   have mm:∀{a:Addr},a∈fp1++[I,D]->a∈fp5++(fp1++[I,D]):=ay _
   have eD5:=aS x5.keeps _ _ eD4
   have rs5:=rs4.mono x5.le λb _ x e=>aS x5.keeps b x e
   have xb5:=xb4.ext tV (λb hb=>(t0 e4 b hb).2) x5
   have hst5:St (i+1) s5.heap:=It.walks.frame _ _ _ hst4 λb hb o e=>aS x5.keeps b o e
   have out5:∀{a:Addr},(∃o,s4.heap.get? a=some o)->a∉fp5:=λ⟨o,e⟩ q=>nomatch (hf5 _ q).1.symm.trans e
   have D5:D∉fp5:=out5 ⟨_,eD4⟩
   have hv6:vs.length<1000001:=aU (an hvl (an hi hlen))
   refine wpAny_list_append_plain (items:=vs.toArray) ⟨k,eD5⟩ (λh6 hD6 hs6=> ?_) (by rw [sizeLine_eq,aJ];omega)
   obtain ⟨k6,hD6⟩:=hD6
   have kp:∀b o,b≠D->s5.heap.get? b=some o->h6.get? b=some o:=λb o=>hs6.extBut b o
   have e6:=(e5.other (h':=h6) (k:=s5.toks) (a:=D) (mm mD) kp ⟨_,hD6⟩).drop keepρ
   have a1:bw W.cl V5 h6.get? vs os1 fp1:=rs5.mono Le.rfl λb hb x e=>kp b x (λq=>nD (q▸hb)) e
   have a2:ce W.cl V5 h6.get? v5 y fp5:=r5.mono Le.rfl λb hb x e=>kp b x (λq=>D5 (q▸hb)) e
   have a3:=a1.append (bw.cons a2 .nil)
   rw [bc]at a3
   refine ⟨_,dec,i+1,V5,vs++[v5],os1++[y],fp1++fp5,k6,rfl,e6.less (λa ha=>(aP.mp ha).elim (λha=>(aP.mp ha).elim (λha=>mm (aF _ ha)) (aF _)) λha=>mm (ay _ ha)),hD6.trans (by rw [Jn]),a3,
    be.mpr ⟨nd,nd5,λa ha b hb q=>out5 (rs4.alive a ha) (q▸hb)⟩,(λq=>(aP.mp q).elim nI (out5 (e4.xs I mI).2)),(λq=>(aP.mp q).elim nD D5),
    It.walks.frame _ _ _ hst5 λb hb o e=>kp b o (λz=>(It.old _ hb).elim (λq=>hID (q.symm.trans z)) λ⟨o',q⟩=>nomatch (z▸(e5.xs D (mm mD)).1).symm.trans (xb5.le _ _ (hV1 _ _ q))) e,
    ⟨os3,hc3,by rw [ho,dA];rfl⟩,xb5.heap (λb o hb e=>kp b o (λq=>hb (q▸hT1.2.1)) e) (λb hb=> ?_),by rw [bn];exact bf hvl,hlt,λa ha=>(aP.mp ha).elim (hfr a) λha=> ?_⟩
   ·exact (hT0 b hb).elim (λq=>q▸(e5.xs _ (mm mI)).1) λq=>q.elim (λq=>q▸(e5.xs _ (mm mD)).1) λq=>q.elim (λq=>q▸e5.locV) λ⟨x,q⟩=>(e5.cellA x _ q).2.1
   ·cases q:s.heap.get? a with
    | none=>rfl
    | some o=>exact absurd ha (out5 (U0 (λhT:a∈T0=>(t0 e4 a hT).2) λhT=>⟨o,xb4.keep a o hT q⟩))
 ·obtain rfl:i=l.length:=PW hi hge
  refine It.walks.done s1 _ N st λh' tk hk'=> ?_
  have hk1:=one hk'
  rw [L_]at hc2
  obtain rfl:=ah.inj hc2
  rw [bc]at ho
  subst ho
  exact hfin _ V1' vs fp1 k (xb.heap (λb o hb e=>hk1 b o (offT hb) e) λb hb=>(t0 e1 b hb).1)
   (e1.gone (a:=I) mI (λb hb=>(aP.mp hb).elim (λhb=>⟨aF _ hb,offF hb⟩) λhb=>by rw [aN.mp hb];exact ⟨mD,Ne.symm hID⟩) hk1) (hk1 D _ (Ne.symm hID) eD) (rs.mono Le.rfl λb hb x e=>hk1 b x (offF hb) e) nd nD hfr
end
end
section
section
variable{W:Wd}{A:Around}{E:Value->Shared->Prop}{s:Shared}{env:Env}{V:aX}{sc:Sc}{ρ:b6}{V':aX}{s':Shared}{X:List Addr}
theorem nK{e:ag}(h:xr e=true)(env:Env)(x:Value):foldedSetIterable e env x=pure x:=by
 cases e<;>first | rfl | cases h
theorem mB:∀{ns:List Str} {tg:List Nat} {j:Nat} {x:Str} {i:Nat},ns.Nodup->ns[j]? =some x->tg[j]? =some i->(ns.zip tg).lookup x=some i
 |[],_,_,_,_,_,e,_=>by simp at e
 | _::_,[],_,_,_,_,_,e=>by simp at e
 | a::ns,b::tg,0,x,i,_,e1,e2=>by
  simp only [List.getElem?_cons_zero,ah.injEq]at e1 e2
  rw [e1,e2];simp
 | a::ns,b::tg,j+1,x,i,hn,e1,e2=>by
  simp only [List.getElem?_cons_succ]at e1 e2
  have hx:(x==a)=false:=by
   rw [beq_eq_false_iff_ne]
   rintro rfl
   exact (aQ.mp hn).1 (bG e1)
  rw [iY,aZ,hx]
  exact mB (aQ.mp hn).2 e1 e2
theorem iF.below{s1:Shared}{V1:aX}{T0:List Addr}(x:iF V s V1 s1)(h4:Heap)(tk:Nat)(hk:∀b o,s1.heap.get? b=some o->h4.get? b=some o)(hT:∀b∈T0,s.heap.get? b=none)
  (y:xN T0 V1 {s1 with heap:=h4,toks:=tk} V' s'):iF V s V' s':=by
 obtain ⟨h',k',rfl⟩:=y.same
 obtain ⟨h1,k1,rfl,e1⟩:=x.keeps
 refine ⟨⟨h',k',rfl,λb o e=>y.keep b o (λq=>by rw [hT b q]at e;cases e) (hk b o (e1 b o e))⟩,x.le.trans y.le,y.sub,λa o e=> ?_⟩
 rcases y.new a o e with q | q
 ·exact x.new a o q
 ·cases r:s.heap.get? a with
  | none=>exact .inr rfl
  | some o'=>rw [show h4.get? a=some o' from hk a o' (e1 a o' r)]at q;cases q
theorem LB(hA:A.handled=none)(R:db sc){f:b6->Option Bool}{g:b6->Option O}{tg:List Nat}{ns:List Str}{target elt iter:ag}{ifs:List ag}{scope:Scope}{pos pos':Pos}{t:T}{l:List T}{os:List O}{use:Option (Value->Sem Unit)}
  {Q:Value->Shared->Prop} (h:bM W sc env X V ρ s) (C:lH sc scope ns tg) (ht:zG target=some ns) (hset:xr iter=true)
  (hsrc:∀(E Q:Value->Shared->Prop),(∀v s' V',iF V s V' s'->dw W.cl V' v t->Q v s')->wpAny (model W.prog W.w) A (eval iter env) Q E s)
  (hit:lB t=some l) (hc:gQ f g tg ρ l=some os)
  (htest:∀env ρ' b,f ρ'=some b->∀V s Y,bM W (iM sc scope ns tg) env Y V ρ' s->∀(E:Value->Shared->Prop) (Q:Bool->Shared->Prop),(∀s' V',iF V s V' s'->Q b s')->
   wpAny (model W.prog W.w) A (forIn ifs true λc r=>if r=true then do let ok<-isTrue c env (eval c env);pure (ForInStep.yield ok)else pure (ForInStep.yield r)) Q E s)
  (helt:∀env ρ' o,g ρ'=some o->∀V s Y,bM W (iM sc scope ns tg) env Y V ρ' s->∀(E Q:Value->Shared->Prop),(∀v s' V' fp,iF V s V' s'->ce W.cl V' s'.heap.get? v o fp->fp.Nodup->(∀a∈fp,s.heap.get? a=none/\V' a=none)->Q v s')->
   wpAny (model W.prog W.w) A (eval elt env) Q E s)
  (hfin:∀D L s' V' vs fp n m,iF V s V' s'->s'.heap.get? D=some (listOf vs.toArray n)->bw W.cl V' s'.heap.get? vs os fp->(D::fp).Nodup->(∀a∈D::fp,s.heap.get? a=none/\V' a=none)->
   s.heap.get? L=none->V' L=none->L∉D::fp->s'.heap.Ns L m->compPost (model W.prog W.w) A E use Q (.ref D) L (.ok .next) s'):
  wpAny (model W.prog W.w) A (comprehension (.ListComp elt [⟨target,iter,ifs,0⟩] scope pos) scope env pos' (newList []) false (eval iter env) use) Q E s:=by
 unfold lB at hit
 obtain ⟨l',hit',hl'⟩:=fx.mp hit
 split at hl'
 case isFalse=>cases hl'
 rename_i hlen
 obtain rfl:=ah.inj hl'
 have hcell:∀x∈scope.names,x.2= .free->∃c,env.cells.lookup x.1=some c:=λx hx e=>h.cells _ (C.free x hx e)
 refine wpAny_comprehension_free rfl (λx=>nK hset env x) (AO hcell) C.kind C.loc (hsrc _ _ λv s1 V1 x1 r1=> ?_)
 have e1:=h.ext x1
 refine C0 hA x1.sub r1 _ hit' _ λI fp P St h2 It hI hk2 hal hst=> ?_
 refine wpAny_newObj_type (AC (env:=env) ?_)
 dsimp only
 generalize hH2:h2.push {cls:= .type "list",dict:=none,data:= .seq ([]:List Value).toArray}=H3
 have dead:∀{h:Heap} {a:Addr},h.objs.size<=a->h.get? a=none:=λ{h a} ha=>by
  cases e:h.get? a with
  | none=>rfl
  | some o'=>exact absurd (d4 e) (dM.mpr ha)
 have z3:H3.objs.size=h2.objs.size+1:=by rw [<-hH2,mN]
 generalize hH4:pushCells (H3.push {cls:= .type "dict",data:= .dict #[]}) scope.names=H4
 have k23:∀b o,h2.get? b=some o->H3.get? b=some o:=λb o e=>hH2▸aV _ e
 have k34:∀b o,H3.get? b=some o->H4.get? b=some o:=λb o e=>hH4▸pushCells_keeps _ _ _ _ (aV _ e)
 have k14:∀b o,s1.heap.get? b=some o->H4.get? b=some o:=λb o e=>k34 _ _ (k23 _ _ (hk2 b o e))
 obtain ⟨oI,eI⟩:=hal
 have hIs: @LT.lt Nat _ I h2.objs.size:=d4 eI
 have s1d:∀{a:Addr},h2.objs.size<=a->s1.heap.get? a=none:=λ{a} ha=>by
  cases q:s1.heap.get? a with
  | none=>rfl
  | some o=>have:=hk2 _ _ q;rw [dead ha]at this;cases this
 have sd:∀{a:Addr},s1.heap.get? a=none->s.heap.get? a=none:=λ{a} ha=>by
  cases q:s.heap.get? a with
  | none=>rfl
  | some o=>have:=aS x1.keeps _ _ q;rw [ha]at this;cases this
 have aD:H3.get? h2.objs.size=some (listOf #[] 0):=by rw [<-hH2];exact bD _ rfl
 have nL:H4.Ns H3.objs.size (λ_=>none):=by rw [<-hH4];exact (lG.new H3 (.type "dict")).keeps (pushCells_keeps _ _)
 have e4:bM W (iM sc scope ns tg) (qA scope env H3.objs.size (H3.objs.size+1)) [I,h2.objs.size] V1 ρ {s1 with heap:=H4,toks:=s1.toks}:=by
  refine Hc R e1 C k14 (s1d (by omega)) (s1d (by omega)) hI (s1d (aA _)) (cM (cn _)) (cN (show @LT.lt Nat _ I H3.objs.size by omega)) (cN (by omega)) (cN (show @LT.lt Nat _ I (H3.objs.size+1) by omega)) (cN (by omega)) ⟨oI,k34 _ _ (k23 _ _ eI)⟩ ⟨_,k34 _ _ aD⟩ ⟨_,nL⟩ λx hx=>⟨none,?_⟩
  have:=(g_ (env:=env) (k:=0) C hx).2 (H3.push {cls:= .type "dict",data:= .dict #[]})
  rw [<-hH4,this]
  have z:(H3.push {cls:= .type "dict",data:= .dict #[]}).objs.size=H3.objs.size+1:=mN ..
  exact ⟨_,z▸bD _ rfl,rfl⟩
 have hst4:St 0 H4:=It.walks.frame _ _ _ hst λb _ o e=>k34 _ _ (k23 _ _ e)
 have loop:codeAny (model W.prog W.w) A (.compLoop (.ListComp elt [⟨target,iter,ifs,0⟩] scope pos) 0 (.ref I) (.ref h2.objs.size) (qA scope env H3.objs.size (H3.objs.size+1)))
   (compPost (model W.prog W.w) A E use Q (.ref h2.objs.size) H3.objs.size) {s1 with heap:=H4,toks:=s1.toks}:=by
  refine EC hA (u_ R C) (T0:=[I,h2.objs.size,H3.objs.size]++(if (scope.names.any λx=>x.2== .cell)then [H3.objs.size+1]else [])) It Le.rfl e4 (cM hIs) (k34 _ _ aD) hst4 hlen hc ht C.len (λj x i e1 e2=> ?_) (λx hx=> ?_) (λi hi=>e1.top i (C.top i hi)) (λρ' b hf=>htest _ ρ' b hf) (λρ' o hg=>helt _ ρ' o hg) (λb hb=> ?_) ⟨by simp,by simp,by simp [qA],λx hx c e=> ?_⟩ λs' V' vs fp n xb e' hD' rs nd nD hfr=> ?_
  ·show (ns.zip tg++_).lookup x=some i
   rw [iX]
   have:(ns.zip tg).lookup x=some i:=mB C.nsn e1 e2
   rw [this];rfl
  ·rcases C.tgs x hx with q | q
   ·exact .inl (sw q (by decide))
   ·exact .inr (sw q (by decide))
  ·rcases aP.mp hb with hb | hb
   ·simp only [aG,L6,or_false]at hb
    rcases hb with rfl | rfl | rfl
    ·exact .inl rfl
    ·exact .inr (.inl rfl)
    ·exact .inr (.inr (.inl rfl))
   ·split at hb
    ·rename_i q
     obtain rfl:=aN.mp hb
     obtain ⟨⟨n,k⟩,hm,hk⟩:=cm.mp q
     obtain rfl:=beq_iff_eq.mp hk
     exact .inr (.inr (.inr ⟨n,(g_ (env:=env) C (C.cell _ hm rfl)).1⟩))
    ·cases hb
  ·rcases ip e1 C e with ⟨q,rfl⟩ |⟨q,_⟩
   ·refine ay _ ?_
    rw [if_pos (cm.mpr ⟨_,cv q,rfl⟩)]
    exact aN.mpr rfl
   ·rcases C.tgs x hx with r | r<;>(rw [q]at r;cases r)
  ·have hT:∀b∈[I,h2.objs.size,H3.objs.size]++(if (scope.names.any λx=>x.2== .cell)then [H3.objs.size+1]else []),s.heap.get? b=none:=λb hb=>by
    rcases aP.mp hb with hb | hb
    ·simp only [aG,L6,or_false]at hb
     rcases hb with rfl | rfl | rfl
     ·exact sd hI
     ·exact sd (s1d (aA _))
     ·exact sd (s1d (by omega))
    ·split at hb
     ·obtain rfl:=aN.mp hb;exact sd (s1d (by omega))
     ·cases hb
   have dn:∀{a:Addr},H4.get? a=none->s.heap.get? a=none:=λ{a} ha=>by
    refine sd ?_
    cases q:s1.heap.get? a with
    | none=>rfl
    | some o=>have:=k14 _ _ q;rw [ha]at this;cases this
   obtain ⟨m,hm⟩:=e'.loc
   refine hfin h2.objs.size H3.objs.size s' V' vs fp n m (x1.below H4 s1.toks k14 hT xb) hD' rs (aQ.mpr ⟨nD,nd⟩) (λa ha=> ?_) (sd (s1d (by omega))) e'.locV (λq=> ?_) hm
   ·rcases aG.mp ha with rfl | ha
    ·exact ⟨sd (s1d (aA _)),(e'.xs _ (by simp)).1⟩
    ·exact ⟨dn (hfr a ha),(e'.xs _ (by simp [ha])).1⟩
   ·rcases aG.mp q with q | q
    ·exact absurd q (cN (by omega))
    ·exact e'.locX (aF _ q)
 exact codeAny_compStart_list loop (It.walks.self 0 _ _ _ hst4 loop)
end
end
section
section
variable{W:Wd}{A:Around}{E:Value->Shared->Prop}{s:Shared}{env:Env}{V:aX}{sc:Sc}{ρ:b6}{V':aX}{s':Shared}{X:List Addr}
theorem pZ{op:BoolOp}{pos:Pos}{y:ag}:∀{r:List ag},boolOp pos op (evalEach (y::r) env)=eval (gK op y r pos) env
 |[]=>rfl
 | _::_=>rfl
theorem tZ{M:Model}{x y:ag}{r:List ag}{pos:Pos}{Q:Value->Shared->Prop}
  (h:wpAny M A (eval x env) (λv s₁=>wpAny M A (truthy v) (λt s₂=>if t then wpAny M A (eval (gK .And y r pos) env) Q E s₂ else Q v s₂) E s₁) E s):wpAny M A (eval (.BoolOp .And (x::y::r) pos) env) Q E s:=by
 show wpAny M A (do
  let v<-eval x env
  standAt pos
  let t<-holding [v] (truthy v)
  match BoolOp.And,t with
  | .And,false | .Or,true=>pure v
  | _,_=>boolOp pos .And (evalEach (y::r) env)) Q E s
 refine wpAny_bind (wpAny_mono h (λv s₁ h₁=>wpAny_bind (wpAny_standAt (wpAny_bind (wpAny_holding (wpAny_mono h₁ (λt s₂ h₂=> ?_) λ_ _ x=>x))))) λ_ _ x=>x)
 cases t with
 | false=>exact wpAny_pure h₂
 | true=>
  show wpAny M A (boolOp pos .And (evalEach (y::r) env)) Q E s₂
  rw [pZ];exact h₂
theorem vV{M:Model}{x y:ag}{r:List ag}{pos:Pos}{Q:Value->Shared->Prop}
  (h:wpAny M A (eval x env) (λv s₁=>wpAny M A (truthy v) (λt s₂=>if t then Q v s₂ else wpAny M A (eval (gK .Or y r pos) env) Q E s₂) E s₁) E s):wpAny M A (eval (.BoolOp .Or (x::y::r) pos) env) Q E s:=by
 show wpAny M A (do
  let v<-eval x env
  standAt pos
  let t<-holding [v] (truthy v)
  match BoolOp.Or,t with
  | .And,false | .Or,true=>pure v
  | _,_=>boolOp pos .Or (evalEach (y::r) env)) Q E s
 refine wpAny_bind (wpAny_mono h (λv s₁ h₁=>wpAny_bind (wpAny_standAt (wpAny_bind (wpAny_holding (wpAny_mono h₁ (λt s₂ h₂=> ?_) λ_ _ x=>x))))) λ_ _ x=>x)
 cases t with
 | true=>exact wpAny_pure h₂
 | false=>
  show wpAny M A (boolOp pos .Or (evalEach (y::r) env)) Q E s₂
  rw [pZ];exact h₂
theorem pS{M:Model}{op:BoolOp}{pos:Pos}{y:ag}{Q:Bool->Shared->Prop}:∀{r:List ag},wpAny M A (isTrue (gK op y r pos) env (eval (gK op y r pos) env)) Q E s->wpAny M A (allTrue op (y::r) env) Q E s
 |[],h=>by
  cases op
  ·refine wpAny_allTrue_And_cons (wpAny_mono h (λb s' q=> ?_) λ_ _ e=>e)
   cases b
   ·exact q
   ·exact wpAny_allTrue_And_nil q
  ·refine wpAny_allTrue_Or_cons (wpAny_mono h (λb s' q=> ?_) λ_ _ e=>e)
   cases b
   ·exact wpAny_allTrue_Or_nil q
   ·exact q
 | _::_,h=>by
  unfold gK at h;dsimp only at h;rw [arm_isTrue_BoolOp]at h;exact h
theorem eM{o:ag}{n:Str}{whole:Sem Value}(h:jl o=true):attributeBase o n env whole=whole:=by
 cases o with
 | Call f as ks pos=>
  cases f with
  | Name id p=>
   cases as with
   | nil=>
    cases ks with
    | nil=>exact if_pos (eX.mpr (.inl (eX.mpr (.inl (eX.mpr (.inl h))))))
    | cons=>rfl
   | cons=>rfl
  | _=>rfl
 | _=>rfl
theorem rM{prog:Program}{w:World}{value:ag}{n:Str}{pos:Pos}{Q:Value->Shared->Prop}(hb:jl value=true)
  (h:wpAny (model prog w) A (eval value env) (λo s₁=>wpAny (model prog w) A (getAttr o n true) Q E s₁) E s):wpAny (model prog w) A (eval (.Attribute value n pos) env) Q E s:=by
 rw [arm_eval_Attribute,eM hb]
 exact wpAny_bind (wpAny_mono h (λo s₁ h₁=>wpAny_bind (wpAny_standAt (wpAny_bind (wpAny_holding (wpAny_mono h₁ (λr s₂ h₂=>wpAny_bind (wpAny_letTemporaryGo (wpAny_pure h₂))) λ_ _ e=>e))))) λ_ _ e=>e)
theorem uZ{v:Value}{o o':O}{fp:List Addr}{k:Int}(hV:Le V s.heap.get?)(ho:ce W.cl V s.heap.get? v o fp)(h:b4 k o=some o'):
  ∃T id,s.TypeIs v T/\typeLookup (.type T) "__getitem__"=pure (some (.builtin id)):=by
 cases o with
 | ins c ks l=>exact no h
 | lst l=>obtain ⟨a,vs,n,f,rfl,_,e,_⟩:=ho;exact ⟨"list",_,(ck e).typeIs,F.slot_list_getitem.lookup⟩
 | sh t=>
  cases t with
  | list l=>obtain ⟨_,a,vs,n,rfl,e,_⟩:=ho;exact ⟨"list",_,(ck (hV _ _ e)).typeIs,F.slot_list_getitem.lookup⟩
  | tup l=>obtain ⟨_,a,vs,n,rfl,e,_⟩:=ho;exact ⟨"tuple",_,(fe (hV _ _ e)).typeIs,F.slot_tuple_getitem.lookup⟩
  | _=>exact no h
theorem iI{ix:ag}(h:kT ix=true)(o i:Value):subscripted ix false o i=operate [o,i] (getItem o i):=by
 cases ix<;>first | rfl | cases h
end
end
section
@[reducible] noncomputable def KO(W:Wd)(V:aX)(s:Shared)(o:O)(Q:Value->Shared->Prop):Prop:=∀v s' V' fp,iF V s V' s'->ce W.cl V' s'.heap.get? v o fp->Q v s'
@[reducible] noncomputable def KB(V:aX)(s:Shared)(b:Bool)(Q:Bool->Shared->Prop):Prop:=∀s' V',iF V s V' s'->Q b s'
@[reducible] noncomputable def KL(W:Wd)(V:aX)(s:Shared)(ts:List T)(Q:List Value->Shared->Prop):Prop:=∀vs s' V',iF V s V' s'->bA W.cl V' vs ts->Q vs s'
noncomputable def hE(W:Wd)(c:d5)(n:Nat)(x:X):Prop:=∀sc e,db sc->cG W.consts x sc e=true->∀ρ o,ev c x ρ=some o->∀A,fD A n->∀env Y V s,bM W sc env Y V ρ s->∀(E Q:Value->Shared->Prop),KO W V s o Q->wpAny (model W.prog W.w) A (eval e env) Q E s
noncomputable def km(W:Wd)(c:d5)(n:Nat)(x:X):Prop:=∀sc e,db sc->cG W.consts x sc e=true->∀ρ b,tst c x ρ=some b->∀A,fD A n->∀env Y V s,bM W sc env Y V ρ s->∀(E:Value->Shared->Prop) (Q:Bool->Shared->Prop),KB V s b Q->
 wpAny (model W.prog W.w) A (isTrue e env (eval e env)) Q E s
noncomputable def sO(W:Wd)(c:d5)(n:Nat)(x:X):Prop:=∀sc es,db sc->qM W.consts x sc es=true->∀ρ ts,o7 c x ρ=some ts->∀A,fD A n->∀env Y V s,bM W sc env Y V ρ s->∀(pos:Pos) (E:Value->Shared->Prop) (Q:List Value->Shared->Prop),KL W V s ts Q->
 wpAny (model W.prog W.w) A (spliced (backTo pos (starEach es env))) Q E s
section
variable{W:Wd}{c:d5}{n:Nat}{A:Around}{E:Value->Shared->Prop}{s:Shared}{env:Env}{V:aX}{sc:Sc}{ρ:b6}{Y:List Addr}{x a b:X}{e:ag}
theorem hE.t(ih:hE W c n x)(R:db sc)(hk:cG W.consts x sc e=true){t:T}(hv:(ev c x ρ).bind O.t? =some t)(hA:fD A n)(h:bM W sc env Y V ρ s){Q:Value->Shared->Prop}(q:TI.K W.cl V s t Q):
  wpAny (model W.prog W.w) A (eval e env) Q E s:=by
 obtain ⟨o,h1,h2⟩:=fx.mp hv
 exact ih sc e R hk ρ o h1 A hA env Y V s h E Q λv s' V' fp x r=>q v s' V' x (r.t? h2)
theorem hE.i(ih:hE W c n x)(R:db sc)(hk:cG W.consts x sc e=true){i:Int}(hv:(ev c x ρ).bind O.int? =some i)(hA:fD A n)(h:bM W sc env Y V ρ s){Q:Value->Shared->Prop}(q:∀t s' V',iF V s V' s'->Q (.int i t) s'):
  wpAny (model W.prog W.w) A (eval e env) Q E s:=by
 obtain ⟨o,h1,h2⟩:=fx.mp hv
 refine ih sc e R hk ρ o h1 A hA env Y V s h E Q λv s' V' fp x r=> ?_
 obtain ⟨t,rfl⟩:=r.int? h2
 exact q t s' V' x
theorem jZ{x:Option T}{o:O}(h:mP x=some o):∃t,x=some t/\o= .sh t:=by
 unfold mP at h
 obtain ⟨t,a,b⟩:=cT.mp h
 exact ⟨t,a,b.symm⟩
theorem rJ{x:Option O}{o:O}(h:(x.bind λo=>mP o.t?)=some o):∃t,x.bind O.t? =some t/\o= .sh t:=by
 obtain ⟨a,h1,h2⟩:=fx.mp h
 obtain ⟨t,h3,rfl⟩:=jZ h2
 exact ⟨t,by rw [h1];exact h3,rfl⟩
theorem KO.t{t:T}{Q:Value->Shared->Prop}(q:KO W V s (.sh t) Q):TI.K W.cl V s t Q:=λv s' V' x r=>q v s' V' [] x (.sh r)
theorem fD.u(h:fD A n):A.units+10<cLine:=by have:=h.units;omega
theorem CH(op:zF)(r:ag):behindInMarks op.py r=false:=by
 cases r with
 | Set=>cases op<;>exact congrArg (λb=>b&&_) (bP _)
 | _=>rfl
@[reducible] noncomputable def G(W:Wd)(A:Around)(env:Env)(Q E:Value->Shared->Prop)(s:Shared)(e:ag):Prop:=wpAny (model W.prog W.w) A (eval e env) Q E s
theorem dk{α:Type}{o:Option α}{f:α->Bool}(h:o.any f=true):∃a,o=some a/\f a=true:=by
 cases o with
 | none=>exact aL h
 | some a=>exact ⟨a,rfl,h⟩
theorem Pj(t:T):hE W c n (.lit t):=by
 intro sc e R hk ρ o hv A hA env Y V s h E Q q
 obtain rfl:=ah.inj hv
 refine GE (P:=G W A env Q E s) hk λk i pos hk=> ?_
 obtain ⟨t',h1,h2⟩:=dk hk
 obtain rfl:=T.same_eq h2
 cases k with
 | none=>cases h1;exact wpAny_Constant_none (q.t _ _ V (.refl h.le) .none)
 | bool b=>cases h1;exact wpAny_Constant_bool (q.t _ _ V (.refl h.le) (.bool _))
 | int i=>cases h1;exact wpAny_Constant_int (q.t _ _ V (.toks h.le _) (.int _ _))
 | str x=>cases h1;exact wpAny_Constant_str (q.t _ _ V (.toks h.le _) (.str _ _))
 | _=>exact no h1
theorem Lm(O:W.Ok)(x:Str)(t:T):hE W c n (.glob x t):=by
 intro sc e R hk ρ o hv A hA env Y V s h E Q q
 obtain rfl:=ah.inj hv
 refine dL (P:=G W A env Q E s) hk λy pos hk=>aR hk λ_ hk=>aR hk λhg hc=> ?_
 obtain ⟨t',hl,hc⟩:=dk hc
 obtain rfl:=T.same_eq hc
 obtain ⟨v,hv,r⟩:=O.const _ _ hl
 exact h.glob O hg hv (q.t _ _ V (.refl h.le) (r.mono h.base))
theorem Pd(i:Nat):hE W c n (.var i):=by
 intro sc e R hk ρ o hv A hA env Y V s h E Q q
 refine dL (P:=G W A env Q E s) hk λy pos hk=>aR hk λh1 h2=> ?_
 obtain ⟨v,fp,l,r,_⟩:=h.slot y i (eq_of_beq h1) o hv
 exact l.eval h.kind h2 (q _ _ V fp (.refl h.le) r)
theorem Pp(op:n6)(ia:hE W c n a)(ib:hE W c n b):hE W c n (.bin op a b):=by
 intro sc e R hk ρ o hv A hA env Y V s h E Q q
 obtain ⟨ta,ha,hv⟩:=bind_some hv
 obtain ⟨tb,hb,hv⟩:=bind_some hv
 obtain ⟨t,ht,rfl⟩:=jZ hv
 refine s7 (P:=G W A env Q E s) hk λl o r pos hk=>aR hk λho hk=>aR hk λhka hkb=> ?_
 rw [<-eq_of_beq ho]
 exact wpAny_BinOp (ia.t R hka ha hA h λva s1 V1 x1 r1=>ib.t R hkb hb hA (h.ext x1) λvb s2 V2 x2 r2=>PB x2.sub (r1.mono x2.le) r2 op _ ht _ λv s' V' x3 r3=>q.t v s' V' ((x1.trans x2).trans x3) r3)
theorem Li(ia:hE W c n a):hE W c n (.nott a):=by
 intro sc e R hk ρ o hv A hA env Y V s h E Q q
 obtain ⟨ta,ha,hv⟩:=bind_some hv
 obtain ⟨t,ht,rfl⟩:=aT hv
 refine rm (P:=G W A env Q E s) hk λo x pos hk=>aR hk λho hk=> ?_
 rw [eq_of_beq ho]
 exact wpAny_UnaryOp (ia.t R hk ha hA h λva s1 V1 x1 r1=>not_value (n8 x1.sub r1 _ ht _ λk=>q.t _ _ V1 (x1.trans (.toks x1.sub k)) (.bool _)))
end
end
section
section
variable{W:Wd}{c:d5}{n:Nat}{A:Around}{E:Value->Shared->Prop}{s:Shared}{env:Env}{V:aX}{sc:Sc}{ρ:b6}{Y:List Addr}{x a b:X}{e:ag}
theorem Po(op:zF)(ia:hE W c n a)(ib:hE W c n b):hE W c n (.cmp op a b):=by
 intro sc e R hk ρ o hv A hA env Y V s h E Q q
 obtain ⟨ta,ha,hv⟩:=bind_some hv
 obtain ⟨tb,hb,hv⟩:=bind_some hv
 obtain ⟨t,ht,rfl⟩:=aT hv
 refine yQ (P:=G W A env Q E s) hk λl os rs pos hk=>onO_ok (P:=λos=>G W A env Q E s (.Compare l os rs pos)) hk λo hk=>onO_ok (P:=λrs=>G W A env Q E s (.Compare l [o] rs pos)) hk λr hk=>aR hk λho hk=>aR hk λhka hkb=> ?_
 rw [<-eq_of_beq ho]
 exact wpAny_Compare1 (ia.t R hka ha hA h λva s1 V1 x1 r1=>ib.t R hkb hb hA (h.ext x1) λvb s2 V2 x2 r2=>Iv hA.u x2.sub op (r1.mono x2.le) r2 _ ht _ (q.t _ _ V2 (x1.trans x2) (.bool _))) (CH _ _)
theorem Pl(iq:km W c n x)(ia:hE W c n a)(ib:hE W c n b):hE W c n (.ite x a b):=by
 intro sc e R hk ρ o hv A hA env Y V s h E Q q
 obtain ⟨v,ht,hv⟩:=bind_some hv
 refine GB (P:=G W A env Q E s) hk λt y z pos hk=>aR hk λk1 hk=>aR hk λk2 k3=>wpAny_IfExp (iq sc _ R k1 ρ v ht A hA env Y V s h E _ λs1 V1 x1=> ?_)
 cases v with
 | true=>
  obtain ⟨t,hb,rfl⟩:=rJ hv
  exact ia.t R k2 hb hA (h.ext x1) λv s' V' x3 r3=>q.t v s' V' (x1.trans x3) r3
 | false=>
  obtain ⟨t,hb,rfl⟩:=rJ hv
  exact ib.t R k3 hb hA (h.ext x1) λv s' V' x3 r3=>q.t v s' V' (x1.trans x3) r3
theorem Lp(O:W.Ok)(k:Nat)(ia:hE W c n a):hE W c n (.attr a k):=by
 intro sc e R hk ρ o hv A hA env Y V s h E Q q
 obtain ⟨oa,ha,hv⟩:=bind_some hv
 refine iz (P:=G W A env Q E s) hk λv m pos hk=>aR hk λh1 hk=>aR hk λh2 hk=>aR hk λh3 h4=> ?_
 rw [eq_of_beq h1]
 exact rM h3 (ia sc _ R h4 ρ oa ha A hA env Y V s h E _ λva s1 V1 fp x1 r1=>
  wQ (O.kin _ ((h.base.trans x1.le).trans x1.sub)) O.cls x1.sub r1 (of_decide_eq_true h2) hv λv' f' r' _=>q _ _ V1 f' (x1.trans (.toks x1.sub _)) r')
theorem Pn(ia:hE W c n a)(ib:hE W c n b):hE W c n (.idx a b):=by
 intro sc e R hk ρ o hv A hA env Y V s h E Q q
 obtain ⟨oa,ha,hv⟩:=bind_some hv
 obtain ⟨i,hb,hv⟩:=bind_some hv
 refine jr (P:=G W A env Q E s) hk λv ix pos hk=>aR hk λk1 hk=>aR hk λk2 k3=>Subscript_ (ia sc _ R k2 ρ oa ha A hA env Y V s h E _ λva s1 V1 fp x1 r1=>ib.i R k3 hb hA (h.ext x1) λt s2 V2 x2=> ?_)
 have r2:=r1.mono (g':=s2.heap.get?) x2.le λb _ o e=>aS x2.keeps b o e
 obtain ⟨T,id,t1,t2⟩:=uZ x2.sub r2 hv
 exact tail_any t1 t2 (wz x2.sub r2 hv λv' f' r' _=>q _ _ V2 f' (x1.trans x2) r') (iI k1 _ _)
end
end
section
section
variable{W:Wd}{c:d5}{n:Nat}{A:Around}{E:Value->Shared->Prop}{s:Shared}{env:Env}{V:aX}{sc:Sc}{ρ:b6}{Y:List Addr}{x a b:X}{e:ag}
theorem Lq(ia:hE W c n a)(ib:hE W c n b):hE W c n (.andd a b):=by
 intro sc e R hk ρ o hv A hA env Y V s h E Q q
 obtain ⟨ta,ha,hv⟩:=bind_some hv
 obtain ⟨t,ht,hv⟩:=bind_some hv
 refine oe (P:=G W A env Q E s) hk λo l pos hk=>aR hk λho hk=>fH (P:=λl=>G W A env Q E s (.BoolOp o l pos)) hk λx l hk=>fH (P:=λl=>G W A env Q E s (.BoolOp o (x::l) pos)) hk λy r hk=>aR hk λk1 k2=> ?_
 rw [eq_of_beq ho]
 refine tZ (ia.t R k1 ha hA h λva s1 V1 x1 r1=>n8 x1.sub r1 _ ht _ λk=> ?_)
 have x2:=x1.trans (.toks x1.sub k)
 cases t with
 | false=>obtain rfl:=ah.inj hv;exact q.t _ _ V1 x2 r1
 | true=>
  obtain ⟨tb,hb,rfl⟩:=rJ hv
  exact ib.t R k2 hb hA (h.ext x2) λv s' V' x3 r3=>q.t v s' V' (x2.trans x3) r3
theorem Pg(ia:hE W c n a)(ib:hE W c n b):hE W c n (.orr a b):=by
 intro sc e R hk ρ o hv A hA env Y V s h E Q q
 obtain ⟨ta,ha,hv⟩:=bind_some hv
 obtain ⟨t,ht,hv⟩:=bind_some hv
 refine oe (P:=G W A env Q E s) hk λo l pos hk=>aR hk λho hk=>fH (P:=λl=>G W A env Q E s (.BoolOp o l pos)) hk λx l hk=>fH (P:=λl=>G W A env Q E s (.BoolOp o (x::l) pos)) hk λy r hk=>aR hk λk1 k2=> ?_
 rw [eq_of_beq ho]
 refine vV (ia.t R k1 ha hA h λva s1 V1 x1 r1=>n8 x1.sub r1 _ ht _ λk=> ?_)
 have x2:=x1.trans (.toks x1.sub k)
 cases t with
 | true=>obtain rfl:=ah.inj hv;exact q.t _ _ V1 x2 r1
 | false=>
  obtain ⟨tb,hb,rfl⟩:=rJ hv
  exact ib.t R k2 hb hA (h.ext x2) λv s' V' x3 r3=>q.t v s' V' (x2.trans x3) r3
theorem Pi(ia:hE W c n a):hE W c n (.neg a):=by
 intro sc e R hk ρ o hv A hA env Y V s h E Q q
 obtain ⟨ta,ha,hv⟩:=bind_some hv
 refine rm (P:=G W A env Q E s) hk λo x pos hk=>aR hk λho hk=> ?_
 rw [eq_of_beq ho]
 cases ta with
 | int i=>
  obtain rfl:=ah.inj hv
  exact wpAny_UnaryOp (ia.t R hk ha hA h λva s1 V1 x1 r1=>by
   obtain ⟨k,rfl⟩:=r1
   exact neg_int (q.t _ _ V1 (x1.trans (.toks x1.sub _)) (.int _ _)))
 | _=>exact no hv
theorem Pm(ia:hE W c n a):hE W c n (.inv a):=by
 intro sc e R hk ρ o hv A hA env Y V s h E Q q
 obtain ⟨ta,ha,hv⟩:=bind_some hv
 refine rm (P:=G W A env Q E s) hk λo x pos hk=>aR hk λho hk=> ?_
 rw [eq_of_beq ho]
 cases ta with
 | int i=>
  obtain rfl:=ah.inj hv
  exact wpAny_UnaryOp (ia.t R hk ha hA h λva s1 V1 x1 r1=>by
   obtain ⟨k,rfl⟩:=r1
   exact invert_int (q.t _ _ V1 (x1.trans (.toks x1.sub _)) (.int _ _)))
 | _=>exact no hv
end
end
section
section
variable{W:Wd}{c:d5}{n:Nat}{A:Around}{E:Value->Shared->Prop}{s:Shared}{env:Env}{V:aX}{sc:Sc}{ρ:b6}{Y:List Addr}{x a b:X}{e:ag}
theorem HK{lo hi:Option Int}{t t':T}{va l u:Value}{value:ag}{el eu:Option ag}{p:Pos}{sl:Addr}{Q:Value->Shared->Prop}(hV:Le V s.heap.get?)(r:dw W.cl V va t)(hv:mx lo hi t=some t')(hs:s.heap.IsSliceOf sl l u .none)(pl:IsPart l lo)(pu:IsPart u hi)(q:TI.K W.cl V s t' Q):
  wpAny (model W.prog W.w) A (subscriptTail value (.Slice el eu none p) va (.ref sl)) Q E s:=by
 cases t with
 | list ts=>
  obtain ⟨a,vs,n,rfl,e,ra⟩:=id r
  exact tail_any (ck (hV _ _ e)).typeIs F.slot_list_getitem.lookup (F6 hV r hs pl pu _ hv _ q) (ops:=[.ref sl,.ref a]) rfl
 | _=>exact no hv
theorem yW{x:X}(h:isNil x=true):x= .nil:=by
 cases x with
 | nil=>rfl
 | _=>exact aL (show false=true from h)
theorem Oe{hi:X}{o:O}(k:isNil hi=false)(hv:ev c (.slc a x hi) ρ=some o):∃ta i j t,(ev c a ρ).bind O.t? =some ta/\(ev c x ρ).bind O.int? =some i/\(ev c hi ρ).bind O.int? =some j/\mx (some i) (some j) ta=some t/\o= .sh t:=by
 obtain ⟨ta,ha,hv⟩:=bind_some hv
 obtain ⟨i,hb,hv⟩:=bind_some hv
 have hv':((ev c hi ρ).bind O.int?).bind (λh=>mP (mx (some i) (some h) ta))=some o:=by
  cases hi with
  | nil=>exact aL k
  | _=>exact hv
 obtain ⟨j,hj,hv'⟩:=bind_some hv'
 obtain ⟨t,ht,e⟩:=jZ hv'
 exact ⟨ta,i,j,t,ha,hb,hj,ht,e⟩
theorem Pf{lo hi:X}(ia:hE W c n a)(il:hE W c n lo)(ih:hE W c n hi):hE W c n (.slc a lo hi):=by
 intro sc e R hk ρ o hv A hA env Y V s h E Q q
 refine jr (P:=G W A env Q E s) hk λv ix pos hk=>Gz (P:=λix=>G W A env Q E s (.Subscript v ix pos)) hk λl u t p hj=>aR hj λk0 hm=> ?_
 cases t with
 | some _=>exact aL (show false=true from k0)
 | none=>
 obtain ⟨el,rfl,hm⟩:=dk hm
 refine aR hm λk1 hm=>aR hm λk2 k3=> ?_
 cases u with
 | none=>
  obtain rfl:=yW k3
  obtain ⟨ta,ha,hv⟩:=bind_some hv
  obtain ⟨i,hb,hv⟩:=bind_some hv
  obtain ⟨t,ht,rfl⟩:=jZ hv
  refine Subscript_ (ia.t R k1 ha hA h λva s1 V1 x1 r1=> ?_)
  refine wpAny_Slice ?_
  rw [evalPart_some]
  refine il.i R k2 hb hA (h.ext x1) λtk s2 V2 x2=> ?_
  have x12:=x1.trans x2
  rw [evalPart_none]
  refine wpAny_pure (wpAny_pure ?_)
  have x3:=x12.trans (iF.heap (k:=s2.toks) x12.sub λb o e=>aV {cls:= .type "slice",data:= .fields #[.int i tk,.none,.none]} e)
  exact HK x3.sub (r1.mono x2.le) ht (PY.new _ _ _ _) (.int _ _) .none λv s' V' x4 r4=>q.t v s' V' (x3.trans x4) r4
 | some eh=>
  refine aR k3 λk5 k4=> ?_
  obtain ⟨ta,i,j,t,ha,hb,hj,ht,rfl⟩:=Oe (b0 _|>.mp k5) hv
  refine Subscript_ (ia.t R k1 ha hA h λva s1 V1 x1 r1=> ?_)
  refine wpAny_Slice ?_
  rw [evalPart_some]
  refine il.i R k2 hb hA (h.ext x1) λtk s2 V2 x2=> ?_
  have x12:=x1.trans x2
  rw [evalPart_some]
  refine ih.i R k4 hj hA (h.ext x12) λtk' s3 V3 x3=> ?_
  rw [evalPart_none]
  refine wpAny_pure ?_
  have x4:=(x12.trans x3).trans (iF.heap (k:=s3.toks) x3.sub λb o e=>aV {cls:= .type "slice",data:= .fields #[.int i tk,.int j tk',.none]} e)
  exact HK x4.sub (r1.mono (x2.le.trans x3.le)) ht (PY.new _ _ _ _) (.int _ _) (.int _ _) λv s' V' x5 r5=>q.t v s' V' (x4.trans x5) r5
end
end
section
noncomputable def re(e:ag):Bool:=eV e.ctorIdx 23||(eV e.ctorIdx 2||(eV e.ctorIdx 20||(eV e.ctorIdx 21||eV e.ctorIdx 16)))
noncomputable def vR(V:aX)(h:Heap)(fp:List Addr):aX:=λb=>if b∈fp then h.get? b else V b
section
variable{W:Wd}{c:d5}{n:Nat}{A:Around}{E:Value->Shared->Prop}{s:Shared}{env:Env}{V V':aX}{sc:Sc}{ρ:b6}{Y:List Addr}{x a b:X}{e:ag}{s':Shared}
theorem AG{whole:Sem Value}(h:re e=true):isTrue e env whole=(do let v<-whole;standAt e.pos;holding [v] (truthy v)):=by
 cases e<;>first | rfl | cases h
theorem oR{h:Heap}{fp:List Addr}(hf:∀a∈fp,V a=none):Le V (vR V h fp):=λb o e=>by
 unfold vR
 rw [if_neg (λq=>by rw [hf b q]at e;cases e)];exact e
theorem oS{h:Heap}{fp:List Addr}{a:Addr}(ha:a∈fp):vR V h fp a=h.get? a:=if_pos ha
theorem iF.freeze{fp:List Addr}(x:iF V s V' s')(hf:∀a∈fp,s.heap.get? a=none/\V' a=none):iF V s (vR V' s'.heap fp) s':=by
 refine ⟨x.keeps,x.le.trans (oR λa ha=>(hf a ha).2),λb o e=> ?_,λa o e=> ?_⟩
 ·unfold vR at e
  split at e
  ·exact e
  ·exact x.sub b o e
 ·unfold vR at e
  split at e
  ·rename_i q;exact .inr (hf a q).1
  ·exact x.new a o e
theorem Df{cs:List (Str×T)}{x:X}{sc:Sc}{es:List ag}{ts:List T}(h:qM cs x sc es=true):o7 c x ρ=some ts->ts.length=es.length:=
 ty (P:=λx es=>∀ts,o7 c x ρ=some ts->ts.length=es.length) (λts k=>by cases ah.inj k;rfl) (λa r e es _ _ _ ih ts k=>by
  obtain ⟨t,_,k⟩:=bind_some k
  obtain ⟨l,k',rfl⟩:=aT k
  exact congrArg (· +1) (ih l k')) x es h ts
theorem Ll(ia:sO W c n a):hE W c n (.list a):=by
 intro sc e R hk ρ o hv A hA env Y V s h E Q q
 obtain ⟨ts,ha,rfl⟩:=aT hv
 refine yO (P:=G W A env Q E s) hk λes pos hk=>aR hk λk1 k2=>wpAny_List (ia sc es R k1 ρ ts ha A hA env Y V s h pos E _ λvs s1 V1 x1 r1=>⟨?_,?_⟩)
 ·have:=Df k1 ha;have:=r1.length;have:=of_decide_eq_true k2;rw [sizeLine_eq];omega
 ·exact q.t _ _ _ (x1.trans (iF.push x1.sub (o:=listOf vs.toArray 0) rfl s1.toks)) (.list _ vs 0 ts (fC ..) (r1.mono (lK x1.sub _)))
theorem Pe(ia:sO W c n a):hE W c n (.tup a):=by
 intro sc e R hk ρ o hv A hA env Y V s h E Q q
 obtain ⟨ts,ha,rfl⟩:=aT hv
 refine Gy (P:=G W A env Q E s) hk λes _ pos hk=>aR hk λk1 k2=>wpAny_Tuple (ia sc es R k1 ρ ts ha A hA env Y V s h pos E _ λvs s1 V1 x1 r1=>⟨?_,?_⟩)
 ·have:=Df k1 ha;have:=r1.length;have:=of_decide_eq_true k2;rw [sizeLine_eq];omega
 ·exact q.t _ _ _ (x1.trans (iF.push x1.sub (o:=nR vs.toArray 0) rfl s1.toks)) (.tup _ vs 0 ts (fC ..) (r1.mono (lK x1.sub _)))
theorem Lo(O:W.Ok)(oc:fm W n c)(f:Nat)(ia:sO W c n a):hE W c n (.call f a):=by
 intro sc e R hk ρ o hv A hA env Y V s h E Q q
 obtain ⟨ts,ha,hv⟩:=bind_some hv
 obtain ⟨t,ht,rfl⟩:=jZ hv
 refine iy (P:=G W A env Q E s) hk λg args kw pos hk=>aR hk λk0 hk=>fJ (P:=λkw=>G W A env Q E s (.Call g args kw pos)) k0 ?_
 refine dL (P:=λg=>G W A env Q E s (.Call g args [] pos)) hk λy p hk=>aR hk λk1 hk=>aR hk λk2 k3=> ?_
 obtain ⟨hm,hf⟩:=O.fn _ _ (eq_of_beq k1)
 obtain ⟨ob,fd,ho,hd⟩:=hf _ (h.base.trans h.le)
 refine wpAny_Call_NameR (h.glob O k2 hm ?_)
 refine Calls.callWith_function (o:=ob) (fd:=fd) (gU (jL k3) (ia sc args R k3 ρ ts ha A hA env Y V s h pos E _ λvs s1 V1 x1 r1=>⟨⟨aS x1.keeps _ _ ho,hd⟩,?_⟩))
 exact oc.call f ts t ht A hA V1 s1 (h.base.trans x1.le) x1.sub vs r1 E Q λv s' V' x2 r2=>q.t v s' V' (x1.trans x2) r2
end
end
section
section
variable{W:Wd}{c:d5}{n:Nat}{A:Around}{E:Value->Shared->Prop}{s:Shared}{env:Env}{V V':aX}{sc:Sc}{ρ:b6}{Y:List Addr}{x a b:X}{e:ag}{s':Shared}
theorem ol(x:iF V s V' s'){a:Addr}(h:s'.heap.get? a=none):s.heap.get? a=none:=by
 cases q:s.heap.get? a with
 | none=>rfl
 | some o=>rw [aS x.keeps _ _ q]at h;cases h
theorem Tn{h:Heap}(hV:Le V h.get?){a:Addr}(q:h.get? a=none):V a=none:=by
 cases r:V a with
 | none=>rfl
 | some o=>rw [hV _ _ r]at q;cases q
theorem CJ(O:W.Ok)(oc:fm W n c)(f:Nat)(ia:sO W c n a)(R:db sc)(hk:cG W.consts (.new f a) sc e=true){ts:List T}{o:TI.O}(ha:o7 c a ρ=some ts)(ho:c.new f ts=some o)(hA:fD A n)(h:bM W sc env Y V ρ s){Q:Value->Shared->Prop}
  (q:∀v s' V' fp,iF V s V' s'->ce W.cl V' s'.heap.get? v o fp->fp.Nodup->(∀a∈fp,s.heap.get? a=none/\V' a=none)->Q v s'):wpAny (model W.prog W.w) A (eval e env) Q E s:=by
 refine iy (P:=G W A env Q E s) hk λg args kw pos hk=>aR hk λk0 hk=>fJ (P:=λkw=>G W A env Q E s (.Call g args kw pos)) k0 ?_
 refine dL (P:=λg=>G W A env Q E s (.Call g args [] pos)) hk λy p hk=>aR hk λk1 hk=>aR hk λk2 k3=> ?_
 obtain ⟨hm,hf⟩:=O.clsn _ _ (eq_of_beq k1)
 refine wpAny_Call_NameR (h.glob O k2 hm ?_)
 refine uf (jL k3) (ia sc args R k3 ρ ts ha A hA env Y V s h pos E _ λvs s1 V1 x1 r1=>⟨hf _ ((h.base.trans x1.le).trans x1.sub),?_⟩)
 exact oc.new f ts o ho A hA V1 s1 (h.base.trans x1.le) x1.sub vs r1 E Q λv s' V' fp x2 r2 nd hf=>q v s' V' fp (x1.trans x2) r2 nd λa ha=>⟨ol x1 (hf a ha).1,(hf a ha).2⟩
theorem Ph(O:W.Ok)(oc:fm W n c)(f:Nat)(ia:sO W c n a):hE W c n (.new f a):=by
 intro sc e R hk ρ o hv A hA env Y V s h E Q q
 obtain ⟨ts,ha,hv⟩:=bind_some hv
 obtain ⟨o',ho,rfl⟩:=aT hv
 refine CJ O oc f ia R hk ha ho hA h λv s' V' fp x r nd hf=> ?_
 exact q.t v s' _ (x.freeze hf) (r.freeze (oR λa ha=>(hf a ha).2) λa ha o e=>by rw [oS ha];exact e)
theorem LR(b:BI):(∃id,b.fn= .builtin id)\/∃T,b.fn= .type T:=by cases b<;>first | exact .inl ⟨_,rfl⟩ | exact .inr ⟨_,rfl⟩
theorem RA(O:W.Ok)(b:BI)(ia:sO W c n a):hE W c n (.bi b a):=by
 intro sc e R hk ρ o hv A hA env Y V s h E Q q
 obtain ⟨ts,ha,hv⟩:=bind_some hv
 obtain ⟨t,ht,rfl⟩:=jZ hv
 refine iy (P:=G W A env Q E s) hk λg args kw pos hk=>aR hk λk0 hk=>fJ (P:=λkw=>G W A env Q E s (.Call g args kw pos)) k0 ?_
 refine dL (P:=λg=>G W A env Q E s (.Call g args [] pos)) hk λy p hk=>aR hk λk1 hk=>aR hk λk2 k3=> ?_
 obtain rfl:=eq_of_beq k1
 refine wpAny_Call_NameR (h.blti O k2 (O.bi b).1 (O.bi b).2 ?_)
 have hp:=jL k3
 have key:wpAny (model W.prog W.w) A (evalArgs b.fn true (backTo pos (starEach args env)) []) (λx s₁=>wpAny (model W.prog W.w) A (call b.fn ([]++x.pos) x.kw) Q E s₁) E s:=
  gU hp (ia sc args R k3 ρ ts ha A hA env Y V s h pos E _ λvs s1 V1 x1 r1=>RT (hA.mono (aE _)) x1.sub b r1 _ ht _ λv s' V' x2 r2=>q.t v s' V' (x1.trans x2) r2)
 rcases LR b with ⟨id,eb⟩ |⟨T,eb⟩
 ·rw [eb]at key⊢
  exact Calls.callWith_builtin (li hp) key
 ·rw [eb]at key⊢
  exact PyProof.Rows.callWith_type (li hp) key
theorem CM(m:Mt):Slot "list" m.name m.id/\typeOf (.builtin m.id)=pure (.type "method_descriptor"):=by cases m<;>first | exact ⟨F.slot_list_index,rfl⟩ | exact ⟨F.slot_list_count,rfl⟩
theorem Lj(m:Mt)(ia:hE W c n a)(ib:hE W c n b):hE W c n (.meth m a b):=by
 intro sc e R hk ρ o hv A hA env Y V s h E Q q
 obtain ⟨ta,ha,hv⟩:=bind_some hv
 obtain ⟨tb,hb,hv⟩:=bind_some hv
 obtain ⟨t,ht,rfl⟩:=jZ hv
 refine iy (P:=G W A env Q E s) hk λg args kw pos hk=>aR hk λk0 hk=>fJ (P:=λkw=>G W A env Q E s (.Call g args kw pos)) k0 ?_
 refine iz (P:=λg=>G W A env Q E s (.Call g args [] pos)) hk λov nme apos hk=>onO_ok (P:=λargs=>G W A env Q E s (.Call (.Attribute ov nme apos) args [] pos)) hk λarg hk=>aR hk λk1 hk=>aR hk λh2 hk=>aR hk λh3 hk=>aR hk λh4 hk=>aR hk λh5 h6=> ?_
 obtain rfl:=eq_of_beq k1
 cases ta with
 | list l=>
  refine wpAny_Call_method (eM h3) (by rw [cF h4];rfl) h2 F.plainAttrs_list (CM m).1 (CM m).2 (ia.t R h5 ha hA h λva s1 V1 x1 r1=> ?_)
  obtain ⟨ad,vs,k,rfl,e,ra⟩:=id r1
  refine ⟨(ck (x1.sub _ _ e)).typeIs,λa ha=>Value.ref.inj ha▸⟨_,x1.sub _ _ e,rfl⟩,?_⟩
  rw [cF h4]
  exact Calls.callWith_builtin rfl (Calls.evalArgs_plain (Calls.spliced_cons (ib.t R h6 hb hA (h.ext x1) λvb s2 V2 x2 r2=>Calls.spliced_nil (Kw (hA.mono (aE _)) x2.sub (r1.mono x2.le) r2 _ ht _ λv s' V' x3 r3=>q.t v s' V' ((x1.trans x2).trans x3) r3))))
 | _=>exact no ht
end
end
section
@[reducible] noncomputable def KF(W:Wd)(V:aX)(s:Shared)(o:O)(Q:Value->Shared->Prop):Prop:=∀v s' V' fp,iF V s V' s'->ce W.cl V' s'.heap.get? v o fp->fp.Nodup->(∀a∈fp,s.heap.get? a=none/\V' a=none)->Q v s'
noncomputable def BV(W:Wd)(n:Nat)(g:b6->Option O)(x:X):Prop:=∀sc e,db sc->cG W.consts x sc e=true->∀ρ o,g ρ=some o->∀A,fD A n->∀env Y V s,bM W sc env Y V ρ s->∀(E Q:Value->Shared->Prop),KF W V s o Q->wpAny (model W.prog W.w) A (eval e env) Q E s
@[reducible] noncomputable def P9(c:d5)(q:X)(ρ:b6):Option Bool:=mf q (some true) (tst c q ρ)
section
variable{W:Wd}{c:d5}{n:Nat}{A:Around}{E:Value->Shared->Prop}{s:Shared}{env:Env}{V V':aX}{sc:Sc}{ρ:b6}{Y:List Addr}{x a b:X}{e:ag}{s':Shared}
theorem hE.gen(ih:hE W c n x):BV W n (λr=>((ev c x r).bind O.t?).map .sh) x:=by
 intro sc e R hk ρ o hv A hA env Y V s h E Q q
 obtain ⟨t,h1,rfl⟩:=aT hv
 exact ih.t R hk h1 hA h λv s' V' x r=>q v s' V' [] x (.sh r) bL λa ha=>nomatch ha
theorem lg{α β:Type}{f:b6->Option Bool}{g:b6->Option α}{u:α->β}{tg:List Nat}{ρ:b6}:∀{l:List T} {ys:List α},gQ f g tg ρ l=some ys->gQ f (λr=>(g r).map u) tg ρ l=some (ys.map u)
 |[],ys,h=>by obtain rfl:=ah.inj h;rfl
 | t::r,ys,h=>by
  obtain ⟨ρ',h1,h⟩:=bind_some h
  obtain ⟨b,h2,h⟩:=bind_some h
  show Option.bind _ _=_
  rw [h1,cY,h2,cY]
  cases b with
  | false=>exact lg (l:=r) h
  | true=>
   obtain ⟨y,h3,h⟩:=bind_some h
   obtain ⟨zs,h4,rfl⟩:=aT h
   rw [if_pos rfl];show ((g ρ').map u).bind _=_;rw [h3,lg h4];rfl
theorem bw.shs{g:aX}:∀{ts:List T} {vs:List Value} {fp:List Addr},bw W.cl V g vs (ts.map .sh) fp->bA W.cl V vs ts/\fp=[]
 |[],_,_,h=>⟨h.1,h.2⟩
 | t::ts,_,_,h=>by
  obtain ⟨v,us,f1,f2,rfl,rfl,a,r⟩:=h
  obtain ⟨r',rfl⟩:=bw.shs r
  exact ⟨.cons a.2 r',by rw [a.1];rfl⟩
theorem FU{q:X}{ifs:List ag}{sc':Sc}(R:db sc')(iq:km W c n q)(hq:Su q ifs (λe=>cG W.consts q sc' e)=true)(hA:fD A n){ρ':b6}{b:Bool}
  (hf:P9 c q ρ'=some b) (h:bM W sc' env Y V ρ' s) {Q:Bool->Shared->Prop} (k:KB V s b Q):
  wpAny (model W.prog W.w) A (forIn ifs true λc r=>if r=true then do let ok<-isTrue c env (eval c env);pure (ForInStep.yield ok)else pure (ForInStep.yield r)) Q E s:=by
 cases ifs with
 | nil=>
  obtain rfl:=yW hq
  obtain rfl:=ah.inj hf
  exact wpAny_tests_nil (k s V (.refl h.le))
 | cons c' r=>
  refine aR hq λh0 hq=>fJ (P:=λr=>wpAny (model W.prog W.w) A (forIn (c'::r) true λc r=>if r=true then do let ok<-isTrue c env (eval c env);pure (ForInStep.yield ok)else pure (ForInStep.yield r)) Q E s) h0 (aR hq λhn hc=> ?_)
  have hf':tst c q ρ'=some b:=by
   cases q with
   | nil=>exact aL hn
   | _=>exact hf
  exact wpAny_tests_one (iq sc' c' R hc ρ' b hf' A hA env Y V s h E Q k)
noncomputable def MH(W:Wd)(A:Around)(E:Value->Shared->Prop)(V:aX)(s:Shared)(os:List O)(use:Option (Value->Sem Unit))(Q:Value->Shared->Prop):Prop:=∀D L s' V' vs fp n m,iF V s V' s'->s'.heap.get? D=some (listOf vs.toArray n)->bw W.cl V' s'.heap.get? vs os fp->(D::fp).Nodup->(∀a∈D::fp,s.heap.get? a=none/\V' a=none)->
   s.heap.get? L=none->V' L=none->L∉D::fp->s'.heap.Ns L m->compPost (model W.prog W.w) A E use Q (.ref D) L (.ok .next) s'
theorem tv{tg:List Nat}{src q el:X}{g:b6->Option O}{l:List T}{os:List O}(isrc:hE W c n src)(iq:km W c n q)(ie:BV W n g el)(R:db sc)(hk:cG W.consts (.comp tg src q el) sc e=true)(hA:fD A n)(h:bM W sc env Y V ρ s)
  (h1:((ev c src ρ).bind O.t?).bind lB=some l) (h3:gQ (P9 c q) g tg ρ l=some os) {P:ag->Prop}
  (k:∀elt target iter ifs scope pos,(∀pos' use Q,MH W A E V s os use Q->wpAny (model W.prog W.w) A (comprehension (.ListComp elt [⟨target,iter,ifs,0⟩] scope pos) scope env pos' (newList []) false (eval iter env) use) Q E s)->P (.ListComp elt [⟨target,iter,ifs,0⟩] scope pos)):P e:=by
 refine GF (P:=P) hk λelt gs scope pos hk=>onO_ok (P:=λgs=>P (.ListComp elt gs scope pos)) hk λgg hk=> ?_
 obtain ⟨target,iter,ifs,as⟩:=gg
 obtain ⟨ns,ht,hk⟩:=dk hk
 refine aR hk λha hk=>aR hk λhc hk=>aR hk λhs hk=>aR hk λk1 hk=>aR hk λk2 k3=> ?_
 obtain rfl:as=0:=eq_of_beq ha
 obtain ⟨t,h1,h2⟩:=bind_some h1
 have C:=AM hc
 have R':=u_ R C
 exact k elt target iter ifs scope pos λpos' use Q fin=>LB hA.handled R h C ht hs (λE Q kk=>isrc.t R k1 h1 hA h kk) h2 h3
  (λenv ρ' b hf V s Y h' E Q kk=>FU R' iq k2 hA hf h' kk) (λenv ρ' o hg V s Y h' E Q kk=>ie _ _ R' k3 ρ' o hg A hA env Y V s h' E Q kk) fin
theorem MH.ext(x:iF V s V' s'){L:Addr}{h':Heap}(hs':iJ L s'.heap h')(hL:s.heap.get? L=none)(hVL:V' L=none):iF V s V' {s' with heap:=h'}:=by
 refine ⟨?_,x.le,λb o e=>hs'.extBut b o (λz=>by rw [z,hVL]at e;cases e) (x.sub b o e),x.new⟩
 obtain ⟨h1,k1,rfl,e1⟩:=x.keeps
 exact ⟨h',k1,rfl,λb o e=>hs'.extBut b o (λz=>by rw [z,hL]at e;cases e) (e1 b o e)⟩
theorem zo{os:List O}{Q:Value->Shared->Prop}(k:KF W V s (.lst os) Q):MH W A E V s os none Q:=λD L s' V' vs fp n m x hD rs nd hf hL hVL hLD hm=>
 ⟨m,hm,λh' hs'=>k _ _ V' (D::fp) (MH.ext x hs' hL hVL) (.lst D vs n os fp (hs'.extBut D _ (λq=>hLD (q▸ak)) hD) (rs.mono Le.rfl λb hb x e=>hs'.extBut b x (λq=>hLD (q▸ao _ hb)) e)) nd hf⟩
theorem Ln{tg:List Nat}{src q el:X}(isrc:hE W c n src)(iq:km W c n q)(ie:hE W c n el):hE W c n (.comp tg src q el):=by
 intro sc e R hk ρ o hv A hA env Y V s h E Q k
 obtain ⟨l,h1,hv⟩:=bind_some hv
 obtain ⟨ts,h3,rfl⟩:=aT hv
 refine tv (E:=E) (P:=G W A env Q E s) isrc iq ie.gen R hk hA h h1 (lg (u:=O.sh) h3) λelt target iter ifs scope pos kk=> ?_
 show wpAny _ A _ Q E s
 rw [arm_eval_ListComp]
 refine kk _ _ _ (zo λv s' V' fp x r nd hf=> ?_)
 obtain ⟨D,vs,n,f,rfl,rfl,e1,r⟩:=r
 obtain ⟨rs,rfl⟩:=r.shs
 exact k.t _ _ _ (x.freeze hf) (.list D vs n ts (by rw [oS (aN.mpr rfl)];exact e1) (rs.mono (oR λa ha=>(hf a ha).2)))
end
end
section
section
variable{W:Wd}{c:d5}{n:Nat}{A:Around}{E:Value->Shared->Prop}{s:Shared}{env:Env}{V V':aX}{sc:Sc}{ρ:b6}{Y:List Addr}{x a b:X}{e:ag}{s':Shared}
theorem JN(iv:hE W c n x)(hf:∀sc e,cG W.consts x sc e=true->re e=true)(he:∀ρ b,tst c x ρ=some b->((ev c x ρ).bind O.t?).bind bx=some b):km W c n x:=by
 intro sc e R hk ρ b hv A hA env Y V s h E Q k
 obtain ⟨t,h1,h2⟩:=bind_some (he _ _ hv)
 exact wpAny_isTrue_value (iv.t R hk h1 hA h λv s1 V1 x1 r1=>n8 x1.sub r1 _ h2 _ λtk=>k _ V1 (x1.trans (.toks x1.sub tk))) (AG (hf sc e hk))
@[reducible] noncomputable def Gt(W:Wd)(A:Around)(env:Env)(Q:Bool->Shared->Prop)(E:Value->Shared->Prop)(s:Shared)(e:ag):Prop:=wpAny (model W.prog W.w) A (isTrue e env (eval e env)) Q E s
theorem FQ(ia:km W c n a):km W c n (.nott a):=by
 intro sc e R hk ρ b hv A hA env Y V s h E Q k
 obtain ⟨t,h1,rfl⟩:=aT hv
 refine rm (P:=Gt W A env Q E s) hk λo x pos hk=>aR hk λho hk=> ?_
 rw [eq_of_beq ho]
 exact wpAny_isTrue_Not (ia sc _ R hk ρ t h1 A hA env Y V s h E _ k)
theorem FS(ia:km W c n a)(ib:km W c n b):km W c n (.andd a b):=by
 intro sc e R hk ρ q hv A hA env Y V s h E Q k
 obtain ⟨t,h1,hv⟩:=bind_some hv
 refine oe (P:=Gt W A env Q E s) hk λo l pos hk=>aR hk λho hk=>fH (P:=λl=>Gt W A env Q E s (.BoolOp o l pos)) hk λx l hk=>fH (P:=λl=>Gt W A env Q E s (.BoolOp o (x::l) pos)) hk λy r hk=>aR hk λk1 k2=> ?_
 rw [eq_of_beq ho]
 refine wpAny_isTrue_BoolOp (wpAny_allTrue_And_cons (ia sc x R k1 ρ t h1 A hA env Y V s h E _ λs1 V1 x1=> ?_))
 cases t with
 | false=>
  obtain rfl:=ah.inj hv
  exact k s1 V1 x1
 | true=>exact pS (ib sc _ R k2 ρ q hv A hA env Y V1 s1 (h.ext x1) E Q λs2 V2 x2=>k s2 V2 (x1.trans x2))
theorem JO(ia:km W c n a)(ib:km W c n b):km W c n (.orr a b):=by
 intro sc e R hk ρ q hv A hA env Y V s h E Q k
 obtain ⟨t,h1,hv⟩:=bind_some hv
 refine oe (P:=Gt W A env Q E s) hk λo l pos hk=>aR hk λho hk=>fH (P:=λl=>Gt W A env Q E s (.BoolOp o l pos)) hk λx l hk=>fH (P:=λl=>Gt W A env Q E s (.BoolOp o (x::l) pos)) hk λy r hk=>aR hk λk1 k2=> ?_
 rw [eq_of_beq ho]
 refine wpAny_isTrue_BoolOp (wpAny_allTrue_Or_cons (ia sc x R k1 ρ t h1 A hA env Y V s h E _ λs1 V1 x1=> ?_))
 cases t with
 | true=>
  obtain rfl:=ah.inj hv
  exact k s1 V1 x1
 | false=>exact pS (ib sc _ R k2 ρ q hv A hA env Y V1 s1 (h.ext x1) E Q λs2 V2 x2=>k s2 V2 (x1.trans x2))
theorem JP(op:zF)(ia:hE W c n a)(ib:hE W c n b):km W c n (.cmp op a b):=by
 intro sc e R hk ρ q hv A hA env Y V s h E Q k
 obtain ⟨ta,ha,hv⟩:=bind_some hv
 obtain ⟨tb,hb,ht⟩:=bind_some hv
 refine yQ (P:=Gt W A env Q E s) hk λl os rs pos hk=>onO_ok (P:=λos=>Gt W A env Q E s (.Compare l os rs pos)) hk λo hk=>onO_ok (P:=λrs=>Gt W A env Q E s (.Compare l [o] rs pos)) hk λr hk=>aR hk λho hk=>aR hk λhka hkb=> ?_
 rw [<-eq_of_beq ho]
 exact wpAny_isTrue_Compare1 (ia.t R hka ha hA h λva s1 V1 x1 r1=>ib.t R hkb hb hA (h.ext x1) λvb s2 V2 x2 r2=>Iv hA.u x2.sub op (r1.mono x2.le) r2 _ ht _ (wpAny_truthy_bool (k _ V2 (x1.trans x2)))) (CH _ _)
theorem Lh:sO W c n .nil:=by
 intro sc es R hk ρ ts hv A hA env Y V s h pos E Q k
 obtain rfl:=ah.inj hv
 exact fJ (P:=λes=>wpAny (model W.prog W.w) A (spliced (backTo pos (starEach es env))) Q E s) hk (wpAny_items_nil (k [] s V (.refl h.le) .nil))
theorem G7(ia:hE W c n a)(ib:sO W c n b):sO W c n (.cons a b):=by
 intro sc es R hk ρ ts hv A hA env Y V s h pos E Q k
 obtain ⟨t,ha,hv⟩:=bind_some hv
 obtain ⟨l,hb,rfl⟩:=aT hv
 exact fH (P:=λes=>wpAny (model W.prog W.w) A (spliced (backTo pos (starEach es env))) Q E s) hk λe es hk=>aR hk λk0 hk=>aR hk λk1 k2=>
  wpAny_items_cons (ia.t R k1 ha hA h λva s1 V1 x1 r1=>ib sc _ R k2 ρ l hb A hA env Y V1 s1 (h.ext x1) pos E _ λvs s2 V2 x2 r2=>k (va::vs) s2 V2 (x1.trans x2) (.cons (r1.mono x2.le) r2)) (cF k0)
theorem CG(he:∀ρ,ev c x ρ=none):hE W c n x:=λ_ _ _ _ ρ o hv=>no ((he ρ).symm.trans hv)
theorem s9(he:∀ρ,tst c x ρ=none):km W c n x:=λ_ _ _ _ ρ o hv=>no ((he ρ).symm.trans hv)
theorem jv(he:∀ρ,o7 c x ρ=none):sO W c n x:=λ_ _ _ _ ρ o hv=>no ((he ρ).symm.trans hv)
structure XP(W:Wd)(c:d5)(n:Nat)(x:X):Prop where
 e:hE W c n x
 t:km W c n x
 s:sO W c n x
theorem XP.ev(h:hE W c n x)(ht:∀ρ,tst c x ρ=none)(hs:∀ρ,o7 c x ρ=none):XP W c n x:=⟨h,s9 ht,jv hs⟩
theorem XP.va(h:hE W c n x)(hf:∀sc e,cG W.consts x sc e=true->re e=true)(he:∀ρ b,tst c x ρ=some b->((TI.ev c x ρ).bind O.t?).bind bx=some b)(hs:∀ρ,o7 c x ρ=none):XP W c n x:=⟨h,JN h hf he,jv hs⟩
@[reducible] noncomputable def vf(e:ag):Prop:=re e=true
theorem IP(OK:W.Ok)(oc:fm W n c)(x:X):XP W c n x:=by
 induction x with
 | lit t=>exact .ev (Pj t) (λ_=>rfl) λ_=>rfl
 | glob x t=>exact .ev (Lm OK x t) (λ_=>rfl) λ_=>rfl
 | var i=>exact .va (Pd i) (λsc e h=>dL (P:=vf) h λ_ _ _=>rfl) (λρ b h=>h) λ_=>rfl
 | bin op a b ia ib=>exact .va (Pp op ia.e ib.e) (λsc e h=>s7 (P:=vf) h λ_ _ _ _ _=>rfl) (λρ q h=>by
   obtain ⟨t,h,h'⟩:=bind_some h
   obtain ⟨y,h1,h⟩:=bind_some h
   obtain ⟨z,h2,h⟩:=bind_some h
   show ((((TI.ev c a ρ).bind O.t?).bind λx=>((TI.ev c b ρ).bind O.t?).bind λy=>mP (bK op x y)).bind O.t?).bind bx=some q
   rw [h1,cY,h2,cY,h];exact h') λ_=>rfl
 | neg a ia=>exact .ev (Pi ia.e) (λ_=>rfl) λ_=>rfl
 | inv a ia=>exact .ev (Pm ia.e) (λ_=>rfl) λ_=>rfl
 | nott a ia=>exact ⟨Li ia.e,FQ ia.t,jv λ_=>rfl⟩
 | andd a b ia ib=>exact ⟨Lq ia.e ib.e,FS ia.t ib.t,jv λ_=>rfl⟩
 | orr a b ia ib=>exact ⟨Pg ia.e ib.e,JO ia.t ib.t,jv λ_=>rfl⟩
 | cmp op a b ia ib=>exact ⟨Po op ia.e ib.e,JP op ia.e ib.e,jv λ_=>rfl⟩
 | ite q a b iq ia ib=>exact .ev (Pl iq.t ia.e ib.e) (λ_=>rfl) λ_=>rfl
 | attr a k ia=>exact .va (Lp OK k ia.e) (λsc e h=>iz (P:=vf) h λ_ _ _ _=>rfl) (λρ b h=>h) λ_=>rfl
 | idx a i ia ii=>exact .va (Pn ia.e ii.e) (λsc e h=>jr (P:=vf) h λ_ _ _ _=>rfl) (λρ b h=>h) λ_=>rfl
 | slc a lo hi ia il ih=>exact .ev (Pf ia.e il.e ih.e) (λ_=>rfl) λ_=>rfl
 | list a ia=>exact .ev (Ll ia.s) (λ_=>rfl) λ_=>rfl
 | tup a ia=>exact .ev (Pe ia.s) (λ_=>rfl) λ_=>rfl
 | nil=>exact ⟨CG λ_=>rfl,s9 λ_=>rfl,Lh⟩
 | cons a r ia ir=>exact ⟨CG λ_=>rfl,s9 λ_=>rfl,G7 ia.e ir.s⟩
 | call f a ia=>exact .va (Lo OK oc f ia.s) (λsc e h=>iy (P:=vf) h λ_ _ _ _ _=>rfl) (λρ b h=>by
   obtain ⟨t,h,h'⟩:=bind_some h
   obtain ⟨y,h1,h⟩:=bind_some h
   show (((o7 c a ρ).bind λl=>mP (c.call f l)).bind O.t?).bind bx=some b
   rw [h1,cY,h];exact h') λ_=>rfl
 | new f a ia=>exact .ev (Ph OK oc f ia.s) (λ_=>rfl) λ_=>rfl
 | bi b a ia=>exact .ev (RA OK b ia.s) (λ_=>rfl) λ_=>rfl
 | meth m o a io ia=>exact .ev (Lj m io.e ia.e) (λ_=>rfl) λ_=>rfl
 | comp tg src q e is iq ie=>exact .ev (Ln is.e iq.t ie.e) (λ_=>rfl) λ_=>rfl
theorem iH(OK:W.Ok)(oc:fm W n c)(x:X):hE W c n x:=(IP OK oc x).e
theorem tI(OK:W.Ok)(oc:fm W n c)(x:X):km W c n x:=(IP OK oc x).t
theorem Iq(OK:W.Ok)(oc:fm W n c)(x:X):sO W c n x:=(IP OK oc x).s
end
end
section
@[reducible] noncomputable def UU(W:Wd)(V:aX)(s:Shared)(os:List O)(Q:List Value->Shared->Prop):Prop:=∀vs s' V' fp,iF V s V' s'->bw W.cl V' s'.heap.get? vs os fp->fp.Nodup->(∀a∈fp,s.heap.get? a=none/\V' a=none)->Q vs s'
@[reducible] noncomputable def xO(W:Wd)(c:d5)(n:Nat)(x:X):Prop:=BV W n (uA c x) x
noncomputable def xg(W:Wd)(c:d5)(n:Nat)(x:X):Prop:=∀sc es,db sc->qM W.consts x sc es=true->∀ρ os,BG c x ρ=some os->∀A,fD A n->∀env Y V s,bM W sc env Y V ρ s->∀(pos:Pos) (E:Value->Shared->Prop) (Q:List Value->Shared->Prop),UU W V s os Q->
 wpAny (model W.prog W.w) A (spliced (backTo pos (starEach es env))) Q E s
section
variable{W:Wd}{c:d5}{n:Nat}{A:Around}{E:Value->Shared->Prop}{s:Shared}{env:Env}{V V':aX}{sc:Sc}{ρ:b6}{Y:List Addr}{x a b:X}{e:ag}{s':Shared}
theorem ng(ih:hE W c n x)(hf:∀ρ,uA c x ρ=((ev c x ρ).bind O.t?).map .sh):xO W c n x:=by
 show BV W n (uA c x) x
 rw [show uA c x=_ from funext hf];exact ih.gen
theorem G9{cs:List (Str×T)}{x:X}{sc:Sc}{es:List ag}{ts:List O}(h:qM cs x sc es=true):BG c x ρ=some ts->ts.length=es.length:=
 ty (P:=λx es=>∀ts,BG c x ρ=some ts->ts.length=es.length) (λts k=>by cases ah.inj k;rfl) (λa r e es _ _ _ ih ts k=>by
  obtain ⟨t,_,k⟩:=bind_some k
  obtain ⟨l,k',rfl⟩:=aT k
  exact congrArg (· +1) (ih l k')) x es h ts
theorem KF.push{vs:List Value}{os:List O}{fp:List Addr}{Q:Value->Shared->Prop}(q:KF W V s (.lst os) Q)(x:iF V s V' s')(r:bw W.cl V' s'.heap.get? vs os fp)(nd:fp.Nodup)(hf:∀a∈fp,s.heap.get? a=none/\V' a=none):
  Q (.ref s'.heap.objs.size) {s' with heap:=s'.heap.push (listOf vs.toArray 0)}:=by
 have hD:=gc s'.heap
 have kp:∀b o,s'.heap.get? b=some o->(s'.heap.push (listOf vs.toArray 0)).get? b=some o:=λb o e=>aV _ e
 exact q _ _ V' (s'.heap.objs.size::fp) (x.trans (iF.heap (k:=s'.toks) x.sub kp)) (.lst _ vs 0 os fp (bD _ rfl) (r.mono Le.rfl λb _ x e=>kp b x e))
  (aQ.mpr ⟨λm=>let ⟨o,e⟩:=r.alive _ m;(nomatch hD.symm.trans e),nd⟩) λa ha=>(aG.mp ha).elim (λz=>z▸⟨ol x hD,Tn x.sub hD⟩) (hf a)
theorem G_(ia:xg W c n a):xO W c n (.list a):=by
 intro sc e R hk ρ o hv A hA env Y V s h E Q q
 obtain ⟨os,ha,rfl⟩:=aT hv
 refine yO (P:=G W A env Q E s) hk λes pos hk=>aR hk λk1 k2=>wpAny_List (ia sc es R k1 ρ os ha A hA env Y V s h pos E _ λvs s1 V1 fp x1 r1 nd hf=>⟨?_,KF.push q x1 r1 nd hf⟩)
 have:=G9 k1 ha;have:=r1.length;have:=of_decide_eq_true k2;rw [sizeLine_eq];omega
theorem Ls(OK:W.Ok)(oc:fm W n c){e':X}:BV W n (λρ=>((ev c e' ρ).bind O.t?).bind λx=>((ev c b ρ).bind O.int?).bind λk=>if -1000<=k/\k<=1000 then some (.lst (aw k.toNat (.sh x)))else ae) (.bin .mul (.list (.cons e' .nil)) b):=by
 intro sc e R hk ρ o hv A hA env Y V s h E Q q
 obtain ⟨t,h1,hv⟩:=bind_some hv
 obtain ⟨k,h2,hv⟩:=bind_some hv
 obtain ⟨h3,hv⟩:(-1000<=k/\k<=1000)/\(O.lst (aw k.toNat (.sh t)))=o:=by
  by_cases h3: -1000<=k/\k<=1000
  ·rw [if_pos h3]at hv;exact ⟨h3,ah.inj hv⟩
  ·rw [if_neg h3]at hv;exact no hv
 subst hv
 have hl:(ev c (.list (.cons e' .nil)) ρ).bind O.t? =some (.list [t]):=by
  show ((((((ev c e' ρ).bind O.t?).bind λx=>(some []).map (x:: ·)).map λl=>O.sh (.list l))).bind O.t?)=_
  rw [h1];rfl
 refine s7 (P:=G W A env Q E s) hk λl o r pos hk=>aR hk λho hk=>aR hk λhka hkb=> ?_
 rw [<-eq_of_beq ho]
 refine wpAny_BinOp ((iH OK oc _).t R hka hl hA h λva s1 V1 x1 r1=>(iH OK oc b).i R hkb h2 hA (h.ext x1) λtk s2 V2 x2=> ?_)
 obtain ⟨ad,vs,m,rfl,ea,v0,vs0,rfl,a1,rfl⟩:=r1
 refine uW (x2.sub _ _ (x2.le _ _ ea)) h3.1 h3.2 λvs' e=> ?_
 subst e
 refine KF.push (fp:=[]) q (x1.trans x2) ?_ bL λa ha=>nomatch ha
 have:=bw.ofReps (g:=s2.heap.get?) (bA.replicate (a1.mono x2.le) k.toNat)
 rwa [HF]at this
theorem Lu(OK:W.Ok)(oc:fm W n c)(op:n6):xO W c n (.bin op a b):=by
 cases op with
 | mul=>
  cases a with
  | list a=>
   cases a with
   | cons e r=>
    cases r with
    | nil=>exact Ls OK oc
    | _=>exact ng (iH OK oc _) λρ=>rfl
   | _=>exact ng (iH OK oc _) λρ=>rfl
  | _=>exact ng (iH OK oc _) λρ=>rfl
 | _=>exact ng (iH OK oc _) λρ=>rfl
theorem Ha{tg:List Nat}{src q el:X}(isrc:hE W c n src)(iq:km W c n q)(ie:xO W c n el):xO W c n (.comp tg src q el):=by
 intro sc e R hk ρ o hv A hA env Y V s h E Q k
 obtain ⟨l,h1,hv⟩:=bind_some hv
 obtain ⟨os,h3,rfl⟩:=aT hv
 refine tv (E:=E) (P:=G W A env Q E s) isrc iq ie R hk hA h h1 h3 λelt target iter ifs scope pos kk=> ?_
 show wpAny _ A _ Q E s
 rw [arm_eval_ListComp]
 exact kk _ _ _ (zo k)
theorem G8:xg W c n .nil:=by
 intro sc es R hk ρ ts hv A hA env Y V s h pos E Q k
 obtain rfl:=ah.inj hv
 exact fJ (P:=λes=>wpAny (model W.prog W.w) A (spliced (backTo pos (starEach es env))) Q E s) hk (wpAny_items_nil (k [] s V [] (.refl h.le) .nil bL λa ha=>nomatch ha))
theorem Ew(ia:xO W c n a)(ib:xg W c n b):xg W c n (.cons a b):=by
 intro sc es R hk ρ ts hv A hA env Y V s h pos E Q k
 obtain ⟨t,ha,hv⟩:=bind_some hv
 obtain ⟨l,hb,rfl⟩:=aT hv
 exact fH (P:=λes=>wpAny (model W.prog W.w) A (spliced (backTo pos (starEach es env))) Q E s) hk λe es hk=>aR hk λk0 hk=>aR hk λk1 k2=>
  wpAny_items_cons (ia sc _ R k1 ρ t ha A hA env Y V s h E _ λva s1 V1 f1 x1 r1 n1 hf1=>ib sc _ R k2 ρ l hb A hA env Y V1 s1 (h.ext x1) pos E _ λvs s2 V2 f2 x2 r2 n2 hf2=>
   k (va::vs) s2 V2 (f1++f2) (x1.trans x2) (.cons (r1.mono x2.le λb _ o e=>aS x2.keeps b o e) r2) (be.mpr ⟨n1,n2,λa h1 b h2 q=>let ⟨o,e⟩:=r1.alive a h1;nomatch ((hf2 a (q▸h2)).1.symm.trans e:none=some o)⟩) λa ha=>
    (aP.mp ha).elim (λha=>⟨(hf1 a ha).1,gG x2 (hf1 a ha).2 (r1.alive a ha)⟩) λha=>⟨ol x1 (hf2 a ha).1,(hf2 a ha).2⟩) (cF k0)
theorem jm(he:∀ρ,BG c x ρ=none):xg W c n x:=λ_ _ _ _ ρ o hv=>no ((he ρ).symm.trans hv)
theorem Lr(OK:W.Ok)(oc:fm W n c)(f:Nat):xO W c n (.new f a):=by
 intro sc e R hk ρ o hv A hA env Y V s h E Q q
 obtain ⟨ts,ha,ho⟩:=bind_some hv
 exact CJ OK oc f (Iq OK oc a) R hk ha ho hA h q
theorem NR(OK:W.Ok)(oc:fm W n c)(x:X):xO W c n x/\xg W c n x:=by
 induction x with
 | list a ia=>exact ⟨G_ ia.2,jm λ_=>rfl⟩
 | bin op a b _ _=>exact ⟨Lu OK oc op,jm λ_=>rfl⟩
 | comp tg src q e _ _ ie=>exact ⟨Ha (iH OK oc src) (tI OK oc q) ie.1,jm λ_=>rfl⟩
 | new f a _=>exact ⟨Lr OK oc f,jm λ_=>rfl⟩
 | nil=>exact ⟨ng (iH OK oc _) λρ=>rfl,G8⟩
 | cons a r ia ir=>exact ⟨ng (iH OK oc _) λρ=>rfl,Ew ia.1 ir.2⟩
 | _=>exact ⟨ng (iH OK oc _) λρ=>rfl,jm λ_=>rfl⟩
theorem BH(OK:W.Ok)(oc:fm W n c)(x:X):xO W c n x:=(NR OK oc x).1
end
end
section
structure JG(V g:aX)(fp f:List Addr)(V' g':aX)(f':List Addr):Prop where
 le:Le V V'
 keep:∀b∈fp,b∉f->∀x,g b=some x->g' b=some x
 nd:f'.Nodup
 old:∀b∈f',b∈fp->b∈f
structure JH(fp f f' fp':List Addr):Prop where
 nd:fp'.Nodup
 sub:∀b∈fp',b∈f'\/(b∈fp/\b∉f)
section
variable{cl:Nat->Addr}{V V' V1 V2 g g' g1 g2:aX}{fp f f' hd fpl own f2 fp' fp3:List Addr}
theorem JH.here(nd:(f++f2).Nodup)(nf:f'.Nodup)(ho:∀b∈f',b∈f++f2->b∈f):JH (f++f2) f f' (f'++f2):=
 have n3:=(be.mp nd).2.2
 ⟨be.mpr ⟨nf,(be.mp nd).2.1,λa ha b hb q=>n3 a (ho a ha (ay _ (q▸hb))) b hb q⟩,λb hb=>(aP.mp hb).imp id λhb=>⟨ay _ hb,λq=>n3 b q b hb rfl⟩⟩
theorem JH.up(nd:(hd++fpl).Nodup)(sf:∀b∈f,b∈fpl)(ho:∀b∈f',b∈hd++fpl->b∈f)(a:JH fpl f f' fp'):JH (hd++fpl) f f' (hd++fp'):=
 have n:=be.mp nd
 ⟨be.mpr ⟨n.1,a.nd,λx hx y hy q=>(a.sub y hy).elim (λz=>n.2.2 x hx y (sf y (ho y z (aF _ (q▸hx)))) q) λz=>n.2.2 x hx y z.1 q⟩,
  λb hb=>(aP.mp hb).elim (λhb=> .inr ⟨aF _ hb,λq=>n.2.2 b hb b (sf b q) rfl⟩) λhb=>(a.sub b hb).imp id λz=>⟨ay _ z.1,z.2⟩⟩
theorem JG.sub(z:JG V g fp f V' g' f')(h:∀b∈fpl,b∈fp):JG V g fpl f V' g' f':=⟨z.le,λb hb=>z.keep b (h b hb),z.nd,λb hb hb'=>z.old b hb (h b hb')⟩
theorem JG.back(z:JG V g fp f V' g' f')(h:Le V1 V)(hk:∀b o,g1 b=some o->g b=some o):JG V1 g1 fp f V' g' f':=⟨h.trans z.le,λb hb hn x e=>z.keep b hb hn x (hk b x e),z.nd,z.old⟩
theorem JG.up(nd:(hd++fpl).Nodup)(s0:∀b∈hd++fpl,b∈own)(sf:∀b∈f,b∈fpl)(z:JG V g own f V2 g2 f2)(a:JH fpl f f2 fp'):JG V g own (hd++fpl) V2 g2 (hd++fp'):=
 ⟨z.le,λb hb hn=>z.keep b hb λq=>hn (ay _ (sf b q)),(a.up nd sf λb hb hb'=>z.old b hb (s0 b hb')).nd,λb hb hi=>(aP.mp hb).elim (aF _) λhb=>ay _ ((a.sub b hb).elim (λq=>sf b (z.old b q hi)) QF)⟩
theorem JH.down(nd:(hd++fpl).Nodup)(s0:∀b∈hd++fpl,b∈own)(sf:∀b∈f,b∈fpl)(z:JG V g own f V2 g2 f2)(a:JH fpl f f2 fp')(w:JH own (hd++fpl) (hd++fp') fp3):JH own f f2 fp3:=
 ⟨w.nd,λb hb=>(w.sub b hb).elim (λh=>((a.up nd sf λb hb hb'=>z.old b hb (s0 b hb')).sub b h).imp id λq=>⟨s0 b q.1,q.2⟩) λh=> .inr ⟨h.1,λq=>h.2 (ay _ (sf b q))⟩⟩
theorem bw.set:∀{os:List O} {vs:List Value} {fp:List Addr} {j:Nat} {o:O},bw cl V g vs os fp->TI.nth os j=some o->fp.Nodup->
  ∃v f,vs[j]? =some v/\ce cl V g v o f/\(∀b∈f,b∈fp)/\f.Nodup/\∀(V' g':aX) u o' f',JG V g fp f V' g' f'->ce cl V' g' u o' f'->∃fp',bw cl V' g' (vs.set j u) (dp os j o') fp'/\JH fp f f' fp'
 |[],_,_,_,_,_,h,_=>no h
 | o0::os,_,_,0,o,⟨v,us,f1,f2,e,e',a,r⟩,h,nd=>by
  subst e;subst e'
  obtain rfl:=ah.inj h
  have n:=be.mp nd
  exact ⟨v,f1,rfl,a,λb=>aF _,n.1,λV' g' u o' f' z r'=>⟨f'++f2,.cons r' (r.mono z.le λb hb=>z.keep b (ay _ hb) λq=>n.2.2 b q b hb rfl),.here nd z.nd z.old⟩⟩
 | o0::os,_,_,j+1,o,⟨v0,us,f1,f2,e,e',a,r⟩,h,nd=>by
  subst e;subst e'
  have n:=be.mp nd
  obtain ⟨v,f,e,q,sb,nf,k⟩:=bw.set (os:=os) (j:=j) r h n.2.1
  refine ⟨v,f,e,q,λb hb=>ay _ (sb b hb),nf,λV' g' u o' f' z r'=> ?_⟩
  obtain ⟨fp',z1,z2⟩:=k V' g' u o' f' (z.sub λb=>ay _) r'
  exact ⟨f1++fp',.cons (a.mono z.le λb hb=>z.keep b (aF _ hb) λq=>n.2.2 b hb b (sb b q) rfl) z1,z2.up nd sb z.old⟩
theorem Da{o:O}:∀{ks:List Nat} {os:List O} {k:Nat},iw ks os k=some o->∃j,nth os j=some o/\ks[j]? =some k/\∀o',upd.setFld ks os k o'=(ks,dp os j o')
 |[],_,_,h=>no h
 | _::_,[],_,h=>no h
 | k'::ks,b::l,k,h=>by
  have h:(if k'=k then some b else iw ks l k)=some o:=h
  by_cases e:k'=k
  ·rw [if_pos e]at h
   exact ⟨0,h,congrArg some e,λo'=>if_pos e⟩
  ·rw [if_neg e]at h
   obtain ⟨j,h1,h2,h3⟩:=Da h
   refine ⟨j+1,h1,h2,λo'=>(if_neg e).trans ?_⟩
   rw [h3];rfl
theorem cX.at{es:List DictEntry}:∀{ks:List Nat} {vs:List Value} {j k:Nat},cX es ks vs->ks[j]? =some k->∃v,vs[j]? =some v/\getL (nm k) es=some (some v)
 |[],_,_,_,_,h=>by cases h
 | k'::ks,_,0,k,⟨v,us,e,e1,_⟩,h=>by subst e;obtain rfl:=ah.inj h;exact ⟨v,rfl,e1⟩
 | k'::ks,_,j+1,k,⟨v,us,e,_,r⟩,h=>by subst e;exact cX.at (ks:=ks) (vs:=us) (j:=j) r h
theorem sU{α:Type}:∀{l:List α} {j:Nat} {a:α},l[j]? =some a->l.set j a=l
 |[],_,_,_=>rfl
 | _::_,0,_,h=>by obtain rfl:=ah.inj h;rfl
 | b::l,j+1,_,h=>congrArg (b:: ·) (sU (l:=l) h)
theorem bw.fld{es:List DictEntry}{ks:List Nat}{vs:List Value}{os:List O}{k:Nat}{o:O}(F:cX es ks vs)(r:bw cl V g vs os fp)(h:iw ks os k=some o)(nd:fp.Nodup):
  ∃v f,getL (nm k) es=some (some v)/\ce cl V g v o f/\(∀b∈f,b∈fp)/\f.Nodup/\∀(V' g':aX) o' f',JG V g fp f V' g' f'->ce cl V' g' v o' f'->(upd.setFld ks os k o').1=ks/\∃fp',bw cl V' g' vs (upd.setFld ks os k o').2 fp'/\JH fp f f' fp':=by
 obtain ⟨j,h1,h2,h3⟩:=Da h
 obtain ⟨v,f,e,q,sb,nf,k⟩:=r.set h1 nd
 obtain ⟨v',e',gl⟩:=F.at h2
 obtain rfl:=ah.inj (e.symm.trans e')
 refine ⟨v,f,gl,q,sb,nf,λV' g' o' f' z r'=> ?_⟩
 rw [h3 o']
 have:=k V' g' v o' f' z r'
 rw [sU e]at this
 exact ⟨rfl,this⟩
end
end
section
theorem OF(hn:bY.Nodup){i j:Nat}(hi:i<bY.length)(hj:j<bY.length)(e:nm i=nm j):i=j:=by
 unfold nm at e
 rw [gB hi,gB hj]at e
 exact (L9 hn).mp e
theorem Eo{v:Value}{a b:Str}(h1:v.isStr a=true)(h2:v.isStr b=true):a=b:=by
 cases v with
 | str x t=>exact (beq_iff_eq.mp h1).symm.trans (beq_iff_eq.mp h2)
 | _=>cases h1
noncomputable def QL(y:Str)(es:List DictEntry)(u:Value):Prop:=∃e,es.find? (·.key.isStr y)=some e/\e.val=u
theorem oO{y:Str}{e:DictEntry}{r:List DictEntry}(h:e.key.isStr y=true):(e::r).find? (·.key.isStr y)=some e:=Aj h
theorem iE{y:Str}{e:DictEntry}{r:List DictEntry}(h:e.key.isStr y=false):(e::r).find? (·.key.isStr y)=r.find? (·.key.isStr y):=Ak (by rw [h];exact aO)
theorem lc{name:Str}{es:List DictEntry}{u:Value}:getL name es=some (some u)↔QL name es u:=by
 unfold getL QL
 cases es.find? (·.key.isStr name)with
 | some e=>exact ⟨λh=>⟨e,rfl,ah.inj (ah.inj h)⟩,λ⟨e',h,z⟩=>by cases h;rw [<-z]⟩
 | none=>exact ⟨λh=>(by dsimp only at h;split at h<;>cases h),λ⟨_,h,_⟩=>no h⟩
section
variable{name y:Str}{hsh:Int}{tk:Tok}{v u:Value}
theorem HU:∀{es:List DictEntry},QL name (putL name hsh (.str name tk) v es) v
 |[]=>⟨_,oO (by show (name==name)=true;exact beq_self_eq_true _),rfl⟩
 | e::r=>by
  show QL name (if e.key.isStr name then ⟨e.hash,e.key,v⟩::r else e::putL name hsh (.str name tk) v r) v
  by_cases h:e.key.isStr name=true
  ·rw [if_pos h];exact ⟨_,oO h,rfl⟩
  ·rw [if_neg h]
   obtain ⟨x,h1,h2⟩:=HU (es:=r)
   exact ⟨x,(iE (cQ.mpr h)).trans h1,h2⟩
theorem HT(hy:y≠name):∀{es:List DictEntry},QL y es u->QL y (putL name hsh (.str name tk) v es) u
 |[],⟨e,h,_⟩=>no h
 | e::r,⟨e',h,hu⟩=>by
  show QL y (if e.key.isStr name then ⟨e.hash,e.key,v⟩::r else e::putL name hsh (.str name tk) v r) u
  cases z:e.key.isStr y with
  | true=>
   rw [if_neg λq=>hy (Eo z q)]
   rw [oO z]at h
   exact ⟨e',(oO z).trans h,hu⟩
  | false=>
   rw [iE z]at h
   by_cases q:e.key.isStr name=true
   ·rw [if_pos q];exact ⟨e',(iE (e:=⟨e.hash,e.key,v⟩) z).trans h,hu⟩
   ·rw [if_neg q]
    obtain ⟨x,h1,h2⟩:=HT hy (es:=r) ⟨e',h,hu⟩
    exact ⟨x,(iE z).trans h1,h2⟩
theorem pX{es:List DictEntry}:getL name (putL name hsh (.str name tk) v es)=some (some v):=lc.mpr HU
theorem pW(hy:y≠name){es:List DictEntry}(h:getL y es=some (some u)):getL y (putL name hsh (.str name tk) v es)=some (some u):=lc.mpr (HT hy (lc.mp h))
theorem yG:∀{es:List DictEntry},(∀e∈es,e.refKey=false)->∀e∈putL name hsh (.str name tk) v es,e.refKey=false
 |[],_,e,he=>(aN.mp he)▸rfl
 | a::r,h,e,he=>by
  have he:e∈(if a.key.isStr name then ⟨a.hash,a.key,v⟩::r else a::putL name hsh (.str name tk) v r):=he
  by_cases q:a.key.isStr name=true
  ·rw [if_pos q]at he
   exact (aG.mp he).elim (λz=>z▸h a ak) λhe=>h e (ao _ he)
  ·rw [if_neg q]at he
   exact (aG.mp he).elim (λz=>z▸h a ak) (yG (λe he=>h e (ao _ he)) e)
theorem sY{k:Value}:∀{es:List DictEntry},(putL name hsh k v es).length<=es.length+1/\((∃u,QL name es u)->(putL name hsh k v es).length=es.length)
 |[]=>⟨aA _,λ⟨_,_,h,_⟩=>no h⟩
 | e::r=>by
  show (if e.key.isStr name then ⟨e.hash,e.key,v⟩::r else e::putL name hsh k v r).length<=_/\(_->(if e.key.isStr name then ⟨e.hash,e.key,v⟩::r else e::putL name hsh k v r).length=_)
  by_cases q:e.key.isStr name=true
  ·rw [if_pos q];exact ⟨mS _,λ_=>rfl⟩
  ·rw [if_neg q]
   have ih:=sY (k:=k) (es:=r)
   exact ⟨bf ih.1,λ⟨u,x,h,hu⟩=>congrArg (· +1) (ih.2 ⟨u,x,(iE (cQ.mpr q)).symm.trans h,hu⟩)⟩
end
section
variable{prog:Program}{w:World}{A:Around}{E:Value->Shared->Prop}{s:Shared}{K:Frag}
theorem wA{va vb:Value}{ta tb:T}{cl:Nat->Addr}{V:aX}(hV:Le V s.heap.get?)(ha:dw cl V va ta)(hb:dw cl V vb tb)(op:n6):Ok (nq op ta tb) (Wp cl V prog w A E s (inplaceOp op.py va vb)):=
 rI (Q:=λv=>Wp cl V prog w A E s (inplaceOp op.py v vb)) ha λa k=> .ite (λ_=> .none) λhm=>by
  have two:∀{f:Int->Option T},(∀b j,Ok (f b) (Wp cl V prog w A E s (inplaceOp op.py (.int a k) (.int b j))))->Ok (tb.onI f) (Wp cl V prog w A E s (inplaceOp op.py (.int a k) vb)):=λh=>rI (Q:=λv=>Wp cl V prog w A E s (inplaceOp op.py (.int a k) v)) hb h
  cases op
  ·exact two λb j=> .some λQ hQ=>P.iadd_int (kl hV hQ)
  ·exact two λb j=> .some λQ hQ=>P.isub_int (kl hV hQ)
  ·exact two λb j=> .if1 λq=> .some λQ hQ=>P.imul_int (kl hV hQ) (Ng q)
  ·exact two λb j=> .ite (λ_=> .none) λq=> .some λQ hQ=>ifloordiv_int (λe=>q (by rw [e];rfl)) (kl hV hQ) (A2 (Sy (by cases h:small b with | true=>rfl | false=>exact absurd (by rw [h];cases (b==0)<;>rfl) q)))
  ·exact absurd rfl hm
  ·exact two λb j=> .if1 λq=> .some λQ hQ=>by
    rw [aB,aB,decide_eq_true_iff,decide_eq_true_iff]at q
    have:=jI q.2
    exact ilshift_int q.1.1 (by omega) (kl hV hQ)
  ·exact two λb j=> .if1 λq=> .some λQ hQ=>irshift_int (of_decide_eq_true q) (kl hV hQ)
  ·exact two λb j=> .some λQ hQ=>iand_int (kl hV hQ)
  ·exact two λb j=> .some λQ hQ=>ior_int (kl hV hQ)
  ·exact two λb j=> .some λQ hQ=>ixor_int (kl hV hQ)
theorem Ap{C:Addr}{name:Str}(h:findIn K (.ref C) name=some none):takerIn K C name=some none:=by
 unfold takerIn;rw [h];rfl
theorem J6{dx x C:Addr}{es:List DictEntry}{n:Nat}{name:Str}{v:Value}{Q:Unit->Shared->Prop}(X:K.In s.heap)(hx:s.heap.get? x=some (instObj C dx))(hdx:s.heap.get? dx=some (dictOf es n))
  (hp:plainOver K C=true) (ht:findIn K (.ref C) name=some none) (hh:hasDictIn K C=true) (hs:findIn K (.ref C) "__setattr__"=some (some (.builtin "object.__setattr__"))) (hr:∀e∈es,e.refKey=false) (hz:es.length+1<=1000)
  (h:∀h' hsh tk k,iJ dx s.heap h'->h'.get? dx=some (dictOf (putL name hsh (.str name tk) v es) (putN name es n))->Q () {s with heap:=h',toks:=k}):
  wpAny (model prog w) A (setAttr (.ref x) name v) Q E s:=by
 have I:InstAt s.heap x (instObj C dx) C (some (dictOf es n)):=⟨hx,rfl,rfl,hdx⟩
 refine set_plain X I hs ?_
 have X':K.In ({s with toks:=s.toks+1}:Shared).heap:=X
 refine osa_open (s:={s with toks:=s.toks+1}) X' I hp (Ap ht) λb=> ?_
 obtain ⟨cd,hc,hd'⟩:=dk (show (clsIn K C).any (·.hasDict)=true from hh)
 refine wpAny_bind (wpAny_pure (wpAny_bind (wpAny_bind (wpAny_loadPart hx (wpAny_bind (Looks.here (s:={s with toks:=s.toks+1}) (looks_clsIn X' hc) ?_))))))
 rw [hd']
 refine wpAny_pure (a:=some dx) (wpAny_bind (wpAny_pure (wpAny_bind ?_)))
 unfold nsSet
 refine wpAny_bind (wpAny_bind (wpAny_askSetting (wpAny_pure (wpAny_bind (wpAny_mkText (wpAny_bind (wpAny_loadPart hdx ?_)))))))
 dsimp only
 have c:(!es.toArray.any (·.key.isStr name)&&es.toArray.any (·.refKey))=false:=by
  rw [<-Ju,<-Ju]
  show (!es.any _&&es.any _)=false
  rw [show es.any (·.refKey)=false from List.any_eq_false.mpr λe he=>by rw [hr e he];exact aO,bP]
 rw [aRefKeyMayBeTheName_at,c]
 have D':(s.heap.update dx (Obj.putName name (PyData.keyHash w.params name) (.str name (s.toks+1)) v)).get? dx=some (dictOf (putL name (PyData.keyHash w.params name) (.str name (s.toks+1)) v es) (putN name es n)):=by
  rw [ly _ hdx (by rw [putName_dict];rfl),putName_dict]
 refine wpAny_updatePart hdx ?_
 refine wpAny_bind (wpAny_lookBehind D' (pastItsLine_dict (by rw [aJ,sizeLine_eq];have:=(sY (name:=name) (hsh:=PyData.keyHash w.params name) (v:=v) (k:= .str name (s.toks+1)) (es:=es)).1;omega)) ?_)
 exact wpAny_pure (h _ _ _ _ (iJ.update ..) D')
theorem G6{l b:Addr}{vs us:List Value}{n m:Nat}{Q:Value->Shared->Prop}(hl:s.heap.get? l=some (listOf vs.toArray n))(hb:s.heap.get? b=some (listOf us.toArray m))(h1:vs.length<=1000)(h2:us.length<=1000)
  (h:∀h' k,iJ l s.heap h'->h'.get? l=some (listOf (vs++us).toArray k)->Q (.ref l) {s with heap:=h'}):wpAny (model prog w) A (inplaceOp .Add (.ref l) (.ref b)) Q E s:=by
 have ha:s.TypeIs (.ref l) "list":=⟨_,hl,rfl⟩
 have hb':s.TypeIs (.ref b) "list":=⟨_,hb,rfl⟩
 unfold inplaceOp
 refine wpAny_holding ?_
 have hfi:fillsInplaceSlot (.type "list") "add" (Operator.Add== .Add)=pure false:=by
  unfold fillsInplaceSlot
  show (typeLookup (.type "list") (dunderI "add")>>=λfi=>pure (fi.isSome&& !isSeqSlot fi))=pure false
  rw [F.slot_list_iadd.lookup];rfl
 have hsi:seqSlot? (.type "list") (dunderI "add")=pure (some (.builtin "list.__iadd__")):=by
  unfold seqSlot?
  rw [F.slot_list_iadd.lookup];rfl
 refine wpAny_bind (wpAny_typeOf ha (wpAny_bind (wpAny_of_eq hfi ?_)))
 show wpAny _ A (if false=true then _ else _) Q E s
 rw [if_neg aO]
 refine wpAny_bind (binaryOp1_none (nm:="add") ha hb' noFill_list_add ?_)
 refine wpAny_bind (wpAny_of_eq hsi ?_)
 refine wpAny_bind (wpAny_rule ?_)
 have hz:vs.toArray.size+us.toArray.size<=sizeLine:=by rw [sizeLine_eq,aJ,aJ];omega
 refine (call_meets F.slot_list_iadd ha F.entry_list_iadd (F.args_list_iadd_2 _ _) (AutoSeq1.list___iadd___list_list_0 l vs.toArray n b us.toArray m (extend_door hz) (an (bJ _ _) hz) (gm hz)) ⟨hl,hb,?_⟩)
 refine (h _ (if (vs.toArray++us.toArray).size==vs.toArray.size then n else n+1) (iJ.update ..) ?_)
 rw [ly _ hl (by rw [mapSeq_app];rfl),mapSeq_app,Fl]
end
end
section
@[reducible] noncomputable def Ft:=Nat->List Addr
noncomputable def nY(env:Env)(X:List Addr)(V:aX)(a:Addr):Prop:=V a=none/\a≠env.locals/\a∉X/\∀y c,env.cells.lookup y=some c->a≠c
structure cU(W:Wd)(sc:Sc)(env:Env)(X:List Addr)(V:aX)(ρ:b6)(fps:Ft)(s:Shared):Prop where
 eo:bM W sc env X V ρ s
 own:∀x i,sc.res.lookup x=some i->∀o,get ρ i=some o->∃v,b9 env s.heap x v/\ce W.cl V s.heap.get? v o (fps i)
 clear:∀i a,a∈fps i->nY env X V a/\∃o,s.heap.get? a=some o
 nodup:∀i,(fps i).Nodup
 disj:∀i j a,i≠j->a∈fps i->a∉fps j
noncomputable def qb(scope:Scope):Option Str:=match scope.names with
 |(x,_)::_=>if x==aa "self"||x==aa "pos" then some x else none
 |[]=>none
structure d8(fps:Ft)(env:Env)(V:aX)(s:Shared)(V':aX)(s':Shared)(fps':Ft):Prop where
 same:∃h' k,s'={s with heap:=h',toks:=k}
 le:Le V V'
 new:∀a o,V' a=some o->V a=some o\/s.heap.get? a=none\/∃i,a∈fps i
 keep:∀b o,b≠env.locals->(∀x c,env.cells.lookup x=some c->b≠c)->(∀i,b∉fps i)->s.heap.get? b=some o->s'.heap.get? b=some o
 fps:∀i a,a∈fps' i->s.heap.get? a=none\/∃j,a∈fps j
 pin:∀x,qb env.scope=some x->∀v,b9 env s.heap x v->b9 env s'.heap x v
section
variable{W:Wd}{A:Around}{E:Value->Shared->Prop}{s s' s'':Shared}{env:Env}{V V' V'':aX}{sc:Sc}{ρ ρ':b6}{X:List Addr}{fps fps' fps'':Ft}
theorem g4{g:aX}{a:Addr}{P:Prop}(al:∃o,g a=some o)(h:g a=none):P:=let ⟨_,e⟩:=al;nomatch h.symm.trans e
theorem kE{h h':Heap}(hL:∀o,h.get? env.locals=some o->h'.get? env.locals=some o)(hC:∀y c,env.cells.lookup y=some c->∀o,h.get? c=some o->h'.get? c=some o){z:Str}{u:Value}(l:b9 env h z u):b9 env h' z u:=by
 rcases l with ⟨l1,m,l2,l3⟩ |⟨l1,c,l2,l3⟩
 ·exact .inl ⟨l1,m,l2.at' hL,l3⟩
 ·obtain ⟨ob,c1,c2⟩:=l3
  exact .inr ⟨l1,c,l2,ob,hC z c l2 _ c1,c2⟩
theorem sj{h h':Heap}{a:Addr}(hL:a≠env.locals)(hC:∀y c,env.cells.lookup y=some c->a≠c)(hk:∀b o,b≠a->h.get? b=some o->h'.get? b=some o):∀z u,b9 env h z u->b9 env h' z u:=
 λ_ _ l=>kE (λo=>hk _ o (Ne.symm hL)) (λy c e o=>hk c o (Ne.symm (hC y c e))) l
theorem d8.refl:d8 fps env V s V s fps:=⟨⟨s.heap,s.toks,rfl⟩,Le.rfl,λ_ _ e=> .inl e,λ_ _ _ _ _ e=>e,λi a h=> .inr ⟨i,h⟩,λ_ _ _ l=>l⟩
theorem d8.ofExt(x:iF V s V' s'):d8 fps env V s V' s' fps:=
 ⟨let ⟨h,k,e,_⟩:=x.keeps;⟨h,k,e⟩,x.le,λa o e=>(x.new a o e).elim .inl λq=> .inr (.inl q),λb o _ _ _ e=>aS x.keeps b o e,λi a h=> .inr ⟨i,h⟩,λ_ _ _ l=>l.keeps (aS x.keeps)⟩
theorem d8.trans(x:d8 fps env V s V' s' fps')(al:∀a,(a=env.locals\/∃y,env.cells.lookup y=some a)->∃o,s'.heap.get? a=some o)(y:d8 fps' env V' s' V'' s'' fps''):d8 fps env V s V'' s'' fps'':=by
 have key:∀a,s'.heap.get? a=none->s.heap.get? a=none\/∃i,a∈fps i:=λa h=>by
  cases q:s.heap.get? a with
  | none=>exact .inl rfl
  | some o=>
   refine .inr (UY λhf=> ?_)
   exact nomatch h.symm.trans (x.keep a o (λe=>g4 (al a (.inl e)) h) (λz c e q=>g4 (al a (.inr ⟨z,q▸e⟩)) h) (λi hi=>hf ⟨i,hi⟩) q)
 refine ⟨?_,x.le.trans y.le,λa o e=>(y.new a o e).elim (x.new a o) λq=> .inr (q.elim (key a) λ⟨i,q⟩=>x.fps i a q),λb o h1 h2 h3 e=>y.keep b o h1 h2 (λi hi=>(x.fps i b hi).elim (λq=>nomatch q.symm.trans e) λ⟨j,q⟩=>h3 j q) (x.keep b o h1 h2 h3 e),λi a h=>(y.fps i a h).elim (key a) λ⟨j,q⟩=>x.fps j a q,
  λz hz v l=>y.pin z hz v (x.pin z hz v l)⟩
 obtain ⟨h1,k1,rfl⟩:=x.same
 obtain ⟨h2,k2,rfl⟩:=y.same
 exact ⟨h2,k2,rfl⟩
theorem cU.al(h:cU W sc env X V ρ fps s):∀a,(a=env.locals\/∃y,env.cells.lookup y=some a)->∃o,s.heap.get? a=some o:=λa q=>
 q.elim (λq=>q▸(let ⟨_,n⟩:=h.eo.loc;ju n)) λ⟨y,q⟩=>let ⟨⟨_,n⟩,_⟩:=h.eo.cellA y a q;eC n
theorem cU.ext(h:cU W sc env X V ρ fps s)(x:iF V s V' s'):cU W sc env X V' ρ fps s':=
 ⟨h.eo.ext x,λy i e o q=>let ⟨v,l,r⟩:=h.own y i e o q;⟨v,l.keeps (aS x.keeps),r.mono x.le λb _ o e=>aS x.keeps b o e⟩,
  λi a ha=>let ⟨c,o,e⟩:=h.clear i a ha;⟨⟨gG x c.1 ⟨o,e⟩,c.2⟩,o,aS x.keeps _ _ e⟩,h.nodup,h.disj⟩
noncomputable def gx(fps:Ft)(i:Nat)(fp:List Addr):Ft:=λj=>if j=i then fp else fps j
section
variable{i j:Nat}{fp:List Addr}{a:Addr}
theorem kR:gx fps i fp i=fp:=if_pos rfl
theorem jq(h:j≠i):gx fps i fp j=fps j:=if_neg h
theorem eN{P:Prop}(h:a∈gx fps i fp j)(k1:j=i->a∈fp->P)(k2:j≠i->a∈fps j->P):P:=by
 by_cases q:j=i
 ·rw [q,kR]at h;exact k1 q h
 ·rw [jq q]at h;exact k2 q h
end
theorem cU.set(h:cU W sc env X V ρ fps s){V':aX}(e':bM W sc env X V' ρ' s'){i:Nat}{fp:List Addr}(hfp:∀a∈fp,nY env X V' a/\(∃o,s'.heap.get? a=some o)/\∀j,j≠i->a∉fps j)(nd:fp.Nodup)
  (hal:∀j,j≠i->∀a∈fps j,nY env X V' a/\∃o,s'.heap.get? a=some o)
  (own:∀x j,sc.res.lookup x=some j->∀o,get ρ' j=some o->∃v,b9 env s'.heap x v/\ce W.cl V' s'.heap.get? v o (gx fps i fp j)):cU W sc env X V' ρ' (gx fps i fp) s':=
 ⟨e',own,λj a ha=>eN ha (λ_ ha=>⟨(hfp a ha).1,(hfp a ha).2.1⟩) λq ha=>hal j q a ha,λj=>by
  by_cases q:j=i
  ·rw [q,kR];exact nd
  ·rw [jq q];exact h.nodup j,
  λj k a hjk ha hb=>eN ha (λq ha=>eN hb (λq' _=>hjk (q.trans q'.symm)) λq' hb=>(hfp a ha).2.2 k q' hb) λq ha=>eN hb (λ_ hb=>(hfp a hb).2.2 j q ha) λ_ hb=>h.disj j k a hjk ha hb⟩
theorem cU.store(h:cU W sc env X V ρ fps s)(R:db sc){x:Str}{i:Nat}{v:Value}{o:O}{fp:List Addr}{Q:Unit->Shared->Prop}(hi:sc.res.lookup x=some i)(hk:TI.kd sc x=some .local\/TI.kd sc x=some .cell)
  (r:ce W.cl V s.heap.get? v o fp) (nd:fp.Nodup) (hfp:∀a∈fp,nY env X V a/\∀j,j≠i->a∉fps j)
  (q:∀h' k,cU W sc env X V (fO ρ i o) (gx fps i fp) {s with heap:=h',toks:=k}->lj env x s.heap h'/\(∀y u,y≠x->b9 env s.heap y u->b9 env h' y u)->Q () {s with heap:=h',toks:=k}):wpAny (model W.prog W.w) A (storeName env x v) Q E s:=by
 refine h.eo.store R hi hk r (λa ha=>(hfp a ha).1) λh' k e' un lx lo=> ?_
 have keep:∀a,nY env X V a->∀o,s.heap.get? a=some o->h'.get? a=some o:=λa c o e=>un a o c.2.1 (λc' e'=>c.2.2.2 x c' e') e
 refine q h' k (h.set e' (λa ha=>⟨(hfp a ha).1,(r.alive a ha).imp λo e=>keep a (hfp a ha).1 o e,(hfp a ha).2⟩) nd (λj hj a ha=>⟨(h.clear j a ha).1,(h.clear j a ha).2.imp λo e=>keep a (h.clear j a ha).1 o e⟩) λy j e o' g=> ?_) ⟨un,lo⟩
 rcases wB g with ⟨q1,q2⟩ |⟨q1,q2⟩
 ·subst q1;subst q2
  obtain rfl:=R.1 y x _ e hi
  rw [kR]
  exact ⟨v,lx,r.mono Le.rfl λb hb x e=>keep b (hfp b hb).1 x e⟩
 ·rw [jq (Ne.symm q1)]
  obtain ⟨u,l,r'⟩:=h.own y j e o' q2
  exact ⟨u,lo y u (λz=>q1 (ah.inj (hi.symm.trans (z▸e)))) l,r'.mono Le.rfl λb hb x e=>keep b (h.clear j b hb).1 x e⟩
theorem d8.store{x:Str}{h':Heap}{k i:Nat}{fp:List Addr}(un:lj env x s.heap h'/\∀y u,y≠x->b9 env s.heap y u->b9 env h' y u)(hp:qb env.scope≠some x)(hfp:∀a∈fp,s.heap.get? a=none\/∃j,a∈fps j):d8 fps env V s V {s with heap:=h',toks:=k} (gx fps i fp):=
 ⟨⟨h',k,rfl⟩,Le.rfl,λ_ _ e=> .inl e,λb o h1 h2 _ e=>un.1 b o h1 (λc e=>h2 x c e) e,λj a ha=>eN ha (λ_=>hfp a) λ_ ha=> .inr ⟨j,ha⟩,λz hz v l=>un.2 z v (λq=>hp (q▸hz)) l⟩
theorem cU.io(h:cU W sc env X V ρ fps s)(R:db sc){x:Str}{y:Nat}{v0:Value}{o:TI.O}{fp':List Addr}(hx:sc.res.lookup x=some y)(hl:b9 env s'.heap x v0)(same:∃h' k,s'={s with heap:=h',toks:=k})(le:Le V V')(sub:Le V' s'.heap.get?)
  (new:∀a o,V' a=some o->V a=some o\/s.heap.get? a=none\/a∈fps y) (keep:∀b o,b∉fps y->s.heap.get? b=some o->s'.heap.get? b=some o) (r:ce W.cl V' s'.heap.get? v0 o fp') (nd:fp'.Nodup) (hfp:∀a∈fp',V' a=none/\(s.heap.get? a=none\/a∈fps y)):
  cU W sc env X V' (fO ρ y o) (gx fps y fp') s'/\d8 fps env V s V' s' (gx fps y fp'):=by
 have nV:∀a,V a=none->(∃o,s.heap.get? a=some o)->a∉fps y->V' a=none:=λa hv al hn=>by
  cases q:V' a with
  | none=>rfl
  | some o'=>exact (new a o' q).elim (λz=>nomatch hv.symm.trans z) λz=>z.elim (g4 al) λz=>absurd z hn
 have offL:env.locals∉fps y:=λz=>(h.clear y _ z).1.2.1 rfl
 have offC:∀z d,env.cells.lookup z=some d->d∉fps y:=λz d e q=>(h.clear y d q).1.2.2.2 z d e rfl
 have offX:∀b∈X,b∉fps y:=λb hb q=>(h.clear y b q).1.2.2.1 hb
 have offF:∀j,j≠y->∀b∈fps j,b∉fps y:=λj hj b hb q=>h.disj j y b hj hb q
 have hld:∀z u,b9 env s.heap z u->b9 env s'.heap z u:=λz u l=>kE (λo=>keep _ o offL) (λw c e o=>keep c o (offC w c e)) l
 have own:∀z j,sc.res.lookup z=some j->∀o',get (fO ρ y o) j=some o'->∃v,b9 env s'.heap z v/\ce W.cl V' s'.heap.get? v o' (gx fps y fp' j):=λz j e o' g=>by
  rcases wB g with ⟨q1,q2⟩ |⟨q1,q2⟩
  ·subst q1;subst q2
   obtain rfl:=R.1 z x _ e hx
   rw [kR]
   exact ⟨v0,hl,r⟩
  ·rw [jq (Ne.symm q1)]
   obtain ⟨u,l,r'⟩:=h.own z j e o' q2
   exact ⟨u,hld _ _ l,r'.mono le λb hb x e=>keep b x (offF j (Ne.symm q1) b hb) e⟩
 have fresh:∀{d:Addr},(∃o,s.heap.get? d=some o)->d∉fps y->d∉fp':=λ{d} al hn hd=>(hfp d hd).2.elim (g4 al) hn
 have c1:∀b∈fp',nY env X V' b/\∃o,s'.heap.get? b=some o:=λb hb=>
  ⟨⟨(hfp b hb).1,λq=>fresh (h.al _ (.inl q)) (q▸offL) hb,λq=>fresh (h.eo.xs b q).2 (offX b q) hb,λz d e q=>fresh (h.al _ (.inr ⟨z,q▸e⟩)) (q▸offC z d e) hb⟩,r.alive b hb⟩
 have c2:∀j,j≠y->∀b∈fps j,nY env X V' b/\∃o,s'.heap.get? b=some o:=λj hj b hb=>let ⟨c,ob,e⟩:=h.clear j b hb;⟨⟨nV b c.1 ⟨ob,e⟩ (offF j hj b hb),c.2⟩,ob,keep b ob (offF j hj b hb) e⟩
 refine ⟨h.set ⟨h.eo.kind,h.eo.scope,h.eo.glb,h.eo.blt,h.eo.base.trans le,sub,λj hj=> ?_,?_,nV _ h.eo.locV (h.al _ (.inl rfl)) offL,h.eo.locX,h.eo.cells,λz d e=> ?_,h.eo.apart,λb hb=> ?_,λz j e o' g=> ?_⟩ (λb hb=>⟨(c1 b hb).1,(c1 b hb).2,λj hj hb'=>fresh (h.clear j b hb').2 (offF j hj b hb') hb⟩) nd c2 own,
  ⟨same,le,λa o e=>(new a o e).imp id λz=>z.imp id λz=>⟨y,z⟩,λb o _ _ h3 e=>keep b o (h3 y) e,λj b hb=>eN hb (λ_ hb=>(hfp b hb).2.imp id λz=>⟨y,z⟩) λ_ hb=> .inr ⟨j,hb⟩,λz _ v l=>hld z v l⟩⟩
 ·rw [gb (cM (bR (R.2 x y hx) hj))];exact h.eo.top j hj
 ·obtain ⟨m,nn⟩:=h.eo.loc;exact ⟨m,nn.at' λo e=>keep _ o offL e⟩
 ·obtain ⟨⟨u,ob,k1,k2⟩,d1,d2⟩:=h.eo.cellA z d e
  exact ⟨⟨u,ob,keep _ _ (offC z d e) k1,k2⟩,nV d d1 ⟨ob,k1⟩ (offC z d e),d2⟩
 ·obtain ⟨k1,ob,e⟩:=h.eo.xs b hb
  exact ⟨nV b k1 ⟨ob,e⟩ (offX b hb),ob,keep b ob (offX b hb) e⟩
 ·obtain ⟨u,l,r⟩:=own z j e o' g
  exact ⟨u,_,l,r,λb hb=>eN hb (λ_ hb=>(c1 b hb).1) λq hb=>(c2 j q b hb).1⟩
theorem cU.mut(h:cU W sc env X V ρ fps s)(x:iF V s V' s')(R:db sc){y:Str}{i:Nat}{v:Value}{o':O}{fp:List Addr}{h':Heap}{k:Nat}{a:Addr}(hi:sc.res.lookup y=some i)(ha:a∈fps i)(hk:∀b o,b≠a->s'.heap.get? b=some o->h'.get? b=some o)
  (l:b9 env s'.heap y v) (r:ce W.cl V' h'.get? v o' fp) (nd:fp.Nodup) (hfp:∀b∈fp,V' b=none/\(s.heap.get? b=none\/b∈fps i)):cU W sc env X V' (fO ρ i o') (gx fps i fp) {s' with heap:=h',toks:=k}/\d8 fps env V s V' {s' with heap:=h',toks:=k} (gx fps i fp):=
 have ca:=((h.ext x).clear i a ha).1
 h.io (s':={s' with heap:=h',toks:=k}) R hi (sj ca.2.1 ca.2.2.2 hk _ _ l) (let ⟨_,_,e,_⟩:=x.keeps;⟨h',k,by rw [e]⟩) x.le (λb o e=>hk b o (λq=>nomatch (q▸ca.1).symm.trans e) (x.sub b o e)) (λa o e=>(x.new a o e).imp id .inl) (λb o hn e=>hk b o (λq=>hn (q▸ha)) (aS x.keeps b o e)) r nd hfp
theorem cU.frz(h:cU W sc env X V ρ fps s)(R:db sc){x:Str}{i:Nat}{o:O}(hg:get ρ i=some o)(hx:sc.res.lookup x=some i):cU W sc env X (vR V s.heap (fps i)) (fO ρ i (.sh o.toT)) (gx fps i []) s/\d8 fps env V s (vR V s.heap (fps i)) s (gx fps i []):=by
 have le:Le V (vR V s.heap (fps i)):=oR λa ha=>(h.clear i a ha).1.1
 obtain ⟨v,l,r⟩:=h.own x i hx o hg
 have ad:∀b o,vR V s.heap (fps i) b=some o->(b∈fps i/\s.heap.get? b=some o)\/V b=some o:=λb o e=>by
  by_cases q:b∈fps i
  ·exact .inl ⟨q,(oS q).symm.trans e⟩
  ·exact .inr ((if_neg q).symm.trans e)
 exact h.io R hx l ⟨s.heap,s.toks,rfl⟩ le (λb o e=>(ad b o e).elim And.right (h.eo.le b o)) (λa o e=>(ad a o e).elim (λq=> .inr (.inr q.1)) .inl) (λb o _ e=>e) (.sh (r.freeze le λa ha o e=>(oS ha).trans e)) bL λa ha=>nomatch ha
end
end
section
noncomputable def pA:X->Option Nat
 | .var i=>some i
 | .attr a _=>pA a
 | .idx a _=>pA a
 | _=>none
noncomputable def T8(W:Wd)(c:d5)(a:X)(ρ:b6)(i:Nat)(own:List Addr)(V g:aX)(v0 v:Value)(f:List Addr):Prop:=
 ∀(V2 g2:aX) (r':O) (f':List Addr),JG V g own f V2 g2 f'->ce W.cl V2 g2 v r' f'->∀ρ',upd c a ρ r'=some ρ'->∃o' fp',ρ'=fO ρ i o'/\ce W.cl V2 g2 v0 o' fp'/\JH own f f' fp'
structure S1(W:Wd)(c:d5)(sc:Sc)(env:Env)(a:X)(ρ:b6)(i:Nat)(own:List Addr)(r:O)(V:aX)(s:Shared)(v:Value)(V':aX)(s':Shared)(f:List Addr):Prop where
 ext:iF V s V' s'
 rep:ce W.cl V' s'.heap.get? v r f
 sub:∀b∈f,b∈own
 nd:f.Nodup
 rp:∃x v0,sc.res.lookup x=some i/\b9 env s.heap x v0/\T8 W c a ρ i own V' s'.heap.get? v0 v f
noncomputable def Mg(W:Wd)(c:d5)(n:Nat)(a:X):Prop:=∀sc e,db sc->cG W.consts a sc e=true->∀i,pA a=some i->∀ρ r,ev c a ρ=some r->∀A,fD A n->∀env Y V fps s,cU W sc env Y V ρ fps s->∀(E Q:Value->Shared->Prop),
 (∀v s' V' f,S1 W c sc env a ρ i (fps i) r V s v V' s' f->Q v s')->wpAny (model W.prog W.w) A (eval e env) Q E s
section
variable{W:Wd}{c:d5}{n:Nat}{A:Around}{E:Value->Shared->Prop}{s:Shared}{env:Env}{V V':aX}{sc:Sc}{ρ:b6}{Y:List Addr}{x a b:X}{e:ag}{s':Shared}
theorem T8.back{i:Nat}{own:List Addr}{V1 g1 g:aX}{v0 v:Value}{f:List Addr}(h:T8 W c a ρ i own V1 g1 v0 v f)(hV:Le V1 V)(hk:∀b o,g1 b=some o->g b=some o):T8 W c a ρ i own V g v0 v f:=
 λV2 g2 r' f' z=>h V2 g2 r' f' (z.back hV hk)
theorem S1.keep{i:Nat}{own:List Addr}{r:O}{v:Value}{V':aX}{s1 s2:Shared}{V2:aX}{f:List Addr}(h:S1 W c sc env a ρ i own r V s v V' s1 f)(x:iF V' s1 V2 s2):S1 W c sc env a ρ i own r V s v V2 s2 f:=
 ⟨h.ext.trans x,h.rep.mono x.le λb _ o e=>aS x.keeps b o e,h.sub,h.nd,let ⟨y,v0,k1,k2,k3⟩:=h.rp;⟨y,v0,k1,k2,k3.back x.le (aS x.keeps)⟩⟩
theorem H8{f':List Addr}(sb:∀b∈f',b∈([]:List Addr)):f'=[]:=by
 cases f' with
 | nil=>rfl
 | cons b _=>exact nomatch sb b ak
theorem Pu(j:Nat):Mg W c n (.var j):=by
 intro sc e R hk i hr ρ r hv A hA env Y V fps s h E Q q
 obtain rfl:j=i:=ah.inj hr
 refine dL (P:=G W A env Q E s) hk λy pos hk=>aR hk λh1 h2=> ?_
 obtain ⟨v,l,r1⟩:=h.own y j (eq_of_beq h1) r hv
 exact l.eval h.eo.kind h2 (q v s V (fps j) ⟨.refl h.eo.le,r1,λb hb=>hb,h.nodup j,y,v,eq_of_beq h1,l,λV2 g2 r' f' z r2 ρ' hu=>⟨r',f',(ah.inj hu).symm,r2,z.nd,λb hb=> .inl hb⟩⟩)
theorem LG(OK:W.Ok)(k:Nat)(ia:Mg W c n a):Mg W c n (.attr a k):=by
 intro sc e R hk i hr ρ r hv A hA env Y V fps s h E Q q
 obtain ⟨r0,ha,hv⟩:=bind_some hv
 refine iz (P:=G W A env Q E s) hk λv m pos hk=>aR hk λh1 hk=>aR hk λh2 hk=>aR hk λh3 h4=> ?_
 rw [eq_of_beq h1]
 have h2:=of_decide_eq_true h2
 refine rM h3 (ia sc _ R h4 i hr ρ r0 ha A hA env Y V fps s h E _ λva s1 V1 f0 ch=> ?_)
 obtain ⟨x1,q0,sub0,nd0,x,v0,hx,hl,rp⟩:=ch
 have X1:=OK.kin _ ((h.eo.base.trans x1.le).trans x1.sub)
 have xt:iF V1 s1 V1 {s1 with toks:=s1.toks+1}:= .toks x1.sub _
 cases r0 with
 | sh t=>
  obtain rfl:f0=[]:=q0.1
  refine wQ X1 OK.cls x1.sub q0 h2 hv λv' f' r' sb=> ?_
  obtain rfl:=H8 sb
  refine q _ _ V1 [] ⟨x1.trans xt,r',sub0,bL,x,v0,hx,hl,λV2 g2 r' f' _ _ ρ' hu=> ?_⟩
  obtain ⟨r1,ha',hu⟩:=bind_some hu
  obtain rfl:=ah.inj (ha.symm.trans ha')
  exact no hu
 | lst l=>exact no hv
 | ins cc ks os=>
  obtain ⟨ad,dx,es,m,vs,fpl,rfl,rfl,e1,e2,e3,e4,e5,r1⟩:=q0
  have ndl:fpl.Nodup:=(be.mp (show ([ad,dx]++fpl).Nodup from nd0)).2.1
  obtain ⟨v',f',z1,z2,z3,z4,z5⟩:=bw.fld e5 r1 hv ndl
  refine Bz X1 OK.cls e1 e2 h2 z1 z2.handed ?_
  have s2:∀b∈fpl,b∈fps i:=λb hb=>sub0 b (ay [ad,dx] hb)
  refine q _ _ V1 f' ⟨x1.trans xt,z2,λb hb=>s2 b (z3 b hb),z4,x,v0,hx,hl,λV2 g2 r' f2 z r2 ρ' hu=> ?_⟩
  obtain ⟨r3,ha',hu⟩:=bind_some hu
  obtain rfl:=ah.inj (ha.symm.trans ha')
  obtain ⟨y0,fp',y1,y2⟩:=z5 V2 g2 r' f2 (z.sub s2) r2
  have hu':upd c a ρ (.ins cc (upd.setFld ks os k r').1 (upd.setFld ks os k r').2)=some ρ':=hu
  rw [y0]at hu'
  have n1:∀b∈[ad,dx],b∉f':=λb hb q=>(be.mp (show ([ad,dx]++fpl).Nodup from nd0)).2.2 b hb b (z3 b q) rfl
  have kp:∀b∈[ad,dx],∀o,s1.heap.get? b=some o->g2 b=some o:=λb hb=>z.keep b (sub0 b (aF fpl hb)) (n1 b hb)
  obtain ⟨o',fp3,w1,w2,w3⟩:=rp V2 g2 _ ([ad,dx]++fp') (JG.up (hd:=[ad,dx]) nd0 sub0 z3 z y2) (.ins ad dx es m cc ks vs _ fp' (kp ad ak _ e1) (kp dx (.tail _ ak) _ e2) e3 e4 e5 y1) ρ' hu'
  exact ⟨o',fp3,w1,w2,JH.down (hd:=[ad,dx]) nd0 sub0 z3 z y2 w3⟩
theorem Pv(ia:Mg W c n a)(ib:hE W c n b):Mg W c n (.idx a b):=by
 intro sc e R hk i hr ρ r hv A hA env Y V fps s h E Q q
 obtain ⟨r0,ha,hv⟩:=bind_some hv
 obtain ⟨k,hb,hv⟩:=bind_some hv
 refine jr (P:=G W A env Q E s) hk λv ix pos hk=>aR hk λk1 hk=>aR hk λk2 k3=> ?_
 refine Subscript_ (ia sc _ R k2 i hr ρ r0 ha A hA env Y V fps s h E _ λva s1 V1 f0 ch=>ib.i R k3 hb hA (h.ext ch.ext).eo λt s2 V2 x2=> ?_)
 obtain ⟨x1,q0,sub0,nd0,x,v0,hx,hl,rp⟩:=ch.keep x2
 obtain ⟨T,id,t1,t2⟩:=uZ x1.sub q0 hv
 refine tail_any t1 t2 ?_ (iI k1 _ _)
 cases r0 with
 | sh tt=>
  obtain rfl:f0=[]:=q0.1
  refine wz x1.sub q0 hv λv' f' r' sb=> ?_
  obtain rfl:=H8 sb
  refine q _ _ V2 [] ⟨x1,r',sub0,bL,x,v0,hx,hl,λV3 g3 r' f' _ _ ρ' hu=> ?_⟩
  obtain ⟨r1,ha',hu⟩:=bind_some hu
  obtain rfl:=ah.inj (ha.symm.trans ha')
  obtain ⟨_,_,hu⟩:=bind_some hu
  exact no hu
 | ins=>exact no hv
 | lst l=>
  obtain ⟨ad,vs,m,fpl,rfl,rfl,e1,r1⟩:=q0
  obtain ⟨j,hj,hn⟩:=bind_some (show (cr k l.length).bind (TI.nth l)=some r from hv)
  obtain ⟨hp,rfl⟩:(0<=k/\k<l.length/\k<1000000)/\k.toNat=j:=by
   unfold cr at hj
   by_cases z:0<=k/\k<l.length/\k<1000000
   ·rw [if_pos z]at hj;exact ⟨z,ah.inj hj⟩
   ·rw [if_neg z]at hj;exact no hj
  have ndl:fpl.Nodup:=(be.mp (show ([ad]++fpl).Nodup from nd0)).2.1
  obtain ⟨v',f',z1,z2,z3,z4,z5⟩:=r1.set hn ndl
  refine wpAny_getItem_list (ck e1) hp.1 (by omega) (by rw [ed];exact z1) ?_
  have s2:∀b∈fpl,b∈fps i:=λb hb=>sub0 b (ay [ad] hb)
  refine q _ _ V2 f' ⟨x1,z2,λb hb=>s2 b (z3 b hb),z4,x,v0,hx,hl,λV3 g3 r' f2 z r2 ρ' hu=> ?_⟩
  obtain ⟨r3,ha',hu⟩:=bind_some hu
  obtain rfl:=ah.inj (ha.symm.trans ha')
  obtain ⟨k',hb',hu⟩:=bind_some hu
  obtain rfl:=ah.inj (hb.symm.trans hb')
  obtain ⟨j',hj',hu⟩:=bind_some (show (cr k l.length).bind (λj=>upd c a ρ (.lst (dp l j r')))=some ρ' from hu)
  obtain rfl:=ah.inj (hj.symm.trans hj')
  obtain ⟨fp',y1,y2⟩:=z5 V3 g3 v' r' f2 (z.sub s2) r2
  rw [sU z1]at y1
  have n1:ad∉f':=λq=>(aQ.mp nd0).1 (z3 _ q)
  obtain ⟨o',fp3,w1,w2,w3⟩:=rp V3 g3 _ ([ad]++fp') (JG.up (hd:=[ad]) nd0 sub0 z3 z y2) (.lst ad vs m _ fp' (z.keep ad (sub0 ad ak) n1 _ e1) y1) ρ' hu
  exact ⟨o',fp3,w1,w2,JH.down (hd:=[ad]) nd0 sub0 z3 z y2 w3⟩
theorem RL(OK:W.Ok)(oc:fm W n c)(x:X):Mg W c n x:=by
 induction x with
 | var i=>exact Pu i
 | attr a k ia=>exact LG OK k ia
 | idx a i ia _=>exact Pv ia (iH OK oc i)
 | _=>exact λ_ _ _ _ i hr=>no hr
end
end
section
section
variable{W:Wd}{A:Around}{E:Value->Shared->Prop}{s s':Shared}{env:Env}{V V':aX}{sc:Sc}{ρ ρ':b6}{X:List Addr}{fps fps':Ft}
theorem cU.more(h:cU W sc env X V ρ fps s){L:Addr}(hV:V L=none)(hal:∃o,s.heap.get? L=some o)(hl:L≠env.locals)(hc:∀y c,env.cells.lookup y=some c->L≠c)(hf:∀i,L∉fps i):cU W sc env (L::X) V ρ fps s:=
 have clr:∀i a,a∈fps i->nY env (L::X) V a:=λi a ha=>let ⟨c1,c2,c3,c4⟩:=(h.clear i a ha).1;⟨c1,c2,λq=>(aG.mp q).elim (λq=>hf i (q▸ha)) c3,c4⟩
 ⟨h.eo.more (Y:=[L]) (λa ha=>(aN.mp ha)▸⟨hV,hal,hl,hc⟩) λx i e o q=>let ⟨v,l,r⟩:=h.own x i e o q;⟨v,_,l,r,λa ha=>clr i a ha⟩,h.own,λi a ha=>⟨clr i a ha,(h.clear i a ha).2⟩,h.nodup,h.disj⟩
theorem cU.lk(h:cU W sc env X V ρ fps s){I:Addr}(hI:I∈X){h':Heap}(hk:∀b o,b≠I->s.heap.get? b=some o->h'.get? b=some o):∀z u,b9 env s.heap z u->b9 env h' z u:=
 sj (λq=>h.eo.locX (q▸hI)) (λy c e q=>(h.eo.cellA y c e).2.2.2 (q▸hI)) hk
theorem cU.gone(h:cU W sc env X V ρ fps s){h':Heap}{k:Nat}{a:Addr}{X':List Addr}(ha:a∈X)(hX:∀b∈X',b∈X/\b≠a)(hk:∀b o,b≠a->s.heap.get? b=some o->h'.get? b=some o):cU W sc env X' V ρ fps {s with heap:=h',toks:=k}:=
 have kp:∀i,∀b∈fps i,∀o,s.heap.get? b=some o->h'.get? b=some o:=λi b hb o e=>hk b o (λq=>(h.clear i b hb).1.2.2.1 (q▸ha)) e
 ⟨h.eo.gone ha hX hk,λx i e o q=>let ⟨v,l,r⟩:=h.own x i e o q;⟨v,h.lk ha hk _ _ l,r.mono Le.rfl (kp i)⟩,λi b hb=>let ⟨⟨c1,c2,c3,c4⟩,o,e⟩:=h.clear i b hb;⟨⟨c1,c2,λq=>c3 (hX _ q).1,c4⟩,o,kp i b hb o e⟩,h.nodup,h.disj⟩
theorem cU.other(h:cU W sc env X V ρ fps s){h':Heap}{k:Nat}{a:Addr}(ha:a∈X)(hk:∀b o,b≠a->s.heap.get? b=some o->h'.get? b=some o)(hal:∃o,h'.get? a=some o):cU W sc env X V ρ fps {s with heap:=h',toks:=k}:=
 ⟨h.eo.other ha hk hal,(h.gone (k:=k) (X':=[]) ha (λb hb=>nomatch hb) hk).own,λi b hb=>let ⟨c,o,e⟩:=h.clear i b hb;⟨c,o,hk b o (λq=>c.2.2.1 (q▸ha)) e⟩,h.nodup,h.disj⟩
theorem d8.fresh(x:d8 fps env V s V' s' fps'){I:Addr}(hI:s.heap.get? I=none){h':Heap}{k:Nat}(hk:∀b o,b≠I->s'.heap.get? b=some o->h'.get? b=some o)(hl:∀z u,b9 env s'.heap z u->b9 env h' z u):d8 fps env V s V' {s' with heap:=h',toks:=k} fps':=
 ⟨let ⟨_,_,e⟩:=x.same;⟨h',k,by rw [e]⟩,x.le,x.new,λb o h1 h2 h3 e=>hk b o (λq=>nomatch (q▸hI:s.heap.get? b=none).symm.trans e) (x.keep b o h1 h2 h3 e),x.fps,λz hz v l=>hl z v (x.pin z hz v l)⟩
theorem d8.ext{V2:aX}{s2:Shared}(st:d8 fps env V s V' s' fps')(h:cU W sc env X V' ρ fps' s')(x:iF V' s' V2 s2):d8 fps env V s V2 s2 fps':=st.trans h.al (.ofExt x)
theorem su(hA:A.handled=none)(R:db sc){target:ag}{ns:List Str}{tg:List Nat}{v:Value}{t:T}{Q:Unit->Shared->Prop}(ht:zG target=some ns)(hl:ns.length=tg.length)
  (hr:∀(j:Nat) x i,ns[j]? =some x->tg[j]? =some i->sc.res.lookup x=some i) (hk:∀x∈ns,(TI.kd sc x=some .local\/TI.kd sc x=some .cell)/\qb sc.scope≠some x) (hb:dz tg t ρ=some ρ') (h:cU W sc env X V ρ fps s) (r:dw W.cl V v t)
  (q:∀s' fps',cU W sc env X V ρ' fps' s'->d8 fps env V s V s' fps'->Q () s'):wpAny (model W.prog W.w) A (assign target env v) Q E s:=by
 refine IB (I:=λρ s1=>∃fps',cU W sc env X V ρ fps' s1/\d8 fps env V s V s1 fps') hA (λ_ _ ⟨_,h,_⟩=>h.eo.le) (λρ s1 h' ⟨f1,h1,st⟩ he=> ?_) ht hl (λp hp=> ?_) hb ⟨fps,h,.refl⟩ r λs' ⟨f1,h1,st⟩=>q s' f1 h1 st
 ·have hx:iF V s1 V {s1 with heap:=h'}:=iF.heap (k:=s1.toks) h1.eo.le he
  exact ⟨f1,h1.ext hx,st.ext h1 hx⟩
 ·intro E ρ s1 v t Q ⟨f1,h1,st⟩ r q
  obtain ⟨j,e1,e2⟩:=mG hp
  have kx:=hk _ (bG e1)
  exact h1.store R (hr j _ _ e1 e2) kx.1 (ce.sh r) bL (λa ha=>nomatch ha) λh' k h'' un=>q _ ⟨_,h'',st.trans h1.al (d8.store (fp:=[]) un (by rw [h.eo.scope];exact kx.2) λa ha=>nomatch ha)⟩
end
end
section
noncomputable def TS(sc:Sc)(x:Str):Bool:=(kd sc x==some .local||kd sc x==some .cell)&& !(qb sc.scope==some x)
noncomputable def Tk(sc:Sc)(x:Str)(y:Nat):Bool:=(sc.res.lookup x==some y)&&(TS sc x&&fy x)
noncomputable def TR(sc:Sc)(v:ag)(x:Str)(p:Pos):Bool:=IZ v λ_ _ s vp=>(kd sc x==some .local)&&(p.line==vp.line)&& !(s.names.any λ(n,k)=>n==x&&(k== .local||k== .cell))
noncomputable def qS(e:ag):Bool:= !(eV e.ctorIdx 9||eV e.ctorIdx 10)
noncomputable def H7(e:ag):Bool:= !eV e.ctorIdx 25
noncomputable def IR(sc:Sc)(ns:List Str)(tg:List Nat):Bool:=((ns.map λx=>sc.res.lookup x)==tg.map some)&&ns.all (TS sc)
noncomputable def I_:S->Option Nat
 | .frz y=>some y
 | _=>none
mutual
noncomputable def FF(cs:List (Str×T)):S->Sc->Stmt->Bool
 | .asg y e,sc,st=>um st λts v _=>onO ts λt=>i8 t λx _=>Tk sc x y&&(qS v&&cG cs e sc v)
 | .asgO y e,sc,st=>um st λts v _=>onO ts λt=>i8 t λx _=>Tk sc x y&&(qS v&&cG cs e sc v)
 | .tupa ys e,sc,st=>um st λts v _=>onO ts λt=>(!(i8 t λ_ _=>true))&&(zG t).any λns=>IR sc ns ys&&(qS v&&(H7 v&&cG cs e sc v))
 | .setI a i e,sc,st=>um st λts v _=>onO ts λt=>z6 t λo ix _=>(pA a).isSome&&(kT ix&&(qS v&&(cG cs a sc o&&(cG cs i sc ix&&cG cs e sc v))))
 | .setA a k e,sc,st=>um st λts v _=>onO ts λt=>ul t λo n _=>(pA a).isSome&&((n==nm k)&&(decide (k<bY.length)&&(qS v&&(cG cs a sc o&&cG cs e sc v))))
 | .setAO a k e,sc,st=>um st λts v _=>onO ts λt=>ul t λo n _=>(pA a).isSome&&((n==nm k)&&(decide (k<bY.length)&&(qS v&&(cG cs a sc o&&cG cs e sc v))))
 | .aug y op e,sc,st=>z7 st λt o v _=>i8 t λx _=>(op.py==o)&&(Tk sc x y&&cG cs e sc v)
 | .augI a i op e,sc,st=>z7 st λt q v _=>z6 t λo ix _=>(op.py==q)&&((pA a).isSome&&(kT ix&&(cG cs a sc o&&(cG cs i sc ix&&cG cs e sc v))))
 | .augA a k op e,sc,st=>z7 st λt q v _=>ul t λo n _=>(op.py==q)&&((pA a).isSome&&((n==nm k)&&(decide (k<bY.length)&&(cG cs a sc o&&cG cs e sc v))))
 | .iff q a b,sc,st=>M6 st λt x y _=>cG cs q sc t&&(qe cs a sc x&&qe cs b sc y)
 | .forr tg src b,sc,st=>M7 st λt i body els _=>Fd els&&(zG t).any λns=>IR sc ns tg&&(xr i&&(cG cs src sc i&&qe cs b sc body))
 | .whl q b,sc,st=>M0 st λt body els _=>Fd els&&(cG cs q sc t&&qe cs b sc body)
 | .ret e,sc,st=>M3 st λv _=>v.any λv=>cG cs e sc v
 | .app a e,sc,st=>IY st λc _=>qR c λg args kw pos=>Fd kw&&ul g λo n apos=>onO args λarg=>(pA a).isSome&&((n==aa "append")&&((apos.endLine==pos.line)&&(jl o&&(fW arg&&(cG cs a sc o&&cG cs e sc arg)))))
 | .ext y e,sc,st=>z7 st λt o v _=>i8 t λx _=>(Operator.Add==o)&&(Tk sc x y&&cG cs e sc v)
 | .callIO f y a,sc,st=>IY st λc _=>qR c λg args kw _=>Fd kw&&i8 g λg _=>M_ args λa0 args=>i8 a0 λx _=>(nth fR f==some g)&&(kb sc g&&((sc.res.lookup x==some y)&&(fy x&&qM cs a sc args)))
 | .skip,_,_=>false
 | .seq _ _,_,_=>false
 | .frz _,_,_=>false
noncomputable def qe(cs:List (Str×T)):S->Sc->List Stmt->Bool
 | .skip,_,sts=>Fd sts
 | .seq t r,sc,sts=>(I_ t).casesOn (M_ sts λst sts=>FF cs t sc st&&qe cs r sc sts) λy=>(sc.res.any λp=>(p.2==y)&&(sc.res.lookup p.1==some y))&&qe cs r sc sts
 | _,_,_=>false
end
noncomputable def IJ(W:Wd)(V:aX)(fl:Flow):Option T->Prop
 | ae=>fl= .next
 | some t=>∃v,fl= .ret v/\dw W.cl V v t
@[reducible] noncomputable def KS(W:Wd)(sc:Sc)(env:Env)(X:List Addr)(V:aX)(fps:Ft)(s:Shared)(out:n4)(Q:Flow->Shared->Prop):Prop:=
 ∀fl s' V' fps',d8 fps env V s V' s' fps'->cU W sc env X V' out.1 fps' s'->IJ W V' fl out.2->Q fl s'
noncomputable def Fe(W:Wd)(c:d5)(n:Nat)(t:S):Prop:=∀sc st,db sc->FF W.consts t sc st=true->∀ρ out,ex c t ρ=some out->∀A,fD A n->∀env X V fps s,cU W sc env X V ρ fps s->∀(E:Value->Shared->Prop) (Q:Flow->Shared->Prop),KS W sc env X V fps s out Q->
 wpAny (model W.prog W.w) A (exec st env) Q E s
noncomputable def P8(W:Wd)(c:d5)(n:Nat)(t:S):Prop:=∀sc sts,db sc->qe W.consts t sc sts=true->∀ρ out,ex c t ρ=some out->∀A,fD A n->∀env X V fps s,cU W sc env X V ρ fps s->∀(E:Value->Shared->Prop) (Q:Flow->Shared->Prop),KS W sc env X V fps s out Q->
 wpAny (model W.prog W.w) A (execs sts env) Q E s
@[reducible] noncomputable def Gs(W:Wd)(A:Around)(env:Env)(Q:Flow->Shared->Prop)(E:Value->Shared->Prop)(s:Shared)(st:Stmt):Prop:=wpAny (model W.prog W.w) A (exec st env) Q E s
section
variable{W:Wd}{c:d5}{n:Nat}{A:Around}{E:Value->Shared->Prop}{s s':Shared}{env:Env}{V V':aX}{sc:Sc}{ρ ρ':b6}{X':List Addr}{fps fps':Ft}{a b e i:X}{y k:Nat}
theorem Bc{x:Str}(h:TS sc x=true):(TI.kd sc x=some .local\/TI.kd sc x=some .cell)/\qb sc.scope≠some x:=by
 unfold TS at h
 rw [aB,du,beq_iff_eq,beq_iff_eq,b0,beq_eq_false_iff_ne]at h
 exact h
theorem xi{x:Str}{P:Prop}(h:Tk sc x y=true)(k:sc.res.lookup x=some y->(TI.kd sc x=some .local\/TI.kd sc x=some .cell)->qb sc.scope≠some x->fy x=true->P):P:=
 aR h λh1 h=>aR h λh2 h3=>k (eq_of_beq h1) (Bc h2).1 (Bc h2).2 h3
theorem yt{ns:List Str}{tg:List Nat}{P:Prop}(h:IR sc ns tg=true)(k:ns.length=tg.length->(∀(j:Nat) x i,ns[j]? =some x->tg[j]? =some i->sc.res.lookup x=some i)->(∀x∈ns,(TI.kd sc x=some .local\/TI.kd sc x=some .cell)/\qb sc.scope≠some x)->P):P:=
 aR h λh1 h2=>by
  have h1:=eq_of_beq h1
  refine k (by rw [<-aq (f:=λx=>sc.res.lookup x),h1,aq]) (λj x i e1 e2=> ?_) λx hx=>Bc (ax.mp h2 x hx)
  have z:=congrArg (λl=>l[j]?) h1
  rw [qF,qF,e1,e2]at z
  exact ah.inj z
theorem wh(h:env.scope.kind= .function):env.blockKind= .function:=by
 unfold Env.blockKind;rw [h];rfl
theorem yu(h:bM W sc env X' V ρ s){v:ag}{x:Str}{p:Pos}{line:Nat}(hv:qS v=true):swapsWith v (some (.Name x p)) line env=pure (TR sc v x p):=by
 cases v<;>first | rfl | cases hv | skip
 show pure (env.blockKind== .function&&env.kindOf x==some .local&&p.line==_&& !(_))=pure _
 rw [wh h.kind,h.kd]
 rfl
theorem o8{v t:ag}{line:Nat}(hv:qS v=true)(ht:(i8 t λ_ _=>true)=false):swapsWith v (some t) line env=pure false:=by
 cases v<;>first | rfl | cases hv | skip
 cases t<;>first | rfl | cases ht
theorem vW{t v:ag}(hv:H7 v=true):swappedStores [t] v env=pure none:=by
 cases t<;>first | rfl |(cases v<;>first | rfl | cases hv)
theorem lS{M:Model}{t v:ag}{pos:Pos}{Q:Flow->Shared->Prop}(hst:assignEach [t] env=[(false,assign t env)])(hs:swapsWith v (some t) pos.line env=pure false)(hw:swappedStores [t] v env=pure none)
  (h:wpAny M A (eval v env) (λu s₁=>wpAny M A (assign t env u) (λ_=>Q .next) E s₁) E s):wpAny M A (exec (.Assign [t] v pos) env) Q E s:=by
 refine wpAny_Assign_stores (wpAny_mono h (λu s₁ h₁=> ?_) λ_ _ x=>x) hs hw
 rw [hst];exact h₁
theorem JS(ie:hE W c n e){ys:List Nat}:Fe W c n (.tupa ys e):=by
 intro sc st R hk ρ out hv A hA env X V fps s h E Q q
 obtain ⟨t,h1,hv⟩:=bind_some hv
 obtain ⟨ρ',h2,rfl⟩:=aT hv
 refine kS (P:=Gs W A env Q E s) hk λts v pos hk=>onO_ok (P:=λts=>Gs W A env Q E s (.Assign ts v pos)) hk λtt hk=>aR hk λk0 hk=> ?_
 obtain ⟨ns,hns,hk⟩:=dk hk
 refine aR hk λk1 hk=>aR hk λk2 hk=>aR hk λk3 k4=>yt k1 λg1 g2 g3=>lS ?_ (o8 k2 (b0 _|>.mp k0)) (vW k3) (ie.t R k4 h1 hA h.eo λu s1 V1 x1 r1=>
  su hA.handled R hns g1 g2 g3 h2 (h.ext x1) r1 λs' fps' h3 st=>q .next _ V1 fps' ((d8.ofExt x1).trans (h.ext x1).al st) h3 rfl)
 exact Cc (P:=λtt _=>assignEach [tt] env=[(false,assign tt env)]) hns (λ_ _=>rfl) λ_ _ _ _ _=>rfl
theorem N8(ie:hE W c n e):Fe W c n (.ret e):=by
 intro sc st R hk ρ out hv A hA env X V fps s h E Q q
 obtain ⟨t,h1,rfl⟩:=aT hv
 refine GA (P:=Gs W A env Q E s) hk λv p hk=> ?_
 obtain ⟨v,rfl,hk⟩:=dk hk
 exact wpAny_Return_some (ie.t R hk h1 hA h.eo λu s1 V1 x1 r1=>q _ s1 V1 fps (.ofExt x1) (h.ext x1) ⟨u,rfl,r1⟩)
theorem Ob(ie:hE W c n e)(op:n6):Fe W c n (.aug y op e):=by
 intro sc st R hk ρ out hv A hA env X V fps s h E Q q
 obtain ⟨t0,h0,hv⟩:=bind_some hv
 obtain ⟨t,h1,hv⟩:=bind_some hv
 obtain ⟨t2,h2,rfl⟩:=aT hv
 obtain ⟨o0,g0,g1⟩:=bind_some h0
 refine og (P:=Gs W A env Q E s) hk λtt o v pos hk=>dL (P:=λtt=>Gs W A env Q E s (.AugAssign tt o v pos)) hk λx p hk=>aR hk λk1 hk=>aR hk λk2 k3=>xi k2 λhx hkd hpin hpn=> ?_
 rw [<-eq_of_beq k1]
 obtain ⟨v0,l,r0⟩:=h.own x y hx o0 g0
 refine wpAny_AugAssign_Name (l.name h.eo.kind hpn (ie.t R k3 h1 hA h.eo λu s1 V1 x1 r1=>wA x1.sub ((r0.t? g1).mono x1.le) r1 op _ h2 _ λu2 s2 V2 x2 r2=> ?_))
 have hh:=h.ext (x1.trans x2)
 exact hh.store R hx hkd (.sh r2) bL (λa ha=>nomatch ha) λh' tk hF un=>q .next _ V2 _ ((d8.ofExt (x1.trans x2)).trans hh.al (d8.store (fp:=[]) un (by rw [h.eo.scope];exact hpin) λa ha=>nomatch ha)) hF rfl
theorem At{n:Int}{len j:Nat}(h:cr n len=some j):0<=n/\n<len/\n<1000000/\n.toNat=j:=by
 unfold cr at h
 by_cases z:0<=n/\n<len/\n<1000000
 ·rw [if_pos z]at h;exact ⟨z.1,z.2.1,z.2.2,ah.inj h⟩
 ·rw [if_neg z]at h;exact no h
theorem CT(R:db sc){V0:aX}{s0:Shared}(h:cU W sc env X' V0 ρ fps s0)(x0:iF V0 s0 V s){l:List O}{va:Value}{f:List Addr}(ch:S1 W c sc env a ρ y (fps y) (.lst l) V s va V' s' f):∃ad vs m fpl,va= .ref ad/\s'.heap.get? ad=some (listOf vs.toArray m)/\bw W.cl V' s'.heap.get? vs l fpl/\(ad::fpl).Nodup/\
  ∀h' tk vs' l' m' fp',(∀b o,b≠ad->s'.heap.get? b=some o->h'.get? b=some o)->h'.get? ad=some (listOf vs'.toArray m')->bw W.cl V' h'.get? vs' l' fp'->fp'.Nodup->(∀b∈fp',b∈fpl)->∀ρ',upd c a ρ (.lst l')=some ρ'->
   ∃fps',cU W sc env X' V' ρ' fps' {s' with heap:=h',toks:=tk}/\d8 fps env V0 s0 V' {s' with heap:=h',toks:=tk} fps':=by
 obtain ⟨x1,q0,sub,nd,x,v0,hx,hl,rp⟩:=ch
 obtain ⟨ad,vs,m,fpl,rfl,rfl,e1,r1⟩:=q0
 refine ⟨ad,vs,m,fpl,rfl,e1,r1,nd,λh' tk vs' l' m' fp' kp hnew y1 y2 hin ρ' hu=> ?_⟩
 obtain ⟨o',fp3,w1,w2,w3⟩:=rp V' h'.get? _ (ad::fp') ⟨Le.rfl,λb hb hn z e=>kp b z (λq=>hn (q▸ak)) e,aQ.mpr ⟨λz=>(aQ.mp nd).1 (hin _ z),y2⟩,
  λb hb _=>(aG.mp hb).elim (λz=>z▸ak) λz=>ao _ (hin b z)⟩ (.lst ad _ _ _ fp' hnew y1) ρ' hu
 subst w1
 have own:∀b∈fp3,b∈fps y:=λb hb=>(w3.sub b hb).elim (λz=>sub b ((aG.mp z).elim (λz=>z▸ak) λz=>ao _ (hin b z))) QF
 exact ⟨_,h.mut (x0.trans x1) R (k:=tk) hx (sub ad ak) kp (hl.keeps (aS x1.keeps)) w2 w3.nd λb hb=>⟨((h.ext (x0.trans x1)).clear y b (own b hb)).1.1,.inr (own b hb)⟩⟩
theorem OQ(vs:List Value)(m k:Nat)(u:Value):∃m',Obj.mapSeq (·.setIfInBounds k u) (listOf vs.toArray m)=listOf (vs.set k u).toArray m':=by
 refine ⟨if (vs.toArray.setIfInBounds k u).size==vs.toArray.size then m else m+1,?_⟩
 unfold Obj.mapSeq
 simp
theorem yz(R:db sc){V0:aX}{s0:Shared}(h:cU W sc env X' V0 ρ fps s0)(x0:iF V0 s0 V s){l:List O}{va u:Value}{f:List Addr}(ch:S1 W c sc env a ρ y (fps y) (.lst l) V s va V' s' f){k:Int}{tk:Tok}{j:Nat}{t:T}(hj:cr k l.length=some j)(hu:upd c a ρ (.lst (dp l j (.sh t)))=some ρ')(ru:dw W.cl V' u t)
  {Q:Flow->Shared->Prop} (q:KS W sc env X' V0 fps s0 (ρ',none) Q):wpAny (model W.prog W.w) A (setItem va (.int k tk) u) (λ_=>Q .next) E s':=by
 obtain ⟨j0,j1,j2,rfl⟩:=At hj
 obtain ⟨ad,vs,m,fpl,rfl,e1,r1,nd,fin⟩:=CT R h x0 ch
 have lv:=r1.length
 obtain ⟨v',f',z1,z2,z3,z4,z5⟩:=r1.set (gB (i:=k.toNat) (by omega)) (aQ.mp nd).2
 have kp:∀b o,b≠ad->s'.heap.get? b=some o->(s'.heap.update ad (Obj.mapSeq (·.setIfInBounds k.toNat u))).get? b=some o:=λb o hb e=>(iJ.update ..).extBut b o hb e
 obtain ⟨fp',y1,y2⟩:=z5 V' (s'.heap.update ad (Obj.mapSeq (·.setIfInBounds k.toNat u))).get? u (.sh t) [] ⟨Le.rfl,λb hb hn z e=>kp b z (λq=>(aQ.mp nd).1 (q▸hb)) e,bL,λb hb=>nomatch hb⟩ (.sh ru)
 obtain ⟨m',hm'⟩:=OQ vs m k.toNat u
 obtain ⟨fps',hF,st⟩:=fin _ s'.toks _ _ m' fp' kp (by rw [ly _ e1 (by rw [hm'];rfl),hm']) y1 y2.nd (λb hb=>(y2.sub b hb).elim (λz=>nomatch z) QF) ρ' hu
 exact ki_setAt e1 j0 (by omega) (by rw [aJ];omega) (q .next _ V' fps' st hF rfl)
theorem uL{o:O}(h:Fy c a i ρ o=some ρ'):∃l k j,ev c a ρ=some (.lst l)/\(ev c i ρ).bind O.int? =some k/\cr k l.length=some j/\upd c a ρ (.lst (dp l j o))=some ρ':=by
 obtain ⟨r,h3,h⟩:=bind_some h
 obtain ⟨k,h4,h⟩:=bind_some h
 cases r with
 | lst l=>
  obtain ⟨j,h5,h⟩:=bind_some (show (cr k l.length).bind (λj=>upd c a ρ (.lst (dp l j o)))=some ρ' from h)
  exact ⟨l,k,j,h3,h4,h5,h⟩
 | _=>exact no h
theorem JT(ca:Mg W c n a)(ii:hE W c n i)(ie:hE W c n e):Fe W c n (.setI a i e):=by
 intro sc st R hk ρ out hv A hA env X V fps s h E Q q
 obtain ⟨t,h1,hv⟩:=bind_some hv
 obtain ⟨ρ',h2,rfl⟩:=aT hv
 obtain ⟨l,k,j,h3,h4,h5,h2⟩:=uL h2
 refine kS (P:=Gs W A env Q E s) hk λts v pos hk=>onO_ok (P:=λts=>Gs W A env Q E s (.Assign ts v pos)) hk λtt hk=>jr (P:=λtt=>Gs W A env Q E s (.Assign [tt] v pos)) hk λo ix p hk=>aR hk λk1 hk=>aR hk λk2 hk=>aR hk λk3 hk=>aR hk λk4 hk=>aR hk λk5 k6=> ?_
 obtain ⟨y,hy⟩:=cE.mp k1
 refine wpAny_Assign_Subscript (ie.t R k6 h1 hA h.eo λu s1 V1 x1 r1=> ?_) (o8 k3 rfl)
 have hh:=h.ext x1
 refine ca sc o R k4 y hy ρ _ h3 A hA env X V1 fps s1 hh E _ λva s2 V2 f ch=>ii.i R k5 h4 hA (hh.ext ch.ext).eo λtk s3 V3 x3=> ?_
 have c3:=ch.keep x3
 exact yz R h x1 c3 h5 h2 (r1.mono c3.ext.le) q
theorem rd{ix:ag}(h:kT ix=true)(ov iv new:Value):augStore ix ov iv new=(do holding [new,ov,iv] (setItem ov iv new);release [new,ov,iv] [];pure .next):=by cases ix<;>first | rfl | cases h
theorem JV(ca:Mg W c n a)(ii:hE W c n i)(ie:hE W c n e)(op:n6):Fe W c n (.augI a i op e):=by
 intro sc st R hk ρ out hv A hA env X V fps s h E Q q
 obtain ⟨t0,h0,hv⟩:=bind_some hv
 obtain ⟨t,h1,hv⟩:=bind_some hv
 obtain ⟨t2,h2,hv⟩:=bind_some hv
 obtain ⟨ρ',hp,rfl⟩:=aT hv
 obtain ⟨l,k,j,h3,h4,h5,hp⟩:=uL hp
 obtain ⟨oi,h0,h0'⟩:=bind_some h0
 obtain ⟨o1,g1,h0⟩:=bind_some h0
 obtain ⟨n1,g2,h0⟩:=bind_some h0
 obtain rfl:=ah.inj (h3.symm.trans g1)
 obtain rfl:=ah.inj (h4.symm.trans g2)
 refine og (P:=Gs W A env Q E s) hk λtt qop v pos hk=>jr (P:=λtt=>Gs W A env Q E s (.AugAssign tt qop v pos)) hk λo ix p hk=>aR hk λk0 hk=>aR hk λk1 hk=>aR hk λk2 hk=>aR hk λk4 hk=>aR hk λk5 k6=> ?_
 rw [<-eq_of_beq k0]
 obtain ⟨y,hy⟩:=cE.mp k1
 refine wpAny_AugAssign_SubscriptAny (ca sc o R k4 y hy ρ _ h3 A hA env X V fps s h E _ λva s2 V2 f ch=>ii.i R k5 h4 hA (h.ext ch.ext).eo λtk s3 V3 x3=> ?_) (rd k2)
 have c3:=ch.keep x3
 refine wz c3.ext.sub c3.rep h0 λv' f' r' _=>ie.t R k6 h1 hA (h.ext c3.ext).eo λu s4 V4 x4 r4=>wA x4.sub ((r'.t? h0').mono x4.le) r4 op _ h2 _ λu2 s5 V5 x5 r5=> ?_
 exact yz R h (.refl h.eo.le) (c3.keep (x4.trans x5)) h5 hp r5 q
end
end
section
theorem sE:decide bY.Nodup=true/\(bY.all λx=> !(x==aa ""))=true:=⟨by decide+kernel,by decide+kernel⟩
theorem GI{k:Nat}(hk:k<bY.length){j:Nat}(hj:j≠k):nm j≠nm k:=by
 obtain ⟨h1,h2⟩:=sE
 by_cases q:j<bY.length
 ·exact λe=>hj (OF (of_decide_eq_true h1) q hk e)
 ·unfold nm
  rw [gB hk]
  cases z:nth bY j with
  | some a=>exact absurd (m_ z) q
  | none=>
   intro e
   have:=ax.mp h2 _ (L8 hk)
   rw [<-show aa ""=bY[k]from e,beq_self_eq_true]at this
   exact aL this
section
variable{cl:Nat->Addr}{V V' g g':aX}{es:List DictEntry}{k:Nat}{hsh:Int}{tk:Tok}{u:Value}{o:O}{f':List Addr}
theorem ya{k:Nat}{r:List Nat}(h:d6 (k::r)=true):k∉r/\d6 r=true:=
 ⟨λq=>by have:=(bH.mp h).1;rw [lw.mpr q]at this;exact aL this,(bH.mp h).2⟩
theorem u9(hap:∀j,j≠k->nm j≠nm k):∀{ks:List Nat} {vs:List Value},k∉ks->cX es ks vs->cX (putL (nm k) hsh (.str (nm k) tk) u es) ks vs
 |[],_,_,h=>h
 | k'::ks,_,hk,⟨v,us,e,e1,r⟩=>⟨v,us,e,pW (hap k' λq=>hk (q▸ak)) e1,u9 hap (λq=>hk (ao _ q)) r⟩
structure UT(fp f' fp':List Addr):Prop where
 nd:fp.Nodup->f'.Nodup->(∀b∈f',b∉fp)->fp'.Nodup
 sub:∀b∈fp',b∈f'\/b∈fp
theorem y8(hap:∀j,j≠k->nm j≠nm k)(hu:ce cl V' g' u o f')(hV:Le V V'):∀{ks:List Nat} {vs:List Value} {l:List O} {fp:List Addr},d6 ks=true->cX es ks vs->bw cl V g vs l fp->(∀b∈fp,∀x,g b=some x->g' b=some x)->
  ∃vs' fp',cX (putL (nm k) hsh (.str (nm k) tk) u es) (upd.setFld ks l k o).1 vs'/\bw cl V' g' vs' (upd.setFld ks l k o).2 fp'/\UT fp f' fp'
 |[],_,[],_,_,h,⟨_,e⟩,_=>by
  subst e
  exact ⟨[u],f'++[],⟨u,[],rfl,pX,rfl⟩,.cons hu .nil,λ_ h2 _=>by rw [bc];exact h2,λb hb=> .inl (by rwa [bc]at hb)⟩
 |[],_,o'::l,_,_,h,⟨v,us,f1,f2,e,_⟩,_=>nomatch e.symm.trans (show _=[]from h)
 | k'::ks,_,[],_,_,⟨v,us,e,_⟩,⟨e',_⟩,_=>nomatch e.symm.trans e'
 | k'::ks,_,o'::l,fp,hn,⟨v,vs,e,e1,h⟩,r,hk=>by
  subst e
  obtain ⟨f1,f2,rfl,a,r⟩:=r.inv
  obtain ⟨hk1,hk2⟩:=ya hn
  by_cases q:k'=k
  ·have e0:upd.setFld (k'::ks) (o'::l) k o=(k'::ks,o::l):=if_pos q
   rw [e0]
   subst q
   exact ⟨u::vs,f'++f2,⟨u,vs,rfl,pX,u9 hap hk1 h⟩,.cons hu (r.mono hV λb hb x e=>hk b (ay _ hb) x e),
    λh1 h2 h3=>be.mpr ⟨h2,(be.mp h1).2.1,λa ha b hb q=>h3 a ha (ay _ (q▸hb))⟩,λb hb=>(aP.mp hb).imp id (ay _)⟩
  ·have e0:upd.setFld (k'::ks) (o'::l) k o=(k'::(upd.setFld ks l k o).1,o'::(upd.setFld ks l k o).2):=if_neg q
   rw [e0]
   obtain ⟨vs',fp',y1,y2,y3⟩:=y8 hap hu hV hk2 h r λb hb x e=>hk b (ay _ hb) x e
   exact ⟨v::vs',f1++fp',⟨v,vs',rfl,pW (hap k' q) e1,y1⟩,.cons (a.mono hV λb hb x e=>hk b (aF _ hb) x e) y2,
    λh1 h2 h3=>have n:=be.mp h1;be.mpr ⟨n.1,y3.nd n.2.1 h2 λb hb q=>h3 b hb (ay _ q),λa ha b hb q=>(y3.sub b hb).elim (λz=>h3 b z (aF _ (q▸ha))) λz=>n.2.2 a ha b z q⟩,
    λb hb=>(aP.mp hb).elim (λhb=> .inr (aF _ hb)) λhb=>(y3.sub b hb).imp id (ay _)⟩
theorem Cn:∀{ks:List Nat} {vs:List Value} {l:List O},cX es ks vs->vs.length=l.length->((∃v,getL (nm k) es=some (some v))/\(upd.setFld ks l k o).1.length=ks.length)\/(upd.setFld ks l k o).1.length=ks.length+1
 |[],_,l,_,_=> .inr (by cases l<;>rfl)
 | k'::ks,_,[],⟨v,us,e,_⟩,h=>by subst e;cases h
 | k'::ks,_,o'::l,⟨v,us,e,e1,r⟩,h=>by
  subst e
  by_cases q:k'=k
  ·have e0:upd.setFld (k'::ks) (o'::l) k o=(k'::ks,o::l):=if_pos q
   rw [e0]
   exact .inl ⟨⟨v,q▸e1⟩,rfl⟩
  ·have e0:upd.setFld (k'::ks) (o'::l) k o=(k'::(upd.setFld ks l k o).1,o'::(upd.setFld ks l k o).2):=if_neg q
   rw [e0]
   exact (Cn (l:=l) r (b_.inj h)).imp (λz=>⟨z.1,congrArg (· +1) z.2⟩) (congrArg (· +1))
end
section
variable{W:Wd}{c:d5}{n:Nat}{A:Around}{E:Value->Shared->Prop}{s s' s0:Shared}{env:Env}{V V' V0:aX}{sc:Sc}{ρ ρ':b6}{X':List Addr}{fps fps':Ft}{a b e i:X}{y k:Nat}
theorem yA(OK:W.Ok)(R:db sc)(h:cU W sc env X' V0 ρ fps s0)(x0:iF V0 s0 V s){va u:Value}{q:Nat}{ks:List Nat}{l:List O}{f f':List Addr}(ch:S1 W c sc env a ρ y (fps y) (.ins q ks l) V s va V' s' f){o:O}{Q:Flow->Shared->Prop}
  (hk:k<bY.length) (hu:ce W.cl V' s'.heap.get? u o f') (nf:f'.Nodup) (hf':∀b∈f',s0.heap.get? b=none/\V' b=none)
  (g1:(decide (ks.length<=900)&&d6 ks)=true) (hup:upd c a ρ (.ins q (upd.setFld ks l k o).1 (upd.setFld ks l k o).2)=some ρ') (fin:KS W sc env X' V0 fps s0 (ρ',none) Q):
  wpAny (model W.prog W.w) A (setAttr va (nm k) u) (λ_=>Q .next) E s':=by
 rw [aB,decide_eq_true_iff]at g1
 obtain ⟨x1,q0,sub,nd,x,v0,hx,hl,rp⟩:=ch
 obtain ⟨ad,dx,es,m,vs,fpl,rfl,rfl,e1,e2,e3,e4,e5,r1⟩:=q0
 have x2:=x0.trans x1
 have X1:=OK.kin _ (h.eo.base.trans (x2.le.trans x2.sub))
 have n1:=aQ.mp nd
 have n2:=aQ.mp n1.2
 have hne:ad≠dx:=λz=>n1.1 (z▸ak)
 have s2:∀b∈fpl,b∈fps y:=λb hb=>sub b (ao _ (ao _ hb))
 have hda:dx∈fps y:=sub dx (ao _ ak)
 have out:∀b∈f',b∉fps y:=λb hb z=>g4 (h.clear y b z).2 (hf' b hb).1
 refine J6 X1 e1 e2 (OK.cls.over q) (OK.cls.attr q k hk) (OK.cls.dict q) (OK.cls.set q) e3 (by omega) λh' hsh tk' k' hs hd=> ?_
 have kp:∀b o,b≠dx->s'.heap.get? b=some o->h'.get? b=some o:=λb o hb e=>hs.extBut b o hb e
 obtain ⟨vs',fp',y1,y2,y3⟩:=y8 (tk:=tk') (hsh:=hsh) (λj hj=>GI hk hj) (hu.mono Le.rfl λb hb x e=>kp b x (λz=>out b hb (z▸hda)) e) Le.rfl g1.2 e5 r1 λb hb x e=>kp b x (λz=>n2.1 (z▸hb)) e
 have nfp:=y3.nd n2.2 nf λb hb z=>out b hb (s2 b z)
 have d1:ad∉fp':=λhb=>(y3.sub _ hb).elim (λz=>out _ z (sub _ ak)) λz=>n1.1 (ao _ z)
 have d2:dx∉fp':=λhb=>(y3.sub _ hb).elim (λz=>out _ z hda) n2.1
 have hlen:(putL (nm k) hsh (.str (nm k) tk') u es).length<=(upd.setFld ks l k o).1.length:=by
  have:=sY (name:=nm k) (hsh:=hsh) (k:= .str (nm k) tk') (v:=u) (es:=es)
  rcases Cn (k:=k) (o:=o) e5 r1.length with ⟨⟨v,hv⟩,z⟩ | z
  ·rw [this.2 ⟨v,lc.mp hv⟩,z];exact e4
  ·rw [z];omega
 obtain ⟨o',fp3,w1,w2,w3⟩:=rp V' h'.get? _ (ad::dx::fp') ⟨Le.rfl,λb hb hn z e=>kp b z (λq=>hn (q▸ao _ ak)) e,
   aQ.mpr ⟨λz=>(aG.mp z).elim hne d1,aQ.mpr ⟨d2,nfp⟩⟩,λb hb hi=>(aG.mp hb).elim (λz=>z▸ak) λhb=>(aG.mp hb).elim (λz=>z▸ao _ ak)
    λhb=>(y3.sub b hb).elim (λz=>absurd hi (out b z)) λz=>ao _ (ao _ z)⟩
  (.ins ad dx _ _ _ _ vs' _ fp' (kp ad _ hne e1) hd (yG e3) hlen y1 y2) ρ' hup
 subst w1
 have own:∀b∈fp3,b∈f'\/b∈fps y:=λb hb=>(w3.sub b hb).elim (λz=>(aG.mp z).elim (λz=> .inr (z▸sub _ ak)) λz=>(aG.mp z).elim (λz=> .inr (z▸hda)) λz=>(y3.sub b z).imp id (s2 b)) λz=> .inr z.1
 obtain ⟨hF,st⟩:=h.mut x2 R (k:=k') hx hda kp (hl.keeps (aS x1.keeps)) w2 w3.nd λb hb=>(own b hb).elim (λz=>⟨(hf' b z).2,.inl (hf' b z).1⟩) λz=>⟨((h.ext x2).clear y b z).1.1,.inr z⟩
 exact fin .next _ V' _ st hF rfl
theorem uM{o:O}(h:xI c a k ρ o=some ρ'):∃q ks l,ev c a ρ=some (.ins q ks l)/\(decide (ks.length<=900)&&d6 ks)=true/\upd c a ρ (.ins q (upd.setFld ks l k o).1 (upd.setFld ks l k o).2)=some ρ':=by
 obtain ⟨r,h3,h⟩:=bind_some h
 cases r with
 | ins q ks l=>
  have h:(if (decide (ks.length<=900)&&d6 ks)=true then upd c a ρ (.ins q (upd.setFld ks l k o).1 (upd.setFld ks l k o).2)else none)=some ρ':=h
  by_cases g:(decide (ks.length<=900)&&d6 ks)=true
  ·rw [if_pos g]at h;exact ⟨q,ks,l,h3,g,h⟩
  ·rw [if_neg g]at h;exact no h
 | _=>exact no h
theorem yn{M:Model}{o:ag}{nme:Str}{p:Pos}{u:Value}{Q:Unit->Shared->Prop}(h:wpAny M A (eval o env) (λov s₁=>wpAny M A (setAttr ov nme u) Q E s₁) E s):wpAny M A (assign (.Attribute o nme p) env u) Q E s:=by
 show wpAny M A (do
  let ov<-holding [u] (eval o env)
  standAt p.atName
  holding [u,ov] (setAttr ov nme u)
  release [u,ov] []) Q E s
 exact wpAny_bind (wpAny_holding (wpAny_mono h (λov s₁ h₁=>wpAny_bind (wpAny_standAt (wpAny_bind (wpAny_holding (wpAny_mono h₁ (λ_ s₂ h₂=>wpAny_release h₂) λ_ _ x=>x))))) λ_ _ x=>x))
theorem yw(OK:W.Ok){g:b6->Option O}(ca:Mg W c n a)(ie:BV W n g e){x:O}(R:db sc){st:Stmt}(hk:FF W.consts (.setAO a k e) sc st=true)(h1:g ρ=some x)(h2:xI c a k ρ x=some ρ')(hA:fD A n){X:List Addr}(h:cU W sc env X V ρ fps s){Q:Flow->Shared->Prop}(q:KS W sc env X V fps s (ρ',none) Q):Gs W A env Q E s st:=by
 obtain ⟨qc,ks,l,h3,g1,hup⟩:=uM h2
 refine kS (P:=Gs W A env Q E s) hk λts v pos hk=>onO_ok (P:=λts=>Gs W A env Q E s (.Assign ts v pos)) hk λtt hk=>iz (P:=λtt=>Gs W A env Q E s (.Assign [tt] v pos)) hk λo nme p hk=>aR hk λk1 hk=>aR hk λk2 hk=>aR hk λk3 hk=>aR hk λk4 hk=>aR hk λk5 k6=> ?_
 rw [eq_of_beq k2]
 obtain ⟨y,hy⟩:=cE.mp k1
 exact lS rfl (o8 k4 rfl) (by unfold swappedStores;rfl) (ie sc v R k6 ρ x h1 A hA env X V s h.eo E _ λu s1 V1 f' x1 r1 nf hf=>yn (ca sc o R k5 y hy ρ _ h3 A hA env X V1 fps s1 (h.ext x1) E _ λva s2 V2 f ch=>
  yA OK R h x1 ch (of_decide_eq_true k3) (r1.mono ch.ext.le λb _ o e=>aS ch.ext.keeps b o e) nf (λb hb=>⟨(hf b hb).1,gG ch.ext (hf b hb).2 (r1.alive b hb)⟩) g1 hup q))
theorem JU(OK:W.Ok)(ca:Mg W c n a)(ie:hE W c n e):Fe W c n (.setA a k e):=by
 intro sc st R hk ρ out hv A hA env X V fps s h E Q q
 obtain ⟨t,h1,hv⟩:=bind_some hv
 obtain ⟨ρ',h2,rfl⟩:=aT hv
 exact yw OK ca ie.gen R hk (x:= .sh t) (by show bZ _ _=_;rw [h1];rfl) h2 hA h q
theorem FY(OK:W.Ok)(ca:Mg W c n a)(ie:xO W c n e):Fe W c n (.setAO a k e):=by
 intro sc st R hk ρ out hv A hA env X V fps s h E Q q
 obtain ⟨t,h1,hv⟩:=bind_some hv
 obtain ⟨ρ',h2,rfl⟩:=aT hv
 exact yw OK ca ie R hk h1 h2 hA h q
theorem JW(OK:W.Ok)(ca:Mg W c n a)(ie:hE W c n e)(op:n6):Fe W c n (.augA a k op e):=by
 intro sc st R hk ρ out hv A hA env X V fps s h E Q q
 obtain ⟨t0,h0,hv⟩:=bind_some hv
 obtain ⟨t,h1,hv⟩:=bind_some hv
 obtain ⟨t2,h2,hv⟩:=bind_some hv
 obtain ⟨ρ',hp,rfl⟩:=aT hv
 obtain ⟨qc,ks,l,h3,g1,hup⟩:=uM hp
 obtain ⟨oi,h0,h0'⟩:=bind_some h0
 obtain ⟨o1,h3',h0⟩:=bind_some h0
 obtain rfl:=ah.inj (h3.symm.trans h3')
 refine og (P:=Gs W A env Q E s) hk λtt qop v pos hk=>iz (P:=λtt=>Gs W A env Q E s (.AugAssign tt qop v pos)) hk λo nme p hk=>aR hk λk0 hk=>aR hk λk1 hk=>aR hk λk2 hk=>aR hk λk3 hk=>aR hk λk5 k6=> ?_
 rw [<-eq_of_beq k0,eq_of_beq k2]
 have k3:=of_decide_eq_true k3
 obtain ⟨y,hy⟩:=cE.mp k1
 refine wpAny_AugAssign_AttributeAny (ca sc o R k5 y hy ρ _ h3 A hA env X V fps s h E _ λva s2 V2 f ch=> ?_)
 have x2:=ch.ext
 refine wQ (OK.kin _ ((h.eo.base.trans x2.le).trans x2.sub)) OK.cls x2.sub ch.rep k3 h0 λv' f' r' _=> ?_
 have c3:=ch.keep (iF.toks x2.sub (s2.toks+1))
 refine ie.t R k6 h1 hA (h.ext c3.ext).eo λu s4 V4 x4 r4=>wA x4.sub ((r'.t? h0').mono x4.le) r4 op _ h2 _ λu2 s5 V5 x5 r5=> ?_
 exact yA OK R h (.refl h.eo.le) (c3.keep (x4.trans x5)) k3 (.sh r5) bL (λb hb=>nomatch hb) g1 hup q
end
end
section
section
variable{W:Wd}{c:d5}{n:Nat}{A:Around}{E:Value->Shared->Prop}{s s' s1 s2:Shared}{env:Env}{V V' V1:aX}{sc:Sc}{ρ ρ':b6}{X':List Addr}{fps fps':Ft}{a b e i:X}{y k:Nat}
theorem yS(h:cU W sc env X' V ρ fps s):interactive env=false:=by unfold interactive;rw [h.eo.kind];rfl
theorem Od(ca:Mg W c n a)(ie:hE W c n e):Fe W c n (.app a e):=by
 intro sc st R hk ρ out hv A hA env X V fps s h E Q q
 obtain ⟨r,h3,hv⟩:=bind_some hv
 obtain ⟨t,h1,hv⟩:=bind_some hv
 cases r with
 | sh _=>exact no hv
 | ins _ _ _=>exact no hv
 | lst l=>
 have hv:(if l.length<=1000 then (upd c a ρ (.lst (l++[.sh t]))).map λr=>(r,(ae:Option T))else ae)=some out:=hv
 by_cases hlen:l.length<=1000
 case neg=>rw [if_neg hlen]at hv;exact no hv
 rw [if_pos hlen]at hv
 obtain ⟨ρ',hp,rfl⟩:=aT hv
 refine yP (P:=Gs W A env Q E s) hk λee ep hk=>iy (P:=λee=>Gs W A env Q E s (.Expr ee ep)) hk λg args kw pos hk=>aR hk λk0 hk=>fJ (P:=λkw=>Gs W A env Q E s (.Expr (.Call g args kw pos) ep)) k0 ?_
 refine iz (P:=λg=>Gs W A env Q E s (.Expr (.Call g args [] pos) ep)) hk λo nme apos hk=>onO_ok (P:=λargs=>Gs W A env Q E s (.Expr (.Call (.Attribute o nme apos) args [] pos) ep)) hk λarg hk=>aR hk λk1 hk=>aR hk λkn hk=>aR hk λk2 hk=>aR hk λk3 hk=>aR hk λk4 hk=>aR hk λk5 k6=> ?_
 obtain rfl:=eq_of_beq kn
 obtain ⟨y,hy⟩:=cE.mp k1
 refine wpAny_Expr_any (wpAny_Call_append (eM k3) (by rw [cF k4];rfl) k2 (by rw [cF k4];rfl) (ca sc o R k5 y hy ρ _ h3 A hA env X V fps s h E _ λva s2 V2 f ch=> ?_)) (yS h)
 obtain ⟨ad0,vs0,m0,_,e0,_,e1,_⟩:=ch.rep
 refine ⟨ad0,vs0.toArray,e0,⟨_,m0,e1,rfl,rfl,rfl⟩,ie.t R k6 h1 hA (h.ext ch.ext).eo λu s5 V5 x5 r5=> ?_⟩
 obtain ⟨ad,vs,m,fpl,e0',e5,r3,nd,fin⟩:=CT R h (.refl h.eo.le) (ch.keep x5)
 obtain rfl:=Value.ref.inj (e0.symm.trans e0')
 obtain rfl:=Mx (aS x5.keeps _ _ e1) e5
 have lv:=r3.length
 refine wpAny_list_append_plain (items:=vs0.toArray) ⟨m,e5⟩ (λh6 hD6 hs6=> ?_) (by rw [sizeLine_eq,aJ];omega)
 obtain ⟨k6,hD6⟩:=hD6
 have kp:∀b o,b≠ad0->s5.heap.get? b=some o->h6.get? b=some o:=λb o=>hs6.extBut b o
 obtain ⟨fps',hF,st⟩:=fin h6 s5.toks (vs0++[u]) (l++[.sh t]) k6 (fpl++([]++[])) kp (hD6.trans (by rw [Jn])) ((r3.mono Le.rfl λb hb x e=>kp b x (λq=>(aQ.mp nd).1 (q▸hb)) e).append (bw.cons (ce.sh r5) .nil))
  (by rw [bc,bc];exact (aQ.mp nd).2) (λb hb=>by rwa [bc,bc]at hb) ρ' hp
 exact q .next _ V5 fps' st hF rfl
theorem Cm{o o':O}:∀{r:b6} {i:Nat},fO (fO r i o) i o'=fO r i o'
 |[],_=>rfl
 | _::_,0=>rfl
 | a::r,i+1=>congrArg (a:: ·) (Cm (r:=r) (i:=i))
theorem Oa(ie:hE W c n e):Fe W c n (.ext y e):=by
 intro sc st R hk ρ out hv A hA env X V fps s h E Q q
 obtain ⟨r,h3,hv⟩:=bind_some hv
 obtain ⟨t,h1,hv⟩:=bind_some hv
 cases r with
 | sh _=>exact no hv
 | ins _ _ _=>exact no hv
 | lst l=>
 cases t with
 | list m=>
  have hv:(if l.length<=1000/\m.length<=1000 then some (fO ρ y (.lst (l++m.map .sh)),(ae:Option T))else ae)=some out:=hv
  by_cases hlen:l.length<=1000/\m.length<=1000
  case neg=>rw [if_neg hlen]at hv;exact no hv
  rw [if_pos hlen]at hv
  obtain rfl:=ah.inj hv
  refine og (P:=Gs W A env Q E s) hk λtt o v pos hk=>dL (P:=λtt=>Gs W A env Q E s (.AugAssign tt o v pos)) hk λx p hk=>aR hk λk1 hk=>aR hk λk2 k3=>xi k2 λhx hkd hpin hpn=> ?_
  rw [<-eq_of_beq k1]
  obtain ⟨v0,l0,r0⟩:=h.own x y hx _ h3
  refine wpAny_AugAssign_Name (l0.name h.eo.kind hpn (ie.t R k3 h1 hA h.eo λu s1 V1 x1 r1=> ?_))
  have hh:=h.ext x1
  obtain ⟨ad,vs,mm,fpl,rfl,hfp,e1,r3⟩:=r0
  obtain ⟨bd,us,m2,rfl,e2,r4⟩:=r1
  have nd:=h.nodup y
  rw [hfp]at nd
  have lv:=r3.length
  have lu:=r4.length
  have ha:∀b∈ad::fpl,b∈fps y:=λb hb=>hfp▸hb
  refine G6 (aS x1.keeps _ _ e1) (x1.sub _ _ e2) (by omega) (by omega) λh6 k6 hs6 hD6=> ?_
  have kp:∀b o,b≠ad->s1.heap.get? b=some o->h6.get? b=some o:=λb o=>hs6.extBut b o
  have rn:ce W.cl V1 h6.get? (.ref ad) (.lst (l++m.map .sh)) (ad::(fpl++[])):=
   .lst ad _ _ _ _ hD6 ((r3.mono x1.le λb hb x e=>kp b x (λq=>(aQ.mp nd).1 (q▸hb)) (aS x1.keeps _ _ e)).append (bw.ofReps (g:=h6.get?) r4))
  rw [bc]at rn
  obtain ⟨hm,stm⟩:=h.mut x1 R (k:=s1.toks) hx (ha ad ak) kp (l0.keeps (aS x1.keeps)) rn nd λb hb=>⟨(hh.clear y b (ha b hb)).1.1,.inr (ha b hb)⟩
  have cl:∀b∈ad::fpl,b∈gx fps y (ad::fpl) y:=λb hb=>by rw [kR];exact hb
  refine hm.store R hx hkd rn nd (λb hb=>⟨(hm.clear y b (cl b hb)).1,λj hj=>hm.disj y j b (Ne.symm hj) (cl b hb)⟩) λh' tk hF un=> ?_
  rw [Cm]at hF
  exact q .next _ V1 _ (stm.trans hm.al (d8.store un (by rw [h.eo.scope];exact hpin) λb hb=> .inr ⟨y,cl b hb⟩)) hF rfl
 | _=>exact no hv
theorem d8.refp{G:Ft}(x:d8 fps env V s V' s' G)(h:∀i a,a∈fps' i->a∈G i\/s.heap.get? a=none):d8 fps env V s V' s' fps':=
 ⟨x.same,x.le,x.new,x.keep,λi a ha=>(h i a ha).elim (x.fps i a) .inl,x.pin⟩
theorem iR(h:cU W sc env X' V ρ fps s){b:Addr}(hb:s.heap.get? b=none)(hv:V1 b=none):nY env X' V1 b/\∀j,b∉fps j:=
 ⟨⟨hv,λq=>g4 (h.al _ (.inl rfl)) (q▸hb),λq=>g4 (h.eo.xs b q).2 hb,λz d e q=>g4 (h.al d (.inr ⟨z,e⟩)) (q▸hb)⟩,λj q=>g4 (h.clear j b q).2 hb⟩
theorem d8.storeX(h:cU W sc env X' V ρ fps s)(xe:iF V s V1 s1){x:Str}{h':Heap}{tk:Nat}{fp:List Addr}(un:lj env x s1.heap h'/\∀y u,y≠x->b9 env s1.heap y u->b9 env h' y u)(hpin:qb sc.scope≠some x)(hf:∀a∈fp,s.heap.get? a=none):
  d8 fps env V s V1 {s1 with heap:=h',toks:=tk} (gx fps y fp):=
 ((d8.ofExt xe).trans (h.ext xe).al (d8.store (i:=y) (fp:=[]) un (by rw [h.eo.scope];exact hpin) λb hb=>nomatch hb)).refp λj b hb=>eN hb (λ_ hb=> .inr (hf b hb)) λq hb=> .inl (by rw [jq q];exact hb)
theorem vD{g:b6->Option O}(ie:BV W n g e){o:O}(R:db sc){x:Str}{p pos:Pos}{v:ag}(hx:sc.res.lookup x=some y)(hkd:TI.kd sc x=some .local\/TI.kd sc x=some .cell)(hpin:qb sc.scope≠some x)(k3:cG W.consts e sc v=true)(hs:swapsWith v (some (.Name x p)) pos.line env=pure false)
  (h1:g ρ=some o) (hA:fD A n) (h:cU W sc env X' V ρ fps s) {Q:Flow->Shared->Prop} (q:KS W sc env X' V fps s (fO ρ y o,none) Q):Gs W A env Q E s (.Assign [.Name x p] v pos):=
 wpAny_Assign_Name (ie sc v R k3 ρ o h1 A hA env X' V s h.eo E _ λu s1 V1 fp x1 r1 nd hf=>(h.ext x1).store R hx hkd r1 nd (λa ha=>have z:=iR h (hf a ha).1 (hf a ha).2;⟨z.1,λj _=>z.2 j⟩) λh' tk hF un=>
  q .next _ V1 _ (d8.storeX h x1 un hpin λa ha=>(hf a ha).1) hF rfl) hs
theorem FX(R:db sc)(h:cU W sc env X' V ρ fps s){x:Str}{p:Pos}{D L:Addr}{o:TI.O}{fp:List Addr}{m:Str->Option Value}{Q:Flow->Shared->Prop}(hx:sc.res.lookup x=some y)(hkd:TI.kd sc x=some .local\/TI.kd sc x=some .cell)(hpin:qb sc.scope≠some x)
  (xe:iF V s V1 s1) (r:ce W.cl V1 s1.heap.get? (.ref D) o fp) (nd:fp.Nodup) (hf:∀a∈fp,s.heap.get? a=none/\V1 a=none) (hL:s.heap.get? L=none) (hVL:V1 L=none) (hLf:L∉fp) (hm:s1.heap.Ns L m)
  (q:KS W sc env X' V fps s (fO ρ y o,none) Q):compPost (model W.prog W.w) A E (some (assign (.Name x p) env)) (λ_ s'=>Q .next s') (.ref D) L (.ok .next) s1:=by
 have hh:=h.ext xe
 have cL:=iR h hL hVL
 have h2:=hh.more hVL (ju hm) cL.1.2.1 (λz d e=>cL.1.2.2.2 z d e) cL.2
 show wpAny _ A (assign (.Name x p) env (.ref D)) _ _ _
 refine wpAny_assign_Name ?_
 refine h2.store R hx hkd r nd (λb hb=>have ⟨⟨c1,c2,c3,c4⟩,c5⟩:=iR h (hf b hb).1 (hf b hb).2;⟨⟨c1,c2,λz=>(aG.mp z).elim (λz=>hLf (z▸hb)) c3,c4⟩,λj _=>c5 j⟩) λh' tk hF un=> ?_
 refine ⟨m,hm.at' λo e=>un.1 L o cL.1.2.1 (λd e'=>cL.1.2.2.2 x d e') e,λh3 hs3=> ?_⟩
 exact q .next _ V1 _ ((d8.storeX h xe un hpin λa ha=>(hf a ha).1).fresh hL (λb o hb e=>hs3.extBut b o hb e) (hF.lk ak λb o hb e=>hs3.extBut b o hb e))
  (hF.gone (k:=tk) (a:=L) (X':=X') ak (λb hb=>⟨ao _ hb,λq=>cL.1.2.2.1 (q▸hb)⟩) (h':=h3) λb o hb e=>hs3.extBut b o hb e) rfl
theorem zu{tg:List Nat}{src qq el:X}{g:b6->Option O}{l:List T}{os:List O}(isrc:hE W c n src)(iq:km W c n qq)(ie:BV W n g el){o:O}(R:db sc){x:Str}{p pos:Pos}{v:ag}(hx:sc.res.lookup x=some y)(hkd:TI.kd sc x=some .local\/TI.kd sc x=some .cell)(hpin:qb sc.scope≠some x)(k3:cG W.consts (.comp tg src qq el) sc v=true)
  (hs:swapsWith v (some (.Name x p)) pos.line env=pure true) (h1:((ev c src ρ).bind O.t?).bind lB=some l) (h3:gQ (P9 c qq) g tg ρ l=some os)
  (ho:∀D s' V' vs fp m,iF V s V' s'->s'.heap.get? D=some (listOf vs.toArray m)->bw W.cl V' s'.heap.get? vs os fp->(D::fp).Nodup->(∀a∈D::fp,s.heap.get? a=none/\V' a=none)->
   ∃V2 f2,iF V s V2 s'/\ce W.cl V2 s'.heap.get? (.ref D) o f2/\f2.Nodup/\(∀a∈f2,a∈D::fp/\V2 a=none)/\∀b,b∉D::fp->V' b=none->V2 b=none)
  (hA:fD A n) (h:cU W sc env X' V ρ fps s) {Q:Flow->Shared->Prop} (q:KS W sc env X' V fps s (fO ρ y o,none) Q):Gs W A env Q E s (.Assign [.Name x p] v pos):=by
 refine tv (E:=E) (P:=λv=>swapsWith v (some (.Name x p)) pos.line env=pure true->Gs W A env Q E s (.Assign [.Name x p] v pos)) isrc iq ie R k3 hA h.eo h1 h3 (λelt target iter ifs scope cpos kk hs=> ?_) hs
 show wpAny _ _ _ _ _ _
 rw [exec_Assign_Name_used _ _ _ _ hs]
 refine wpAny_bind (wpAny_standAt (wpAny_bind ?_))
 show wpAny _ A (do let _<-comprehension (.ListComp elt [⟨target,iter,ifs,0⟩] scope cpos) scope env _ (newList []) false (eval iter env) (some (assign (.Name x p) env))) _ _ s
 refine wpAny_bind (wpAny_mono (kk _ (some (assign (.Name x p) env)) (λ_ s'=>Q .next s') λD L s' V' vs fp m mm xx hD rs nd hf hL hVL hLD hm=> ?_) (λ_ s' hq=>wpAny_pure (wpAny_pure hq)) λ_ _ e=>e)
 obtain ⟨V2,f2,x2,r2,n2,z1,z2⟩:=ho D s' V' vs fp m xx hD rs nd hf
 exact FX R h hx hkd hpin x2 r2 n2 (λa ha=>⟨(hf a (z1 a ha).1).1,(z1 a ha).2⟩) hL (z2 L hLD hVL) (λz=>hLD (z1 L z).1) hm q
theorem zn{cs:List (Str×T)}{v:ag}{x:X}{z:Str}{p:Pos}(h:cG cs x sc v=true)(hs:TR sc v z p=true):∃tg src q el,x= .comp tg src q el:=by
 cases v with
 | ListComp elt gs scope pos=>
  cases x with
  | comp tg src q el=>exact ⟨tg,src,q,el,rfl⟩
  | _=>exact aL (show false=true from h)
 | _=>exact aL (show false=true from hs)
theorem Oc(OK:W.Ok)(oc:fm W n c):Fe W c n (.asg y e):=by
 intro sc st R hk ρ out hv A hA env X V fps s h E Q q
 obtain ⟨t,h1,rfl⟩:=aT hv
 refine kS (P:=Gs W A env Q E s) hk λts v pos hk=>onO_ok (P:=λts=>Gs W A env Q E s (.Assign ts v pos)) hk λtt hk=>dL (P:=λtt=>Gs W A env Q E s (.Assign [tt] v pos)) hk λx p hk=>aR hk λk1 hk=>aR hk λk2 k3=>xi k1 λhx hkd hpin hpn=> ?_
 have hs:=yu h.eo (x:=x) (p:=p) (line:=pos.line) k2
 cases hsw:TR sc v x p with
 | false=>
  rw [hsw]at hs
  exact vD (iH OK oc e).gen R hx hkd hpin k3 hs (o:= .sh t) (by show bZ _ _=_;rw [h1];rfl) hA h q
 | true=>
  rw [hsw]at hs
  obtain ⟨tg,src,qq,el,rfl⟩:=zn k3 hsw
  obtain ⟨o1,h1,h1'⟩:=bind_some h1
  obtain ⟨l,h2,h1⟩:=bind_some h1
  obtain ⟨ts,h4,rfl⟩:=aT h1
  obtain rfl:=ah.inj h1'
  refine zu (iH OK oc src) (tI OK oc qq) (iH OK oc el).gen R hx hkd hpin k3 hs h2 (lg (u:=O.sh) h4) (λD s' V' vs fp m xx hD rs nd hf=> ?_) hA h q
  obtain ⟨rs',rfl⟩:=rs.shs
  exact ⟨vR V' s'.heap [D],[],xx.freeze λa ha=>hf a ha,.sh (.list D vs m ts (by rw [oS (aN.mpr rfl)];exact hD) (rs'.mono (oR λa ha=>(hf a ha).2))),bL,λa ha=>(nomatch ha),λb hb hv=>(if_neg hb).trans hv⟩
theorem JX(OK:W.Ok)(oc:fm W n c):Fe W c n (.asgO y e):=by
 intro sc st R hk ρ out hv A hA env X V fps s h E Q q
 obtain ⟨o,h1,rfl⟩:=aT hv
 refine kS (P:=Gs W A env Q E s) hk λts v pos hk=>onO_ok (P:=λts=>Gs W A env Q E s (.Assign ts v pos)) hk λtt hk=>dL (P:=λtt=>Gs W A env Q E s (.Assign [tt] v pos)) hk λx p hk=>aR hk λk1 hk=>aR hk λk2 k3=>xi k1 λhx hkd hpin hpn=> ?_
 have hs:=yu h.eo (x:=x) (p:=p) (line:=pos.line) k2
 cases hsw:TR sc v x p with
 | false=>
  rw [hsw]at hs
  exact vD (BH OK oc e) R hx hkd hpin k3 hs h1 hA h q
 | true=>
  rw [hsw]at hs
  obtain ⟨tg,src,qq,el,rfl⟩:=zn k3 hsw
  obtain ⟨l,h2,h1⟩:=bind_some h1
  obtain ⟨os,h4,rfl⟩:=aT h1
  exact zu (iH OK oc src) (tI OK oc qq) (BH OK oc el) R hx hkd hpin k3 hs h2 h4 (λD s' V' vs fp m xx hD rs nd hf=>⟨V',D::fp,xx,.lst D vs m os fp hD rs,nd,λa ha=>⟨ha,(hf a ha).2⟩,λb _ hv=>hv⟩) hA h q
end
end
section
noncomputable def zR(W:Wd)(n:Nat)(c:d5):Prop:=∀f r l o,c.io f r l=some o->∀A,fD A n->∀V s,Le W.B V->Le V s.heap.get? ->∀v0 fp vs,ce W.cl V s.heap.get? v0 r fp->fp.Nodup->(∀a∈fp,V a=none)->bA W.cl V vs l->∀(E Q:Value->Shared->Prop),
 (∀v s' V' fp',(∃h' k,s'={s with heap:=h',toks:=k})->Le V V'->Le V' s'.heap.get? ->(∀a o,V' a=some o->V a=some o\/s.heap.get? a=none\/a∈fp)->(∀b o,b∉fp->s.heap.get? b=some o->s'.heap.get? b=some o)->
  ce W.cl V' s'.heap.get? v0 o fp'->fp'.Nodup->(∀a∈fp',V' a=none/\(s.heap.get? a=none\/a∈fp))->Q v s')->wpAny (model W.prog W.w) A (kB (.ref (W.fa f)) (v0::vs)) Q E s
section
variable{W:Wd}{c:d5}{n:Nat}{A:Around}{E:Value->Shared->Prop}{s s' s1 s2:Shared}{env:Env}{V V' V1:aX}{sc:Sc}{ρ ρ':b6}{X':List Addr}{fps fps':Ft}{a b e i:X}{y k:Nat}{q:X}{sa sb:S}
theorem QQ(OK:W.Ok)(io:zR W n c)(ia:sO W c n a){f:Nat}:Fe W c n (.callIO f y a):=by
 intro sc st R hk ρ out hv A hA env X V fps s h E Q q
 obtain ⟨r,h1,hv⟩:=bind_some hv
 obtain ⟨l,h2,hv⟩:=bind_some hv
 obtain ⟨o,h3,rfl⟩:=aT hv
 refine yP (P:=Gs W A env Q E s) hk λee ep hk=>iy (P:=λee=>Gs W A env Q E s (.Expr ee ep)) hk λg args kw cpos hk=>aR hk λk0 hk=>fJ (P:=λkw=>Gs W A env Q E s (.Expr (.Call g args kw cpos) ep)) k0 ?_
 refine dL (P:=λg=>Gs W A env Q E s (.Expr (.Call g args [] cpos) ep)) hk λg gp hk=>fH (P:=λargs=>Gs W A env Q E s (.Expr (.Call (.Name g gp) args [] cpos) ep)) hk λa0 args hk=> ?_
 refine dL (P:=λa0=>Gs W A env Q E s (.Expr (.Call (.Name g gp) (a0::args) [] cpos) ep)) hk λx xp hk=>aR hk λk1 hk=>aR hk λk2 hk=>aR hk λk3 hk=>aR hk λk4 k5=> ?_
 have k3:=eq_of_beq k3
 obtain ⟨hm,hfo⟩:=OK.fn _ _ (eq_of_beq k1)
 obtain ⟨ob,fd,ho,hd⟩:=hfo _ (h.eo.base.trans h.eo.le)
 obtain ⟨v0,l0,r0⟩:=h.own x y k3 r h1
 have hp:(ag.Name x xp::args).all fW=true:=(oT).trans (jL k5)
 refine wpAny_Expr_any (wpAny_Call_NameR (h.eo.glob OK k2 hm ?_)) (yS h)
 refine Calls.callWith_function (o:=ob) (fd:=fd) (gU hp (wpAny_items_cons (l0.eval h.eo.kind k4 ?_)))
 refine ia sc args R k5 ρ l h2 A hA env X V s h.eo cpos E _ λvs s1 V1 x1 r1=>⟨⟨aS x1.keeps _ _ ho,hd⟩,?_⟩
 have hh:=h.ext x1
 refine io f r l o h3 A hA V1 s1 (h.eo.base.trans x1.le) x1.sub v0 (fps y) vs (r0.mono x1.le λb _ o e=>aS x1.keeps b o e) (h.nodup y) (λb hb=>(hh.clear y b hb).1.1) r1 E _ λv s' V' fp' same le sub new keep rn nd hfp=> ?_
 have hl:b9 env s'.heap x v0:=kE (λo=>keep _ o λz=>(hh.clear y _ z).1.2.1 rfl) (λw d e o=>keep d o λz=>(hh.clear y d z).1.2.2.2 w d e rfl) (l0.keeps (aS x1.keeps))
 obtain ⟨hF,st⟩:=hh.io R k3 hl same le sub new keep rn nd hfp
 exact q .next s' V' _ ((d8.ofExt x1).trans hh.al st) hF rfl
theorem KS.pre{out:n4}{Q:Flow->Shared->Prop}{V0:aX}{s0:Shared}{fps0:Ft}(q:KS W sc env X' V0 fps0 s0 out Q)(st:d8 fps0 env V0 s0 V s fps)(h:cU W sc env X' V ρ fps s):KS W sc env X' V fps s out Q:=
 λfl s' V' fps' st' hF fo=>q fl s' V' fps' (st.trans h.al st') hF fo
theorem N9(iq:km W c n q)(ia:P8 W c n sa)(ib:P8 W c n sb):Fe W c n (.iff q sa sb):=by
 intro sc st R hk ρ out hv A hA env X V fps s h E Q qq
 obtain ⟨v,h1,hv⟩:=bind_some hv
 refine GC (P:=Gs W A env Q E s) hk λt x y pos hk=>aR hk λk1 hk=>aR hk λk2 k3=>wpAny_If (iq sc _ R k1 ρ v h1 A hA env X V s h.eo E _ λs1 V1 x1=> ?_)
 have hh:=h.ext x1
 have qq:=qq.pre (.ofExt x1) hh
 cases v with
 | true=>exact ia sc _ R k2 ρ out hv A hA env X V1 fps s1 hh E Q qq
 | false=>exact ib sc _ R k3 ρ out hv A hA env X V1 fps s1 hh E Q qq
theorem sP{ob out:n4}{fl:Flow}{P:Prop}{r:b6->Option n4}(hf:(match ob.2 with | some v=>some (ob.1,some v) | ae=>r ob.1)=some out)(fo:IJ W V fl ob.2)(k1:fl= .next->r ob.1=some out->P)(k2:∀t v,fl= .ret v->dw W.cl V v t->ob.1=out.1->out.2=some t->P):P:=by
 obtain ⟨ρ5,ro⟩:=ob
 cases ro with
 | none=>exact k1 fo hf
 | some t=>
  obtain ⟨v,e,r⟩:=fo
  obtain rfl:=ah.inj (show some (ρ5,some t)=some out from hf)
  exact k2 t v e r rfl rfl
theorem cU.safe(h:cU W sc env X' V ρ fps s)(st:d8 fps env V s V' s' fps'){d:Addr}(hd:d∈X'\/∃o,V d=some o){o:Obj}(e:s.heap.get? d=some o):s'.heap.get? d=some o:=
 hd.elim (λhd=>st.keep d o (λz=>h.eo.locX (z▸hd)) (λx c e' z=>(h.eo.cellA x c e').2.2.2 (z▸hd)) (λj z=>(h.clear j d z).1.2.2.1 hd) e)
  λhd=>st.keep d o (λz=>g4 hd (z▸h.eo.locV)) (λx c e' z=>g4 hd (z▸(h.eo.cellA x c e').2.1)) (λj z=>g4 hd (h.clear j d z).1.1) e
structure UW(W:Wd)(sc:Sc)(env:Env)(I:Addr)(X:List Addr)(V1 V:aX)(fps:Ft)(s:Shared)(out:n4)(body:b6->Option n4)(tg:List Nat)(l:List T)(St:Nat->Heap->Prop)(i:Nat)(V2:aX)(ρ2:b6)(fps2:Ft)(s2:Shared):Prop where
 le:i<=l.length
 ok:cU W sc env (I::X) V2 ρ2 fps2 s2
 st:St i s2.heap
 run:fQ body tg (l.drop i) ρ2=some out
 step:d8 fps env V s V2 s2 fps2
 lv:Le V1 V2
theorem N_(isrc:hE W c n e)(ib:P8 W c n sb){tg:List Nat}:Fe W c n (.forr tg e sb):=by
 intro sc st R hk ρ out hv A hA env X V fps s h E Q q
 obtain ⟨l,h1,hv⟩:=bind_some hv
 obtain ⟨t,h1,h2⟩:=bind_some h1
 refine GD (P:=Gs W A env Q E s) hk λtarget iter body els pos hk=>aR hk λk0 hk=>fJ (P:=λels=>Gs W A env Q E s (.For target iter body els pos)) k0 ?_
 obtain ⟨ns,hns,hk⟩:=dk hk
 refine aR hk λk1 hk=>aR hk λk2 hk=>aR hk λk3 k4=>yt k1 λg1 g2 g3=> ?_
 refine wpAny_For (isrc.t R k3 h1 hA h.eo λu s1 V1 x1 r1=>C0 hA.handled x1.sub r1 _ h2 _ λI fp P St h' It hI hk0 hal hst=> ?_) (λx=>nK k2 env x)
 have x12:=x1.trans (iF.heap (k:=s1.toks) x1.sub hk0)
 have hh:=h.ext x12
 have hI0:=ol x1 hI
 have cI:=iR (h.ext x1) hI (Tn x1.sub hI)
 have hI1:=hh.more (L:=I) (Tn x1.sub hI) hal cI.1.2.1 (λz d e=>cI.1.2.2.2 z d e) cI.2
 have fin:∀{s3:Shared} {V3:aX} {ρ3:b6} {fps3:Ft} {h3:Heap} {k3:Nat},cU W sc env (I::X) V3 ρ3 fps3 s3->(∀b o,b≠I->s3.heap.get? b=some o->h3.get? b=some o)->cU W sc env X V3 ρ3 fps3 {s3 with heap:=h3,toks:=k3}:=λhF hk=>
  hF.gone (a:=I) ak (λb hb=>⟨ao _ hb,λq=>cI.1.2.2.1 (q▸hb)⟩) hk
 refine codeAny_forLoop_any (λnn s2=>∃i V2 ρ2 fps2,nn=(l.drop i).length+1/\UW W sc env I X V1 V fps s out (ex c sb) tg l St i V2 ρ2 fps2 s2) ?_ (l.length+1)
  ⟨0,V1,ρ,fps,rfl,aE _,hI1,hst,hv,.ofExt x12,Le.rfl⟩
 rintro nn s2 ⟨i,V2,ρ2,fps2,rfl,hi,hF,st2,hf,stp,hV2⟩
 have one:∀{h3:Heap},(∀b o,b∉[I]->s2.heap.get? b=some o->h3.get? b=some o)->∀b o,b≠I->s2.heap.get? b=some o->h3.get? b=some o:=λhk b o hb=>hk b o λz=>hb (aN.mp z)
 rcases iU i l.length with hlt | hge
 ·refine It.walks.item i s2 _ _ hlt st2 λv h3 tk hp hst3 hk3=> ?_
  obtain ⟨tt,hnt,rt⟩:=It.items i v hlt hp
  have hk1:=one hk3
  obtain ⟨oI,eI,_⟩:=It.quiet _ _ hst3
  have hF3:=hF.other (k:=tk) ak hk1 ⟨oI,eI⟩
  have stp3:d8 fps env V s V2 {s2 with heap:=h3,toks:=tk} fps2:=stp.fresh hI0 hk1 (hF.lk ak hk1)
  have hdr:=po hnt
  have dec:(l.drop (i+1)).length+1<(l.drop i).length+1:=by rw [hdr];exact cn _
  rw [hdr]at hf
  obtain ⟨ρ3,hb,hf⟩:=bind_some hf
  obtain ⟨ob,hbo,hf⟩:=bind_some hf
  refine kA (It.quiet _ _ hst3) (su hA.handled R hns g1 g2 g3 hb hF3 (rt.mono hV2) λs4 fps4 hF4 st4=> ?_)
  have old:∀{b:Addr},b∈fp->b∈I::X\/∃o,V2 b=some o:=λhb=>(It.old _ hb).elim (λz=> .inl (z▸ak)) λ⟨o',z⟩=> .inr ⟨o',hV2 _ _ z⟩
  have hst4:St (i+1) s4.heap:=It.walks.frame _ _ _ hst3 λb hb o e=>hF3.safe st4 (old hb) e
  refine ib sc body R k4 ρ3 ob hbo A hA env (I::X) V2 fps4 _ hF4 _ _ λfl s5 V5 fps5 st5 hF5 fo=> ?_
  have hst5:St (i+1) s5.heap:=It.walks.frame _ _ _ hst4 λb hb o e=>hF4.safe st5 (old hb) e
  have stp5:=stp3.trans hF3.al (st4.trans hF4.al st5)
  refine sP hf fo (λe hf=> ?_) λt v e r e1 e2=> ?_
  ·subst e
   exact ⟨_,dec,i+1,V5,ob.1,fps5,rfl,hlt,hF5,hst5,hf,stp5,hV2.trans st5.le⟩
  ·subst e
   exact q _ s5 V5 fps5 stp5 (e1▸fin hF5 λ_ _ _ e=>e) (e2▸⟨v,rfl,r⟩)
 ·obtain rfl:i=l.length:=PW hi hge
  refine It.walks.done s2 _ _ st2 λh3 tk hk3=> ?_
  have hk1:=one hk3
  rw [L_]at hf
  obtain rfl:=ah.inj hf
  exact wpAny_execs_nil (q .next _ V2 fps2 (stp.fresh hI0 hk1 (hF.lk ak hk1)) (fin hF hk1) rfl)
theorem N7(iq:km W c n q)(ib:P8 W c n sb):Fe W c n (.whl q sb):=by
 intro sc st R hk ρ out hv A hA env X V fps s h E Q qq
 refine Gx (P:=Gs W A env Q E s) hk λtest body els pos hk=>aR hk λk0 hk=>fJ (P:=λels=>Gs W A env Q E s (.While test body els pos)) k0 (aR hk λk1 k2=> ?_)
 refine wpAny_While (codeAny_whileLoop (λnn s2=>∃V2 ρ2 fps2,cU W sc env X V2 ρ2 fps2 s2/\qJ (tst c q) (ex c sb) nn ρ2=some out/\d8 fps env V s V2 s2 fps2) ?_ jW ⟨V,ρ,fps,h,hv,.refl⟩)
 rintro nn s2 ⟨V2,ρ2,fps2,hF,hw,stp⟩
 cases nn with
 | zero=>exact no hw
 | succ nn=>
 obtain ⟨bb,h1,hw⟩:=bind_some hw
 refine iq sc test R k1 ρ2 bb h1 A hA env X V2 s2 hF.eo _ _ λs3 V3 x3=> ?_
 have hF3:=hF.ext x3
 have stp3:=stp.trans hF.al (d8.ofExt x3)
 cases bb with
 | false=>
  obtain rfl:=ah.inj hw
  exact wpAny_execs_nil (qq .next s3 V3 fps2 stp3 hF3 rfl)
 | true=>
  obtain ⟨ob,hbo,hw⟩:=bind_some hw
  refine ib sc body R k2 ρ2 ob hbo A hA env X V3 fps2 s3 hF3 _ _ λfl s5 V5 fps5 st5 hF5 fo=> ?_
  have stp5:=stp3.trans hF3.al st5
  refine sP hw fo (λe hw=> ?_) λt v e r e1 e2=> ?_
  ·subst e
   exact ⟨nn,cn _,V5,ob.1,fps5,hF5,hw,stp5⟩
  ·subst e
   exact qq _ s5 V5 fps5 stp5 (e1▸hF5) (e2▸⟨v,rfl,r⟩)
theorem LP:P8 W c n .skip:=by
 intro sc sts R hk ρ out hv A hA env X V fps s h E Q q
 obtain rfl:=ah.inj hv
 exact fJ (P:=λsts=>wpAny (model W.prog W.w) A (execs sts env) Q E s) hk (wpAny_execs_nil (q .next s V fps .refl h rfl))
theorem PA(it:Fe W c n sa)(ir:P8 W c n sb):P8 W c n (.seq sa sb):=by
 intro sc sts R hk ρ out hv A hA env X V fps s h E Q q
 obtain ⟨o1,h1,hv⟩:=bind_some hv
 cases hz:I_ sa with
 | some y=>
  have e:sa= .frz y:=by cases sa<;>first | exact no hz | exact congrArg S.frz (ah.inj hz)
  subst e
  refine aR (show ((sc.res.any λp=>(p.2==y)&&(sc.res.lookup p.1==some y))&&qe W.consts sb sc sts)=true from hk) λk1 k2=> ?_
  obtain ⟨p,_,hp⟩:=cm.mp k1
  obtain ⟨oo,hg,rfl⟩:=aT h1
  obtain ⟨hF,st⟩:=h.frz R hg (eq_of_beq (bH.mp hp).2)
  exact ir sc sts R k2 _ out hv A hA env X _ _ s hF E Q (q.pre st hF)
 | none=>
  have hk':M_ sts (λst sts=>FF W.consts sa sc st&&qe W.consts sb sc sts)=true:=by
   have:((I_ sa).casesOn (motive:=λ_=>Bool) (M_ sts λst sts=>FF W.consts sa sc st&&qe W.consts sb sc sts) λy=>(sc.res.any λp=>(p.2==y)&&(sc.res.lookup p.1==some y))&&qe W.consts sb sc sts)=true:=hk
   rw [hz]at this;exact this
  refine fH (P:=λsts=>wpAny (model W.prog W.w) A (execs sts env) Q E s) hk' λst sts hk=>aR hk λk1 k2=>wpAny_execs_cons (it sc st R k1 ρ o1 h1 A hA env X V fps s h E _ λfl s2 V2 fps2 st2 hF2 fo=> ?_)
  refine sP hv fo (λe hv=> ?_) λt v e r e1 e2=> ?_
  ·subst e
   exact ir sc sts R k2 o1.1 out hv A hA env X V2 fps2 s2 hF2 E Q (q.pre st2 hF2)
  ·subst e
   exact q _ s2 V2 fps2 st2 (e1▸hF2) (e2▸⟨v,rfl,r⟩)
structure SP(W:Wd)(c:d5)(n:Nat)(t:S):Prop where
 st:Fe W c n t
 bl:P8 W c n t
theorem I2(h:∀cs sc st,FF cs sa sc st=false):Fe W c n sa:=λsc st _ hk=>aL ((h _ _ _).symm.trans hk)
theorem Na(h:∀cs sc st,qe cs sa sc st=false):P8 W c n sa:=λsc st _ hk=>aL ((h _ _ _).symm.trans hk)
theorem SP.of(h:Fe W c n sa)(k:∀cs sc st,qe cs sa sc st=false):SP W c n sa:=⟨h,Na k⟩
theorem QS(OK:W.Ok)(oc:fm W n c)(io:zR W n c)(t:S):SP W c n t:=by
 have ev:=iH OK oc
 have ch:=RL OK oc
 induction t with
 | skip=>exact ⟨I2 λ_ _ _=>rfl,LP⟩
 | seq a b ia ib=>exact ⟨I2 λ_ _ _=>rfl,PA ia.st ib.bl⟩
 | frz y=>exact ⟨I2 λ_ _ _=>rfl,Na λ_ _ _=>rfl⟩
 | asg y e=>exact .of (Oc OK oc) λ_ _ _=>rfl
 | asgO y e=>exact .of (JX OK oc) λ_ _ _=>rfl
 | tupa ys e=>exact .of (JS (ev e)) λ_ _ _=>rfl
 | setI a i e=>exact .of (JT (ch a) (ev i) (ev e)) λ_ _ _=>rfl
 | setA a k e=>exact .of (JU OK (ch a) (ev e)) λ_ _ _=>rfl
 | setAO a k e=>exact .of (FY OK (ch a) (BH OK oc e)) λ_ _ _=>rfl
 | aug y op e=>exact .of (Ob (ev e) op) λ_ _ _=>rfl
 | augI a i op e=>exact .of (JV (ch a) (ev i) (ev e) op) λ_ _ _=>rfl
 | augA a k op e=>exact .of (JW OK (ch a) (ev e) op) λ_ _ _=>rfl
 | iff q a b ia ib=>exact .of (N9 (tI OK oc q) ia.bl ib.bl) λ_ _ _=>rfl
 | forr tg src b ib=>exact .of (N_ (ev src) ib.bl) λ_ _ _=>rfl
 | whl q b ib=>exact .of (N7 (tI OK oc q) ib.bl) λ_ _ _=>rfl
 | ret e=>exact .of (N8 (ev e)) λ_ _ _=>rfl
 | app a e=>exact .of (Od (ch a) (ev e)) λ_ _ _=>rfl
 | ext y e=>exact .of (Oa (ev e)) λ_ _ _=>rfl
 | callIO f y a=>exact .of (QQ OK io (Iq OK oc a)) λ_ _ _=>rfl
theorem RN(OK:W.Ok)(oc:fm W n c)(io:zR W n c)(t:S):P8 W c n t:=(QS OK oc io t).bl
end
end
section
theorem jS:∀{ns:List Str} {vs:List Value},ns.length=vs.length->∀n∈ns,((ns.zip vs).lookup n).isNone=false
 |[],_,_,_,h=>nomatch h
 | _::_,[],h,_,_=>nomatch h
 | a::ns,v::vs,h,n,hn=>by
  rw [iY,aZ]
  cases hx:n==a with
  | true=>rfl
  | false=>exact jS (b_.inj h) n ((aG.mp hn).resolve_left (beq_eq_false_iff_ne.mp hx))
theorem pQ{α:Type}{a:Str}{v:α}{r:List (Str×α)}:((a,v)::r).lookup a=some v:=by rw [aZ,beq_self_eq_true]
theorem nJ{α:Type}{a n:Str}{v:α}{r:List (Str×α)}(h:n≠a):((a,v)::r).lookup n=r.lookup n:=by rw [aZ,beq_eq_false_iff_ne.mpr h]
theorem ma{a:Str}{v:Value}{r:List (Str×Value)}:∀{l:List Str},(∀n∈l,n≠a)->l.filterMap (λn=>(((a,v)::r).lookup n).map (n, ·))=l.filterMap (λn=>(r.lookup n).map (n, ·))
 |[],_=>rfl
 | n::l,h=>by rw [mZ,mZ,nJ (h n ak),ma λm hm=>h m (ao _ hm)]
theorem l_:∀{ns:List Str} {vs:List Value},ns.length=vs.length->ns.Nodup->ns.filterMap (λn=>((ns.zip vs).lookup n).map (n, ·))=ns.zip vs
 |[],[],_,_=>rfl
 |[],_::_,h,_=>nomatch h
 | _::_,[],h,_=>nomatch h
 | a::ns,v::vs,h,hn=>by
  obtain ⟨h1,h2⟩:=aQ.mp hn
  rw [iY,mZ,pQ]
  exact congrArg ((a,v):: ·) ((ma λn hn (q:n=a)=>h1 (q▸hn)).trans (l_ (ns:=ns) (vs:=vs) (b_.inj h) h2))
theorem AY{fd:FuncData}{as:List Arg}{vals:List Value}(hp:fd.params=⟨[],as,none,[],[],none,[]⟩)(hd:fd.defaults= .none)(hl:as.length=vals.length)(nd:(as.map (·.arg)).Nodup):
  bindArgs fd ⟨vals,[]⟩=pure ((as.map (·.arg)).zip vals):=by
 have hl':(as.map (·.arg)).length=vals.length:=(aq ..).trans hl
 have c1:(decide (vals.length>(as.map (·.arg)).length)&&true)=true->False:=λh=>by rw [dF,decide_eq_true_iff]at h;omega
 have c2:(!(((as.map (·.arg)).take ((as.map (·.arg)).length - 0)).filter (λn=>(((as.map (·.arg)).zip vals).lookup n).isNone)).isEmpty)=true->False:=by
  rw [S_,List.take_length,Al.mpr λn hn=>by rw [jS hl' n hn];exact aO]
  exact λh=>aL h
 have c3:=l_ hl' nd
 obtain ⟨x1,x2,params,x4,x5,x6,x7,defaults,x9,x10,x11,x12,x13,x14,x15⟩:=fd
 dsimp only at hp hd
 subst hp hd
 have hD:∀k,Uj k ((none:Option (Array Value)).getD #[]).toList=[]:=λk=>Qz
 refine (if_neg c1).trans ?_
 rw [hD,List.zip_nil_right]
 refine (if_neg c2).trans ?_
 exact (congrArg (λl=>(pure (List.filterMap (λn=>(Tc n ((as.map (·.arg)).zip vals)).map (n, ·)) l):Sem (List (Str×Value)))) (bc (as.map (·.arg)))).trans (congrArg (pure:List (Str×Value)->Sem (List (Str×Value))) c3)
noncomputable def BD(scope:Scope)(names:List Str):Sc:=⟨scope,names.zip (ar names.length),names.length⟩
noncomputable def Cs(ps:Arguments)(f:List Arg->Bool):Bool:=Fd ps.posonlyargs&&(ps.vararg.isNone&&(Fd ps.kwonlyargs&&(Fd ps.kw_defaults&&(ps.kwarg.isNone&&(Fd ps.defaults&&f ps.args)))))
noncomputable def E8(cs:List (Str×T))(F:Fn)(names:List Str)(ps:Arguments)(body:List Stmt)(scope:Scope):Bool:=
 Cs ps (λas=>(as.map (·.arg))==names.take F.n)&&((scope.kind== .function)&&(!scope.isCoroutine&&(!scope.isGenerator&&((scope.names.all λx=>x.2 != .free)&&(decide names.Nodup&&(decide (F.n<=names.length)&&
 ((names.all λx=>scope.names.lookup x==some .local||scope.names.lookup x==some .cell)&&qe cs F.body (BD scope names) body)))))))
structure S0(cs:List (Str×T))(F:Fn)(names:List Str)(ps:Arguments)(body:List Stmt)(scope:Scope):Prop where
 ps:∃as,ps=⟨[],as,none,[],[],none,[]⟩/\as.map (·.arg)=names.take F.n
 kind:scope.kind= .function
 co:scope.isCoroutine=false
 gen:scope.isGenerator=false
 free:∀x∈scope.names,x.2≠.free
 nd:names.Nodup
 le:F.n<=names.length
 ks:∀x∈names,scope.names.lookup x=some .local\/scope.names.lookup x=some .cell
 body:qe cs F.body (BD scope names) body=true
theorem L0{p1 p2 p4:List Arg}{p3 p6:Option Arg}{p5:List (Option ag)}{p7:List ag}(h1:p1=[])(h3:p3=none)(h4:p4=[])(h5:p5=[])(h6:p6=none)(h7:p7=[]):Arguments.mk p1 p2 p3 p4 p5 p6 p7=⟨[],p2,none,[],[],none,[]⟩:=by rw [h1,h3,h4,h5,h6,h7]
theorem Au{ps:Arguments}{f:List Arg->Bool}(h:Cs ps f=true):∃as,ps=⟨[],as,none,[],[],none,[]⟩/\f as=true:=by
 obtain ⟨p1,p2,p3,p4,p5,p6,p7⟩:=ps
 exact aR h λh1 h=>aR h λh3 h=>aR h λh4 h=>aR h λh5 h=>aR h λh6 h=>aR h λh7 h=>
  ⟨p2,L0 (j_.mp h1) (uD.mp h3) (j_.mp h4) (j_.mp h5) (uD.mp h6) (j_.mp h7),h⟩
theorem wN{cs:List (Str×T)}{F:Fn}{names:List Str}{ps:Arguments}{body:List Stmt}{scope:Scope}(h:E8 cs F names ps body scope=true):S0 cs F names ps body scope:=
 aR h λh1 h=>aR h λh2 h=>aR h λh3 h=>aR h λh4 h=>aR h λh5 h=>aR h λh6 h=>aR h λh7 h=>aR h λh8 h9=>
  ⟨(Au h1).imp λ_ e=>⟨e.1,eq_of_beq e.2⟩,eq_of_beq h2,b0 _|>.mp h3,b0 _|>.mp h4,λx hx=>bne_iff_ne.mp (ax.mp h5 x hx),of_decide_eq_true h6,of_decide_eq_true h7,
   λx hx=>(eX.mp (ax.mp h8 x hx)).imp eq_of_beq eq_of_beq,h9⟩
noncomputable def SZ(fd:FuncData)(ps:Arguments)(b:List Stmt)(sc:Scope):Prop:=fd.params=ps/\fd.body= .stmts b/\fd.scope=sc/\fd.globals=mainGlobals/\fd.builtins=builtinsNs/\fd.closure=[]/\fd.defaults= .none
section
variable{kindOf:Str->Option NameKind}{x a:Str}{v:Value}
theorem vy:∀{ns:List Str} {vs:List Value} {m:Str->Option Value},a∉ns->bindL kindOf (ns.zip vs) m a=m a
 |[],_,_,_=>rfl
 | _::_,[],_,_=>rfl
 | b::ns,w::vs,m,h=>by
  refine (vy (ns:=ns) (vs:=vs) λq=>h (ao _ q)).trans ?_
  by_cases z:kindOf b=some .local
  ·rw [if_pos z];exact if_neg λ(q:a=b)=>h (q▸ak)
  ·rw [if_neg z]
theorem vz:∀{ns:List Str} {vs:List Value} {m:Str->Option Value} {i:Nat},ns.Nodup->ns[i]? =some x->vs[i]? =some v->kindOf x=some .local->bindL kindOf (ns.zip vs) m x=some v
 |[],_,_,_,_,h,_,_=>nomatch h
 | _::_,[],_,_,_,_,h,_=>nomatch h
 | a::ns,u::vs,m,0,hn,h1,h2,hk=>by
  obtain rfl:=ah.inj h1
  obtain rfl:=ah.inj h2
  refine (vy (aQ.mp hn).1).trans ?_
  rw [if_pos hk];exact if_pos rfl
 | a::ns,u::vs,m,i+1,hn,h1,h2,hk=>vz (ns:=ns) (vs:=vs) (i:=i) (aQ.mp hn).2 h1 h2 hk
theorem vA:∀{ns:List Str} {vs:List Value} {m:Str->Option Value},a∉ns->bindC kindOf (ns.zip vs) m a=m a
 |[],_,_,_=>rfl
 | _::_,[],_,_=>rfl
 | b::ns,w::vs,m,h=>by
  refine (vA (ns:=ns) (vs:=vs) λq=>h (ao _ q)).trans ?_
  by_cases z:kindOf b=some .local
  ·rw [if_pos z]
  ·rw [if_neg z];exact if_neg λ(q:a=b)=>h (q▸ak)
theorem vB:∀{ns:List Str} {vs:List Value} {m:Str->Option Value} {i:Nat},ns.Nodup->ns[i]? =some x->vs[i]? =some v->kindOf x≠some .local->bindC kindOf (ns.zip vs) m x=some v
 |[],_,_,_,_,h,_,_=>nomatch h
 | _::_,[],_,_,_,_,h,_=>nomatch h
 | a::ns,u::vs,m,0,hn,h1,h2,hk=>by
  obtain rfl:=ah.inj h1
  obtain rfl:=ah.inj h2
  refine (vA (aQ.mp hn).1).trans ?_
  rw [if_neg hk];exact if_pos rfl
 | a::ns,u::vs,m,i+1,hn,h1,h2,hk=>vB (ns:=ns) (vs:=vs) (i:=i) (aQ.mp hn).2 h1 h2 hk
theorem eU:∀{names:List (Str×NameKind)} {k:Nat} {acc:List (Str×Addr)},((x,NameKind.cell)∈names\/∃c,acc.lookup x=some c)->∃c,(cellsFrom k names acc).lookup x=some c
 |[],k,acc,h=>h.resolve_left λq=>nomatch q
 |(n,kd)::r,k,acc,h=>by
  show ∃c,(if kd== .cell then cellsFrom (k+1) r ((n,k)::acc)else cellsFrom k r acc).lookup x=some c
  by_cases hk:(kd==NameKind.cell)=true
  ·rw [if_pos hk]
   refine eU (names:=r) ?_
   by_cases e:x=n
   ·exact .inr ⟨k,e▸pQ⟩
   ·exact h.imp (λh=>(aG.mp h).resolve_left λq=>e (congrArg Prod.fst q)) λ⟨c,h⟩=>⟨c,(nJ e).trans h⟩
  ·rw [if_neg hk]
   exact eU (names:=r) (h.imp (λh=>(aG.mp h).resolve_left λq=>hk (beq_iff_eq.mpr (congrArg Prod.snd q).symm)) id)
end
theorem H2{α:Type}:∀{l:List α} {i:Nat},nth l i=l[i]?
 |[],_=>rfl
 | _::_,0=>rfl
 | _::l,i+1=>H2 (l:=l) (i:=i)
theorem yX{os:List O}{k i:Nat}:get (os.map some++aw k none) i=os[i]? :=by
 unfold get
 rw [H2]
 rcases iU i os.length with h | h
 ·rw [List.getElem?_append_left (by rw [aq];exact h),qF,dE h];rfl
 ·rw [List.getElem?_append_right (by rw [aq];exact h),ls h,List.getElem?_replicate]
  split<;>rfl
section
variable{W:Wd}{A:Around}{E:Value->Shared->Prop}{s s1:Shared}{V:aX}
theorem om{scope:Scope}{names:List Str}{x:Str}{i:Nat}(h:(BD scope names).res.lookup x=some i):names[i]? =some x/\i<names.length:=by
 obtain ⟨j,a,b⟩:=mH (show (names.zip (ar names.length)).lookup x=some i from h)
 have hj:=(cB.mp a).1
 rw [mY hj]at b
 exact ah.inj b▸⟨a,hj⟩
theorem K7{scope:Scope}{names:List Str}:db (BD scope names):=
 ⟨λx y i h1 h2=>ah.inj ((om h1).1.symm.trans (om h2).1),λx i h=>(om h).2⟩
noncomputable def P4(fp:List Addr):Ft:=gx (λ_=>[]) 0 fp
theorem rD{fp:List Addr}{j:Nat}{b:Addr}(h:b∈P4 fp j):j=0/\b∈fp:=eN h (λq h=>⟨q,h⟩) λ_ h=>nomatch h
theorem dead{h:Heap}{d:Addr}(hd:h.objs.size<=d):h.get? d=none:=by
 cases e:h.get? d with
 | none=>rfl
 | some o'=>exact absurd (d4 e) (dM.mpr hd)
theorem yK{fd:FuncData}{a:Addr}{ns:List Str}{vals:List Value}{z:Str}{j:Nat}{v:Value}(hnt:ns.Nodup)(hz:ns[j]? =some z)(hv:vals[j]? =some v)(hk:fd.scope.names.lookup z=some .local\/fd.scope.names.lookup z=some .cell)
  (x:InCallC s (callEnvC fd s.heap.objs.size a).locals (bindL (callEnvC fd s.heap.objs.size a).kindOf (ns.zip vals) λ_=>none) (callEnvC fd s.heap.objs.size a).cells (bindC (callEnvC fd s.heap.objs.size a).kindOf (ns.zip vals) λ_=>none) s1):b9 (callEnvC fd s.heap.objs.size a) s1.heap z v:=by
 rcases hk with q | q
 ·exact .inl ⟨q,_,x.toInCall.ns,vz hnt hz hv q⟩
 ·obtain ⟨d,hd⟩:=eU (k:=s.heap.objs.size+1) (acc:=[]) (.inl (cv q))
  have:=x.cell z d hd
  rw [vB hnt hz hv (λe=>by rw [show (callEnvC fd s.heap.objs.size a).kindOf z=some .cell from q]at e;cases e)]at this
  exact .inr ⟨.inl q,d,hd,this⟩
theorem RB{fd:FuncData}{ps:Arguments}{body:List Stmt}{scope:Scope}{names:List Str}{a:Addr}{nn slots:Nat}{vals:List Value}{os:List TI.O}{fp:List Addr}(hfd:SZ fd ps body scope)(hbase:Le W.B V)(hV:Le V s.heap.get?)
  (hk:scope.kind= .function) (hfree:∀x∈scope.names,x.2≠.free) (hnd:names.Nodup) (hle:nn<=names.length) (hks:∀x∈names,scope.names.lookup x=some .local\/scope.names.lookup x=some .cell) (hv:vals.length=nn) (ho:os.length=nn)
  (hr:∀i v o,vals[i]? =some v->os[i]? =some o->ce W.cl V s.heap.get? v o (P4 fp i)) (hfp:∀b∈fp,V b=none/\∃o,s.heap.get? b=some o) (nd:fp.Nodup)
  (x:InCallC s (callEnvC fd s.heap.objs.size a).locals (bindL (callEnvC fd s.heap.objs.size a).kindOf ((names.take nn).zip vals) λ_=>none) (callEnvC fd s.heap.objs.size a).cells (bindC (callEnvC fd s.heap.objs.size a).kindOf ((names.take nn).zip vals) λ_=>none) s1):
  cU W (BD scope names) (callEnvC fd s.heap.objs.size a) [] V (os.map some++aw slots none) (P4 fp) s1:=by
 obtain ⟨f1,f2,f3,f4,f5,f6,f7⟩:=hfd
 have keep:∀b o,s.heap.get? b=some o->s1.heap.get? b=some o:=x.toInCall.keep
 have vn:∀{d:Addr},s.heap.objs.size<=d->V d=none:=λ{d} h=>Tn hV (dead h)
 have lall:∀z d,(callEnvC fd s.heap.objs.size a).cells.lookup z=some d->s.heap.objs.size<d:=λz d e=>x.above z d (cv e)
 have own:∀z j,(BD scope names).res.lookup z=some j->∀o,get (os.map some++aw slots none) j=some o->∃v,b9 (callEnvC fd s.heap.objs.size a) s1.heap z v/\ce W.cl V s1.heap.get? v o (P4 fp j):=λz j e o g=>by
  rw [yX]at g
  have hj:j<nn:=ho▸(cB.mp g).1
  have hn:=(om e).1
  have hv':j<vals.length:=by omega
  exact ⟨vals[j],yK (hnd.sublist (Jm _ _)) ((jz hj).trans hn) (dE hv') (f3▸hks z (bG hn)) x,(hr j _ o (dE hv') g).mono Le.rfl λb _ y e=>keep b y e⟩
 have clr:∀j b,b∈P4 fp j->nY (callEnvC fd s.heap.objs.size a) [] V b/\∃o,s1.heap.get? b=some o:=λj b hb=>by
  obtain ⟨c1,ob,e⟩:=hfp b (rD hb).2
  have hlt:=d4 e
  exact ⟨⟨c1,cM hlt,(λq=>nomatch q),λz d e'=>cM (ll hlt (lall z d e'))⟩,ob,keep b ob e⟩
 refine ⟨⟨(f3▸hk:fd.scope.kind= .function),f3,f4,f5,hbase,hV.trans keep,λj hj=> ?_,⟨_,x.toInCall.ns⟩,vn (aA _),(λq=>nomatch q),λz hz=> ?_,λz d e=>⟨⟨_,x.cell z d e⟩,vn (lm (lall z d e)),cN (lall z d e),(λq=>nomatch q)⟩,λz z' d e1 e2=>name_of_addr x.apart (cv e1) (cv e2),
  λb hb=>(nomatch hb),λz j e o g=> ?_⟩,own,clr,λj=> ?_,λi j b hij h1 h2=>hij ((rD h1).1.trans (rD h2).1.symm)⟩
 ·rw [yX];exact ls (ho▸an hle hj)
 ·have e:(callEnvC fd s.heap.objs.size a).cells=cellsFrom (s.heap.objs.size+1) scope.names []:=f3▸rfl
  rw [e]
  exact hz.elim (λq=>eU (.inl (cv q))) λq=>absurd rfl (hfree _ (cv q))
 ·obtain ⟨v,l,r⟩:=own z j e o g
  exact ⟨v,_,l,r,λb hb=>(clr j b hb).1⟩
 ·by_cases q:j=0
  ·rw [q];exact nd
  ·show (gx _ _ _ _).Nodup
   rw [jq q];exact bL
end
end
section
noncomputable def zS(h:Heap)(a:Addr)(ps:Arguments)(b:List Stmt)(sc:Scope):Prop:=∃o fd,h.get? a=some o/\o.data= .func fd/\SZ fd ps b sc/\h.CodeRec fd.code fd.qualname
@[reducible] noncomputable def Bk(names:List Str)(scope:Scope):Prop:=(names[0]?.any λx=>qb scope==some x)=true
structure Ag(W:Wd)(P:P5):Prop where
 lim:∀h:Heap,Le W.B h.get? ->h.NoLimit
 fn:∀f F,P.fn f=some F->∃names ps body scope,E8 W.consts F names ps body scope=true/\(P.io f=true->Bk names scope)/\∀h:Heap,Le W.B h.get? ->zS h (W.fa f) ps body scope
 init:∀k F,P.init k=some F->∃names ps body scope fI,E8 W.consts F names ps body scope=true/\findIn W.K (.ref (W.cl k)) "__init__"=some (some (.ref fI))/\typeIn W.K (.ref fI)=some (.type "function")/\Bk names scope/\
  (∀h:Heap,Le W.B h.get? ->Makes (model W.prog W.w) h (W.cl k))/\∀h:Heap,Le W.B h.get? ->zS h fI ps body scope
section
variable{W:Wd}{A:Around}{E:Value->Shared->Prop}{s s' s1:Shared}{V V':aX}{env:Env}
theorem wa{h:Heap}{x:Str}{v u:Value}(a:b9 env h x v)(b:b9 env h x u):v=u:=by
 rcases a with ⟨a1,m,a2,a3⟩ |⟨a1,c,a2,a3⟩<;>rcases b with ⟨b1,m',b2,b3⟩ |⟨b1,c',b2,b3⟩
 ·rw [lG.eq_nsMap a2]at a3;rw [lG.eq_nsMap b2]at b3
  exact ah.inj (a3.symm.trans b3)
 ·rcases b1 with b1 | b1<;>(rw [a1]at b1;cases b1)
 ·rcases a1 with a1 | a1<;>(rw [b1]at a1;cases a1)
 ·obtain rfl:=ah.inj (a2.symm.trans b2)
  obtain ⟨o,e1,e2⟩:=a3
  obtain ⟨o',e3,e4⟩:=b3
  obtain rfl:=ah.inj (e1.symm.trans e3)
  exact ah.inj (Data.cell.inj (e2.symm.trans e4))
structure R7(W:Wd)(s:Shared)(V:aX)(fp:List Addr)(out:n4)(v:Value)(s':Shared)(V':aX)(fp':List Addr):Prop where
 same:∃h' k,s'={s with heap:=h',toks:=k}
 le:Le V V'
 sub:Le V' s'.heap.get?
 new:∀a o,V' a=some o->V a=some o\/s.heap.get? a=none\/a∈fp
 keep:∀b o,b∉fp->s.heap.get? b=some o->s'.heap.get? b=some o
 val:∀t,out.2=some t->dw W.cl V' v t
 nov:out.2=none->v= .none
 own:∀b∈fp',V' b=none/\(s.heap.get? b=none\/b∈fp)
 nd:fp'.Nodup
theorem BC(OK:W.Ok){n:Nat}{c:d5}(oc:fm W n c)(io:zR W n c){F:Fn}{names:List Str}{ps:Arguments}{body:List Stmt}{scope:Scope}(hc:S0 W.consts F names ps body scope)(hd:A.depth<recursionLimit)(hA:∀env,fD (A.deeper env) n)(hbase:Le W.B V)(hV:Le V s.heap.get?)
  {a:Addr} (hfn:zS s.heap a ps body scope) (hlim:s.heap.NoLimit) {vals:List Value} {os:List TI.O} {fp:List Addr} {slots:Nat} {out:n4}
  (hv:vals.length=F.n) (ho:os.length=F.n) (hr:∀i v o,vals[i]? =some v->os[i]? =some o->ce W.cl V s.heap.get? v o (P4 fp i)) (hfp:∀b∈fp,V b=none/\∃o,s.heap.get? b=some o) (nd:fp.Nodup)
  (hex:ex c F.body (os.map some++aw slots none)=some out) {R:Result->Shared->Prop}
  (k:∀v s' V' fp',R7 W s V fp out v s' V' fp'->(∀v0 o,vals[0]? =some v0->Bk names scope->get out.1 0=some o->ce W.cl V' s'.heap.get? v0 o fp')->R (.ok (.ret v)) s'):
  codeAny (model W.prog W.w) A (.call (.ref a) ⟨vals,[]⟩) R s:=by
 obtain ⟨ob,fd,hob,hdat,hfd,hcd⟩:=hfn
 have hfd':=hfd
 obtain ⟨f1,f2,f3,f4,f5,f6,f7⟩:=hfd
 obtain ⟨as,hps,has⟩:=hc.ps
 have hlas:as.length=F.n:=by
  have:=congrArg Td has
  rw [aq,List.length_take]at this
  have:=hc.le;omega
 have hnt:(names.take F.n).Nodup:=hc.nd.sublist (Jm _ _)
 have hbind:bindArgs fd ⟨vals,[]⟩=pure ((names.take F.n).zip vals):=by
  have:=AY (fd:=fd) (as:=as) (vals:=vals) (f1.trans hps) f7 (by omega) (by rw [has];exact hnt)
  rw [has]at this;exact this
 refine codeAny_call_cells hd hob hdat hlim hcd f2 hbind f6 (λz hz=> ?_) (λs1 x=> ?_) (by rw [f3];exact hc.co) (by rw [f3];exact hc.gen) (by rw [f3];exact hc.kind)
 ·rw [f3]
  refine (hc.ks z.1 (List.mem_of_mem_take (k9 hz).1)).imp id λq=>⟨q,?_⟩
  obtain ⟨d,hd⟩:=eU (k:=s.heap.objs.size+1) (acc:=[]) (.inl (cv q))
  rw [hd];rfl
 ·have hF:=RB (slots:=slots) hfd' hbase hV hc.kind hc.free hc.nd hc.le hc.ks hv ho hr hfp nd x
  have keep:∀b o,s.heap.get? b=some o->s1.heap.get? b=some o:=x.toInCall.keep
  refine RN OK oc io F.body (BD scope names) body K7 hc.body _ out hex _ (hA _) _ [] V _ s1 hF _ _ λfl s2 V2 fps2 st hF2 fo=> ?_
  have old:∀{d:Addr},s1.heap.get? d=none->s.heap.get? d=none:=λ{d} h=>by
   cases q:s.heap.get? d with
   | none=>rfl
   | some o=>exact nomatch h.symm.trans (keep d o q)
  have hin:∀{b:Addr},(∃j,b∈P4 fp j)->b∈fp:=λ⟨j,hb⟩=>(rD hb).2
  refine k _ s2 V2 (fps2 0) ⟨?_,st.le,hF2.eo.le,λd o e=>(st.new d o e).imp id λq=>q.imp old hin,λb o hb e=> ?_,λt ht=> ?_,λhn=> ?_,λb hb=>⟨(hF2.clear 0 b hb).1.1,(st.fps 0 b hb).imp old hin⟩,hF2.nodup 0⟩ λv0 o hv0 hpin hg=> ?_
  ·obtain ⟨h1,k1,e1⟩:=x.toInCall.same
   obtain ⟨h2,k2,e2⟩:=st.same
   exact ⟨h2,k2,by rw [e2,e1]⟩
  ·have hlt:=d4 e
   exact st.keep b o (cM hlt) (λz d e'=>cM (ll hlt (x.above z d (cv e')))) (λj hj=>hb (hin ⟨j,hj⟩)) (keep b o e)
  ·rw [ht]at fo
   obtain ⟨v,rfl,r⟩:=fo
   exact r
  ·rw [hn]at fo
   obtain rfl:fl= .next:=fo
   rfl
  ·obtain ⟨z,hz,hpin⟩:=dk hpin
   have hlen:0<names.length:=(cB.mp hz).1
   have hres:(BD scope names).res.lookup z=some 0:=mB hc.nd hz (mY hlen)
   obtain ⟨u2,lu2,ru2⟩:=hF2.own z 0 hres o hg
   have h0:0<F.n:=hv▸(cB.mp hv0).1
   have l0:b9 (callEnvC fd s.heap.objs.size a) s1.heap z v0:=yK hnt ((jz h0).trans hz) hv0 (f3▸hc.ks z (bG hz)) x
   rw [wa (st.pin z ((congrArg qb f3).trans (eq_of_beq hpin)) v0 l0) lu2]
   exact ru2
theorem fD.deep{n:Nat}(h:fD A (n+1))(env:Env):fD (A.deeper env) n:=
 ⟨h.handled,by have:=h.depth;show A.depth+1+3*n+10<_;omega,by have:=h.units;show A.units+3+20*n+100<_;omega⟩
theorem fD.make{n:Nat}(h:fD A (n+1))(k:Addr)(vs:List Value)(env:Env):fD ((A.under (.builtin "type.__call__" ⟨.ref k::vs,[]⟩)).deeper env) n:=by
 have e2:(A.under (.builtin "type.__call__" ⟨.ref k::vs,[]⟩)).units<=A.units+10:=cV (bm (by rfl)) _
 exact ⟨h.handled,by have:=h.depth;show A.depth+1+1+3*n+10<_;omega,by have:=h.units;show (A.under _).units+3+20*n+100<_;omega⟩
theorem jG{F:Fn}{l:List T}{ρ:b6}(h:ew F l=some ρ):l.length=F.n/\ρ=(l.map O.sh).map some++aw (F.slots - F.n) none:=by
 unfold ew at h
 by_cases q:l.length=F.n
 ·rw [if_pos q]at h
  exact ⟨q,by rw [a_];exact (ah.inj h).symm⟩
 ·rw [if_neg q]at h;exact no h
theorem wn{cl:Nat->Addr}:∀{ts:List T} {vs:List Value} {i:Nat} {v:Value} {o:TI.O},bA cl V vs ts->vs[i]? =some v->(ts.map O.sh)[i]? =some o->∃t,o= .sh t/\dw cl V v t
 |[],_,_,_,_,_,_,h=>nomatch h
 | t::ts,_,0,_,_,⟨v,us,e,a,r⟩,h1,h2=>by
  subst e
  obtain rfl:=ah.inj h1
  obtain rfl:=ah.inj h2
  exact ⟨t,rfl,a⟩
 | t::ts,_,i+1,_,_,⟨v,us,e,a,r⟩,h1,h2=>by
  subst e
  exact wn (ts:=ts) (vs:=us) (i:=i) r h1 h2
theorem zw{g:aX}{v0:Value}{r:TI.O}{fp:List Addr}{vs:List Value}{ts:List T}(h0:ce W.cl V g v0 r fp)(rs:bA W.cl V vs ts):∀i v o,(v0::vs)[i]? =some v->(r::ts.map O.sh)[i]? =some o->ce W.cl V g v o (P4 fp i)
 | 0,_,_,h1,h2=>by
  obtain rfl:=ah.inj h1
  obtain rfl:=ah.inj h2
  exact h0
 | i+1,v,o,h1,h2=>by
  obtain ⟨t,rfl,r⟩:=wn (i:=i) rs h1 h2
  exact .sh r
theorem LI(OK:W.Ok){P:P5}(PO:Ag W P){d:Nat}(oc:fm W d (bj P d))(io:zR W d (bj P d)){f:Nat}{ts:List T}{t:T}(h:(bj P (d+1)).call f ts=some t)(hA:fD A (d+1))(hb:Le W.B V)(hV:Le V s.heap.get?){vs:List Value}(rs:bA W.cl V vs ts){Q:Value->Shared->Prop}(q:TI.K W.cl V s t Q):
  wpAny (model W.prog W.w) A (kB (.ref (W.fa f)) vs) Q E s:=by
 obtain ⟨F,hF,h⟩:=bind_some h
 obtain ⟨ρ,hρ,h⟩:=bind_some h
 obtain ⟨out,hex,rfl⟩:=aT h
 obtain ⟨hl,rfl⟩:=jG hρ
 obtain ⟨names,ps,body,scope,hc,_,hfo⟩:=PO.fn f F hF
 refine wpAny_call (BC OK oc io (wN hc) (by have:=hA.depth;omega) (λenv=>hA.deep env) hb hV (hfo _ (hb.trans hV)) (PO.lim _ (hb.trans hV)) (fp:=[]) (rs.length.trans hl) ((aq ..).trans hl) (λi v o h1 h2=> ?_) (λb hb=>nomatch hb) bL hex λv s' V' fp' af _=> ?_)
 ·obtain ⟨t,rfl,r⟩:=wn rs h1 h2
  rw [show P4 [] i=[] by unfold P4 gx;split<;>rfl]
  exact .sh r
 ·obtain ⟨h1,k1,e1⟩:=af.same
  subst e1
  refine q v _ V' ⟨⟨h1,k1,rfl,λb o e=>af.keep b o (λz=>nomatch z) e⟩,af.le,af.sub,λa o e=>(af.new a o e).imp id λz=>z.resolve_right λz=>nomatch z⟩ ?_
  unfold zK
  cases ho:out.2 with
  | none=>rw [af.nov ho];exact .none
  | some t=>exact af.val t ho
theorem OG(OK:W.Ok){P:P5}(PO:Ag W P){d:Nat}(oc:fm W d (bj P d))(io:zR W d (bj P d)){k:Nat}{ts:List T}{o:TI.O}(h:(bj P (d+1)).new k ts=some o)(hA:fD A (d+1))(hb:Le W.B V)(hV:Le V s.heap.get?){vs:List Value}(rs:bA W.cl V vs ts){Q:Value->Shared->Prop}(q:KF W V s o Q):
  wpAny (model W.prog W.w) A (kB (.ref (W.cl k)) vs) Q E s:=by
 obtain ⟨F,hF,h⟩:=bind_some h
 obtain ⟨ρ,hρ,h⟩:=bind_some h
 obtain ⟨out,hex,h⟩:=bind_some h
 obtain ⟨hl,rfl⟩:=jG hρ
 obtain ⟨names,ps,body,scope,fI,hc,hi,hty,hpin,hmk,hfo⟩:=PO.init k F hF
 obtain ⟨hn,hg⟩:out.2=none/\get out.1 0=some o:=by
  obtain ⟨ρ1,ro⟩:=out
  cases ro with
  | none=>exact ⟨rfl,h⟩
  | some t=>exact no h
 have X:=OK.kin _ (hb.trans hV)
 obtain ⟨hh,g,dr,tk,os⟩:=s
 have X':W.K.In hh:=X
 refine wpAny_call (make_core (hmk _ (hb.trans hV)) (looks_findIn X' hi) (λself=>bind_fn X' self hty) (.inl rfl) ?_)
 have kp:∀b o,hh.get? b=some o->((hh.push emptyDict).push (instObj (W.cl k) hh.objs.size)).get? b=some o:=λb o e=>aV _ (aV _ e)
 have hV2:Le V ((hh.push emptyDict).push (instObj (W.cl k) hh.objs.size)).get? :=hV.trans kp
 have sz:(hh.push emptyDict).objs.size=hh.objs.size+1:=mN ..
 have gi:((hh.push emptyDict).push (instObj (W.cl k) hh.objs.size)).get? (hh.objs.size+1)=some (instObj (W.cl k) hh.objs.size):=sz▸bD _ rfl
 have gd:((hh.push emptyDict).push (instObj (W.cl k) hh.objs.size)).get? hh.objs.size=some (dictOf [] 0):=aV _ (bD _ rfl)
 have ri:ce W.cl V ((hh.push emptyDict).push (instObj (W.cl k) hh.objs.size)).get? (.ref (hh.objs.size+1)) (.ins k [] []) [hh.objs.size+1,hh.objs.size]:=
  .ins _ _ [] 0 k [] [] [] [] gi gd (λe he=>nomatch he) (aA _) rfl .nil
 have fr:∀a∈[hh.objs.size+1,hh.objs.size],hh.get? a=none:=λa ha=>(aG.mp ha).elim (λz=>z▸dead (mS _)) λz=>(aN.mp z)▸dead (aA _)
 have al:∀a∈[hh.objs.size+1,hh.objs.size],∃o,((hh.push emptyDict).push (instObj (W.cl k) hh.objs.size)).get? a=some o:=λa ha=>(aG.mp ha).elim (λz=>⟨_,z▸gi⟩) λz=>⟨dictOf [] 0,by rw [aN.mp z];exact gd⟩
 have dn:∀a,((hh.push emptyDict).push (instObj (W.cl k) hh.objs.size)).get? a=none->hh.get? a=none:=λa ha=>by
  cases q:hh.get? a with
  | none=>rfl
  | some o=>exact nomatch ha.symm.trans (kp a o q)
 refine BC (A:=A.under _) (s:=⟨(hh.push emptyDict).push (instObj (W.cl k) hh.objs.size),g,dr,tk,os⟩) OK oc io (wN hc) (by have:=hA.depth;show A.depth+1<_;omega) (λenv=>hA.make _ _ env) hb hV2 (hfo _ (hb.trans hV2)) (PO.lim _ (hb.trans hV2)) (fp:=[hh.objs.size+1,hh.objs.size]) (vals:= .ref (hh.objs.size+1)::vs) (os:= .ins k [] []::ts.map O.sh)
  ((congrArg (· +1) rs.length).trans hl) ((congrArg (· +1) (aq ..)).trans hl) (zw ri rs) (λb hb=>⟨Tn hV (fr b hb),al b hb⟩) (aQ.mpr ⟨λz=>Nat.succ_ne_self _ (aN.mp z),aQ.mpr ⟨(λz=>nomatch z),bL⟩⟩) hex λv s' V' fp' af r3=> ?_
 refine ⟨af.nov hn,?_⟩
 obtain ⟨h1,k1,e1⟩:=af.same
 subst e1
 exact q _ _ V' fp' ⟨⟨h1,k1,rfl,λb o e=>af.keep b o (λz=>nomatch (fr b z).symm.trans e) (kp b o e)⟩,af.le,af.sub,λa o e=>(af.new a o e).imp id λz=>z.elim (dn a) (fr a)⟩ (r3 _ o rfl hpin hg) af.nd
  λa ha=>⟨(af.own a ha).2.elim (dn a) (fr a),(af.own a ha).1⟩
theorem Rq(OK:W.Ok){P:P5}(PO:Ag W P){d:Nat}(oc:fm W d (bj P d))(io:zR W d (bj P d)):zR W (d+1) (bj P (d+1)):=by
 intro f r l o h A hA V s hb hV v0 fp vs hr nd hfp rs E Q q
 have h:(if P.io f then (P.fn f).bind λF=>(ew F (.none::l)).bind λρ=>(ex (bj P d) F.body (fO ρ 0 r)).bind λo=>get o.1 0 else ae)=some o:=h
 by_cases hio:P.io f=true
 ·rw [if_pos hio]at h
  obtain ⟨F,hF,h⟩:=bind_some h
  obtain ⟨ρ,hρ,h⟩:=bind_some h
  obtain ⟨out,hex,hg⟩:=bind_some h
  obtain ⟨hl,rfl⟩:=jG hρ
  obtain ⟨names,ps,body,scope,hc,hpin,hfo⟩:=PO.fn f F hF
  exact wpAny_call (BC OK oc io (wN hc) (by have:=hA.depth;omega) (λenv=>hA.deep env) hb hV (hfo _ (hb.trans hV)) (PO.lim _ (hb.trans hV)) (fp:=fp) (vals:=v0::vs) (os:=r::l.map O.sh)
   ((congrArg (· +1) rs.length).trans hl) ((congrArg (· +1) (aq ..)).trans hl) (zw hr rs) (λb hb=>⟨hfp b hb,hr.alive b hb⟩) nd hex λv s' V' fp' af r3=>
    q v s' V' fp' af.same af.le af.sub af.new af.keep (r3 _ o rfl (hpin hio) hg) af.nd af.own)
 ·rw [if_neg hio]at h;exact no h
theorem HX(OK:W.Ok){P:P5}(PO:Ag W P):∀d:Nat,fm W d (bj P d)/\zR W d (bj P d)
 | 0=>⟨⟨λf ts t h=>no h,λk ts o h=>no h⟩,λf r l o h=>no h⟩
 | d+1=>have ⟨oc,io⟩:=HX OK PO d
  ⟨⟨λf ts t h A hA V s hb hV vs rs E Q q=>LI OK PO oc io h hA hb hV rs q,λk ts o h A hA V s hb hV vs rs E Q q=>OG OK PO oc io h hA hb hV rs q⟩,Rq OK PO oc io⟩
end
end
noncomputable def FE(cs:List (Str×T)):List Fn->List (List Str)->List (Arguments×List Stmt×Scope)->Bool
 |[],_,_=>true
 | F::fs,n::ns,(a,b,sc)::ds=>E8 cs F n a b sc&&FE cs fs ns ds
 | _,_,_=>false
theorem Hj:FE oz Ud C_ (nh PySem.Challenge.pw_nt0471_01)=true:=by decide+kernel
theorem EF:FE oz Ac u5 (rC PySem.Challenge.pw_nt0471_01)=true:=by decide+kernel
section
theorem pR{v:Value}{x:Str}(h:v.isStr x=true):w' v=b_ (code x):=by
 cases v with
 | str s t=>exact congrArg (λs=>b_ (code s)) (eq_of_beq (show (s==x)=true from h))
 | _=>cases h
theorem Dd{x:Str}{e:DictEntry}:∀{es:List DictEntry},ff es (b_ (code x))=some e->e.key.isStr x=true->es.find? (·.key.isStr x)=some e
 |[],h,_=>no h
 | a::r,h,k=>by
  have h:(match eV (w' a.key) (b_ (code x))with | true=>some a | false=>ff r (b_ (code x)))=some e:=h
  cases q:eV (w' a.key) (b_ (code x))with
  | true=>rw [q]at h;obtain rfl:=ah.inj h;exact oO k
  | false=>
   rw [q]at h
   refine (iE (cQ.mpr λz=> ?_)).trans (Dd h k)
   rw [pR z,Tb]at q;cases q
theorem De{x:Str}:∀{es:List DictEntry},(ff es (b_ (code x))).isNone=true->es.find? (·.key.isStr x)=none
 |[],_=>rfl
 | a::r,h=>by
  have h:(match eV (w' a.key) (b_ (code x))with | true=>some a | false=>ff r (b_ (code x))).isNone=true:=h
  cases q:eV (w' a.key) (b_ (code x))with
  | true=>rw [q]at h;cases h
  | false=>
   rw [q]at h
   refine (iE (cQ.mpr λz=> ?_)).trans (De h)
   rw [pR z,Tb]at q;cases q
theorem r_(h:Heap)(a:Addr)(x:Str):h.nsMap a x=((FD h.get? a).find? (·.key.isStr x)).map (·.val):=by
 unfold Heap.nsMap FD
 cases h.get? a with
 | none=>rfl
 | some o=>
  obtain ⟨c,d,dt,sl⟩:=o
  cases dt with
  | dict es ep=>show (es.find? _).map _=_;rw [<-Array.find?_toList]
  | _=>rfl
theorem xq{h:Heap}{a:Addr}{x:Str}{v:Value}(e:NP h.get? a x=some v):h.nsMap a x=some v:=by
 obtain ⟨en,h1,h2⟩:=bind_some e
 by_cases q:en.key.isStr x=true
 ·rw [if_pos q]at h2
  rw [r_,Dd h1 q];exact h2
 ·rw [if_neg q]at h2;exact no h2
theorem yT{h:Heap}{a:Addr}{x:Str}(e:I1 h.get? a x=true):h.nsMap a x=none:=by
 rw [r_,De e];rfl
theorem tf{h:Heap}{a:Addr}(e:Aa h.get? a=true):h.isNs a=true:=by
 unfold Aa FD at e
 unfold Heap.isNs
 cases q:h.get? a with
 | none=>rw [q]at e;cases e
 | some o=>
  rw [q]at e
  obtain ⟨c,d,dt,sl⟩:=o
  cases dt with
  | dict es ep=>show es.all _=true;rw [<-Array.all_toList];exact (bH.mp e).2
  | _=>cases e
theorem yN{g:aX}{T:String}{v:Value}{f:List Value->Bool}(h:IX g T v f=true):∃a its n,v= .ref a/\g a=some {cls:= .type T,data:= .seq its n}/\f its.toList=true:=by
 cases v with
 | ref a=>
  have h:(match g a with | some ⟨.type t,none,.seq its _,sl⟩=>(t==T)&&((sl.size==0)&&f its.toList) | _=>false)=true:=h
  cases e:g a with
  | none=>rw [e]at h;exact (aO h).elim
  | some o=>
   rw [e]at h
   obtain ⟨c,d,dt,sl⟩:=o
   cases c with
   | type t=>
    cases d with
    | none=>
     cases dt with
     | seq its n=>
      refine aR h λh1 h=>aR h λh2 h3=>⟨a,its,n,rfl,?_,h3⟩
      rw [e,eq_of_beq h1,Array.eq_empty_of_size_eq_zero (eq_of_beq h2)]
     | _=>exact (aO h).elim
    | some _=>exact (aO h).elim
   | _=>exact (aO h).elim
 | _=>exact aL (show false=true from h)
theorem wp{f:T->Value->Bool}{cl:Nat->Addr}{V:aX}(hf:∀t v,f t v=true->dw cl V v t):∀{ts:List T} {vs:List Value},Ms f ts vs=true->bA cl V vs ts
 |[],vs,h=>fJ (P:=λvs=>bA cl V vs []) h .nil
 | t::ts,vs,h=>fH (P:=λvs=>bA cl V vs (t::ts)) h λv vs h=>aR h λh1 h2=> .cons (hf _ _ h1) (wp hf h2)
theorem wq{g:aX}{cl:Nat->Addr}:∀(n:Nat) (t:T) (v:Value),Mu g n t v=true->dw cl g v t
 | 0,_,_,h=>aL h
 | n+1,t,v,h=>by
  cases t with
  | none=>cases v<;>first | exact .none | cases h
  | bool b=>cases v<;>first | exact (congrArg Value.bool (eq_of_beq h)) | cases h
  | int i=>
   cases v with
   | int a tk=>exact ⟨tk,congrArg (Value.int · tk) (eq_of_beq h)⟩
   | _=>cases h
  | str x=>
   cases v with
   | str a tk=>exact ⟨tk,congrArg (Value.str · tk) (eq_of_beq h)⟩
   | _=>cases h
  | list l=>
   obtain ⟨a,its,m,rfl,e,k⟩:=yN (T:="list") h
   exact .list a its.toList m l e (wp (wq n) k)
  | tup l=>
   obtain ⟨a,its,m,rfl,e,k⟩:=yN (T:="tuple") h
   exact .tup a its.toList m l e (wp (wq n) k)
  | inst c ks l=>cases h
  | rng a b c=>cases h
section
variable{g:aX}
noncomputable def P7(g:aX)(K:List (Addr×Obj)):Prop:=∀p∈K,g p.1=some p.2
theorem ww{a:Addr}:P7 g (Jz g a):=λp hp=>by
 unfold Jz at hp
 cases q:g a with
 | none=>rw [q]at hp;cases hp
 | some o=>rw [q]at hp;obtain rfl:=aN.mp hp;exact q
theorem P7.app{K L:List (Addr×Obj)}(h:P7 g K)(k:P7 g L):P7 g (K++L):=λp hp=>(aP.mp hp).elim (h p) (k p)
theorem zt{v:Option Value}{f:Addr->List (Addr×Obj)}(h:∀a,P7 g (f a)):P7 g (Jf v f):=by
 cases v with
 | none=>exact λ_ hp=>nomatch hp
 | some v=>
  cases v with
  | ref a=>exact h a
  | _=>exact λ_ hp=>nomatch hp
theorem Ko{o:Option Obj}{f:Addr->List (Addr×Obj)}(h:∀a,P7 g (f a)):P7 g (Sx o f):=by
 cases o with
 | none=>exact λ_ hp=>nomatch hp
 | some o=>
  obtain ⟨_,_,dt,_⟩:=o
  cases dt with
  | cls cd=>exact h cd.ns
  | _=>exact λ_ hp=>nomatch hp
theorem AI{x:Str}:P7 g (C6 g x):=zt λ_=>ww.app (Ko λ_=>ww.app (zt λ_=>ww))
theorem AE{K:Frag}{a:Addr}{o:Obj}:K.lookup a=some o->(a,o)∈K:=by
 induction K with
 | nil=>intro h;cases h
 | cons p K ih=>
  intro h
  obtain ⟨b,q⟩:=p
  rw [aZ]at h
  cases hb:a==b with
  | true=>rw [hb]at h;obtain rfl:=ah.inj h;rw [eq_of_beq hb];exact ak
  | false=>rw [hb]at h;exact ao _ (ih h)
theorem pk{h h':Heap}(hk:∀b o,h.get? b=some o->h'.get? b=some o):(jh h.get?).In h':=λa o e=>by
 obtain ⟨x,_,hx⟩:=L7.mp (AE e)
 exact hk _ _ (AI _ hx)
end
end
section
theorem CW{h:Heap}{a:Addr}{d:Tt}(e:ES h.get? a=some (Br d)):zS h a d.1 d.2.1 d.2.2:=by
 unfold ES at e
 cases ho:h.get? a with
 | none=>rw [ho]at e;cases e
 | some o=>
  rw [ho]at e
  obtain ⟨c,dc,dt,sl⟩:=o
  cases dt with
  | func fd=>
   have e:=ah.inj e
   exact ⟨_,fd,ho,rfl,⟨congrArg (·.1) e,congrArg (·.2.1) e,congrArg (·.2.2.1) e,congrArg (·.2.2.2.1) e,congrArg (·.2.2.2.2.2.1) e,congrArg (·.2.2.2.2.1) e,congrArg (·.2.2.2.2.2.2.1) e⟩,.of_ok (congrArg (·.2.2.2.2.2.2.2) e)⟩
  | _=>cases e
theorem zS.keeps{h h':Heap}{a:Addr}{ps:Arguments}{b:List Stmt}{sc:Scope}(x:zS h a ps b sc)(hk:∀b o,h.get? b=some o->h'.get? b=some o):zS h' a ps b sc:=
 let ⟨o,fd,e1,e2,e3,e4⟩:=x;⟨o,fd,hk _ _ e1,e2,e3,e4.keeps hk⟩
theorem vC{v:Option Value}{f:Addr->Option uy}{l:uy}(h:BO v f=some l):v=some (.ref (Jx v))/\f (Jx v)=some l:=by
 cases v with
 | none=>exact no h
 | some v=>
  cases v with
  | ref a=>exact ⟨rfl,h⟩
  | _=>exact no h
noncomputable def SJ(g:aX)(f:Nat):Addr:=Jx (NP g mainGlobals ((nth fR f).getD (aa "law")))
theorem zX:fR.length=131/\jw.length=5/\Ac.length=5:=⟨by decide+kernel,by decide+kernel,by decide+kernel⟩
theorem O3:((nth C_ 17).any λn=>(nth (nh pw) 17).any λd=>n[0]?.any λx=>qb d.2.2==some x)=true:=by decide+kernel
theorem GX:(FC.all λc=>(nth u5 c).any λn=>(nth (rC pw) c).any λd=>n[0]?.any λx=>qb d.2.2==some x)=true:=by decide+kernel
theorem wM{cs:List (Str×T)}:∀{fs:List Fn} {ns:List (List Str)} {ds:List Tt} {f:Nat} {F:Fn},FE cs fs ns ds=true->nth fs f=some F->∃n d,nth ns f=some n/\nth ds f=some d/\E8 cs F n d.1 d.2.1 d.2.2=true
 |[],_,_,_,_,_,h=>no h
 | _::_,[],_,_,_,h,_=>aL h
 | _::_,_::_,[],_,_,h,_=>aL h
 | F'::fs,n::ns,(a,b,sc)::ds,0,F,h,e=>aR (show (E8 cs F' n a b sc&&FE cs fs ns ds)=true from h) λh1 _=>ah.inj e▸⟨n,(a,b,sc),rfl,rfl,h1⟩
 | F'::fs,n::ns,(a,b,sc)::ds,f+1,F,h,e=>aR (show (E8 cs F' n a b sc&&FE cs fs ns ds)=true from h) λ_ h2=>wM (fs:=fs) (ns:=ns) (ds:=ds) (f:=f) h2 e
theorem tO{α β:Type}{u:α->β}:∀{l:List α} {i:Nat},nth (l.map u) i=(nth l i).map u
 |[],_=>rfl
 | _::_,0=>rfl
 | _::l,i+1=>tO (l:=l) (i:=i)
noncomputable def T1(w:World)(s0 h1:Heap):Wd:=
 {prog:=pw,w:=w,B:=h1.get?,cl:=Me s0.get?,fa:=SJ s0.get?,K:=jh s0.get?,mg:=s0.nsMap mainGlobals,mb:=s0.nsMap builtinsNs,consts:=oz}
section
variable{w:World}{s0 h1:Heap}
theorem C9(F:me s0.get? =nW pw){f:Nat}{x:Str}{d:Tt}(hx:nth fR f=some x)(hd:nth (nh pw) f=some d):s0.nsMap mainGlobals x=some (.ref (SJ s0.get? f))/\zS s0 (SJ s0.get? f) d.1 d.2.1 d.2.2:=by
 have e:=congrArg (λl=>nth l.1 f) F
 have e:nth (wD s0.get?) f=nth (wE pw) f:=e
 unfold wD wE at e
 rw [tO,tO,hx,hd]at e
 obtain ⟨e1,e2⟩:=vC (ah.inj e)
 have:SJ s0.get? f=Jx (NP s0.get? mainGlobals x):=by unfold SJ;rw [hx];rfl
 rw [this]
 exact ⟨xq e1,CW e2⟩
theorem Ep(F:me s0.get? =nW pw){c:Nat}{d:Tt}(hc:nth FC c=some c)(hd:nth (rC pw) c=some d):∃f,Ad (jh s0.get?) (Me s0.get? c)=some (.ref f)/\zS s0 f d.1 d.2.1 d.2.2:=by
 have e:nth (pg s0.get?) c=nth (pi pw) c:=congrArg (λl=>nth l.2.1 c) F
 unfold pg pi at e
 rw [tO,tO,hc,hd]at e
 obtain ⟨e1,e2⟩:=vC (ah.inj e)
 exact ⟨_,e1,CW e2⟩
theorem wF{c:Nat}(h:c<5):nth FC c=some c/\c∈FC:=by
 match c,h with
 | 0,_ | 1,_ | 2,_ | 3,_ | 4,_=>exact ⟨rfl,by decide⟩
theorem LF{c:Nat}(h:¬c<5):QN c=QN 0:=by
 unfold QN
 cases z:nth jw c with
 | none=>rfl
 | some a=>have:=m_ z;rw [zX.2.1]at this;exact absurd this h
theorem PD(b:BI):b∈ND:=by cases b<;>decide
structure tE(g:aX)(K:Frag)(c:Nat)(C:Addr):Prop where
 get:findIn K (.ref C) "__getattribute__"=some (some (.builtin "object.__getattribute__"))
 dict:hasDictIn K C=true
 attr:∀x∈bY,findIn K (.ref C) x=some none
 set:findIn K (.ref C) "__setattr__"=some (some (.builtin "object.__setattr__"))
 over:plainOver K C=true
 makes:makesIn K C=true
 nam:NP g mainGlobals (QN c)=some (.ref C)
 fn:∃f,Ad K C=some f/\typeIn K f=some (.type "function")
theorem EE{g:aX}{K:Frag}{c:Nat}{C:Addr}(h:Iw g K c C=true):tE g K c C:=
 aR h λh1 h=>aR h λh2 h=>aR h λh3 h=>aR h λh4 h=>aR h λh5 h=>aR h λh6 h=>aR h λh7 h8=>
  ⟨eq_of_beq h1,h2,λx hx=>eq_of_beq (ax.mp h3 x hx),eq_of_beq h4,h5,h6,eq_of_beq h7,let ⟨f,e,k⟩:=dk h8;⟨f,e,eq_of_beq k⟩⟩
theorem xB(F:me s0.get? =nW pw){c:Nat}(h:c<5):tE s0.get? (jh s0.get?) c (Me s0.get? c):=
 aR (congrArg (·.2.2) F:MB s0.get? =true) λh1 _=>EE (ax.mp h1 c (wF h).2)
theorem oQ(F:me s0.get? =nW pw)(c:Nat):∃c',tE s0.get? (jh s0.get?) c' (Me s0.get? c):=by
 by_cases h:c<5
 ·exact ⟨c,xB F h⟩
 ·have e:Me s0.get? c=Me s0.get? 0:=by unfold Me;rw [LF h]
  exact ⟨0,e▸xB F (by decide)⟩
theorem Ps(F:me s0.get? =nW pw):T_ (jh s0.get?) (Me s0.get?):=
 ⟨λc=>let ⟨_,h⟩:=oQ F c;h.get,λc=>let ⟨_,h⟩:=oQ F c;h.dict,λc k hk=>let ⟨_,h⟩:=oQ F c;h.attr _ (by unfold nm;rw [gB hk];exact L8 hk),λc=>let ⟨_,h⟩:=oQ F c;h.set,λc=>let ⟨_,h⟩:=oQ F c;h.over,of_decide_eq_true sE.1⟩
theorem Tu(F:me s0.get? =nW pw)(hk:∀b o,s0.get? b=some o->h1.get? b=some o):(T1 w s0 h1).Ok:=by
 refine aR (congrArg (·.2.2) F:MB s0.get? =true) λ_ hl=>aR hl λl2 hl=>aR hl λl3 hl=>aR hl λl4 hl=>aR hl λl5 hl=>aR hl λl6 l7=> ?_
 have up:∀h:Heap,Le (T1 w s0 h1).B h.get? ->∀b o,s0.get? b=some o->h.get? b=some o:=λh x b o e=>x b o (hk b o e)
 refine ⟨λh x=>(lG.of_isNs (tf l4)).keeps (up h x),λh x=>(lG.of_isNs (tf l5)).keeps (up h x),λh x=>pk (up h x),Ps F,λx t e=> ?_,λf x e=> ?_,λc x e=> ?_,λb=>aR (ax.mp l3 b (PD b)) λb1 b2=>⟨yT b1,xq (eq_of_beq b2)⟩⟩
 ·obtain ⟨v,hv,hr⟩:=dk (ax.mp l2 _ (cv e))
  exact ⟨v,xq hv,(wq 8 t v hr).mono hk⟩
 ·have hf:f<(nh pw).length:=by
   have:=m_ e
   rw [zX.1]at this
   rw [show (nh pw).length=131 by decide+kernel];exact this
  obtain ⟨a,b⟩:=C9 F e (gB hf)
  exact ⟨a,λh x=>let ⟨o,fd,e1,e2,_⟩:=b.keeps (up h x);⟨o,fd,e1,e2⟩⟩
 ·have hc:c<5:=by have:=m_ e;rw [zX.2.1]at this;exact this
  have h:=xB F hc
  have hn:=h.nam
  rw [show QN c=x by unfold QN;rw [e];rfl]at hn
  exact ⟨xq hn,λh' y=>makes_of (pk (up h' y)) h.makes⟩
theorem Ov(F:me s0.get? =nW pw)(hk:∀b o,s0.get? b=some o->h1.get? b=some o):Ag (T1 w s0 h1) br:=by
 refine aR (congrArg (·.2.2) F:MB s0.get? =true) λ_ hl=>aR hl λl2 hl=>aR hl λl3 hl=>aR hl λl4 hl=>aR hl λl5 hl=>aR hl λl6 l7=> ?_
 have up:∀h:Heap,Le (T1 w s0 h1).B h.get? ->∀b o,s0.get? b=some o->h.get? b=some o:=λh x b o e=>x b o (hk b o e)
 have lim:s0.NoLimit:=⟨_,.of_isNs (tf l6),yT l7⟩
 refine ⟨λh x=>lim.keeps (up h x),λf F' e=> ?_,λk F' e=> ?_⟩
 ·obtain ⟨n,d,h1',h2,h3⟩:=wM Hj (show nth Ud f=some F' from e)
  have hf:f<fR.length:=by
   have:=m_ h2
   rw [show (nh pw).length=131 by decide+kernel]at this
   rw [zX.1];exact this
  obtain ⟨a,b⟩:=C9 F (gB hf) h2
  refine ⟨n,d.1,d.2.1,d.2.2,h3,λhio=> ?_,λh x=>b.keeps (up h x)⟩
  obtain rfl:f=17:=eq_of_beq (show (f==17)=true from hio)
  obtain ⟨n',e1,k⟩:=dk O3
  obtain ⟨d',e2,k⟩:=dk k
  obtain rfl:=ah.inj (h1'.symm.trans e1)
  obtain rfl:=ah.inj (h2.symm.trans e2)
  exact k
 ·obtain ⟨n,d,h1',h2,h3⟩:=wM EF (show nth Ac k=some F' from e)
  have hk5:k<5:=by have:=m_ (show nth Ac k=some F' from e);rw [zX.2.2]at this;exact this
  have hc:=xB F hk5
  obtain ⟨f,e1,b⟩:=Ep F (wF hk5).1 h2
  obtain ⟨f',e2,ht⟩:=hc.fn
  obtain rfl:=ah.inj (e1.symm.trans e2)
  have hi:findIn (jh s0.get?) (.ref (Me s0.get? k)) (aa "__init__")=some (some (.ref f)):=by
   unfold Ad at e1
   cases z:findIn (jh s0.get?) (.ref (Me s0.get? k)) (aa "__init__")with
   | none=>rw [z]at e1;cases e1
   | some y=>rw [z]at e1;exact congrArg some e1
  obtain ⟨n',z1,kk⟩:=dk (ax.mp GX k (wF hk5).2)
  obtain ⟨d',z2,kk⟩:=dk kk
  obtain rfl:=ah.inj (h1'.symm.trans z1)
  obtain rfl:=ah.inj (h2.symm.trans z2)
  exact ⟨n,d.1,d.2.1,d.2.2,f,h3,hi,ht,kk,λh x=>makes_of (pk (up h x)) hc.makes,λh x=>b.keeps (up h x)⟩
end
end
open PySem.Spec
theorem GS:nth fR 130=some (aa "law"):=by decide+kernel
noncomputable def N0:Nat:=40
theorem QV:fD callerA N0:=⟨rfl,by decide,by decide+kernel⟩
theorem uK{R:WRecords}{clf:Str->Option Addr}{h:Heap}{cl:Nat->Addr}:∀{ns:List Int} {vs:List Value} {as:List Addr},ReadsAllW R clf h vs (ns.map WData.int) as->bA cl h.get? vs (ns.map T.int)
 |[],vs,as,r=>by cases r;exact .nil
 | n::ns,vs,as,r=>by
  cases r with
  | cons a b=>
   obtain ⟨k,rfl,_⟩:=readsW_int_inv a
   exact .cons (.int _ _) (uK b)
theorem r7:∀ns:List Int,ofPys (ns.map PyData.int)=ns.map WData.int
 |[]=>rfl
 | n::ns=>congrArg (WData.int n:: ·) (r7 ns)
theorem O'{R:RowW}{clf:Str->Option Addr}{mean:ExcName->Option Value}{args:List WData}{s₁ s':Shared}{V V':aX}{cl:Nat->Addr}{v:Value}(hr:∀cls,R.claim.raises args cls=false)(hpost:R.claim.post args (.bool true) args=true)(hg:s₁.gens= #[])(x:iF V s₁ V' s')(r:dw cl V' v (.bool true)):
  GoodWG R.claim clf mean args s₁ (.ok (.ret v)) s':=by
 obtain rfl:v= .bool true:=r
 refine GoodW.toG ⟨.inl ⟨_,.bool true,[],rfl,hr,.bool true,hpost,λ_=>⟨bL,λa ha=>nomatch ha⟩⟩,aS x.keeps,?_,?_⟩
 ·obtain ⟨h',k,rfl,_⟩:=x.keeps;rfl
 ·obtain ⟨h',k,rfl,_⟩:=x.keeps;exact hg
theorem sn{R:WRecords}:∀{xs:List WData},WShape.hasItems R xs .int=true->∃ns:List Int,xs=ns.map WData.int
 |[],_=>⟨[],rfl⟩
 | x::xs,h=>by
  obtain ⟨h1,h2⟩:=bH.mp (show (WShape.has R x .int&&WShape.hasItems R xs .int)=true from h)
  obtain ⟨i,rfl⟩:=hasW_int h1
  obtain ⟨ns,rfl⟩:=sn h2
  exact ⟨i::ns,rfl⟩
theorem Rn{ns:List Int}(p3:WTm.holds [] (.and (.not (.lt (.lit (.int ((63:Nat):Int))) (.len (.arg 0)))) (.lit (.bool true))) {args:=[WData.list (ns.map WData.int)]}=true):ns.length<=63:=by
 refine Nat.le_of_not_lt λhlt=> ?_
 have h':(63:Int)<(ns.length:Int):=bF.mpr hlt
 have h'':PySem.W.Num.less? (WData.int 63) (WData.int (ns.length:Int))=some true:=congrArg some (decide_eq_true h')
 simp [WTm.holds,WTm.value,PySem.W.less?,h'']at p3
theorem Gh{args:List WData}(h:Sn.row.toRowW.claim.pre args=true):∃ns:List Int,args=[.list (ns.map .int)]/\ns.length<=63:=by
 obtain ⟨p1,p2⟩:=pre_splitW h
 obtain ⟨dd,r,rfl,q1,q2⟩:=hasAllW_cons (e:= .list .int) (es:=[]) p1
 obtain rfl:=hasAllW_nil q2
 obtain ⟨xs,rfl,q3⟩:=hasW_list q1
 obtain ⟨ns,rfl⟩:=sn q3
 exact ⟨ns,rfl,Rn p2⟩
theorem Ar{R:WRecords}{clf:Str->Option Addr}{h:Heap}{vals:List Value}{ns:List Int}{as:List Addr}(r:ReadsAllW R clf h vals [WData.list (ns.map WData.int)] as):∃ad vs m ob,vals=[.ref ad]/\h.get? ad=some ob/\ob.cls= .type "list"/\ob.data= .seq vs m/\∃as',ReadsAllW R clf h vs.toList (ns.map WData.int) as':=by
 cases r with
 | cons r0 r1=>
  obtain ⟨l,o,its,n,ai,rfl,e1,e2,e3,e4,_⟩:=readsW_list_open r0
  cases r1
  exact ⟨l,its,n,o,rfl,e1,e2,e3,ai,e4⟩
theorem FJ{d:DefRec}(hd:d.name=aa "law"){kwd:List (Str×ag)}
  (hlaw:∀ns:List Int,ns.length<=63->(bj br N0).call 130 [.list (ns.map .int)]=some (.bool true)):
  WalkX (q1 Sn.row.prog) (xv Sn.row.prog) (λ_ _=>True) (λs=>me s.heap.get?) (λ_=>nW pw) Sn.row.toRowW d kwd λf vs=>kB f vs:=by
 intro w s₀ s₁ mg mb G F a o pm cd doc dV kV ho hdat hcd hD hmg hg args vals as L hpre hlay hrd hwl hlo
 have hk:=L.keeps
 have OK:=Tu (w:=w) F hk
 have PO:=Ov (w:=w) F hk
 obtain ⟨oc,_⟩:=HX OK PO N0
 have hns:s₁.heap.Ns mainGlobals mg:=G.T.g
 have hns0:=OK.ns s₁.heap Le.rfl
 have emg:mg=s₀.heap.nsMap mainGlobals:=(lG.eq_nsMap hns).trans (lG.eq_nsMap hns0).symm
 have hfa:SJ s₀.heap.get? 130=a:=by
  have h2:s₀.heap.nsMap mainGlobals (aa "law")=some (.ref (SJ s₀.heap.get? 130)):=(OK.fn 130 _ GS).1
  rw [emg,hd,h2]at hmg
  exact Value.ref.inj (ah.inj hmg)
 clear hlay hwl hlo
 obtain ⟨ns,rfl,hlen⟩:=Gh hpre
 obtain ⟨ad,vs,m,ob,rfl,e1,e2,e3,as',e4⟩:=Ar hrd
 have eArgs:WData.list (ns.map WData.int)=ofPy (PyData.list (ns.map PyData.int)):=congrArg WData.list (r7 ns).symm
 have L':=L
 rw [eArgs]at L'
 have hobj:=X.script_obj L' ⟨ob,e1,e2,m,e3⟩
 have hrep:dw (Me s₀.heap.get?) s₁.heap.get? (.ref ad) (.list (ns.map .int)):= .list ad vs.toList 0 _ (by rw [hobj]) (uK e4)
 subst hfa
 exact oc.call 130 _ _ (hlaw ns hlen) callerA QV s₁.heap.get? s₁ Le.rfl Le.rfl [.ref ad] (.cons hrep .nil) _ _ λv s' V' x r=>O' (λcls=>rfl) (by first | decide |(with_unfolding_all rfl) |(show WTm.holds _ _ _=true;simp [WTm.holds,WTm.eval];done)) hg x r
section
noncomputable def bz{α:Type}(a b:Option α):Prop:=∀v,a=some v->b=some v
theorem bz.rfl'{α:Type}{a:Option α}:bz a a:=λ_ h=>h
theorem bz.bind{α β:Type}{a b:Option α}{f g:α->Option β}(h:bz a b)(k:∀x,bz (f x) (g x)):bz (a.bind f) (b.bind g):=λv e=>by
 cases a with
 | none=>cases e
 | some x=>rw [h x rfl];exact k x v e
theorem bz.map{α β:Type}{a b:Option α}{f:α->β}(h:bz a b):bz (a.map f) (b.map f):=λv e=>by
 cases a with
 | none=>cases e
 | some x=>rw [h x rfl];exact e
theorem bz.ite{α:Type}{p:Prop}[Decidable p]{a b c d:Option α}(h:bz a b)(k:bz c d):bz (if p then a else c) (if p then b else d):=by
 split<;>assumption
theorem bz.nil{α:Type}{x:X}{a b c d:Option α}(h:bz a b)(k:bz c d):bz (mf x a c) (mf x b d):=by cases x<;>first | exact h | exact k
@[reducible] noncomputable def UR(a b:Option O):Prop:=bz (a.bind O.t?) (b.bind O.t?)
@[reducible] noncomputable def US(a b:Option O):Prop:=bz (a.bind O.int?) (b.bind O.int?)
theorem bz.t{a b:Option O}(h:bz a b):UR a b:=h.bind λ_=>bz.rfl'
theorem bz.i{a b:Option O}(h:bz a b):US a b:=h.bind λ_=>bz.rfl'
structure d5.Le(c d:d5):Prop where
 call:∀f l,bz (c.call f l) (d.call f l)
 new:∀f l,bz (c.new f l) (d.new f l)
 io:∀f r l,bz (c.io f r l) (d.io f r l)
theorem oA{α:Type}{f f':b6->Option Bool}{g g':b6->Option α}{tg:List Nat}{ρ:b6}(hf:∀r,bz (f r) (f' r))(hg:∀r,bz (g r) (g' r)):∀l,bz (gQ f g tg ρ l) (gQ f' g' tg ρ l)
 |[]=>bz.rfl'
 | t::r=>bz.bind bz.rfl' λx=>bz.bind (hf x) λ_=>bz.ite (bz.bind (hg x) λy=>bz.map (oA hf hg r)) (oA hf hg r)
theorem bz.rest{a b:b6->Option n4}(h:∀r,bz (a r) (b r))(o:n4):bz (match o.2 with | some v=>some (o.1,some v) | ae=>a o.1) (match o.2 with | some v=>some (o.1,some v) | ae=>b o.1):=by
 obtain ⟨r,v⟩:=o
 cases v with
 | none=>exact h r
 | some v=>exact bz.rfl'
theorem C8{f f':b6->Option n4}{tg:List Nat}(hf:∀r,bz (f r) (f' r)):∀l ρ,bz (fQ f tg l ρ) (fQ f' tg l ρ)
 |[],_=>bz.rfl'
 | t::r,ρ=>bz.bind bz.rfl' λx=>bz.bind (hf x) (bz.rest λρ=>C8 hf r ρ)
theorem B3{t t':b6->Option Bool}{f f':b6->Option n4}(ht:∀r,bz (t r) (t' r))(hf:∀r,bz (f r) (f' r)):∀n ρ,bz (qJ t f n ρ) (qJ t' f' n ρ)
 | 0,_=>bz.rfl'
 | n+1,ρ=>bz.bind (ht ρ) λ_=>bz.ite (bz.bind (hf ρ) (bz.rest λρ=>B3 ht hf n ρ)) bz.rfl'
structure UQ(c d:d5)(x:X):Prop where
 e:∀ρ,bz (ev c x ρ) (ev d x ρ)
 t:∀ρ,bz (tst c x ρ) (tst d x ρ)
 s:∀ρ,bz (o7 c x ρ) (o7 d x ρ)
section
variable{c d:d5}(H:c.Le d)
include H
theorem Fw(e:X):UQ c d e:=by
 induction e with
 | lit t=>exact ⟨λ_=>bz.rfl',λ_=>bz.rfl',λ_=>bz.rfl'⟩
 | glob x t=>exact ⟨λ_=>bz.rfl',λ_=>bz.rfl',λ_=>bz.rfl'⟩
 | var i=>exact ⟨λ_=>bz.rfl',λ_=>bz.rfl',λ_=>bz.rfl'⟩
 | bin op a b ia ib=>exact ⟨λρ=>bz.bind (ia.e ρ).t λ_=>bz.bind (ib.e ρ).t λ_=>bz.rfl',λρ=>bz.bind (bz.bind (ia.e ρ).t λ_=>bz.bind (ib.e ρ).t λ_=>bz.rfl') λ_=>bz.rfl',λ_=>bz.rfl'⟩
 | neg a ia=>exact ⟨λρ=>bz.bind (ia.e ρ).t λ_=>bz.rfl',λ_=>bz.rfl',λ_=>bz.rfl'⟩
 | inv a ia=>exact ⟨λρ=>bz.bind (ia.e ρ).t λ_=>bz.rfl',λ_=>bz.rfl',λ_=>bz.rfl'⟩
 | nott a ia=>exact ⟨λρ=>bz.bind (ia.e ρ).t λ_=>bz.rfl',λρ=>bz.map (ia.t ρ),λ_=>bz.rfl'⟩
 | andd a b ia ib=>exact ⟨λρ=>bz.bind (ia.e ρ).t λ_=>bz.bind bz.rfl' λ_=>bz.ite (bz.bind (ib.e ρ) λ_=>bz.rfl') bz.rfl',λρ=>bz.bind (ia.t ρ) λ_=>bz.ite (ib.t ρ) bz.rfl',λ_=>bz.rfl'⟩
 | orr a b ia ib=>exact ⟨λρ=>bz.bind (ia.e ρ).t λ_=>bz.bind bz.rfl' λ_=>bz.ite bz.rfl' (bz.bind (ib.e ρ) λ_=>bz.rfl'),λρ=>bz.bind (ia.t ρ) λ_=>bz.ite bz.rfl' (ib.t ρ),λ_=>bz.rfl'⟩
 | cmp op a b ia ib=>exact ⟨λρ=>bz.bind (ia.e ρ).t λ_=>bz.bind (ib.e ρ).t λ_=>bz.rfl',λρ=>bz.bind (ia.e ρ).t λ_=>bz.bind (ib.e ρ).t λ_=>bz.rfl',λ_=>bz.rfl'⟩
 | ite q a b iq ia ib=>exact ⟨λρ=>bz.bind (iq.t ρ) λ_=>bz.ite (bz.bind (ia.e ρ) λ_=>bz.rfl') (bz.bind (ib.e ρ) λ_=>bz.rfl'),λ_=>bz.rfl',λ_=>bz.rfl'⟩
 | attr a k ia=>exact ⟨λρ=>bz.bind (ia.e ρ) λ_=>bz.rfl',λρ=>bz.bind (bz.t (bz.bind (ia.e ρ) λ_=>bz.rfl')) λ_=>bz.rfl',λ_=>bz.rfl'⟩
 | idx a i ia ii=>exact ⟨λρ=>bz.bind (ia.e ρ) λ_=>bz.bind (ii.e ρ).i λ_=>bz.rfl',λρ=>bz.bind (bz.t (bz.bind (ia.e ρ) λ_=>bz.bind (ii.e ρ).i λ_=>bz.rfl')) λ_=>bz.rfl',λ_=>bz.rfl'⟩
 | slc a lo hi ia il ih=>exact ⟨λρ=>bz.bind (ia.e ρ).t λ_=>bz.bind (il.e ρ).i λ_=>bz.nil bz.rfl' (bz.bind (ih.e ρ).i λ_=>bz.rfl'),λ_=>bz.rfl',λ_=>bz.rfl'⟩
 | list a ia=>exact ⟨λρ=>bz.map (ia.s ρ),λ_=>bz.rfl',λ_=>bz.rfl'⟩
 | tup a ia=>exact ⟨λρ=>bz.map (ia.s ρ),λ_=>bz.rfl',λ_=>bz.rfl'⟩
 | nil=>exact ⟨λ_=>bz.rfl',λ_=>bz.rfl',λ_=>bz.rfl'⟩
 | cons a r ia ir=>exact ⟨λ_=>bz.rfl',λ_=>bz.rfl',λρ=>bz.bind (ia.e ρ).t λ_=>bz.map (ir.s ρ)⟩
 | call f a ia=>exact ⟨λρ=>bz.bind (ia.s ρ) λ_=>bz.map (H.call _ _),λρ=>bz.bind (bz.bind (ia.s ρ) λ_=>H.call _ _) λ_=>bz.rfl',λ_=>bz.rfl'⟩
 | new f a ia=>exact ⟨λρ=>bz.bind (ia.s ρ) λ_=>bz.map (H.new _ _),λ_=>bz.rfl',λ_=>bz.rfl'⟩
 | bi b a ia=>exact ⟨λρ=>bz.bind (ia.s ρ) λ_=>bz.rfl',λ_=>bz.rfl',λ_=>bz.rfl'⟩
 | meth m o a io ia=>exact ⟨λρ=>bz.bind (io.e ρ).t λ_=>bz.bind (ia.e ρ).t λ_=>bz.rfl',λ_=>bz.rfl',λ_=>bz.rfl'⟩
 | comp tg src q e is iq ie=>exact ⟨λρ=>bz.bind (bz.bind (is.e ρ).t λ_=>bz.rfl') λ_=>bz.map (oA (λr=>bz.nil bz.rfl' (iq.t r)) (λr=>(ie.e r).t) _),λ_=>bz.rfl',λ_=>bz.rfl'⟩
theorem eQ(e:X):∀ρ,bz (ev c e ρ) (ev d e ρ):=(Fw H e).e
theorem wH(e:X)(ρ:b6):bz (((ev c e ρ).bind O.t?).map O.sh) (((ev d e ρ).bind O.t?).map O.sh):=bz.map (eQ H e ρ).t
theorem MJ(e:X):(∀ρ,bz (uA c e ρ) (uA d e ρ))/\∀ρ,bz (BG c e ρ) (BG d e ρ):=by
 induction e with
 | list a ia=>exact ⟨λρ=>bz.map (ia.2 ρ),λ_=>bz.rfl'⟩
 | bin op a n _ _=>
  refine ⟨λρ=> ?_,λ_=>bz.rfl'⟩
  show bz ((Mv op a).casesOn _ _) ((Mv op a).casesOn _ _)
  cases Mv op a with
  | none=>exact wH H _ ρ
  | some e=>exact bz.bind (eQ H e ρ).t λ_=>bz.bind (eQ H n ρ).i λ_=>bz.rfl'
 | comp tg src q e _ _ ie=>exact ⟨λρ=>bz.bind (bz.bind (eQ H src ρ).t λ_=>bz.rfl') λ_=>bz.map (oA (λr=>bz.nil bz.rfl' ((Fw H q).t r)) (λr=>ie.1 r) _),λ_=>bz.rfl'⟩
 | new f a _=>exact ⟨λρ=>bz.bind ((Fw H a).s ρ) λ_=>H.new _ _,λ_=>bz.rfl'⟩
 | cons a r ia ir=>exact ⟨wH H _,λρ=>bz.bind (ia.1 ρ) λ_=>bz.map (ir.2 ρ)⟩
 | _=>exact ⟨wH H _,λ_=>bz.rfl'⟩
theorem A_(e:X):∀ρ o,bz (upd c e ρ o) (upd d e ρ o):=by
 induction e with
 | attr a k ia=>
  refine λρ o=>bz.bind (eQ H a ρ) λr=> ?_
  cases r with
  | ins q ks l=>exact ia ρ _
  | _=>exact bz.rfl'
 | idx a i ia _=>
  refine λρ o=>bz.bind (eQ H a ρ) λr=>bz.bind (eQ H i ρ).i λn=> ?_
  cases r with
  | lst l=>exact bz.bind bz.rfl' λj=>ia ρ _
  | _=>exact bz.rfl'
 | _=>exact λ_ _=>bz.rfl'
theorem Co(a i ρ o):bz (Fy c a i ρ o) (Fy d a i ρ o):=by
 refine bz.bind (eQ H a ρ) λr=>bz.bind (eQ H i ρ).i λn=> ?_
 cases r with
 | lst l=>exact bz.bind bz.rfl' λj=>A_ H a ρ _
 | _=>exact bz.rfl'
theorem wu(a k ρ o):bz (xI c a k ρ o) (xI d a k ρ o):=by
 refine bz.bind (eQ H a ρ) λr=> ?_
 cases r with
 | ins q ks l=>exact bz.ite (A_ H a ρ _) bz.rfl'
 | _=>exact bz.rfl'
theorem Jb(s:S):∀ρ,bz (ex c s ρ) (ex d s ρ):=by
 induction s with
 | skip=>exact λ_=>bz.rfl'
 | seq a b ia ib=>exact λρ=>bz.bind (ia ρ) (bz.rest ib)
 | asg y e=>exact λρ=>bz.map (eQ H e ρ).t
 | asgO y e=>exact λρ=>bz.map ((MJ H e).1 ρ)
 | tupa ys e=>exact λρ=>bz.bind (eQ H e ρ).t λ_=>bz.rfl'
 | setI a i e=>exact λρ=>bz.bind (eQ H e ρ).t λ_=>bz.map (Co H _ _ _ _)
 | setA a k e=>exact λρ=>bz.bind (eQ H e ρ).t λ_=>bz.map (wu H _ _ _ _)
 | setAO a k e=>exact λρ=>bz.bind ((MJ H e).1 ρ) λ_=>bz.map (wu H _ _ _ _)
 | aug y op e=>exact λρ=>bz.bind bz.rfl' λ_=>bz.bind (eQ H e ρ).t λ_=>bz.rfl'
 | augI a i op e=>exact λρ=>bz.bind (eQ H _ ρ).t λ_=>bz.bind (eQ H e ρ).t λ_=>bz.bind bz.rfl' λ_=>bz.map (Co H _ _ _ _)
 | augA a k op e=>exact λρ=>bz.bind (eQ H _ ρ).t λ_=>bz.bind (eQ H e ρ).t λ_=>bz.bind bz.rfl' λ_=>bz.map (wu H _ _ _ _)
 | iff q a b ia ib=>exact λρ=>bz.bind ((Fw H q).t ρ) λ_=>bz.ite (ia ρ) (ib ρ)
 | forr tg src b ib=>exact λρ=>bz.bind (bz.bind (eQ H src ρ).t λ_=>bz.rfl') λ_=>C8 ib _ _
 | whl q b ib=>exact λρ=>B3 (λr=>(Fw H q).t r) ib _ _
 | ret e=>exact λρ=>bz.map (eQ H e ρ).t
 | app a e=>
  refine λρ=>bz.bind (eQ H a ρ) λr=>bz.bind (eQ H e ρ).t λ_=> ?_
  cases r with
  | lst l=>exact bz.ite (bz.map (A_ H a ρ _)) bz.rfl'
  | _=>exact bz.rfl'
 | ext y e=>exact λρ=>bz.bind bz.rfl' λ_=>bz.bind (eQ H e ρ).t λ_=>bz.rfl'
 | callIO f y a=>exact λρ=>bz.bind bz.rfl' λ_=>bz.bind ((Fw H a).s ρ) λ_=>bz.map (H.io _ _ _)
 | frz y=>exact λ_=>bz.rfl'
end
theorem CA(P:P5):∀n,(bj P n).Le (bj P (n+1))
 | 0=>⟨(λ_ _ _ h=>nomatch h),(λ_ _ _ h=>nomatch h),(λ_ _ _ _ h=>nomatch h)⟩
 | n+1=>have ih:=CA P n
  ⟨λf l=>bz.bind bz.rfl' λF=>bz.bind bz.rfl' λρ=>bz.map (Jb ih F.body ρ),λf l=>bz.bind bz.rfl' λF=>bz.bind bz.rfl' λρ=>bz.bind (Jb ih F.body _) λ_=>bz.rfl',
   λf r l=>bz.ite (bz.bind bz.rfl' λF=>bz.bind bz.rfl' λρ=>bz.bind (Jb ih F.body _) λ_=>bz.rfl') bz.rfl'⟩
theorem d5.Le.trans{a b c:d5}(h:a.Le b)(k:b.Le c):a.Le c:=⟨λf l v e=>k.call f l v (h.call f l v e),λf l v e=>k.new f l v (h.new f l v e),λf r l v e=>k.io f r l v (h.io f r l v e)⟩
theorem HY(P:P5)(n:Nat):∀k,(bj P n).Le (bj P (n+k))
 | 0=>⟨λ_ _ _ h=>h,λ_ _ _ h=>h,λ_ _ _ _ h=>h⟩
 | k+1=>(HY P n k).trans (CA P (n+k))
theorem b8{P:P5}{n m:Nat}(h:n<=m){f:Nat}{l:List T}{v:T}(e:(bj P n).call f l=some v):(bj P m).call f l=some v:=by
 obtain ⟨k,rfl⟩:=Ai h
 exact (HY P n k).call f l v e
end
noncomputable def B:Nat->(Nat->Bool)->Nat
 | 0,_=>0
 | n+1,P=>B n P+(if P n then 2^n else 0)
noncomputable def cnt:Nat->(Nat->Bool)->Nat
 | 0,_=>0
 | n+1,P=>cnt n P+(if P n then 1 else 0)
theorem Qv:∀n P,B n P<2^n
 | 0,_=>by simp [B]
 | n+1,P=>by
  have:=Qv n P
  unfold B
  rw [DK]
  split<;>omega
theorem qT{P Q:Nat->Bool}:∀{n:Nat},(∀s,s<n->P s=Q s)->B n P=B n Q
 | 0,_=>rfl
 | n+1,h=>by unfold B;rw [qT λs hs=>h s (cq hs),h n (cn n)]
theorem cZ{P Q:Nat->Bool}:∀{n:Nat},(∀s,s<n->P s=Q s)->cnt n P=cnt n Q
 | 0,_=>rfl
 | n+1,h=>by unfold cnt;rw [cZ λs hs=>h s (cq hs),h n (cn n)]
theorem i9(P:Nat->Bool):∀n s,(B n P).testBit s=(decide (s<n)&&P s)
 | 0,s=>by simp [B]
 | n+1,s=>by
  have hlt:=Qv n P
  unfold B
  by_cases hp:P n
  ·rw [if_pos hp]
   by_cases h1:s=n
   ·subst h1
    rw [bU,Nat.testBit_two_pow_add_eq]
    simp [BY hlt,hp]
   ·by_cases h2:s<n
    ·rw [bU,Nat.testBit_two_pow_add_gt h2,i9 P n s]
     simp [h2,cq h2]
    ·have h3:n+1<=s:=by omega
     have:B n P+2^n<2^s:=by
      have:=Ff (n:=2) (by decide) h3
      rw [DK]at this;omega
     rw [BY this]
     have:¬s<n+1:=by omega
     simp [this]
  ·rw [if_neg hp,DM,i9 P n s]
   by_cases h1:s=n
   ·subst h1;simp [hp]
   ·have:(s<n)=(s<n+1):=by apply propext;omega
    simp [this]
theorem NK{n:Nat}{P Q:Nat->Bool}(h:B n P=B n Q)(s:Nat)(hs:s<n):P s=Q s:=by
 have:=i9 P n s
 rw [h,i9]at this
 simpa [hs]using this.symm
theorem j5{n a:Nat}{P:Nat->Bool}(h:∀s,a.testBit s=(decide (s<n)&&P s)):a=B n P:=by
 apply Fj
 intro s
 rw [i9,h]
theorem BW(n:Nat):B n (λ_=>false)=0:=by
 induction n with
 | zero=>rfl
 | succ n ih=>simp [B,ih]
theorem PQ(n:Nat):B n (λ_=>true)=2^n - 1:=by
 induction n with
 | zero=>rfl
 | succ n ih=>simp only [B,ih,if_true,DK];have:=PS n;omega
theorem pz{n:Nat}{P:Nat->Bool}:B n P=0↔∀s,s<n->P s=false:=by
 constructor
 ·intro h s hs
  rw [<-BW n]at h
  exact NK h s hs
 ·intro h
  rw [qT h,BW]
theorem NL(n:Nat)(P Q:Nat->Bool):B n P&&&B n Q=B n (λs=>P s&&Q s):=by
 apply j5;intro s;rw [vI,i9,i9];cases decide (s<n)<;>simp
theorem TL(n:Nat)(P Q:Nat->Bool):B n P|||B n Q=B n (λs=>P s||Q s):=by
 apply j5;intro s;rw [Qw,i9,i9];cases decide (s<n)<;>simp
theorem rK(n:Nat)(P Q:Nat->Bool):B n P=B n (λs=>P s&&Q s)+B n (λs=>P s&& !Q s):=by
 induction n with
 | zero=>rfl
 | succ n ih=>unfold B;rw [ih];cases hp:P n<;>cases hq:Q n<;>simp [hp,hq]<;>omega
theorem NJ(n m:Nat)(h:m<n):B n (λs=>s==m)=2^m:=by
 symm;apply j5;intro s;rw [Nat.testBit_two_pow]
 by_cases e:m=s
 ·subst e;simp [h]
 ·have:¬s=m:=λk=>e k.symm
  simp [e,this]
noncomputable def bI(n:Nat)(P:Nat->Bool):Int:=(B n P:Int)
noncomputable def nI(n:Nat)(P:Nat->Bool):Int:= -(bI n P) - 1
theorem dK(n P):0<=bI n P:=au _
theorem Bo(n P):¬0<=nI n P:=by have:=dK n P;unfold nI;omega
theorem gL(n P):(bI n P).toNat=B n P:=rfl
theorem lA(n P):tH (nI n P)=bI n P:=by unfold tH nI;omega
theorem nl(n P):tH (bI n P)=nI n P:=rfl
theorem bp{n:Nat}{P Q:Nat->Bool}(h:∀s,s<n->P s=Q s):bI n P=bI n Q:=by unfold bI;rw [qT h]
theorem Iy{n:Nat}{P Q:Nat->Bool}(h:bI n P=bI n Q)(s:Nat)(hs:s<n):P s=Q s:=NK (uh.inj h) s hs
theorem RU(n P):bI n P<2^n:=by
 have:=Qv n P
 unfold bI
 have h2:((2^n:Nat):Int)=(2:Int)^n:=kbt_cast n
 omega
theorem fq(n):bI n (λ_=>false)=0:=by unfold bI;rw [BW];rfl
theorem cP{n:Nat}{P:Nat->Bool}:bI n P=0↔∀s,s<n->P s=false:=by
 rw [<-pz];unfold bI;omega
theorem xC(n m:Nat)(h:m<n):bI n (λs=>s==m)=2^m:=by unfold bI;rw [NJ n m h,kbt_cast]
theorem dJ(n P Q):aj (bI n P) (bI n Q)=bI n (λs=>P s&&Q s):=by
 rw [bitAnd_pp (dK _ _) (dK _ _),gL,gL,NL];rfl
theorem iO(n P Q):aj (bI n P) (nI n Q)=bI n (λs=>P s&& !Q s):=by
 rw [bitAnd_pn (dK _ _) (Bo _ _),lA,gL,gL,NL]
 have:=rK n P Q
 unfold bI;omega
theorem BR(n P Q):aj (nI n P) (bI n Q)=bI n (λs=> !P s&&Q s):=by
 rw [bitAnd_comm,iO];exact bp λs _=>cz _ _
theorem BS(n P Q):aj (nI n P) (nI n Q)=nI n (λs=>P s||Q s):=by
 rw [bitAnd_nn (Bo _ _) (Bo _ _),lA,lA,gL,gL,TL];rfl
theorem ec(n P Q):av (bI n P) (bI n Q)=bI n (λs=>P s||Q s):=by
 unfold av;rw [nl,nl,BS,lA]
theorem MY(n P Q):av (nI n P) (bI n Q)=nI n (λs=>P s&& !Q s):=by
 unfold av;rw [lA,nl,iO,nl]
theorem MX(n P Q):av (bI n P) (nI n Q)=nI n (λs=> !P s&&Q s):=by
 unfold av;rw [lA,nl,BR,nl]
theorem MZ(n P Q):av (nI n P) (nI n Q)=nI n (λs=>P s&&Q s):=by
 unfold av;rw [lA,lA,dJ,nl]
theorem A8(n P Q):c_ (bI n P) (bI n Q)=bI n (λs=>P s^^Q s):=by
 unfold c_
 rw [ec,dJ]
 have:=rK n (λs=>P s||Q s) (λs=>P s&&Q s)
 rw [qT (P:=λs=>(P s||Q s)&&(P s&&Q s)) (Q:=λs=>P s&&Q s) (λs _=>by cases P s<;>cases Q s<;>rfl),qT (P:=λs=>(P s||Q s)&& !(P s&&Q s)) (Q:=λs=>P s^^Q s) (λs _=>by cases P s<;>cases Q s<;>rfl)]at this
 unfold bI;omega
theorem oq(a k:Nat):QE (a:Int) (2^k)=((a/2^k:Nat):Int):=by
 rw [bO _ (bv (kbt_pos k)),<-kbt_cast];rfl
theorem QT(n k:Nat)(P):B n P/2^k=B n (λs=>decide (s+k<n)&&P (s+k)):=by
 apply j5;intro s
 rw [Nat.testBit_div_two_pow,i9]
 by_cases h:s+k<n
 ·have:s<n:=by omega
  rw [bU s k]at h⊢
  simp [h,this]
 ·rw [bU s k]at h⊢;simp [h]
theorem qi(n k:Nat)(P):(bI n P).fdiv (2^k)=bI n (λs=>decide (s+k<n)&&P (s+k)):=by
 unfold bI;rw [oq,QT]
theorem Bf(n k:Nat)(P):aj (bI n P*2^k) (bI n λ_=>true)=bI n (λs=>decide (k<=s)&&P (s - k)):=by
 have e:bI n P*2^k=((B n P*2^k:Nat):Int):=by unfold bI;rw [Int.natCast_mul,kbt_cast]
 rw [e,bitAnd_pp (au _) (dK _ _),gL]
 show ((B n P*2^k&&&B n (λ_=>true):Nat):Int)=bI n _
 unfold bI
 congr 1
 apply j5;intro s
 rw [vI,i9,<-Nat.shiftLeft_eq,Nat.testBit_shiftLeft,i9]
 by_cases h:s<n
 ·by_cases h2:k<=s
  ·have:s - k<n:=by omega
   simp [h,h2,this]
  ·simp [h,h2]
 ·simp [h]
theorem Kz(n:Nat)(x y:Int)(hx:0<=x)(hy:0<=y):aj (av x y) (bI n λ_=>true)=av (aj x (bI n λ_=>true)) (aj y (bI n λ_=>true)):=by
 have o:∀a b:Nat,av (a:Int) (b:Int)=((a|||b:Nat):Int):=λa b=>by
  rw [bitOr_and,bitAnd_pp (au _) (au _)]
  have:=nat_or_add_and a b
  simp only [gn];omega
 obtain ⟨a,rfl⟩:=cR hx
 obtain ⟨b,rfl⟩:=cR hy
 rw [o,bitAnd_pp (au _) (dK _ _),bitAnd_pp (au _) (dK _ _),bitAnd_pp (au _) (dK _ _),gL]
 simp only [gn]
 rw [o]
 congr 1
 apply Fj;intro s;simp [vI,Qw]
 cases a.testBit s<;>cases b.testBit s<;>cases (B n λ_=>true).testBit s<;>rfl
theorem jH(n:Nat)(P)(s:Nat):((bI n P).fdiv (2^s))%2=if decide (s<n)&&P s then 1 else 0:=by
 unfold bI
 rw [oq]
 have h:=Nat.testBit_eq_decide_div_mod_eq (x:=B n P) (i:=s)
 rw [i9]at h
 rw [h]
 have:(B n P/2^s)%2<2:=d_ _ (by decide)
 by_cases e:B n P/2^s%2=1
 ·simp only [e,decide_true,if_true];omega
 ·simp only [e,decide_false,fG,if_false];omega
section
theorem oC{d f:Nat}{F:Fn}{l:List T}{ρ:b6}(h:br.fn f=some F)(hr:ew F l=some ρ):(bj br (d+1)).call f l=(ex (bj br d) F.body ρ).map zK:=by
 show ((br.fn f).bind _)=_
 rw [h];show ((ew F l).bind _)=_
 rw [hr];rfl
section
variable{c:d5}{ρ ρ':b6}{a b:S}{v:T}
theorem cu(h:ex c a ρ=some (ρ',none)):ex c (.seq a b) ρ=ex c b ρ':=by
 show ((ex c a ρ).bind _)=_
 rw [h];rfl
theorem wG(h:ex c a ρ=some (ρ',some v)):ex c (.seq a b) ρ=some (ρ',some v):=by
 show ((ex c a ρ).bind _)=_
 rw [h];rfl
theorem tQ{q:X}{x:Bool}(h:tst c q ρ=some x):ex c (.iff q a b) ρ=if x then ex c a ρ else ex c b ρ:=by
 show ((tst c q ρ).bind _)=_
 rw [h];rfl
theorem Ip{tg:List Nat}{src:X}{t:T}{l:List T}(h:ev c src ρ=some (.sh t))(k:dg t=some l):ex c (.forr tg src b) ρ=fQ (ex c b) tg l ρ:=by
 show ((((ev c src ρ).bind O.t?).bind dg).bind _)=_
 rw [h];show ((dg t).bind _)=_
 rw [k];rfl
theorem BF{q:X}:ex c (.whl q b) ρ=qJ (tst c q) (ex c b) 1000 ρ:=rfl
theorem gD{t:b6->Option Bool}{f:b6->Option n4}{n:Nat}(h:t ρ=some true)(k:f ρ=some (ρ',none)):qJ t f (n+1) ρ=qJ t f n ρ':=by
 show ((t ρ).bind _)=_
 rw [h];show ((f ρ).bind _)=_
 rw [k];rfl
theorem n7{t:b6->Option Bool}{f:b6->Option n4}{n:Nat}(h:t ρ=some false):qJ t f (n+1) ρ=some (ρ,none):=by
 show ((t ρ).bind _)=_
 rw [h];rfl
theorem tm{f:b6->Option n4}{tg:List Nat}{t:T}{l:List T}{ρ1:b6}(h:dz tg t ρ=some ρ1)(k:f ρ1=some (ρ',none)):fQ f tg (t::l) ρ=fQ f tg l ρ':=by
 show ((dz tg t ρ).bind _)=_
 rw [h];show ((f ρ1).bind _)=_
 rw [k];rfl
end
theorem ET{P:Nat->Bool}:∀{n:Nat},(∃s,s<n/\P s=true)->∃m,m<n/\P m=true/\∀j,j<m->P j=false
 | 0,⟨_,h,_⟩=>absurd h (dC _)
 | n+1,⟨s,h,hp⟩=>by
  by_cases k:∃s,s<n/\P s=true
  ·obtain ⟨m,a,b,c⟩:=ET k
   exact ⟨m,cq a,b,c⟩
  ·have hf:∀j,j<n->P j=false:=λj hj=>by
    cases q:P j with
    | false=>rfl
    | true=>exact absurd ⟨j,hj,q⟩ k
   have:s=n:=by
    rcases jN.mp h with h | h
    ·rw [hf s h]at hp;cases hp
    ·exact h
   subst this
   exact ⟨s,h,hp,hf⟩
theorem lh(n:Nat)(P Q:Nat->Bool):cnt n P=cnt n (λs=>P s&&Q s)+cnt n (λs=>P s&& !Q s):=by
 induction n with
 | zero=>rfl
 | succ n ih=>unfold cnt;rw [ih];cases hp:P n<;>cases hq:Q n<;>simp [hp,hq]<;>omega
theorem eJ{n:Nat}{P:Nat->Bool}:cnt n P=0↔∀s,s<n->P s=false:=by
 induction n with
 | zero=>simp [cnt]
 | succ n ih=>
  unfold cnt
  constructor
  ·intro h s hs
   cases q:P n with
   | true=>rw [q]at h;simp at h
   | false=>
    rcases jN.mp hs with hs | rfl
    ·exact ih.mp (by rw [q]at h;simpa using h) s hs
    ·exact q
  ·intro h
   rw [ih.mpr λs hs=>h s (cq hs),h n (cn n)];simp
theorem rH(n m:Nat)(h:m<n):cnt n (λs=>s==m)=1:=by
 induction n with
 | zero=>exact absurd h (dC _)
 | succ n ih=>
  unfold cnt
  rcases jN.mp h with h | rfl
  ·rw [ih h]
   have:¬n=m:=by omega
   simp [this]
  ·have:cnt m (λs=>s==m)=0:=eJ.mpr λs hs=>by simp;omega
   simp [this]
theorem qz(n:Nat)(P:Nat->Bool):cnt n P<=n:=by
 induction n with
 | zero=>exact aA _
 | succ n ih=>unfold cnt;split<;>omega
theorem oB{n:Nat}{P Q:Nat->Bool}(h:∀s,s<n->P s=true->Q s=true):cnt n P<=cnt n Q:=by
 induction n with
 | zero=>exact aA _
 | succ n ih=>
  have:=ih λs hs=>h s (cq hs)
  have k:=h n (cn n)
  unfold cnt
  cases hp:P n
  ·simp;omega
  ·simp [k hp];omega
theorem R6(n m:Nat)(h:m<=n):B n (λs=>decide (s<m))=2^m - 1:=by
 have e:B n (λs=>decide (s<m))=B m (λ_=>true):=by
  symm;apply j5;intro s;rw [i9]
  by_cases k:s<m
  ·have:s<n:=by omega
   simp [k,this]
  ·simp [k]
 rw [e,PQ]
theorem Dy{n m:Nat}{P:Nat->Bool}(hm:m<n)(h1:P m=true)(h2:∀j,j<m->P j=false):bI n P - 1=bI n (λs=>decide (s<m)||(P s&& !(s==m))):=by
 have a:=rK n P (λs=>decide (m<s))
 have b:=rK n (λs=>decide (s<m)||(P s&& !(s==m))) (λs=>decide (m<s))
 have c1:B n (λs=>P s&& !decide (m<s))=2^m:=by
  rw [<-NJ n m hm]
  refine qT λs _=> ?_
  rcases gk s m with k | rfl | k
  ·have:¬m<s:=by omega
   have h3:¬s=m:=by omega
   simp [h2 s k,this,h3]
  ·simp [h1]
  ·have h3:¬s=m:=by omega
   simp [k,h3]
 have c2:B n (λs=>(decide (s<m)||(P s&& !(s==m)))&& !decide (m<s))=2^m - 1:=by
  rw [<-R6 n m (by omega)]
  refine qT λs _=> ?_
  rcases gk s m with k | rfl | k
  ·have:¬m<s:=by omega
   simp [k,this]
  ·simp
  ·have h3:¬s<m:=by omega
   simp [k,h3]
 have c3:B n (λs=>(decide (s<m)||(P s&& !(s==m)))&&decide (m<s))=B n (λs=>P s&&decide (m<s)):=by
  refine qT λs _=> ?_
  by_cases k:m<s
  ·have h3:¬s<m:=by omega
   have h4:¬s=m:=by omega
   simp [k,h3,h4]
  ·simp [k]
 rw [c1]at a;rw [c2,c3]at b
 have:=PS m
 unfold bI;omega
theorem zh{n m:Nat}{P:Nat->Bool}(hm:m<n)(h1:P m=true)(h2:∀j,j<m->P j=false):aj (bI n P) (bI n P - 1)=bI n (λs=>P s&& !(s==m)):=by
 rw [Dy hm h1 h2,dJ]
 refine bp λs _=> ?_
 by_cases k:s<m
 ·simp [h2 s k]
 ·cases P s<;>simp [k]
theorem tx{n m:Nat}{P:Nat->Bool}(hm:m<n)(h1:P m=true):cnt n P=cnt n (λs=>P s&& !(s==m))+1:=by
 rw [lh n P (λs=>s==m),bU]
 congr 1
 rw [<-rH n m hm]
 refine cZ λs _=> ?_
 by_cases k:s=m
 ·subst k;simp [h1]
 ·simp [k]
theorem wL{n:Nat}{P:Nat->Bool}(h:cnt n P≠0):∃s,s<n/\P s=true:=by
 by_cases k:∃s,s<n/\P s=true
 ·exact k
 ·exact absurd (eJ.mpr λs hs=>by
   cases q:P s with
   | false=>rfl
   | true=>exact absurd ⟨s,hs,q⟩ k) h
@[reducible] noncomputable def iT(i:Int):Option O:=some (.sh (.int i))
theorem sv(c:d5)(n:Nat):∀(k jW:Nat) (P:Nat->Bool) (a:Int),cnt n P=k->k<jW->
  qJ (tst c (.var 0)) (ex c (.seq (.aug 0 .and (.bin .sub (.var 0) (.lit (.int 1)))) (.seq (.aug 1 .add (.lit (.int 1))) .skip))) jW [iT (bI n P),iT a]=some ([iT 0,iT (a+k)],none)
 | 0,jW+1,P,a,h,_=>by
  have z:bI n P=0:=cP.mpr (eJ.mp h)
  rw [z];unfold qJ
  simp only [bQ,tG,Int.ofNat_zero]
  rfl
 | k+1,jW+1,P,a,h,hf=>by
  obtain ⟨m,hm,h1,h2⟩:=ET (wL (P:=P) (n:=n) (by omega))
  have nz:(bI n P==0)=false:=by
   rw [beq_eq_false_iff_ne];intro e
   rw [cP]at e;rw [e m hm]at h1;cases h1
  have st:(ex c (.seq (.aug 0 .and (.bin .sub (.var 0) (.lit (.int 1)))) (.seq (.aug 1 .add (.lit (.int 1))) .skip))) [iT (bI n P),iT a]=some ([iT (aj (bI n P) (bI n P - 1)),iT (a+1)],none):=rfl
  have te:tst c (.var 0) [iT (bI n P),iT a]=some (!(bI n P==0)):=rfl
  rw [nz]at te
  rw [gD te st,zh hm h1 h2]
  rw [sv c n k jW _ (a+1) (by have:=tx hm h1;omega) (by omega)]
  have:a+1+(k:Int)=a+((k+1:Nat):Int):=by omega
  rw [this]
theorem da(d n:Nat)(P:Nat->Bool)(hn:n<1000):(bj br (d+1)).call 0 [.int (bI n P)]=some (.int (cnt n P)):=by
 rw [oC (F:=jF) rfl rfl]
 have:=sv (bj br d) n (cnt n P) 1000 P 0 rfl (by have:=qz n P;omega)
 rw [de]at this
 have e:ex (bj br d) jF.body [iT (bI n P),none]=some ([iT 0,iT (cnt n P)],some (.int (cnt n P))):=by
  refine (cu (ρ':=[iT (bI n P),iT 0]) rfl).trans ?_
  refine (cu (BF.trans this)).trans ?_
  rfl
 exact congrArg (bZ zK) e
theorem vm(d n:Nat)(P:Nat->Bool):(bj br (d+1)).call 1 [.int (bI n P)]=some (.bool (decide (1<cnt n P))):=by
 have e:(bj br (d+1)).call 1 [.int (bI n P)]=some (.bool (!(aj (bI n P) (bI n P - 1)==0))):=rfl
 rw [e]
 congr 2
 by_cases z:cnt n P=0
 ·have:bI n P=0:=cP.mpr (eJ.mp z)
  rw [this,z];rfl
 ·obtain ⟨m,hm,h1,h2⟩:=ET (wL z)
  rw [zh hm h1 h2]
  have:=tx hm h1
  by_cases y:cnt n (λs=>P s&& !(s==m))=0
  ·rw [cP.mpr (eJ.mp y),this,y];rfl
  ·have hh:1<cnt n P:=by omega
   have nz:¬bI n (λs=>P s&& !(s==m))=0:=λe=>y (eJ.mpr (cP.mp e))
   simp [hh,nz]
noncomputable def Uc(o:Option T)(i:Int):Bool:=match o with | some (.int k)=>k==i | _=>false
theorem Ig{o:Option T}{i:Int}(h:Uc o i=true):o=some (.int i):=by
 cases o with
 | none=>exact (aO h).elim
 | some t=>
  cases t with
  | int k=>rw [eq_of_beq (show (k==i)=true from h)]
  | _=>exact (aO h).elim
theorem yb:(ar 20).all (λm=>Uc ((bj br 1).call 2 [.int (2^m)]) m)=true:=by decide+kernel
theorem we(d m:Nat)(h:m<20):(bj br (d+1)).call 2 [.int (2^m)]=some (.int m):=by
 have:=ax.mp yb m (az.mpr h)
 exact b8 (by omega) (Ig this)
theorem kF(d n m:Nat)(h:m<n)(hn:n<=20):(bj br (d+2)).call 3 [.int (bI n λs=>s==m)]=some (.int m):=by
 have k:=kbt_low m 0
 simp only [Int.mul_zero,de,TO]at k
 rw [oC (F:=sZ) rfl rfl,xC n m h]
 have e:ev (bj br (d+1)) (.call 2 (.cons (.bin .and (.var 0) (.neg (.var 0))) .nil)) [iT (2^m)]=mP ((bj br (d+1)).call 2 [.int (aj (2^m) (-(2^m)))]):=rfl
 rw [k,we d m (by omega)]at e
 have e2:ex (bj br (d+1)) sZ.body [iT (2^m)]=some ([iT (2^m)],some (.int m)):=by
  refine wG ?_
  show (((ev _ _ _).bind O.t?).map _)=_
  rw [e];rfl
 exact congrArg (bZ zK) e2
end
noncomputable def Pk(n k:Nat)(P:Nat->Bool):Nat->Bool:=λs=>decide (s+k<n)&&P (s+k)
theorem IH(n k j:Nat)(P):(bI n (Pk n k P)).fdiv (2^j)=bI n (Pk n (k+j) P):=by
 rw [qi]
 refine bp λs _=> ?_
 unfold Pk
 by_cases h:s+j+k<n
 ·have h1:s+j<n:=by omega
  have h2:s+(k+j)<n:=by omega
  have h3:s+j+k=s+(k+j):=by omega
  rw [h3];simp [h1,h2]
 ·have h2:¬s+(k+j)<n:=by omega
  simp [h,h2]
theorem L5(n)(P):bI n (Pk n 0 P)=bI n P:=bp λs h=>by simp [Pk,h]
theorem R5(n j:Nat)(Q):B n Q%2^j=B n (λs=>decide (s<j)&&Q s):=by
 apply j5;intro s
 rw [Nat.testBit_mod_two_pow,i9]
 by_cases h:s<j<;>simp [h]
theorem Ra(n k:Nat)(P):(aj (bI n (Pk n k P)) 15==0)=true↔∀j,k<=j->j<k+4->j<n->P j=false:=by
 rw [beq_iff_eq,bitAnd_m4]
 have e:(bI n (Pk n k P))%16=((B n (Pk n k P)%2^4:Nat):Int):=by unfold bI;omega
 rw [e,R5]
 constructor
 ·intro h j h1 h2 h3
  have h0:B n (λs=>decide (s<4)&&Pk n k P s)=0:=by omega
  have:=pz.mp h0 (j - k) (by omega)
  have e1:j - k+k=j:=by omega
  have e2:j - k<4:=by omega
  simpa [Pk,e1,h3,e2]using this
 ·intro h
  have:B n (λs=>decide (s<4)&&Pk n k P s)=0:=pz.mpr λs hs=>by
   by_cases h1:s<4
   ·by_cases h2:s+k<n
    ·simp [Pk,h (s+k) (by omega) (by omega) h2]
    ·simp [Pk,h2]
   ·simp [h1]
  rw [this];rfl
noncomputable def fN(n:Nat)(P:Nat->Bool):List Nat:=(ar n).filter P
noncomputable def ka(l:List Nat):List T:=l.map λs=> .int (s:Nat)
@[reducible] noncomputable def mr(n k:Nat)(P:Nat->Bool)(out:List O):b6:=[iT (bI n (Pk n k P)),some (.lst out),iT (k:Nat)]
@[reducible] noncomputable def wm:S:= .seq (.aug 0 .shr (.lit (.int 4))) (.seq (.aug 2 .add (.lit (.int 4))) .skip)
theorem F3(c:d5)(n:Nat)(P)(out:List O):∀(m jW k:Nat),n - k=m->m<jW->(∃s,k<=s/\s<n/\P s=true)->
  ∃k',k<=k'/\(∀j,k<=j->j<k'->P j=false)/\k'<n/\qJ (tst c (.nott (.bin .and (.var 0) (.lit (.int 15))))) (ex c wm) jW (mr n k P out)=some (mr n k' P out,none):=by
 intro m
 induction m using PT with
 | _ m ih=>
 intro jW k hm hf ⟨s,s1,s2,s3⟩
 cases jW with
 | zero=>omega
 | succ jW=>
 have te:tst c (.nott (.bin .and (.var 0) (.lit (.int 15)))) (mr n k P out)=some (!!(aj (bI n (Pk n k P)) 15==0)):=rfl
 rw [Bool.not_not]at te
 cases hz:(aj (bI n (Pk n k P)) 15==0)with
 | false=>
  rw [hz]at te
  exact ⟨k,aA _,λj h1 h2=>by omega,by omega,n7 te⟩
 | true=>
  have hz':=(Ra n k P).mp hz
  rw [hz]at te
  have st:ex c wm (mr n k P out)=some ([iT ((bI n (Pk n k P)).fdiv (2^4)),some (.lst out),iT ((k:Int)+4)],none):=rfl
  rw [IH,show (k:Int)+4=((k+4:Nat):Int) by omega]at st
  have hs:k+4<=s:=by
   rcases iU s (k+4)with h | h
   ·rw [hz' s s1 h s2]at s3;cases s3
   ·exact h
  obtain ⟨k',a,b,c',d⟩:=ih (n -(k+4)) (by omega) jW (k+4) rfl (by omega) ⟨s,hs,s2,s3⟩
  refine ⟨k',by omega,λj h1 h2=> ?_,c',(gD te st).trans d⟩
  rcases iU j (k+4)with h | h
  ·exact hz' j h1 h (by omega)
  ·exact b j h h2
@[reducible] noncomputable def Cd:S:= .seq (.whl (.nott (.bin .and (.var 0) (.lit (.int 15)))) wm) (.seq (.iff (.bin .and (.var 0) (.lit (.int 1))) (.seq (.app (.var 1) (.var 2)) .skip) .skip) (.seq (.aug 0 .shr (.lit (.int 1))) (.seq (.aug 2 .add (.lit (.int 1))) .skip)))
theorem KJ(n k:Nat)(P)(hk:k<n):aj (bI n (Pk n k P)) 1=if P k then 1 else 0:=by
 rw [bitAnd_m1]
 have:=jH n (Pk n k P) 0
 simp only [Int.pow_zero,Int.fdiv_one]at this
 rw [this]
 have h0:0<n:=by omega
 simp [Pk,h0,hk]
noncomputable def gF(n k:Nat)(P:Nat->Bool):List Nat:=((gX k (n - k))).filter P
theorem pD{n k k':Nat}{P}(h:k<=k')(h2:k'<=n)(hf:∀j,k<=j->j<k'->P j=false):gF n k P=gF n k' P:=by
 unfold gF
 have e:n - k=(k' - k)+(n - k'):=by omega
 rw [e,List.range'_eq_append_iff.mpr ⟨k' - k,by omega,rfl,rfl⟩,iZ]
 have z:(gX k (k' - k)).filter P=[]:=by
  rw [Al]
  intro a ha
  rw [List.mem_range'_1]at ha
  rw [hf a ha.1 (by omega)];decide
 rw [z,ic]
 have:k+(k' - k)*1=k':=by omega
 have h3:k' - k+(n - k') -(k' - k)=n - k':=by omega
 rw [this,h3]
theorem xU{n k:Nat}{P}(h:k<n):gF n k P=(if P k then [k]else [])++gF n (k+1) P:=by
 unfold gF
 have e:n - k=(n -(k+1))+1:=by omega
 rw [e,List.range'_succ,gN]
 split<;>simp
theorem F2(c:d5)(n:Nat)(hn:n<=900)(P):∀(m jW k:Nat) (out:List O),n - k=m->m<jW->k<=n->out.length<=k->
  ∃k',qJ (tst c (.var 0)) (ex c Cd) jW (mr n k P out)=some (mr n k' P (out++(gF n k P).map λs=> .sh (.int (s:Nat))),none):=by
 intro m
 induction m using PT with
 | _ m ih=>
 intro jW k out hm hf hk hl
 cases jW with
 | zero=>omega
 | succ jW=>
 have te:tst c (.var 0) (mr n k P out)=some (!(bI n (Pk n k P)==0)):=rfl
 by_cases hz:bI n (Pk n k P)=0
 ·refine ⟨k,?_⟩
  rw [hz]at te
  have z:gF n k P=[]:=by
   rw [pD hk (aA n) λj h1 h2=> ?_]
   ·unfold gF;simp
   ·have:=cP.mp hz (j - k) (by omega)
    have e1:j - k+k=j:=by omega
    simpa [Pk,e1,h2]using this
  rw [z,d3,bc]
  exact n7 te
 ·have hz':(bI n (Pk n k P)==0)=false:=beq_eq_false_iff_ne.mpr hz
  rw [hz']at te
  have hex:∃s,k<=s/\s<n/\P s=true:=by
   by_cases q:∃s,k<=s/\s<n/\P s=true
   ·exact q
   ·exact absurd (cP.mpr λs hs=>by
     unfold Pk
     by_cases h1:s+k<n
     ·cases hp:P (s+k)with
      | false=>simp
      | true=>exact absurd ⟨s+k,by omega,h1,hp⟩ q
     ·simp [h1]) hz
  obtain ⟨k',a,b,c',d⟩:=F3 c n P out (n - k) 1000 k rfl (by omega) hex
  rw [pD a (by omega) b,xU c']
  have body:ex c Cd (mr n k P out)=some (mr n (k'+1) P (out++(if P k' then [O.sh (.int (k':Nat))]else [])),none):=by
   refine (cu (BF.trans d)).trans ?_
   have tq:tst c (.bin .and (.var 0) (.lit (.int 1))) (mr n k' P out)=some (!(aj (bI n (Pk n k' P)) 1==0)):=rfl
   rw [KJ n k' P c']at tq
   have fin:∀out':List O,ex c (.seq (.aug 0 .shr (.lit (.int 1))) (.seq (.aug 2 .add (.lit (.int 1))) .skip)) (mr n k' P out')=some (mr n (k'+1) P out',none):=λout'=>by
    have:ex c (.seq (.aug 0 .shr (.lit (.int 1))) (.seq (.aug 2 .add (.lit (.int 1))) .skip)) (mr n k' P out')=some ([iT ((bI n (Pk n k' P)).fdiv (2^1)),some (.lst out'),iT ((k':Int)+1)],none):=rfl
    rw [IH,show (k':Int)+1=((k'+1:Nat):Int) by omega]at this
    exact this
   cases hp:P k' with
   | false=>
    rw [hp]at tq
    refine (cu (ρ':=mr n k' P out) ((tQ tq).trans rfl)).trans ?_
    rw [if_neg (by decide),bc]
    exact fin out
   | true=>
    rw [hp]at tq
    rw [if_pos rfl]
    refine (cu (ρ':=mr n k' P (out++[O.sh (.int (k':Nat))])) ((tQ tq).trans ?_)).trans (fin _)
    refine (cu (ρ':=mr n k' P (out++[O.sh (.int (k':Nat))])) ?_).trans rfl
    show (if out.length<=1000 then _ else _)=_
    rw [if_pos (by omega)]
    rfl
  obtain ⟨k2,e⟩:=ih (n -(k'+1)) (by omega) jW (k'+1) (out++(if P k' then [O.sh (.int (k':Nat))]else [])) rfl (by omega) (by omega) (by split<;>simp<;>omega)
  refine ⟨k2,(gD te body).trans (e.trans ?_)⟩
  have e3:(out++if P k'=true then [O.sh (T.int (k':Nat))]else [])++(gF n (k'+1) P).map (λs=>O.sh (.int (s:Nat)))=out++((if P k'=true then [k']else [])++gF n (k'+1) P).map (λs=>O.sh (.int (s:Nat))):=by
   cases P k'<;>simp
  rw [e3]
theorem Cb:∀l:List T,O.toTs (l.map .sh)=l
 |[]=>rfl
 | t::r=>by show _::_=_;rw [Cb r];rfl
theorem eF(d n:Nat)(P:Nat->Bool)(hn:n<=900):(bj br (d+1)).call 4 [.int (bI n P)]=some (.list (ka (fN n P))):=by
 rw [oC (F:=jD) rfl rfl]
 obtain ⟨k,e⟩:=F2 (bj br d) n hn P (n - 0) 1000 0 [] rfl (by omega) (by omega) (by simp)
 have e2:ex (bj br d) jD.body [iT (bI n P),none,none]=some ([iT (bI n (Pk n k P)),some (.sh (.list (ka (fN n P)))),iT (k:Nat)],some (.list (ka (fN n P)))):=by
  rw [<-L5 n P]
  refine (cu (ρ':=[iT (bI n (Pk n 0 P)),some (.lst []),none]) rfl).trans ?_
  refine (cu (ρ':=mr n 0 P []) rfl).trans ?_
  refine (cu (BF.trans e)).trans ?_
  have es:([]:List O)++(gF n 0 P).map (λs=>O.sh (.int (s:Nat)))=(ka (fN n P)).map .sh:=by
   unfold ka fN gF
   rw [ic,a_,S_,<-DO];rfl
  rw [es]
  have fz:ex (bj br d) (.frz 1) (mr n k P ((ka (fN n P)).map .sh))=some ([iT (bI n (Pk n k P)),some (.sh (.list (O.toTs ((ka (fN n P)).map .sh)))),iT (k:Nat)],none):=rfl
  rw [Cb]at fz
  refine (cu fz).trans ?_
  rfl
 exact congrArg (bZ zK) e2
section
theorem Gc{a:Option T}{b:T}(h:a.any (T.same b)=true):a=some b:=by
 cases a with
 | none=>cases h
 | some x=>rw [T.same_eq h]
section
variable(f r:Nat)
noncomputable def sg(s:Nat):Nat:=(r - 1 - s/f)*f+s%f
noncomputable def dx(t u:Nat):Int:=(u%f:Nat) -(t%f:Nat)
noncomputable def dy(t u:Nat):Int:=(u/f:Nat) -(t/f:Nat)
noncomputable def dG(d t u:Nat):Bool:=
 let x:=dx f t u
 let y:=dy f t u
 match d with
 | 0=>x==0&&decide (0<y)
 | 1=>y==0&&decide (0<x)
 | 2=>x==0&&decide (y<0)
 | 3=>y==0&&decide (x<0)
 | 4=>x==y&&decide (0<y)
 | 5=>x== -y&&decide (y<0)
 | 6=>x==y&&decide (y<0)
 | 7=>x== -y&&decide (0<y)
 | _=>false
noncomputable def w_(t u:Nat):Bool:=decide ((dx f t u).natAbs<=1)&&decide ((dy f t u).natAbs<=1)&& !(dx f t u==0&&dy f t u==0)
noncomputable def oH(t u:Nat):Bool:=((dx f t u).natAbs==1&&(dy f t u).natAbs==2)||((dx f t u).natAbs==2&&(dy f t u).natAbs==1)
noncomputable def f9(c t u:Nat):Bool:=(dx f t u).natAbs==1&&(if c=0 then dy f t u==1 else dy f t u== -1)
noncomputable def j8(j u:Nat):Bool:=u%f==j
noncomputable def w7(j u:Nat):Bool:=u/f==j
noncomputable def bT(P:Nat->Bool):T:= .int (bI (f*r) P)
noncomputable def mX(n:Nat)(g:Nat->T):T:= .list ((ar n).map g)
noncomputable def Rv:List Nat:=[1,21,22,23,14,24,15,16,17,13,18,19,25,26]
noncomputable def eE:T:= .inst 0 Rv [.int f,.int r,.int (f*r:Nat),.int (bI (f*r) λ_=>true),.bool (decide (5<=r)),.bool false,
 mX f λj=>bT f r (j8 f j),mX r λj=>bT f r (w7 f j),mX 8 λd=>mX (f*r) λt=>bT f r (dG f d t),
 mX (f*r) λt=>bT f r (w_ f t),mX (f*r) λt=>bT f r (oH f t),
 .list [mX (f*r) λt=>bT f r (f9 f 0 t),mX (f*r) λt=>bT f r (f9 f 1 t)],.list [],.list []]
noncomputable def bX:Prop:=(f=3\/f=4)/\(r=4\/r=5)
theorem bX.mem{f r:Nat}(h:bX f r):f∈([3,4]:List Nat)/\r∈([4,5]:List Nat):=⟨h.1.elim (λe=>e▸.head _) λe=>e▸.tail _ (.head _),h.2.elim (λe=>e▸.head _) λe=>e▸.tail _ (.head _)⟩
theorem Er:(([3,4]:List Nat).all λf=>([4,5]:List Nat).all λr=>((bj br 3).call 116 [.int (f:Nat),.int (r:Nat)]).any (T.same (eE f r)))=true:=by decide+kernel
theorem Ho(d:Nat)(hs:bX f r):(bj br (d+3)).call 116 [.int f,.int r]=some (eE f r):=
 b8 (cw 3 d) (Gc (ax.mp (ax.mp Er f (bX.mem hs).1) r (bX.mem hs).2))
variable{f r}
theorem bX.fpos(h:bX f r):0<f:=by obtain ⟨h | h,_⟩:=h<;>omega
theorem bX.n_le(h:bX f r):f*r<=20:=by obtain ⟨h | h,k | k⟩:=h<;>subst h<;>subst k<;>decide
theorem nS(hf:0<f){s:Nat}(h:s<f*r):sg f r s<f*r:=by
 have h1:s/f<r:=aH h
 have h2:=d_ s hf
 have h3:r - 1 - s/f+1<=r:=aC (bE _ _) (Nat.sub_one_lt_of_lt h1)
 unfold sg
 calc (r - 1 - s/f)*f+s%f<(r - 1 - s/f)*f+f:=Fv h2 _
  _=(r - 1 - s/f+1)*f:=by rw [mT,f8]
  _<=r*f:=Fh f h3
  _=f*r:=eZ _ _
theorem m9(hf:0<f)(s:Nat):sg f r s%f=s%f:=by
 unfold sg;rw [eZ,PU,Nat.mod_mod]
theorem lz(hf:0<f)(s:Nat):sg f r s/f=r - 1 - s/f:=by
 unfold sg;rw [eZ,PV hf,Mh (d_ s hf),DM]
theorem j7(hf:0<f){s:Nat}(h:s<f*r):sg f r (sg f r s)=s:=by
 have h1:s/f<r:=aH h
 have e:sg f r (sg f r s)=(r - 1 - sg f r s/f)*f+sg f r s%f:=rfl
 rw [e,lz hf,m9 hf]
 have:r - 1 -(r - 1 - s/f)=s/f:=cH (cx h1)
 rw [this,eZ]
 exact Nat.div_add_mod s f
theorem HN(hf:0<f){s t:Nat}(h:s<f*r)(k:t<f*r)(e:sg f r s=sg f r t):s=t:=by
 rw [<-j7 hf h,e,j7 hf k]
theorem EX(hf:0<f)(t u:Nat):dx f (sg f r t) (sg f r u)=dx f t u:=by unfold dx;rw [m9 hf,m9 hf]
theorem Si{r a:Nat}(h:a<r):((r - 1 - a:Nat):Int)=r - 1 - a:=by omega
theorem GK{r a b:Int}:(r - 1 - b) -(r - 1 - a)= -(b - a):=by omega
theorem EW(hf:0<f){t u:Nat}(h:t<f*r)(k:u<f*r):dy f (sg f r t) (sg f r u)= - dy f t u:=by
 unfold dy;rw [lz hf,lz hf,Si (aH h),Si (aH k)];exact GK
noncomputable def Jj:Nat->Nat | 0=>2 | 2=>0 | 4=>5 | 5=>4 | 6=>7 | 7=>6 | d=>d
theorem Kv(d:Nat):Jj (Jj d)=d:=by
 match d with
 | 0 | 1 | 2 | 3 | 4 | 5 | 6 | 7=>rfl
 | _+8=>rfl
theorem fc{a b:Bool}(h:a=true↔b=true):a=b:=fF.mpr h
section
variable{x y:Int}
theorem I4:(-y==0)=(y==0):=fc (beq_iff_eq.trans (Int.neg_eq_zero.trans beq_iff_eq.symm))
theorem Qj:decide (-y<0)=decide (0<y):=decide_eq_decide.mpr Int.neg_neg_iff_pos
theorem I6:decide (0< -y)=decide (y<0):=decide_eq_decide.mpr Int.neg_pos
noncomputable def ER(d:Nat)(x y:Int):Bool:=match d with
 | 0=>x==0&&decide (0<y)
 | 1=>y==0&&decide (0<x)
 | 2=>x==0&&decide (y<0)
 | 3=>y==0&&decide (x<0)
 | 4=>x==y&&decide (0<y)
 | 5=>x== -y&&decide (y<0)
 | 6=>x==y&&decide (y<0)
 | 7=>x== -y&&decide (0<y)
 | _=>false
theorem D6(d:Nat):ER (Jj d) x (-y)=ER d x y:=by
 match d with
 | 0=>exact congrArg ((x==0)&& ·) Qj
 | 1=>exact congrArg (· &&decide (0<x)) I4
 | 2=>exact congrArg ((x==0)&& ·) I6
 | 3=>exact congrArg (· &&decide (x<0)) I4
 | 4=>show (x== - -y&&decide (-y<0))=_;rw [d9,Qj];rfl
 | 5=>exact congrArg ((x== -y)&& ·) I6
 | 6=>show (x== - -y&&decide (0< -y))=_;rw [d9,I6];rfl
 | 7=>exact congrArg ((x== -y)&& ·) Qj
 | _+8=>rfl
end
theorem xo(hf:0<f){d t u:Nat}(h:t<f*r)(k:u<f*r):dG f (Jj d) (sg f r t) (sg f r u)=dG f d t u:=by
 show ER (Jj d) (dx f (sg f r t) (sg f r u)) (dy f (sg f r t) (sg f r u))=ER d (dx f t u) (dy f t u)
 rw [EX hf,EW hf h k]
 exact D6 d
theorem KT(hf:0<f){t u:Nat}(h:t<f*r)(k:u<f*r):w_ f (sg f r t) (sg f r u)=w_ f t u:=by
 unfold w_
 rw [EX hf,EW hf h k,xH,I4]
theorem Ej(hf:0<f){t u:Nat}(h:t<f*r)(k:u<f*r):oH f (sg f r t) (sg f r u)=oH f t u:=by
 unfold oH
 rw [EX hf,EW hf h k,xH]
theorem CK{y:Int}:(-y==1)=(y== -1):=fc (beq_iff_eq.trans (Int.neg_eq_comm.trans (eq_comm.trans beq_iff_eq.symm)))
theorem wv(hf:0<f){c t u:Nat}(hc:c<=1)(h:t<f*r)(k:u<f*r):f9 f (1 - c) (sg f r t) (sg f r u)=f9 f c t u:=by
 unfold f9
 rw [EX hf,EW hf h k]
 refine congrArg (((dx f t u).natAbs==1)&& ·) ?_
 match c,hc with
 | 0,_=>exact (CK (y:= - dy f t u)).symm.trans (by rw [d9];rfl)
 | 1,_=>exact CK
theorem tS(hf:0<f)(P:Nat->Bool):cnt (f*r) (λs=>P (sg f r s))=cnt (f*r) P:=by
 have key:∀(n:Nat) (Q:Nat->Bool),cnt n Q=((ar n).filter Q).length:=λn Q=>by
  induction n with
  | zero=>rfl
  | succ n ih=>
   rw [k8,iZ,bn,<-ih]
   show cnt n Q+(if Q n then 1 else 0)=_
   cases hq:Q n<;>simp [hq]
 rw [key,key]
 have:(((ar (f*r)).filter λs=>P (sg f r s)).map (sg f r)).Perm ((ar (f*r)).filter P):=by
  rw [vS]
  ·intro a
   simp only [c9,cA,az]
   constructor
   ·rintro ⟨b,⟨h1,h2⟩,rfl⟩;exact ⟨nS hf h1,h2⟩
   ·rintro ⟨h1,h2⟩;exact ⟨sg f r a,⟨nS hf h1,by rw [j7 hf h1];exact h2⟩,j7 hf h1⟩
  ·refine vT.mpr ?_
   rw [Jo]
   refine ((sJ.filter _).imp_of_mem ?_)
   intro a b ha hb hne e
   exact hne (HN hf (az.mp (cA.mp ha).1) (az.mp (cA.mp hb).1) e)
  ·exact sJ.filter _
 rw [<-this.length_eq,aq]
end
end
section
structure Bd where
 f:Nat
 r:Nat
 b:Nat->Nat
noncomputable def Bd.n(w:Bd):Nat:=w.f*w.r
noncomputable def Bd.sg(w:Bd)(s:Nat):Nat:=TI.sg w.f w.r s
noncomputable def dX(p:Nat):Nat:=if p=0 then 0 else if p<8 then p+8 else p - 8
noncomputable def Bd.turn(w:Bd):Bd:=⟨w.f,w.r,λs=>dX (w.b (w.sg s))⟩
noncomputable def Bd.occP(w:Bd)(s:Nat):Bool:= !(w.b s==0)
noncomputable def Bd.kindP(w:Bd)(k s:Nat):Bool:=w.b s%8==k
noncomputable def Bd.sideP(w:Bd)(c s:Nat):Bool:= !(w.b s==0)&&w.b s/8==c
structure Bd.Ok(w:Bd):Prop where
 shape:bX w.f w.r
 pc:∀s,s<w.n->w.b s=0\/(w.b s<16/\1<=w.b s%8/\w.b s%8<=6)
 king:∀c,c<=1->∃k,k<w.n/\∀s,s<w.n->(w.b s=6+8*c↔s=k)
 pawn:∀s,s<w.n->w.b s%8=1->1<=s/w.f/\s/w.f+2<=w.r
 few:cnt w.n w.occP<=7
noncomputable def Bd.bT(w:Bd)(P:Nat->Bool):T:= .int (bI w.n P)
noncomputable def i7(n:Nat):T:=mX n λ_=> .int 0
noncomputable def Mn(f r:Nat):T:= .inst 4 [39,32,31,20] [mX 15 λ_=>i7 (f*r),i7 f,i7 16,.int 0]
noncomputable def Q2:List Nat:=[2,27,28,29,30,20,31,32,33,23,0,34]
noncomputable def Bd.kindsT(w:Bd):T:= .list [.int 0,w.bT (w.kindP 1),w.bT (w.kindP 2),w.bT (w.kindP 3),w.bT (w.kindP 4),w.bT (w.kindP 5),w.bT (w.kindP 6)]
noncomputable def Bd.sidesT(w:Bd):T:= .list [w.bT (w.sideP 0),w.bT (w.sideP 1)]
noncomputable def Bd.brdT(w:Bd):T:=mX w.n λs=> .int (w.b s:Nat)
noncomputable def Bd.posT(w:Bd)(sd:Int):T:= .inst 1 Q2 [eE w.f w.r,Mn w.f w.r,w.brdT,w.kindsT,w.sidesT,.int sd,.int 0,.int (-1),.int 0,.int 1,.int 0,.list []]
inductive Ty where
 | i (lo hi:Int) | c (k:Nat) | bo (v:Option Bool) | bb (k:Nat) | sq (k:Nat) | ex (t:T)
 | tup (l:List Ty) | lst (l:List Ty) | lsd (a:Ty) | lsq (a:Ty) | perm (a:Ty) (m:Nat) | ins (c:Nat) (ks:List Nat) (l:List Ty)
section
variable(w:Bd)
noncomputable def uE(k:Nat)(P:Nat->Bool):Prop:=(nth [True,∀s,s<w.n->P s=true->w.occP s=true,∀s,s<w.n->P s=true->w.kindP 1 s=true,
 ∀s,s<w.n->P s=w.kindP 6 s,∃c,c<=1/\∀s,s<w.n->P s=w.sideP c s,∃m,m<w.n/\∀s,s<w.n->P s=(s==m)] k).getD True
noncomputable def T9(k s:Nat):Prop:=(nth [True,w.occP s=true,w.kindP 1 s=true,True,w.occP s=true] k).getD True
noncomputable def RK(k:Nat)(x y:T):Prop:=(nth [∃P,x= .int (nI w.n P)/\y= .int (nI w.n λs=>P (w.sg s)),∃c,c<=1/\x= .int (c:Nat)/\y= .int (1 -(c:Nat):Int),
 ∃p,p<16/\1<=p%8/\p%8<=6/\x= .int (p:Nat)/\y= .int (dX p:Nat),∃a b:Int,x= .int a/\y= .int b/\a%2=b%2,x= .none/\y= .none,
 x=eE w.f w.r/\y=eE w.f w.r,∃a b,x=w.posT a/\y=w.turn.posT b,x=w.brdT/\y=w.turn.brdT] k).getD True
mutual
noncomputable def R:Ty->T->T->Prop
 | .i lo hi,x,y=>∃k,x= .int k/\y= .int k/\lo<=k/\k<=hi
 | .c k,x,y=>RK w k x y
 | .bo v,x,y=>∃b,x= .bool b/\y= .bool b/\∀c,v=some c->b=c
 | .bb k,x,y=>∃P,x= .int (bI w.n P)/\y= .int (bI w.n λs=>P (w.sg s))/\uE w k P
 | .sq k,x,y=>∃s,s<w.n/\x= .int (s:Nat)/\y= .int (w.sg s:Nat)/\T9 w k s
 | .ex t,x,y=>x=t/\y=t
 | .tup l,x,y=>∃xs ys,x= .tup xs/\y= .tup ys/\Rs l xs ys
 | .lst l,x,y=>∃xs ys,x= .list xs/\y= .list ys/\Rs l xs ys
 | .lsd a,x,y=>∃p q p' q',x= .list [p,q]/\y= .list [q',p']/\R a p p'/\R a q q'
 | .lsq a,x,y=>∃g g',x=mX w.n g/\y=mX w.n g'/\∀s,s<w.n->R a (g s) (g' (w.sg s))
 | .perm a m,x,y=>∃ps qs:List (T×T),x= .list (ps.map (·.1))/\y= .list (qs.map (·.2))/\ps.Perm qs/\ps.length<=m/\∀p,p∈ps->R a p.1 p.2
 | .ins c ks l,x,y=>∃xs ys,x= .inst c ks xs/\y= .inst c ks ys/\Rs l xs ys
noncomputable def Rs:List Ty->List T->List T->Prop
 |[],xs,ys=>xs=[]/\ys=[]
 | t::r,xs,ys=>∃x y xs' ys',xs=x::xs'/\ys=y::ys'/\R t x y/\Rs r xs' ys'
end
end
section
variable{β:Type}(t:Ty)
noncomputable def Ty.asI(f:Int->Int->Option β):Option β:=t.casesOn f (λ_=>none) (λ_=>none) (λ_=>none) (λ_=>none) (λ_=>none) (λ_=>none) (λ_=>none) (λ_=>none) (λ_=>none) (λ_ _=>none) (λ_ _ _=>none)
noncomputable def Ty.asK(f:Nat->Option β):Option β:=t.casesOn (λ_ _=>none) f (λ_=>none) (λ_=>none) (λ_=>none) (λ_=>none) (λ_=>none) (λ_=>none) (λ_=>none) (λ_=>none) (λ_ _=>none) (λ_ _ _=>none)
noncomputable def Ty.asBo(f:Option Bool->Option β):Option β:=t.casesOn (λ_ _=>none) (λ_=>none) f (λ_=>none) (λ_=>none) (λ_=>none) (λ_=>none) (λ_=>none) (λ_=>none) (λ_=>none) (λ_ _=>none) (λ_ _ _=>none)
noncomputable def Ty.asB(n:Nat)(f:Nat->Option β):Option β:=t.casesOn (λlo hi=>if lo=hi then (if lo=0 then f 2 else if lo=bI n (λ_=>true)then f 0 else none)else none) (λ_=>none) (λ_=>none) f (λ_=>none) (λ_=>none) (λ_=>none) (λ_=>none) (λ_=>none) (λ_=>none) (λ_ _=>none) (λ_ _ _=>none)
noncomputable def Ty.asS(f:Nat->Option β):Option β:=t.casesOn (λ_ _=>none) (λ_=>none) (λ_=>none) (λ_=>none) f (λ_=>none) (λ_=>none) (λ_=>none) (λ_=>none) (λ_=>none) (λ_ _=>none) (λ_ _ _=>none)
noncomputable def Ty.asL(f:List Ty->Option β):Option β:=t.casesOn (λ_ _=>none) (λ_=>none) (λ_=>none) (λ_=>none) (λ_=>none) (λ_=>none) (λ_=>none) f (λ_=>none) (λ_=>none) (λ_ _=>none) (λ_ _ _=>none)
noncomputable def Ty.asT(f:List Ty->Option β):Option β:=t.casesOn (λ_ _=>none) (λ_=>none) (λ_=>none) (λ_=>none) (λ_=>none) (λ_=>none) f (λ_=>none) (λ_=>none) (λ_=>none) (λ_ _=>none) (λ_ _ _=>none)
noncomputable def Ty.asIn(f:Nat->List Nat->List Ty->Option β):Option β:=t.casesOn (λ_ _=>none) (λ_=>none) (λ_=>none) (λ_=>none) (λ_=>none) (λ_=>none) (λ_=>none) (λ_=>none) (λ_=>none) (λ_=>none) (λ_ _=>none) f
noncomputable def Ty.asE(f:T->Option β):Option β:=t.casesOn (λ_ _=>none) (λ_=>none) (λ_=>none) (λ_=>none) (λ_=>none) f (λ_=>none) (λ_=>none) (λ_=>none) (λ_=>none) (λ_ _=>none) (λ_ _ _=>none)
noncomputable def Ty.asD(f:Ty->Option β):Option β:=t.casesOn (λ_ _=>none) (λ_=>none) (λ_=>none) (λ_=>none) (λ_=>none) (λ_=>none) (λ_=>none) (λ_=>none) f (λ_=>none) (λ_ _=>none) (λ_ _ _=>none)
noncomputable def Ty.asQ(f:Ty->Option β):Option β:=t.casesOn (λ_ _=>none) (λ_=>none) (λ_=>none) (λ_=>none) (λ_=>none) (λ_=>none) (λ_=>none) (λ_=>none) (λ_=>none) f (λ_ _=>none) (λ_ _ _=>none)
noncomputable def Ty.asP(f:Ty->Nat->Option β):Option β:=t.casesOn (λ_ _=>none) (λ_=>none) (λ_=>none) (λ_=>none) (λ_=>none) (λ_=>none) (λ_=>none) (λ_=>none) (λ_=>none) (λ_=>none) f (λ_ _ _=>none)
noncomputable def Ty.isK(k:Nat)(o:Option β):Option β:=t.asK λj=>if j=k then o else none
end
section
variable{w:Bd}{β:Type}{t:Ty}{x y:T}{Q:T->T->β->Prop}
theorem cW{f:Int->Int->Option β}(hr:R w t x y)(h:∀lo hi k,lo<=k->k<=hi->Ok (f lo hi) (Q (.int k) (.int k))):Ok (t.asI f) (Q x y):=by
 cases t<;>first | exact Ok.none | skip
 obtain ⟨k,rfl,rfl,h1,h2⟩:=hr
 exact h _ _ k h1 h2
theorem gI{k:Nat}{o:Option β}(hr:R w t x y)(h:RK w k x y->Ok o (Q x y)):Ok (t.isK k o) (Q x y):=by
 cases t<;>first | exact Ok.none | skip
 exact Ok.if1 λe=>h (e▸hr)
theorem j6{f:Option Bool->Option β}(hr:R w t x y)(h:∀v b,(∀c,v=some c->b=c)->Ok (f v) (Q (.bool b) (.bool b))):Ok (t.asBo f) (Q x y):=by
 cases t<;>first | exact Ok.none | skip
 obtain ⟨k,rfl,rfl,h1⟩:=hr
 exact h _ k h1
theorem cS{f:Nat->Option β}(hr:R w t x y)(h:∀k P,uE w k P->Ok (f k) (Q (.int (bI w.n P)) (.int (bI w.n λs=>P (w.sg s))))):Ok (t.asB w.n f) (Q x y):=by
 cases t<;>first | exact Ok.none | skip
 ·obtain ⟨q,rfl,rfl,q1,q2⟩:=hr
  refine Ok.if1 λe=> ?_
  have e2:=fM q1 (e▸q2)
  refine Ok.ite (λe=> ?_) λ_=>Ok.if1 λe=> ?_
  ·have:=h 2 (λ_=>false) λs _ h=>nomatch h
   rw [fq,<-e,e2]at this;exact this
  ·have:=h 0 (λ_=>true) trivial
   rw [<-e,e2]at this;exact this
 ·obtain ⟨P,rfl,rfl,h1⟩:=hr
  exact h _ P h1
theorem gM{f:Nat->Option β}(hr:R w t x y)(h:∀k s,s<w.n->T9 w k s->Ok (f k) (Q (.int (s:Nat)) (.int (w.sg s:Nat)))):Ok (t.asS f) (Q x y):=by
 cases t<;>first | exact Ok.none | skip
 obtain ⟨s,h1,rfl,rfl,h2⟩:=hr
 exact h _ s h1 h2
theorem BP{f:List Ty->Option β}(hr:R w t x y)(h:∀l xs ys,Rs w l xs ys->Ok (f l) (Q (.list xs) (.list ys))):Ok (t.asL f) (Q x y):=by
 cases t<;>first | exact Ok.none | skip
 obtain ⟨xs,ys,rfl,rfl,h1⟩:=hr
 exact h _ xs ys h1
theorem tX{f:List Ty->Option β}(hr:R w t x y)(h:∀l xs ys,Rs w l xs ys->Ok (f l) (Q (.tup xs) (.tup ys))):Ok (t.asT f) (Q x y):=by
 cases t<;>first | exact Ok.none | skip
 obtain ⟨xs,ys,rfl,rfl,h1⟩:=hr
 exact h _ xs ys h1
theorem DC{f:Nat->List Nat->List Ty->Option β}(hr:R w t x y)(h:∀c ks l xs ys,Rs w l xs ys->Ok (f c ks l) (Q (.inst c ks xs) (.inst c ks ys))):Ok (t.asIn f) (Q x y):=by
 cases t<;>first | exact Ok.none | skip
 obtain ⟨xs,ys,rfl,rfl,h1⟩:=hr
 exact h _ _ _ xs ys h1
theorem PG{f:T->Option β}(hr:R w t x y)(h:∀u,Ok (f u) (Q u u)):Ok (t.asE f) (Q x y):=by
 cases t<;>first | exact Ok.none | skip
 obtain ⟨rfl,rfl⟩:=hr
 exact h _
theorem IE{f:Ty->Option β}(hr:R w t x y)(h:∀a p q p' q',R w a p p'->R w a q q'->Ok (f a) (Q (.list [p,q]) (.list [q',p']))):Ok (t.asD f) (Q x y):=by
 cases t<;>first | exact Ok.none | skip
 obtain ⟨p,q,p',q',rfl,rfl,h1,h2⟩:=hr
 exact h _ p q p' q' h1 h2
theorem PF{f:Ty->Option β}(hr:R w t x y)(h:∀a g g',(∀s,s<w.n->R w a (g s) (g' (w.sg s)))->Ok (f a) (Q (mX w.n g) (mX w.n g'))):Ok (t.asQ f) (Q x y):=by
 cases t<;>first | exact Ok.none | skip
 obtain ⟨g,g',rfl,rfl,h1⟩:=hr
 exact h _ g g' h1
theorem IC{f:Ty->Nat->Option β}(hr:R w t x y)(h:∀a m (ps qs:List (T×T)),ps.Perm qs->ps.length<=m->(∀p,p∈ps->R w a p.1 p.2)->Ok (f a m) (Q (.list (ps.map (·.1))) (.list (qs.map (·.2))))):Ok (t.asP f) (Q x y):=by
 cases t<;>first | exact Ok.none | skip
 obtain ⟨ps,qs,rfl,rfl,h1,h2,h3⟩:=hr
 exact h _ _ ps qs h1 h2 h3
theorem xP{a b k:Int}(h1:a<=k)(h2:k<=b):R w (.i a b) (.int k) (.int k):=⟨k,rfl,rfl,h1,h2⟩
theorem QC(k:Int):R w (.i k k) (.int k) (.int k):=xP (dm _) (dm _)
theorem QD{k:Nat}{P:Nat->Bool}(h:uE w k P):R w (.bb k) (.int (bI w.n P)) (.int (bI w.n λs=>P (w.sg s))):=⟨P,rfl,rfl,h⟩
theorem mz{k:Nat}{P Q:Nat->Bool}(h:uE w k P)(e:∀s,s<w.n->Q s=P (w.sg s)):R w (.bb k) (.int (bI w.n P)) (.int (bI w.n Q)):=bp e▸QD h
theorem UJ{P:Nat->Bool}:R w (.c 0) (.int (nI w.n P)) (.int (nI w.n λs=>P (w.sg s))):=⟨P,rfl,rfl⟩
theorem aM{l:List Ty}{xs ys:List T}(h:R w t x y)(k:Rs w l xs ys):Rs w (t::l) (x::xs) (y::ys):=⟨x,y,xs,ys,rfl,rfl,h,k⟩
theorem dS:Rs w [] [] []:=⟨rfl,rfl⟩
theorem qN{l:List Ty}{xs ys:List T}{Q:List T->List T->Prop}(h:Rs w (t::l) xs ys)(k:∀x y xs' ys',R w t x y->Rs w l xs' ys'->Q (x::xs') (y::ys')):Q xs ys:=by
 obtain ⟨x,y,xs',ys',rfl,rfl,h1,h2⟩:=h;exact k x y xs' ys' h1 h2
theorem E_{xs ys:List T}{Q:List T->List T->Prop}(h:Rs w [] xs ys)(k:Q [] []):Q xs ys:=by
 obtain ⟨rfl,rfl⟩:=h;exact k
end
noncomputable def dP(k:Nat):Bool:=k==1||k==2||k==3||k==4
noncomputable def uo(b:Bool):Nat:=if b then 1 else 0
noncomputable def z8(a b:Nat):Nat:=if a=b then a else uo (dP a&&dP b)
noncomputable def zP(k:Nat):Nat:=if k=2 then 2 else uo (dP k)
noncomputable def Qt(a b:Nat):Nat:=if (a=3/\b=4)\/(a=4/\b=3)then 5 else if a=2\/b=2 then 2 else uo (dP a||dP b)
noncomputable def Ua(a b:Nat):Nat:=if a=2/\b=2 then 2 else uo (dP a&&dP b)
noncomputable def ut(n:Nat)(a b:Ty):Option Ty:=
 ((a.asI λl h=>b.asI λl' h'=>some (.i (min l l') (max h h'))).or
 ((a.asBo λu=>b.asBo λv=>some (.bo (if u=v then u else none))).or
 ((a.asS λu=>b.asS λv=>some (.sq (if u=v then u else 0))).or
 ((a.asK λk=>b.asK λj=>if k=j then some (.c k)else none).or
 (a.asB n λk=>b.asB n λj=>some (.bb (z8 k j)))))))
mutual
noncomputable def join(n:Nat):Ty->Ty->Option Ty
 | .tup l,b=>b.asT λm=>(nT n l m).map .tup
 | .lst l,b=>b.asL λm=>(nT n l m).map .lst
 | .lsd a,b=>b.asD λb=>(join n a b).map .lsd
 | .perm a m,b=>b.asP λb k=>(join n a b).map (.perm · (max m k))
 | .ins c ks l,b=>b.asIn λd js m=>if c=d/\ks=js then (nT n l m).map (.ins c ks)else none
 | .i lo hi,b=>ut n (.i lo hi) b
 | .c k,b=>ut n (.c k) b
 | .bo v,b=>ut n (.bo v) b
 | .bb k,b=>ut n (.bb k) b
 | .sq k,b=>ut n (.sq k) b
 | _,_=>none
noncomputable def nT(n:Nat):List Ty->List Ty->Option (List Ty)
 |[],b=>b.casesOn (some []) λ_ _=>none
 | a::l,b=>b.casesOn none λb m=>(join n a b).bind λc=>(nT n l m).map (c:: ·)
end
end
section
section
variable{w:Bd}
theorem iD{k s:Nat}(hk:1<=k)(h:w.kindP k s=true):w.occP s=true:=by
 unfold Bd.kindP at h;unfold Bd.occP
 rw [beq_iff_eq]at h
 rw [b0,beq_eq_false_iff_ne]
 intro q;rw [q]at h;subst h;exact absurd hk (by decide)
theorem kQ{c s:Nat}(h:w.sideP c s=true):w.occP s=true:=(aB _ _▸h:_/\_).1
theorem fY{k:Nat}{P:Nat->Bool}(h:dP k=true)(hf:uE w k P):∀s,s<w.n->P s=true->w.occP s=true:=λs hs hp=>by
 match k,h,hf with
 | 1,_,hf=>exact hf s hs hp
 | 2,_,hf=>exact iD (aA 1) (hf s hs hp)
 | 3,_,hf=>exact iD (k:=6) (by decide) ((hf s hs).symm.trans hp)
 | 4,_,hf=>obtain ⟨c,_,h2⟩:=hf;exact kQ ((h2 s hs).symm.trans hp)
 | 0,h,_=>exact absurd h (by decide)
 | k+5,h,_=>exact absurd h aO
theorem jt{b:Bool}{P:Nat->Bool}(h:b=true->∀s,s<w.n->P s=true->w.occP s=true):uE w (uo b) P:=by
 cases b
 ·trivial
 ·exact h rfl
theorem Ev{a b:Nat}{P:Nat->Bool}(h:uE w a P):uE w (z8 a b) P:=by
 unfold z8;split
 ·exact h
 ·exact jt λe=>fY (aB _ _▸e:_/\_).1 h
theorem Eu{a b:Nat}{P:Nat->Bool}(h:uE w b P):uE w (z8 a b) P:=by
 unfold z8;split
 ·rename_i e;exact e▸h
 ·exact jt λe=>fY (aB _ _▸e:_/\_).2 h
theorem ci(hw:w.Ok){s:Nat}(h:s<w.n):w.sg s<w.n:=nS hw.shape.fpos h
theorem dR(hw:w.Ok){s:Nat}(h:s<w.n):w.sg (w.sg s)=s:=j7 hw.shape.fpos h
end
section
variable{β:Type}{t:Ty}{P:β->Prop}
theorem Un{f:Int->Int->Option β}(h:∀a b,Ok (f a b) P):Ok (t.asI f) P:=by
 cases t<;>first | exact Ok.none | exact h _ _
theorem Um{f:Nat->Option β}(h:∀a,Ok (f a) P):Ok (t.asK f) P:=by
 cases t<;>first | exact Ok.none | exact h _
theorem Sr{f:Option Bool->Option β}(h:∀a,Ok (f a) P):Ok (t.asBo f) P:=by
 cases t<;>first | exact Ok.none | exact h _
theorem Ul{f:Nat->Option β}(h:∀a,Ok (f a) P):Ok (t.asS f) P:=by
 cases t<;>first | exact Ok.none | exact h _
theorem Uo{n:Nat}{f:Nat->Option β}(h:∀a,Ok (f a) P):Ok (t.asB n f) P:=by
 cases t<;>first | exact Ok.none | exact h _ | exact Ok.if1 λ_=>Ok.ite (λ_=>h _) λ_=>Ok.if1 λ_=>h _
theorem UC{f:List Ty->Option β}(h:∀a,Ok (f a) P):Ok (t.asT f) P:=by
 cases t<;>first | exact Ok.none | exact h _
theorem UE{f:List Ty->Option β}(h:∀a,Ok (f a) P):Ok (t.asL f) P:=by
 cases t<;>first | exact Ok.none | exact h _
theorem UF{f:Ty->Option β}(h:∀a,Ok (f a) P):Ok (t.asD f) P:=by
 cases t<;>first | exact Ok.none | exact h _
theorem UD{f:Ty->Nat->Option β}(h:∀a m,Ok (f a m) P):Ok (t.asP f) P:=by
 cases t<;>first | exact Ok.none | exact h _ _
theorem Tw{f:Nat->List Nat->List Ty->Option β}(h:∀a b c,Ok (f a b c) P):Ok (t.asIn f) P:=by
 cases t<;>first | exact Ok.none | exact h _ _ _
end
section
variable{w:Bd}{a b:Ty}{x y:T}
theorem ID{β:Type}{t:Ty}{Q:T->T->β->Prop}{f:Nat->Option β}(hr:R w t x y)(h:∀k,RK w k x y->Ok (f k) (Q x y)):Ok (t.asK f) (Q x y):=by
 cases t<;>first | exact Ok.none | exact h _ hr
theorem HZ{α:Type}[DecidableEq α]{u v:Option α}{c:α}(h:(if u=v then u else none)=some c):u=some c/\v=some c:=by
 split at h
 ·rename_i e;exact ⟨h,e▸h⟩
 ·exact no h
theorem oK(hr:R w a x y):Ok (ut w.n a b) λt=>R w t x y:=
 Ok.alt (cW (Q:=λx y t=>R w t x y) hr λl h k h1 h2=>Un λl' h'=>Ok.some (xP (ap (fK _ _) h1) (ap h2 (fL _ _))))
 (Ok.alt (j6 (Q:=λx y t=>R w t x y) hr λu b hb=>Sr λv=>Ok.some ⟨b,rfl,rfl,λc h=>hb c (HZ h).1⟩)
 (Ok.alt (gM (Q:=λx y t=>R w t x y) hr λu s h1 h2=>Ul λv=>Ok.some ⟨s,h1,rfl,rfl,by split<;>first | exact h2 | trivial⟩)
 (Ok.alt (ID (Q:=λx y t=>R w t x y) hr λk hk=>Um λj=>Ok.if1 λ_=>Ok.some hk)
 (cS (Q:=λx y t=>R w t x y) hr λk P hP=>Uo λj=>Ok.some (QD (Ev hP))))))
theorem oJ(hr:R w b x y):Ok (ut w.n a b) λt=>R w t x y:=
 Ok.alt (Un λl' h'=>cW (Q:=λx y t=>R w t x y) hr λl h k h1 h2=>Ok.some (xP (ap (di _ _) h1) (ap h2 (dj _ _))))
 (Ok.alt (Sr λv=>j6 (Q:=λx y t=>R w t x y) hr λu b hb=>Ok.some ⟨b,rfl,rfl,λc h=>hb c (HZ h).2⟩)
 (Ok.alt (Ul λv=>gM (Q:=λx y t=>R w t x y) hr λu s h1 h2=>Ok.some ⟨s,h1,rfl,rfl,by split<;>first |(rename_i e;exact e▸h2) | trivial⟩)
 (Ok.alt (Um λj=>ID (Q:=λx y t=>R w t x y) hr λk hk=>Ok.if1 λe=>Ok.some (e▸hk))
 (Uo λj=>cS (Q:=λx y t=>R w t x y) hr λk P hP=>Ok.some (QD (Eu hP))))))
end
section
variable{w:Bd}{x y:T}{P:T->T->Prop}{l:List Ty}{a:Ty}{m c:Nat}{ks:List Nat}
theorem RZ(h:R w (.tup l) x y)(k:∀xs ys,Rs w l xs ys->P (.tup xs) (.tup ys)):P x y:=by obtain ⟨xs,ys,rfl,rfl,h⟩:=h;exact k xs ys h
theorem R0(h:R w (.lst l) x y)(k:∀xs ys,Rs w l xs ys->P (.list xs) (.list ys)):P x y:=by obtain ⟨xs,ys,rfl,rfl,h⟩:=h;exact k xs ys h
theorem R3(h:R w (.ins c ks l) x y)(k:∀xs ys,Rs w l xs ys->P (.inst c ks xs) (.inst c ks ys)):P x y:=by obtain ⟨xs,ys,rfl,rfl,h⟩:=h;exact k xs ys h
theorem R1(h:R w (.lsd a) x y)(k:∀p q p' q',R w a p p'->R w a q q'->P (.list [p,q]) (.list [q',p'])):P x y:=by obtain ⟨p,q,p',q',rfl,rfl,h1,h2⟩:=h;exact k p q p' q' h1 h2
theorem PP(h:R w (.perm a m) x y)(k:∀ps qs:List (T×T),ps.Perm qs->ps.length<=m->(∀p,p∈ps->R w a p.1 p.2)->P (.list (ps.map (·.1))) (.list (qs.map (·.2)))):P x y:=by obtain ⟨ps,qs,rfl,rfl,h1,h2,h3⟩:=h;exact k ps qs h1 h2 h3
end
section
variable{w:Bd}
mutual
theorem pC:∀(a b:Ty) (x y:T),R w a x y->Ok (join w.n a b) λt=>R w t x y
 | .tup l,b,x,y,h=>RZ (P:=λx y=>Ok (join w.n (.tup l) b) λt=>R w t x y) h λxs ys h=>UC λm=>Ok.map ((qw l m xs ys h).mono λt ht=>⟨xs,ys,rfl,rfl,ht⟩)
 | .lst l,b,x,y,h=>R0 (P:=λx y=>Ok (join w.n (.lst l) b) λt=>R w t x y) h λxs ys h=>UE λm=>Ok.map ((qw l m xs ys h).mono λt ht=>⟨xs,ys,rfl,rfl,ht⟩)
 | .lsd a,b,x,y,h=>R1 (P:=λx y=>Ok (join w.n (.lsd a) b) λt=>R w t x y) h λp q p' q' h1 h2=>UF λb=>Ok.map λt e=>⟨p,q,p',q',rfl,rfl,pC a b p p' h1 t e,pC a b q q' h2 t e⟩
 | .perm a m,b,x,y,h=>PP (P:=λx y=>Ok (join w.n (.perm a m) b) λt=>R w t x y) h λps qs h1 h2 h3=>UD λb k=>Ok.map λt e=>⟨ps,qs,rfl,rfl,h1,an h2 (Nat.le_max_left _ _),λp hp=>pC a b _ _ (h3 p hp) t e⟩
 | .ins c ks l,b,x,y,h=>R3 (P:=λx y=>Ok (join w.n (.ins c ks l) b) λt=>R w t x y) h λxs ys h=>Tw λd js m=>Ok.if1 λ_=>Ok.map ((qw l m xs ys h).mono λt ht=>⟨xs,ys,rfl,rfl,ht⟩)
 | .i lo hi,b,x,y,h=>oK (a:= .i lo hi) h
 | .c k,b,x,y,h=>oK (a:= .c k) h
 | .bo v,b,x,y,h=>oK (a:= .bo v) h
 | .bb k,b,x,y,h=>oK (a:= .bb k) h
 | .sq k,b,x,y,h=>oK (a:= .sq k) h
 | .ex _,_,_,_,_=>Ok.none
 | .lsq _,_,_,_,_=>Ok.none
theorem qw:∀(a b:List Ty) (x y:List T),Rs w a x y->Ok (nT w.n a b) λt=>Rs w t x y
 |[],b,x,y,h=>by cases b<;>first | exact Ok.none | exact Ok.some h
 | a::l,b,x,y,h=>by
  cases b
  ·exact Ok.none
  ·exact qN (Q:=λx y=>Ok (nT w.n (a::l) _) λt=>Rs w t x y) h λx y xs ys h1 h2=>Ok.bind (pC a _ x y h1) λt ht=>Ok.map ((qw l _ xs ys h2).mono λts hts=>aM ht hts)
end
mutual
theorem pB:∀(a b:Ty) (x y:T),R w b x y->Ok (join w.n a b) λt=>R w t x y
 | .tup l,b,x,y,h=>tX (Q:=λx y t=>R w t x y) h λm xs ys h=>Ok.map ((qv l m xs ys h).mono λt ht=>⟨xs,ys,rfl,rfl,ht⟩)
 | .lst l,b,x,y,h=>BP (Q:=λx y t=>R w t x y) h λm xs ys h=>Ok.map ((qv l m xs ys h).mono λt ht=>⟨xs,ys,rfl,rfl,ht⟩)
 | .lsd a,b,x,y,h=>IE (Q:=λx y t=>R w t x y) h λb p q p' q' h1 h2=>Ok.map λt e=>⟨p,q,p',q',rfl,rfl,pB a b p p' h1 t e,pB a b q q' h2 t e⟩
 | .perm a m,b,x,y,h=>IC (Q:=λx y t=>R w t x y) h λb k ps qs h1 h2 h3=>Ok.map λt e=>⟨ps,qs,rfl,rfl,h1,an h2 (Nat.le_max_right _ _),λp hp=>pB a b _ _ (h3 p hp) t e⟩
 | .ins c ks l,b,x,y,h=>DC (Q:=λx y t=>R w t x y) h λd js m xs ys h=>Ok.if1 λe=>Ok.map ((qv l m xs ys h).mono λt ht=>⟨xs,ys,by rw [e.1,e.2],by rw [e.1,e.2],ht⟩)
 | .i lo hi,b,x,y,h=>oJ (a:= .i lo hi) h
 | .c k,b,x,y,h=>oJ (a:= .c k) h
 | .bo v,b,x,y,h=>oJ (a:= .bo v) h
 | .bb k,b,x,y,h=>oJ (a:= .bb k) h
 | .sq k,b,x,y,h=>oJ (a:= .sq k) h
 | .ex _,_,_,_,_=>Ok.none
 | .lsq _,_,_,_,_=>Ok.none
theorem qv:∀(a b:List Ty) (x y:List T),Rs w b x y->Ok (nT w.n a b) λt=>Rs w t x y
 |[],b,x,y,h=>by cases b<;>first | exact Ok.none | exact Ok.some h
 | a::l,b,x,y,h=>by
  cases b
  ·exact Ok.none
  ·exact qN (Q:=λx y=>Ok (nT w.n (a::l) _) λt=>Rs w t x y) h λx y xs ys h1 h2=>Ok.bind (pB a _ x y h1) λt ht=>Ok.map ((qv l _ xs ys h2).mono λts hts=>aM ht hts)
end
end
end
section
noncomputable def Nh(a b c d:Int):Int:=min (min (a*c) (a*d)) (min (b*c) (b*d))
noncomputable def Ni(a b c d:Int):Int:=max (max (a*c) (a*d)) (max (b*c) (b*d))
theorem sk{a b x y:Int}(h1:a<=x)(h2:x<=b):min (a*y) (b*y)<=x*y/\x*y<=max (a*y) (b*y):=by
 rcases qW 0 y with h | h
 ·exact ⟨ap (fK _ _) (bN h1 h),ap (bN h2 h) (dj _ _)⟩
 ·exact ⟨ap (di _ _) (gO h2 h),ap (gO h1 h) (fL _ _)⟩
theorem Qg{a b c d:Int}(h:a<=c)(k:b<=d):min a b<=min c d:=qE.mpr ⟨ap (fK _ _) h,ap (di _ _) k⟩
theorem Qh{a b c d:Int}(h:a<=c)(k:b<=d):max a b<=max c d:=qD.mpr ⟨ap h (fL _ _),ap k (dj _ _)⟩
theorem se{a b c d x y:Int}(h1:a<=x)(h2:x<=b)(h3:c<=y)(h4:y<=d):Nh a b c d<=x*y/\x*y<=Ni a b c d:=by
 have p:=sk (y:=y) h1 h2
 have q:∀a:Int,min (a*c) (a*d)<=a*y/\a*y<=max (a*c) (a*d):=λa=>by
  have q:=sk (y:=a) h3 h4
  rw [qU c a,qU d a,qU y a]at q;exact q
 exact ⟨ap (Qg (q a).1 (q b).1) p.1,ap p.2 (Qh (q a).2 (q b).2)⟩
theorem iP{a b x c:Int}(hc:0<c)(h1:a<=x)(h2:x<=b):a.fdiv c<=x.fdiv c/\x.fdiv c<=b.fdiv c:=by
 have e:∀z:Int,z.fdiv c=z/c:=λz=>bO _ (bv hc)
 rw [e,e,e]
 exact ⟨Ml hc h1,Ml hc h2⟩
noncomputable def xl(a b:Int):Bool:=small a&&small b
theorem cD{a b:Bool}(h:(a&&b)=true):a=true/\b=true:=(aB _ _▸h:_/\_)
theorem o_{a:Int}:small a=true↔ -18446744073709551616<a/\a<18446744073709551616:=⟨λh=>⟨of_decide_eq_true (cD h).1,of_decide_eq_true (cD h).2⟩,λh=>by unfold small;rw [decide_eq_true h.1,decide_eq_true h.2];rfl⟩
theorem pb{a b x:Int}(h:xl a b=true)(h1:a<=x)(h2:x<=b):small x=true:=
 o_.mpr ⟨bS (o_.mp (cD h).1).1 h1,bC h2 (o_.mp (cD h).2).2⟩
theorem dB{a k:Int}{b:Int}(e:a=b)(h1:a<=k)(h2:k<=b):k=a:=fM (e▸h2) h1
section
variable(f n:Nat)(a b:Ty)
noncomputable def NI:Option Ty:=a.asI λl h=>b.asI λl' h'=>some (.i (l+l') (h+h'))
noncomputable def MM:Option Ty:=(a.asI λl h=>b.asI λl' h'=>some (.i (l - h') (h - l'))).or (a.asI λl h=>b.isK 1 (if l=1/\h=1 then some (.c 1)else none))
noncomputable def Nf:Option Ty:=a.asI λl h=>b.asI λl' h'=>if (xl l h||xl l' h')=true then some (.i (Nh l h l' h') (Ni l h l' h'))else none
noncomputable def Nv:Option Ty:=a.asI λl h=>b.asI λc d=>if c=d/\0<c/\small c=true then some (.i (l.fdiv c) (h.fdiv c))else none
noncomputable def Nj:Option Ty:=a.asS λ_=>b.asI λc d=>if c=f/\d=f then some (.i 0 ((f:Int) - 1))else none
noncomputable def MP:Option Ty:=(a.asI λl h=>b.asI λc d=>if c=d/\0<=c/\c<=1000/\xl l h=true then some (.i (l*2^c.toNat) (h*2^c.toNat))else none).or (a.asI λl h=>b.asS λ_=>if l=1/\h=1 then some (.bb 5)else none)
noncomputable def MO:Option Ty:=(a.asI λl h=>b.asI λc d=>if c=d/\0<=c then some (.i (l.fdiv (2^c.toNat)) (h.fdiv (2^c.toNat)))else none).or
 ((a.isK 2 (b.asI λc d=>if c=3/\d=3 then some (.c 1)else none)).or (a.asB n λ_=>b.asS λ_=>some (.c 3)))
noncomputable def NH:Option Ty:=(a.asB n λk=>b.asB n λj=>some (.bb (Qt k j))).or ((a.asB n λk=>b.isK 0 (some (.bb (zP k)))).or ((a.isK 0 (b.asB n λk=>some (.bb (zP k)))).or ((a.isK 0 (b.isK 0 (some (.c 0)))).or
 ((a.isK 2 (b.asI λc d=>if c=7/\d=7 then some (.i 1 6)else none)).or ((a.isK 3 (b.asI λc d=>if c=1/\d=1 then some (.i 0 1)else none)).or (a.asI λ_ _=>b.asI λc d=>if c=65535/\d=65535 then some (.i 0 65535)else none))))))
noncomputable def Ss:Option Ty:=(a.asB n λk=>b.asB n λj=>some (.bb (Ua k j))).or ((a.asB n λk=>b.isK 0 (some (.c 0))).or ((a.isK 0 (b.asB n λk=>some (.c 0))).or (a.isK 0 (b.isK 0 (some (.c 0))))))
noncomputable def MI:Option Ty:=a.asB n λk=>b.asB n λj=>some (.bb (uo (dP k&&dP j)))
noncomputable def E0(op:n6):Option Ty:=op.casesOn (NI a b) (MM a b) (Nf a b) (Nv a b) (Nj f a b) (MP a b) (MO n a b) (NH n a b) (Ss n a b) (MI n a b)
end
section
variable{w:Bd}
theorem E2{P Q:Nat->Bool}{s:Nat}(h:(P s&&Q s)=true):P s=true/\Q s=true:=cD h
theorem S6{a b:Bool}(h:(a||b)=true):a=true\/b=true:=(du _ _▸h:_\/_)
theorem GT:∀p,p<16->∀c,c<2->((p%8==6)&&(!(p==0)&&p/8==c))=(p==6+8*c):=by decide+kernel
theorem C'(hw:w.Ok){P Q:Nat->Bool}(h1:uE w 3 P)(h2:uE w 4 Q):uE w 5 (λs=>P s&&Q s):=by
 obtain ⟨c,hc,h2⟩:=h2
 obtain ⟨m,hm,h3⟩:=hw.king c hc
 refine ⟨m,hm,λs hs=> ?_⟩
 have lt:w.b s<16:=(hw.pc s hs).elim (λe=>e▸(by decide)) λe=>e.1
 have e:(P s&&Q s)=(w.b s==6+8*c):=by
  rw [h1 s hs,h2 s hs];exact GT _ lt c (aU hc)
 refine e.trans ?_
 exact fc (by rw [beq_iff_eq,beq_iff_eq];exact h3 s hs)
theorem Lb(hw:w.Ok){k j:Nat}{P Q:Nat->Bool}(h1:uE w k P)(h2:uE w j Q):uE w (Qt k j) (λs=>P s&&Q s):=by
 unfold Qt;split
 ·rename_i e
  rcases e with ⟨rfl,rfl⟩ |⟨rfl,rfl⟩
  ·exact C' hw h1 h2
  ·obtain ⟨m,a,b⟩:=C' hw h2 h1
   exact ⟨m,a,λs hs=>(cz _ _).trans (b s hs)⟩
 ·split
  ·rename_i e
   rcases e with rfl | rfl
   ·exact λs hs hp=>h1 s hs (E2 hp).1
   ·exact λs hs hp=>h2 s hs (E2 hp).2
  ·exact jt λe s hs hp=>(S6 e).elim (λe=>fY e h1 s hs (E2 hp).1) λe=>fY e h2 s hs (E2 hp).2
theorem O9{k j:Nat}{P Q:Nat->Bool}(h1:uE w k P)(h2:uE w j Q):uE w (Ua k j) (λs=>P s||Q s):=by
 unfold Ua;split
 ·rename_i e;obtain ⟨rfl,rfl⟩:=e
  exact λs hs hp=>(S6 hp).elim (h1 s hs) (h2 s hs)
 ·exact jt λe s hs hp=>(S6 hp).elim (fY (cD e).1 h1 s hs) (fY (cD e).2 h2 s hs)
theorem La{k j:Nat}{P Q:Nat->Bool}(h1:uE w k P)(h2:uE w j Q):uE w (uo (dP k&&dP j)) (λs=>P s^^Q s):=
 jt λe s hs hp=>by
  cases hp1:P s with
  | true=>exact fY (cD e).1 h1 s hs hp1
  | false=>exact fY (cD e).2 h2 s hs (by rw [hp1,Bool.false_xor]at hp;exact hp)
theorem y7{k:Nat}{P Q:Nat->Bool}(h:uE w k P)(hq:∀s,Q s=true->P s=true):uE w (zP k) Q:=by
 unfold zP;split
 ·rename_i e;subst e;exact λs hs hp=>h s hs (hq s hp)
 ·exact jt λe s hs hp=>fY e h s hs (hq s hp)
noncomputable def BQ(w:Bd)(op:n6)(x x' y y':T)(t:Ty):Prop:=P2 (R w t) (bK op x y) (bK op x' y')
variable{a b:Ty}{x x' y y':T}
theorem fv{β:Type}{f:Int->Int->Int->Int->Option β}{Q:T->T->T->T->β->Prop}(hx:R w a x x')(hy:R w b y y')(h:∀l h k l' h' j,l<=k->k<=h->l'<=j->j<=h'->Ok (f l h l' h') (Q (.int k) (.int k) (.int j) (.int j))):Ok (a.asI λl h=>b.asI (f l h)) (Q x x' y y'):=
 cW (Q:=λx x'=>Q x x' y y') hx λl hh k h1 h2=>cW hy λl' h' j h3 h4=>h l hh k l' h' j h1 h2 h3 h4
theorem wS{β:Type}{f:Nat->Nat->Option β}{Q:T->T->T->T->β->Prop}(hx:R w a x x')(hy:R w b y y')(h:∀k P j P',uE w k P->uE w j P'->Ok (f k j) (Q (.int (bI w.n P)) (.int (bI w.n λs=>P (w.sg s))) (.int (bI w.n P')) (.int (bI w.n λs=>P' (w.sg s))))):Ok (a.asB w.n λk=>b.asB w.n (f k)) (Q x x' y y'):=
 cS (Q:=λx x'=>Q x x' y y') hx λk P h1=>cS hy λj P' h2=>h k P j P' h1 h2
theorem gC{β:Type}{o:Option β}{Q:T->T->β->Prop}(hx:R w a x x')(h:∀P,Ok o (Q (.int (nI w.n P)) (.int (nI w.n λs=>P (w.sg s))))):Ok (a.isK 0 o) (Q x x'):=
 gI hx λ⟨P,e,e'⟩=>by subst e e';exact h P
theorem Bw{β:Type}{o:Option β}{Q:T->T->β->Prop}(hx:R w a x x')(h:∀c:Nat,c<=1->Ok o (Q (.int (c:Nat)) (.int (1 -(c:Nat):Int)))):Ok (a.isK 1 o) (Q x x'):=
 gI hx λ⟨c,hc,e,e'⟩=>by subst e e';exact h c hc
theorem Ie{β:Type}{o:Option β}{Q:T->T->β->Prop}(hx:R w a x x')(h:∀p:Nat,p<16->1<=p%8->p%8<=6->Ok o (Q (.int (p:Nat)) (.int (dX p:Nat)))):Ok (a.isK 2 o) (Q x x'):=
 gI hx λ⟨p,p1,p2,p3,e,e'⟩=>by subst e e';exact h p p1 p2 p3
theorem O2{β:Type}{o:Option β}{Q:T->T->β->Prop}(hx:R w a x x')(h:∀p q:Int,p%2=q%2->Ok o (Q (.int p) (.int q))):Ok (a.isK 3 o) (Q x x'):=
 gI hx λ⟨p,q,e,e',ee⟩=>by subst e e';exact h p q ee
theorem Mc{t:Ty}{op:n6}{p q:T}(h1:bK op x y=some p)(h2:bK op x' y'=some q)(h:R w t p q):BQ w op x x' y y' t:=⟨p,q,h1,h2,h⟩
theorem JA{op:n6}{p q:Int}{k:Nat}{P:Nat->Bool}(h1:bK op x y=some (.int p))(h2:bK op x' y'=some (.int q))(e1:p=bI w.n P)(e2:q=bI w.n λs=>P (w.sg s))(h:uE w k P):BQ w op x x' y y' (.bb k):=⟨_,_,h1,h2,P,congrArg T.int e1,congrArg T.int e2,h⟩
theorem MA{op:n6}{p q:Int}{P:Nat->Bool}(h1:bK op x y=some (.int p))(h2:bK op x' y'=some (.int q))(e1:p=nI w.n P)(e2:q=nI w.n λs=>P (w.sg s)):BQ w op x x' y y' (.c 0):=⟨_,_,h1,h2,P,congrArg T.int e1,congrArg T.int e2⟩
theorem L4(hx:R w a x x')(hy:R w b y y'):Ok (NI a b) (BQ w .add x x' y y'):=fv hx hy λl h k l' h' j h1 h2 h3 h4=> .some (Mc rfl rfl (xP (cO h1 h3) (cO h2 h4)))
theorem N6(hx:R w a x x')(hy:R w b y y'):Ok (MM a b) (BQ w .sub x x' y y'):=
 .alt (fv hx hy λl h k l' h' j h1 h2 h3 h4=> .some (Mc rfl rfl (xP (xG h1 h4) (xG h2 h3))))
 (cW (Q:=λx x'=>BQ w .sub x x' y y') hx λl h k h1 h2=>Bw hy λc hc=> .if1 λ⟨e1,e2⟩=> .some (Mc rfl rfl ⟨1 - c,bE _ _,by
  have:=dB (e1.trans e2.symm) h1 h2
  congr 1;omega,by
  have:=dB (e1.trans e2.symm) h1 h2
  congr 1;omega⟩))
theorem OL(hx:R w a x x')(hy:R w b y y'):Ok (Nf a b) (BQ w .mul x x' y y'):=fv hx hy λl h k l' h' j h1 h2 h3 h4=> .if1 λe=>by
 have e1:bK .mul (.int k) (.int j)=some (.int (k*j)):=if_pos ((du _ _).mpr ((S6 e).imp (λe=>pb e h1 h2) λe=>pb e h3 h4))
 exact .some (Mc e1 e1 (xP (se h1 h2 h3 h4).1 (se h1 h2 h3 h4).2))
theorem Pa(hx:R w a x x')(hy:R w b y y'):Ok (Nv a b) (BQ w .fdv x x' y y'):=fv hx hy λl h k c d j h1 h2 h3 h4=> .if1 λ⟨e,e2,e3⟩=>by
 obtain rfl:=dB e h3 h4
 have e1:bK .fdv (.int k) (.int j)=some (.int (k.fdiv j)):=if_neg (by
  rw [e3,Bool.not_true,cg,beq_iff_eq];exact ln e2)
 exact .some (Mc e1 e1 (xP (iP e2 h1 h2).1 (iP e2 h1 h2).2))
theorem OM(hw:w.Ok)(hx:R w a x x')(hy:R w b y y'):Ok (Nj w.f a b) (BQ w .mod x x' y y'):=
 gM (Q:=λx x'=>BQ w .mod x x' y y') hx λ_ s hs _=>cW hy λc d j h3 h4=> .if1 λ⟨e,e'⟩=>by
  obtain rfl:=dB (e.trans e'.symm) h3 h4
  subst e
  have hf:=hw.shape.fpos
  have e1:∀t:Nat,bK .mod (.int t) (.int (w.f:Int))=some (.int ((t%w.f:Nat):Int)):=λt=>by
   show (if ((w.f:Int)==0)=true then _ else _)=_
   have:¬((w.f:Int)==0)=true:=by rw [beq_iff_eq];exact Int.ofNat_ne_zero.mpr (cN hf)
   rw [if_neg this,i6 _ (au _)];rfl
  have e2:w.sg s%w.f=s%w.f:=m9 hf s
  refine .some (Mc (e1 s) (e1 (w.sg s)) ?_)
  rw [e2]
  exact xP (au _) (Fo (bF.mpr (d_ s hf)))
theorem Og(hw:w.Ok)(hx:R w a x x')(hy:R w b y y'):Ok (MP a b) (BQ w .shl x x' y y'):=
 .alt (fv hx hy λl h k c d j h1 h2 h3 h4=> .if1 λ⟨e,e2,e3,e4⟩=>by
  obtain rfl:=dB e h3 h4
  have e1:bK .shl (.int k) (.int j)=some (.int (k*2^j.toNat)):=if_pos (by rw [decide_eq_true e2,decide_eq_true e3,pb e4 h1 h2];rfl)
  have hp:=bv (kbt_pos j.toNat)
  exact .some (Mc e1 e1 (xP (bN h1 hp) (bN h2 hp))))
 (cW (Q:=λx x'=>BQ w .shl x x' y y') hx λl h k h1 h2=>gM hy λ_ s hs _=> .if1 λ⟨e,e'⟩=>by
  obtain rfl:=dB (e.trans e'.symm) h1 h2
  subst e
  have e1:∀t:Nat,t<w.n->bK .shl (.int 1) (.int (t:Nat))=some (.int (bI w.n λu=>u==t)):=λt ht=>by
   have hn:w.n<=20:=hw.shape.n_le
   show (if (decide ((0:Int)<=t)&&decide ((t:Int)<=1000)&&small 1)=true then _ else _)=_
   rw [decide_eq_true (au t),decide_eq_true (p:=(t:Int)<=1000) (by omega)]
   rw [if_pos (by decide),xC _ _ ht,jU];rfl
  refine .some (Mc (e1 s hs) (e1 (w.sg s) (ci hw hs)) (mz ⟨s,hs,λ_ _=>rfl⟩ λu hu=>fc ?_))
  rw [beq_iff_eq,beq_iff_eq]
  exact ⟨λe=>e▸dR hw hs,λe=>e▸(dR hw hu).symm⟩)
theorem yZ(p:Nat)(h:p<16/\1<=p%8):((dX p/8:Nat):Int)=1 -((p/8:Nat):Int)/\p/8<=1:=by
 have key:∀p,p<16->1<=p%8->((dX p/8:Nat):Int)=1 -((p/8:Nat):Int)/\p/8<=1:=by decide+kernel
 exact key p h.1 h.2
theorem yY(p:Nat):dX p%8=p%8:=by
 unfold dX;split
 ·rename_i e;rw [e]
 ·split
  ·exact Nat.add_mod_right _ _
  ·rename_i h;exact (Jl (dM.mp h)).symm
theorem Of(hw:w.Ok)(hx:R w a x x')(hy:R w b y y'):Ok (MO w.n a b) (BQ w .shr x x' y y'):=
 .alt (fv hx hy λl h k c d j h1 h2 h3 h4=> .if1 λ⟨e,e2⟩=>by
  obtain rfl:=dB e h3 h4
  have e1:bK .shr (.int k) (.int j)=some (.int (k.fdiv (2^j.toNat))):=if_pos (decide_eq_true e2)
  exact .some (Mc e1 e1 (xP (iP (kbt_pos j.toNat) h1 h2).1 (iP (kbt_pos j.toNat) h1 h2).2)))
 (.alt (Ie (Q:=λx x'=>BQ w .shr x x' y y') hx λp p1 p2 p3=>cW hy λc d j h3 h4=> .if1 λ⟨e,e'⟩=>by
  obtain rfl:=dB (e.trans e'.symm) h3 h4
  subst e
  have e1:∀q:Nat,QE (q:Int) (2^(3:Int).toNat)=((q/8:Nat):Int):=λq=>oq q 3
  exact .some (Mc rfl rfl ⟨p/8,(yZ p ⟨p1,p2⟩).2,congrArg T.int (e1 p),congrArg T.int ((e1 _).trans (yZ p ⟨p1,p2⟩).1)⟩))
 (cS (Q:=λx x'=>BQ w .shr x x' y y') hx λ_ P _=>gM hy λ_ s hs _=> .some (by
  have e1:∀(P:Nat->Bool) (t:Nat),bK .shr (.int (bI w.n P)) (.int (t:Nat))=some (.int ((bI w.n P).fdiv (2^t))):=λP t=>if_pos (e:=none) (decide_eq_true (au t))
  refine Mc (e1 _ _) (e1 _ _) ⟨_,_,rfl,rfl,?_⟩
  rw [jH,jH,dR hw hs,decide_eq_true hs,decide_eq_true (ci hw hs)])))
theorem PH(hw:w.Ok)(hx:R w a x x')(hy:R w b y y'):Ok (NH w.n a b) (BQ w .and x x' y y'):=
 .alt (wS hx hy λk P j Q h1 h2=> .some (JA rfl rfl (dJ ..) (dJ ..) (Lb hw h1 h2)))
 (.alt (cS (Q:=λx x'=>BQ w .and x x' y y') hx λk P h1=>gC hy λQ=> .some (JA (P:=λs=>P s&& !Q s) rfl rfl (iO ..) (iO ..) (y7 h1 λs q=>(cD q).1)))
 (.alt (gC (Q:=λx x'=>BQ w .and x x' y y') hx λQ=>cS hy λk P h1=> .some (JA (P:=λs=> !Q s&&P s) rfl rfl (BR ..) (BR ..) (y7 h1 λs q=>(cD q).2)))
 (.alt (gC (Q:=λx x'=>BQ w .and x x' y y') hx λP=>gC hy λQ=> .some (MA rfl rfl (BS ..) (BS ..)))
 (.alt (Ie (Q:=λx x'=>BQ w .and x x' y y') hx λp p1 p2 p3=>cW hy λc d j h3 h4=> .if1 λ⟨e,e'⟩=>by
  obtain rfl:=dB (e.trans e'.symm) h3 h4
  subst e
  have e2:((dX p:Nat):Int)%8=((p%8:Nat):Int):=congrArg uh (yY p)
  refine .some (Mc rfl rfl ?_)
  rw [bitAnd_m3,bitAnd_m3,e2]
  exact xP (aW.mpr p2) (aW.mpr p3))
 (.alt (O2 (Q:=λx x'=>BQ w .and x x' y y') hx λp q ee=>cW hy λc d j h3 h4=> .if1 λ⟨e,e'⟩=>by
  obtain rfl:=dB (e.trans e'.symm) h3 h4
  subst e
  refine .some (Mc rfl rfl ?_)
  rw [bitAnd_m1,bitAnd_m1,<-ee]
  exact xP (PX _ (by decide)) (Fp (Jt _ (by decide))))
 (fv hx hy λl h k c d j h1 h2 h3 h4=> .if1 λ⟨e,e'⟩=>by
  obtain rfl:=dB (e.trans e'.symm) h3 h4
  subst e
  refine .some (Mc rfl rfl ?_)
  rw [bitAnd_m16]
  exact xP (PX _ (by decide)) (Fp (Jt _ (by decide)))))))))
theorem Q8(hx:R w a x x')(hy:R w b y y'):Ok (Ss w.n a b) (BQ w .or x x' y y'):=
 .alt (wS hx hy λk P j Q h1 h2=> .some (JA rfl rfl (ec ..) (ec ..) (O9 h1 h2)))
 (.alt (cS (Q:=λx x'=>BQ w .or x x' y y') hx λk P h1=>gC hy λQ=> .some (MA (P:=λs=> !P s&&Q s) rfl rfl (MX ..) (MX ..)))
 (.alt (gC (Q:=λx x'=>BQ w .or x x' y y') hx λQ=>cS hy λk P h1=> .some (MA (P:=λs=>Q s&& !P s) rfl rfl (MY ..) (MY ..)))
 (gC (Q:=λx x'=>BQ w .or x x' y y') hx λP=>gC hy λQ=> .some (MA rfl rfl (MZ ..) (MZ ..)))))
theorem NT(hx:R w a x x')(hy:R w b y y'):Ok (MI w.n a b) (BQ w .xor x x' y y'):=
 wS hx hy λk P j Q h1 h2=> .some (JA rfl rfl (A8 ..) (A8 ..) (La h1 h2))
theorem Dv(hw:w.Ok)(hx:R w a x x')(hy:R w b y y'):∀op,Ok (E0 w.f w.n a b op) (BQ w op x x' y y')
 | .add=>L4 hx hy
 | .sub=>N6 hx hy
 | .mul=>OL hx hy
 | .fdv=>Pa hx hy
 | .mod=>OM hw hx hy
 | .shl=>Og hw hx hy
 | .shr=>Of hw hx hy
 | .and=>PH hw hx hy
 | .or=>Q8 hx hy
 | .xor=>NT hx hy
end
end
section
mutual
noncomputable def TU:T->Ty
 | .int k=> .i k k
 | .bool b=> .bo (some b)
 | .none=> .c 4
 | .tup l=> .tup (ofCs l)
 | .str s=> .ex (.str s)
 | .list l=> .ex (.list l)
 | .inst c k l=> .ex (.inst c k l)
 | .rng a b c=> .ex (.rng a b c)
noncomputable def ofCs:List T->List Ty
 |[]=>[]
 | a::r=>TU a::ofCs r
end
section
variable{w:Bd}
mutual
theorem Bn:∀t:T,R w (TU t) t t
 | .int k=>QC k
 | .bool b=>⟨b,rfl,rfl,λc h=>ah.inj h⟩
 | .none=>⟨rfl,rfl⟩
 | .tup l=>⟨l,l,rfl,rfl,ofCs_ok l⟩
 | .str _=>⟨rfl,rfl⟩
 | .list _=>⟨rfl,rfl⟩
 | .inst _ _ _=>⟨rfl,rfl⟩
 | .rng _ _ _=>⟨rfl,rfl⟩
theorem ofCs_ok:∀l:List T,Rs w (ofCs l) l l
 |[]=>dS
 | a::r=>aM (Bn a) (ofCs_ok r)
end
end
noncomputable def QG(p q:Prop)[Decidable p][Decidable q]:Option Bool:=if p then some true else if q then some false else none
theorem m6{p q:Prop}[Decidable p][Decidable q]{b:Bool}(h:p->b=true)(k:q->b=false):∀c,QG p q=some c->b=c:=
 Ok.ite (o:=some true) (P:=λc=>b=c) (λe=> .some (h e)) λ_=> .if1 λe=> .some (k e)
noncomputable def SM(op:zF)(a b c d:Int):Option Bool:=op.casesOn (QG (a=b/\c=d/\a=c) (b<c\/d<a)) (QG (b<c\/d<a) (a=b/\c=d/\a=c)) (QG (b<c) (d<=a)) (QG (b<=c) (d<a)) (QG (d<a) (b<=c)) (QG (d<=a) (b<c))
noncomputable def Ny(op:zF)(a b:Ty):Option (Option Bool):=(a.asI λl h=>b.asI λl' h'=>some (SM op l h l' h')).or
 (a.asBo λu=>b.asBo λv=>op.casesOn (some (u.bind λx=>v.map λy=>x==y)) (some (u.bind λx=>v.map λy=> !(x==y))) none none none none)
noncomputable def jX(n:Nat)(t:Ty):Option (Option Bool):=(t.asBo λv=>some v).or ((t.asI λlo hi=>some (QG (0<lo\/hi<0) (lo=0/\hi=0))).or ((t.isK 4 (some (some false))).or (t.asB n λ_=>some none)))
noncomputable def TB(o o':Option Bool)(v:Option Bool):Prop:=∃b,o=some b/\o'=some b/\∀c,v=some c->b=c
section
variable{w:Bd}{a b:Ty}{x x' y y':T}
theorem uV{a b c d k j:Int}(h1:a<=k)(h2:k<=b)(h3:c<=j)(h4:j<=d)(e:b<c\/d<a):k≠j:=λq=>by
 subst q
 exact e.elim (λe=>absurd (ap h3 h2) (fV.mpr e)) λe=>absurd (ap h1 h4) (fV.mpr e)
theorem ze{a b c d k j:Int}(h1:a<=k)(h2:k<=b)(h3:c<=j)(h4:j<=d)(e:a=b/\c=d/\a=c):k=j:=(dB e.1 h1 h2).trans (e.2.2.trans (dB e.2.1 h3 h4).symm)
theorem LD{a b c d k j:Int}(h1:a<=k)(h2:k<=b)(h3:c<=j)(h4:j<=d):∀op,TB (gP op (.int k) (.int j)) (gP op (.int k) (.int j)) (SM op a b c d)
 | .eq=>⟨k==j,rfl,rfl,m6 (λe=>beq_iff_eq.mpr (ze h1 h2 h3 h4 e)) λe=>beq_eq_false_iff_ne.mpr (uV h1 h2 h3 h4 e)⟩
 | .ne=>⟨!(k==j),rfl,rfl,m6 (λe=>by rw [beq_eq_false_iff_ne.mpr (uV h1 h2 h3 h4 e)];rfl) λe=>by rw [beq_iff_eq.mpr (ze h1 h2 h3 h4 e)];rfl⟩
 | .lt=>⟨decide (k<j),rfl,rfl,m6 (λe=>decide_eq_true (bC h2 (bS e h3))) λe=>decide_eq_false (cC.mpr (ap h4 (ap e h1)))⟩
 | .le=>⟨decide (k<=j),rfl,rfl,m6 (λe=>decide_eq_true (ap h2 (ap e h3))) λe=>decide_eq_false (fV.mpr (bC h4 (bS e h1)))⟩
 | .gt=>⟨decide (j<k),rfl,rfl,m6 (λe=>decide_eq_true (bC h4 (bS e h1))) λe=>decide_eq_false (cC.mpr (ap h2 (ap e h3)))⟩
 | .ge=>⟨decide (j<=k),rfl,rfl,m6 (λe=>decide_eq_true (ap h4 (ap e h1))) λe=>decide_eq_false (fV.mpr (bC h2 (bS e h3)))⟩
theorem Uv{u v:Option Bool}{p q:Bool}{g:Bool->Bool->Bool}(hp:∀c,u=some c->p=c)(hq:∀c,v=some c->q=c):Ok (u.bind λx=>v.map λy=>g x y) λc=>g p q=c:=
 Ok.bind (P:=λc=>p=c) hp λc e=>Ok.map (Ok.mono (P:=λc=>q=c) hq λd e'=>by rw [e,e'])
theorem Dq(op:zF)(hx:R w a x x')(hy:R w b y y'):Ok (Ny op a b) (TB (gP op x y) (gP op x' y')):=
 .alt (fv (Q:=λx x' y y'=>TB (gP op x y) (gP op x' y')) hx hy λl h k l' h' j h1 h2 h3 h4=> .some (LD h1 h2 h3 h4 op))
 (j6 (Q:=λx x'=>TB (gP op x y) (gP op x' y')) hx λu p hp=>j6 (Q:=λy y'=>TB (gP op (.bool p) y) (gP op (.bool p) y')) hy λv q hq=>by
  cases op<;>first | exact Ok.none | skip
  ·exact .some ⟨p==q,rfl,rfl,Uv (g:=λx y=>x==y) hp hq⟩
  ·exact .some ⟨!(p==q),rfl,rfl,Uv (g:=λx y=> !(x==y)) hp hq⟩)
theorem LV(hw:w.Ok)(P:Nat->Bool):(bI w.n (λs=>P (w.sg s))==0)=(bI w.n P==0):=by
 apply fc;rw [beq_iff_eq,beq_iff_eq,cP,cP]
 exact ⟨λh s hs=>by have:=h (w.sg s) (ci hw hs);rw [dR hw hs]at this;exact this,λh s hs=>h (w.sg s) (ci hw hs)⟩
theorem uG(hw:w.Ok)(hx:R w a x x'):Ok (jX w.n a) (TB (bx x) (bx x')):=
 .alt (j6 (Q:=λx x'=>TB (bx x) (bx x')) hx λv b hb=> .some ⟨b,rfl,rfl,hb⟩)
 (.alt (cW (Q:=λx x'=>TB (bx x) (bx x')) hx λlo hi k h1 h2=> .some ⟨!(k==0),rfl,rfl,m6 (λe=>by
   rw [beq_eq_false_iff_ne.mpr (λq:k=0=>by subst q;exact e.elim (λe=>absurd h1 (fV.mpr e)) λe=>absurd h2 (fV.mpr e))];rfl) λe=>by
   rw [beq_iff_eq.mpr (fM (e.2▸h2) (e.1▸h1))];rfl⟩)
 (.alt (gI (k:=4) (Q:=λx x'=>TB (bx x) (bx x')) hx λ⟨e,e'⟩=> .some ⟨false,by rw [e];rfl,by rw [e'];rfl,λc h=>ah.inj h⟩)
 (cS (Q:=λx x'=>TB (bx x) (bx x')) hx λ_ P _=> .some ⟨!(bI w.n P==0),rfl,congrArg (λb=>some (!b)) (LV hw P),λc h=>no h⟩)))
end
theorem iC{α:Type}:∀(l:List α) (i:Nat),nth l i=l[i]?
 |[],0=>rfl
 |[],_+1=>rfl
 | a::l,0=>rfl
 | a::l,i+1=>iC l i
theorem wx{α β:Type}(g:α->β):∀(l:List α) (i:Nat),nth (l.map g) i=(nth l i).map g
 |[],0=>rfl
 |[],_+1=>rfl
 | a::l,0=>rfl
 | a::l,i+1=>wx g l i
theorem fA{α:Type}(g:Nat->α){n i:Nat}(h:i<n):nth ((ar n).map g) i=some (g i):=by
 rw [wx,iC,mY h];rfl
theorem CE{α:Type}:∀{l:List α} {i:Nat} {a:α},nth l i=some a->a∈l
 | _::_,0,_,h=>ah.inj h▸ak
 | _::l,i+1,_,h=>ao _ (CE (l:=l) (i:=i) h)
noncomputable def Bu(n:Nat):List Ty->Option Ty
 |[]=>none
 | a::r=>r.casesOn (some a) λ_ _=>(Bu n r).bind (join n a)
noncomputable def Qd{α:Type}(l:List α)(lo hi:Int):List α:=(l.drop lo.toNat).take (hi - lo+1).toNat
noncomputable def Ub(len:Nat)(lo hi:Int):Bool:=decide (0<=lo)&&decide (hi<len)&&decide (hi<1000000)
section
variable{w:Bd}
theorem uY{a:Ty}{x y:T}(hr:R w a x y):∀l:List Ty,a∈l->Ok (Bu w.n l) λt=>R w t x y
 |[],h=>nomatch h
 | b::l,h=>by
  cases l with
  | nil=>exact .some (aN.mp h▸hr)
  | cons c l=>
   exact λt e=>by
    obtain ⟨q,e1,e2⟩:=bind_some e
    rcases aG.mp h with rfl | h
    ·exact pC _ _ _ _ hr t e2
    ·exact pB _ _ _ _ (uY hr (c::l) h q e1) t e2
theorem g8:∀{l:List Ty} {xs ys:List T},Rs w l xs ys->xs.length=l.length/\ys.length=l.length
 |[],_,_,h=>E_ (Q:=λxs ys=>xs.length=0/\ys.length=0) h ⟨rfl,rfl⟩
 | t::l,_,_,h=>qN (Q:=λxs ys=>xs.length=(t::l).length/\ys.length=(t::l).length) h λx y xs ys _ h=>⟨congrArg (· +1) (g8 h).1,congrArg (· +1) (g8 h).2⟩
theorem IG:∀{l:List Ty} {xs ys:List T} {i:Nat},Rs w l xs ys->i<l.length->∃t,nth l i=some t/\P2 (R w t) (nth xs i) (nth ys i)
 |[],_,_,_,_,h=>absurd h (dC _)
 | t::l,_,_,i,hr,h=>qN (Q:=λxs ys=>∃u,nth (t::l) i=some u/\P2 (R w u) (nth xs i) (nth ys i)) hr λx y xs ys h1 h2=>by
  cases i with
  | zero=>exact ⟨t,rfl,.mk h1⟩
  | succ i=>exact IG (l:=l) (i:=i) h2 (bh h)
theorem GM{α:Type}{l:List α}{lo hi k:Int}{a:α}(h1:0<=lo)(h2:lo<=k)(h3:k<=hi)(h:nth l k.toNat=some a):a∈Qd l lo hi:=by
 unfold Qd
 rw [iC]at h
 apply bG (i:=k.toNat - lo.toNat)
 have e1:lo.toNat<=k.toNat:=Jp h2
 have e2:k.toNat - lo.toNat<(hi - lo+1).toNat:=Th.mpr (by
  rw [Int.ofNat_sub e1,dN (ap h1 h2),dN h1]
  exact Int.lt_add_one_of_le (Fm h3 lo))
 rw [jz e2,List.getElem?_drop,Nat.add_sub_cancel' e1,h]
theorem H1{len:Nat}{lo hi k:Int}(h:Ub len lo hi=true)(h1:lo<=k)(h2:k<=hi):cr k len=some k.toNat/\0<=lo/\k.toNat<len:=by
 have e1:=of_decide_eq_true (cD (cD h).1).1
 have e2:=of_decide_eq_true (cD (cD h).1).2
 have e3:=of_decide_eq_true (cD h).2
 have e4:=ap e1 h1
 have e5:=bC h2 e2
 exact ⟨if_pos ⟨e4,e5,bC h2 e3⟩,e1,(Int.toNat_lt e4).mpr e5⟩
theorem cy{n:Nat}{g:Nat->T}{s:Nat}(hs:s<n)(hn:n<1000000):b4 (s:Nat) (.sh (mX n g))=some (.sh (g s)):=by
 have:cr (s:Nat) ((ar n).map g).length=some s:=if_pos ⟨au s,by rw [aq,aK];exact bF.mpr hs,bF.mpr (ll hs hn)⟩
 show (((cr _ _).bind _).map _)=_
 rw [this]
 exact congrArg (bZ O.sh) (fA g hs)
end
noncomputable def RS(w:Bd)(t:Ty)(a b:O):Prop:=∃x y,a= .sh x/\b= .sh y/\R w t x y
section
variable{w:Bd}{t:Ty}{x y:T}
theorem uz(h:R w t x y):P2 (RS w t) (some (.sh x)) (some (.sh y)):= .mk ⟨x,y,rfl,rfl,h⟩
theorem P2.sh{o o':Option T}(h:P2 (R w t) o o'):P2 (RS w t) (o.map .sh) (o'.map .sh):=h.map λx y h=>⟨x,y,rfl,rfl,h⟩
end
noncomputable def w5(n:Nat)(l:List Ty)(lo hi:Int):Option Ty:=if Ub l.length lo hi=true then Bu n (Qd l lo hi)else none
noncomputable def Nt(n:Nat)(a i:Ty):Option Ty:=
 (i.asI λlo hi=>(a.asL λl=>w5 n l lo hi).or ((a.asT λl=>w5 n l lo hi).or (a.asE λt=>t.casesOn none (λ_=>none) (λ_=>none) (λ_=>none) (λl=>w5 n (ofCs l) lo hi) (λ_=>none) (λ_ _ _=>none) (λ_ _ _=>none)))).or
 ((i.isK 1 (a.asD λa=>some a)).or (i.asS λk=>(a.asQ λa=>some a).or (a.isK 7 (if k=1\/k=2\/k=4 then some (.c 2)else none))))
noncomputable def By(o i:Option O):Option O:=o.bind λo=>(i.bind O.int?).bind λn=>b4 n o
noncomputable def IQ(w:Bd)(x y u v:T)(t:Ty):Prop:=P2 (RS w t) (By (some (.sh x)) (some (.sh u))) (By (some (.sh y)) (some (.sh v)))
section
variable{w:Bd}{a i:Ty}{x y u v:T}
theorem xm{l:List Ty}{xs ys:List T}{lo hi k:Int}(hr:Rs w l xs ys)(h1:lo<=k)(h2:k<=hi):Ok (w5 w.n l lo hi) λt=>P2 (RS w t) (((cr k xs.length).bind (nth xs)).map .sh) (((cr k ys.length).bind (nth ys)).map .sh):=
 .if1 λe=>by
  obtain ⟨p1,p2,p3⟩:=H1 e h1 h2
  obtain ⟨t,e,x,y,e1,e2,hr'⟩:=IG hr p3
  rw [(g8 hr).1,(g8 hr).2,p1]
  refine (uY hr' _ (GM p2 h1 h2 e)).mono λu hu=> ?_
  show P2 _ ((nth xs _).map _) ((nth ys _).map _)
  rw [e1,e2];exact uz hu
theorem Q6(hw:w.Ok){s:Nat}(hs:s<w.n)(h:w.occP s=true):R w (.c 2) (.int (w.b s:Nat)) (.int (w.turn.b (w.sg s):Nat)):=by
 have hp:=hw.pc s hs
 unfold Bd.occP at h
 rw [b0,beq_eq_false_iff_ne]at h
 obtain ⟨h1,h2,h3⟩:=hp.resolve_left h
 exact ⟨w.b s,h1,h2,h3,rfl,congrArg (λt=>T.int (dX (w.b t):Nat)) (dR hw hs)⟩
theorem K8{k s:Nat}(h:T9 w k s)(e:k=1\/k=2\/k=4):w.occP s=true:=by
 rcases e with rfl | rfl | rfl
 ·exact h
 ·exact iD (aA 1) h
 ·exact h
theorem K2(hw:w.Ok)(ha:R w a x y)(hi:R w i u v):Ok (Nt w.n a i) (IQ w x y u v):=
 have hn:w.n<1000000:=aC hw.shape.n_le (by decide)
 .alt (cW (Q:=λu v=>IQ w x y u v) hi λlo hi k h1 h2=> .alt (BP (Q:=λx y=>IQ w x y (.int k) (.int k)) ha λl xs ys hr=>xm hr h1 h2)
  (.alt (tX (Q:=λx y=>IQ w x y (.int k) (.int k)) ha λl xs ys hr=>xm hr h1 h2)
  (PG (Q:=λx y=>IQ w x y (.int k) (.int k)) ha λt=>by
   cases t<;>first | exact Ok.none | exact xm (ofCs_ok _) h1 h2)))
 (.alt (Bw (Q:=λu v=>IQ w x y u v) hi λc hc=>IE (Q:=λx y=>IQ w x y _ _) ha λa p q p' q' h1 h2=> .some (by
   rcases aY.mp hc with rfl | rfl
   ·exact uz h1
   ·exact uz h2))
 (gM (Q:=λu v=>IQ w x y u v) hi λk s hs hf=> .alt (PF (Q:=λx y=>IQ w x y _ _) ha λa g g' h=> .some (by
   show P2 _ (b4 (s:Nat) (.sh (mX w.n g))) (b4 (w.sg s:Nat) (.sh (mX w.n g')))
   rw [cy hs hn,cy (ci hw hs) hn];exact uz (h s hs)))
  (gI (k:=7) (Q:=λx y=>IQ w x y _ _) ha λ⟨e,e'⟩=> .if1 λq=> .some (by
   subst e e'
   show P2 _ (b4 (s:Nat) (.sh (mX w.n _))) (b4 (w.sg s:Nat) (.sh (mX w.n _)))
   rw [cy hs hn,cy (ci hw hs) hn];exact uz (Q6 hw hs (K8 hf q))))))
theorem hH(k s:Nat):w.turn.kindP k s=w.kindP k (w.sg s):=congrArg (· ==k) (yY _)
theorem Et(p c:Nat)(h:p=0\/(p<16/\1<=p%8/\p%8<=6))(hc:c<=1):(!(dX p==0)&&dX p/8==c)=(!(p==0)&&p/8==1 - c):=by
 have key:∀p,p<16->(p=0\/1<=p%8)->∀c,c<2->(!(dX p==0)&&dX p/8==c)=(!(p==0)&&p/8==1 - c):=by decide+kernel
 exact key p (h.elim (λe=>e▸(by decide)) λe=>e.1) (h.imp id λe=>e.2.1) c (aU hc)
theorem G2(p:Nat)(h:p=0\/(p<16/\1<=p%8/\p%8<=6)):(!(dX p==0))=(!(p==0)):=by
 have key:∀p,p<16->(p=0\/1<=p%8)->(!(dX p==0))=(!(p==0)):=by decide+kernel
 exact key p (h.elim (λe=>e▸(by decide)) λe=>e.1) (h.imp id λe=>e.2.1)
theorem ji(hw:w.Ok){c s:Nat}(hc:c<=1)(hs:s<w.n):w.turn.sideP c s=w.sideP (1 - c) (w.sg s):=Et _ c (hw.pc _ (ci hw hs)) hc
theorem yq(hw:w.Ok){s:Nat}(hs:s<w.n):w.turn.occP s=w.occP (w.sg s):=G2 _ (hw.pc _ (ci hw hs))
theorem Bt{k j:Nat}(hf:uE w j (w.kindP k)):R w (.bb j) (w.bT (w.kindP k)) (w.turn.bT (w.turn.kindP k)):=mz hf λs _=>hH k s
theorem rz{k:Nat}(hk:1<=k):R w (.bb 1) (w.bT (w.kindP k)) (w.turn.bT (w.turn.kindP k)):=Bt (j:=1) λs _ h=>iD hk h
theorem HM(hw:w.Ok){c:Nat}(hc:c<=1):R w (.bb 4) (w.bT (w.sideP c)) (w.turn.bT (w.turn.sideP (1 - c))):=mz ⟨c,hc,λ_ _=>rfl⟩ λs hs=>by
 rw [ji hw (bE 1 c) hs,cH hc]
theorem KU:R w (.lst [.i 0 0,.bb 2,.bb 1,.bb 1,.bb 1,.bb 1,.bb 3]) w.kindsT w.turn.kindsT:=
 ⟨_,_,rfl,rfl,aM (QC 0) (aM (Bt (j:=2) λ_ _ h=>h) (aM (rz (by decide)) (aM (rz (by decide)) (aM (rz (by decide)) (aM (rz (by decide)) (aM (Bt (j:=3) λ_ _=>rfl) dS))))))⟩
theorem EL{P:Nat->Nat->Bool}{Q:Nat->Nat->Bool}(h:∀s u,s<w.n->u<w.n->Q (w.sg s) u=P s (w.sg u)):R w (.lsq (.bb 0)) (mX w.n λt=>TI.bT w.f w.r (P t)) (mX w.n λt=>TI.bT w.f w.r (Q t)):=
 ⟨_,_,rfl,rfl,λs hs=>mz (P:=P s) trivial λu hu=>h s u hs hu⟩
theorem Db(hf:0<w.f):∀l:List Nat,Rs w (aw l.length (.bb 0)) (l.map λj=>TI.bT w.f w.r (j8 w.f j)) (l.map λj=>TI.bT w.f w.r (j8 w.f j))
 |[]=>dS
 | a::l=>aM (mz (P:=j8 w.f a) trivial λs hs=>congrArg (· ==a) (m9 hf s).symm) (Db hf l)
noncomputable def Q3:List Ty:=[.c 5,.c 7,.lst [.i 0 0,.bb 2,.bb 1,.bb 1,.bb 1,.bb 1,.bb 3],.lsd (.bb 4)]
noncomputable def Rx(f r:Nat):List Ty:=[.i f f,.i r r,.i (f*r:Nat) (f*r:Nat),.i (bI (f*r) λ_=>true) (bI (f*r) λ_=>true),.bo (some (decide (5<=r))),.lst (aw f (.bb 0)),.lsq (.bb 0),.lsq (.bb 0),.lsd (.lsq (.bb 0))]
noncomputable def IA(f r:Nat)(t:Ty)(k:Nat):Option Ty:=(t.isK 6 (iw [2,28,29,30] Q3 k)).or ((t.isK 5 (iw [1,21,22,23,14,15,13,18,19] (Rx f r) k)).or (t.asIn λ_ ks l=>iw ks l k))
theorem oN{α:Type}{j k:Nat}{ks:List Nat}{a:α}{l:List α}(e:j=k):iw (j::ks) (a::l) k=some a:=if_pos e
theorem kY{α:Type}{j k:Nat}{ks:List Nat}{a:α}{l:List α}(e:¬j=k):iw (j::ks) (a::l) k=iw ks l k:=if_neg e
theorem BE(k:Nat):∀{ks:List Nat} {l:List Ty} {xs ys:List T},Rs w l xs ys->Ok (iw ks l k) λt=>P2 (R w t) (iw ks xs k) (iw ks ys k)
 |[],_,_,_,_=>Ok.none
 | _::_,[],_,_,_=>Ok.none
 | j::ks,a::l,_,_,hr=>qN (Q:=λxs ys=>Ok (iw (j::ks) (a::l) k) λt=>P2 (R w t) (iw (j::ks) xs k) (iw (j::ks) ys k)) hr λx y xs ys h1 h2=>by
  by_cases e:j=k
  ·rw [oN e,oN e,oN e];exact .some (.mk h1)
  ·rw [kY e,kY e,kY e];exact BE k h2
theorem Hy(hw:w.Ok)(k:Nat)(hx:R w a x y):Ok (IA w.f w.r a k) λt=>P2 (RS w t) (bV k (.sh x)) (bV k (.sh y)):=
 have hf:=hw.shape.fpos
 .alt (gI (k:=6) (Q:=λx y t=>P2 (RS w t) (bV k (.sh x)) (bV k (.sh y))) hx λ⟨p,q,e,e'⟩=>by
  subst e e'
  refine .ite (λe=>e▸.some (uz ⟨rfl,rfl⟩)) λ_=> .ite (λe=>e▸.some (uz ⟨rfl,rfl⟩)) λ_=> .ite (λe=>e▸.some (uz KU)) λ_=> .ite (λe=>e▸.some (uz ⟨_,_,_,_,rfl,rfl,HM hw (aE 1),HM hw (aA 1)⟩)) λ_=> .none)
 (.alt (gI (k:=5) (Q:=λx y t=>P2 (RS w t) (bV k (.sh x)) (bV k (.sh y))) hx λ⟨e,e'⟩=>by
  subst e e'
  refine .ite (λe=>e▸.some (uz (QC _))) λ_=> .ite (λe=>e▸.some (uz (QC _))) λ_=> .ite (λe=>e▸.some (uz (QC _))) λ_=> .ite (λe=>e▸.some (uz (QC _))) λ_=> .ite (λe=>e▸.some (uz ⟨_,rfl,rfl,λc hc=>ah.inj hc⟩)) λ_=>
   .ite (λe=>e▸.some (uz ⟨_,_,rfl,rfl,?_⟩)) λ_=> .ite (λe=>e▸.some (uz (EL ?_))) λ_=> .ite (λe=>e▸.some (uz (EL ?_))) λ_=> .ite (λe=>e▸.some (uz ⟨_,_,_,_,rfl,rfl,EL ?_,EL ?_⟩)) λ_=> .none
  ·have:=Db hf (ar w.f);rw [aK]at this;exact this
  ·exact λs u hs hu=>(KT hf (ci hw hs) hu).symm.trans (congrArg (w_ w.f · (w.sg u)) (dR hw hs))
  ·exact λs u hs hu=>(Ej hf (ci hw hs) hu).symm.trans (congrArg (oH w.f · (w.sg u)) (dR hw hs))
  ·exact λs u hs hu=>(wv hf (c:=1) (aA 1) (ci hw hs) hu).symm.trans (congrArg (f9 w.f 0 · (w.sg u)) (dR hw hs))
  ·exact λs u hs hu=>(wv hf (c:=0) (aE 1) (ci hw hs) hu).symm.trans (congrArg (f9 w.f 1 · (w.sg u)) (dR hw hs)))
 (DC (Q:=λx y t=>P2 (RS w t) (bV k (.sh x)) (bV k (.sh y))) hx λc ks l xs ys h=>(BE k h).mono λt ht=>ht.sh))
noncomputable def gZ{β:Type}(l:List Ty)(f:Ty->Option β):Option β:=l.casesOn none λa r=>r.casesOn (f a) λ_ _=>none
noncomputable def kI{β:Type}(l:List Ty)(f:Ty->Ty->Option β):Option β:=l.casesOn none λa r=>gZ r (f a)
theorem fP{β:Type}{l:List Ty}{f:Ty->Option β}{xs ys:List T}{Q:List T->List T->β->Prop}(hr:Rs w l xs ys)(h:∀a x y,R w a x y->Ok (f a) (Q [x] [y])):Ok (gZ l f) (Q xs ys):=by
 match l,hr with
 |[],_=>exact Ok.none
 |[a],hr=>exact qN (Q:=λxs ys=>Ok (f a) (Q xs ys)) hr λx y xs ys h1 h2=>E_ (Q:=λxs ys=>Ok (f a) (Q (x::xs) (y::ys))) h2 (h a x y h1)
 | _::_::_,_=>exact Ok.none
theorem gE{β:Type}{l:List Ty}{f:Ty->Ty->Option β}{xs ys:List T}{Q:List T->List T->β->Prop}(hr:Rs w l xs ys)(h:∀a b x y u v,R w a x y->R w b u v->Ok (f a b) (Q [x,u] [y,v])):Ok (kI l f) (Q xs ys):=by
 match l,hr with
 |[],_=>exact Ok.none
 | a::r,hr=>exact qN (Q:=λxs ys=>Ok (gZ r (f a)) (Q xs ys)) hr λx y xs ys h1 h2=>fP (Q:=λxs ys=>Q (x::xs) (y::ys)) h2 λb u v h3=>h a b x y u v h1 h3
noncomputable def Qs(b:BI)(l:List Ty):Option Ty:=b.casesOn none (gZ l λa=>a.asI λl h=>some (.i (max 0 (max l (-h))) (max (-l) h))) (kI l λa b=>a.asI λl h=>b.asI λl' h'=>some (.i (min l l') (min h h')))
 (kI l λa b=>a.asI λl h=>b.asI λl' h'=>some (.i (max l l') (max h h'))) none none none
theorem sF{l h k:Int}(h1:l<=k)(h2:k<=h):max 0 (max l (-h))<=(if k<0 then -k else k)/\(if k<0 then -k else k)<=max (-l) h:=by
 split
 ·rename_i e
  have e:=jQ (bv e)
  exact ⟨qD.mpr ⟨e,qD.mpr ⟨ap h1 (ap (bv ‹_›) e),eS h2⟩⟩,ap (eS h1) (fL _ _)⟩
 ·rename_i e
  have e:=cC.mp e
  exact ⟨qD.mpr ⟨e,qD.mpr ⟨h1,ap (eS h2) (ap (jP e) e)⟩⟩,ap h2 (dj _ _)⟩
theorem Gk{j k:Int}:(if j<k then j else k)=min k j:=by
 split
 ·exact (kh (bv ‹_›)).symm
 ·exact (lE (cC.mp ‹_›)).symm
theorem Gl{j k:Int}:(if k<j then j else k)=max k j:=by
 split
 ·exact (ki (bv ‹_›)).symm
 ·exact (lF (cC.mp ‹_›)).symm
theorem PC{b:BI}{l:List Ty}{xs ys:List T}(hr:Rs w l xs ys):Ok (Qs b l) λt=>P2 (R w t) (qI b xs) (qI b ys):=by
 cases b<;>first | exact Ok.none | skip
 ·exact fP (Q:=λxs ys t=>P2 (R w t) (qI .abs xs) (qI .abs ys)) hr λa x y h=>cW (Q:=λx y t=>P2 (R w t) (qI .abs [x]) (qI .abs [y])) h λl h k h1 h2=> .some (.mk (xP (sF h1 h2).1 (sF h1 h2).2))
 ·exact gE (Q:=λxs ys t=>P2 (R w t) (qI .min xs) (qI .min ys)) hr λa b x y u v h h'=>fv (Q:=λx y u v t=>P2 (R w t) (qI .min [x,u]) (qI .min [y,v])) h h' λl h k l' h' j h1 h2 h3 h4=> .some (.mk (by
   rw [Gk]
   exact xP (Qg h1 h3) (Qg h2 h4)))
 ·exact gE (Q:=λxs ys t=>P2 (R w t) (qI .max xs) (qI .max ys)) hr λa b x y u v h h'=>fv (Q:=λx y u v t=>P2 (R w t) (qI .max [x,u]) (qI .max [y,v])) h h' λl h k l' h' j h1 h2 h3 h4=> .some (.mk (by
   rw [Gl]
   exact xP (Qh h1 h3) (Qh h2 h4)))
end
end
section
inductive xR where | sh(t:Ty) | oins(c:Nat)(ks:List Nat)(l:List Ty) | olst(l:List Ty)
inductive Slot where | un | o(t:xR) | accA(lo hi:Int) | accO
@[reducible] noncomputable def Cx:=List Slot
noncomputable def kJ(o:Option Slot):Option xR:=o.bind λs=>s.casesOn none some (λ_ _=>none) none
section
variable{β:Type}
noncomputable def qP(o:Option xR)(f:Ty->Option β):Option β:=o.bind λo=>o.casesOn f (λ_ _ _=>none) λ_=>none
noncomputable def X.asCall(e:X)(f:Nat->X->Option β):Option β:=e.casesOn (λ_=>none) (λ_ _=>none) (λ_=>none) (λ_ _ _=>none) (λ_=>none) (λ_=>none) (λ_=>none) (λ_ _=>none) (λ_ _=>none) (λ_ _ _=>none) (λ_ _ _=>none) (λ_ _=>none) (λ_ _=>none) (λ_ _ _=>none) (λ_=>none) (λ_=>none) none (λ_ _=>none) f (λ_ _=>none) (λ_ _=>none) (λ_ _ _=>none) (λ_ _ _ _=>none)
noncomputable def X.asCons(e:X)(f:X->X->Option β):Option β:=e.casesOn (λ_=>none) (λ_ _=>none) (λ_=>none) (λ_ _ _=>none) (λ_=>none) (λ_=>none) (λ_=>none) (λ_ _=>none) (λ_ _=>none) (λ_ _ _=>none) (λ_ _ _=>none) (λ_ _=>none) (λ_ _=>none) (λ_ _ _=>none) (λ_=>none) (λ_=>none) none f (λ_ _=>none) (λ_ _=>none) (λ_ _=>none) (λ_ _ _=>none) (λ_ _ _ _=>none)
noncomputable def X.asVar(e:X)(f:Nat->Option β):Option β:=e.casesOn (λ_=>none) (λ_ _=>none) f (λ_ _ _=>none) (λ_=>none) (λ_=>none) (λ_=>none) (λ_ _=>none) (λ_ _=>none) (λ_ _ _=>none) (λ_ _ _=>none) (λ_ _=>none) (λ_ _=>none) (λ_ _ _=>none) (λ_=>none) (λ_=>none) none (λ_ _=>none) (λ_ _=>none) (λ_ _=>none) (λ_ _=>none) (λ_ _ _=>none) (λ_ _ _ _=>none)
noncomputable def X.asIdx(e:X)(f:X->X->Option β):Option β:=e.casesOn (λ_=>none) (λ_ _=>none) (λ_=>none) (λ_ _ _=>none) (λ_=>none) (λ_=>none) (λ_=>none) (λ_ _=>none) (λ_ _=>none) (λ_ _ _=>none) (λ_ _ _=>none) (λ_ _=>none) f (λ_ _ _=>none) (λ_=>none) (λ_=>none) none (λ_ _=>none) (λ_ _=>none) (λ_ _=>none) (λ_ _=>none) (λ_ _ _=>none) (λ_ _ _ _=>none)
noncomputable def X.asAttr(e:X)(f:X->Nat->Option β):Option β:=e.casesOn (λ_=>none) (λ_ _=>none) (λ_=>none) (λ_ _ _=>none) (λ_=>none) (λ_=>none) (λ_=>none) (λ_ _=>none) (λ_ _=>none) (λ_ _ _=>none) (λ_ _ _=>none) f (λ_ _=>none) (λ_ _ _=>none) (λ_=>none) (λ_=>none) none (λ_ _=>none) (λ_ _=>none) (λ_ _=>none) (λ_ _=>none) (λ_ _ _=>none) (λ_ _ _ _=>none)
noncomputable def X.asG(e:X)(i:Int)(o:Option β):Option β:=e.casesOn (λ_=>none) (λ_ t=>t.casesOn none (λ_=>none) (λk=>if k=i then o else none) (λ_=>none) (λ_=>none) (λ_=>none) (λ_ _ _=>none) (λ_ _ _=>none)) (λ_=>none) (λ_ _ _=>none) (λ_=>none) (λ_=>none) (λ_=>none) (λ_ _=>none) (λ_ _=>none) (λ_ _ _=>none) (λ_ _ _=>none) (λ_ _=>none) (λ_ _=>none) (λ_ _ _=>none) (λ_=>none) (λ_=>none) none (λ_ _=>none) (λ_ _=>none) (λ_ _=>none) (λ_ _=>none) (λ_ _ _=>none) (λ_ _ _ _=>none)
end
section
variable(w:Bd)
noncomputable def RO:xR->O->O->Prop
 | .sh t,a,b=>RS w t a b
 | .oins c ks l,a,b=>∃xs ys,a= .ins c ks (xs.map .sh)/\b= .ins c ks (ys.map .sh)/\Rs w l xs ys
 | .olst l,a,b=>∃xs ys,a= .lst (xs.map .sh)/\b= .lst (ys.map .sh)/\Rs w l xs ys
noncomputable def EO(X Y:Option O)(o:xR):Prop:=P2 (RO w o) X Y
structure Bs where
 a:Nat->Int×Int
 o:Nat->(Nat->Bool)×(Nat->Bool)
noncomputable def zE(A:Int×Int)(Q:(Nat->Bool)×(Nat->Bool)):Slot->Option O->Option O->Prop
 | .un,_,_=>True
 | .o t,x,y=>P2 (RO w t) x y
 | .accA lo hi,x,y=>∃k,lo<=k/\k<=hi/\x=iT (A.1+k)/\y=iT (A.2+k)
 | .accO,x,y=>∃P:Nat->Bool,x=iT (bI w.n λs=>Q.1 s||P s)/\y=iT (bI w.n λs=>Q.2 s||P (w.sg s))
structure RC(B:Bs)(Γ:Cx)(ρ ρ':b6):Prop where
 l1:ρ.length=Γ.length
 l2:ρ'.length=Γ.length
 at_:∀i sl,nth Γ i=some sl->zE w (B.a i) (B.o i) sl (get ρ i) (get ρ' i)
noncomputable def qh(c:d5)(ct:Nat->List Ty->Option Ty):Prop:=∀g ts xs ys,Rs w ts xs ys->Ok (ct g ts) λt=>P2 (R w t) (c.call g xs) (c.call g ys)
end
section
variable{w:Bd}{β:Type}
theorem dQ{o:Option xR}{X Y:Option O}{f:Ty->Option β}{Q:Option O->Option O->β->Prop}(h:Ok o (EO w X Y))(k:∀t x y,R w t x y->Ok (f t) (Q (some (.sh x)) (some (.sh y)))):Ok (qP o f) (Q X Y):=
 h.bind λo ho=>by
  cases o<;>first | exact Ok.none | skip
  obtain ⟨_,_,rfl,rfl,x,y,rfl,rfl,hr⟩:=ho
  exact k _ x y hr
theorem m8{o o':Option xR}{X X' Y Y':Option O}{f:Ty->Ty->Option β}{Q:Option O->Option O->Option O->Option O->β->Prop}(h:Ok o (EO w X X'))(h':Ok o' (EO w Y Y'))(k:∀t t' x x' y y',R w t x x'->R w t' y y'->Ok (f t t') (Q (some (.sh x)) (some (.sh x')) (some (.sh y)) (some (.sh y')))):Ok (qP o λt=>qP o' (f t)) (Q X X' Y Y'):=
 dQ (Q:=λX X'=>Q X X' Y Y') h λt x x' hr=>dQ h' λt' y y' hr'=>k t t' x x' y y' hr hr'
end
section
variable(f r:Nat)(ct:Nat->List Ty->Option Ty)
noncomputable def IT(a b:X)(Γ:Cx):Option Ty:=
 a.asCall λh l=>b.asCall λh' l'=>l.asCons λg l=>l'.asCons λg' l'=>g.asVar λg=>g'.asVar λg'=>l.asCons λu l=>l'.asCons λu' l'=>u.asVar λu=>u'.asVar λu'=>l.asCons λv l=>l'.asCons λv' l'=>v.asG 0 (v'.asG 1
  (if g=g'/\u=u'/\h=h'/\isNil l=true/\isNil l'=true then qP (kJ (nth Γ g)) λtg=>tg.isK 5 (qP (kJ (nth Γ u)) λt=>t.asB (f*r) λ_=>(ct h [.c 5,.bb 0,.c 1]).bind λq=>q.asB (f*r) λ_=>some (.bb 0))else none))
where isNil (x:X):Bool:=match x with | .nil=>true | _=>false
noncomputable def MN(a b:X)(Γ:Cx):Option Ty:=
 a.asIdx λa i=>b.asIdx λb j=>a.asAttr λa k=>b.asAttr λb k'=>a.asVar λp=>b.asVar λp'=>i.asG 0 (j.asG 1 (if p=p'/\k=30/\k'=30 then qP (kJ (nth Γ p)) λt=>t.isK 6 (some (.bb 1))else none))
noncomputable def Qr(a b:X)(Γ:Cx)(op:n6)(oa ob:Option xR):Option Ty:=
 (if op= .or then (IT f r ct a b Γ).or (MN a b Γ)else none).or (qP oa λta=>qP ob λtb=>E0 f (f*r) ta tb op)
noncomputable def Je(o:Option xR)(k:Nat):Option Ty:=o.bind λo=>o.casesOn (λt=>IA f r t k) (λ_ ks l=>iw ks l k) λ_=>none
noncomputable def Qo(o i:Option xR):Option Ty:=qP i λti=>o.bind λo=>o.casesOn (λt=>Nt (f*r) t ti) (λ_ _ _=>none) λl=>ti.asI λlo hi=>w5 (f*r) l lo hi
noncomputable def MD(op:zF)(a b:Option xR):Option (Option Bool):=qP a λta=>qP b λtb=>Ny op ta tb
noncomputable def SA(a:Option xR):Option Ty:=qP a λt=>t.asI λl h=>some (.i (-h) (-l))
noncomputable def SE(a:Option xR):Option Ty:=qP a λt=>(t.isK 0 (some (.bb 0))).or (t.asB (f*r) λ_=>some (.c 0))
noncomputable def SC(v:Option (Option Bool))(a b:Option xR):Option Ty:=v.bind λv=>v.casesOn (qP a λta=>qP b λtb=>join (f*r) ta tb) λv=>v.casesOn (qP b some) (qP a some)
noncomputable def Up(a b:Option xR):Option Ty:=qP a λta=>qP b λtb=>ta.asBo λ_=>tb.asBo λ_=>some (.bo none)
noncomputable def SV(a b:Option (Option Bool)):Option (Option Bool):=a.bind λv=>v.casesOn (b.map λu=>u.bind λq=>q.casesOn (some false) none) λv=>v.casesOn (some (some false)) b
noncomputable def Ur(a b:Option (Option Bool)):Option (Option Bool):=a.bind λv=>v.casesOn (b.map λu=>u.bind λq=>q.casesOn none (some true)) λv=>v.casesOn b (some (some true))
mutual
noncomputable def tP:X->Cx->Option xR
 | .lit t,_=>some (.sh (TU t))
 | .glob _ t,_=>some (.sh (TU t))
 | .var i,Γ=>kJ (nth Γ i)
 | .bin op a b,Γ=>(Qr f r ct a b Γ op (tP a Γ) (tP b Γ)).map .sh
 | .neg a,Γ=>(SA (tP a Γ)).map .sh
 | .inv a,Γ=>(SE f r (tP a Γ)).map .sh
 | .cmp op a b,Γ=>(MD op (tP a Γ) (tP b Γ)).map λv=> .sh (.bo v)
 | .ite q a b,Γ=>(SC f r (tty q Γ) (tP a Γ) (tP b Γ)).map .sh
 | .orr a b,Γ=>(Up (tP a Γ) (tP b Γ)).map .sh
 | .attr a k,Γ=>(Je f r (tP a Γ) k).map .sh
 | .idx a i,Γ=>(Qo f r (tP a Γ) (tP i Γ)).map .sh
 | .list a,Γ=>(vO a Γ).map λl=> .sh (.lst l)
 | .tup a,Γ=>(vO a Γ).map λl=> .sh (.tup l)
 | .call g a,Γ=>((vO a Γ).bind (ct g)).map .sh
 | .bi b a,Γ=>((vO a Γ).bind (Qs b)).map .sh
 | _,_=>none
noncomputable def tty:X->Cx->Option (Option Bool)
 | .nott a,Γ=>(tty a Γ).map λv=>v.map (!·)
 | .andd a b,Γ=>SV (tty a Γ) (tty b Γ)
 | .orr a b,Γ=>Ur (tty a Γ) (tty b Γ)
 | .cmp op a b,Γ=>MD op (tP a Γ) (tP b Γ)
 | .var i,Γ=>qP (kJ (nth Γ i)) (jX (f*r))
 | .bin op a b,Γ=>(Qr f r ct a b Γ op (tP a Γ) (tP b Γ)).bind (jX (f*r))
 | .attr a k,Γ=>(Je f r (tP a Γ) k).bind (jX (f*r))
 | .idx a i,Γ=>(Qo f r (tP a Γ) (tP i Γ)).bind (jX (f*r))
 | .call g a,Γ=>((vO a Γ).bind (ct g)).bind (jX (f*r))
 | _,_=>none
noncomputable def vO:X->Cx->Option (List Ty)
 | .nil,_=>some []
 | .cons a b,Γ=>qP (tP a Γ) λt=>(vO b Γ).map (t:: ·)
 | _,_=>none
end
end
end
section
section
variable{β:Type}{e:X}{Q:X->β->Prop}
theorem px{g:Nat->X->Option β}(k:∀f a,Ok (g f a) (Q (.call f a))):Ok (e.asCall g) (Q e):=by
 cases e<;>first | exact Ok.none | exact k _ _
theorem eO{g:X->X->Option β}(k:∀a r,Ok (g a r) (Q (.cons a r))):Ok (e.asCons g) (Q e):=by
 cases e<;>first | exact Ok.none | exact k _ _
theorem fU{g:Nat->Option β}(k:∀i,Ok (g i) (Q (.var i))):Ok (e.asVar g) (Q e):=by
 cases e<;>first | exact Ok.none | exact k _
theorem zv{g:X->X->Option β}(k:∀a i,Ok (g a i) (Q (.idx a i))):Ok (e.asIdx g) (Q e):=by
 cases e<;>first | exact Ok.none | exact k _ _
theorem vF{g:X->Nat->Option β}(k:∀a k,Ok (g a k) (Q (.attr a k))):Ok (e.asAttr g) (Q e):=by
 cases e<;>first | exact Ok.none | exact k _ _
theorem xE{i:Int}{o:Option β}(k:∀s,Ok o (Q (.glob s (.int i)))):Ok (e.asG i o) (Q e):=by
 cases e<;>first | exact Ok.none | skip
 rename_i s t
 cases t<;>first | exact Ok.none | exact Ok.if1 λe=>e▸k s
end
section
variable{w:Bd}{c:d5}{ct:Nat->List Ty->Option Ty}{B:Bs}{Γ:Cx}{ρ ρ':b6}
theorem jY(hc:RC w B Γ ρ ρ')(i:Nat):Ok (kJ (nth Γ i)) (EO w (get ρ i) (get ρ' i)):=
 Ok.bind (P:=λs=>zE w (B.a i) (B.o i) s (get ρ i) (get ρ' i)) (λs e=>hc.at_ i s e) λs hs=>by
  cases s<;>first | exact Ok.none | exact .some hs
noncomputable def A5(w:Bd)(c:d5)(ρ ρ':b6)(a b:X)(t:Ty):Prop:=P2 (RS w t) (ev c (.bin .or a b) ρ) (ev c (.bin .or a b) ρ')
noncomputable def SR(G U:Option O)(i:Int):Option (List T):=(G.bind O.t?).bind λx=>((U.bind O.t?).bind λy=>(some [T.int i]).map (y:: ·)).map (x:: ·)
noncomputable def ml(c:d5)(h:Nat)(G U:Option O):Option O:=((((SR G U 0).bind λl=>mP (c.call h l)).bind O.t?).bind λx=>(((SR G U 1).bind λl=>mP (c.call h l)).bind O.t?).bind λy=>mP (bK .or x y))
theorem Dt{h:Nat}{x u:T}{p q:Int}(h0:c.call h [x,u,.int 0]=some (.int p))(h1:c.call h [x,u,.int 1]=some (.int q)):ml c h (some (.sh x)) (some (.sh u))=some (.sh (.int (av p q))):=by
 show ((((mP (c.call h [x,u,.int 0])).bind O.t?).bind λx'=>((mP (c.call h [x,u,.int 1])).bind O.t?).bind λy=>mP (bK .or x' y)))=_
 rw [h0,h1];rfl
theorem DD{β:Type}{t:Ty}{x y:T}{f:Nat->Option β}{u:β}(h:t.asB w.n f=some u)(hr:R w t x y):∃k P,x= .int (bI w.n P)/\y= .int (bI w.n λs=>P (w.sg s))/\f k=some u:=
 cS (Q:=λx y u=>∃k P,x= .int (bI w.n P)/\y= .int (bI w.n λs=>P (w.sg s))/\f k=some u) hr (λk P _ u e=>⟨k,P,rfl,rfl,e⟩) u h
theorem LN(hct:qh w c ct){h:Nat}{x y u v:T}{t:Ty}(hg:RK w 5 x y)(hu:R w t u v):Ok (t.asB w.n λ_=>(ct h [.c 5,.bb 0,.c 1]).bind λq=>q.asB w.n λ_=>some (.bb 0)) λt=>P2 (RS w t) (ml c h (some (.sh x)) (some (.sh u))) (ml c h (some (.sh y)) (some (.sh v))):=
 cS (Q:=λu v t=>P2 (RS w t) (ml c h (some (.sh x)) (some (.sh u))) (ml c h (some (.sh y)) (some (.sh v)))) hu λ_ P _=>λt e=>by
  obtain ⟨q,e1,e2⟩:=bind_some e
  have d:∀k:Nat,k<=1->P2 (R w q) (c.call h [x,.int (bI w.n P),.int (k:Nat)]) (c.call h [y,.int (bI w.n λs=>P (w.sg s)),.int (1 -(k:Nat):Int)]):=λk hk=>hct h _ _ _ (aM (t:= .c 5) hg (aM (QD (k:=0) (P:=P) trivial) (aM (t:= .c 1) ⟨k,hk,rfl,rfl⟩ dS))) q e1
  obtain ⟨a,b,c1,c2,c3⟩:=d 0 (aE 1)
  obtain ⟨a',b',c1',c2',c3'⟩:=d 1 (aA 1)
  obtain ⟨_,U,rfl,rfl,_⟩:=DD e2 c3
  obtain ⟨_,V,rfl,rfl,e3⟩:=DD e2 c3'
  cases e3
  rw [Dt c1 c1',Dt c2' c2,ec,ec]
  exact uz (mz (P:=λs=>U s||V s) trivial λs _=>Sd _ _)
theorem CI{x:X}(h:IT.isNil x=true):x= .nil:=by
 cases x<;>first | rfl | cases h
theorem F5(hct:qh w c ct)(hc:RC w B Γ ρ ρ'){a b:X}:Ok (IT w.f w.r ct a b Γ) (A5 w c ρ ρ' a b):=
 px (Q:=λa=>A5 w c ρ ρ' a b) λh l=>px (Q:=λb=>A5 w c ρ ρ' (.call h l) b) λh' l'=>eO (Q:=λl=>A5 w c ρ ρ' (.call h l) (.call h' l')) λg l=>eO (Q:=λl'=>A5 w c ρ ρ' (.call h (.cons g l)) (.call h' l')) λg' l'=>
 fU (Q:=λg=>A5 w c ρ ρ' (.call h (.cons g l)) (.call h' (.cons g' l'))) λg=>fU (Q:=λg'=>A5 w c ρ ρ' (.call h (.cons (.var g) l)) (.call h' (.cons g' l'))) λg'=>
 eO (Q:=λl=>A5 w c ρ ρ' (.call h (.cons (.var g) l)) (.call h' (.cons (.var g') l'))) λu l=>eO (Q:=λl'=>A5 w c ρ ρ' (.call h (.cons (.var g) (.cons u l))) (.call h' (.cons (.var g') l'))) λu' l'=>
 fU (Q:=λu=>A5 w c ρ ρ' (.call h (.cons (.var g) (.cons u l))) (.call h' (.cons (.var g') (.cons u' l')))) λu=>fU (Q:=λu'=>A5 w c ρ ρ' (.call h (.cons (.var g) (.cons (.var u) l))) (.call h' (.cons (.var g') (.cons u' l')))) λu'=>
 eO (Q:=λl=>A5 w c ρ ρ' (.call h (.cons (.var g) (.cons (.var u) l))) (.call h' (.cons (.var g') (.cons (.var u') l')))) λv l=>eO (Q:=λl'=>A5 w c ρ ρ' (.call h (.cons (.var g) (.cons (.var u) (.cons v l)))) (.call h' (.cons (.var g') (.cons (.var u') l')))) λv' l'=>
 xE (Q:=λv=>A5 w c ρ ρ' (.call h (.cons (.var g) (.cons (.var u) (.cons v l)))) (.call h' (.cons (.var g') (.cons (.var u') (.cons v' l'))))) λs=>xE (Q:=λv'=>A5 w c ρ ρ' (.call h (.cons (.var g) (.cons (.var u) (.cons (.glob s (.int 0)) l)))) (.call h' (.cons (.var g') (.cons (.var u') (.cons v' l'))))) λs'=>
 .if1 λ⟨e1,e2,e3,e4,e5⟩=>by
  subst e1 e2 e3
  obtain rfl:=CI e4
  obtain rfl:=CI e5
  exact dQ (Q:=λG G' t=>P2 (RS w t) (ml c h G (get ρ u)) (ml c h G' (get ρ' u))) (jY hc g) λt x y hr=>gI (Q:=λx y t=>P2 (RS w t) (ml c h (some (.sh x)) (get ρ u)) (ml c h (some (.sh y)) (get ρ' u))) hr λhg=>
   dQ (Q:=λU U' t=>P2 (RS w t) (ml c h (some (.sh x)) U) (ml c h (some (.sh y)) U')) (jY hc u) λt u v hr=>LN hct hg hr
noncomputable def m7(G:Option O):Option O:=((((G.bind (bV 30)).bind λo=>((some (O.sh (.int 0))).bind O.int?).bind λn=>b4 n o).bind O.t?).bind λx=>(((G.bind (bV 30)).bind λo=>((some (O.sh (.int 1))).bind O.int?).bind λn=>b4 n o).bind O.t?).bind λy=>mP (bK .or x y))
theorem F8(hw:w.Ok){p q:Int}:P2 (RS w (.bb 1)) (m7 (some (.sh (w.posT p)))) (m7 (some (.sh (w.turn.posT q)))):=by
 have e:∀(v:Bd) (p:Int),m7 (some (.sh (v.posT p)))=some (.sh (.int (av (bI v.n (v.sideP 0)) (bI v.n (v.sideP 1))))):=λ_ _=>rfl
 rw [e,e,ec,ec]
 refine uz (mz (k:=1) (P:=λs=>w.sideP 0 s||w.sideP 1 s) (λs hs hp=>(S6 hp).elim kQ kQ) λs hs=> ?_)
 rw [ji hw (aE 1) hs,ji hw (aA 1) hs,Sd]
theorem F4(hw:w.Ok)(hc:RC w B Γ ρ ρ'){a b:X}:Ok (MN a b Γ) (A5 w c ρ ρ' a b):=
 zv (Q:=λa=>A5 w c ρ ρ' a b) λa i=>zv (Q:=λb=>A5 w c ρ ρ' (.idx a i) b) λb j=>vF (Q:=λa=>A5 w c ρ ρ' (.idx a i) (.idx b j)) λa k=>vF (Q:=λb=>A5 w c ρ ρ' (.idx (.attr a k) i) (.idx b j)) λb k'=>
 fU (Q:=λa=>A5 w c ρ ρ' (.idx (.attr a k) i) (.idx (.attr b k') j)) λp=>fU (Q:=λb=>A5 w c ρ ρ' (.idx (.attr (.var p) k) i) (.idx (.attr b k') j)) λp'=>
 xE (Q:=λi=>A5 w c ρ ρ' (.idx (.attr (.var p) k) i) (.idx (.attr (.var p') k') j)) λs=>xE (Q:=λj=>A5 w c ρ ρ' (.idx (.attr (.var p) k) (.glob s (.int 0))) (.idx (.attr (.var p') k') j)) λs'=>
 .if1 λ⟨e1,e2,e3⟩=>by
  subst e1 e2 e3
  exact dQ (Q:=λG G' t=>P2 (RS w t) (m7 G) (m7 G')) (jY hc p) λt x y hr=>gI (k:=6) (Q:=λx y t=>P2 (RS w t) (m7 (some (.sh x))) (m7 (some (.sh y)))) hr λ⟨p,q,e,e'⟩=>e▸e'▸.some (F8 hw)
variable{a b:Option xR}{X X' Y Y':Option O}
noncomputable def MF(op:n6)(X Y:Option O):Option O:=(X.bind O.t?).bind λx=>(Y.bind O.t?).bind λy=>mP (bK op x y)
theorem RQ(hw:w.Ok){op:n6}(ha:Ok a (EO w X X'))(hb:Ok b (EO w Y Y')):Ok (qP a λta=>qP b λtb=>E0 w.f (w.f*w.r) ta tb op) λt=>P2 (RS w t) (MF op X Y) (MF op X' Y'):=
 m8 (Q:=λX X' Y Y' t=>P2 (RS w t) (MF op X Y) (MF op X' Y')) ha hb λt t' x x' y y' h h'=>(Dv hw h h' op).mono λt ht=>ht.sh
theorem Iz(hw:w.Ok){k:Nat}(ha:Ok a (EO w X X')):Ok (Je w.f w.r a k) λt=>P2 (RS w t) (X.bind (bV k)) (X'.bind (bV k)):=
 ha.bind λo ho=>by
  cases o with
  | sh t=>obtain ⟨_,_,rfl,rfl,x,y,rfl,rfl,hr⟩:=ho;exact Hy hw k hr
  | oins c ks l=>
   obtain ⟨_,_,rfl,rfl,xs,ys,rfl,rfl,hr⟩:=ho
   exact (BE k hr).mono λt ht=>by
    show P2 _ (iw ks (xs.map O.sh) k) (iw ks (ys.map O.sh) k)
    rw [fld_map,fld_map];exact ht.sh
  | olst l=>exact Ok.none
where fld_map {k:Nat}:∀(ks:List Nat) (l:List T),iw ks (l.map O.sh) k=(iw ks l k).map .sh
 |[],_=>rfl
 | _::_,[]=>rfl
 | j::ks,a::l=>by
  rw [zD]
  by_cases e:j=k
  ·rw [oN e,oN e];rfl
  ·rw [kY e,kY e];exact fld_map ks l
theorem OE{l:List Ty}{xs ys:List T}{lo hi k:Int}(hr:Rs w l xs ys)(h1:lo<=k)(h2:k<=hi):Ok (w5 w.n l lo hi) λt=>P2 (RS w t) ((cr k (xs.map O.sh).length).bind (nth (xs.map O.sh))) ((cr k (ys.map O.sh).length).bind (nth (ys.map O.sh))):=by
 have e:∀xs:List T,(cr k (xs.map O.sh).length).bind (nth (xs.map O.sh))=((cr k xs.length).bind (nth xs)).map .sh:=λxs=>by
  rw [aq]
  cases cr k xs.length
  ·rfl
  ·exact wx ..
 rw [e,e];exact xm hr h1 h2
theorem Nr(hw:w.Ok)(ha:Ok a (EO w X X'))(hb:Ok b (EO w Y Y')):Ok (Qo w.f w.r a b) λt=>P2 (RS w t) (By X Y) (By X' Y'):=
 dQ (Q:=λY Y' t=>P2 (RS w t) (By X Y) (By X' Y')) hb λti u v hi=>ha.bind λo ho=>by
  cases o with
  | sh t=>obtain ⟨_,_,rfl,rfl,x,y,rfl,rfl,hr⟩:=ho;exact K2 hw hr hi
  | oins c ks l=>exact Ok.none
  | olst l=>
   obtain ⟨_,_,rfl,rfl,xs,ys,rfl,rfl,hr⟩:=ho
   exact cW (Q:=λu v t=>P2 (RS w t) (By (some (.lst (xs.map .sh))) (some (.sh u))) (By (some (.lst (ys.map .sh))) (some (.sh v)))) hi λlo hi k h1 h2=>OE hr h1 h2
noncomputable def ME(op:zF)(X Y:Option O):Option Bool:=(X.bind O.t?).bind λx=>(Y.bind O.t?).bind λy=>gP op x y
noncomputable def MC(op:zF)(X Y:Option O):Option O:=(X.bind O.t?).bind λx=>(Y.bind O.t?).bind λy=>(gP op x y).map λq=> .sh (.bool q)
theorem RI{op:zF}(ha:Ok a (EO w X X'))(hb:Ok b (EO w Y Y')):Ok (MD op a b) (TB (ME op X Y) (ME op X' Y')):=
 m8 (Q:=λX X' Y Y'=>TB (ME op X Y) (ME op X' Y')) ha hb λt t' x x' y y' h h'=>Dq op h h'
theorem RM{o o':Option Bool}{v:Option Bool}(h:TB o o' v):P2 (RS w (.bo v)) (o.map λq=> .sh (.bool q)) (o'.map λq=> .sh (.bool q)):=by
 obtain ⟨b,rfl,rfl,h⟩:=h;exact uz ⟨b,rfl,rfl,h⟩
theorem RH{op:zF}(ha:Ok a (EO w X X'))(hb:Ok b (EO w Y Y')):Ok (MD op a b) λv=>P2 (RS w (.bo v)) (MC op X Y) (MC op X' Y'):=
 m8 (Q:=λX X' Y Y' v=>P2 (RS w (.bo v)) (MC op X Y) (MC op X' Y')) ha hb λt t' x x' y y' h h'=>(Dq op h h').mono λv h=>RM h
noncomputable def Fz(X:Option O):Option O:=(X.bind O.t?).bind λx=>match x with | .int i=>some (.sh (.int (-i))) | _=>ae
noncomputable def Bx(X:Option O):Option O:=(X.bind O.t?).bind λx=>match x with | .int i=>some (.sh (.int (-i - 1))) | _=>ae
theorem Q'(ha:Ok a (EO w X X')):Ok (SA a) λt=>P2 (RS w t) (Fz X) (Fz X'):=
 dQ (Q:=λX X' t=>P2 (RS w t) (Fz X) (Fz X')) ha λt x y hr=>cW (Q:=λx y t=>P2 (RS w t) (Fz (some (.sh x))) (Fz (some (.sh y)))) hr λl h k h1 h2=> .some (uz (xP (eS h2) (eS h1)))
theorem Np(n:Nat)(P:Nat->Bool): -(nI n P) - 1=bI n P:=by unfold nI;omega
theorem Rt(ha:Ok a (EO w X X')):Ok (SE w.f w.r a) λt=>P2 (RS w t) (Bx X) (Bx X'):=
 dQ (Q:=λX X' t=>P2 (RS w t) (Bx X) (Bx X')) ha λt x y hr=> .alt (gC (Q:=λx y t=>P2 (RS w t) (Bx (some (.sh x))) (Bx (some (.sh y)))) hr λP=> .some (uz ⟨P,congrArg T.int (Np _ _),congrArg T.int (Np _ _),trivial⟩))
  (cS (Q:=λx y t=>P2 (RS w t) (Bx (some (.sh x))) (Bx (some (.sh y)))) hr λ_ P _=> .some (uz (UJ (P:=P))))
noncomputable def MQ(X:Option O):Option O:=X.bind λo=>mP o.t?
theorem Sk(ha:Ok a (EO w X X')):Ok (qP a some) λt=>P2 (RS w t) (MQ X) (MQ X'):=dQ (Q:=λX X' t=>P2 (RS w t) (MQ X) (MQ X')) ha λt x y hr=> .some (uz hr)
theorem Rp{v:Option (Option Bool)}{q q':Option Bool}(hv:Ok v (TB q q'))(ha:Ok a (EO w X X'))(hb:Ok b (EO w Y Y')):Ok (SC w.f w.r v a b) λt=>P2 (RS w t) (q.bind λv=>if v then MQ X else MQ Y) (q'.bind λv=>if v then MQ X' else MQ Y'):=
 hv.bind λv hv=>by
  obtain ⟨z,rfl,rfl,h⟩:=hv
  cases v with
  | some v=>cases h _ rfl;cases z<;>first | exact Sk ha | exact Sk hb
  | none=>
   refine m8 (Q:=λX X' Y Y' t=>P2 (RS w t) (if z then MQ X else MQ Y) (if z then MQ X' else MQ Y')) ha hb λt t' x x' y y' k k'=> ?_
   cases z
   ·exact (pB t t' _ _ k').mono λt h=>uz h
   ·exact (pC t t' _ _ k).mono λt h=>uz h
noncomputable def QI(X Y:Option O):Option O:=(X.bind O.t?).bind λx=>(bx x).bind λq=>if q then some (.sh x)else Y.bind λo=>mP o.t?
theorem Tz(ha:Ok a (EO w X X'))(hb:Ok b (EO w Y Y')):Ok (Up a b) λt=>P2 (RS w t) (QI X Y) (QI X' Y'):=
 m8 (Q:=λX X' Y Y' t=>P2 (RS w t) (QI X Y) (QI X' Y')) ha hb λt t' x x' y y' h h'=>j6 (Q:=λx x' t=>P2 (RS w t) (QI (some (.sh x)) (some (.sh y))) (QI (some (.sh x')) (some (.sh y')))) h λ_ p _=>j6 (Q:=λy y' t=>P2 (RS w t) (QI (some (.sh (.bool p))) (some (.sh y))) (QI (some (.sh (.bool p))) (some (.sh y')))) h' λ_ q _=> .some (by
  cases p
  ·exact uz ⟨q,rfl,rfl,λ_ h=>no h⟩
  ·exact uz ⟨true,rfl,rfl,λ_ h=>no h⟩)
noncomputable def S4(X:Option O):Option Bool:=(X.bind O.t?).bind bx
theorem Mp(hw:w.Ok){o:Option Ty}(h:Ok o λt=>P2 (RS w t) X X'):Ok (o.bind (jX w.n)) (TB (S4 X) (S4 X')):=
 h.bind λt ht=>by
  obtain ⟨_,_,rfl,rfl,x,y,rfl,rfl,hr⟩:=ht;exact uG hw hr
variable{u v:Option (Option Bool)}{p p' q q':Option Bool}
theorem Q_(h:Ok u (TB p p')):Ok (u.map λv=>v.map (!·)) (TB (p.map (!·)) (p'.map (!·))):=
 .map (h.mono λv hv=>by
  obtain ⟨z,rfl,rfl,k⟩:=hv
  exact ⟨!z,rfl,rfl,Ok.map (Ok.mono (P:=λc=>z=c) k λc e=>by rw [e])⟩)
theorem RW(h:Ok u (TB p p'))(k:Ok v (TB q q')):Ok (SV u v) (TB (p.bind λz=>if z then q else some false) (p'.bind λz=>if z then q' else some false)):=
 h.bind λu hu=>by
  obtain ⟨z,rfl,rfl,h⟩:=hu
  cases u with
  | some u=>cases h _ rfl;cases z<;>first | exact .some ⟨false,rfl,rfl,λc h=>ah.inj h⟩ | exact k
  | none=>
   refine .map (k.mono λv hv=> ?_)
   cases z
   ·exact ⟨false,rfl,rfl,λc e=>by cases v<;>first | exact no e |(rename_i b;cases b<;>first | exact no e | exact ah.inj e)⟩
   ·obtain ⟨y,rfl,rfl,h⟩:=hv
    exact ⟨y,rfl,rfl,λc e=>h c (by cases v<;>first | exact no e |(rename_i b;cases b<;>first | exact no e | exact e))⟩
theorem TA(h:Ok u (TB p p'))(k:Ok v (TB q q')):Ok (Ur u v) (TB (p.bind λz=>if z then some true else q) (p'.bind λz=>if z then some true else q')):=
 h.bind λu hu=>by
  obtain ⟨z,rfl,rfl,h⟩:=hu
  cases u with
  | some u=>cases h _ rfl;cases z<;>first | exact .some ⟨true,rfl,rfl,λc h=>ah.inj h⟩ | exact k
  | none=>
   refine .map (k.mono λv hv=> ?_)
   cases z
   ·obtain ⟨y,rfl,rfl,h⟩:=hv
    exact ⟨y,rfl,rfl,λc e=>h c (by cases v<;>first | exact no e |(rename_i b;cases b<;>first | exact no e | exact e))⟩
   ·exact ⟨true,rfl,rfl,λc e=>by cases v<;>first | exact no e |(rename_i b;cases b<;>first | exact no e | exact ah.inj e)⟩
theorem Pw(hct:qh w c ct){g:Nat}{o:Option (List Ty)}{L L':Option (List T)}(h:Ok o λts=>P2 (Rs w ts) L L'):Ok (o.bind (ct g)) λt=>P2 (R w t) (L.bind (c.call g)) (L'.bind (c.call g)):=
 h.bind λts hts=>by obtain ⟨xs,ys,rfl,rfl,hr⟩:=hts;exact hct g ts xs ys hr
theorem rg{L:Option (List T)}{f:List T->Option T}:(L.bind f).map O.sh=L.bind λl=>mP (f l):=by cases L<;>rfl
theorem zI{o:Option Ty}(h:Ok o λt=>P2 (RS w t) X X'):Ok (o.map .sh) (EO w X X'):= .map h
structure I3(w:Bd)(ct:Nat->List Ty->Option Ty)(c:d5)(Γ:Cx)(ρ ρ':b6)(e:TI.X):Prop where
 o:Ok (tP w.f w.r ct e Γ) (EO w (ev c e ρ) (ev c e ρ'))
 t:Ok (tty w.f w.r ct e Γ) (TB (tst c e ρ) (tst c e ρ'))
 l:Ok (vO w.f w.r ct e Γ) λts=>P2 (Rs w ts) (o7 c e ρ) (o7 c e ρ')
theorem NC(hw:w.Ok)(hct:qh w c ct)(hc:RC w B Γ ρ ρ'){op:n6}{e e':TI.X}(ha:I3 w ct c Γ ρ ρ' e)(hb:I3 w ct c Γ ρ ρ' e'):Ok (Qr w.f w.r ct e e' Γ op (tP w.f w.r ct e Γ) (tP w.f w.r ct e' Γ)) λt=>P2 (RS w t) (ev c (.bin op e e') ρ) (ev c (.bin op e e') ρ'):=
 .alt (.if1 λe=>e▸.alt (F5 hct hc) (F4 hw hc)) (RQ hw ha.o hb.o)
theorem B9{op:n6}{e e':TI.X}{ρ:b6}:S4 (ev c (.bin op e e') ρ)=tst c (.bin op e e') ρ:=by
 show (((((ev c e ρ).bind O.t?).bind λx=>((ev c e' ρ).bind O.t?).bind λy=>mP (bK op x y)).bind O.t?).bind bx)=((((ev c e ρ).bind O.t?).bind λx=>((ev c e' ρ).bind O.t?).bind λy=>bK op x y).bind bx)
 cases (ev c e ρ).bind O.t? with
 | none=>rfl
 | some x=>cases (ev c e' ρ).bind O.t? with
  | none=>rfl
  | some y=>
   show ((mP (bK op x y)).bind O.t?).bind bx=(bK op x y).bind bx
   cases bK op x y<;>rfl
theorem Ix(hct:qh w c ct){g:Nat}{e:TI.X}(ha:I3 w ct c Γ ρ ρ' e):Ok ((vO w.f w.r ct e Γ).bind (ct g)) λt=>P2 (RS w t) (ev c (.call g e) ρ) (ev c (.call g e) ρ'):=
 (Pw hct ha.l).mono λt ht=>by
  have:=ht.sh
  rw [rg,rg]at this;exact this
theorem yr{g:Nat}{e:TI.X}{ρ:b6}:S4 (ev c (.call g e) ρ)=tst c (.call g e) ρ:=by
 show ((((o7 c e ρ).bind λl=>mP (c.call g l)).bind O.t?).bind bx)=((o7 c e ρ).bind (c.call g)).bind bx
 cases o7 c e ρ with
 | none=>rfl
 | some l=>
  show ((mP (c.call g l)).bind O.t?).bind bx=(c.call g l).bind bx
  cases c.call g l<;>rfl
theorem TK{b:BI}{e:TI.X}(ha:I3 w ct c Γ ρ ρ' e):Ok ((vO w.f w.r ct e Γ).bind (Qs b)) λt=>P2 (RS w t) (ev c (.bi b e) ρ) (ev c (.bi b e) ρ'):=
 (ha.l.bind (R:=λt=>P2 (R w t) ((o7 c e ρ).bind (qI b)) ((o7 c e ρ').bind (qI b))) λts hts=>by
  obtain ⟨xs,ys,e1,e2,hr⟩:=hts
  rw [e1,e2];exact PC hr).mono λt ht=>by
  have:=ht.sh
  rw [rg,rg]at this;exact this
theorem Pr{e e':TI.X}(ha:I3 w ct c Γ ρ ρ' e)(hb:I3 w ct c Γ ρ ρ' e'):Ok (vO w.f w.r ct (.cons e e') Γ) λts=>P2 (Rs w ts) (o7 c (.cons e e') ρ) (o7 c (.cons e e') ρ'):=
 dQ (Q:=λX X' ts=>P2 (Rs w ts) ((X.bind O.t?).bind λx=>(o7 c e' ρ).map (x:: ·)) ((X'.bind O.t?).bind λx=>(o7 c e' ρ').map (x:: ·))) ha.o λt x y hr=> .map (hb.l.mono λts hts=>hts.map λxs ys h=>aM hr h)
theorem eR(hw:w.Ok)(hct:qh w c ct)(hc:RC w B Γ ρ ρ')(e:TI.X):I3 w ct c Γ ρ ρ' e:=by
 induction e with
 | lit t=>exact ⟨.some (uz (Bn t)),.none,.none⟩
 | glob _ t=>exact ⟨.some (uz (Bn t)),.none,.none⟩
 | var i=>exact ⟨jY hc i,dQ (Q:=λX X'=>TB (S4 X) (S4 X')) (jY hc i) λt x y hr=>uG hw hr,.none⟩
 | bin op a b ha hb=>exact ⟨zI (NC hw hct hc ha hb),B9▸B9▸Mp hw (NC hw hct hc ha hb),.none⟩
 | neg a ha=>exact ⟨zI (Q' ha.o),.none,.none⟩
 | inv a ha=>exact ⟨zI (Rt ha.o),.none,.none⟩
 | nott a ha=>exact ⟨.none,Q_ ha.t,.none⟩
 | andd a b ha hb=>exact ⟨.none,RW ha.t hb.t,.none⟩
 | orr a b ha hb=>exact ⟨zI (Tz ha.o hb.o),TA ha.t hb.t,.none⟩
 | cmp op a b ha hb=>exact ⟨.map (RH ha.o hb.o),RI ha.o hb.o,.none⟩
 | ite q a b hq ha hb=>exact ⟨zI (Rp hq.t ha.o hb.o),.none,.none⟩
 | attr a k ha=>exact ⟨zI (Iz hw ha.o),Mp hw (Iz hw ha.o),.none⟩
 | idx a i ha hi=>exact ⟨zI (Nr hw ha.o hi.o),Mp hw (Nr hw ha.o hi.o),.none⟩
 | list a ha=>exact ⟨.map (ha.l.mono λts hts=>hts.map λxs ys h=>⟨_,_,rfl,rfl,xs,ys,rfl,rfl,h⟩),.none,.none⟩
 | tup a ha=>exact ⟨.map (ha.l.mono λts hts=>hts.map λxs ys h=>⟨_,_,rfl,rfl,xs,ys,rfl,rfl,h⟩),.none,.none⟩
 | nil=>exact ⟨.none,.none,.some (.mk dS)⟩
 | cons a b ha hb=>exact ⟨.none,.none,Pr ha hb⟩
 | call g a ha=>exact ⟨zI (Ix hct ha),yr▸yr▸Mp hw (Ix hct ha),.none⟩
 | bi b a ha=>exact ⟨zI (TK ha),.none,.none⟩
 | _=>exact ⟨.none,.none,.none⟩
end
end
section
theorem kW{α:Type}:∀(l:List α) (i:Nat) (x:α),(dp l i x).length=l.length
 |[],_,_=>rfl
 | _::_,0,_=>rfl
 | _::l,i+1,x=>congrArg (· +1) (kW l i x)
theorem r9{α:Type}:∀{l:List α} {i:Nat} {x:α},i<l.length->nth (dp l i x) i=some x
 | _::_,0,_,_=>rfl
 | _::l,i+1,_,h=>r9 (l:=l) (bh h)
theorem r8{α:Type}{x:α}:∀{l:List α} {i j:Nat},¬i=j->nth (dp l i x) j=nth l j
 |[],_,_,_=>rfl
 | _::_,0,0,h=>absurd rfl h
 | _::_,0,_+1,_=>rfl
 | _::_,_+1,0,_=>rfl
 | _::l,i+1,j+1,h=>r8 (l:=l) λe=>h (congrArg _ e)
theorem Cf{α:Type}{x:α}:∀{l:List α} {i:Nat},¬i<l.length->dp l i x=l
 |[],_,_=>rfl
 | _::_,0,h=>absurd (eY _) h
 | a::l,i+1,h=>congrArg (a:: ·) (Cf (l:=l) λk=>h (eW k))
theorem s8{α:Type}(l:List α)(i j:Nat)(x:α):nth (dp l i x) j=if i=j/\i<l.length then some x else nth l j:=by
 by_cases h:i=j
 ·subst h
  by_cases k:i<l.length
  ·rw [if_pos ⟨rfl,k⟩];exact r9 k
  ·rw [if_neg λh=>k h.2,Cf k]
 ·rw [if_neg λk=>h k.1];exact r8 h
theorem tj(ρ:b6)(i j:Nat)(o:O):get (fO ρ i o) j=if i=j/\i<ρ.length then some o else get ρ j:=by
 unfold get fO
 rw [s8];split<;>rfl
theorem wy{α:Type}:∀{l:List α} {i:Nat} {x:α},nth l i=some x->i<l.length
 | _::_,0,_,_=>eY _
 | _::l,i+1,x,h=>eW (wy (l:=l) h)
theorem Ok.thru{α β γ δ ε:Type}{P:α->β->Prop}{X:Option α}{Y:Option β}{o:Option ε}{Q:ε->γ->δ->Prop}{F:α->Option γ}{G:β->Option δ}(h:P2 P X Y)(k:∀a b,P a b->Ok o λt=>P2 (Q t) (F a) (G b)):Ok o λt=>P2 (Q t) (X.bind F) (Y.bind G):=by
 obtain ⟨a,b,rfl,rfl,h⟩:=h;exact k a b h
section
variable{w:Bd}{B:Bs}{Γ:Cx}{ρ ρ':b6}
theorem RC.set(h:RC w B Γ ρ ρ'){i:Nat}{s:Slot}{a b:O}(hs:zE w (B.a i) (B.o i) s (some a) (some b)):RC w B (dp Γ i s) (fO ρ i a) (fO ρ' i b):=
 ⟨(kW ..).trans (h.l1.trans (kW ..).symm),(kW ..).trans (h.l2.trans (kW ..).symm),λj sl hj=>by
  rw [s8]at hj
  rw [tj,tj,h.l1,h.l2]
  by_cases e:i=j/\i<Γ.length
  ·rw [if_pos e]at hj⊢
   rw [if_pos e]
   exact e.1▸ah.inj hj▸hs
  ·rw [if_neg e]at hj⊢
   rw [if_neg e];exact h.at_ j sl hj⟩
theorem RC.setO(h:RC w B Γ ρ ρ'){i:Nat}{t:xR}{x y:O}(hr:RO w t x y):RC w B (dp Γ i (.o t)) (fO ρ i x) (fO ρ' i y):=h.set (.mk hr)
theorem RC.setT(h:RC w B Γ ρ ρ'){i:Nat}{t:Ty}{x y:T}(hr:R w t x y):RC w B (dp Γ i (.o (.sh t))) (fO ρ i (.sh x)) (fO ρ' i (.sh y)):=h.setO ⟨x,y,rfl,rfl,hr⟩
end
noncomputable def zM(is:List Nat)(xs:List T)(ρ:b6):b6:=(is.zip xs).foldl (λr p=>fO r p.1 (.sh p.2)) ρ
noncomputable def Mq(is:List Nat)(l:List Ty)(Γ:Cx):Cx:=(is.zip l).foldl (λg p=>dp g p.1 (.o (.sh p.2))) Γ
noncomputable def bindC(tg:List Nat)(t:Ty)(Γ:Cx):Option Cx:=(oneOf tg).elim (t.asT λl=>if tg.length=l.length then some (Mq tg l Γ)else none) λi=>some (dp Γ i (.o (.sh t)))
where oneOf:List Nat->Option Nat
 |[i]=>some i
 | _=>none
theorem oj{i y:Nat}{ρ:b6}{o:O}(h:i∉[y]):get (fO ρ y o) i=get ρ i:=(tj ρ y i o).trans (if_neg λe:y=i/\y<ρ.length=>h (e.1▸aN.mpr rfl))
section
variable{w:Bd}{B:Bs}{Γ Γ':Cx}{ρ ρ':b6}
theorem HG:∀{is:List Nat} {l:List Ty} {xs ys:List T} {Γ:Cx} {ρ ρ':b6},Rs w l xs ys->RC w B Γ ρ ρ'->RC w B (Mq is l Γ) (zM is xs ρ) (zM is ys ρ')
 |[],_,_,_,_,_,_,_,h=>h
 | i::is,[],_,_,Γ,ρ,ρ',hr,h=>E_ (Q:=λxs ys=>RC w B Γ (zM (i::is) xs ρ) (zM (i::is) ys ρ')) hr h
 | i::is,t::l,_,_,Γ,ρ,ρ',hr,h=>qN (Q:=λxs ys=>RC w B (Mq (i::is) (t::l) Γ) (zM (i::is) xs ρ) (zM (i::is) ys ρ')) hr λx y xs ys h1 h2=>HG (is:=is) h2 (h.setT h1)
theorem tA{tg:List Nat}{t:Ty}{x y:T}(hr:R w t x y)(hc:RC w B Γ ρ ρ'):Ok (bindC tg t Γ) λΓ'=>P2 (RC w B Γ') (dz tg x ρ) (dz tg y ρ'):=by
 have many:∀tg,(∀(l:List T) ρ,tg.length=l.length->dz tg (.tup l) ρ=some (zM tg l ρ))->Ok (t.asT λl=>if tg.length=l.length then some (Mq tg l Γ)else none) λΓ'=>P2 (RC w B Γ') (dz tg x ρ) (dz tg y ρ'):=λtg h=>
  tX (Q:=λx y Γ'=>P2 (RC w B Γ') (dz tg x ρ) (dz tg y ρ')) hr λl xs ys hs=> .if1 λe=> .some (by
   rw [h _ _ (e.trans (g8 hs).1.symm),h _ _ (e.trans (g8 hs).2.symm)]
   exact .mk (HG hs hc))
 match tg with
 |[]=>exact many [] λl ρ e=>if_pos e
 |[i]=>exact .some (.mk (hc.setT hr))
 | i::j::is=>exact many _ λl ρ e=>if_pos e
theorem yF(j:Nat):∀(is:List Nat) (l:List T) (ρ:b6),j∉is->get (zM is l ρ) j=get ρ j
 |[],_,_,_=>rfl
 | _::_,[],_,_=>rfl
 | i::is,x::l,ρ,h=>(yF j is l (fO ρ i (.sh x)) λk=>h (ao _ k)).trans (oj λk=>h (aN.mp k▸ak))
theorem p8(j:Nat)(t:T)(ρ:b6)(tg:List Nat)(hj:j∉tg):Ok (dz tg t ρ) λρ1=>get ρ1 j=get ρ j:=by
 have many:∀(tg:List Nat) l,j∉tg->Ok (if tg.length=l.length then some (zM tg l ρ)else none) λρ1=>get ρ1 j=get ρ j:=λtg l hj=> .if1 λe=> .some (yF j tg l ρ hj)
 match tg,hj with
 |[i],hj=>exact .some (oj hj)
 |[],hj=>cases t<;>first | exact many _ _ hj | exact λ_ h=>no h
 | i::k::is,hj=>cases t<;>first | exact many _ _ hj | exact λ_ h=>no h
end
section
variable(n:Nat)
noncomputable def I9(a b:xR):Option xR:=
 a.casesOn (λa=>b.casesOn (λb=>(join n a b).map .sh) (λ_ _ _=>none) λ_=>none)
  (λc ks l=>b.casesOn (λ_=>none) (λd js m=>if c=d/\ks=js then (nT n l m).map (.oins c ks)else none) λ_=>none)
  λl=>b.casesOn (λ_=>none) (λ_ _ _=>none) λm=>(nT n l m).map .olst
noncomputable def EU(a b:Slot):Slot:=
 a.casesOn .un (λa=>b.casesOn .un (λb=>(I9 n a b).elim .un .o) (λ_ _=> .un) .un) (λl h=>b.casesOn .un (λ_=> .un) (λl' h'=> .accA (min l l') (max h h')) .un) (b.casesOn .un (λ_=> .un) (λ_ _=> .un) .accO)
noncomputable def xw:Cx->Cx->Cx
 | a::r,q=>q.casesOn [] λb q=>EU n a b::xw r q
 |[],_=>[]
noncomputable def z9(a b:Cx):Option Cx:=if a.length=b.length then some (xw n a b)else none
end
section
variable{w:Bd}{B:Bs}{Γ Γ':Cx}{ρ ρ':b6}
theorem KY{a b:xR}{x y:O}(h:RO w a x y):Ok (I9 w.n a b) λt=>RO w t x y:=by
 cases a<;>cases b<;>first | exact Ok.none | skip
 ·obtain ⟨x,y,rfl,rfl,h⟩:=h;exact .map ((pC _ _ x y h).mono λt h=>⟨x,y,rfl,rfl,h⟩)
 ·obtain ⟨x,y,rfl,rfl,h⟩:=h;exact .if1 λe=> .map ((qw _ _ x y h).mono λt h=>⟨x,y,rfl,rfl,h⟩)
 ·obtain ⟨x,y,rfl,rfl,h⟩:=h;exact .map ((qw _ _ x y h).mono λt h=>⟨x,y,rfl,rfl,h⟩)
theorem KX{a b:xR}{x y:O}(h:RO w b x y):Ok (I9 w.n a b) λt=>RO w t x y:=by
 cases a<;>cases b<;>first | exact Ok.none | skip
 ·obtain ⟨x,y,rfl,rfl,h⟩:=h;exact .map ((pB _ _ x y h).mono λt h=>⟨x,y,rfl,rfl,h⟩)
 ·obtain ⟨x,y,rfl,rfl,h⟩:=h;exact .if1 λe=> .map ((qv _ _ x y h).mono λt h=>⟨x,y,by rw [e.1,e.2],by rw [e.1,e.2],h⟩)
 ·obtain ⟨x,y,rfl,rfl,h⟩:=h;exact .map ((qv _ _ x y h).mono λt h=>⟨x,y,rfl,rfl,h⟩)
variable{a b:Slot}{A:Int×Int}{Q:(Nat->Bool)×(Nat->Bool)}{x y:Option O}
theorem Dh{o:Option xR}(h:Ok o λt=>P2 (RO w t) x y):zE w A Q (o.elim .un .o) x y:=by
 cases o
 ·trivial
 ·exact h _ rfl
theorem KW(h:zE w A Q a x y):zE w A Q (EU w.n a b) x y:=by
 cases a<;>cases b<;>first | trivial | exact h | skip
 ·obtain ⟨p,q,rfl,rfl,h⟩:=h;exact Dh ((KY h).mono λt h=> .mk h)
 ·obtain ⟨k,h1,h2,h3⟩:=h;exact ⟨k,ap (fK _ _) h1,ap h2 (fL _ _),h3⟩
theorem KV(h:zE w A Q b x y):zE w A Q (EU w.n a b) x y:=by
 cases a<;>cases b<;>first | trivial | exact h | skip
 ·obtain ⟨p,q,rfl,rfl,h⟩:=h;exact Dh ((KX h).mono λt h=> .mk h)
 ·obtain ⟨k,h1,h2,h3⟩:=h;exact ⟨k,ap (di _ _) h1,ap h2 (dj _ _),h3⟩
theorem mJ:∀{a b:Cx} {i:Nat} {s:Slot},nth (xw n a b) i=some s->∃u v,nth a i=some u/\nth b i=some v/\EU n u v=s
 |[],_,0,_,h=>no h
 |[],_,_+1,_,h=>no h
 | a::r,b,i,s,h=>by
  cases b with
  | nil=>cases i<;>exact no h
  | cons b q=>
   cases i with
   | zero=>exact ⟨a,b,rfl,rfl,ah.inj h⟩
   | succ i=>exact mJ (a:=r) (b:=q) h
theorem ik:∀{a b:Cx},a.length=b.length->(xw n a b).length=a.length
 |[],_,_=>rfl
 | a::r,b,h=>by
  cases b with
  | nil=>cases h
  | cons b q=>exact congrArg (· +1) (ik (b_.inj h))
theorem CZ{a b:Cx}(h:RC w B a ρ ρ'):Ok (z9 w.n a b) λc=>RC w B c ρ ρ':= .if1 λe=> .some
 ⟨h.l1.trans (ik e).symm,h.l2.trans (ik e).symm,λi s hi=>by obtain ⟨u,v,h1,h2,rfl⟩:=mJ hi;exact KW (h.at_ i _ h1)⟩
theorem CY{a b:Cx}(h:RC w B b ρ ρ'):Ok (z9 w.n a b) λc=>RC w B c ρ ρ':= .if1 λe=> .some
 ⟨h.l1.trans (e.symm.trans (ik e).symm),h.l2.trans (e.symm.trans (ik e).symm),λi s hi=>by obtain ⟨u,v,h1,h2,rfl⟩:=mJ hi;exact KV (h.at_ i _ h2)⟩
end
structure A6 where
 fall:Option Cx
 ret:Option Ty
noncomputable def jO{α:Type}(j:α->α->Option α)(a b:Option α):Option (Option α):=a.elim (some b) λx=>b.elim (some a) λy=>(j x y).map some
noncomputable def S9{α:Type}(P:α->Prop)(a:Option α):Prop:=∃x,a=some x/\P x
section
variable{α:Type}{j:α->α->Option α}{P:α->Prop}{a b:Option α}
theorem Qn(hj:∀x y,P x->Ok (j x y) P)(h:S9 P a):Ok (jO j a b) (S9 P):=by
 obtain ⟨x,rfl,h⟩:=h
 cases b
 ·exact .some ⟨x,rfl,h⟩
 ·exact .map ((hj _ _ h).mono λt ht=>⟨t,rfl,ht⟩)
theorem Qm(hj:∀x y,P y->Ok (j x y) P)(h:S9 P b):Ok (jO j a b) (S9 P):=by
 obtain ⟨x,rfl,h⟩:=h
 cases a
 ·exact .some ⟨x,rfl,h⟩
 ·exact .map ((hj _ _ h).mono λt ht=>⟨t,rfl,ht⟩)
end
inductive GR(w:Bd)(B:Bs)(res:A6):n4->n4->Prop
 | fall {ρ ρ':b6} (h:S9 (λΓ=>RC w B Γ ρ ρ') res.fall):GR w B res (ρ,none) (ρ',none)
 | ret {ρ ρ':b6} {x y:T} (h:S9 (λt=>R w t x y) res.ret):GR w B res (ρ,some x) (ρ',some y)
noncomputable def Mf(w:Bd)(e:b6->Option n4)(f:Cx->Option A6):Prop:=∀Γ B ρ ρ',RC w B Γ ρ ρ'->Ok (f Γ) λres=>P2 (GR w B res) (e ρ) (e ρ')
noncomputable def xd(f:Cx->Option A6)(Γ:Cx):Option Cx:=(f Γ).bind λr=>r.ret.elim r.fall λ_=>none
noncomputable def FB(f:Cx->Option A6)(tg:List Nat):List Ty->Cx->Option Cx
 |[],Γ=>some Γ
 | t::r,Γ=>(bindC tg t Γ).bind λΓ1=>(xd f Γ1).bind λΓ2=>FB f tg r Γ2
noncomputable def z_(n:Nat)(f:Cx->Option A6)(tg:List Nat)(t:Ty):Nat->Cx->Option Cx
 | 0,Γ=>some Γ
 | k+1,Γ=>(bindC tg t Γ).bind λΓ1=>(xd f Γ1).bind λΓ2=>(z9 n Γ Γ2).bind λΓ3=>z_ n f tg t k Γ3
noncomputable def FR(w:Bd)(B:Bs)(Γ:Cx)(o o':n4):Prop:=∃ρ ρ',o=(ρ,none)/\o'=(ρ',none)/\RC w B Γ ρ ρ'
section
variable{w:Bd}{B:Bs}{Γ:Cx}{ρ ρ':b6}{e:b6->Option n4}{f:Cx->Option A6}{tg:List Nat}
theorem Du(hf:Mf w e f)(hc:RC w B Γ ρ ρ'):Ok (xd f Γ) λΓ'=>P2 (FR w B Γ') (e ρ) (e ρ'):=
 (hf Γ B ρ ρ' hc).bind λr hr=>by
  obtain ⟨a,b,e1,e2,h⟩:=hr
  rw [e1,e2]
  cases h with
  | fall h=>
   obtain ⟨Γ2,h1,h2⟩:=h
   intro Γ' e
   cases q:r.ret with
   | none=>rw [q,h1]at e;exact .mk ⟨_,_,rfl,rfl,ah.inj e▸h2⟩
   | some t=>rw [q]at e;exact no e
  | ret h=>obtain ⟨t,h1,h2⟩:=h;rw [h1];exact Ok.none
noncomputable def IS(e:b6->Option n4)(tg:List Nat)(r:List T)(o:n4):Option n4:=match o.2 with
  | some v=>some (o.1,some v)
  | ae=>fQ e tg r o.1
theorem B7{α:Type}{o:Cx->Option α}{Q:α->n4->n4->Prop}{t:Ty}{x y:T}{xs ys:List T}(hf:Mf w e f)(hr:R w t x y)(hc:RC w B Γ ρ ρ')(k:∀Γ2 ρ2 ρ2',RC w B Γ2 ρ2 ρ2'->Ok (o Γ2) λa=>P2 (Q a) (fQ e tg xs ρ2) (fQ e tg ys ρ2')):
  Ok ((bindC tg t Γ).bind λΓ1=>(xd f Γ1).bind o) λa=>P2 (Q a) (fQ e tg (x::xs) ρ) (fQ e tg (y::ys) ρ'):=
 (tA hr hc).bind λΓ1 h=>Ok.thru (F:=λρ'=>(e ρ').bind (IS e tg xs)) (G:=λρ'=>(e ρ').bind (IS e tg ys)) h λρ1 ρ1' hc1=>(Du hf hc1).bind λΓ2 h=>Ok.thru h λa b h=>by
  obtain ⟨ρ2,ρ2',rfl,rfl,hc2⟩:=h;exact k Γ2 ρ2 ρ2' hc2
theorem C7(hf:Mf w e f):∀{ts:List Ty} {xs ys:List T} {Γ:Cx} {ρ ρ':b6},Rs w ts xs ys->RC w B Γ ρ ρ'->Ok (FB f tg ts Γ) λΓ'=>P2 (FR w B Γ') (fQ e tg xs ρ) (fQ e tg ys ρ')
 |[],_,_,Γ,ρ,ρ',hr,hc=>E_ (Q:=λxs ys=>Ok (some Γ) λΓ'=>P2 (FR w B Γ') (fQ e tg xs ρ) (fQ e tg ys ρ')) hr (.some (.mk ⟨ρ,ρ',rfl,rfl,hc⟩))
 | t::ts,_,_,Γ,ρ,ρ',hr,hc=>qN (Q:=λxs ys=>Ok (FB f tg (t::ts) Γ) λΓ'=>P2 (FR w B Γ') (fQ e tg xs ρ) (fQ e tg ys ρ')) hr λx y xs ys h1 h2=>B7 (o:=FB f tg ts) hf h1 hc λΓ2 ρ2 ρ2' hc2=>C7 hf h2 hc2
theorem s_(hf:Mf w e f){t:Ty}:∀{k:Nat} {xs:List T} {Γ:Cx} {ρ ρ':b6},xs.length<=k->(∀x,x∈xs->R w t x x)->RC w B Γ ρ ρ'->Ok (z_ w.n f tg t k Γ) λΓ'=>P2 (FR w B Γ') (fQ e tg xs ρ) (fQ e tg xs ρ')
 | 0,[],_,ρ,ρ',_,_,hc=> .some (.mk ⟨ρ,ρ',rfl,rfl,hc⟩)
 | 0,_::_,_,_,_,h,_,_=>absurd h (Fg _)
 | k+1,[],Γ,ρ,ρ',_,hx,hc=>Ok.bind (P:=λ_=>True) (λ_ _=>trivial) λΓ1 _=>Ok.bind (P:=λ_=>True) (λ_ _=>trivial) λΓ2 _=>(CZ hc).bind λΓ3 hc3=>s_ hf (aE k) hx hc3
 | k+1,x::xs,Γ,ρ,ρ',h,hx,hc=>B7 (o:=λΓ2=>(z9 w.n Γ Γ2).bind λΓ3=>z_ w.n f tg t k Γ3) hf (hx x ak) hc λΓ2 ρ2 ρ2' hc2=>(CY hc2).bind λΓ3 hc3=>s_ hf (f_ h) (λy hy=>hx y (ao _ hy)) hc3
end
noncomputable def Se:S->Option (List Nat)
 | .skip=>some []
 | .seq a b=>(Se a).bind λl=>(Se b).map (l++ ·)
 | .iff _ a b=>(Se a).bind λl=>(Se b).map (l++ ·)
 | .asg y _=>some [y]
 | .aug y _ _=>some [y]
 | .tupa ys _=>some ys
 | _=>none
noncomputable def xM(i:Nat)(ρ:b6)(o:Option n4):Prop:=Ok o λo=>get o.1 i=get ρ i
theorem xL{α:Type}{o:Option α}:Ok o λ_=>True:=λ_ _=>trivial
theorem GU{c:d5}{a b:S}{i:Nat}{ρ:b6}(ha:xM i ρ (ex c a ρ))(hb:∀ρ,xM i ρ (ex c b ρ)):xM i ρ (ex c (.seq a b) ρ):=
 ha.bind λo ho=>by
  obtain ⟨ρ1,v⟩:=o
  cases v
  ·exact (hb ρ1).mono λo h=>h.trans ho
  ·exact .some ho
theorem GV{c:d5}{q:X}{a b:S}{i:Nat}{ρ:b6}(ha:xM i ρ (ex c a ρ))(hb:xM i ρ (ex c b ρ)):xM i ρ (ex c (.iff q a b) ρ):=
 xL.bind λz _=>by cases z<;>assumption
theorem NV(c:d5)(i:Nat)(s:S):Ok (Se s) λl=>i∉l->∀ρ,xM i ρ (ex c s ρ):=by
 induction s with
 | skip=>exact .some λ_ ρ=> .some rfl
 | seq a b ha hb=>exact ha.bind λl h1=> .map (hb.mono λm h2 hi ρ=>GU (h1 (λk=>hi (aF _ k)) ρ) (h2 λk=>hi (ay _ k)))
 | iff q a b ha hb=>exact ha.bind λl h1=> .map (hb.mono λm h2 hi ρ=>GV (h1 (λk=>hi (aF _ k)) ρ) (h2 (λk=>hi (ay _ k)) ρ))
 | asg y e=>exact .some λhi ρ=> .map (xL.mono λt _=>oj hi)
 | aug y op e=>exact .some λhi ρ=>xL.bind λx _=>xL.bind λt _=> .map (xL.mono λv _=>oj hi)
 | tupa ys e=>exact .some λhi ρ=>xL.bind λt _=> .map (p8 i t ρ ys hi)
 | _=>exact .none
end
section
noncomputable def FG:S->Nat->Option Bool
 | .seq a b,i=>(FG a i).or (FG b i)
 | .iff _ a b,i=>(FG a i).or (FG b i)
 | .aug y op _,i=>if y=i then op.casesOn (some true) none none none none none none none (some false) none else none
 | _,_=>none
noncomputable def Sj(s:Slot):Option (Int×Int):=qP (kJ (some s)) λt=>t.asI λl h=>some (l,h)
noncomputable def Bi(am:Option Bool)(wr:Bool)(s:Slot):Slot:=wr.casesOn (s.casesOn .un .o (λ_ _=> .un) .un)
 ((am.bind λb=>(Sj s).bind λp=>b.casesOn (if p.1=0/\p.2=0 then some .accO else none) (some (.accA 0 0))).getD .un)
noncomputable def MU(m:Nat)(wr:Bool)(s0 s1 s2:Slot):Slot:=wr.casesOn s0
 (s1.casesOn .un (λ_=> .un) (λ_ _=>s2.casesOn .un (λ_=> .un) (λl h=>(Sj s0).elim .un λp=> .o (.sh (.i (p.1+m*min l 0) (p.2+m*max h 0)))) .un) (s2.casesOn .un (λ_=> .un) (λ_ _=> .un) (.o (.sh (.bb 0)))))
noncomputable def Jg(s1 s2:Slot):Bool:=s1.casesOn true (λ_=>true) (λ_ _=>s2.casesOn false (λ_=>false) (λ_ _=>true) false) (s2.casesOn false (λ_=>false) (λ_ _=>false) true)
noncomputable def NF(Γ:Cx)(i:Nat):Slot:=(nth Γ i).getD .un
noncomputable def lN(am:Nat->Option Bool)(wr:List Nat)(Γ:Cx):Cx:=(ar Γ.length).map λi=>Bi (am i) (wr.contains i) (NF Γ i)
noncomputable def Q1(m:Nat)(wr:List Nat)(Γ Γ1 Γ2:Cx):Cx:=(ar Γ.length).map λi=>MU m (wr.contains i) (NF Γ i) (NF Γ1 i) (NF Γ2 i)
noncomputable def IW(f:Cx->Option A6)(am:Nat->Option Bool)(wr:List Nat)(tg:List Nat)(t:Ty)(m:Nat)(Γ:Cx):Option Cx:=
 (bindC tg t (lN am wr Γ)).bind λΓb=>(xd f Γb).bind λΓ2=>
  if Γ2.length=Γ.length/\(ar Γ.length).all (λi=>Jg (NF (lN am wr Γ) i) (NF Γ2 i))=true then some (Q1 m wr Γ (lN am wr Γ) Γ2)else none
@[reducible] noncomputable def D1:=Int×(Nat->Bool)
noncomputable def mA(v d:D1):D1:=(v.1+d.1,λs=>v.2 s||d.2 s)
section
variable(w:Bd)
noncomputable def nQ(d:D1):D1:=(d.1,λs=>d.2 (w.sg s))
noncomputable def i_:Slot->D1->Option O->Prop
 | .un,_,_=>True
 | .o _,_,_=>True
 | .accA _ _,v,x=>x=iT v.1
 | .accO,v,x=>x=iT (bI w.n v.2)
noncomputable def xf:Slot->D1->D1->Prop
 | .un,_,_=>True
 | .o _,_,_=>True
 | .accA _ _,d,d'=>d.1=d'.1
 | .accO,d,d'=>∀s,s<w.n->d.2 s=d'.2 s
end
noncomputable def Tq:Slot->D1->Prop
 | .un,_=>True
 | .o _,_=>True
 | .accA l h,d=>l<=d.1/\d.1<=h
 | .accO,_=>True
section
variable{w:Bd}{s:Slot}{v v' d d':D1}{x y x0 y0:Option O}{A:Int×Int}{Q:(Nat->Bool)×(Nat->Bool)}{am:Option Bool}{wr:Bool}
theorem Ih{a b:Int}(h:iT a=iT b):a=b:=T.int_inj (O.sh_inj (ah.inj h))
theorem Jc(h:zE w (v.1,v'.1) (v.2,v'.2) s x y):∃d,Tq s d/\i_ w s (mA v d) x/\i_ w s (mA v' (nQ w d)) y:=by
 cases s with
 | un=>exact ⟨(0,λ_=>false),trivial,trivial,trivial⟩
 | o t=>exact ⟨(0,λ_=>false),trivial,trivial,trivial⟩
 | accA l h=>obtain ⟨k,h1,h2,h3,h4⟩:=h;exact ⟨(k,λ_=>false),⟨h1,h2⟩,h3,h4⟩
 | accO=>obtain ⟨P,h1,h2⟩:=h;exact ⟨(0,P),trivial,h1,h2⟩
theorem Sg(h0:v.2=λ_=>false)(h:i_ w s (mA v d) x)(k:i_ w s (mA v d') x):xf w s d d':=by
 cases s with
 | un=>trivial
 | o t=>trivial
 | accA l h'=>exact Int.add_left_cancel (Ih (h.symm.trans k))
 | accO=>
  intro s hs
  have:=Iy (Ih (h.symm.trans k)) s hs
  rw [show (mA v d).2 s=(v.2 s||d.2 s)from rfl,show (mA v d').2 s=(v.2 s||d'.2 s)from rfl,h0]at this
  exact this
theorem yB(e:xf w s d d')(h:i_ w s (mA v d) x):i_ w s (mA v d') x:=by
 cases s with
 | un=>trivial
 | o t=>trivial
 | accA l h'=>exact h.trans (congrArg (λk=>iT (v.1+k)) e)
 | accO=>exact h.trans (congrArg iT (bp λs hs=>congrArg (v.2 s|| ·) (e s hs)))
theorem D2(hw:w.Ok)(e:xf w s d d'):xf w s (nQ w d) (nQ w d'):=by
 cases s with
 | un=>trivial
 | o t=>trivial
 | accA l h'=>exact e
 | accO=>exact λs hs=>e _ (ci hw hs)
theorem DT(hw:w.Ok)(e:xf w s (nQ w d) (nQ w d')):xf w s d d':=by
 cases s with
 | un=>trivial
 | o t=>trivial
 | accA l h'=>exact e
 | accO=>
  intro s hs
  have:d.2 (w.sg (w.sg s))=d'.2 (w.sg (w.sg s)):=e _ (ci hw hs)
  rw [dR hw hs]at this;exact this
theorem HL(h:zE w A Q s x y):Ok (Sj s) λp=>∃k,p.1<=k/\k<=p.2/\x=iT k/\y=iT k:=by
 cases s<;>first | exact .none | skip
 exact dQ (Q:=λx y (p:Int×Int)=>∃k,p.1<=k/\k<=p.2/\x=iT k/\y=iT k) (o:=some _) (.some h) λt x y hr=>
  cW (Q:=λx y (p:Int×Int)=>∃k,p.1<=k/\k<=p.2/\some (O.sh x)=iT k/\some (O.sh y)=iT k) hr λl h k h1 h2=> .some ⟨k,h1,h2,rfl,rfl⟩
theorem HV{P:Slot->Prop}(h:zE w A Q s x0 y0)(h0:P .un)(h1:wr=false->∀t,P2 (RO w t) x0 y0->P (.o t))(h2:∀k,x0=iT k->y0=iT k->P (.accA 0 0))(h3:x0=iT 0->y0=iT 0->P .accO):P (Bi am wr s):=by
 cases wr with
 | false=>cases s<;>first | exact h0 | exact h1 rfl _ h
 | true=>
  have key:Ok (am.bind λb=>(Sj s).bind λp=>b.casesOn (if p.1=0/\p.2=0 then some Slot.accO else none) (some (Slot.accA 0 0))) P:=xL.bind λb _=>(HL h).bind λp hp=>by
   obtain ⟨k,k1,k2,e1,e2⟩:=hp
   cases b
   ·refine .if1 λe=> .some ?_
    have:k=0:=fM (e.2▸k2) (e.1▸k1)
    subst this
    exact h3 e1 e2
   ·exact .some (h2 k e1 e2)
  show P (Option.getD _ _)
  revert key
  generalize (am.bind λb=>(Sj s).bind λp=>b.casesOn (if p.1=0/\p.2=0 then some Slot.accO else none) (some (Slot.accA 0 0)))=o
  intro key
  cases o
  ·exact h0
  ·exact key _ rfl
noncomputable def Sf(x:Option O):D1:=(((x.bind O.int?).getD 0),λ_=>false)
theorem Dz:iT 0=iT (bI w.n λ_=>false):=by rw [fq]
theorem Cr(h:zE w A Q s x0 y0):i_ w (Bi am wr s) (Sf x0) x0/\i_ w (Bi am wr s) (Sf y0) y0:=
 HV (P:=λs=>i_ w s (Sf x0) x0/\i_ w s (Sf y0) y0) h ⟨trivial,trivial⟩ (λ_ _ _=>⟨trivial,trivial⟩) (λk e1 e2=>by subst e1 e2;exact ⟨rfl,rfl⟩) λe1 e2=>by subst e1 e2;exact ⟨Dz,Dz⟩
theorem Kh(h:zE w A Q s x0 y0)(hx:wr=false->x=x0/\y=y0)(h1:i_ w (Bi am wr s) v x)(h2:i_ w (Bi am wr s) v' y):zE w (v.1,v'.1) (v.2,v'.2) (Bi am wr s) x y:=by
 revert h1 h2
 refine HV (P:=λs=>i_ w s v x->i_ w s v' y->zE w (v.1,v'.1) (v.2,v'.2) s x y) h (λ_ _=>trivial) (λe t ht _ _=> ?_) (λk _ _ h1 h2=>⟨0,dm 0,dm 0,h1.trans (congrArg iT (bQ _).symm),h2.trans (congrArg iT (bQ _).symm)⟩)
  λ_ _ h1 h2=>⟨λ_=>false,h1.trans (congrArg iT (bp λs _=>(cg _).symm)),h2.trans (congrArg iT (bp λs _=>(cg _).symm))⟩
 rw [(hx e).1,(hx e).2];exact ht
end
section
variable{w:Bd}{B:Bs}{Γ Γb Γ2:Cx}{e:b6->Option n4}{tg:List Nat}{wr:List Nat}{am:Nat->Option Bool}{f:Cx->Option A6}{t:Ty}{ρ0 ρ0':b6}
theorem LY{i:Nat}{s:Slot}(h:nth Γ i=some s):NF Γ i=s:=by unfold NF;rw [h];rfl
theorem j4{i:Nat}(h:i<Γ.length):nth Γ i=some (NF Γ i):=by
 unfold NF;rw [iC,dE h];rfl
theorem dq{α:Type}{n:Nat}{g:Nat->α}:((ar n).map g).length=n:=(aq _).trans aK
theorem rh{α:Type}{n i:Nat}{g:Nat->α}{s:α}{P:α->Prop}(h:nth ((ar n).map g) i=some s)(k:i<n->P (g i)):P s:=by
 have hl:i<n:=by have:=wy h;rw [dq]at this;exact this
 exact ah.inj ((fA g hl).symm.trans h)▸k hl
structure P6(w:Bd)(G:Cx)(wr:List Nat)(ρ0:b6)(v:Nat->D1)(ρ:b6):Prop where
 len:ρ.length=G.length
 keep:∀i,wr.contains i=false->get ρ i=get ρ0 i
 acc:∀i s,nth G i=some s->i_ w s (v i) (get ρ i)
noncomputable def v0(ρ:b6)(i:Nat):D1:=Sf (get ρ i)
theorem SF(h0:RC w B Γ ρ0 ρ0'):P6 w (lN am wr Γ) wr ρ0 (v0 ρ0) ρ0/\P6 w (lN am wr Γ) wr ρ0' (v0 ρ0') ρ0':=
 ⟨⟨h0.l1.trans dq.symm,λ_ _=>rfl,λi s h=>rh (P:=λs=>i_ w s (v0 ρ0 i) (get ρ0 i)) h λhi=>(Cr (h0.at_ i _ (j4 hi))).1⟩,
 ⟨h0.l2.trans dq.symm,λ_ _=>rfl,λi s h=>rh (P:=λs=>i_ w s (v0 ρ0' i) (get ρ0' i)) h λhi=>(Cr (h0.at_ i _ (j4 hi))).2⟩⟩
noncomputable def S2(v v':Nat->D1):Bs:=⟨λi=>((v i).1,(v' i).1),λi=>((v i).2,(v' i).2)⟩
theorem Ox{ρ ρ':b6}{v v':Nat->D1}(h0:RC w B Γ ρ0 ρ0')(h1:P6 w (lN am wr Γ) wr ρ0 v ρ)(h2:P6 w (lN am wr Γ) wr ρ0' v' ρ'):RC w (S2 v v') (lN am wr Γ) ρ ρ':=
 ⟨h1.len,h2.len,λi s h=>by
  have a1:=h1.acc i s h
  have a2:=h2.acc i s h
  revert a1 a2
  exact rh (P:=λs=>i_ w s (v i) (get ρ i)->i_ w s (v' i) (get ρ' i)->zE w _ _ s (get ρ i) (get ρ' i)) h λhi=>Kh (h0.at_ i _ (j4 hi)) λe=>⟨h1.keep i e,h2.keep i e⟩⟩
noncomputable def Jv(e:b6->Option n4)(tg:List Nat)(x:T)(ρ:b6):Option n4:=(dz tg x ρ).bind e
noncomputable def Af(w:Bd)(G:Cx)(wr tg:List Nat)(e:b6->Option n4)(ρ0:b6)(x:T)(d:Nat->D1):Prop:=∀v ρ,P6 w G wr ρ0 v ρ->∃ρ1,Jv e tg x ρ=some (ρ1,none)/\P6 w G wr ρ0 (λi=>mA (v i) (d i)) ρ1
structure Tr(w:Bd)(G:Cx)(wr tg:List Nat)(e:b6->Option n4)(f:Cx->Option A6)(t:Ty)(Γb Γ2:Cx):Prop where
 hw:w.Ok
 hf:Mf w e f
 fr:∀ρ i,wr.contains i=false->xM i ρ (e ρ)
 tgs:∀i,wr.contains i=false->i∉tg
 hb:bindC tg t G=some Γb
 h2:xd f Γb=some Γ2
 len:Γ2.length=G.length
 acc:∀i s,nth G i=some s->∃s2,nth Γ2 i=some s2/\Jg s s2=true
variable(H:Tr w (lN am wr Γ) wr tg e f t Γb Γ2)
include H
theorem Tr.run{x y:T}(h0:RC w B Γ ρ0 ρ0')(hr:R w t x y){ρ ρ':b6}{v v':Nat->D1}(h1:P6 w (lN am wr Γ) wr ρ0 v ρ)(h2:P6 w (lN am wr Γ) wr ρ0' v' ρ'):P2 (FR w (S2 v v') Γ2) (Jv e tg x ρ) (Jv e tg y ρ'):=
 (tA hr (Ox h0 h1 h2) Γb H.hb).bind λ_ _ hc=>Du H.hf hc Γ2 H.h2
theorem Tr.kept{x:T}{ρ ρ1:b6}{r:Option T}(h:Jv e tg x ρ=some (ρ1,r))(i:Nat)(hi:wr.contains i=false):get ρ1 i=get ρ i:=
 Ok.bind (R:=λo=>get o.1 i=get ρ i) (p8 i x ρ tg (H.tgs i hi)) (λρb hb=>(H.fr ρb i hi).mono λo ho=>ho.trans hb) _ h
theorem vG{s s2:Slot}{v:D1}{x:Option O}(h:Jg s s2=true)(k:i_ w s2 v x):i_ w s v x:=by
 cases s<;>cases s2<;>first | trivial | exact k | exact absurd h aO
theorem Tr.step{x y:T}(h0:RC w B Γ ρ0 ρ0')(hr:R w t x y):∃d:Nat->D1,(∀i s,nth Γ2 i=some s->Tq s (d i))/\Af w (lN am wr Γ) wr tg e ρ0 x d/\Af w (lN am wr Γ) wr tg e ρ0' y λi=>nQ w (d i):=by
 obtain ⟨iA,iB⟩:=SF (am:=am) (wr:=wr) h0
 obtain ⟨_,_,a1,a2,ρ1,ρ1',rfl,rfl,rc⟩:=H.run h0 hr iA iB
 have ex:∀i,∃d,∀s,nth Γ2 i=some s->Tq s d/\i_ w s (mA (v0 ρ0 i) d) (get ρ1 i)/\i_ w s (mA (v0 ρ0' i) (nQ w d)) (get ρ1' i):=λi=>by
  cases q:nth Γ2 i with
  | none=>exact ⟨(0,λ_=>false),λs h=>no h⟩
  | some s=>obtain ⟨d,hd⟩:=Jc (rc.at_ i s q);exact ⟨d,λs' e=>ah.inj e▸hd⟩
 obtain ⟨d,hd⟩:=B1.mp ex
 refine ⟨d,λi s h=>(hd i s h).1,λv ρ hi=> ?_,λv ρ hi=> ?_⟩
 ·obtain ⟨_,_,b1,b2,ρ2,ρ2',rfl,rfl,rc2⟩:=H.run h0 hr hi iB
  cases a2.symm.trans b2
  refine ⟨ρ2,b1,rc2.l1.trans H.len,λi q=>(H.kept b1 i q).trans (hi.keep i q),λi s q=> ?_⟩
  obtain ⟨s2,q2,q3⟩:=H.acc i s q
  obtain ⟨d',_,k1,k2⟩:=Jc (rc2.at_ i s2 q2)
  exact vG H q3 (yB (DT H.hw (Sg rfl k2 (hd i s2 q2).2.2)) k1)
 ·obtain ⟨_,_,b1,b2,ρ2,ρ2',rfl,rfl,rc2⟩:=H.run h0 hr iA hi
  cases a1.symm.trans b1
  refine ⟨ρ2',b2,rc2.l2.trans H.len,λi q=>(H.kept b2 i q).trans (hi.keep i q),λi s q=> ?_⟩
  obtain ⟨s2,q2,q3⟩:=H.acc i s q
  obtain ⟨d',_,k1,k2⟩:=Jc (rc2.at_ i s2 q2)
  exact vG H q3 (yB (D2 H.hw (Sg rfl k1 (hd i s2 q2).2.1)) k2)
omit H
theorem sV{G:Cx}{α:Type}{g:α->T}{d:α->Nat->D1}:∀(l:List α) (v:Nat->D1) (ρ:b6),(∀p,p∈l->Af w G wr tg e ρ0 (g p) (d p))->P6 w G wr ρ0 v ρ->∃ρ1,fQ e tg (l.map g) ρ=some (ρ1,none)/\P6 w G wr ρ0 (λi=>l.foldl (λv p=>mA v (d p i)) (v i)) ρ1
 |[],v,ρ,_,hi=>⟨ρ,rfl,hi⟩
 | a::l,v,ρ,h,hi=>by
  obtain ⟨ρ1,h1,h2⟩:=h a ak v ρ hi
  obtain ⟨ρ2,h3,h4⟩:=sV l _ ρ1 (λp hp=>h p (ao _ hp)) h2
  refine ⟨ρ2,?_,h4⟩
  have:fQ e tg ((a::l).map g) ρ=(Jv e tg (g a) ρ).bind (IS e tg (l.map g)):=(Option.bind_assoc (dz tg (g a) ρ) e _).symm
  rw [this,h1];exact h3
end
section
variable{α:Type}{l m:List α}
theorem Gm{g:α->Int}(h:l.Perm m):(l.map g).sum=(m.map g).sum:=by
 induction h with
 | nil=>rfl
 | cons x _ ih=>exact congrArg (g x+ ·) ih
 | swap x y l=>exact Int.add_left_comm _ _ _
 | trans _ _ a b=>exact a.trans b
theorem yI{g:α->Bool}(h:l.Perm m):l.any g=m.any g:=by
 induction h with
 | nil=>rfl
 | cons x _ ih=>exact congrArg (g x|| ·) ih
 | swap x y l=>exact Bool.or_left_comm _ _ _
 | trans _ _ a b=>exact a.trans b
theorem tu{d:α->D1}:∀(l:List α) (v:D1),(l.foldl (λv p=>mA v (d p)) v).1=v.1+(l.map λp=>(d p).1).sum
 |[],v=>(bQ _).symm
 | a::l,v=>(tu l (mA v (d a))).trans (dh _ _ _)
theorem tp{d:α->D1}(s:Nat):∀(l:List α) (v:D1),(l.foldl (λv p=>mA v (d p)) v).2 s=(v.2 s||l.any λp=>(d p).2 s)
 |[],v=>(cg _).symm
 | a::l,v=>(tp s l (mA v (d a))).trans (gS _ _ _)
theorem Aq{g:α->Int}{lo hi:Int}{m:Nat}(hm:l.length<=m)(h:∀p,p∈l->lo<=g p/\g p<=hi):m*min lo 0<=(l.map g).sum/\(l.map g).sum<=m*max hi 0:=by
 have key:∀l:List α,(∀p,p∈l->lo<=g p/\g p<=hi)->(l.length:Int)*min lo 0<=(l.map g).sum/\(l.map g).sum<=l.length*max hi 0:=λl=>by
  induction l with
  | nil=>intro _;exact ⟨Ti (iV _),Ti (iV _).symm⟩
  | cons a l ih=>
   intro h
   have h1:=h a ak
   have h2:=ih λp hp=>h p (ao _ hp)
   have e:∀z:Int,((a::l).length:Int)*z=z+l.length*z:=λz=>by
    rw [j9,vL,mW,Int.natCast_one,jU,lq]
   rw [e,e]
   exact ⟨cO (ap (fK _ _) h1.1) h2.1,cO (ap h1.2 (fL _ _)) h2.2⟩
 have hm':(l.length:Int)<=m:=aW.mpr hm
 exact ⟨ap (gO hm' (di _ _)) (key l h).1,ap (key l h).2 (bN hm' (dj _ _))⟩
end
section
variable{w:Bd}{s0 s1 s2:Slot}{A:Int×Int}{Q:(Nat->Bool)×(Nat->Bool)}{x0 y0 x y:Option O}{m:Nat}{wr:Bool}{α:Type}{ps qs:List α}{d:α->D1}
theorem Gi(h:zE w A Q s0 x0 y0)(hx:wr=false->x=x0/\y=y0)(hp:ps.Perm qs)(hl:ps.length<=m)(hd:∀p,p∈ps->Tq s2 (d p))
  (h1:i_ w s1 (ps.foldl (λv p=>mA v (d p)) (Sf x0)) x) (h2:i_ w s1 (qs.foldl (λv p=>mA v (nQ w (d p))) (Sf y0)) y):zE w A Q (MU m wr s0 s1 s2) x y:=by
 cases wr with
 | false=>rw [(hx rfl).1,(hx rfl).2];exact h
 | true=>
  cases s1<;>cases s2<;>first | trivial | skip
  ·rename_i l' h' l hi
   show zE w A Q ((Sj s0).elim .un _) x y
   have k:=HL h
   revert k
   generalize Sj s0=o
   intro k
   cases o with
   | none=>trivial
   | some p=>
    obtain ⟨k,k1,k2,e1,e2⟩:=k p rfl
    have sb:=Aq (g:=λp=>(d p).1) hl hd
    refine ⟨_,_,h1,h2,_,_,rfl,rfl,k+(ps.map λp=>(d p).1).sum,congrArg T.int ?_,congrArg T.int ?_,cO k1 sb.1,cO k2 sb.2⟩
    ·rw [tu,e1];rfl
    ·rw [tu,e2,Gm hp];rfl
  ·refine ⟨_,_,h1,h2,_,_,rfl,rfl,λs=>ps.any λp=>(d p).2 s,congrArg T.int (bp λs _=> ?_),congrArg T.int (bp λs _=> ?_),trivial⟩
   ·rw [tp];rfl
   ·rw [tp,<-yI hp];rfl
end
section
variable{w:Bd}{B:Bs}{Γ:Cx}{e:b6->Option n4}{tg:List Nat}{wr:List Nat}{am:Nat->Option Bool}{f:Cx->Option A6}{t:Ty}{ρ0 ρ0':b6}
theorem Gn(hw:w.Ok)(hf:Mf w e f)(hfr:∀ρ i,wr.contains i=false->xM i ρ (e ρ))(htg:∀i,wr.contains i=false->i∉tg){m:Nat}(h0:RC w B Γ ρ0 ρ0'){ps qs:List (T×T)}(hp:ps.Perm qs)(hl:ps.length<=m)(hr:∀p,p∈ps->R w t p.1 p.2):
  Ok (IW f am wr tg t m Γ) λΓ'=>P2 (FR w B Γ') (fQ e tg (ps.map (·.1)) ρ0) (fQ e tg (qs.map (·.2)) ρ0'):=λΓ3 h=>by
 obtain ⟨Γb,hb,h⟩:=bind_some h
 obtain ⟨Γ2,h2,h⟩:=bind_some h
 refine Ok.if1 (P:=λΓ'=>P2 (FR w B Γ') (fQ e tg (ps.map (·.1)) ρ0) (fQ e tg (qs.map (·.2)) ρ0')) (λhc=> .some ?_) Γ3 h
 have H:Tr w (lN am wr Γ) wr tg e f t Γb Γ2:=⟨hw,hf,hfr,htg,hb,h2,hc.1.trans dq.symm,λi s q=>by
  have hi:i<Γ.length:=by have:=wy q;rw [show (lN am wr Γ).length=Γ.length from dq]at this;exact this
  have:=ax.mp hc.2 i (az.mpr hi)
  rw [LY q]at this
  exact ⟨_,j4 (hc.1.symm▸hi),this⟩⟩
 have ch:∀p:T×T,∃d:Nat->D1,p∈ps->(∀i s,nth Γ2 i=some s->Tq s (d i))/\Af w (lN am wr Γ) wr tg e ρ0 p.1 d/\Af w (lN am wr Γ) wr tg e ρ0' p.2 λi=>nQ w (d i):=λp=>by
  by_cases q:p∈ps
  ·obtain ⟨d,hd⟩:=H.step h0 (hr p q);exact ⟨d,λ_=>hd⟩
  ·exact ⟨λ_=>(0,λ_=>false),λk=>absurd k q⟩
 obtain ⟨d,hd⟩:=B1.mp ch
 obtain ⟨iA,iB⟩:=SF (am:=am) (wr:=wr) h0
 obtain ⟨ρ1,r1,j1⟩:=sV (g:=λp:T×T=>p.1) (d:=d) ps _ ρ0 (λp hp=>(hd p hp).2.1) iA
 obtain ⟨ρ1',r2,j2⟩:=sV (g:=λp:T×T=>p.2) (d:=λp i=>nQ w (d p i)) qs _ ρ0' (λp hq=>(hd p (hp.mem_iff.mpr hq)).2.2) iB
 rw [r1,r2]
 refine .mk ⟨ρ1,ρ1',rfl,rfl,j1.len.trans (dq.trans dq.symm),j2.len.trans (dq.trans dq.symm),λi s q=>rh (P:=λs=>zE w _ _ s (get ρ1 i) (get ρ1' i)) q λhi=> ?_⟩
 have p1:nth (lN am wr Γ) i=some (NF (lN am wr Γ) i):=j4 ((dq (g:=λi=>Bi (am i) (wr.contains i) (NF Γ i))).symm▸hi)
 exact Gi (h0.at_ i _ (j4 hi)) (λe=>⟨j1.keep i e,j2.keep i e⟩) hp hl (λp hp=>(hd p hp).1 i _ (j4 (hc.1.symm▸hi))) (j1.acc i _ p1) (j2.acc i _ p1)
end
end
section
section
variable{β:Type}
noncomputable def X.asBi(e:X)(f:BI->X->Option β):Option β:=e.casesOn (λ_=>none) (λ_ _=>none) (λ_=>none) (λ_ _ _=>none) (λ_=>none) (λ_=>none) (λ_=>none) (λ_ _=>none) (λ_ _=>none) (λ_ _ _=>none) (λ_ _ _=>none) (λ_ _=>none) (λ_ _=>none) (λ_ _ _=>none) (λ_=>none) (λ_=>none) none (λ_ _=>none) (λ_ _=>none) (λ_ _=>none) f (λ_ _ _=>none) (λ_ _ _ _=>none)
noncomputable def X.asBin(e:X)(f:n6->X->X->Option β):Option β:=e.casesOn (λ_=>none) (λ_ _=>none) (λ_=>none) f (λ_=>none) (λ_=>none) (λ_=>none) (λ_ _=>none) (λ_ _=>none) (λ_ _ _=>none) (λ_ _ _=>none) (λ_ _=>none) (λ_ _=>none) (λ_ _ _=>none) (λ_=>none) (λ_=>none) none (λ_ _=>none) (λ_ _=>none) (λ_ _=>none) (λ_ _=>none) (λ_ _ _=>none) (λ_ _ _ _=>none)
noncomputable def X.asList(e:X)(f:X->Option β):Option β:=e.casesOn (λ_=>none) (λ_ _=>none) (λ_=>none) (λ_ _ _=>none) (λ_=>none) (λ_=>none) (λ_=>none) (λ_ _=>none) (λ_ _=>none) (λ_ _ _=>none) (λ_ _ _=>none) (λ_ _=>none) (λ_ _=>none) (λ_ _ _=>none) f (λ_=>none) none (λ_ _=>none) (λ_ _=>none) (λ_ _=>none) (λ_ _=>none) (λ_ _ _=>none) (λ_ _ _ _=>none)
noncomputable def X.asNew(e:X)(f:Nat->X->Option β):Option β:=e.casesOn (λ_=>none) (λ_ _=>none) (λ_=>none) (λ_ _ _=>none) (λ_=>none) (λ_=>none) (λ_=>none) (λ_ _=>none) (λ_ _=>none) (λ_ _ _=>none) (λ_ _ _=>none) (λ_ _=>none) (λ_ _=>none) (λ_ _ _=>none) (λ_=>none) (λ_=>none) none (λ_ _=>none) (λ_ _=>none) f (λ_ _=>none) (λ_ _ _=>none) (λ_ _ _ _=>none)
noncomputable def X.asCmp(e:X)(f:zF->X->X->Option β):Option β:=e.casesOn (λ_=>none) (λ_ _=>none) (λ_=>none) (λ_ _ _=>none) (λ_=>none) (λ_=>none) (λ_=>none) (λ_ _=>none) (λ_ _=>none) f (λ_ _ _=>none) (λ_ _=>none) (λ_ _=>none) (λ_ _ _=>none) (λ_=>none) (λ_=>none) none (λ_ _=>none) (λ_ _=>none) (λ_ _=>none) (λ_ _=>none) (λ_ _ _=>none) (λ_ _ _ _=>none)
noncomputable def X.asLit(e:X)(f:T->Option β):Option β:=e.casesOn f (λ_ _=>none) (λ_=>none) (λ_ _ _=>none) (λ_=>none) (λ_=>none) (λ_=>none) (λ_ _=>none) (λ_ _=>none) (λ_ _ _=>none) (λ_ _ _=>none) (λ_ _=>none) (λ_ _=>none) (λ_ _ _=>none) (λ_=>none) (λ_=>none) none (λ_ _=>none) (λ_ _=>none) (λ_ _=>none) (λ_ _=>none) (λ_ _ _=>none) (λ_ _ _ _=>none)
noncomputable def X.asNil(e:X)(o:Option β):Option β:=e.casesOn (λ_=>none) (λ_ _=>none) (λ_=>none) (λ_ _ _=>none) (λ_=>none) (λ_=>none) (λ_=>none) (λ_ _=>none) (λ_ _=>none) (λ_ _ _=>none) (λ_ _ _=>none) (λ_ _=>none) (λ_ _=>none) (λ_ _ _=>none) (λ_=>none) (λ_=>none) o (λ_ _=>none) (λ_ _=>none) (λ_ _=>none) (λ_ _=>none) (λ_ _ _=>none) (λ_ _ _ _=>none)
end
section
variable{β:Type}{e:X}{Q:X->β->Prop}
theorem LZ{g:BI->X->Option β}(k:∀b a,Ok (g b a) (Q (.bi b a))):Ok (e.asBi g) (Q e):=by
 cases e<;>first | exact Ok.none | exact k _ _
theorem HC{g:n6->X->X->Option β}(k:∀op a b,Ok (g op a b) (Q (.bin op a b))):Ok (e.asBin g) (Q e):=by
 cases e<;>first | exact Ok.none | exact k _ _ _
theorem EK{g:X->Option β}(k:∀a,Ok (g a) (Q (.list a))):Ok (e.asList g) (Q e):=by
 cases e<;>first | exact Ok.none | exact k _
theorem Hz{g:Nat->X->Option β}(k:∀f a,Ok (g f a) (Q (.new f a))):Ok (e.asNew g) (Q e):=by
 cases e<;>first | exact Ok.none | exact k _ _
theorem HB{g:zF->X->X->Option β}(k:∀op a b,Ok (g op a b) (Q (.cmp op a b))):Ok (e.asCmp g) (Q e):=by
 cases e<;>first | exact Ok.none | exact k _ _ _
theorem HA{g:T->Option β}(k:∀t,Ok (g t) (Q (.lit t))):Ok (e.asLit g) (Q e):=by
 cases e<;>first | exact Ok.none | exact k _
theorem tC{o:Option β}(k:Ok o (Q .nil)):Ok (e.asNil o) (Q e):=by
 cases e<;>first | exact Ok.none | exact k
end
theorem yD(a b:Int):ja a b 1=(ar (b - a).toNat).map λ(i:Nat)=>T.int (a+i):=by
 have e:(Builtin.Range.rangeSize a b 1).toNat=(b - a).toNat:=by
  unfold Builtin.Range.rangeSize
  rw [if_pos (by decide)]
  split
  ·rw [lp,Jr]
  ·rename_i h;rw [Int.toNat_of_nonpos (Int.sub_nonpos_of_le (cC.mp h))];rfl
 unfold ja
 rw [e]
 exact bg λi _=>by rw [TO]
inductive Uh where | items(ts:List Ty) | upto(n:Nat)(t:Ty) | prm(t:Ty)(m:Nat)
noncomputable def Qb(a1 a2 b1 b2:Int):Option Uh:=if (eT a1&&eT a2)=true/\(eT b1&&eT b2)=true then
  (if a1=a2/\b1=b2 then some (.items ((ar (b1 - a1).toNat).map λ(i:Nat)=>Ty.i (a1+i) (a1+i)))else some (.upto (b2 - a1).toNat (.i a1 (b2 - 1))))else none
noncomputable def kM(w:Bd)(o o':Option (List T)):Uh->Prop
 | .items ts=>P2 (Rs w ts) o o'
 | .upto n t=>∃xs,o=some xs/\o'=some xs/\xs.length<=n/\∀x,x∈xs->R w t x x
 | .prm t m=>∃ps qs:List (T×T),o=some (ps.map (·.1))/\o'=some (qs.map (·.2))/\ps.Perm qs/\ps.length<=m/\∀p,p∈ps->R w t p.1 p.2
theorem y_{a b k:Int}(h:(eT a&&eT b)=true)(h3:a<=k)(h4:k<=b):eT k=true:=by
 have h1:=of_decide_eq_true (cD (cD h).1).1
 have h2:=of_decide_eq_true (cD (cD h).2).2
 unfold eT
 rw [decide_eq_true (ap h1 h3),decide_eq_true (ap h4 h2)];rfl
section
variable{w:Bd}
theorem HR(k:Int):∀l:List Nat,Rs w (l.map λ(i:Nat)=>Ty.i (k+i) (k+i)) (l.map λ(i:Nat)=>T.int (k+i)) (l.map λ(i:Nat)=>T.int (k+i))
 |[]=>dS
 | a::l=>aM (QC _) (HR k l)
theorem Cj{a1 a2 b1 b2 k j:Int}(h1:a1<=k)(h2:k<=a2)(h3:b1<=j)(h4:j<=b2):Ok (Qb a1 a2 b1 b2) λs=>eT k=true/\eT j=true/\kM w (dg (.rng k j 1)) (dg (.rng k j 1)) s:=
 .if1 λ⟨f1,f2⟩=>by
  have fk:=y_ f1 h1 h2
  have fj:=y_ f2 h3 h4
  have e1:dg (.rng k j 1)=some ((ar (j - k).toNat).map λ(i:Nat)=>T.int (k+i)):=(if_pos (by rw [fk,fj];rfl)).trans (congrArg some (yD k j))
  rw [e1]
  refine .ite (λe=> .some ⟨fk,fj,?_⟩) λ_=> .some ⟨fk,fj,_,rfl,rfl,?_,λx hx=> ?_⟩
  ·have e1:=dB e.1 h1 h2
   have e2:=dB e.2 h3 h4
   subst e1 e2
   exact .mk (HR k _)
  ·rw [aq,aK];exact Jp (xG h4 h1)
  ·obtain ⟨i,hi,rfl⟩:=c9.mp hx
   have hi:=Th.mp (az.mp hi)
   have:k+i<j:=by have:=Int.add_lt_add_left hi k;rw [lq k (j - k),Jr]at this;exact this
   exact xP (ap h1 (wX (au i))) (Fo (bS this h4))
end
section
variable(f r:Nat)(ct:Nat->List Ty->Option Ty)
noncomputable def Qa(e:X)(Γ:Cx):Option Uh:=
 (e.asBi λb l=>if b= .range then (vO f r ct l Γ).bind λts=>(gZ ts λt=>t.asI λl h=>Qb 0 0 l h).or (kI ts λt u=>t.asI λl h=>u.asI λl' h'=>Qb l h l' h')else none).or
 (qP (tP f r ct e Γ) λt=>(t.asT λl=>some (.items l)).or ((t.asL λl=>some (.items l)).or (t.asP λt m=>some (.prm t m))))
end
structure Fb(w:Bd)(c:d5)(ct:Nat->List Ty->Option Ty):Prop where
 ct:qh w c ct
 cnt:∀P,c.call 0 [.int (bI w.n P)]=some (.int (cnt w.n P))
 new:∀x,c.new 2 [x]=some (.ins 2 [35,3,4,5,6,7,8,9,10,11] (.sh x::aw 9 (.sh (.int 0))))
section
variable{w:Bd}{c:d5}{ct:Nat->List Ty->Option Ty}{B:Bs}{Γ Γ':Cx}{ρ ρ':b6}
noncomputable def Ic(X:Option O):Option (List T):=(X.bind O.t?).bind dg
noncomputable def MT(L:Option (List T)):Option (List T):=Ic (L.bind λl=>mP (qI .range l))
theorem UB{k:Int}(h:eT k=true):MT (some [.int k])=dg (.rng 0 k 1):=by
 show Ic (mP (if eT k=true then some (.rng 0 k 1)else none))=_
 rw [if_pos h];rfl
theorem UA{k j:Int}(h:eT k=true)(h':eT j=true):MT (some [.int k,.int j])=dg (.rng k j 1):=by
 show Ic (mP (if (eT k&&eT j)=true then some (.rng k j 1)else none))=_
 rw [h,h'];rfl
theorem JY(hw:w.Ok)(hct:qh w c ct)(hc:RC w B Γ ρ ρ')(e:X):Ok (Qa w.f w.r ct e Γ) (kM w (Ic (ev c e ρ)) (Ic (ev c e ρ'))):=
 .alt (LZ (Q:=λe=>kM w (Ic (ev c e ρ)) (Ic (ev c e ρ'))) λb l=> .if1 λe=>e▸(eR hw hct hc l).l.bind λts hts=>by
  obtain ⟨xs,ys,e1,e2,hr⟩:=hts
  show Ok _ (kM w (MT (o7 c l ρ)) (MT (o7 c l ρ')))
  rw [e1,e2]
  exact .alt (fP (Q:=λxs ys=>kM w (MT (some xs)) (MT (some ys))) hr λt x y hr=>cW (Q:=λx y=>kM w (MT (some [x])) (MT (some [y]))) hr λl h k h1 h2=>(Cj (k:=0) (dm 0) (dm 0) h1 h2).mono λs hs=>by rw [UB hs.2.1];exact hs.2.2)
   (gE (Q:=λxs ys=>kM w (MT (some xs)) (MT (some ys))) hr λt u x y x' y' hr hr'=>fv (Q:=λx y x' y'=>kM w (MT (some [x,x'])) (MT (some [y,y']))) hr hr' λl h k l' h' j h1 h2 h3 h4=>(Cj h1 h2 h3 h4).mono λs hs=>by rw [UA hs.1 hs.2.1];exact hs.2.2))
 (dQ (Q:=λX X'=>kM w (Ic X) (Ic X')) (eR hw hct hc e).o λt x y hr=> .alt (tX (Q:=λx y=>kM w (Ic (some (.sh x))) (Ic (some (.sh y)))) hr λl xs ys h=> .some (.mk h))
  (.alt (BP (Q:=λx y=>kM w (Ic (some (.sh x))) (Ic (some (.sh y)))) hr λl xs ys h=> .some (.mk h))
  (IC (Q:=λx y=>kM w (Ic (some (.sh x))) (Ic (some (.sh y)))) hr λt m ps qs h1 h2 h3=> .some ⟨ps,qs,rfl,rfl,h1,h2,h3⟩)))
end
noncomputable def p_{α:Type}:List Nat->List α->Nat->α->List α
 | k::ks,a::l,j,x=>if k=j then x::l else a::p_ ks l j x
 | _,l,_,_=>l
noncomputable def Nq(n:Nat)(t:Ty):Option Unit:=(t.asI λ_ _=>some ()).or ((t.asB n λ_=>some ()).or (t.isK 0 (some ())))
section
variable(f r':Nat)(ct:Nat->List Ty->Option Ty)
noncomputable def SO(op:n6)(s:Slot)(te:Ty):Option Slot:=s.casesOn none
 (λo=>qP (some o) λt=>if (op== .mod)=false then (Nq (f*r') t).bind λ_=>(E0 f (f*r') t te op).map λu=> .o (.sh u)else none)
 (λlo hi=>if op= .add then te.asI λl h=>some (.accA (lo+l) (hi+h))else none)
 (if op= .or then te.asB (f*r') λ_=>some .accO else none)
noncomputable def SG(e:X)(Γ:Cx):Option xR:=
 (e.asBin λop a n=>if op= .mul then a.asList λl=>l.asCons λe r=>r.asNil (qP (tP f r' ct e Γ) λte=>qP (tP f r' ct n Γ) λtn=>tn.asI λa b=>if a=b/\0<=a/\a<=1000 then some (.olst (aw a.toNat te))else none)else none).or
 (e.asNew λg l=>if g=2 then l.asCons λe r=>r.asNil (qP (tP f r' ct e Γ) λte=>some (.oins 2 [35,3,4,5,6,7,8,9,10,11] (te::aw 9 (.i 0 0))))else none)
noncomputable def Jw(q:X)(Γ:Cx):Option Cx:=q.asCmp λop a b=>if op= .ne then a.asCall λg l=>if g=0 then l.asCons λu r=>r.asNil (u.asVar λv=>b.asLit λt=>t.casesOn none (λ_=>none) (λk=>if k=1 then qP (kJ (nth Γ v)) λt=>t.asB (f*r') λ_=>some (dp Γ v (.o (.sh (.bb 5))))else none) (λ_=>none) (λ_=>none) (λ_=>none) (λ_ _ _=>none) λ_ _ _=>none)else none else none
noncomputable def SI(o:xR):Ty:=match o with
 | .sh t=>t
 | .oins c ks l=> .ins c ks l
 | .olst l=> .lst l
noncomputable def iG(g:Cx):A6:=⟨some g,none⟩
noncomputable def MR(y:Nat)(t ti:Ty)(Γ:Cx):Option A6:=(kJ (nth Γ y)).bind λo=>o.casesOn (λ_=>none) (λ_ _ _=>none) λl=>ti.asI λlo hi=>if lo=hi/\Ub l.length lo hi=true then some (iG (dp Γ y (.o (.olst (dp l lo.toNat t)))))else none
noncomputable def MS(y k:Nat)(t:Ty)(Γ:Cx):Option A6:=(kJ (nth Γ y)).bind λo=>o.casesOn (λ_=>none) (λc ks l=>if (decide (ks.length<=900)&&d6 ks)=true/\ks.contains k=true/\ks.length=l.length then some (iG (dp Γ y (.o (.oins c ks (p_ ks l k t)))))else none) λ_=>none
noncomputable def Sl(ra:A6)(g:Cx->Option A6):Option A6:=ra.fall.elim (some ra) λΓa=>(g Γa).bind λrb=>(jO (join (f*r')) ra.ret rb.ret).map λt=>⟨rb.fall,t⟩
noncomputable def rA(ra rb:A6):Option A6:=(jO (z9 (f*r')) ra.fall rb.fall).bind λg=>(jO (join (f*r')) ra.ret rb.ret).map λt=>⟨g,t⟩
noncomputable def NQ:S->Cx->Option A6
 | .skip,Γ=>some (iG Γ)
 | .seq a b,Γ=>(NQ a Γ).bind λra=>Sl f r' ra (NQ b)
 | .asg y e,Γ=>qP (tP f r' ct e Γ) λt=>some (iG (dp Γ y (.o (.sh t))))
 | .asgO y e,Γ=>(SG f r' ct e Γ).map λt=>iG (dp Γ y (.o t))
 | .tupa ys e,Γ=>qP (tP f r' ct e Γ) λt=>(bindC ys t Γ).map iG
 | .setI a i e,Γ=>a.asVar λy=>qP (tP f r' ct e Γ) λt=>qP (tP f r' ct i Γ) λti=>MR y t ti Γ
 | .setA a k e,Γ=>a.asVar λy=>qP (tP f r' ct e Γ) λt=>MS y k t Γ
 | .aug y op e,Γ=>qP (tP f r' ct e Γ) λte=>(nth Γ y).bind λs=>(SO f r' op s te).map λu=>iG (dp Γ y u)
 | .iff q a b,Γ=>(tty f r' ct q Γ).bind λv=>v.casesOn ((NQ a Γ).bind λra=>(NQ b ((Jw f r' q Γ).getD Γ)).bind λrb=>rA f r' ra rb) λv=>v.casesOn (NQ b Γ) (NQ a Γ)
 | .forr tg src b,Γ=>(Qa f r' ct src Γ).bind λs=>s.casesOn (λts=>(FB (NQ b) tg ts Γ).map iG) (λn t=>(z_ (f*r') (NQ b) tg t n Γ).map iG) λt m=>(Se b).bind λl=>(IW (NQ b) (FG b) (tg++l) tg t m Γ).map iG
 | .ret e,Γ=>qP (tP f r' ct e Γ) λt=>some ⟨none,some t⟩
 | .frz y,Γ=>(kJ (nth Γ y)).map λo=>iG (dp Γ y (.o (.sh (SI o))))
 | _,_=>none
end
end
section
section
variable{w:Bd}{c:d5}{ct:Nat->List Ty->Option Ty}{B:Bs}{Γ:Cx}{ρ ρ':b6}
theorem IF{t:Ty}{x y:T}(hr:R w t x y):∀{l:List Ty} {xs ys:List T} (i:Nat),Rs w l xs ys->Rs w (dp l i t) (dp xs i x) (dp ys i y)
 |[],_,_,i,h=>E_ (Q:=λxs ys=>Rs w [] (dp xs i x) (dp ys i y)) h dS
 | a::l,_,_,i,h=>qN (Q:=λxs ys=>Rs w (dp (a::l) i t) (dp xs i x) (dp ys i y)) h λx1 y1 xs ys h1 h2=>by
  cases i with
  | zero=>exact aM hr h2
  | succ i=>exact aM h1 (IF hr i h2)
theorem n_{α:Type}{j k:Nat}{ks:List Nat}{a x:α}{l:List α}(e:j=k):p_ (j::ks) (a::l) k x=x::l:=if_pos e
theorem lb{α:Type}{j k:Nat}{ks:List Nat}{a x:α}{l:List α}(e:¬j=k):p_ (j::ks) (a::l) k x=a::p_ ks l k x:=if_neg e
theorem DI{t:Ty}{x y:T}(k:Nat)(hr:R w t x y):∀{ks:List Nat} {l:List Ty} {xs ys:List T},Rs w l xs ys->Rs w (p_ ks l k t) (p_ ks xs k x) (p_ ks ys k y)
 |[],_,_,_,h=>h
 | j::ks,[],_,_,h=>E_ (Q:=λxs ys=>Rs w [] (p_ (j::ks) xs k x) (p_ (j::ks) ys k y)) h dS
 | j::ks,a::l,_,_,h=>qN (Q:=λxs ys=>Rs w (p_ (j::ks) (a::l) k t) (p_ (j::ks) xs k x) (p_ (j::ks) ys k y)) h λx1 y1 xs ys h1 h2=>by
  by_cases e:j=k
  ·rw [n_ e,n_ e,n_ e];exact aM hr h2
  ·rw [lb e,lb e,lb e];exact aM h1 (DI k hr h2)
theorem yy{α β:Type}(g:α->β):∀(l:List α) (i:Nat) (x:α),dp (l.map g) i (g x)=(dp l i x).map g
 |[],_,_=>rfl
 | _::_,0,_=>rfl
 | a::l,i+1,x=>congrArg (g a:: ·) (yy g l i x)
theorem uI(k:Nat)(x:T):∀(ks:List Nat) (l:List T),ks.contains k=true->ks.length=l.length->upd.setFld ks (l.map O.sh) k (.sh x)=(ks,(p_ ks l k x).map O.sh)
 |[],_,h,_=>absurd h aO
 | _::_,[],_,h=>nomatch h
 | j::ks,a::l,h,hl=>by
  by_cases e:j=k
  ·rw [n_ e];exact if_pos e
  ·have h':ks.contains k=true:=(S6 (show ((k==j)||ks.contains k)=true from h)).resolve_left λq=>e (beq_iff_eq.mp q).symm
   rw [lb e]
   show (if j=k then _ else _)=_
   rw [if_neg e,uI k x ks l h' (b_.inj hl)];rfl
theorem e_:∀l:List T,O.toTs (l.map .sh)=l
 |[]=>rfl
 | a::l=>congrArg (a:: ·) (e_ l)
theorem T2{res:Cx}{ρ1 ρ1':b6}(h:RC w B res ρ1 ρ1'):P2 (GR w B (iG res)) (some (ρ1,none)) (some (ρ1',none)):= .mk (.fall ⟨_,rfl,h⟩)
theorem FR.gr{g:Cx}{o o':Option n4}(h:P2 (FR w B g) o o'):P2 (GR w B (iG g)) o o':=h.mono λa b h=>by
 obtain ⟨ρ,ρ',rfl,rfl,h⟩:=h;exact .fall ⟨_,rfl,h⟩
theorem Be{β:Type}{f:xR->Option β}{Q:Option O->Option O->β->Prop}(hc:RC w B Γ ρ ρ')(y:Nat)(k:∀o a b,RO w o a b->Ok (f o) (Q (some a) (some b))):Ok ((kJ (nth Γ y)).bind f) (Q (get ρ y) (get ρ' y)):=
 (jY hc y).bind λo ho=>by
  obtain ⟨a,b,e1,e2,h⟩:=ho
  rw [e1,e2];exact k o a b h
noncomputable def xK(op:n6)(G:Option O)(t:T):Option T:=(G.bind O.t?).bind λx=>nq op x t
theorem GW{t:Ty}{x y:T}{P:T->T->Prop}(hr:R w t x y)(k:∀a b,x= .int a->y= .int b->P x y):Ok (Nq w.n t) λ_=>P x y:=
 .alt (cW (Q:=λx' y' _=>x=x'->y=y'->P x y) hr (λl h a _ _=> .some (k a a))|>.mono λ_ h=>h rfl rfl)
 (.alt (cS (Q:=λx' y' _=>x=x'->y=y'->P x y) hr (λ_ _ _=> .some (k _ _))|>.mono λ_ h=>h rfl rfl)
 (gC (Q:=λx' y' _=>x=x'->y=y'->P x y) hr (λ_=> .some (k _ _))|>.mono λ_ h=>h rfl rfl))
theorem DA{op:n6}{k:Int}{t:T}(h:(op== .mod)=false):nq op (.int k) t=bK op (.int k) t:=by
 cases op<;>first | rfl | cases h
theorem LX(hw:w.Ok){op:n6}{s:Slot}{te:Ty}{A:Int×Int}{Q:(Nat->Bool)×(Nat->Bool)}{a b:Option O}{x y:T}(hs:zE w A Q s a b)(hr:R w te x y):Ok (SO w.f w.r op s te) λu=>P2 (λp q=>zE w A Q u (some (.sh p)) (some (.sh q))) (xK op a x) (xK op b y):=by
 cases s with
 | un=>exact .none
 | o o=>
  exact dQ (o:=some o) (Q:=λa b u=>P2 (λp q=>zE w A Q u (some (.sh p)) (some (.sh q))) (xK op a x) (xK op b y)) (.some hs) λt p q h=> .if1 λhm=>
   (GW (P:=λp q=>nq op p x=bK op p x/\nq op q y=bK op q y) h λa b e e'=>by subst e e';exact ⟨DA hm,DA hm⟩).bind λ_ e=> .map ((Dv hw h hr op).mono λu hu=>by
    show P2 _ (nq op p x) (nq op q y)
    rw [e.1,e.2];exact hu.mono λp q h=>uz h)
 | accA lo hi=>
  obtain ⟨k,k1,k2,rfl,rfl⟩:=hs
  refine .if1 λe=>e▸cW (Q:=λx y u=>P2 (λp q=>zE w A Q u (some (.sh p)) (some (.sh q))) (xK .add (iT (A.1+k)) x) (xK .add (iT (A.2+k)) y)) hr λl h j j1 j2=> .some (.mk ⟨k+j,cO k1 j1,cO k2 j2,congrArg iT (dh _ _ _),congrArg iT (dh _ _ _)⟩)
 | accO=>
  obtain ⟨P,rfl,rfl⟩:=hs
  refine .if1 λe=>e▸cS (Q:=λx y u=>P2 (λp q=>zE w A Q u (some (.sh p)) (some (.sh q))) (xK .or (iT (bI w.n λs=>Q.1 s||P s)) x) (xK .or (iT (bI w.n λs=>Q.2 s||P (w.sg s))) y)) hr λ_ U _=> .some (.mk ⟨λs=>P s||U s,congrArg iT ((ec ..).trans (bp λs _=>gS _ _ _)),congrArg iT ((ec ..).trans (bp λs _=>gS _ _ _))⟩)
noncomputable def E4(E N:Option O):Option O:=(E.bind O.t?).bind λx=>(N.bind O.int?).bind λk=>if -1000<=k/\k<=1000 then some (.lst (aw k.toNat (.sh x)))else ae
noncomputable def Sz(c:d5)(E:Option O):Option O:=((E.bind O.t?).bind λx=>(some []).map (x:: ·)).bind λl=>c.new 2 l
theorem Bh{t:Ty}{x y:T}(h:R w t x y):∀m,Rs w (aw m t) (aw m x) (aw m y)
 | 0=>dS
 | m+1=>aM h (Bh h m)
theorem On{t tn:Ty}{x y u v:T}(hr:R w t x y)(hn:R w tn u v):Ok (tn.asI λa b=>if a=b/\0<=a/\a<=1000 then some (xR.olst (aw a.toNat t))else none) λo=>P2 (RO w o) (E4 (some (.sh x)) (some (.sh u))) (E4 (some (.sh y)) (some (.sh v))):=
 cW (Q:=λu v o=>P2 (RO w o) (E4 (some (.sh x)) (some (.sh u))) (E4 (some (.sh y)) (some (.sh v)))) hn λa b k h1 h2=> .if1 λ⟨e,e1,e2⟩=>by
  obtain rfl:=dB e h1 h2
  have ee:∀x:T,E4 (some (.sh x)) (some (.sh (.int k)))=some (.lst ((aw k.toNat x).map .sh)):=λx=>(if_pos ⟨ap (by decide) e1,e2⟩).trans (congrArg (λl=>some (O.lst l)) HF.symm)
  rw [ee,ee]
  exact .some (.mk ⟨_,_,rfl,rfl,Bh hr _⟩)
theorem K1(hw:w.Ok)(hk:Fb w c ct)(hc:RC w B Γ ρ ρ')(e:X):Ok (SG w.f w.r ct e Γ) λo=>P2 (RO w o) (uA c e ρ) (uA c e ρ'):=
 .alt (HC (Q:=λe o=>P2 (RO w o) (uA c e ρ) (uA c e ρ')) λop a n=> .if1 λe=>e▸EK (Q:=λa o=>P2 (RO w o) (uA c (.bin .mul a n) ρ) (uA c (.bin .mul a n) ρ')) λl=>eO (Q:=λl o=>P2 (RO w o) (uA c (.bin .mul (.list l) n) ρ) (uA c (.bin .mul (.list l) n) ρ')) λe r=>tC (Q:=λr o=>P2 (RO w o) (uA c (.bin .mul (.list (.cons e r)) n) ρ) (uA c (.bin .mul (.list (.cons e r)) n) ρ')) (
  m8 (Q:=λE E' N N' o=>P2 (RO w o) (E4 E N) (E4 E' N')) (eR hw hk.ct hc e).o (eR hw hk.ct hc n).o λt tn x y u v hr hn=>On hr hn))
 (Hz (Q:=λe o=>P2 (RO w o) (uA c e ρ) (uA c e ρ')) λg l=> .if1 λe=>by
  subst e
  exact eO (Q:=λl o=>P2 (RO w o) (uA c (.new 2 l) ρ) (uA c (.new 2 l) ρ')) λe r=>tC (Q:=λr o=>P2 (RO w o) (uA c (.new 2 (.cons e r)) ρ) (uA c (.new 2 (.cons e r)) ρ')) (
  dQ (Q:=λE E' o=>P2 (RO w o) (Sz c E) (Sz c E')) (eR hw hk.ct hc e).o λt x y hr=> .some (by
   show P2 _ (c.new 2 [x]) (c.new 2 [y])
   rw [hk.new,hk.new]
   exact .mk ⟨_::aw 9 (.int 0),_::aw 9 (.int 0),rfl,rfl,aM hr (Bh (QC 0) 9)⟩)))
theorem AN{n:Nat}{P:Nat->Bool}(h:cnt n P=1):∃m,m<n/\∀s,s<n->P s=(s==m):=by
 obtain ⟨m,hm,h1⟩:=wL (n:=n) (P:=P) (λe=>by rw [e]at h;cases h)
 refine ⟨m,hm,λs hs=> ?_⟩
 have h2:=tx hm h1
 have h3:=eJ.mp (b_.inj (h2.symm.trans h)) s hs
 by_cases e:s=m
 ·rw [e,h1];exact (beq_self_eq_true m).symm
 ·have e2:(s==m)=false:=beq_eq_false_iff_ne.mpr e
  rw [e2,Bool.not_false,dF]at h3;rw [e2,h3]
theorem OD{b:Bool}(h:(!b)=false):b=true:=by
 cases b
 ·cases h
 ·rfl
theorem sX:∀(ρ:b6) (v:Nat) (o:O),get ρ v=some o->fO ρ v o=ρ
 |[],_,_,_=>rfl
 | some a::ρ,0,o,h=>congrArg (· ::ρ) h.symm
 | none::_,0,_,h=>no h
 | a::ρ,v+1,o,h=>congrArg (a:: ·) (sX ρ v o h)
noncomputable def TV(c:d5)(G:Option O):Option Bool:=(((G.bind O.t?).bind λx=>(some []).map (x:: ·)).bind λl=>mP (c.call 0 l)).bind O.t? |>.bind λx=>((some (O.sh (.int 1))).bind O.t?).bind λy=>gP .ne x y
theorem D3(hk:Fb w c ct)(hc:RC w B Γ ρ ρ'){q:X}(h1:tst c q ρ=some false):RC w B ((Jw w.f w.r q Γ).getD Γ) ρ ρ':=by
 have key:Ok (Jw w.f w.r q Γ) λΓ'=>tst c q ρ=some false->RC w B Γ' ρ ρ':=
  HB (Q:=λq Γ'=>tst c q ρ=some false->RC w B Γ' ρ ρ') λop a b=> .if1 λe=>e▸px (Q:=λa Γ'=>tst c (.cmp .ne a b) ρ=some false->RC w B Γ' ρ ρ') λg l=> .if1 λe=>e▸eO (Q:=λl Γ'=>tst c (.cmp .ne (.call 0 l) b) ρ=some false->RC w B Γ' ρ ρ') λu r=>tC (Q:=λr Γ'=>tst c (.cmp .ne (.call 0 (.cons u r)) b) ρ=some false->RC w B Γ' ρ ρ') (
  fU (Q:=λu Γ'=>tst c (.cmp .ne (.call 0 (.cons u .nil)) b) ρ=some false->RC w B Γ' ρ ρ') λv=>HA (Q:=λb Γ'=>tst c (.cmp .ne (.call 0 (.cons (.var v) .nil)) b) ρ=some false->RC w B Γ' ρ ρ') λt=>by
   cases t<;>first | exact .none | skip
   refine .if1 λe=>e▸?_
   show Ok _ λΓ'=>TV c (get ρ v)=some false->_
   refine Be (Q:=λG G' Γ'=>get ρ v=G->get ρ' v=G'->TV c G=some false->RC w B Γ' ρ ρ') hc v (λo a b ho=> ?_)|>.mono λ_ h=>h rfl rfl
   cases o<;>first | exact .none | skip
   obtain ⟨x,y,rfl,rfl,hr⟩:=ho
   refine cS (Q:=λx y Γ'=>get ρ v=some (.sh x)->get ρ' v=some (.sh y)->TV c (some (.sh x))=some false->RC w B Γ' ρ ρ') hr λ_ P _=> .some λe1 e2 h=> ?_
   have h3:TV c (some (.sh (.int (bI w.n P))))=some (!((cnt w.n P:Int)==1)):=by
    show ((mP (c.call 0 [.int (bI w.n P)])).bind O.t?).bind _=_
    rw [hk.cnt P];rfl
   have hone:cnt w.n P=1:=uh.inj (beq_iff_eq.mp (OD (ah.inj (h3.symm.trans h))))
   have h4:=hc.setT (i:=v) (QD (w:=w) (k:=5) (P:=P) (AN hone))
   rw [sX ρ v _ e1,sX ρ' v _ e2]at h4
   exact h4)
 revert key
 generalize Jw w.f w.r q Γ=o
 intro key
 cases o
 ·exact hc
 ·exact key _ rfl h1
noncomputable def zJ(ρ:b6)(y:Nat)(E I G:Option O):Option n4:=(E.bind O.t?).bind λt=>(G.bind λr=>(I.bind O.int?).bind λn=>match r with
  | .lst l=>(cr n l.length).bind λj=>some (fO ρ y (.lst (dp l j (.sh t))))
  | _=>ae).map λr=>(r,none)
theorem J5(hc:RC w B Γ ρ ρ'){y:Nat}{t ti:Ty}{x z u v:T}(hr:R w t x z)(hi:R w ti u v):Ok (MR y t ti Γ) λres=>P2 (GR w B res) (zJ ρ y (some (.sh x)) (some (.sh u)) (get ρ y)) (zJ ρ' y (some (.sh z)) (some (.sh v)) (get ρ' y)):=
 Be (Q:=λG G' res=>P2 (GR w B res) (zJ ρ y (some (.sh x)) (some (.sh u)) G) (zJ ρ' y (some (.sh z)) (some (.sh v)) G')) hc y λo a b ho=>by
  cases o<;>first | exact .none | skip
  obtain ⟨xs,ys,rfl,rfl,hs⟩:=ho
  refine cW (Q:=λu v res=>P2 (GR w B res) (zJ ρ y (some (.sh x)) (some (.sh u)) (some (.lst (xs.map .sh)))) (zJ ρ' y (some (.sh z)) (some (.sh v)) (some (.lst (ys.map .sh))))) hi λlo hi k h1 h2=> .if1 λ⟨e,e'⟩=> .some ?_
  obtain rfl:=dB e h1 h2
  have ee:∀(ρ:b6) (x:T) (xs:List T),xs.length=_->zJ ρ y (some (.sh x)) (some (.sh (.int k))) (some (.lst (xs.map .sh)))=some (fO ρ y (.lst ((dp xs k.toNat x).map .sh)),none):=λρ x xs hl=>by
   show (((cr k (xs.map O.sh).length).bind _)).map _=_
   rw [aq,hl,(H1 e' h1 h2).1,<-yy];rfl
  rw [ee ρ x xs (g8 hs).1,ee ρ' z ys (g8 hs).2]
  exact T2 (hc.setO ⟨_,_,rfl,rfl,IF hr _ hs⟩)
noncomputable def ui(ρ:b6)(y k:Nat)(E G:Option O):Option n4:=(E.bind O.t?).bind λt=>(G.bind λr=>match r with
  | .ins q ks l=>if decide (ks.length<=900)&&d6 ks then some (fO ρ y (.ins q (upd.setFld ks l k (.sh t)).1 (upd.setFld ks l k (.sh t)).2))else ae
  | _=>ae).map λr=>(r,none)
theorem F_(hc:RC w B Γ ρ ρ'){y k:Nat}{t:Ty}{x z:T}(hr:R w t x z):Ok (MS y k t Γ) λres=>P2 (GR w B res) (ui ρ y k (some (.sh x)) (get ρ y)) (ui ρ' y k (some (.sh z)) (get ρ' y)):=
 Be (Q:=λG G' res=>P2 (GR w B res) (ui ρ y k (some (.sh x)) G) (ui ρ' y k (some (.sh z)) G')) hc y λo a b ho=>by
  match o,ho with
  | .sh _,_=>exact .none
  | .olst _,_=>exact .none
  | .oins q ks l,⟨xs,ys,ea,eb,hs⟩=>
  subst ea eb
  refine .if1 λ⟨e1,e2,e3⟩=> .some ?_
  have ee:∀(ρ:b6) (x:T) (xs:List T),xs.length=l.length->ui ρ y k (some (.sh x)) (some (.ins q ks (xs.map .sh)))=some (fO ρ y (.ins q ks ((p_ ks xs k x).map .sh)),none):=λρ x xs hl=>by
   show bZ _ (if (decide (ks.length<=900)&&d6 ks)=true then _ else _)=_
   rw [if_pos e1,uI k x ks xs e2 (e3.trans hl.symm)];rfl
  rw [ee ρ x xs (g8 hs).1,ee ρ' z ys (g8 hs).2]
  exact T2 (hc.setO ⟨_,_,rfl,rfl,DI k hr hs⟩)
theorem QU(hb:Mf w (ex c b) fb){ra:A6}{o o':Option n4}(ha:P2 (GR w B ra) o o'):Ok (Sl w.f w.r ra fb) λres=>P2 (GR w B res) (o.bind λo=>match o.2 with | some v=>some (o.1,some v) | ae=>ex c b o.1) (o'.bind λo=>match o.2 with | some v=>some (o.1,some v) | ae=>ex c b o.1):=by
 obtain ⟨p,q,rfl,rfl,h⟩:=ha
 obtain ⟨fl,rt⟩:=ra
 cases h with
 | fall h=>
  obtain ⟨Γa,rfl,h⟩:=h
  exact (hb Γa B _ _ h).bind λrb hrb=> .map λt et=>hrb.mono λp q h=>by
   cases h with
   | fall h=>exact .fall h
   | ret h=>exact .ret (Qm (λx y h=>pB x y _ _ h) h t et)
 | ret h=>
  cases fl with
  | none=>exact .some (.mk (.ret h))
  | some Γa=>exact Ok.bind (P:=λ_=>True) xL λrb _=> .map λt et=> .mk (.ret (Qn (λx y h=>pC x y _ _ h) h t et))
theorem En{ra rb:A6}{o o':Option n4}(ha:P2 (GR w B ra) o o'):Ok (rA w.f w.r ra rb) λres=>P2 (GR w B res) o o':=λres e=>by
 obtain ⟨g,e1,e⟩:=bind_some e
 obtain ⟨t,e2,rfl⟩:=aT e
 exact ha.mono λp q h=>by
  cases h with
  | fall h=>exact .fall (Qn (λx y h=>CZ h) h g e1)
  | ret h=>exact .ret (Qn (λx y h=>pC x y _ _ h) h t e2)
theorem Em{ra rb:A6}{o o':Option n4}(ha:P2 (GR w B rb) o o'):Ok (rA w.f w.r ra rb) λres=>P2 (GR w B res) o o':=λres e=>by
 obtain ⟨g,e1,e⟩:=bind_some e
 obtain ⟨t,e2,rfl⟩:=aT e
 exact ha.mono λp q h=>by
  cases h with
  | fall h=>exact .fall (Qm (λx y h=>CY h) h g e1)
  | ret h=>exact .ret (Qm (λx y h=>pB x y _ _ h) h t e2)
theorem Ru(hk:Fb w c ct){q:X}{a b:S}{fa fb:Cx->Option A6}(hw:w.Ok)(ha:Mf w (ex c a) fa)(hb:Mf w (ex c b) fb):Mf w (ex c (.iff q a b)) λΓ=>(tty w.f w.r ct q Γ).bind λv=>v.casesOn ((fa Γ).bind λra=>(fb ((Jw w.f w.r q Γ).getD Γ)).bind λrb=>rA w.f w.r ra rb) λv=>v.casesOn (fb Γ) (fa Γ):=
 λΓ B ρ ρ' hc=>(eR hw hk.ct hc q).t.bind λv hv=>by
  obtain ⟨z,e1,e2,h⟩:=hv
  show Ok _ λres=>P2 _ ((tst c q ρ).bind λv=>if v then ex c a ρ else ex c b ρ) ((tst c q ρ').bind λv=>if v then ex c a ρ' else ex c b ρ')
  cases z with
  | true=>
   rw [e1,e2]
   cases v with
   | none=>exact (ha Γ B ρ ρ' hc).bind λra h=>Ok.bind (P:=λ_=>True) xL λrb _=>En h
   | some v=>cases h v rfl;exact ha Γ B ρ ρ' hc
  | false=>
   have hc2:=D3 hk hc e1
   rw [e1,e2]
   cases v with
   | none=>exact Ok.bind (P:=λ_=>True) xL λra _=>(hb _ B ρ ρ' hc2).bind λrb h=>Em h
   | some v=>cases h v rfl;exact hb Γ B ρ ρ' hc
theorem Ry(hw:w.Ok)(hk:Fb w c ct){tg:List Nat}{src:X}{b:S}{fb:Cx->Option A6}(hb:Mf w (ex c b) fb):Mf w (ex c (.forr tg src b)) λΓ=>(Qa w.f w.r ct src Γ).bind λs=>s.casesOn (λts=>(FB fb tg ts Γ).map iG) (λn t=>(z_ (w.f*w.r) fb tg t n Γ).map iG) λt m=>(Se b).bind λl=>(IW fb (FG b) (tg++l) tg t m Γ).map iG:=
 λΓ B ρ ρ' hc=>(JY hw hk.ct hc src).bind λs hs=>by
  show Ok _ λres=>P2 _ ((Ic (ev c src ρ)).bind λl=>fQ (ex c b) tg l ρ) ((Ic (ev c src ρ')).bind λl=>fQ (ex c b) tg l ρ')
  cases s with
  | items ts=>obtain ⟨xs,ys,e1,e2,h⟩:=hs;rw [e1,e2];exact .map ((C7 hb h hc).mono λg h=>FR.gr h)
  | upto n t=>obtain ⟨xs,e1,e2,h1,h2⟩:=hs;rw [e1,e2];exact .map ((s_ hb h1 h2 hc).mono λg h=>FR.gr h)
  | prm t m=>
   obtain ⟨ps,qs,e1,e2,h1,h2,h3⟩:=hs
   rw [e1,e2]
   refine Ok.bind (P:=λl=>∀i,i∉l->∀ρ,xM i ρ (ex c b ρ)) (λl e i=>NV c i b l e) λl hl=> .map ((Gn hw hb (λρ i hi=>hl i (λq=> ?_) ρ) (λi hi q=> ?_) hc h1 h2 h3).mono λg h=>FR.gr h)
   ·rw [lw.mpr (ay _ q)]at hi;cases hi
   ·rw [lw.mpr (aF _ q)]at hi;cases hi
theorem O8{o:xR}{a b:O}(h:RO w o a b):R w (SI o) a.toT b.toT:=by
 cases o with
 | sh t=>obtain ⟨x,y,rfl,rfl,h⟩:=h;exact h
 | oins cc ks l=>obtain ⟨xs,ys,rfl,rfl,h⟩:=h;exact ⟨xs,ys,congrArg (T.inst cc ks) (e_ xs),congrArg (T.inst cc ks) (e_ ys),h⟩
 | olst l=>obtain ⟨xs,ys,rfl,rfl,h⟩:=h;exact ⟨xs,ys,congrArg T.list (e_ xs),congrArg T.list (e_ ys),h⟩
theorem Pt(hw:w.Ok)(hk:Fb w c ct)(s:S):Mf w (ex c s) (NQ w.f w.r ct s):=by
 induction s with
 | skip=>exact λΓ B ρ ρ' hc=> .some (T2 hc)
 | seq a b ha hb=>exact λΓ B ρ ρ' hc=>(ha Γ B ρ ρ' hc).bind λra h=>QU hb h
 | asg y e=>exact λΓ B ρ ρ' hc=>dQ (Q:=λX X' res=>P2 (GR w B res) ((X.bind O.t?).map λt=>(fO ρ y (.sh t),none)) ((X'.bind O.t?).map λt=>(fO ρ' y (.sh t),none))) (eR hw hk.ct hc e).o λt x z hr=> .some (T2 (hc.setT hr))
 | asgO y e=>exact λΓ B ρ ρ' hc=> .map ((K1 hw hk hc e).mono λt ht=>ht.map λa b h=> .fall ⟨_,rfl,hc.setO h⟩)
 | tupa ys e=>exact λΓ B ρ ρ' hc=>dQ (Q:=λX X' res=>P2 (GR w B res) ((X.bind O.t?).bind λt=>(dz ys t ρ).map λr=>(r,none)) ((X'.bind O.t?).bind λt=>(dz ys t ρ').map λr=>(r,none))) (eR hw hk.ct hc e).o λt x z hr=> .map ((tA hr hc).mono λg h=>h.map λa b h=> .fall ⟨_,rfl,h⟩)
 | setI a i e=>exact λΓ B ρ ρ' hc=>fU (Q:=λa res=>P2 (GR w B res) (ex c (.setI a i e) ρ) (ex c (.setI a i e) ρ')) λy=>m8 (Q:=λE E' I I' res=>P2 (GR w B res) (zJ ρ y E I (get ρ y)) (zJ ρ' y E' I' (get ρ' y))) (eR hw hk.ct hc e).o (eR hw hk.ct hc i).o λt ti x z u v hr hi=>J5 hc hr hi
 | setA a k e=>exact λΓ B ρ ρ' hc=>fU (Q:=λa res=>P2 (GR w B res) (ex c (.setA a k e) ρ) (ex c (.setA a k e) ρ')) λy=>dQ (Q:=λE E' res=>P2 (GR w B res) (ui ρ y k E (get ρ y)) (ui ρ' y k E' (get ρ' y))) (eR hw hk.ct hc e).o λt x z hr=>F_ hc hr
 | aug y op e=>
  exact λΓ B ρ ρ' hc=>dQ (Q:=λE E' res=>P2 (GR w B res) (((get ρ y).bind O.t?).bind λx=>(E.bind O.t?).bind λt=>(nq op x t).map λv=>(fO ρ y (.sh v),none)) (((get ρ' y).bind O.t?).bind λx=>(E'.bind O.t?).bind λt=>(nq op x t).map λv=>(fO ρ' y (.sh v),none))) (eR hw hk.ct hc e).o λt x z hr=>
   Ok.bind (P:=λs=>zE w (B.a y) (B.o y) s (get ρ y) (get ρ' y)) (λs e=>hc.at_ y s e) λs hs=> .map ((LX hw hs hr).mono λu hu=>by
    have e:∀(ρ:b6) (x:T),(((get ρ y).bind O.t?).bind λv=>((some (O.sh x)).bind O.t?).bind λt=>(nq op v t).map λv=>(fO ρ y (.sh v),ae))=(xK op (get ρ y) x).map λv=>(fO ρ y (.sh v),(ae:Option T)):=λρ x=>by
     unfold xK
     cases (get ρ y).bind O.t? <;>rfl
    rw [e,e]
    exact hu.map λp q h=> .fall ⟨_,rfl,hc.set h⟩)
 | iff q a b ha hb=>exact Ru hk hw ha hb
 | forr tg src b hb=>exact Ry hw hk hb
 | ret e=>exact λΓ B ρ ρ' hc=>dQ (Q:=λX X' res=>P2 (GR w B res) ((X.bind O.t?).map λt=>(ρ,some t)) ((X'.bind O.t?).map λt=>(ρ',some t))) (eR hw hk.ct hc e).o λt x z hr=> .some (.mk (.ret ⟨_,rfl,hr⟩))
 | frz y=>exact λΓ B ρ ρ' hc=> .map ((jY hc y).mono λo ho=>ho.map λa b h=> .fall ⟨_,rfl,hc.setT (O8 h)⟩)
 | _=>exact λΓ B ρ ρ' hc=> .none
end
noncomputable def Nz(f r:Nat)(ct:Nat->List Ty->Option Ty)(F:Fn)(ts:List Ty):Option Ty:=
 if ts.length=F.n then (NQ f r ct F.body (ts.map (λt=> .o (.sh t))++aw (F.slots - F.n) .un)).bind λres=>res.fall.elim res.ret λ_=>none else none
noncomputable def vP(f r:Nat)(man:Nat->List Ty->Option Ty):Nat->Nat->List Ty->Option Ty
 | 0,g,ts=>man g ts
 | k+1,g,ts=>(man g ts).or ((br.fn g).bind λF=>Nz f r (vP f r man k) F ts)
section
variable{w:Bd}
theorem yv{m:Nat}:∀{ts:List Ty} {xs ys:List T},Rs w ts xs ys->RC w ⟨λ_=>(0,0),λ_=>(λ_=>false,λ_=>false)⟩ (ts.map (λt=> .o (.sh t))++aw m .un) (xs.map (λt=>some (.sh t))++aw m none) (ys.map (λt=>some (.sh t))++aw m none)
 |[],_,_,h=>E_ (Q:=λxs ys=>RC w _ (aw m .un) (xs.map (λt=>some (.sh t))++aw m none) (ys.map (λt=>some (.sh t))++aw m none)) h
  ⟨gA.trans gA.symm,gA.trans gA.symm,λi sl hi=>by
   obtain rfl:sl= .un:=List.eq_of_mem_replicate (CE hi)
   trivial⟩
 | t::ts,_,_,h=>qN (Q:=λxs ys=>RC w _ (Slot.o (.sh t)::(ts.map (λt=> .o (.sh t))++aw m .un)) (xs.map (λt=>some (.sh t))++aw m none) (ys.map (λt=>some (.sh t))++aw m none)) h λx y xs ys h1 h2=>
  have ih:=yv (m:=m) h2
  ⟨congrArg (· +1) ih.l1,congrArg (· +1) ih.l2,λi sl hi=>by
   cases i with
   | zero=>cases hi;exact uz h1
   | succ i=>exact ih.at_ i sl hi⟩
theorem Ds{d g:Nat}{F:Fn}(hF:br.fn g=some F)(l:List T):(bj br (d+1)).call g l=(ew F l).bind λρ=>(ex (bj br d) F.body ρ).map zK:=by
 show ((br.fn g).bind _)=_
 rw [hF];rfl
theorem Hk(hw:w.Ok){d:Nat}{ct:Nat->List Ty->Option Ty}(hk:Fb w (bj br d) ct){g:Nat}{F:Fn}(hF:br.fn g=some F){ts:List Ty}{xs ys:List T}(hr:Rs w ts xs ys):Ok (Nz w.f w.r ct F ts) λt=>P2 (R w t) ((bj br (d+1)).call g xs) ((bj br (d+1)).call g ys):=
 .if1 λhl=>(Pt hw hk F.body _ _ _ _ (yv hr)).bind λres h=>by
  rw [Ds hF,Ds hF]
  have i:∀xs:List T,xs.length=ts.length->ew F xs=some (xs.map (λt=>some (.sh t))++aw (F.slots - F.n) none):=λxs h=>if_pos (h.trans hl)
  rw [i xs (g8 hr).1,i ys (g8 hr).2]
  obtain ⟨p,q,e1,e2,h⟩:=h
  show Ok _ λt=>P2 (R w t) ((ex (bj br d) F.body _).map zK) ((ex (bj br d) F.body _).map zK)
  rw [e1,e2]
  cases h with
  | fall h=>obtain ⟨Γ,e,_⟩:=h;rw [e];exact .none
  | ret h=>
   obtain ⟨t,e,h⟩:=h
   rw [e]
   cases res.fall
   ·exact .some (.mk h)
   ·exact .none
theorem dY{c:d5}{ρ:b6}{y k:Nat}{e:X}{t:T}{q:Nat}{ks:List Nat}{l:List O}(h:ev c e ρ=some (.sh t))(g:get ρ y=some (.ins q ks l))(hk:(decide (ks.length<=900)&&d6 ks)=true):
  ex c (.setA (.var y) k e) ρ=some (fO ρ y (.ins q (upd.setFld ks l k (.sh t)).1 (upd.setFld ks l k (.sh t)).2),none):=by
 show (((ev c e ρ).bind O.t?).bind λt=>(((get ρ y).bind _).map _))=_
 rw [h,g]
 show bZ _ (if (decide (ks.length<=900)&&d6 ks)=true then _ else _)=_
 rw [if_pos hk];rfl
theorem rq{d f:Nat}{F:Fn}{l:List T}{ρ ρ':b6}{o:O}(h:br.init f=some F)(hr:ew F (.none::l)=some ρ)(he:ex (bj br d) F.body (fO ρ 0 (.ins f [] []))=some (ρ',none))(ho:get ρ' 0=some o):(bj br (d+1)).new f l=some o:=by
 show ((br.init f).bind _)=_
 rw [h];show ((ew F (.none::l)).bind _)=_
 rw [hr];show ((ex _ _ _).bind _)=_
 rw [he];exact ho
theorem uU(d:Nat)(x:T):(bj br (d+1)).new 2 [x]=some (.ins 2 [35,3,4,5,6,7,8,9,10,11] (.sh x::aw 9 (.sh (.int 0)))):=
 rq (F:=pU) (ρ:=[some (.sh .none),some (.sh x)]) rfl rfl (ρ':=[some (.ins 2 [35,3,4,5,6,7,8,9,10,11] (.sh x::aw 9 (.sh (.int 0)))),some (.sh x)]) rfl rfl
theorem RJ{d:Nat}(hw:w.Ok){ct:Nat->List Ty->Option Ty}(h:qh w (bj br (d+1)) ct):Fb w (bj br (d+1)) ct:=
 ⟨h,λP=>da d w.n P (aC hw.shape.n_le (by decide)),λx=>uU d x⟩
theorem lL(hw:w.Ok){man:Nat->List Ty->Option Ty}{d:Nat}(hm:qh w (bj br (d+1)) man):∀k,qh w (bj br (d+k+1)) (vP w.f w.r man k)
 | 0=>hm
 | k+1=>λg ts xs ys hr=> .alt ((hm g ts xs ys hr).mono λt ht=>by
   obtain ⟨x,y,h1,h2,h⟩:=ht
   exact ⟨x,y,b8 (bf (bJ d (k+1))) h1,b8 (bf (bJ d (k+1))) h2,h⟩)
  (Ok.bind (P:=λF=>br.fn g=some F) (λF e=>e) λF hF=>Hk hw (RJ hw (lL hw hm k)) hF hr)
end
end
theorem lC{a b:Int}(h:(small a||small b)=true):bK .mul (.int a) (.int b)=some (.int (a*b)):=if_pos h
theorem dH{a b:Int}(h:(b==0|| !small b)=false):bK .fdv (.int a) (.int b)=some (.int (a.fdiv b)):=if_neg (by rw [h];decide)
theorem g6{a b:Int}(h:(b==0)=false):bK .mod (.int a) (.int b)=some (.int (a.fmod b)):=if_neg (by rw [h];decide)
theorem qC{a b:Int}(h:(decide (0<=b)&&decide (b<=1000)&&small a)=true):bK .shl (.int a) (.int b)=some (.int (a*2^b.toNat)):=if_pos h
theorem ni{a b:Int}(h:decide (0<=b)=true):bK .shr (.int a) (.int b)=some (.int (a.fdiv (2^b.toNat))):=if_pos h
theorem n9{a:Int}(h1: -1000000000000<a)(h2:a<1000000000000):small a=true:=by unfold small;simp only [aB,decide_eq_true_eq];omega
theorem sS{n:Nat}(P:Nat->Bool)(h:n<=20):small (bI n P)=true:=by
 have h1:=dK n P
 have h2:=RU n P
 have h3:(2:Int)^n<=2^20:=by
  rw [<-kbt_cast,<-kbt_cast];exact aW.mpr (Ff (by decide) h)
 exact n9 (by omega) (by have:(2:Int)^20=1048576:=(by decide);omega)
structure qg(G:T)(f r:Nat):Prop where
 files:bV 1 (.sh G)=some (.sh (.int f))
 ranks:bV 21 (.sh G)=some (.sh (.int r))
 size:bV 22 (.sh G)=some (.sh (.int (f*r:Nat)))
 full:bV 23 (.sh G)=some (.sh (.int (bI (f*r) λ_=>true)))
 fmasks:bV 15 (.sh G)=some (.sh (mX f λj=>bT f r (j8 f j)))
 rmasks:bV 16 (.sh G)=some (.sh (mX r λj=>bT f r (w7 f j)))
 rays:bV 17 (.sh G)=some (.sh (mX 8 λd=>mX (f*r) λt=>bT f r (dG f d t)))
 pawn:bV 19 (.sh G)=some (.sh (.list [mX (f*r) λt=>bT f r (f9 f 0 t),mX (f*r) λt=>bT f r (f9 f 1 t)]))
 king:bV 13 (.sh G)=some (.sh (mX (f*r) λt=>bT f r (w_ f t)))
 dbl:bV 14 (.sh G)=some (.sh (.bool (decide (5<=r))))
theorem jB(f r:Nat):qg (eE f r) f r:=⟨rfl,rfl,rfl,rfl,rfl,rfl,rfl,rfl,rfl,rfl⟩
section
noncomputable def QA(k:Nat)(P:Nat->Bool):Nat->Bool:=λs=>decide (k<=s)&&P (s - k)
noncomputable def T6(n k:Nat)(P:Nat->Bool):Nat->Bool:=λs=>decide (s+k<n)&&P (s+k)
noncomputable def NO(n k c:Nat)(P:Nat->Bool):Nat->Bool:=if c=0 then QA k P else T6 n k P
theorem E1{a b:Prop}[Decidable a][Decidable b]{x y:Bool}(h:a↔b)(k:a->x=y):(decide a&&x)=(decide b&&y):=by
 by_cases q:a
 ·rw [k q,decide_eq_true q,decide_eq_true (h.mp q)]
 ·rw [decide_eq_false q,decide_eq_false λz=>q (h.mpr z)];rfl
theorem Oh:∀f∈[3,4],∀r∈[4,5],∀m∈[1,2,4],∀s,s<f*r->(m*f<=sg f r s↔s+m*f<f*r)/\(s+m*f<f*r->sg f r (s+m*f)=sg f r s - m*f)/\(m*f<=s↔sg f r s+m*f<f*r)/\(m*f<=s->sg f r (s - m*f)=sg f r s+m*f):=by decide+kernel
section
variable{f r:Nat}
theorem EN(h:bX f r){m c s:Nat}(hm:m∈[1,2,4])(hc:c<=1)(hs:s<f*r)(P:Nat->Bool):NO (f*r) (m*f) (1 - c) (λs=>P (sg f r s)) s=NO (f*r) (m*f) c P (sg f r s):=by
 obtain ⟨a,b,c',d⟩:=Oh f h.mem.1 r h.mem.2 m hm s hs
 rcases aY.mp hc with rfl | rfl
 ·exact E1 a.symm λq=>congrArg P (b q)
 ·exact E1 c' λq=>congrArg P (d q)
noncomputable def Fs(f n:Nat)(P:Nat->Bool):Nat->Bool:=λs=>QA 1 (λu=>P u&& !(u%f==f - 1)) s||T6 n 1 (λu=>P u&& !(u%f==0)) s
noncomputable def TY(f n s:Nat):Bool:=decide (1<=s)&& !((s - 1)%f==f - 1)
noncomputable def TW(f n s:Nat):Bool:=decide (s+1<n)&& !((s+1)%f==0)
theorem OI:∀f∈[3,4],∀r∈[4,5],∀s,s<f*r->(TY f (f*r) s=TY f (f*r) (sg f r s)/\TW f (f*r) s=TW f (f*r) (sg f r s))/\(TY f (f*r) s=true->sg f r (s - 1)=sg f r s - 1)/\(TW f (f*r) s=true->sg f r (s+1)=sg f r s+1):=by decide+kernel
theorem zx{a b c:Bool}:(a&&(b&&c))=((a&&c)&&b):=by cases a<;>cases b<;>cases c<;>rfl
theorem Qu{a b x y:Bool}(h:a=b)(k:a=true->x=y):(a&&x)=(b&&y):=by
 cases a
 ·rw [<-h];rfl
 ·rw [<-h,k rfl]
theorem Nb(h:bX f r){s:Nat}(hs:s<f*r)(P:Nat->Bool):Fs f (f*r) (λs=>P (sg f r s)) s=Fs f (f*r) P (sg f r s):=by
 obtain ⟨⟨a,b⟩,c,d⟩:=OI f h.mem.1 r h.mem.2 s hs
 have e:∀P s,Fs f (f*r) P s=((TY f (f*r) s&&P (s - 1))||(TW f (f*r) s&&P (s+1))):=λP s=>congr (congrArg or zx) zx
 rw [e,e]
 exact congr (congrArg or (Qu a λq=>congrArg P (c q))) (Qu b λq=>congrArg P (d q))
noncomputable def iL(n f c:Nat)(Q:Nat->Bool)(m:Nat):Nat->Bool:=λs=>Q s||NO n (m*f) c Q s
noncomputable def wZ(r:Nat):List Nat:=if r=4 then [1,2]else [1,2,4]
noncomputable def QM(f r c:Nat)(P:Nat->Bool):Nat->Bool:=(wZ r).foldl (iL (f*r) f c) P
theorem j3{n k c:Nat}{P Q:Nat->Bool}(h:∀s,s<n->P s=Q s){s:Nat}(hs:s<n):NO n k c P s=NO n k c Q s:=by
 unfold NO;split
 ·exact E1 Iff.rfl λ_=>h _ (aC (bE s k) hs)
 ·exact E1 Iff.rfl λq=>h _ q
theorem Nu(h:bX f r){c:Nat}(hc:c<=1):∀(l:List Nat),(∀m,m∈l->m∈[1,2,4])->∀(P Q:Nat->Bool),(∀s,s<f*r->Q s=P (sg f r s))->∀s,s<f*r->l.foldl (iL (f*r) f (1 - c)) Q s=l.foldl (iL (f*r) f c) P (sg f r s)
 |[],_,P,Q,e,s,hs=>e s hs
 | m::l,hl,P,Q,e,s,hs=>Nu h hc l (λm hm=>hl m (ao _ hm)) _ _ (λs hs=>by
  unfold iL
  rw [e s hs,j3 e hs,EN h (hl m ak) hc hs]) s hs
theorem DX(r:Nat):∀m,m∈wZ r->m∈[1,2,4]:=by
 unfold wZ;split<;>decide
theorem Im(h:bX f r){c s:Nat}(hc:c<=1)(hs:s<f*r)(P:Nat->Bool):QM f r (1 - c) (λs=>P (sg f r s)) s=QM f r c P (sg f r s):=
 Nu h hc (wZ r) (DX r) P _ (λ_ _=>rfl) s hs
noncomputable def JE(d:Nat):Bool:=d==0||d==1||d==4||d==7
noncomputable def opp(d:Nat):Nat:=match d with | 0=>2 | 1=>3 | 2=>0 | 3=>1 | 4=>6 | 5=>7 | 6=>4 | 7=>5 | d=>d
noncomputable def lD(d u v:Nat):Bool:=if JE d then decide (u<=v)else decide (v<=u)
noncomputable def kO(f n d t:Nat)(O:Nat->Bool)(u:Nat):Bool:=dG f d t u&&(ar n).all λv=> !(dG f d t v&&O v)||(if JE d then decide (u<=v)else decide (v<=u))
theorem oE{d a b:Nat}(h:dG f d a b=true):d<8:=by
 match d with
 | 0 | 1 | 2 | 3 | 4 | 5 | 6 | 7=>decide
 | _+8=>exact absurd h aO
noncomputable def Nn(f d u v:Nat):Bool:=match d%4,decide (d<4)with
 | 0,true | 2,true=>dx f u v==0
 | _,true=>dy f u v==0
 | 0,false | 2,false=>dx f u v==dy f u v
 | _,false=>dx f u v== -dy f u v
theorem SD(a b c:Int):a - b=(a - c) -(b - c):=by omega
theorem GP{d t u v:Nat}(h1:dG f d t u=true)(h2:dG f d t v=true):Nn f d u v=true:=by
 have ex:dx f u v=dx f t v - dx f t u:=SD _ _ _
 have ey:dy f u v=dy f t v - dy f t u:=SD _ _ _
 have key:∀{a b a' b':Int},a= -b->a'= -b'->a - a'= -(b - b'):=λh k=>by rw [h,k,mU,Int.sub_neg,lq,Jq]
 match d,h1,h2 with
 | 0,h1,h2 | 2,h1,h2 | 1,h1,h2 | 3,h1,h2=>
  have a:=beq_iff_eq.mp (cD h1).1
  have b:=beq_iff_eq.mp (cD h2).1
  exact beq_iff_eq.mpr (by first |(rw [ex,a,b];rfl) |(rw [ey,a,b];rfl))
 | 4,h1,h2 | 6,h1,h2=>
  have a:=beq_iff_eq.mp (cD h1).1
  have b:=beq_iff_eq.mp (cD h2).1
  exact beq_iff_eq.mpr (by rw [ex,ey,a,b])
 | 5,h1,h2 | 7,h1,h2=>
  have a:=beq_iff_eq.mp (cD h1).1
  have b:=beq_iff_eq.mp (cD h2).1
  exact beq_iff_eq.mpr (by rw [ex,ey];exact key b a)
 | _+8,h1,_=>exact absurd h1 aO
theorem Gq:([3,4].all λf=>[4,5].all λr=>(ar 8).all λd=>(ar (f*r)).all λu=>(ar (f*r)).all λv=> !Nn f d u v||(lD (Jj d) (sg f r u) (sg f r v)==lD d u v))=true:=by decide+kernel
theorem D4(hs:bX f r){d t u v:Nat}(hu:u<f*r)(hv:v<f*r)(h1:dG f d t u=true)(h2:dG f d t v=true):lD (Jj d) (sg f r u) (sg f r v)=lD d u v:=by
 have h:=ax.mp (ax.mp (ax.mp (ax.mp (ax.mp Gq f hs.mem.1) r hs.mem.2) d (az.mpr (oE h1))) u (az.mpr hu)) v (az.mpr hv)
 rw [GP h1 h2]at h
 exact beq_iff_eq.mp h
end
end
section
section
variable{f r:Nat}
theorem lI(hf:0<f){d t u:Nat}(h:t<f*r)(k:u<f*r):dG f (Jj d) (sg f r t) u=dG f d t (sg f r u):=by
 have:=xo hf (d:=d) h (nS hf k)
 rw [j7 hf k]at this;exact this
theorem O4{a b c:Bool}(h:a=true->b=c):(!a||b)=(!a||c):=by
 cases a
 ·rfl
 ·exact congrArg (_|| ·) (h rfl)
theorem PK(hf:0<f){P Q:Nat->Bool}(h:∀v,v<f*r->P (sg f r v)=Q v):(ar (f*r)).all P=(ar (f*r)).all Q:=by
 refine fc ⟨λH=>ax.mpr λv hv=> ?_,λH=>ax.mpr λv hv=> ?_⟩
 ·have hv:=az.mp hv
  rw [<-h v hv];exact ax.mp H _ (az.mpr (nS hf hv))
 ·have hv:=az.mp hv
  have:=h (sg f r v) (nS hf hv)
  rw [j7 hf hv]at this
  rw [this];exact ax.mp H _ (az.mpr (nS hf hv))
theorem jc(hs:bX f r){d t u:Nat}(O:Nat->Bool)(h:t<f*r)(k:u<f*r):kO f (f*r) (Jj d) (sg f r t) (λs=>O (sg f r s)) u=kO f (f*r) d t O (sg f r u):=by
 have hf:=hs.fpos
 refine Qu (lI hf h k) λhr=>PK hf λv hv=> ?_
 rw [lI hf h k]at hr
 show (!(dG f (Jj d) (sg f r t) (sg f r v)&&O (sg f r (sg f r v)))||lD (Jj d) u (sg f r v))=(!(dG f d t v&&O v)||lD d (sg f r u) v)
 rw [xo hf h hv,j7 hf hv]
 refine O4 λq=> ?_
 have:=D4 hs (nS hf k) hv hr (cD q).1
 rw [j7 hf k]at this;exact this
noncomputable def zZ(f n t:Nat)(O:Nat->Bool)(u:Nat):Bool:=kO f n 0 t O u||kO f n 1 t O u||kO f n 2 t O u||kO f n 3 t O u
noncomputable def Ae(f n t:Nat)(O:Nat->Bool)(u:Nat):Bool:=kO f n 4 t O u||kO f n 5 t O u||kO f n 6 t O u||kO f n 7 t O u
theorem Uq(a b c d:Bool):(a||b||c||d)=(c||b||a||d)/\(a||b||c||d)=(b||a||d||c):=by cases a<;>cases b<;>cases c<;>cases d<;>exact ⟨rfl,rfl⟩
theorem Kd(hs:bX f r){t u:Nat}(O:Nat->Bool)(h:t<f*r)(k:u<f*r):zZ f (f*r) (sg f r t) (λs=>O (sg f r s)) u=zZ f (f*r) t O (sg f r u):=by
 unfold zZ
 rw [<-jc hs O h k,<-jc hs O h k,<-jc hs O h k,<-jc hs O h k]
 exact (Uq _ _ _ _).1
theorem LQ(hs:bX f r){t u:Nat}(O:Nat->Bool)(h:t<f*r)(k:u<f*r):Ae f (f*r) (sg f r t) (λs=>O (sg f r s)) u=Ae f (f*r) t O (sg f r u):=by
 unfold Ae
 rw [<-jc hs O h k,<-jc hs O h k,<-jc hs O h k,<-jc hs O h k]
 exact (Uq _ _ _ _).2
noncomputable def mi(f a b:Nat):Option Nat:=(ar 8).find? λd=>dG f d a b
noncomputable def T'(d:Nat):Int×Int:=(nth [(0,1),(1,0),(0, -1),(-1,0),(1,1),(1, -1),(-1, -1),(-1,1)] d).getD (0,0)
theorem Ck{d a b:Nat}(h:dG f d a b=true):(U1 (dx f a b),U1 (dy f a b))=T' d:=by
 match d,h with
 | 0,h=>rw [beq_iff_eq.mp (cD h).1,ga (of_decide_eq_true (cD h).2)];rfl
 | 1,h=>rw [beq_iff_eq.mp (cD h).1,ga (of_decide_eq_true (cD h).2)];rfl
 | 2,h=>rw [beq_iff_eq.mp (cD h).1,eP (of_decide_eq_true (cD h).2)];rfl
 | 3,h=>rw [beq_iff_eq.mp (cD h).1,eP (of_decide_eq_true (cD h).2)];rfl
 | 4,h=>rw [beq_iff_eq.mp (cD h).1,ga (of_decide_eq_true (cD h).2)];rfl
 | 5,h=>rw [beq_iff_eq.mp (cD h).1,Tf,eP (of_decide_eq_true (cD h).2)];rfl
 | 6,h=>rw [beq_iff_eq.mp (cD h).1,eP (of_decide_eq_true (cD h).2)];rfl
 | 7,h=>rw [beq_iff_eq.mp (cD h).1,Tf,ga (of_decide_eq_true (cD h).2)];rfl
 | _+8,h=>exact absurd h aO
theorem JK:∀d,d<8->∀e,e<8->T' d=T' e->d=e:=by decide+kernel
theorem As{d e a b:Nat}(h:dG f d a b=true)(k:dG f e a b=true):d=e:=JK d (oE h) e (oE k) ((Ck h).symm.trans (Ck k))
theorem jo{a b d:Nat}:mi f a b=some d↔dG f d a b=true:=by
 refine ⟨λh=>Mj (p:=λd=>dG f d a b) h,λh=> ?_⟩
 unfold mi
 cases q:(ar 8).find? (λd=>dG f d a b)with
 | none=>exact absurd h (List.find?_eq_none.mp q d (az.mpr (oE h)))
 | some e=>rw [As (Mj (p:=λd=>dG f d a b) q) h]
theorem zj(hf:0<f){a b:Nat}(h:a<f*r)(k:b<f*r):mi f (sg f r a) (sg f r b)=(mi f a b).map Jj:=by
 cases q:mi f a b with
 | some d=>exact jo.mpr ((xo hf h k).trans (jo.mp q))
 | none=>
  cases q2:mi f (sg f r a) (sg f r b)with
  | none=>rfl
  | some e=>
   have:=jo.mp q2
   rw [<-Kv e,xo hf h k]at this
   rw [jo.mpr this]at q;cases q
noncomputable def E9(f a b u:Nat):Bool:=(mi f a b).elim false λd=>dG f d a u&&dG f (opp d) b u
noncomputable def ur(f a b u:Nat):Bool:=(mi f a b).elim false λd=>dG f d a u||dG f (opp d) a u||u==a
theorem CO{d:Nat}:Jj (opp d)=opp (Jj d):=by
 match d with
 | 0 | 1 | 2 | 3 | 4 | 5 | 6 | 7=>rfl
 | _+8=>rfl
theorem zg{o:Option Nat}{g h:Nat->Bool}(e:∀d,h (Jj d)=g d):(o.map Jj).elim false h=o.elim false g:=by
 cases o
 ·rfl
 ·exact e _
theorem Px(hf:0<f){a b u:Nat}(h:a<f*r)(k:b<f*r)(l:u<f*r):E9 f (sg f r a) (sg f r b) u=E9 f a b (sg f r u):=by
 unfold E9
 rw [zj hf h k]
 exact zg λd=>by rw [<-CO,lI hf h l,lI hf k l]
theorem Nw(hf:0<f){a u:Nat}(h:a<f*r)(l:u<f*r):(u==sg f r a)=(sg f r u==a):=
 fc (by rw [beq_iff_eq,beq_iff_eq];exact ⟨λe=>by rw [e,j7 hf h],λe=>by rw [<-e,j7 hf l]⟩)
theorem KN(hf:0<f){a b u:Nat}(h:a<f*r)(k:b<f*r)(l:u<f*r):ur f (sg f r a) (sg f r b) u=ur f a b (sg f r u):=by
 unfold ur
 rw [zj hf h k]
 exact zg λd=>by rw [<-CO,lI hf h l,lI hf h l,Nw hf h l]
end
end
section
section
variable(c:d5)(ρ:b6)
noncomputable def dO(e:X)(o:O):Prop:=ev c e ρ=some o
noncomputable def Ts(e:X)(b:Bool):Prop:=tst c e ρ=some b
noncomputable def Es(e:X)(l:List T):Prop:=o7 c e ρ=some l
noncomputable def Ex(s:S)(ρ':b6):Prop:=ex c s ρ=some (ρ',none)
end
section
variable{c:d5}{ρ ρ1 ρ2:b6}{a b e q:X}{x y z t v:T}{o o':O}{l:List T}{n:Int}{i k g:Nat}{p p':Bool}{s s':S}
theorem dO.var(h:get ρ i=some o):dO c ρ (.var i) o:=h
theorem dO.lit:dO c ρ (.lit t) (.sh t):=rfl
theorem dO.glob{s:Str}:dO c ρ (.glob s t) (.sh t):=rfl
theorem dO.bin{op:n6}(h1:dO c ρ a (.sh x))(h2:dO c ρ b (.sh y))(h:bK op x y=some z):dO c ρ (.bin op a b) (.sh z):=by
 show ((ev c a ρ).bind O.t?).bind _=_
 rw [h1,h2];show mP (bK op x y)=_;rw [h];rfl
theorem dO.neg{k:Int}(h:dO c ρ a (.sh (.int k))):dO c ρ (.neg a) (.sh (.int (-k))):=by
 show ((ev c a ρ).bind O.t?).bind _=_
 rw [h];rfl
theorem dO.inv{k:Int}(h:dO c ρ a (.sh (.int k))):dO c ρ (.inv a) (.sh (.int (-k - 1))):=by
 show ((ev c a ρ).bind O.t?).bind _=_
 rw [h];rfl
theorem dO.cmp{op:zF}(h1:dO c ρ a (.sh x))(h2:dO c ρ b (.sh y))(h:gP op x y=some p):dO c ρ (.cmp op a b) (.sh (.bool p)):=by
 show ((ev c a ρ).bind O.t?).bind _=_
 rw [h1,h2];show (gP op x y).map _=_;rw [h];rfl
theorem dO.attr(h1:dO c ρ a o)(h:bV k o=some o'):dO c ρ (.attr a k) o':=by
 show (ev c a ρ).bind (bV k)=_
 rw [h1];exact h
theorem dO.idx(h1:dO c ρ a o)(h2:dO c ρ b (.sh (.int n)))(h:b4 n o=some o'):dO c ρ (.idx a b) o':=by
 show (ev c a ρ).bind _=_
 rw [h1,h2];exact h
theorem dO.ite_t(h:Ts c ρ q true)(h1:dO c ρ a (.sh x)):dO c ρ (.ite q a b) (.sh x):=by
 show (tst c q ρ).bind _=_
 rw [h];show (ev c a ρ).bind _=_;rw [h1];rfl
theorem dO.ite_f(h:Ts c ρ q false)(h1:dO c ρ b (.sh x)):dO c ρ (.ite q a b) (.sh x):=by
 show (tst c q ρ).bind _=_
 rw [h];show (ev c b ρ).bind _=_;rw [h1];rfl
theorem dO.call(h1:Es c ρ a l)(h:c.call g l=some t):dO c ρ (.call g a) (.sh t):=by
 show (o7 c a ρ).bind _=_
 rw [h1];show mP (c.call g l)=_;rw [h];rfl
theorem dO.bi{f:BI}(h1:Es c ρ a l)(h:qI f l=some t):dO c ρ (.bi f a) (.sh t):=by
 show (o7 c a ρ).bind _=_
 rw [h1];show mP (qI f l)=_;rw [h];rfl
theorem dO.meth{m:Mt}(h1:dO c ρ a (.sh x))(h2:dO c ρ b (.sh y))(h:uq m x y=some z):dO c ρ (.meth m a b) (.sh z):=by
 show ((ev c a ρ).bind O.t?).bind _=_
 rw [h1,h2];show mP (uq m x y)=_;rw [h];rfl
theorem dO.list(h:Es c ρ a l):dO c ρ (.list a) (.sh (.list l)):=by
 show (o7 c a ρ).map _=_
 rw [h];rfl
theorem dO.tup(h:Es c ρ a l):dO c ρ (.tup a) (.sh (.tup l)):=by
 show (o7 c a ρ).map _=_
 rw [h];rfl
theorem Es.nil:Es c ρ .nil []:=rfl
theorem Es.cons(h1:dO c ρ a (.sh x))(h2:Es c ρ b l):Es c ρ (.cons a b) (x::l):=by
 show ((ev c a ρ).bind O.t?).bind _=_
 rw [h1];show (o7 c b ρ).map _=_;rw [h2];rfl
theorem Ts.cmp{op:zF}(h1:dO c ρ a (.sh x))(h2:dO c ρ b (.sh y))(h:gP op x y=some p):Ts c ρ (.cmp op a b) p:=by
 show ((ev c a ρ).bind O.t?).bind _=_
 rw [h1,h2];exact h
theorem Ts.var(h1:get ρ i=some (.sh x))(h:bx x=some p):Ts c ρ (.var i) p:=by
 show ((get ρ i).bind O.t?).bind bx=_
 rw [h1];exact h
theorem Ts.bin{op:n6}(h1:dO c ρ a (.sh x))(h2:dO c ρ b (.sh y))(h:bK op x y=some z)(k:bx z=some p):Ts c ρ (.bin op a b) p:=by
 show (((ev c a ρ).bind O.t?).bind _).bind bx=_
 rw [h1,h2];show (bK op x y).bind bx=_;rw [h];exact k
theorem Ts.idx(h1:dO c ρ a o)(h2:dO c ρ b (.sh (.int n)))(h:b4 n o=some (.sh z))(k:bx z=some p):Ts c ρ (.idx a b) p:=by
 show (((ev c a ρ).bind _).bind O.t?).bind bx=_
 rw [h1,h2];show ((b4 n o).bind O.t?).bind bx=_;rw [h];exact k
theorem Ts.call(h1:Es c ρ a l)(h:c.call g l=some z)(k:bx z=some p):Ts c ρ (.call g a) p:=by
 show ((o7 c a ρ).bind _).bind bx=_
 rw [h1];show (c.call g l).bind bx=_;rw [h];exact k
theorem Ts.not(h:Ts c ρ a p):Ts c ρ (.nott a) (!p):=by
 show (tst c a ρ).map _=_
 rw [h];rfl
theorem Ts.and_f(h:Ts c ρ a false):Ts c ρ (.andd a b) false:=by
 show (tst c a ρ).bind _=_
 rw [h];rfl
theorem Ts.and_t(h:Ts c ρ a true)(k:Ts c ρ b p):Ts c ρ (.andd a b) p:=by
 show (tst c a ρ).bind _=_
 rw [h];exact k
theorem Ts.or_t(h:Ts c ρ a true):Ts c ρ (.orr a b) true:=by
 show (tst c a ρ).bind _=_
 rw [h];rfl
theorem Ts.or_f(h:Ts c ρ a false)(k:Ts c ρ b p):Ts c ρ (.orr a b) p:=by
 show (tst c a ρ).bind _=_
 rw [h];exact k
theorem Ex.skip:Ex c ρ .skip ρ:=rfl
theorem Ex.seq(h:Ex c ρ s ρ1)(k:Ex c ρ1 s' ρ2):Ex c ρ (.seq s s') ρ2:=(cu h).trans k
theorem Ex.asg(h:dO c ρ e (.sh x)):Ex c ρ (.asg i e) (fO ρ i (.sh x)):=by
 show ((ev c e ρ).bind O.t?).map _=_
 rw [h];rfl
theorem Ex.asgO(h:uA c e ρ=some o):Ex c ρ (.asgO i e) (fO ρ i o):=by
 show (uA c e ρ).map _=_
 rw [h];rfl
theorem Ex.tupa{ys:List Nat}(h:dO c ρ e (.sh x))(k:dz ys x ρ=some ρ1):Ex c ρ (.tupa ys e) ρ1:=by
 show ((ev c e ρ).bind O.t?).bind _=_
 rw [h];show (dz ys x ρ).map _=_;rw [k];rfl
theorem Ex.aug{op:n6}(h1:get ρ i=some (.sh x))(h2:dO c ρ e (.sh y))(h:nq op x y=some z):Ex c ρ (.aug i op e) (fO ρ i (.sh z)):=by
 show ((get ρ i).bind O.t?).bind _=_
 rw [h1];show ((ev c e ρ).bind O.t?).bind _=_;rw [h2];show (nq op x y).map _=_;rw [h];rfl
theorem Ex.iff_t(h:Ts c ρ q true)(k:Ex c ρ s ρ1):Ex c ρ (.iff q s s') ρ1:=(tQ h).trans k
theorem Ex.iff_f(h:Ts c ρ q false)(k:Ex c ρ s' ρ1):Ex c ρ (.iff q s s') ρ1:=(tQ h).trans k
theorem Ex.frz(h:get ρ i=some o):Ex c ρ (.frz i) (fO ρ i (.sh o.toT)):=by
 show (get ρ i).map _=_
 rw [h];rfl
theorem Ex.for_{tg:List Nat}(h:dO c ρ e (.sh x))(h1:dg x=some l)(k:fQ (ex c s) tg l ρ=some (ρ1,none)):Ex c ρ (.forr tg e s) ρ1:=(Ip h h1).trans k
noncomputable def n5(c:d5)(ρ:b6)(s:S)(v:T):Prop:=∃ρ',ex c s ρ=some (ρ',some v)
theorem n5.ret(h:dO c ρ e (.sh x)):n5 c ρ (.ret e) x:=⟨ρ,by
 show ((ev c e ρ).bind O.t?).map _=_
 rw [h];rfl⟩
theorem n5.here(h:n5 c ρ s v):n5 c ρ (.seq s s') v:=by
 obtain ⟨ρ',h⟩:=h;exact ⟨ρ',wG h⟩
theorem n5.next(h:Ex c ρ s ρ1)(k:n5 c ρ1 s' v):n5 c ρ (.seq s s') v:=by
 obtain ⟨ρ',k⟩:=k;exact ⟨ρ',(cu h).trans k⟩
theorem n5.iff_t(h:Ts c ρ q true)(k:n5 c ρ s v):n5 c ρ (.iff q s s') v:=by
 obtain ⟨ρ',k⟩:=k;exact ⟨ρ',(tQ h).trans k⟩
theorem n5.h_ret(h:dO c ρ e (.sh x)):n5 c ρ (.seq (.ret e) s') x:=(n5.ret h).here
theorem n5.h_iff_t{r:S}(h:Ts c ρ q true)(k:n5 c ρ s v):n5 c ρ (.seq (.iff q s s') r) v:=(n5.iff_t h k).here
theorem n5.skip_iff{r:S}(h:Ts c ρ q false)(k:n5 c ρ r v):n5 c ρ (.seq (.iff q s .skip) r) v:= .next (.iff_f h .skip) k
theorem Ex.app{y:Nat}{m:List O}(h1:get ρ y=some (.lst m))(h2:dO c ρ e (.sh t))(hl:m.length<=1000):Ex c ρ (.app (.var y) e) (fO ρ y (.lst (m++[.sh t]))):=by
 show (get ρ y).bind _=_
 rw [h1];show ((ev c e ρ).bind O.t?).bind _=_;rw [h2];show (if m.length<=1000 then _ else _)=_;rw [if_pos hl];rfl
theorem Ex.setI{y j:Nat}{m:List O}(h1:get ρ y=some (.lst m))(h2:dO c ρ a (.sh (.int n)))(h3:dO c ρ e (.sh t))(h4:cr n m.length=some j):Ex c ρ (.setI (.var y) a e) (fO ρ y (.lst (dp m j (.sh t)))):=by
 show ((ev c e ρ).bind O.t?).bind _=_
 rw [h3];show (((get ρ y).bind _)).map _=_;rw [h1];show (((ev c a ρ).bind O.int?).bind _).map _=_;rw [h2];show ((cr n m.length).bind _).map _=_;rw [h4];rfl
theorem Ex.augI{y j:Nat}{m:List O}{op:n6}(h1:get ρ y=some (.lst m))(h2:dO c ρ a (.sh (.int n)))(h3:b4 n (.lst m)=some (.sh x))(h4:dO c ρ e (.sh t))(h5:nq op x t=some z)(h6:cr n m.length=some j):Ex c ρ (.augI (.var y) a op e) (fO ρ y (.lst (dp m j (.sh z)))):=by
 show (((get ρ y).bind _).bind O.t?).bind _=_
 rw [h1];show ((((ev c a ρ).bind O.int?).bind _).bind O.t?).bind _=_;rw [h2];show ((b4 n (.lst m)).bind O.t?).bind _=_;rw [h3]
 show ((ev c e ρ).bind O.t?).bind _=_;rw [h4];show (nq op x t).bind _=_;rw [h5]
 show (((get ρ y).bind _)).map _=_;rw [h1];show (((ev c a ρ).bind O.int?).bind _).map _=_;rw [h2];show ((cr n m.length).bind _).map _=_;rw [h6];rfl
theorem Ex.iffB(h:Ts c ρ q p)(k1:p=true->Ex c ρ s ρ1)(k2:p=false->Ex c ρ s' ρ1):Ex c ρ (.iff q s s') ρ1:=by
 cases p
 ·exact .iff_f h (k2 rfl)
 ·exact .iff_t h (k1 rfl)
theorem dO.iteB(h:Ts c ρ q p)(k1:dO c ρ a (.sh x))(k2:dO c ρ b (.sh y)):dO c ρ (.ite q a b) (.sh (if p then x else y)):=by
 cases p
 ·exact .ite_f h k2
 ·exact .ite_t h k1
theorem Ts.and{p':Bool}(h:Ts c ρ a p)(k:Ts c ρ b p'):Ts c ρ (.andd a b) (p&&p'):=by
 cases p
 ·exact .and_f h
 ·exact .and_t h k
theorem Ts.or{p':Bool}(h:Ts c ρ a p)(k:Ts c ρ b p'):Ts c ρ (.orr a b) (p||p'):=by
 cases p
 ·exact .or_f h k
 ·exact .or_t h
noncomputable def FL(c:d5)(s:S)(tg:List Nat)(l:List T)(ρ ρ':b6):Prop:=fQ (ex c s) tg l ρ=some (ρ',none)
theorem FL.nil{tg:List Nat}:FL c s tg [] ρ ρ:=rfl
theorem FL.cons{tg:List Nat}{ρ3:b6}(h:dz tg t ρ=some ρ1)(k:Ex c ρ1 s ρ2)(r:FL c s tg l ρ2 ρ3):FL c s tg (t::l) ρ ρ3:=(tm h k).trans r
theorem Ex.forr{tg:List Nat}(h:dO c ρ e (.sh x))(h1:dg x=some l)(k:FL c s tg l ρ ρ1):Ex c ρ (.forr tg e s) ρ1:=Ex.for_ h h1 k
theorem bq{d:Nat}{F:Fn}(h:br.fn g=some F)(hr:ew F l=some ρ)(k:n5 (bj br d) ρ F.body v):(bj br (d+1)).call g l=some v:=by
 obtain ⟨ρ',k⟩:=k
 rw [oC h hr,k];rfl
end
end
section
theorem gJ(a b:Nat):QE (a:Int) (b:Int)=((a/b:Nat):Int):=bO _ (au b)
theorem kX(a b:Nat):Int.fmod (a:Int) (b:Int)=((a%b:Nat):Int):=i6 _ (au b)
section
variable{f r:Nat}{G:T}
theorem bX.f_lt(h:bX f r):3<=f/\f<=4:=by obtain ⟨rfl | rfl,_⟩:=h<;>decide
theorem bX.r_lt(h:bX f r):4<=r/\r<=5:=by obtain ⟨_,rfl | rfl⟩:=h<;>decide
theorem EZ(h:bX f r):((f:Int)==0|| !small (f:Int))=false:=by obtain ⟨rfl | rfl,_⟩:=h<;>decide
theorem NA(h:bX f r):((f:Int)==0)=false:=by obtain ⟨rfl | rfl,_⟩:=h<;>decide
theorem xc{b k:Int}(h0:0<=k)(h1:k<=1000)(hb:small b=true):(decide (0<=k)&&decide (k<=1000)&&small b)=true:=by rw [decide_eq_true h0,decide_eq_true h1,hb];rfl
theorem EY(k:Nat):decide (0<=(k:Int))=true:=decide_eq_true (au k)
noncomputable def uk(f r c s:Nat):Nat:=if c=0 then s/f else r - 1 - s/f
theorem Ot(d:Nat){s k:Int}{x:T}(h1:bV 1 (.sh G)=some (.sh (.int k)))(h2:bK .fdv (.int s) (.int k)=some x):(bj br (d+1)).call 31 [G,.int 0,.int s]=some x:=
 bq (F:=mF) (ρ:=[some (.sh G),iT 0,iT s,none]) rfl rfl (.next (.asg (.bin (.var rfl) (.attr (.var rfl) h1) h2)) (.h_ret (.ite_t (.cmp (.var rfl) .glob rfl) (.var rfl))))
theorem Os(d:Nat){s k j z:Int}(h1:bV 1 (.sh G)=some (.sh (.int k)))(h3:bV 21 (.sh G)=some (.sh (.int j)))(h2:bK .fdv (.int s) (.int k)=some (.int z)):(bj br (d+1)).call 31 [G,.int 1,.int s]=some (.int (j - 1 - z)):=
 bq (F:=mF) (ρ:=[some (.sh G),iT 1,iT s,none]) rfl rfl (.next (.asg (.bin (.var rfl) (.attr (.var rfl) h1) h2)) (.h_ret (.ite_f (.cmp (.var rfl) .glob rfl) (.bin (.bin (.attr (.var rfl) h3) .lit rfl) (.var rfl) rfl))))
theorem uH{r k:Nat}(h:k<r):((r - 1 - k:Nat):Int)=(r:Int) - 1 - k:=by omega
theorem gj(d:Nat)(hs:bX f r)(hG:qg G f r){c s:Nat}(hc:c<=1)(h:s<f*r):(bj br (d+1)).call 31 [G,.int c,.int s]=some (.int (uk f r c s:Nat)):=by
 have e:bK .fdv (.int s) (.int f)=some (.int (s/f:Nat)):=(dH (EZ hs)).trans (congrArg (λi=>some (T.int i)) (gJ s f))
 rcases aY.mp hc with rfl | rfl
 ·exact Ot d hG.files e
 ·exact (Os d hG.files hG.ranks e).trans (congrArg (λi=>some (T.int i)) (uH (aH h)).symm)
theorem J4(d:Nat){b k u N:Int}(h1:bV 1 (.sh G)=some (.sh (.int k)))(h2:bV 23 (.sh G)=some (.sh (.int N)))(h3:bK .shl (.int b) (.int k)=some (.int u)):(bj br (d+1)).call 43 [G,.int b,.int 0]=some (.int (aj u N)):=
 bq (F:=mE) (ρ:=[some (.sh G),iT b,iT 0]) rfl rfl (.h_iff_t (.cmp (.var rfl) .glob rfl) (.h_ret (.bin (.bin (.var rfl) (.attr (.var rfl) h1) h3) (.attr (.var rfl) h2) rfl)))
theorem J3(d:Nat){b k:Int}{x:T}(h1:bV 1 (.sh G)=some (.sh (.int k)))(h3:bK .shr (.int b) (.int k)=some x):(bj br (d+1)).call 43 [G,.int b,.int 1]=some x:=
 bq (F:=mE) (ρ:=[some (.sh G),iT b,iT 1]) rfl rfl (.skip_iff (.cmp (.var rfl) .glob rfl) (.h_ret (.bin (.var rfl) (.attr (.var rfl) h1) h3)))
theorem Ld(hs:bX f r):(f:Int)<=1000:=aW.mpr (an hs.f_lt.2 (by decide))
theorem fg(d:Nat)(hs:bX f r)(hG:qg G f r)(P:Nat->Bool){c:Nat}(hc:c<=1):(bj br (d+1)).call 43 [G,.int (bI (f*r) P),.int c]=some (.int (bI (f*r) (NO (f*r) f c P))):=by
 rcases aY.mp hc with rfl | rfl
 ·exact (J4 d hG.files hG.full (qC (xc (au f) (Ld hs) (sS P hs.n_le)))).trans (congrArg (λi=>some (T.int i)) (Bf (f*r) f P))
 ·exact (J3 d hG.files (ni (EY f))).trans (congrArg (λi=>some (T.int i)) (qi (f*r) f P))
theorem Oq(d:Nat){k:Int}{M:T}{x:T}(h1:bV 16 (.sh G)=some (.sh M))(h2:b4 k (.sh M)=some (.sh x)):(bj br (d+1)).call 57 [G,.int 0,.int k]=some x:=
 bq (F:=jE) (ρ:=[some (.sh G),iT 0,iT k]) rfl rfl (.h_iff_t (.cmp (.var rfl) .glob rfl) (.h_ret (.idx (.attr (.var rfl) h1) (.var rfl) h2)))
theorem Oo(d:Nat){k j:Int}{M:T}{x:T}(h1:bV 16 (.sh G)=some (.sh M))(h3:bV 21 (.sh G)=some (.sh (.int j)))(h2:b4 (j - 1 - k) (.sh M)=some (.sh x)):(bj br (d+1)).call 57 [G,.int 1,.int k]=some x:=
 bq (F:=jE) (ρ:=[some (.sh G),iT 1,iT k]) rfl rfl (.skip_iff (.cmp (.var rfl) .glob rfl) (.h_ret (.idx (.attr (.var rfl) h1) (.bin (.bin (.attr (.var rfl) h3) .lit rfl) (.var rfl) rfl) h2)))
theorem vi(d:Nat)(hs:bX f r)(hG:qg G f r){c k:Nat}(hc:c<=1)(hk:k<r):(bj br (d+1)).call 57 [G,.int c,.int k]=some (.int (bI (f*r) (w7 f (if c=0 then k else r - 1 - k)))):=by
 have hr:r<1000000:=aC hs.r_lt.2 (by decide)
 rcases aY.mp hc with rfl | rfl
 ·exact Oq d hG.rmasks (cy (g:=λj=>bT f r (w7 f j)) hk hr)
 ·exact Oo d hG.rmasks hG.ranks (uH hk▸cy (g:=λj=>bT f r (w7 f j)) (s:=r - 1 - k) (aC (bE _ _) (xS (Nat.zero_lt_of_lt hk) uB)) hr)
theorem Ks(P:Nat->Bool):aj (av (bI (f*r) (λs=>P s&& !j8 f (f - 1) s)*2^(1:Int).toNat) ((bI (f*r) (λs=>P s&& !j8 f 0 s)).fdiv (2^(1:Int).toNat))) (bI (f*r) λ_=>true)=bI (f*r) (Fs f (f*r) P):=by
 rw [show (1:Int).toNat=1 from rfl,qi,Kz _ _ _ (mQ (dK _ _) (by decide)) (dK _ _),Bf,dJ,ec]
 exact bp λs _=>congrArg (_|| ·) (dF _)
theorem OH(d:Nat){G M:T}{k m0 m1 b u v N:Int}(hG:bV 1 (.sh G)=some (.sh (.int k)))(hM:bV 15 (O.sh G)=some (O.sh M))(hN:bV 23 (O.sh G)=some (O.sh (T.int N)))
  (t1:b4 (k - 1) (O.sh M)=some (O.sh (T.int m1))) (t2:b4 0 (O.sh M)=some (O.sh (T.int m0)))
  (s1:bK .shl (.int (aj b (-m1 - 1))) (.int 1)=some (.int u)) (s2:bK .shr (.int (aj b (-m0 - 1))) (.int 1)=some (.int v)):
  (bj br (d+1)).call 44 [G,.int b]=some (T.int (aj (av u v) N)):=
 bq (F:=nx) (ρ:=[some (.sh G),iT b,none,none]) rfl rfl (.next (.asg (.bin (.bin (.var rfl) (.inv (.idx (.attr (.var rfl) hM) (.bin (.attr (.var rfl) hG) .lit rfl) t1)) rfl) .lit s1)) (.next (.asg (.bin (.bin (.var rfl) (.inv (.idx (.attr (.var rfl) hM) .lit t2)) rfl) .lit s2)) (.h_ret (.bin (.bin (.var rfl) (.var rfl) rfl) (.attr (.var rfl) hN) rfl))))
theorem iu(d:Nat)(hs:bX f r)(hG:qg G f r)(P:Nat->Bool):(bj br (d+1)).call 44 [G,.int (bI (f*r) P)]=some (.int (bI (f*r) (Fs f (f*r) P))):=by
 have hf:=hs.fpos
 have hf':f<1000000:=aC hs.f_lt.2 (by decide)
 have t1:=cy (g:=λj=>bT f r (j8 f j)) (n:=f) (s:=f - 1) (xS hf uB) hf'
 have t2:=cy (g:=λj=>bT f r (j8 f j)) (n:=f) (s:=0) hf hf'
 rw [dD hf]at t1
 rw [<-Ks P]
 refine OH d hG.files hG.fmasks hG.full t1 t2 ?_ ?_
 ·rw [show aj (bI (f*r) P) (-bI (f*r) (j8 f (f - 1)) - 1)=_ from iO _ _ _];exact qC (xc (by decide) (by decide) (sS _ hs.n_le))
 ·rw [show aj (bI (f*r) P) (-bI (f*r) (j8 f 0) - 1)=_ from iO _ _ _];exact ni (by decide)
end
end
section
section
variable{f r:Nat}{G:T}
@[reducible] noncomputable def xy:S:= .seq (.iff (.cmp .eq (.var 2) (.glob (aa "WHITE") (.int 0))) (.seq (.aug 1 .or (.bin .and (.bin .shl (.var 1) (.var 3)) (.attr (.var 0) 23))) .skip) (.seq (.aug 1 .or (.bin .shr (.var 1) (.var 3))) .skip)) (.seq (.aug 3 .add (.var 3)) .skip)
theorem UM(c:d5){b k N y:Int}(hN:bV 23 (O.sh G)=some (O.sh (T.int N)))(s1:bK .shl (.int b) (.int k)=some (.int y)):Ex c [some (.sh G),iT b,iT 0,iT k] xy [some (.sh G),iT (av b (aj y N)),iT 0,iT (k+k)]:=
 .seq (.iff_t (.cmp (.var rfl) .glob rfl) (.seq (.aug rfl (.bin (.bin (.var rfl) (.var rfl) s1) (.attr (.var rfl) hN) rfl) rfl) .skip)) (.seq (.aug rfl (.var rfl) rfl) .skip)
theorem UL(c:d5){b k y:Int}(s1:bK .shr (.int b) (.int k)=some (.int y)):Ex c [some (.sh G),iT b,iT 1,iT k] xy [some (.sh G),iT (av b y),iT 1,iT (k+k)]:=
 .seq (.iff_f (.cmp (.var rfl) .glob rfl) (.seq (.aug rfl (.bin (.var rfl) (.var rfl) s1) rfl) .skip)) (.seq (.aug rfl (.var rfl) rfl) .skip)
theorem UK(c:d5){b k x n:Int}(hn:bV 22 (O.sh G)=some (O.sh (T.int n))):Ts c [some (.sh G),iT b,iT x,iT k] (.cmp .lt (.var 3) (.attr (.var 0) 22)) (decide (k<n)):= .cmp (.var rfl) (.attr (.var rfl) hn) rfl
theorem Rb{m:Nat}(hs:bX f r)(hm:m<=4):((m*f:Nat):Int)<=1000:=aW.mpr (an (Nat.mul_le_mul hm hs.f_lt.2) (by decide))
theorem Lc(o:d5)(hs:bX f r)(hG:qg G f r){c m:Nat}(hc:c<=1)(hm:m<=4)(P:Nat->Bool):
  Ex o [some (.sh G),iT (bI (f*r) P),iT c,iT (m*f:Nat)] xy [some (.sh G),iT (bI (f*r) (iL (f*r) f c P m)),iT c,iT ((m+m)*f:Nat)]:=by
 rw [show (((m+m)*f:Nat):Int)=(m*f:Nat)+(m*f:Nat)from congrArg uh (mT m m f)]
 rcases aY.mp hc with rfl | rfl
 ·rw [show bI (f*r) (iL (f*r) f 0 P m)=av (bI (f*r) P) (aj (bI (f*r) P*2^(m*f)) (bI (f*r) λ_=>true)) by rw [Bf,ec];rfl]
  exact UM o hG.full (qC (xc (au _) (Rb hs hm) (sS P hs.n_le)))
 ·rw [show bI (f*r) (iL (f*r) f 1 P m)=av (bI (f*r) P) ((bI (f*r) P).fdiv (2^(m*f))) by rw [qi,ec];rfl]
  exact UL o (ni (EY _))
theorem hJ(d:Nat)(hs:bX f r)(hG:qg G f r){c:Nat}(hc:c<=1)(P:Nat->Bool):(bj br (d+1)).call 45 [G,.int (bI (f*r) P),.int c]=some (.int (bI (f*r) (QM f r c P))):=by
 have t:∀(m:Nat) (b:Int),Ts (bj br d) [some (.sh G),iT b,iT c,iT (m*f:Nat)] (.cmp .lt (.var 3) (.attr (.var 0) 22)) (decide (m<r)):=λm b=>by
  have h:=UK (bj br d) (b:=b) (k:=(m*f:Nat)) (x:=c) hG.size
  have e:decide (((m*f:Nat):Int)<((f*r:Nat):Int))=decide (m<r):=decide_eq_decide.mpr (by
   rw [bF,eZ f r];exact Nat.mul_lt_mul_right hs.fpos)
  rw [e]at h;exact h
 have st:=λ(m:Nat) (hm:m<=4) (Q:Nat->Bool)=>Lc (bj br d) hs hG hc hm Q
 have w:∃k,qJ (tst (bj br d) (.cmp .lt (.var 3) (.attr (.var 0) 22))) (ex (bj br d) xy) 1000 [some (.sh G),iT (bI (f*r) P),iT c,iT (1*f:Nat)]=some ([some (.sh G),iT (bI (f*r) (QM f r c P)),iT c,iT k],none):=by
  obtain ⟨_,rfl | rfl⟩:=hs
  ·exact ⟨_,(gD (t 1 _) (st 1 (by decide) _)).trans ((gD (t 2 _) (st 2 (by decide) _)).trans (n7 (t 4 _)))⟩
  ·exact ⟨_,(gD (t 1 _) (st 1 (by decide) _)).trans ((gD (t 2 _) (st 2 (by decide) _)).trans ((gD (t 4 _) (st 4 (by decide) _)).trans (n7 (t 8 _))))⟩
 obtain ⟨k,w⟩:=w
 rw [f8]at w
 exact bq (F:=uQ) (ρ:=[some (.sh G),iT (bI (f*r) P),iT c,none]) rfl rfl (.next (.asg (.attr (.var rfl) hG.files)) (.next (ρ1:=[some (.sh G),iT (bI (f*r) (QM f r c P)),iT c,iT k]) w (.h_ret (.var rfl))))
theorem EH:∀d,d<8->∀k,(bj br (k+1)).call 10 [.int (d:Nat)]=some (.bool (JE d))
 | 0,_,_ | 1,_,_ | 2,_,_ | 3,_,_ | 4,_,_ | 5,_,_ | 6,_,_ | 7,_,_=>rfl
 | _+8,h,_=>absurd h (dM.mpr (cw _ _))
section
variable{d:Nat}{M N:T}{k s R Q:Int}(hM:bV 17 (.sh G)=some (.sh M))(h1:b4 k (.sh M)=some (.sh N))(h2:b4 s (.sh N)=some (.sh (.int R)))
include hM h1 h2
theorem Q0(hz:gP .eq (.int (aj R Q)) (.int 0)=some true):(bj br (d+1)).call 11 [G,.int k,.int s,.int Q]=some (.int R):=
 bq (F:=gf) (ρ:=[some (.sh G),iT k,iT s,iT Q,none,none,none]) rfl rfl (.next (.asg (.idx (.idx (.attr (.var rfl) hM) (.var rfl) h1) (.var rfl) h2)) (.next (.asg (.bin (.var rfl) (.var rfl) rfl)) (.h_iff_t (.cmp (.var rfl) .lit hz) (.h_ret (.var rfl)))))
theorem QZ(hz:gP .eq (.int (aj R Q)) (.int 0)=some false)(hc:(bj br d).call 10 [.int k]=some (.bool true)):(bj br (d+1)).call 11 [G,.int k,.int s,.int Q]=some (.int (aj R (c_ (aj R Q) (aj R Q - 1)))):=
 bq (F:=gf) (ρ:=[some (.sh G),iT k,iT s,iT Q,none,none,none]) rfl rfl (.next (.asg (.idx (.idx (.attr (.var rfl) hM) (.var rfl) h1) (.var rfl) h2)) (.next (.asg (.bin (.var rfl) (.var rfl) rfl)) (.skip_iff (.cmp (.var rfl) .lit hz) (.h_iff_t (.call (.cons (.var rfl) .nil) hc rfl) (.h_ret (.bin (.var rfl) (.bin (.var rfl) (.bin (.var rfl) .lit rfl) rfl) rfl))))))
noncomputable def QJ(b:Int)(k:Nat):Int:=av b (b.fdiv (2^k))
theorem QY(hz:gP .eq (.int (aj R Q)) (.int 0)=some false)(hc:(bj br d).call 10 [.int k]=some (.bool false)):
  (bj br (d+1)).call 11 [G,.int k,.int s,.int Q]=some (.int (aj R (-QJ (QJ (QJ (QJ (QJ (QJ ((aj R Q).fdiv (2^1)) 1) 2) 4) 8) 16) 32 - 1))):=
 bq (F:=gf) (ρ:=[some (.sh G),iT k,iT s,iT Q,none,none,none]) rfl rfl (.next (.asg (.idx (.idx (.attr (.var rfl) hM) (.var rfl) h1) (.var rfl) h2)) (.next (.asg (.bin (.var rfl) (.var rfl) rfl)) (.skip_iff (.cmp (.var rfl) .lit hz) (.skip_iff (.call (.cons (.var rfl) .nil) hc rfl)
  (.next (.asg (.bin (.var rfl) .lit rfl)) (.next (.aug rfl (.bin (.var rfl) .lit rfl) rfl) (.next (.aug rfl (.bin (.var rfl) .lit rfl) rfl) (.next (.aug rfl (.bin (.var rfl) .lit rfl) rfl) (.next (.aug rfl (.bin (.var rfl) .lit rfl) rfl) (.next (.aug rfl (.bin (.var rfl) .lit rfl) rfl) (.next (.aug rfl (.bin (.var rfl) .lit rfl) rfl) (.h_ret (.bin (.var rfl) (.inv (.var rfl)) rfl)))))))))))))
end
theorem FH{n m:Nat}{P:Nat->Bool}(hm:m<n)(h1:P m=true)(h2:∀j,j<m->P j=false):c_ (bI n P) (bI n P - 1)=bI n (λs=>decide (s<=m)):=by
 rw [Dy hm h1 h2,A8]
 refine bp λs _=> ?_
 show (P s^^(decide (s<m)||(P s&& !(s==m))))=decide (s<=m)
 rcases gk s m with k | rfl | k
 ·rw [h2 s k,decide_eq_true k,decide_eq_true (lm k)];rfl
 ·rw [h1,decide_eq_false (jV s),beq_self_eq_true,decide_eq_true (aA s)];rfl
 ·rw [decide_eq_false (Nat.not_lt_of_gt k),beq_eq_false_iff_ne.mpr (cN k),decide_eq_false (Nat.not_le_of_gt k)];cases P s<;>rfl
noncomputable def SK(n:Nat)(S:Nat->Bool)(w s:Nat):Bool:=(ar w).any λj=>decide (s+j+1<n)&&S (s+j+1)
theorem L1(g:Nat->Bool)(w:Nat):(ar (w+w)).any g=((ar w).any g||(ar w).any λj=>g (w+j)):=by
 rw [wi,Mk,R9];rfl
theorem Lf(n:Nat)(S:Nat->Bool):(bI n S).fdiv (2^1)=bI n (SK n S 1):=
 (qi n 1 S).trans (bp λs _=>(cg _).symm)
theorem DF{α:Type}(b:Bool)(g:α->Bool):∀l:List α,(b&&l.any g)=l.any λx=>b&&g x
 |[]=>bP _
 | a::l=>(xT ..).trans (congrArg _ (DF b g l))
theorem lM(n w:Nat)(S:Nat->Bool):QJ (bI n (SK n S w)) w=bI n (SK n S (w+w)):=by
 unfold QJ
 rw [qi,ec]
 refine bp λs _=> ?_
 have e:=L1 (λj=>decide (s+j+1<n)&&S (s+j+1)) w
 refine zT (congrArg (SK n S w s|| ·) ?_) e.symm
 refine (DF _ _ _).trans (congrArg ((ar w).any ·) (funext λj=> ?_))
 rw [show s+w+j+1=s+(w+j)+1 from congrArg (· +1) (eB s w j)]
 by_cases h:s+(w+j)+1<n
 ·rw [decide_eq_true h,decide_eq_true (aC (an (cV (bJ w j) s) (mS _)) h)];rfl
 ·rw [decide_eq_false h];exact bP _
theorem Lg{n w s:Nat}{S:Nat->Bool}(hn:n<=w):SK n S w s=true↔∃v,s<v/\v<n/\S v=true:=by
 unfold SK
 refine ⟨λh=> ?_,λ⟨v,h1,h2,h3⟩=> ?_⟩
 ·obtain ⟨j,_,h⟩:=cm.mp h
  exact ⟨_,aU (bJ s j),of_decide_eq_true (cD h).1,(cD h).2⟩
 ·obtain ⟨j,rfl⟩:=Nat.exists_eq_add_of_lt h1
  exact cm.mpr ⟨j,az.mpr (bR (aC (an (cw j s) (mS _)) h2) hn),by rw [decide_eq_true h2,h3];rfl⟩
theorem AZ{n:Nat}{P:Nat->Bool}(h:¬bI n P=0):∃u,u<n/\P u=true:=by
 by_cases q:∃u,u<n/\P u=true
 ·exact q
 ·exact absurd (cP.mpr λu hu=>cQ.mpr λe=>q ⟨u,hu,e⟩) h
theorem wU{n:Nat}{P Q:Nat->Bool}:(ar n).all (λv=> !P v||Q v)=true↔∀v,v<n->P v=true->Q v=true:=by
 rw [ax]
 refine ⟨λh v hv hp=> ?_,λh v hv=> ?_⟩
 ·have:=h v (az.mpr hv);rw [hp]at this;exact this
 ·cases hp:P v
  ·rfl
  ·exact h v (az.mp hv) hp
theorem Hl(d:Nat)(hs:bX f r)(hG:qg G f r){k s:Nat}(hk:k<8)(h:s<f*r)(Q:Nat->Bool):(bj br (d+2)).call 11 [G,.int k,.int s,.int (bI (f*r) Q)]=some (.int (bI (f*r) (kO f (f*r) k s Q))):=by
 have hn:=hs.n_le
 have t1:=cy (g:=λd=>mX (f*r) λt=>bT f r (dG f d t)) hk (by decide)
 have t2:=cy (g:=λt=>bT f r (dG f k t)) h (aC hn (by decide))
 have hc:=EH k hk d
 have ha:=dJ (f*r) (dG f k s) Q
 have fin:∀{X:Int} {P:Nat->Bool},X=bI (f*r) (λu=>dG f k s u&&P u)->(∀u,u<f*r->P u=(ar (f*r)).all λv=> !(dG f k s v&&Q v)||lD k u v)->some (T.int X)=some (T.int (bI (f*r) (kO f (f*r) k s Q))):=λe h=>congrArg (λi=>some (T.int i)) (e.trans (bp λu hu=>congrArg (dG f k s u&& ·) (h u hu)))
 by_cases z:bI (f*r) (λu=>dG f k s u&&Q u)=0
 ·refine (Q0 hG.rays t1 t2 (congrArg some (beq_iff_eq.mpr (ha.trans z)))).trans (fin (P:=λ_=>true) (bp λu _=>(dF _).symm) λu _=>(wU.mpr λv hv hp=> ?_).symm)
  rw [cP.mp z v hv]at hp;cases hp
 ·have z':gP .eq (.int (aj (bI (f*r) (dG f k s)) (bI (f*r) Q))) (.int 0)=some false:=congrArg some (beq_eq_false_iff_ne.mpr (ha▸z))
  have hb:∀u v,lD k u v=if JE k then decide (u<=v)else decide (v<=u):=λ_ _=>rfl
  cases hg:JE k with
  | true=>
   rw [hg]at hc hb
   obtain ⟨m,m1,m2,m3⟩:=ET (AZ z)
   refine (QZ hG.rays t1 t2 z' hc).trans (fin (P:=λu=>decide (u<=m)) (by rw [ha,FH m1 m2 m3,dJ]) λu _=>fc ?_)
   rw [wU,decide_eq_true_iff]
   refine ⟨λhm v hv hp=> ?_,λH=>of_decide_eq_true ((hb u m).symm.trans (H m m1 m2))⟩
   rw [hb]
   refine decide_eq_true (an hm (dM.mp λq=> ?_))
   rw [m3 v q]at hp;cases hp
  | false=>
   rw [hg]at hc hb
   refine (QY hG.rays t1 t2 z' hc).trans (fin (P:=λu=> !SK (f*r) (λu=>dG f k s u&&Q u) 64 u) (by rw [ha,Lf,lM,lM,lM,lM,lM,lM];exact iO _ _ _) λu _=>fc ?_)
   have hx:=Lg (S:=λu=>dG f k s u&&Q u) (s:=u) (an hn (show 20<=64 by decide))
   rw [wU,b0,<-Bool.not_eq_true,hx]
   refine ⟨λhm v hv hp=> ?_,λH ⟨v,a,b,c⟩=> ?_⟩
   ·rw [hb];exact decide_eq_true (dM.mp λq=>hm ⟨v,q,hv,hp⟩)
   ·have:=H v b c;rw [hb]at this;exact absurd a (dM.mpr (of_decide_eq_true this))
end
end
section
section
variable{f r:Nat}{G:T}
@[reducible] noncomputable def HS:S:= .seq (.aug 3 .or (.call 11 (.cons (.var 0) (.cons (.var 4) (.cons (.var 1) (.cons (.var 2) .nil)))))) .skip
theorem Ke(c:d5){s Q k F R:Int}(hc:c.call 11 [G,.int k,.int s,.int Q]=some (.int R)):Ex c [some (.sh G),iT s,iT Q,iT F,iT k] HS [some (.sh G),iT s,iT Q,iT (av F R),iT k]:=
 .seq (.aug rfl (.call (.cons (.var rfl) (.cons (.var rfl) (.cons (.var rfl) (.cons (.var rfl) .nil)))) hc) rfl) .skip
theorem ws(d:Nat)(hs:bX f r)(hG:qg G f r){s:Nat}(h:s<f*r)(Q:Nat->Bool):∀(l:List Nat) (F:Nat->Bool) (x:Option O),(∀k,k∈l->k<8)->
  ∃y,fQ (ex (bj br (d+2)) HS) [4] (l.map λk=>T.int (k:Nat)) [some (.sh G),iT s,iT (bI (f*r) Q),iT (bI (f*r) F),x]=some ([some (.sh G),iT s,iT (bI (f*r) Q),iT (bI (f*r) λu=>F u||l.any λk=>kO f (f*r) k s Q u),y],none)
 |[],F,x,_=>⟨x,by
   rw [show (bI (f*r) λu=>F u||([]:List Nat).any λk=>kO f (f*r) k s Q u)=bI (f*r) F from bp λu _=>cg _];rfl⟩
 | k::l,F,x,hl=>by
  have s2:=Ke (bj br (d+2)) (F:=bI (f*r) F) (Hl d hs hG (hl k ak) h Q)
  obtain ⟨y,e⟩:=ws d hs hG h Q l (λu=>F u||kO f (f*r) k s Q u) (iT k) λj hj=>hl j (ao _ hj)
  rw [ec]at s2
  refine ⟨y,(tm (ρ1:=[some (.sh G),iT s,iT (bI (f*r) Q),iT (bI (f*r) F),iT k]) rfl s2).trans (e.trans ?_)⟩
  rw [show (bI (f*r) λu=>(F u||kO f (f*r) k s Q u)||l.any λk=>kO f (f*r) k s Q u)=bI (f*r) (λu=>F u||(k::l).any λk=>kO f (f*r) k s Q u)from bp λu _=>gS _ _ _]
theorem SS(g:Nat->Bool)(a b c d:Nat):(false||[a,b,c,d].any g)=(g a||g b||g c||g d):=by
 show (false||(g a||(g b||(g c||(g d||false)))))=_
 rw [cg,oU,gS,gS]
theorem vh(d:Nat)(hs:bX f r)(hG:qg G f r){s:Nat}(h:s<f*r)(Q:Nat->Bool):(bj br (d+3)).call 12 [G,.int s,.int (bI (f*r) Q)]=some (.int (bI (f*r) (zZ f (f*r) s Q))):=by
 obtain ⟨y,e⟩:=ws d hs hG h Q [0,1,2,3] (λ_=>false) none (by decide)
 rw [fq,show (bI (f*r) λu=>false||[0,1,2,3].any λk=>kO f (f*r) k s Q u)=bI (f*r) (zZ f (f*r) s Q)from bp λu _=>SS _ 0 1 2 3]at e
 exact bq (F:=kr) (ρ:=[some (.sh G),iT s,iT (bI (f*r) Q),none,none]) rfl rfl (.next (.asg .lit) (.next (.for_ (x:= .rng 0 4 1) (l:=[0,1,2,3].map λk=>T.int (k:Nat)) rfl rfl e) (.h_ret (.var rfl))))
theorem vt(d:Nat)(hs:bX f r)(hG:qg G f r){s:Nat}(h:s<f*r)(Q:Nat->Bool):(bj br (d+3)).call 13 [G,.int s,.int (bI (f*r) Q)]=some (.int (bI (f*r) (Ae f (f*r) s Q))):=by
 obtain ⟨y,e⟩:=ws d hs hG h Q [4,5,6,7] (λ_=>false) none (by decide)
 rw [fq,show (bI (f*r) λu=>false||[4,5,6,7].any λk=>kO f (f*r) k s Q u)=bI (f*r) (Ae f (f*r) s Q)from bp λu _=>SS _ 4 5 6 7]at e
 exact bq (F:=jf) (ρ:=[some (.sh G),iT s,iT (bI (f*r) Q),none,none]) rfl rfl (.next (.asg .lit) (.next (.for_ (x:= .rng 4 8 1) (l:=[4,5,6,7].map λk=>T.int (k:Nat)) rfl rfl e) (.h_ret (.var rfl))))
@[reducible] noncomputable def xz:S:= .seq (.iff (.bin .and (.bin .shr (.idx (.idx (.attr (.var 0) 17) (.var 3)) (.var 1)) (.var 2)) (.lit (.int 1))) (.seq (.ret (.var 3)) .skip) .skip) .skip
theorem Pq(c:d5){a b k R V:Int}{M N:T}(hM:bV 17 (.sh G)=some (.sh M))(h1:b4 k (.sh M)=some (.sh N))(h2:b4 a (.sh N)=some (.sh (.int R)))(h3:bK .shr (.int R) (.int b)=some (.int V))(h4:bx (.int (aj V 1))=some true):
  n5 c [some (.sh G),iT a,iT b,iT k] xz (.int k):=
 .h_iff_t (.bin (.bin (.idx (.idx (.attr (.var rfl) hM) (.var rfl) h1) (.var rfl) h2) (.var rfl) h3) .lit rfl h4) (.h_ret (.var rfl))
theorem RE(c:d5){a b k R V:Int}{M N:T}(hM:bV 17 (.sh G)=some (.sh M))(h1:b4 k (.sh M)=some (.sh N))(h2:b4 a (.sh N)=some (.sh (.int R)))(h3:bK .shr (.int R) (.int b)=some (.int V))(h4:bx (.int (aj V 1))=some false):
  Ex c [some (.sh G),iT a,iT b,iT k] xz [some (.sh G),iT a,iT b,iT k]:=
 .seq (.iff_f (.bin (.bin (.idx (.idx (.attr (.var rfl) hM) (.var rfl) h1) (.var rfl) h2) (.var rfl) h3) .lit rfl h4) .skip) .skip
theorem K5{f:b6->Option n4}{tg:List Nat}{t v:T}{l:List T}{ρ ρ1 ρ':b6}(h:dz tg t ρ=some ρ1)(k:f ρ1=some (ρ',some v)):fQ f tg (t::l) ρ=some (ρ',some v):=by
 show ((dz tg t ρ).bind _)=_
 rw [h];show ((f ρ1).bind _)=_
 rw [k];rfl
theorem Hx{n s:Nat}(P:Nat->Bool)(hs:s<n):(!(aj ((bI n P).fdiv (2^s)) 1==0))=P s:=by
 rw [bitAnd_m1,jH,decide_eq_true hs]
 cases P s<;>rfl
noncomputable def Qp(o:Option Nat):Int:=o.elim (-1) λd=>(d:Nat)
noncomputable def R4(o:Option n4)(i:Int)(ρ:Option O->b6):Prop:=(∃ρ,o=some (ρ,some (.int i))/\0<=i)\/(i= -1/\∃y,o=some (ρ y,none))
theorem Di(o:d5)(hs:bX f r)(hG:qg G f r){a b:Nat}(ha:a<f*r)(hb:b<f*r):∀(l:List Nat) (x:Option O),(∀k,k∈l->k<8)->
  R4 (fQ (ex o xz) [3] (l.map λk=>T.int (k:Nat)) [some (.sh G),iT a,iT b,x]) (Qp (l.find? λd=>dG f d a b)) λy=>[some (.sh G),iT a,iT b,y]
 |[],x,_=> .inr ⟨rfl,x,rfl⟩
 | k::l,x,hl=>by
  have t1:=cy (g:=λd=>mX (f*r) λt=>bT f r (dG f d t)) (hl k ak) (by decide)
  have t2:=cy (g:=λt=>bT f r (dG f k t)) ha (aC hs.n_le (by decide))
  have hbit:=Hx (dG f k a) hb
  cases hp:dG f k a b with
  | true=>
   obtain ⟨ρ,e⟩:=Pq o hG.rays t1 t2 (ni (EY b)) (congrArg some (hbit.trans hp))
   rw [Aj (p:=λd=>dG f d a b) hp]
   exact .inl ⟨ρ,K5 (ρ1:=[some (.sh G),iT a,iT b,iT k]) rfl e,au k⟩
  | false=>
   rw [Ak (p:=λd=>dG f d a b) (by rw [hp];exact aO)]
   have e:=tm (l:=l.map λk=>T.int (k:Nat)) (ρ:=[some (.sh G),iT a,iT b,x]) (tg:=[3]) (t:= .int k) rfl (RE o hG.rays t1 t2 (ni (EY b)) (congrArg some (hbit.trans hp)))
   rw [zD,e]
   exact Di o hs hG ha hb l (iT k) λj hj=>hl j (ao _ hj)
theorem Hp(d:Nat)(hs:bX f r)(hG:qg G f r){a b:Nat}(ha:a<f*r)(hb:b<f*r):(bj br (d+1)).call 7 [G,.int a,.int b]=some (.int (Qp (mi f a b))):=by
 have hfor:=Ip (c:=bj br d) (ρ:=[some (.sh G),iT a,iT b,none]) (tg:=[3]) (b:=xz) (src:= .bi .range (.cons (.lit (.int 8)) .nil)) (t:= .rng 0 8 1) (l:=(ar 8).map λk=>T.int (k:Nat)) rfl rfl
 rcases Di (bj br d) hs hG ha hb (ar 8) none (by decide)with ⟨ρ,e,_⟩ |⟨q,y,e⟩
 ·exact bq (F:=kD) (ρ:=[some (.sh G),iT a,iT b,none]) rfl rfl ⟨ρ,wG (hfor.trans e)⟩
 ·rw [show Qp (mi f a b)= -1 from q]
  exact bq (F:=kD) (ρ:=[some (.sh G),iT a,iT b,none]) rfl rfl (.next (ρ1:=[some (.sh G),iT a,iT b,y]) (hfor.trans e) (.h_ret (.neg .lit)))
section
variable{d:Nat}{a b k R R2 x:Int}{M N N2:T}(hd:(bj br d).call 7 [G,.int a,.int b]=some (.int k))
include hd
theorem Py(hz:gP .lt (.int k) (.int 0)=some true):(bj br (d+1)).call 8 [G,.int a,.int b]=some (.int 0)/\(bj br (d+1)).call 9 [G,.int a,.int b]=some (.int 0):=
 ⟨bq (F:=pe) (ρ:=[some (.sh G),iT a,iT b,none]) rfl rfl (.next (.asg (.call (.cons (.var rfl) (.cons (.var rfl) (.cons (.var rfl) .nil))) hd)) (.h_iff_t (.cmp (.var rfl) .lit hz) (.h_ret .lit))),
 bq (F:=Bl) (ρ:=[some (.sh G),iT a,iT b,none]) rfl rfl (.next (.asg (.call (.cons (.var rfl) (.cons (.var rfl) (.cons (.var rfl) .nil))) hd)) (.h_iff_t (.cmp (.var rfl) .lit hz) (.h_ret .lit)))⟩
variable(hM:bV 17 (.sh G)=some (.sh M))(hz:gP .lt (.int k) (.int 0)=some false)(h1:b4 k (.sh M)=some (.sh N))(h2:b4 a (.sh N)=some (.sh (.int R)))(h3:b4 (c_ k 2) (.sh M)=some (.sh N2))
include hM hz h1 h2 h3
theorem LL(h4:b4 b (.sh N2)=some (.sh (.int R2))):(bj br (d+1)).call 8 [G,.int a,.int b]=some (.int (aj R R2)):=
 bq (F:=pe) (ρ:=[some (.sh G),iT a,iT b,none]) rfl rfl (.next (.asg (.call (.cons (.var rfl) (.cons (.var rfl) (.cons (.var rfl) .nil))) hd)) (.skip_iff (.cmp (.var rfl) .lit hz) (.h_ret (.bin (.idx (.idx (.attr (.var rfl) hM) (.var rfl) h1) (.var rfl) h2) (.idx (.idx (.attr (.var rfl) hM) (.bin (.var rfl) .lit rfl) h3) (.var rfl) h4) rfl))))
theorem GO(h4:b4 a (.sh N2)=some (.sh (.int R2)))(h5:bK .shl (.int 1) (.int a)=some (.int x)):(bj br (d+1)).call 9 [G,.int a,.int b]=some (.int (av (av R R2) x)):=
 bq (F:=Bl) (ρ:=[some (.sh G),iT a,iT b,none]) rfl rfl (.next (.asg (.call (.cons (.var rfl) (.cons (.var rfl) (.cons (.var rfl) .nil))) hd)) (.skip_iff (.cmp (.var rfl) .lit hz) (.h_ret (.bin (.bin (.idx (.idx (.attr (.var rfl) hM) (.var rfl) h1) (.var rfl) h2) (.idx (.idx (.attr (.var rfl) hM) (.bin (.var rfl) .lit rfl) h3) (.var rfl) h4) rfl) (.bin .lit (.var rfl) h5) rfl))))
end
theorem JI:∀k,k<8->c_ (k:Nat) 2=(opp k:Nat)/\opp k<8:=by decide
theorem zp(d:Nat)(hs:bX f r)(hG:qg G f r){a b:Nat}(ha:a<f*r)(hb:b<f*r):(bj br (d+2)).call 8 [G,.int a,.int b]=some (.int (bI (f*r) (E9 f a b)))/\(bj br (d+2)).call 9 [G,.int a,.int b]=some (.int (bI (f*r) (ur f a b))):=by
 have hd:=Hp d hs hG ha hb
 have hn:f*r<1000000:=aC hs.n_le (by decide)
 cases q:mi f a b with
 | none=>
  rw [q]at hd
  have z1:bI (f*r) (E9 f a b)=0:=(bp λu _=>by unfold E9;rw [q];rfl).trans (fq (f*r))
  have z2:bI (f*r) (ur f a b)=0:=(bp λu _=>by unfold ur;rw [q];rfl).trans (fq (f*r))
  rw [z1,z2]
  exact Py hd rfl
 | some k=>
  rw [q]at hd
  have hk:=oE (jo.mp q)
  obtain ⟨hx,hk2⟩:=JI k hk
  have t1:=cy (g:=λd=>mX (f*r) λt=>bT f r (dG f d t)) hk (by decide)
  have t2:=cy (g:=λt=>bT f r (dG f k t)) ha hn
  have t3:=cy (g:=λd=>mX (f*r) λt=>bT f r (dG f d t)) hk2 (by decide)
  rw [<-hx]at t3
  have kz:gP .lt (.int (k:Nat)) (.int 0)=some false:=congrArg some (decide_eq_false (cC.mpr (au k)))
  have hsh:bK .shl (.int 1) (.int (a:Nat))=some (.int (bI (f*r) λu=>u==a)):=by
   have:=qC (a:=1) (xc (k:=(a:Nat)) (au a) (aW.mpr (an (lm ha) (an hs.n_le (by decide)))) (by decide))
   rw [jU]at this
   rw [this,xC _ _ ha];rfl
  refine ⟨(LL hd hG.rays kz t1 t2 t3 (cy (g:=λt=>bT f r (dG f (opp k) t)) hb hn)).trans (congrArg (λi=>some (T.int i)) ?_),
   (GO hd hG.rays kz t1 t2 t3 (cy (g:=λt=>bT f r (dG f (opp k) t)) ha hn) hsh).trans (congrArg (λi=>some (T.int i)) ?_)⟩
  ·exact (dJ ..).trans (bp λu _=>by unfold E9;rw [q];rfl)
  ·rw [ec,ec];exact bp λu _=>by unfold ur;rw [q];rfl
end
end
section
theorem vd(m:Nat)(R:Nat->Bool):∀j,cnt (m+j) (λs=>decide (s<m)&&R s)=cnt m R
 | 0=>cZ λs hs=>by rw [decide_eq_true (show s<m from hs)];rfl
 | j+1=>by
  show cnt (m+j) _+(if (decide (m+j<m)&&R (m+j))=true then 1 else 0)=_
  rw [vd m R j,decide_eq_false (dM.mpr (bJ m j))];rfl
theorem Iu(k:Nat)(R:Nat->Bool):∀n,cnt (k+n) (λs=>decide (k<=s)&&R (s - k))=cnt n R
 | 0=>eJ.mpr λs hs=>by rw [decide_eq_false (Nat.not_le.mpr (show s<k from hs))];rfl
 | n+1=>by
  show cnt (k+n) _+(if (decide (k<=k+n)&&R (k+n - k))=true then 1 else 0)=cnt n R+_
  rw [Iu k R n,decide_eq_true (bJ k n),Nat.add_sub_cancel_left];rfl
theorem ED{n k:Nat}(h:k<=n)(P Q:Nat->Bool):cnt n (λs=>Q s&&QA k P s)=cnt n (λs=>P s&&T6 n k Q s):=by
 obtain ⟨m,rfl⟩:=Ai h
 have a:=Iu k (λs=>P s&&Q (s+k)) m
 have b:=vd m (λs=>P s&&Q (s+k)) k
 rw [bU m k]at b
 refine zT (cZ λs _=> ?_) ((a.trans b.symm).trans (cZ λs _=> ?_))
 ·show (Q s&&(decide (k<=s)&&P (s - k)))=(decide (k<=s)&&(P (s - k)&&Q (s - k+k)))
  by_cases q:k<=s
  ·rw [Nat.sub_add_cancel q,decide_eq_true q,ei,ei,cz]
  ·rw [decide_eq_false q];exact bP _
 ·show (decide (s<m)&&(P s&&Q (s+k)))=(P s&&(decide (s+k<k+m)&&Q (s+k)))
  rw [decide_eq_decide.mpr (show s+k<k+m↔s<m by rw [bU k m];exact Nat.add_lt_add_iff_right)]
  cases decide (s<m)<;>cases P s<;>rfl
theorem bW{n s:Nat}{P:Nat->Bool}:s∈fN n P↔s<n/\P s=true:=by unfold fN;rw [cA,az]
theorem fX(P:Nat->Bool):∀n,(fN n P).length=cnt n P
 | 0=>rfl
 | n+1=>by
  unfold fN
  rw [k8,iZ,bn]
  refine congr (congrArg _ (fX P n)) ?_
  rw [gN]
  show _=if P n=true then 1 else 0
  cases P n<;>rfl
theorem uT(n:Nat)(P:Nat->Bool):(fN n P).Nodup:=sJ.filter _
theorem rj{f r:Nat}(hf:0<f)(P:Nat->Bool):((fN (f*r) λs=>P (sg f r s)).map (sg f r)).Perm (fN (f*r) P):=by
 refine (vS ?_ (uT _ _)).mpr λa=> ?_
 ·refine vT.mpr (Jo.mpr ((uT _ _).imp_of_mem λha hb hne e=>hne (HN hf (bW.mp ha).1 (bW.mp hb).1 e)))
 ·rw [c9,bW]
  refine ⟨λ⟨b,h,e⟩=> ?_,λ⟨h1,h2⟩=>⟨sg f r a,bW.mpr ⟨nS hf h1,by rw [j7 hf h1];exact h2⟩,j7 hf h1⟩⟩
  exact e▸⟨nS hf (bW.mp h).1,(bW.mp h).2⟩
structure Fa(p:T)(w:Bd):Prop where
 geo:bV 2 (.sh p)=some (.sh (eE w.f w.r))
 brd:bV 28 (.sh p)=some (.sh w.brdT)
 kinds:bV 29 (.sh p)=some (.sh w.kindsT)
 sides:bV 30 (.sh p)=some (.sh w.sidesT)
theorem kP(w:Bd)(s:Int):Fa (w.posT s) w:=⟨rfl,rfl,rfl,rfl⟩
noncomputable def Bd.men(w:Bd)(c k s:Nat):Bool:=w.sideP c s&&w.kindP k s
theorem dZ(w:Bd){c:Nat}(hc:c<=1):b4 (c:Nat) (.sh w.sidesT)=some (.sh (w.bT (w.sideP c))):=by
 rcases aY.mp hc with rfl | rfl<;>rfl
theorem gu(w:Bd):∀{k:Nat},1<=k->k<=6->b4 (k:Nat) (.sh w.kindsT)=some (.sh (w.bT (w.kindP k)))
 | 1,_,_ | 2,_,_ | 3,_,_ | 4,_,_ | 5,_,_ | 6,_,_=>rfl
section
variable{w:Bd}{p G:T}
theorem Ki(d:Nat){c k A B:Int}{M N:T}(h1:bV 30 (.sh p)=some (.sh M))(h2:bV 29 (.sh p)=some (.sh N))(h3:b4 c (.sh M)=some (.sh (.int A)))(h4:b4 k (.sh N)=some (.sh (.int B))):
  (bj br (d+1)).call 19 [p,.int c,.int k]=some (.int (aj A B)):=
 bq (F:=yL) (ρ:=[some (.sh p),iT c,iT k]) rfl rfl (.h_ret (.bin (.idx (.attr (.var rfl) h1) (.var rfl) h3) (.idx (.attr (.var rfl) h2) (.var rfl) h4) rfl))
theorem fh(d:Nat)(hp:Fa p w){c k:Nat}(hc:c<=1)(h1:1<=k)(h2:k<=6):(bj br (d+1)).call 19 [p,.int c,.int k]=some (.int (bI w.n (w.men c k))):=
 (Ki d hp.sides hp.kinds (dZ w hc) (gu w h1 h2)).trans (congrArg (λi=>some (T.int i)) (dJ _ _ _))
theorem Hw(d:Nat){A B C K:Int}(h1:bV 2 (.sh p)=some (.sh G))(h2:(bj br d).call 19 [p,.int 1,.int 1]=some (.int A))(h3:(bj br d).call 19 [p,.int 0,.int 1]=some (.int B))(h4:(bj br d).call 43 [G,.int B,.int 0]=some (.int C))(h6:(bj br d).call 0 [.int (aj A C)]=some (.int K)):
  (bj br (d+1)).call 99 [p]=some (.int (2*K)):=
 bq (F:=jR) (ρ:=[some (.sh p)]) rfl rfl (.h_ret (.bin .lit (.call (.cons (.bin (.call (.cons (.var rfl) (.cons .glob (.cons .glob .nil))) h2) (.call (.cons (.attr (.var rfl) h1) (.cons (.call (.cons (.var rfl) (.cons .glob (.cons .glob .nil))) h3) (.cons .glob .nil))) h4) rfl) .nil) h6) rfl))
theorem FA(hs:bX w.f w.r):w.n<1000:=aC hs.n_le (by decide)
theorem nP(d:Nat)(hs:bX w.f w.r)(hp:Fa p w):(bj br (d+2)).call 99 [p]=some (.int (2*(cnt w.n (λs=>w.men 1 1 s&&QA w.f (w.men 0 1) s):Nat))):=by
 refine Hw (d+1) hp.geo (fh (c:=1) (k:=1) d hp (by decide) (by decide) (by decide)) (fh (c:=0) (k:=1) d hp (by decide) (by decide) (by decide)) (fg d hs (jB _ _) _ (c:=0) (by decide)) ?_
 rw [show aj (bI w.n (w.men 1 1)) (bI (w.f*w.r) _)=_ from dJ _ _ _]
 exact da d _ _ (FA hs)
end
noncomputable def Ab(o:Option T):Option Int:=match o with | some (.int k)=>some k | _=>none
theorem mK{o:Option T}{k:Int}(h:Ab o=some k):o=some (.int k):=by
 cases o with
 | none=>exact no h
 | some t=>cases t<;>first | exact no h | exact congrArg (λi=>some (T.int i)) (ah.inj h)
noncomputable def two{α:Type}(a b:Option α)(p:α->α->Bool):Bool:=a.elim false λx=>b.elim false (p x)
theorem NZ{α:Type}{a b:Option α}{p:α->α->Bool}(h:two a b p=true):∃x y,a=some x/\b=some y/\p x y=true:=by
 cases a with
 | none=>cases h
 | some x=>cases b with
  | none=>cases h
  | some y=>exact ⟨x,y,rfl,rfl,h⟩
noncomputable def O0(f r s:Nat):Bool:=two (Ab ((bj br 4).call 66 [eE f r,.int (s:Nat)])) (Ab ((bj br 4).call 66 [eE f r,.int (sg f r s:Nat)])) λa b=>
 (a==bI (f*r) a.toNat.testBit)&&(b==bI (f*r) λu=>a.toNat.testBit (sg f r u))
theorem KR:([3,4].all λf=>[4,5].all λr=>(ar (f*r)).all λs=>O0 f r s)=true:=by decide+kernel
theorem sB(d:Nat){f r:Nat}(hs:bX f r){s:Nat}(h:s<f*r):∃P,(bj br (d+4)).call 66 [eE f r,.int (s:Nat)]=some (.int (bI (f*r) P))/\(bj br (d+4)).call 66 [eE f r,.int (sg f r s:Nat)]=some (.int (bI (f*r) λu=>P (sg f r u))):=by
 obtain ⟨a,b,ea,eb,h1⟩:=NZ (ax.mp (ax.mp (ax.mp KR f hs.mem.1) r hs.mem.2) s (az.mpr h))
 have e1:=beq_iff_eq.mp (cD h1).1
 have e2:=beq_iff_eq.mp (cD h1).2
 refine ⟨a.toNat.testBit,?_,?_⟩
 ·rw [<-e1];exact b8 (cw 4 d) (mK ea)
 ·rw [<-e2];exact b8 (cw 4 d) (mK eb)
noncomputable def CN(k c:Nat):Bool:=(Ab ((bj br 3).call 63 [.int (k:Nat),.int (c:Nat)])).elim false λa=>decide (-13900000<=a)&&decide (a<=12200000)
theorem GL:([2,3,4,5].all λk=>(ar 21).all λc=>CN k c)=true:=by decide+kernel
theorem TE:∀k,k<6->2<=k->k∈[2,3,4,5]:=by decide
theorem Hn(d:Nat){k c:Int}(h1:2<=k)(h2:k<=5)(h3:0<=c)(h4:c<=20):∃a,(bj br (d+3)).call 63 [.int k,.int c]=some (.int a)/\ -13900000<=a/\a<=12200000:=by
 obtain ⟨k,rfl⟩:=cR (ap (by decide) h1)
 obtain ⟨c,rfl⟩:=cR h3
 have h:=ax.mp (ax.mp GL k (TE k (aU (aW.mp h2)) (aW.mp h1))) c (az.mpr (aU (aW.mp h4)))
 unfold CN at h
 cases e:Ab ((bj br 3).call 63 [.int (k:Nat),.int (c:Nat)])with
 | none=>rw [e]at h;cases h
 | some a=>rw [e]at h;exact ⟨a,b8 (cw 3 d) (mK e),of_decide_eq_true (cD h).1,of_decide_eq_true (cD h).2⟩
noncomputable def wY{β:Type}(l:List Ty)(f:Ty->Ty->Ty->Option β):Option β:=l.casesOn none λa r=>kI r (f a)
noncomputable def JF{β:Type}(l:List Ty)(f:Ty->Option β):Option β:=kI l λa b=>a.isK 5 (f b)
noncomputable def vQ{β:Type}(l:List Ty)(f:Ty->Ty->Option β):Option β:=wY l λa b c=>a.isK 5 (f b c)
noncomputable def E6(f r:Nat)(g:Nat)(ts:List Ty):Option Ty:=
 if g=0 then gZ ts λt=>t.asB (f*r) λk=>some (.i 0 (if dP k then 7 else f*r:Nat))
 else if g=1 then gZ ts λt=>t.asB (f*r) λ_=>some (.bo none)
 else if g=3 then gZ ts λt=>t.asB (f*r) λk=>if k=5 then some (.sq 0)else none
 else if g=4 then gZ ts λt=>t.asB (f*r) λk=>some (.perm (.sq (zP k)) (if dP k then 7 else f*r))
 else if g=8\/g=9 then vQ ts λa b=>a.asS λ_=>b.asS λ_=>some (.bb 0)
 else if g=12\/g=13 then vQ ts λa b=>a.asS λ_=>b.asB (f*r) λ_=>some (.bb 0)
 else if g=31 then vQ ts λa b=>a.isK 1 (b.asS λk=>if k=2 then some (.i 1 (r - 2:Nat))else some (.i 0 (r - 1:Nat)))
 else if g=43\/g=45 then vQ ts λa b=>b.isK 1 (a.asB (f*r) λ_=>some (.bb 0))
 else if g=44 then JF ts λa=>a.asB (f*r) λ_=>some (.bb 0)
 else if g=57 then vQ ts λa b=>a.isK 1 (b.asI λlo hi=>if 0<=lo/\hi<r then some (.bb 0)else none)
 else if g=63 then kI ts λa b=>a.asI λl h=>b.asI λl' h'=>if 2<=l/\h<=5/\0<=l'/\h'<=20 then some (.i (-13900000) 12200000)else none
 else if g=66 then JF ts λa=>a.asS λ_=>some (.bb 0)
 else if g=99 then gZ ts λa=>a.isK 6 (some (.i 0 14))
 else none
section
variable{w:Bd}{β:Type}
theorem sQ{l:List Ty}{f:Ty->Ty->Ty->Option β}{xs ys:List T}{Q:List T->List T->β->Prop}(hr:Rs w l xs ys)(h:∀a b c x y u v p q,R w a x y->R w b u v->R w c p q->Ok (f a b c) (Q [x,u,p] [y,v,q])):Ok (wY l f) (Q xs ys):=by
 match l,hr with
 |[],_=>exact Ok.none
 | a::r,hr=>exact qN (Q:=λxs ys=>Ok (kI r (f a)) (Q xs ys)) hr λx y xs ys h1 h2=>gE (Q:=λxs ys=>Q (x::xs) (y::ys)) h2 λb c u v p q h3 h4=>h a b c x y u v p q h1 h3 h4
theorem Bv{a:Ty}{x y:T}{o:Option β}{Q:T->T->β->Prop}(hx:R w a x y)(h:Ok o (Q (eE w.f w.r) (eE w.f w.r))):Ok (a.isK 5 o) (Q x y):=
 gI hx λ⟨e,e'⟩=>by subst e e';exact h
theorem C5{l:List Ty}{f:Ty->Option β}{xs ys:List T}{Q:List T->List T->β->Prop}(hr:Rs w l xs ys)(h:∀b u v,R w b u v->Ok (f b) (Q [eE w.f w.r,u] [eE w.f w.r,v])):Ok (JF l f) (Q xs ys):=
 gE hr λa b x y u v h1 h2=>Bv (Q:=λx y=>Q [x,u] [y,v]) h1 (h b u v h2)
theorem oM{l:List Ty}{f:Ty->Ty->Option β}{xs ys:List T}{Q:List T->List T->β->Prop}(hr:Rs w l xs ys)(h:∀b c u v p q,R w b u v->R w c p q->Ok (f b c) (Q [eE w.f w.r,u,p] [eE w.f w.r,v,q])):Ok (vQ l f) (Q xs ys):=
 sQ hr λa b c x y u v p q h1 h2 h3=>Bv (Q:=λx y=>Q [x,u,p] [y,v,q]) h1 (h b c u v p q h2 h3)
theorem LC(hw:w.Ok){k:Nat}(h:dP k=true){P:Nat->Bool}(hp:uE w k P):cnt w.n P<=7:=an (oB λs hs q=>fY h hp s hs q) hw.few
theorem Do(hw:w.Ok){k:Nat}{P:Nat->Bool}(hp:uE w k P):cnt w.n P<=if dP k then 7 else w.f*w.r:=by
 split
 ·exact LC hw ‹_› hp
 ·exact qz _ _
theorem Bg(h:s<w.n):s/w.f<w.r:=aH h
theorem So(hw:w.Ok){c s:Nat}(hc:c<=1)(h:s<w.n):uk w.f w.r (1 - c) (w.sg s)=uk w.f w.r c s:=by
 have h2:w.sg s/w.f=w.r - 1 - s/w.f:=lz hw.shape.fpos s
 rcases aY.mp hc with rfl | rfl
 ·exact (congrArg (w.r - 1 - ·) h2).trans (cH (cx (Bg h)))
 ·exact h2
theorem AA{c s:Nat}(h:s<w.n):uk w.f w.r c s<=w.r - 1:=by
 unfold uk;split
 ·exact cx (Bg h)
 ·exact bE _ _
theorem s6{c s:Nat}(hw:w.Ok)(h:s<w.n)(hp:w.kindP 1 s=true):1<=uk w.f w.r c s/\uk w.f w.r c s<=w.r - 2:=by
 obtain ⟨h1,h2⟩:=hw.pawn s h (beq_iff_eq.mp hp)
 have h3:=Fi h2
 unfold uk;split
 ·exact ⟨h1,h3⟩
 ·refine ⟨Nat.le_sub_of_add_le' (Fi h2),?_⟩
  exact Nat.sub_le_sub_left (k:=w.r - 1) h1
theorem O_{k:Nat}{P:Nat->Bool}{s:Nat}(hp:uE w k P)(hs:s<w.n)(h:P s=true):T9 w (zP k) s:=by
 unfold zP;split
 ·rename_i e;subst e;exact hp s hs h
 ·cases e:dP k
  ·trivial
  ·exact fY e hp s hs h
theorem FZ(hw:w.Ok){k:Nat}{P:Nat->Bool}(hp:uE w k P):R w (.perm (.sq (zP k)) (if dP k then 7 else w.f*w.r)) (.list (ka (fN w.n P))) (.list (ka (fN w.n λs=>P (w.sg s)))):=by
 refine ⟨(fN w.n P).map (λs=>(.int (s:Nat),.int (w.sg s:Nat))),(fN w.n λs=>P (w.sg s)).map (λs=>(.int (w.sg s:Nat),.int (s:Nat))),congrArg T.list (by rw [a_];rfl),congrArg T.list (by rw [a_];rfl),?_,?_,λp hmem=> ?_⟩
 ·refine ((rj hw.shape.fpos (r:=w.r) P).symm.map (λs=>((T.int (s:Nat),T.int (w.sg s:Nat)):T×T))).trans (Ah.of_eq ?_)
  rw [a_]
  exact bg λs hs=>congrArg (λu=>((T.int (w.sg s:Nat),T.int (u:Nat)):T×T)) (dR hw (bW.mp hs).1)
 ·rw [aq,fX];exact Do hw hp
 ·obtain ⟨s,hs,rfl⟩:=c9.mp hmem
  exact ⟨s,(bW.mp hs).1,rfl,rfl,O_ hp (bW.mp hs).1 (bW.mp hs).2⟩
theorem zY{c:Nat}(hc:c<=1):(1 -(c:Nat):Int)=((1 - c:Nat):Int):=(dD hc).symm
theorem qx{a:Ty}{x y:T}{o:Option β}{Q:T->T->β->Prop}(hx:R w a x y)(h:∀c:Nat,c<=1->Ok o (Q (.int (c:Nat)) (.int (1 - c:Nat)))):Ok (a.isK 1 o) (Q x y):=
 Bw hx λc hc=>by rw [zY hc];exact h c hc
noncomputable def C2(w:Bd)(d g:Nat)(xs ys:List T)(t:Ty):Prop:=P2 (R w t) ((bj br d).call g xs) ((bj br d).call g ys)
theorem c2{d g:Nat}{xs ys:List T}{x y:T}{t:Ty}(h1:(bj br d).call g xs=some x)(h2:(bj br d).call g ys=some y)(h:R w t x y):C2 w d g xs ys t:=⟨x,y,h1,h2,h⟩
variable(hw:w.Ok)(d:Nat){ts:List Ty}{xs ys:List T}(hr:Rs w ts xs ys)
include hw hr
theorem Rh:Ok (gZ ts λt=>t.asB w.n λk=>some (Ty.i 0 (if dP k then 7 else w.f*w.r:Nat))) (C2 w (d+1) 0 xs ys):=
 fP hr λa x y h=>cS (Q:=λx y=>C2 w (d+1) 0 [x] [y]) h λk P hp=> .some (c2 (da d _ _ (FA hw.shape)) ((da d _ _ (FA hw.shape)).trans (congrArg (λn:Nat=>some (T.int n)) (tS hw.shape.fpos P))) (xP (au _) (aW.mpr (Do hw hp))))
theorem OU:Ok (gZ ts λt=>t.asB w.n λ_=>some (Ty.bo none)) (C2 w (d+1) 1 xs ys):=
 fP hr λa x y h=>cS (Q:=λx y=>C2 w (d+1) 1 [x] [y]) h λk P hp=> .some (c2 (vm d _ _) ((vm d _ _).trans (congrArg (λn:Nat=>some (T.bool (decide (1<n)))) (tS hw.shape.fpos P))) ⟨_,rfl,rfl,λc h=>no h⟩)
theorem Rf:Ok (gZ ts λt=>t.asB w.n λk=>if k=5 then some (Ty.sq 0)else none) (C2 w (d+2) 3 xs ys):=
 fP hr λa x y h=>cS (Q:=λx y=>C2 w (d+2) 3 [x] [y]) h λk P hp=> .if1 λe=> .some (by
  subst e
  obtain ⟨m,hm,hP⟩:=hp
  have e2:(bI w.n λs=>P (w.sg s))=bI w.n λs=>s==w.sg m:=bp λs hs=>(hP _ (ci hw hs)).trans (Nw hw.shape.fpos hm hs).symm
  rw [bp hP,e2]
  exact c2 (kF d _ _ hm hw.shape.n_le) (kF d _ _ (ci hw hm) hw.shape.n_le) ⟨m,hm,rfl,rfl,trivial⟩)
theorem Rc:Ok (gZ ts λt=>t.asB w.n λk=>some (Ty.perm (.sq (zP k)) (if dP k then 7 else w.f*w.r))) (C2 w (d+1) 4 xs ys):=
 have hn:=an hw.shape.n_le (show 20<=900 by decide)
 fP hr λa x y h=>cS (Q:=λx y=>C2 w (d+1) 4 [x] [y]) h λk P hp=> .some (c2 (eF d _ _ hn) (eF d _ _ hn) (FZ hw hp))
theorem Ri{g:Nat}(e:g=8\/g=9):Ok (vQ ts λa b=>a.asS λ_=>b.asS λ_=>some (Ty.bb 0)) (C2 w (d+2) g xs ys):=
 have hs:=hw.shape
 oM hr λa b x y u v h1 h2=>gM (Q:=λx y=>C2 w (d+2) g [_,x,u] [_,y,v]) h1 λ_ a ha _=>gM (Q:=λu v=>C2 w (d+2) g [_,_,u] [_,_,v]) h2 λ_ b hb _=> .some (by
  have c1:=zp d hs (jB w.f w.r) ha hb
  have c2':=zp d hs (jB w.f w.r) (ci hw ha) (ci hw hb)
  rcases e with rfl | rfl
  ·exact c2 c1.1 c2'.1 (mz (k:=0) trivial λu hu=>Px hs.fpos ha hb hu)
  ·exact c2 c1.2 c2'.2 (mz (k:=0) trivial λu hu=>KN hs.fpos ha hb hu))
theorem KA{g:Nat}(e:g=12\/g=13):Ok (vQ ts λa b=>a.asS λ_=>b.asB w.n λ_=>some (Ty.bb 0)) (C2 w (d+3) g xs ys):=
 have hs:=hw.shape
 oM hr λa b x y u v h1 h2=>gM (Q:=λx y=>C2 w (d+3) g [_,x,u] [_,y,v]) h1 λ_ a ha _=>cS (Q:=λu v=>C2 w (d+3) g [_,_,u] [_,_,v]) h2 λ_ P _=> .some (by
  rcases e with rfl | rfl
  ·exact c2 (vh d hs (jB w.f w.r) ha P) (vh d hs (jB w.f w.r) (ci hw ha) _) (mz (k:=0) trivial λu hu=>Kd hs P ha hu)
  ·exact c2 (vt d hs (jB w.f w.r) ha P) (vt d hs (jB w.f w.r) (ci hw ha) _) (mz (k:=0) trivial λu hu=>LQ hs P ha hu))
theorem Rd:Ok (vQ ts λa b=>a.isK 1 (b.asS λk=>if k=2 then some (Ty.i 1 (w.r - 2:Nat))else some (.i 0 (w.r - 1:Nat)))) (C2 w (d+1) 31 xs ys):=
 oM hr λa b x y u v h1 h2=>qx (Q:=λx y=>C2 w (d+1) 31 [_,x,u] [_,y,v]) h1 λc hc=>gM (Q:=λu v=>C2 w (d+1) 31 [_,_,u] [_,_,v]) h2 λk s hs hf=>by
  have c1:=gj d hw.shape (jB w.f w.r) hc hs
  have c2':=gj d hw.shape (jB w.f w.r) (bE 1 c) (ci hw hs)
  rw [So hw hc hs]at c2'
  refine .ite (λe=> .some (c2 c1 c2' ?_)) λ_=> .some (c2 c1 c2' (xP (au _) (aW.mpr (AA hs))))
  subst e
  exact xP (aW.mpr (s6 hw hs hf).1) (aW.mpr (s6 hw hs hf).2)
theorem KC{g:Nat}(e:g=43\/g=45):Ok (vQ ts λa b=>b.isK 1 (a.asB w.n λ_=>some (Ty.bb 0))) (C2 w (d+1) g xs ys):=
 have hs:=hw.shape
 oM hr λa b x y u v h1 h2=>qx (Q:=λu v=>C2 w (d+1) g [_,x,u] [_,y,v]) h2 λc hc=>cS (Q:=λx y=>C2 w (d+1) g [_,x,_] [_,y,_]) h1 λk P _=> .some (by
  rcases e with rfl | rfl
  ·exact c2 (fg d hs (jB w.f w.r) P hc) (fg d hs (jB w.f w.r) _ (bE 1 c)) (mz (k:=0) trivial λu hu=>by
    have:=EN hs (m:=1) (by decide) hc hu P
    rw [f8]at this;exact this)
  ·exact c2 (hJ d hs (jB w.f w.r) hc P) (hJ d hs (jB w.f w.r) (bE 1 c) _) (mz (k:=0) trivial λu hu=>Im hs hc hu P))
theorem KD:Ok (JF ts λa=>a.asB w.n λ_=>some (Ty.bb 0)) (C2 w (d+1) 44 xs ys):=
 have hs:=hw.shape
 C5 hr λb u v h=>cS (Q:=λu v=>C2 w (d+1) 44 [_,u] [_,v]) h λk P _=> .some (c2 (iu d hs (jB w.f w.r) P) (iu d hs (jB w.f w.r) _) (mz (k:=0) trivial λu hu=>Nb hs hu P))
theorem OS:Ok (vQ ts λa b=>a.isK 1 (b.asI λlo hi=>if 0<=lo/\hi<w.r then some (Ty.bb 0)else none)) (C2 w (d+1) 57 xs ys):=
 have hs:=hw.shape
 oM hr λa b x y u v h1 h2=>qx (Q:=λx y=>C2 w (d+1) 57 [_,x,u] [_,y,v]) h1 λc hc=>cW (Q:=λu v=>C2 w (d+1) 57 [_,_,u] [_,_,v]) h2 λlo hi k k1 k2=> .if1 λ⟨e1,e2⟩=> .some (by
  obtain ⟨k,rfl⟩:=cR (ap e1 k1)
  have hk:k<w.r:=bF.mp (bC k2 e2)
  refine c2 (vi d hs (jB w.f w.r) hc hk) (vi d hs (jB w.f w.r) (bE 1 c) hk) (mz (k:=0) trivial λu hu=> ?_)
  unfold w7
  rw [show w.sg u/w.f=w.r - 1 - u/w.f from lz hs.fpos u]
  have q:=cx (Bg hu)
  have k':=cx hk
  refine fc ?_
  rw [beq_iff_eq,beq_iff_eq]
  rcases aY.mp hc with rfl | rfl
  ·show u/w.f=w.r - 1 - k↔w.r - 1 - u/w.f=k
   exact ⟨λe=>by rw [e];exact cH k',λe=>by rw [<-e];exact (cH q).symm⟩
  ·show u/w.f=k↔w.r - 1 - u/w.f=w.r - 1 - k
   exact ⟨λe=>congrArg (w.r - 1 - ·) e,λe=>by rw [<-cH q,e];exact cH k'⟩)
theorem Re:Ok (kI ts λa b=>a.asI λl h=>b.asI λl' h'=>if 2<=l/\h<=5/\0<=l'/\h'<=20 then some (Ty.i (-13900000) 12200000)else none) (C2 w (d+3) 63 xs ys):=
 gE hr λa b x y u v h1 h2=>fv (Q:=λx y u v=>C2 w (d+3) 63 [x,u] [y,v]) h1 h2 λl h k l' h' j k1 k2 j1 j2=> .if1 λ⟨e1,e2,e3,e4⟩=> .some (by
  obtain ⟨a,ea,a1,a2⟩:=Hn d (ap e1 k1) (ap k2 e2) (ap e3 j1) (ap j2 e4)
  exact c2 ea ea (xP a1 a2))
theorem OR:Ok (JF ts λa=>a.asS λ_=>some (Ty.bb 0)) (C2 w (d+4) 66 xs ys):=
 C5 hr λb u v h=>gM (Q:=λu v=>C2 w (d+4) 66 [_,u] [_,v]) h λk s hs _=> .some (by
  obtain ⟨P,e1,e2⟩:=sB d hw.shape hs
  exact c2 e1 e2 (QD (k:=0) trivial))
omit hr in
theorem gH{c k s:Nat}(hc:c<=1)(hs:s<w.n):w.turn.men c k s=w.men (1 - c) k (w.sg s):=by unfold Bd.men;rw [ji hw hc hs,hH]
omit hr in
theorem Pz:cnt w.n (λs=>w.turn.men 1 1 s&&QA w.f (w.turn.men 0 1) s)=cnt w.n (λs=>w.men 1 1 s&&QA w.f (w.men 0 1) s):=by
 have hs:=hw.shape
 have hf:w.f<=w.n:=Nat.le_mul_of_pos_right _ (bR (by decide) hs.r_lt.1)
 rw [ED hf]
 refine zT (cZ λs hs'=> ?_) (tS hs.fpos (r:=w.r) (λs=>w.men 1 1 s&&QA w.f (w.men 0 1) s))
 show (w.turn.men 0 1 s&&T6 w.n w.f (w.turn.men 1 1) s)=(w.men 1 1 (w.sg s)&&QA w.f (w.men 0 1) (w.sg s))
 rw [gH hw (aE 1) hs']
 have h:=EN hs (m:=1) (by decide) (c:=0) (aE 1) hs' (w.men 0 1)
 rw [f8]at h
 refine congrArg (w.men 1 1 (w.sg s)&& ·) (zT ?_ h)
 exact j3 (c:=1) (k:=w.f) (λs hs=>gH hw (aA 1) hs) hs'
theorem Rj:Ok (gZ ts λa=>a.isK 6 (some (Ty.i 0 14))) (C2 w (d+2) 99 xs ys):=
 fP hr λa x y h=>gI (k:=6) (Q:=λx y=>C2 w (d+2) 99 [x] [y]) h λ⟨a,b,e,e'⟩=> .some (by
  subst e e'
  have c2':=nP d (w:=w.turn) hw.shape (kP w.turn b)
  rw [show w.turn.n=w.n from rfl,show w.turn.f=w.f from rfl,Pz hw]at c2'
  refine c2 (nP d hw.shape (kP w a)) c2' (xP (mQ (by decide) (au _)) ?_)
  have:cnt w.n (λs=>w.men 1 1 s&&QA w.f (w.men 0 1) s)<=7:=an (oB λs hs q=>iD (aA 1) (cD (cD q).1).2) hw.few
  exact gV (aW.mpr this) (show (0:Int)<=2 by decide))
omit hr in
theorem rx:qh w (bj br (d+4)) (E6 w.f w.r):=λg ts xs ys hr=>
 .ite (λe=>by subst e;exact Rh hw (d+3) hr) λ_=> .ite (λe=>by subst e;exact OU hw (d+3) hr) λ_=> .ite (λe=>by subst e;exact Rf hw (d+2) hr) λ_=> .ite (λe=>by subst e;exact Rc hw (d+3) hr) λ_=>
 .ite (λe=>Ri hw (d+2) hr e) λ_=> .ite (λe=>KA hw (d+1) hr e) λ_=> .ite (λe=>by subst e;exact Rd hw (d+3) hr) λ_=> .ite (λe=>KC hw (d+3) hr e) λ_=>
 .ite (λe=>by subst e;exact KD hw (d+3) hr) λ_=> .ite (λe=>by subst e;exact OS hw (d+3) hr) λ_=> .ite (λe=>by subst e;exact Re hw (d+1) hr) λ_=> .ite (λe=>by subst e;exact OR hw d hr) λ_=> .ite (λe=>by subst e;exact Rj hw (d+2) hr) λ_=> .none
end
end
section
theorem KZ{q:Prop}[Decidable q]{a b:Int}:(if decide q then T.int a else .int b)= .int (if q then a else b):=by
 by_cases e:q
 ·rw [if_pos e,decide_eq_true e];rfl
 ·rw [if_neg e,decide_eq_false e];rfl
section
variable{w:Bd}{p G:T}
theorem EA(d:Nat){c k A B K:Int}{M N:T}(h1:bV 30 (.sh p)=some (.sh M))(h2:bV 29 (.sh p)=some (.sh N))(h3:b4 c (.sh M)=some (.sh (.int A)))(h4:b4 k (.sh N)=some (.sh (.int B)))(h6:(bj br d).call 0 [.int (aj B A)]=some (.int K)):
  (bj br (d+1)).call 76 [p,.int c,.int k]=some (.int K):=
 bq (F:=rZ) (ρ:=[some (.sh p),iT c,iT k]) rfl rfl (.h_ret (.call (.cons (.bin (.idx (.attr (.var rfl) h2) (.var rfl) h4) (.idx (.attr (.var rfl) h1) (.var rfl) h3) rfl) .nil) h6))
theorem ue(d:Nat)(hn:w.n<=20)(hp:Fa p w){c k:Nat}(hc:c<=1)(h1:1<=k)(h2:k<=6):(bj br (d+2)).call 76 [p,.int c,.int k]=some (.int (cnt w.n (w.men c k):Nat)):=by
 refine EA (d+1) hp.sides hp.kinds (dZ w hc) (gu w h1 h2) ?_
 rw [dJ]
 exact (da d w.n _ (aC hn (by decide))).trans (congrArg (λn:Nat=>some (T.int n)) (cZ λs _=>cz _ _))
@[reducible] noncomputable def Qq:S:= .seq (.app (.var 3) (.call 76 (.cons (.var 0) (.cons (.var 2) (.cons (.var 4) .nil))))) .skip
noncomputable def oV(g:Nat->Int):T:= .list [.int (if 1<g 3 then 1 else 0),.int (g 1),.int (g 2),.int (g 3),.int (g 4),.int (g 5)]
section
variable{c:d5}{s:Int}{g:Nat->Int}{l:List O}{x y z:Option O}(h:∀k:Nat,1<=k->k<=5->c.call 76 [p,.int s,.int (k:Nat)]=some (.int (g k)))
include h
theorem oP{k:Nat}(k1:1<=k)(k5:k<=5){m:List O}(hm:m.length<=1000):Ex c [some (.sh p),x,iT s,some (.lst m),iT (k:Nat)] Qq [some (.sh p),x,iT s,some (.lst (m++[.sh (.int (g k))])),iT (k:Nat)]:=
 .seq (.app rfl (.call (.cons (.var rfl) (.cons (.var rfl) (.cons (.var rfl) .nil))) (h k k1 k5)) hm) .skip
theorem RF:FL c Qq [4] [.int 1,.int 2,.int 3,.int 4,.int 5] [some (.sh p),x,iT s,some (.lst [.sh (.int 0)]),z] [some (.sh p),x,iT s,some (.lst [.sh (.int 0),.sh (.int (g 1)),.sh (.int (g 2)),.sh (.int (g 3)),.sh (.int (g 4)),.sh (.int (g 5))]),iT 5]:=
 .cons rfl (oP h (k:=1) (by decide) (by decide) (by decide)) (.cons rfl (oP h (k:=2) (by decide) (by decide) (show 2<=1000 by decide)) (.cons rfl (oP h (k:=3) (by decide) (by decide) (show 3<=1000 by decide)) (.cons rfl (oP h (k:=4) (by decide) (by decide) (show 4<=1000 by decide)) (.cons rfl (oP h (k:=5) (by decide) (by decide) (show 5<=1000 by decide)) .nil))))
@[reducible] noncomputable def RG:S:= .seq (.asgO 3 (.list (.cons (.lit (.int 0)) .nil))) (.seq (.forr [4] (.tup (.cons (.glob (aa "PAWN") (.int 1)) (.cons (.glob (aa "KNIGHT") (.int 2)) (.cons (.glob (aa "BISHOP") (.int 3)) (.cons (.glob (aa "ROOK") (.int 4)) (.cons (.glob (aa "QUEEN") (.int 5)) .nil)))))) Qq) (.seq (.setI (.var 3) (.lit (.int 0)) (.ite (.cmp .gt (.idx (.var 3) (.glob (aa "BISHOP") (.int 3))) (.lit (.int 1))) (.lit (.int 1)) (.lit (.int 0)))) (.seq (.frz 3) (.seq (.app (.var 1) (.var 3)) .skip))))
theorem Is(hl:l.length<=1000):Ex c [some (.sh p),some (.lst l),iT s,y,z] RG [some (.sh p),some (.lst (l++[.sh (oV g)])),iT s,some (.sh (oV g)),iT 5]:=
 .seq (.asgO rfl) (.seq (.forr (.tup (.cons .glob (.cons .glob (.cons .glob (.cons .glob (.cons .glob .nil)))))) rfl (RF h)) (.seq (.setI (t:= .int (if 1<g 3 then 1 else 0)) rfl .lit (KZ (q:=1<g 3)▸.iteB (.cmp (.idx (.var rfl) .glob rfl) .lit rfl) .lit .lit) rfl)
  (.seq (.frz rfl) (.seq (.app (t:=oV g) rfl (.var rfl) hl) .skip))))
end
theorem eA(d:Nat)(hn:w.n<=20)(hp:Fa p w):(bj br (d+3)).call 77 [p]=some (.list [oV λk=>(cnt w.n (w.men 0 k):Nat),oV λk=>(cnt w.n (w.men 1 k):Nat)]):=by
 have h:=λ(s:Nat) (hs:s<=1) (k:Nat) (h1:1<=k) (h2:k<=5)=>ue d hn hp hs h1 (gm h2)
 exact bq (F:=pN) (ρ:=[some (.sh p),none,none,none,none]) rfl rfl (.next (.asgO rfl) (.next (.forr (.tup (.cons .glob (.cons .glob .nil))) rfl (.cons rfl (Is (h 0 (aE 1)) (by decide)) (.cons rfl (Is (h 1 (aA 1)) (show 1<=1000 by decide)) .nil))) (.next (.frz rfl) (.h_ret (.var rfl)))))
noncomputable def Fq(first z x:Int):Int:=if first<=x then (if z=0 then x else min z x)else z
theorem H5(fi z x:Int):Fq fi z x=if (decide (fi<=x)&&(z==0||decide (x<z)))=true then x else z:=by
 unfold Fq
 by_cases q:fi<=x
 ·rw [if_pos q,decide_eq_true q,ei]
  by_cases e:z=0
  ·rw [if_pos e,beq_iff_eq.mpr e];rfl
  ·rw [if_neg e,beq_eq_false_iff_ne.mpr e,oU]
   by_cases k:x<z
   ·rw [decide_eq_true k];exact kh (bv k)
   ·rw [decide_eq_false k];exact lE (cC.mp k)
 ·rw [if_neg q,decide_eq_false q];rfl
@[reducible] noncomputable def H6:S:= .seq (.asg 6 (.call 31 (.cons (.var 0) (.cons (.var 2) (.cons (.var 5) .nil))))) (.seq (.iff (.andd (.cmp .ge (.var 6) (.var 3)) (.orr (.cmp .eq (.var 4) (.lit (.int 0))) (.cmp .lt (.var 6) (.var 4)))) (.seq (.asg 4 (.var 6)) .skip) .skip) .skip)
theorem Kp(c:d5){s b sd fi z x:Int}{a6:Option O}(h:c.call 31 [G,.int sd,.int s]=some (.int x)):Ex c [some (.sh G),iT b,iT sd,iT fi,iT z,iT s,a6] H6 [some (.sh G),iT b,iT sd,iT fi,iT (Fq fi z x),iT s,iT x]:=by
 rw [H5]
 exact .seq (.asg (.call (.cons (.var rfl) (.cons (.var rfl) (.cons (.var rfl) .nil))) h)) (.seq (.iffB (.and (.cmp (.var rfl) (.var rfl) rfl) (.or (.cmp (.var rfl) .lit rfl) (.cmp (.var rfl) (.var rfl) rfl))) (λe=>by rw [e];exact .seq (.asg (.var rfl)) .skip) λe=>by rw [e];exact .skip) .skip)
theorem CF(c:d5){b sd fi:Int}{rk:Nat->Int}:∀(l:List Nat) (z:Int) (a a6:Option O),(∀s,s∈l->c.call 31 [G,.int sd,.int (s:Nat)]=some (.int (rk s)))->
  ∃y y6,FL c H6 [5] (ka l) [some (.sh G),iT b,iT sd,iT fi,iT z,a,a6] [some (.sh G),iT b,iT sd,iT fi,iT ((l.map rk).foldl (Fq fi) z),y,y6]
 |[],z,a,a6,_=>⟨a,a6,rfl⟩
 | s::l,z,a,a6,h=>
  let ⟨y,y6,e⟩:=CF c (b:=b) (fi:=fi) l (Fq fi z (rk s)) (iT (s:Nat)) (iT (rk s)) λt ht=>h t (ao _ ht)
  ⟨y,y6,.cons (ρ1:=[some (.sh G),iT b,iT sd,iT fi,iT z,iT (s:Nat),a6]) rfl (Kp c (h s ak)) e⟩
theorem vk(d:Nat){n:Nat}(hn:n<=20){P:Nat->Bool}{sd fi:Int}{rk:Nat->Int}(h:∀s,s∈fN n P->(bj br (d+1)).call 31 [G,.int sd,.int (s:Nat)]=some (.int (rk s))):
  (bj br (d+2)).call 54 [G,.int (bI n P),.int sd,.int fi]=some (.int (((fN n P).map rk).foldl (Fq fi) 0)):=by
 obtain ⟨y,y6,e⟩:=CF (bj br (d+1)) (b:=bI n P) (fi:=fi) (fN n P) 0 none none h
 exact bq (F:=ku) (ρ:=[some (.sh G),iT (bI n P),iT sd,iT fi,none,none,none]) rfl rfl (.next (.asg .lit) (.next (.forr (.call (.cons (.var rfl) .nil) (eF d n P (an hn (by decide)))) rfl e) (.h_ret (.var rfl))))
theorem H'{z x:Int}(h:z≠0)(k:x≠0):min z x≠0:=by
 rcases qW z x with q | q
 ·rw [lE q];exact h
 ·rw [kh q];exact k
theorem GH{fi x y z:Int}(hx:x≠0)(hy:y≠0):Fq fi (Fq fi z x) y=Fq fi (Fq fi z y) x:=by
 unfold Fq
 by_cases a:fi<=x
 ·by_cases b:fi<=y
  ·rw [if_pos a,if_pos b,if_pos b,if_pos a]
   by_cases e:z=0
   ·rw [if_pos e,if_pos e,if_neg hx,if_neg hy];exact Tg _ _
   ·rw [if_neg e,if_neg e,if_neg (H' e hx),if_neg (H' e hy),Sa,Sa,Tg x y]
  ·rw [if_neg b,if_neg b]
 ·rw [if_neg a,if_neg a]
theorem GG{fi:Int}{l m:List Int}(h:l.Perm m):(∀x,x∈l->1<=x)->∀z,l.foldl (Fq fi) z=m.foldl (Fq fi) z:=by
 induction h with
 | nil=>intro _ _;rfl
 | cons x _ ih=>intro hl z;exact ih (λy hy=>hl y (ao _ hy)) _
 | swap x y l=>
  intro hl z
  have p:∀{a:Int},1<=a->a≠0:=λh=>ln h
  exact congrArg (l.foldl (Fq fi)) (GH (p (hl y ak)) (p (hl x (ao _ ak))))
 | trans h1 _ a b=>intro hl z;exact (a hl z).trans (b (λx hx=>hl x (h1.mem_iff.mpr hx)) z)
theorem uS{fi hi:Int}:∀(l:List Int) (z:Int),0<=z->z<=hi->(∀x,x∈l->1<=x/\x<=hi)->0<=l.foldl (Fq fi) z/\l.foldl (Fq fi) z<=hi
 |[],z,h1,h2,_=>⟨h1,h2⟩
 | x::l,z,h1,h2,h=>by
  have hx:=h x ak
  have k:0<=Fq fi z x/\Fq fi z x<=hi:=by
   rw [H5];split
   ·exact ⟨ap (by decide) hx.1,hx.2⟩
   ·exact ⟨h1,h2⟩
  exact uS l _ k.1 k.2 λy hy=>h y (ao _ hy)
end
end
section
theorem GJ(d:Nat)(kk bb tt rr ss:T):(bj br (d+1)).new 3 [kk,bb,tt,rr,ss]=some (.ins 3 [13,36,37,12,38] [.sh kk,.sh bb,.sh tt,.sh rr,.sh ss]):=
 rq (F:=pV) (ρ:=[some (.sh .none),some (.sh kk),some (.sh bb),some (.sh tt),some (.sh rr),some (.sh ss)]) rfl rfl (ρ':=[some (.ins 3 [13,36,37,12,38] [.sh kk,.sh bb,.sh tt,.sh rr,.sh ss]),some (.sh kk),some (.sh bb),some (.sh tt),some (.sh rr),some (.sh ss)]) rfl rfl
noncomputable def cp(L:List (Nat->Bool))(s:Nat):Nat:=L.countP λP=>P s
theorem Lz(L:List (Nat->Bool))(P:Nat->Bool)(s:Nat):cp (L++[P]) s=cp L s+(if P s then 1 else 0):=by
 unfold cp;rw [List.countP_append,List.countP_singleton]
theorem I7{L:List (Nat->Bool)}{P:Nat->Bool}{s m:Nat}:decide (m<cp (L++[P]) s)=(decide (m<cp L s)||(decide (m<=cp L s)&&P s)):=by
 rw [Lz]
 cases P s
 ·rw [bP,cg];rfl
 ·rw [dF]
  by_cases h:m<cp L s
  ·rw [decide_eq_true h];exact decide_eq_true (cq h)
  ·rw [decide_eq_false h];exact decide_eq_decide.mpr Nat.lt_succ_iff
theorem LA(n:Nat)(L:List (Nat->Bool))(P:Nat->Bool):av (bI n λs=>decide (0<cp L s)) (bI n P)=bI n λs=>decide (0<cp (L++[P]) s):=
 (ec ..).trans (bp λs _=>by rw [I7,decide_eq_true (aE _),ei])
theorem zl(n:Nat)(L:List (Nat->Bool))(P:Nat->Bool):av (bI n λs=>decide (1<cp L s)) (aj (bI n λs=>decide (0<cp L s)) (bI n P))=bI n λs=>decide (1<cp (L++[P]) s):=by
 rw [dJ,ec];exact bp λs _=>I7.symm
theorem Dl{L M:List (Nat->Bool)}(h:L.Perm M)(s:Nat):cp L s=cp M s:=h.countP_eq _
theorem BL(n m:Nat):(bI n λs=>decide (m<cp [] s))=0:=(bp λs _=>decide_eq_false (dC m)).trans (fq n)
section
variable{w:Bd}{p G:T}
@[reducible] noncomputable def Ii:S:= .seq (.aug 4 .or (.bin .and (.var 3) (.idx (.idx (.attr (.attr (.var 0) 2) 19) (.var 1)) (.var 5)))) (.seq (.aug 3 .or (.idx (.idx (.attr (.attr (.var 0) 2) 19) (.var 1)) (.var 5))) .skip)
section
variable{c:d5}{sd kg:Int}{M N:T}(h1:bV 2 (.sh p)=some (.sh G))(h2:bV 19 (.sh G)=some (.sh M))(h3:b4 sd (.sh M)=some (.sh N))
include h1 h2 h3
theorem K3{o t s P:Int}(h4:b4 s (.sh N)=some (.sh (.int P))):Ex c [some (.sh p),iT sd,iT kg,iT o,iT t,iT s] Ii [some (.sh p),iT sd,iT kg,iT (av o P),iT (av t (aj o P)),iT s]:=
 .seq (.aug rfl (.bin (.var rfl) (.idx (.idx (.attr (.attr (.var rfl) h1) h2) (.var rfl) h3) (.var rfl) h4) rfl) rfl) (.seq (.aug rfl (.idx (.idx (.attr (.attr (.var rfl) h1) h2) (.var rfl) h3) (.var rfl) h4) rfl) .skip)
theorem C4{n:Nat}{g:Nat->Nat->Bool}:∀(l:List Nat) (L:List (Nat->Bool)) (a:Option O),(∀s,s∈l->b4 (s:Nat) (.sh N)=some (.sh (.int (bI n (g s)))))->
  ∃y,FL c Ii [5] (ka l) [some (.sh p),iT sd,iT kg,iT (bI n λs=>decide (0<cp L s)),iT (bI n λs=>decide (1<cp L s)),a] [some (.sh p),iT sd,iT kg,iT (bI n λs=>decide (0<cp (L++l.map g) s)),iT (bI n λs=>decide (1<cp (L++l.map g) s)),y]
 |[],L,a,_=>⟨a,by rw [d3,bc];rfl⟩
 | s::l,L,a,h=>by
  have e2:=K3 (c:=c) (kg:=kg) (o:=bI n λs=>decide (0<cp L s)) (t:=bI n λs=>decide (1<cp L s)) h1 h2 h3 (h s ak)
  rw [zl,LA]at e2
  obtain ⟨y,e⟩:=C4 l (L++[g s]) (iT (s:Nat)) λt ht=>h t (ao _ ht)
  rw [dA]at e
  exact ⟨y,.cons (ρ1:=[some (.sh p),iT sd,iT kg,iT (bI n λs=>decide (0<cp L s)),iT (bI n λs=>decide (1<cp L s)),iT (s:Nat)]) rfl e2 e⟩
end
theorem sC(d:Nat){n:Nat}(hn:n<=20){P K:Nat->Bool}{g:Nat->Nat->Bool}{sd kg:Int}{M N:T}(h1:bV 2 (.sh p)=some (.sh G))(h2:bV 19 (.sh G)=some (.sh M))(h3:b4 sd (.sh M)=some (.sh N))
  (h4:(bj br (d+1)).call 19 [p,.int sd,.int 1]=some (.int (bI n P))) (h5:(bj br (d+1)).call 66 [G,.int kg]=some (.int (bI n K))) (h:∀s,s∈fN n P->b4 (s:Nat) (.sh N)=some (.sh (.int (bI n (g s))))):
  (bj br (d+2)).call 67 [p,.int sd,.int kg]=some (.int (bI n λs=>K s&& !decide (1<cp ((fN n P).map g) s))):=by
 obtain ⟨y,e⟩:=C4 (c:=bj br (d+1)) (kg:=kg) h1 h2 h3 (fN n P) [] none h
 rw [ic,BL,BL]at e
 rw [<-iO]
 exact bq (F:=ky) (ρ:=[some (.sh p),iT sd,iT kg,none,none,none]) rfl rfl (.next (.asg .lit) (.next (.asg .lit) (.next (.forr (.call (.cons (.call (.cons (.var rfl) (.cons (.var rfl) (.cons .glob .nil))) h4) .nil) (eF d n P (an hn (by decide)))) rfl e)
  (.h_ret (.bin (.call (.cons (.attr (.var rfl) h1) (.cons (.var rfl) .nil)) h5) (.inv (.var rfl)) rfl)))))
@[reducible] noncomputable def Lk:=List (Nat×(Nat->Bool))
noncomputable def ug(L:Lk)(j:Nat)(s:Nat):Bool:=if j=0 then decide (0<cp (L.map (·.2)) s)else L.any λq=>q.1==j&&q.2 s
noncomputable def l7(g:Nat->Int):List O:=(ar 7).map λj=> .sh (.int (g j))
noncomputable def SN(n:Nat)(L:Lk):List O:=l7 λj=>bI n (ug L j)
noncomputable def Jh(L:Lk)(s:Nat):Bool:=decide (1<cp (L.map (·.2)) s)
noncomputable def nU(q:Nat×(Nat->Bool)):Bool:= !((q.1:Int)==1)&& !((q.1:Int)==6)
noncomputable def qa(n:Nat)(L:Lk):List T:=(L.filter nU).map λq=> .tup [.int (q.1:Nat),.int (bI n q.2)]
@[reducible] noncomputable def zQ(p:T)(sd sh:Int)(n:Nat)(L:Lk)(k s b:Option O):b6:=[some (.sh p),iT sd,iT sh,some (.lst (SN n L)),iT (bI n (Jh L)),some (.lst ((qa n L).map .sh)),k,s,b]
theorem mC{α:Type}(g:Nat->α)(m j:Nat)(x:α):dp ((ar m).map g) j x=(ar m).map λi=>if i=j then x else g i:=by
 apply List.ext_getElem?
 intro i
 rw [<-iC,s8,<-iC,dq]
 by_cases hi:i<m
 ·rw [fA g hi,fA _ hi]
  by_cases e:j=i
  ·rw [if_pos ⟨e,e▸hi⟩,if_pos e.symm]
  ·rw [if_neg λq=>e q.1,if_neg λq=>e q.symm]
 ·have z:∀g:Nat->α,nth ((ar m).map g) i=none:=λg=>by rw [iC,ls (by rw [dq];exact dM.mp hi)]
  rw [z,z,if_neg (λq:j=i/\j<m=>hi (q.1▸q.2))]
theorem MV{j:Nat}(hj:j<7):cr (j:Nat) 7=some j:=if_pos ⟨au j,bF.mpr hj,bF.mpr (ll hj (by decide))⟩
theorem Ib{j:Nat}(hj:j<7)(g:Nat->Int):b4 (j:Nat) (.lst (l7 g))=some (.sh (.int (g j))):=by
 show (cr (j:Nat) 7).bind (nth (l7 g))=_
 rw [MV hj];exact fA (λj=>O.sh (.int (g j))) hj
theorem OZ(g:Nat->Int)(j:Nat)(x:Int):dp (l7 g) j (.sh (.int x))=l7 λi=>if i=j then x else g i:=
 (mC _ _ _ _).trans (bg λi _=>(apply_ite (λz=>O.sh (T.int z)) (i=j) x (g i)).symm)
theorem SQ{c:d5}{ρ:b6}{y j:Nat}{g:Nat->Int}{a e:X}{b:Int}(hj:j<7)(h1:get ρ y=some (.lst (l7 g)))(h2:dO c ρ a (.sh (.int (j:Nat))))(h3:dO c ρ e (.sh (.int b))):
  Ex c ρ (.augI (.var y) a .or e) (fO ρ y (.lst (l7 λi=>if i=j then av (g j) b else g i))):=
 OZ g j _▸.augI h1 h2 (Ib hj g) h3 rfl (MV hj)
theorem KQ(g:Nat->Int):b4 0 (.lst (l7 g))=some (.sh (.int (g 0))):=Ib (j:=0) (by decide) g
theorem RV{c:d5}{ρ:b6}{y:Nat}{g:Nat->Int}{a e:X}{b:Int}(h1:get ρ y=some (.lst (l7 g)))(h2:dO c ρ a (.sh (.int 0)))(h3:dO c ρ e (.sh (.int b))):
  Ex c ρ (.augI (.var y) a .or e) (fO ρ y (.lst (l7 λi=>if i=0 then av (g 0) b else g i))):=SQ (j:=0) (by decide) h1 h2 h3
theorem Hq(L:Lk)(k:Nat)(P:Nat->Bool)(hk:k≠0)(j s:Nat):ug (L++[(k,P)]) j s=(if j=0\/j=k then ug L j s||P s else ug L j s):=by
 unfold ug
 by_cases h0:j=0
 ·rw [if_pos h0,if_pos (.inl h0),if_pos h0,cf]
  exact I7.trans (congrArg (_|| ·) (by rw [decide_eq_true (aE _),ei]))
 ·rw [if_neg h0,if_neg h0,Mk]
  show (_||((k==j&&P s)||false))=_
  rw [cg]
  by_cases h1:j=k
  ·rw [if_pos (.inr h1),h1,beq_self_eq_true,ei]
  ·rw [if_neg λq=>q.elim h0 h1,beq_eq_false_iff_ne.mpr λq=>h1 q.symm,mO,cg]
theorem LJ{n k:Nat}(L:Lk)(P:Nat->Bool)(hk:k≠0)(i:Nat):(if i=0 then av (if 0=k then av (bI n (ug L k)) (bI n P)else bI n (ug L 0)) (bI n P)else if i=k then av (bI n (ug L k)) (bI n P)else bI n (ug L i))=bI n (ug (L++[(k,P)]) i):=by
 have e:bI n (ug (L++[(k,P)]) i)=bI n (λs=>if i=0\/i=k then ug L i s||P s else ug L i s):=bp λs _=>Hq L k P hk i s
 rw [e,if_neg (show ¬0=k from λq=>hk q.symm)]
 by_cases h0:i=0
 ·rw [if_pos h0,ec];exact bp λs _=>by rw [if_pos (.inl h0),h0]
 ·rw [if_neg h0]
  by_cases h1:i=k
  ·rw [if_pos h1,ec];exact bp λs _=>by rw [if_pos (.inr h1),h1]
  ·rw [if_neg h1];exact bp λs _=>by rw [if_neg λq=>q.elim h0 h1]
@[reducible] noncomputable def BU:S:= .seq (.asg 8 (.call 59 (.cons (.var 0) (.cons (.var 1) (.cons (.var 6) (.cons (.var 7) (.cons (.var 2) .nil))))))) (.seq (.aug 4 .or (.bin .and (.idx (.var 3) (.lit (.int 0))) (.var 8))) (.seq (.augI (.var 3) (.var 6) .or (.var 8)) (.seq (.augI (.var 3) (.lit (.int 0)) .or (.var 8)) (.seq (.iff (.andd (.cmp .ne (.var 6) (.glob (aa "PAWN") (.int 1))) (.cmp .ne (.var 6) (.glob (aa "KING") (.int 6)))) (.seq (.app (.var 5) (.tup (.cons (.var 6) (.cons (.var 8) .nil)))) .skip) .skip) .skip))))
theorem Ge(n:Nat)(L:Lk)(k:Nat)(P:Nat->Bool):qa n (L++[(k,P)])=if nU (k,P)then qa n L++[.tup [.int (k:Nat),.int (bI n P)]]else qa n L:=by
 unfold qa
 rw [iZ,cf,gN]
 cases nU (k,P)
 ·exact bc _
 ·rfl
theorem TJ(L:Lk):ug L 0=λs=>decide (0<cp (L.map (·.2)) s):=funext λ_=>if_pos rfl
theorem FM(L:Lk)(k:Nat)(P:Nat->Bool)(s:Nat):Jh (L++[(k,P)]) s=decide (1<cp (L.map (·.2)++[P]) s):=by
 unfold Jh;rw [cf];rfl
theorem RX(n:Nat)(L:Lk)(k:Nat)(P:Nat->Bool):av (bI n (Jh L)) (aj (bI n (ug L 0)) (bI n P))=bI n (Jh (L++[(k,P)])):=by
 rw [TJ,show Jh L=λs=>decide (1<cp (L.map (·.2)) s)from rfl,zl]
 exact bp λs _=>(FM L k P s).symm
theorem L2(c:d5){sd sh:Int}{n k s:Nat}{P:Nat->Bool}{L:Lk}{b:Option O}(hk:1<=k)(hk6:k<=6)(hL:L.length<=900)(h:c.call 59 [p,.int sd,.int (k:Nat),.int (s:Nat),.int sh]=some (.int (bI n P))):
  Ex c (zQ p sd sh n L (iT (k:Nat)) (iT (s:Nat)) b) BU (zQ p sd sh n (L++[(k,P)]) (iT (k:Nat)) (iT (s:Nat)) (iT (bI n P))):=by
 have ht:=RX n L k P
 have hb:SN n (L++[(k,P)])=l7 λi=>if i=0 then av (if 0=k then av (bI n (ug L k)) (bI n P)else bI n (ug L 0)) (bI n P)else if i=k then av (bI n (ug L k)) (bI n P)else bI n (ug L i):=
  congrArg l7 (funext λi=>(LJ (n:=n) L P (cN hk) i).symm)
 have hlen:((qa n L).map O.sh).length<=1000:=by
  unfold qa;rw [aq,aq]
  exact an (BZ nU L) (an hL (bm (n:=900) (m:=1000) rfl))
 unfold zQ
 rw [hb,<-ht]
 have hy:SN n L=l7 λj=>bI n (ug L j):=rfl
 rw [hy]
 have fin:∀(bo:List O) (tw:Int),Ex c [some (.sh p),iT sd,iT sh,some (.lst bo),iT tw,some (.lst ((qa n L).map .sh)),iT (k:Nat),iT (s:Nat),iT (bI n P)] (.seq (.iff (.andd (.cmp .ne (.var 6) (.glob (aa "PAWN") (.int 1))) (.cmp .ne (.var 6) (.glob (aa "KING") (.int 6)))) (.seq (.app (.var 5) (.tup (.cons (.var 6) (.cons (.var 8) .nil)))) .skip) .skip) .skip) [some (.sh p),iT sd,iT sh,some (.lst bo),iT tw,some (.lst ((qa n (L++[(k,P)])).map .sh)),iT (k:Nat),iT (s:Nat),iT (bI n P)]:=λbo tw=>by
  rw [Ge]
  generalize qa n L=rl at*
  refine .seq (.iffB (p:=nU (k,P)) (.and (.cmp (.var rfl) .glob rfl) (.cmp (.var rfl) .glob rfl)) (λe=> ?_) λe=> ?_) .skip
  ·rw [e,if_pos rfl,cf]
   exact .seq (.app rfl (.tup (.cons (.var rfl) (.cons (.var rfl) .nil))) hlen) .skip
  ·rw [e];exact .skip
 exact .seq (.asg (.call (.cons (.var rfl) (.cons (.var rfl) (.cons (.var rfl) (.cons (.var rfl) (.cons (.var rfl) .nil))))) h)) (.seq (.aug rfl (.bin (.idx (.var rfl) .lit (KQ _)) (.var rfl) rfl) rfl) (.seq (SQ (j:=k) (aU hk6) rfl (.var rfl) (.var rfl)) (.seq (RV rfl .lit (.var rfl)) (fin _ _))))
end
end
section
theorem n5.retN{c:d5}{ρ:b6}{a:X}{l:List T}{g:Nat}{o:O}(h1:Es c ρ a l)(h:c.new g l=some o):n5 c ρ (.ret (.new g a)) o.toT:=⟨ρ,by
 show (((o7 c a ρ).bind _).bind O.t?).map _=_
 rw [h1];show (((c.new g l).map _).bind O.t?).map _=_;rw [h];rfl⟩
section
variable{p:T}
theorem zz(c:d5){sd sh:Int}{n k:Nat}{g:Nat->Nat->Bool}(hk:1<=k)(hk6:k<=6):∀(l:List Nat) (L:Lk) (a b:Option O),L.length+l.length<=900->(∀s,s∈l->c.call 59 [p,.int sd,.int (k:Nat),.int (s:Nat),.int sh]=some (.int (bI n (g s))))->
  ∃y z,FL c BU [7] (ka l) (zQ p sd sh n L (iT (k:Nat)) a b) (zQ p sd sh n (L++l.map λs=>(k,g s)) (iT (k:Nat)) y z)
 |[],L,a,b,_,_=>⟨a,b,by rw [d3,bc];exact .nil⟩
 | s::l,L,a,b,hl,h=>by
  obtain ⟨y,z,e⟩:=zz c (sd:=sd) (sh:=sh) hk hk6 l (L++[(k,g s)]) (iT (s:Nat)) (iT (bI n (g s))) (by rw [bn,eB,bU [(k,g s)].length];exact hl) λt ht=>h t (ao _ ht)
  rw [dA]at e
  exact ⟨y,z,.cons rfl (L2 c (L:=L) (b:=b) hk hk6 (an (bJ ..) hl) (h s ak)) e⟩
@[reducible] noncomputable def RY:S:= .seq (.forr [7] (.call 4 (.cons (.call 19 (.cons (.var 0) (.cons (.var 1) (.cons (.var 6) .nil)))) .nil)) BU) .skip
noncomputable def QO(n:Nat)(Q:Nat->Nat->Bool)(g:Nat->Nat->Nat->Bool)(ks:List Nat):Lk:=ks.flatMap λk=>(fN n (Q k)).map λs=>(k,g k s)
theorem DG(n:Nat)(Q:Nat->Nat->Bool)(g:Nat->Nat->Nat->Bool):∀ks:List Nat,(QO n Q g ks).length<=ks.length*n
 |[]=>aE _
 | k::ks=>by
  show (((fN n (Q k)).map λs=>(k,g k s))++QO n Q g ks).length<=(ks.length+1)*n
  rw [bn,aq,fX,mT,f8,bU]
  exact gv (DG n Q g ks) (qz n (Q k))
theorem zy(d:Nat){sd sh:Int}{n:Nat}(hn:n<=20){Q:Nat->Nat->Bool}{g:Nat->Nat->Nat->Bool}:∀(ks:List Nat) (L:Lk) (a b c:Option O),(∀k,k∈ks->1<=k/\k<=6)->L.length+ks.length*n<=900->
  (∀k,k∈ks->(bj br (d+1)).call 19 [p,.int sd,.int (k:Nat)]=some (.int (bI n (Q k))))->
  (∀k,k∈ks->∀s,s∈fN n (Q k)->(bj br (d+1)).call 59 [p,.int sd,.int (k:Nat),.int (s:Nat),.int sh]=some (.int (bI n (g k s))))->
  ∃x y z,FL (bj br (d+1)) RY [6] (ka ks) (zQ p sd sh n L a b c) (zQ p sd sh n (L++QO n Q g ks) x y z)
 |[],L,a,b,c,_,_,_,_=>⟨a,b,c,by rw [show QO n Q g []=[]from rfl,bc];exact .nil⟩
 | k::ks,L,a,b,c,hk,hl,h1,h2=>by
  have hc:(fN n (Q k)).length<=n:=fX (Q k) n▸qz n (Q k)
  have hL:L.length+(fN n (Q k)).length<=900:=an (cV (an hc (Nat.le_mul_of_pos_left n (eY _))) _) hl
  have hL':(L++(fN n (Q k)).map λs=>(k,g k s)).length+ks.length*n<=900:=by
   rw [bn,aq,eB,bU (fN n (Q k)).length]
   exact an (cV (cV hc _) _) (Nat.succ_mul _ _▸hl)
  obtain ⟨y,z,e⟩:=zz (p:=p) (bj br (d+1)) (sd:=sd) (sh:=sh) (n:=n) (g:=g k) (hk k ak).1 (hk k ak).2 (fN n (Q k)) L b c hL (h2 k ak)
  obtain ⟨x',y',z',e'⟩:=zy d hn ks (L++(fN n (Q k)).map λs=>(k,g k s)) (iT (k:Nat)) y z (λj hj=>hk j (ao _ hj)) hL' (λj hj=>h1 j (ao _ hj)) (λj hj=>h2 j (ao _ hj))
  rw [dA]at e'
  exact ⟨x',y',z',.cons (ρ1:=zQ p sd sh n L (iT (k:Nat)) b c) rfl (.seq (.forr (.call (.cons (.call (.cons (.var rfl) (.cons (.var rfl) (.cons (.var rfl) .nil))) (h1 k ak)) .nil) (eF d n (Q k) (an hn (bm rfl)))) rfl e) .skip) e'⟩
noncomputable def T7(n:Nat)(kg sh:Int)(L:Lk):T:= .inst 3 [13,36,37,12,38] [.int kg,mX 7 λj=> .int (bI n (ug L j)),.int (bI n (Jh L)),.list (qa n L),.int sh]
theorem LK(n:Nat):SN n []=[.sh (.int 0),.sh (.int 0),.sh (.int 0),.sh (.int 0),.sh (.int 0),.sh (.int 0),.sh (.int 0)]:=by
 have z:(λj=>bI n (ug [] j))=λ_=>0:=funext λj=>(bp λs _=>by unfold ug;exact (congrArg (ite (j=0) · _) (decide_eq_false (jV 0))).trans (ite_self _)).trans (fq n)
 unfold SN;rw [z];rfl
theorem Hs(n:Nat)(L:Lk):O.toTs (SN n L)=(ar 7).map λj=> .int (bI n (ug L j)):=by
 have:=e_ ((ar 7).map λj=>T.int (bI n (ug L j)))
 rw [a_]at this;exact this
theorem vv(d:Nat){sd sh kg:Int}{y0:T}{n:Nat}(hn:n<=20){Q:Nat->Nat->Bool}{g:Nat->Nat->Nat->Bool}
  (h24:(bj br (d+1)).call 24 [p,.int sd]=some (.tup [.int sh,y0])) (h20:(bj br (d+1)).call 20 [p,.int sd]=some (.int kg))
  (h1:∀k,k∈[1,2,3,4,5,6]->(bj br (d+1)).call 19 [p,.int sd,.int (k:Nat)]=some (.int (bI n (Q k))))
  (h2:∀k,k∈[1,2,3,4,5,6]->∀s,s∈fN n (Q k)->(bj br (d+1)).call 59 [p,.int sd,.int (k:Nat),.int (s:Nat),.int sh]=some (.int (bI n (g k s)))):
  (bj br (d+2)).call 60 [p,.int sd]=some (T7 n kg sh (QO n Q g [1,2,3,4,5,6])):=by
 obtain ⟨x,y,z,e⟩:=zy (p:=p) d (sd:=sd) (sh:=sh) hn [1,2,3,4,5,6] [] none none none (by decide) (an (DL (gw _)) (an (Fu 6 hn) (bm rfl))) h1 h2
 unfold T7 mX
 rw [ic]at e
 rw [<-Hs]
 generalize QO n Q g [1,2,3,4,5,6]=L at*
 unfold zQ at e
 rw [LK,show bI n (Jh [])=0 from BL n 1]at e
 have hr:=e_ (qa n L)
 generalize SN n L=bo at*
 generalize bI n (Jh L)=tw at*
 generalize qa n L=rl at*
 exact bq (F:=nG) (ρ:=[some (.sh p),iT sd,none,none,none,none,none,none,none]) rfl rfl
  (.next (.asg (.idx (.call (.cons (.var rfl) (.cons (.var rfl) .nil)) h24) .lit rfl)) (.next (.asgO rfl) (.next (.asg .lit) (.next (.asgO rfl) (.next (.forr (.tup (.cons .glob (.cons .glob (.cons .glob (.cons .glob (.cons .glob (.cons .glob .nil))))))) rfl e)
   (.next (ρ1:=[some (.sh p),iT sd,iT sh,some (.lst bo),iT tw,some (.sh (.list rl)),x,y,z]) (congrArg (λl=>some (([some (.sh p),iT sd,iT sh,some (.lst bo),iT tw,some (.sh (.list l)),x,y,z]:b6),(none:Option T))) hr) (.next (.frz rfl) (.here (.retN (.cons (.call (.cons (.var rfl) (.cons (.var rfl) .nil)) h20) (.cons (.var rfl) (.cons (.var rfl) (.cons (.var rfl) (.cons (.var rfl) .nil))))) (GJ d ..))))))))))
end
end
section
noncomputable def tY(m:Nat):Ty:= .ins 3 [13,36,37,12,38] [.sq 0,.lst [.bb 0,.bb 0,.bb 0,.bb 0,.bb 0,.bb 0,.bb 0],.bb 0,.perm (.tup [.i 2 5,.bb 0]) m,.bb 0]
noncomputable def w6:Ty:= .lst [.i 0 1,.i 0 7,.i 0 7,.i 0 7,.i 0 7,.i 0 7]
noncomputable def Ja{β:Type}(l:List Ty)(f:Ty->Ty->Ty->Ty->Option β):Option β:=l.casesOn none λa r=>wY r (f a)
noncomputable def JB(f r:Nat)(g:Nat)(ts:List Ty):Option Ty:=
 if g=54 then Ja ts λa b c e=>a.isK 5 (b.asB (f*r) λk=>if k=2 then c.isK 1 (e.asI λ_ _=>some (.i 0 (r - 2:Nat)))else none)
 else if g=67 then wY ts λa b c=>a.isK 6 (b.isK 1 (c.asS λ_=>some (.bb 0)))
 else if g=77 then gZ ts λa=>a.isK 6 (some (.lsd w6))
 else if g=60 then kI ts λa b=>a.isK 6 (b.isK 1 (some (tY 120)))
 else E6 f r g ts
noncomputable def JD(n:Nat)(t:Ty):Option Unit:=t.asB n λ_=>some ()
noncomputable def PJ(f r:Nat):Bool:=((vP f r (E6 f r) 8 24 [.c 6,.c 1]).bind λt=>t.asT λl=>kI l λa _=>JD (f*r) a).isSome&&(((vP f r (E6 f r) 8 20 [.c 6,.c 1]).bind λt=>t.asS λ_=>some ()).isSome&&
 [1,2,3,4,5,6].all λ(k:Nat)=>((vP f r (E6 f r) 8 59 [.c 6,.c 1,.i k k,.sq 1,.bb 0]).bind (JD (f*r))).isSome)
theorem L3:([3,4].all λf=>[4,5].all λr=>PJ f r)=true:=by decide+kernel
section
variable{w:Bd}
theorem qu{c:d5}{ct:Nat->List Ty->Option Ty}{g:Nat}{ts:List Ty}{xs ys:List T}{F:Ty->Option Unit}{Q:T->T->Prop}(hct:qh w c ct)(hr:Rs w ts xs ys)(h:((ct g ts).bind F).isSome=true)(k:∀t x y,R w t x y->Ok (F t) λ_=>Q x y):P2 Q (c.call g xs) (c.call g ys):=by
 obtain ⟨u,hu⟩:=cE.mp h
 exact Ok.bind (R:=λ_=>P2 Q (c.call g xs) (c.call g ys)) (hct g ts xs ys hr) (λt ht=>λu' e=>ht.mono λx y r=>k t x y r u' e) u hu
theorem CP{c k s:Nat}(h:w.men c k s=true):w.occP s=true:=(cD (cD h).1).1
noncomputable def BB(w:Bd)(x y:T):Prop:=∃P,x= .int (bI w.n P)/\y= .int (bI w.n λs=>P (w.sg s))
theorem C1{t:Ty}{x y:T}(h:R w t x y):Ok (JD w.n t) λ_=>BB w x y:=cS (Q:=λx y _=>BB w x y) h λk P _=> .some ⟨P,rfl,rfl⟩
theorem EP{c:Nat}(hc:c<=1):R w (.c 1) (.int (c:Nat)) (.int ((1 - c:Nat):Int)):=⟨c,hc,rfl,congrArg T.int (zY hc).symm⟩
theorem Bj(a b:Int):R w (.c 6) (w.posT a) (w.turn.posT b):=⟨a,b,rfl,rfl⟩
theorem kU(hw:w.Ok){c k s:Nat}(hc:c<=1)(hs:s<w.n):w.turn.men (1 - c) k s=w.men c k (w.sg s):=by
 rw [gH hw (bE 1 c) hs,cH hc]
noncomputable def vN(w:Bd)(L:Lk):Lk:=L.map λq=>(q.1,λu=>q.2 (w.sg u))
theorem zA(hw:w.Ok)(Q:Nat->Nat->Bool)(g:Nat->Nat->Nat->Bool):∀ks:List Nat,(QO w.n (λk s=>Q k (w.sg s)) (λk s u=>g k (w.sg s) (w.sg u)) ks).Perm (vN w (QO w.n Q g ks))
 |[]=>Ah.nil
 | k::ks=>by
  have h1:=(rj hw.shape.fpos (r:=w.r) (Q k)).map (λs=>(k,λu=>g k s (w.sg u)))
  rw [a_]at h1
  have h:=Ah.append h1 (zA hw Q g ks)
  rw [vN,show (fN (w.f*w.r) (Q k)).map (λs=>(k,λu=>g k s (w.sg u)))=((fN w.n (Q k)).map λs=>(k,g k s)).map λq=>(q.1,λu=>q.2 (w.sg u))from by rw [a_];rfl,<-cf]at h
  exact h
theorem H_(L:Lk)(s:Nat):cp ((vN w L).map (·.2)) s=cp (L.map (·.2)) (w.sg s):=by
 unfold cp vN
 rw [a_,ij,ij];rfl
theorem OO(L:Lk)(j s:Nat):ug (vN w L) j s=ug L j (w.sg s):=by
 unfold ug
 rw [H_,show (vN w L).any (λq=>q.1==j&&q.2 s)=L.any λq=>q.1==j&&q.2 (w.sg s)from R9]
theorem Hr{L M:Lk}(h:L.Perm M)(j s:Nat):ug L j s=ug M j s:=by
 unfold ug
 rw [Dl (h.map _) s,yI h]
theorem FN{L M:Lk}(h:L.Perm M)(s:Nat):Jh L s=Jh M s:=by unfold Jh;rw [Dl (h.map _) s]
theorem ON(L:Lk)(s:Nat):Jh (vN w L) s=Jh L (w.sg s):=by unfold Jh;rw [H_]
theorem Kn:∀k,k<7->1<=k->(!(((k:Nat):Int)==1)&& !((k:Int)==6))=true->2<=k/\k<=5:=by decide
noncomputable def rF(w:Bd)(q:Nat×(Nat->Bool)):T×T:=(.tup [.int (q.1:Nat),.int (bI w.n q.2)],.tup [.int (q.1:Nat),.int (bI w.n λu=>q.2 (w.sg u))])
noncomputable def Tl(w:Bd)(q:Nat×(Nat->Bool)):T×T:=(.tup [.int (q.1:Nat),.int (bI w.n λu=>q.2 (w.sg u))],.tup [.int (q.1:Nat),.int (bI w.n q.2)])
theorem Kf(hw:w.Ok)(q:Nat×(Nat->Bool)):Tl w (q.1,λu=>q.2 (w.sg u))=rF w q:=by
 unfold rF Tl
 rw [show (bI w.n λu=>q.2 (w.sg (w.sg u)))=bI w.n q.2 from bp λu hu=>by rw [dR hw hu]]
theorem QX(hw:w.Ok){L M:Lk}(h:M.Perm (vN w L))(hk:∀q,q∈L->1<=q.1/\q.1<=6){m:Nat}(hm:L.length<=m):R w (.perm (.tup [.i 2 5,.bb 0]) m) (.list (qa w.n L)) (.list (qa w.n M)):=by
 refine ⟨(L.filter nU).map (rF w),(M.filter nU).map (Tl w),congrArg T.list (by rw [a_];rfl),congrArg T.list (by rw [a_];rfl),?_,?_,λpq hpq=> ?_⟩
 ·have h1:=((h.filter nU).map (Tl w)).symm
  have e:((vN w L).filter nU).map (Tl w)=(L.filter nU).map (rF w):=by
   unfold vN
   rw [ig,a_]
   exact bg λq _=>Kf hw q
  exact e▸h1
 ·rw [aq];exact an (BZ ..) hm
 ·obtain ⟨q,hq,e⟩:=c9.mp hpq
  have hq:=cA.mp hq
  have hb:=Kn q.1 (aU (hk q hq.1).2) (hk q hq.1).1 hq.2
  subst e
  exact ⟨_,_,rfl,rfl,aM (xP (aW.mpr hb.1) (aW.mpr hb.2)) (aM (QD trivial) dS)⟩
theorem PI(hw:w.Ok){L M:Lk}(h:M.Perm (vN w L))(hk:∀q,q∈L->1<=q.1/\q.1<=6){m:Nat}(hm:L.length<=m){kg kg' sh sh':Int}(h1:R w (.sq 0) (.int kg) (.int kg'))(h2:R w (.bb 0) (.int sh) (.int sh')):
  R w (tY m) (T7 w.n kg sh L) (T7 w.n kg' sh' M):=
 have hb:∀j,R w (.bb 0) (.int (bI w.n (ug L j))) (.int (bI w.n (ug M j))):=λj=>mz (P:=ug L j) trivial λs _=>(Hr h j s).trans (OO L j s)
 ⟨_,_,rfl,rfl,aM h1 (aM ⟨_,_,rfl,rfl,aM (hb 0) (aM (hb 1) (aM (hb 2) (aM (hb 3) (aM (hb 4) (aM (hb 5) (aM (hb 6) dS))))))⟩
  (aM (mz (P:=Jh L) trivial λs _=>(FN h s).trans (ON L s)) (aM (QX hw h hk hm) (aM h2 dS))))⟩
theorem Tp:∀k,k∈[1,2,3,4,5,6]->1<=k/\k<=6:=by decide
noncomputable def Uw(w:Bd)(d c:Nat)(a b sh sh':Int)(k s:Nat)(P:Nat->Bool):Prop:=k∈[1,2,3,4,5,6]->s<w.n->w.men c k s=true->
  (bj br (d+12)).call 59 [w.posT a,.int (c:Nat),.int (k:Nat),.int (s:Nat),.int sh]=some (.int (bI w.n P))/\(bj br (d+12)).call 59 [w.turn.posT b,.int ((1 - c:Nat):Int),.int (k:Nat),.int (w.sg s:Nat),.int sh']=some (.int (bI w.n λu=>P (w.sg u)))
section
variable(hw:w.Ok)(d:Nat){c:Nat}(hc:c<=1)(a b:Int){sh sh':Int}
include hw hc
theorem QW(hsh:R w (.bb 0) (.int sh) (.int sh'))(hl:([1,2,3,4,5,6].all λ(k:Nat)=>((vP w.f w.r (E6 w.f w.r) 8 59 [.c 6,.c 1,.i k k,.sq 1,.bb 0]).bind (JD w.n)).isSome)=true)(k s:Nat):∃P:Nat->Bool,Uw w d c a b sh sh' k s P:=by
 by_cases h:k∈[1,2,3,4,5,6]/\s<w.n/\w.men c k s=true
 ·obtain ⟨x,y,c1,c2,P,e1,e2⟩:=qu (lL hw (rx hw d) 8) (aM (Bj a b) (aM (EP hc) (aM (QC (k:Nat)) (aM (show R w (.sq 1) (.int (s:Nat)) (.int (w.sg s:Nat))from ⟨s,h.2.1,rfl,rfl,CP h.2.2⟩) (aM hsh dS))))) (ax.mp hl k h.1) λt x y hr=>C1 hr
  subst e1 e2
  exact ⟨P,λ_ _ _=>⟨c1,c2⟩⟩
 ·exact ⟨λ_=>false,λh1 h2 h3=>absurd ⟨h1,h2,h3⟩ h⟩
theorem tD:P2 (R w (tY 120)) ((bj br (d+13)).call 60 [w.posT a,.int (c:Nat)]) ((bj br (d+13)).call 60 [w.turn.posT b,.int ((1 - c:Nat):Int)]):=by
 have hn:w.n<=20:=hw.shape.n_le
 have hct:=lL hw (rx hw d) 8
 have hl:=cD (ax.mp (ax.mp L3 w.f hw.shape.mem.1) w.r hw.shape.mem.2)
 have l2:=cD hl.2
 have hr:=aM (Bj (w:=w) a b) (aM (EP hc) dS)
 obtain ⟨x1,y1,a1,a2,SH,u,v,rfl,rfl⟩:=qu (Q:=λx y=>∃P u v,x= .tup [.int (bI w.n P),u]/\y= .tup [.int (bI w.n λs=>P (w.sg s)),v]) hct hr hl.1 λt x y h=>tX (Q:=λx y _=>∃P u v,x= .tup [.int (bI w.n P),u]/\y= .tup [.int (bI w.n λs=>P (w.sg s)),v]) h λl xs ys h2=>
  gE (Q:=λxs ys _=>∃P u v,T.tup xs= .tup [.int (bI w.n P),u]/\T.tup ys= .tup [.int (bI w.n λs=>P (w.sg s)),v]) h2 λa b x y u v h3 _=>cS (Q:=λx y _=>∃P p q,T.tup [x,u]= .tup [.int (bI w.n P),p]/\T.tup [y,v]= .tup [.int (bI w.n λs=>P (w.sg s)),q]) h3 λk P _=> .some ⟨P,u,v,rfl,rfl⟩
 obtain ⟨x2,y2,b1,b2,s0,rfl,rfl,hs0⟩:=qu (Q:=λx y=>∃s:Nat,x= .int (s:Nat)/\y= .int (w.sg s:Nat)/\s<w.n) hct hr l2.1 λt x y h=>gM (Q:=λx y _=>∃s:Nat,x= .int (s:Nat)/\y= .int (w.sg s:Nat)/\s<w.n) h λk s hs _=> .some ⟨s,rfl,rfl,hs⟩
 have shR:R w (.bb 0) (.int (bI w.n SH)) (.int (bI w.n λs=>SH (w.sg s))):=QD trivial
 obtain ⟨g,hg⟩:∃g:Nat->Nat->Nat->Bool,∀k s,Uw w d c a b _ _ k s (g k s):=⟨_,λk s=>vU (QW hw d hc a b shR l2.2 k s)⟩
 have r1:=vv (p:=w.posT a) (d+11) (n:=w.n) (Q:=w.men c) (g:=g) hn a1 b1 (λk hk=>fh (d+11) (kP w a) hc (Tp k hk).1 (Tp k hk).2) λk hk s hs=>(hg k s hk (bW.mp hs).1 (bW.mp hs).2).1
 have r2:=vv (p:=w.turn.posT b) (d+11) (n:=w.n) (Q:=λk s=>w.men c k (w.sg s)) (g:=λk s u=>g k (w.sg s) (w.sg u)) hn a2 b2 (λk hk=>(fh (d+11) (kP w.turn b) (bE 1 c) (Tp k hk).1 (Tp k hk).2).trans (congrArg (λi=>some (T.int i)) (bp (n:=w.n) λs hs=>kU hw hc hs))) λk hk s hs=>by
  have:=(hg k (w.sg s) hk (ci hw (bW.mp hs).1) (bW.mp hs).2).2
  rw [dR hw (bW.mp hs).1]at this;exact this
 refine ⟨_,_,r1,r2,PI hw (zA hw _ _ _) (λq hq=> ?_) (an (DG ..) (Fu 6 hn)) ⟨s0,hs0,rfl,rfl,trivial⟩ shR⟩
 obtain ⟨k,hk,hq⟩:=L7.mp hq
 obtain ⟨s,_,rfl⟩:=c9.mp hq
 exact Tp k hk
end
end
end
section
section
variable{w:Bd}{β:Type}
theorem G1{l:List Ty}{f:Ty->Ty->Ty->Ty->Option β}{xs ys:List T}{Q:List T->List T->β->Prop}(hr:Rs w l xs ys)(h:∀a b c e x y u v p q m n,R w a x y->R w b u v->R w c p q->R w e m n->Ok (f a b c e) (Q [x,u,p,m] [y,v,q,n])):Ok (Ja l f) (Q xs ys):=by
 match l,hr with
 |[],_=>exact Ok.none
 | a::r,hr=>exact qN (Q:=λxs ys=>Ok (wY r (f a)) (Q xs ys)) hr λx y xs ys h1 h2=>sQ (Q:=λxs ys=>Q (x::xs) (y::ys)) h2 λb c e u v p q m n h3 h4 h5=>h a b c e x y u v p q m n h1 h3 h4 h5
theorem td{a:Ty}{x y:T}{o:Option β}{Q:T->T->β->Prop}(hx:R w a x y)(h:∀a b,Ok o (Q (w.posT a) (w.turn.posT b))):Ok (a.isK 6 o) (Q x y):=
 gI hx λ⟨a,b,e,e'⟩=>by subst e e';exact h a b
section
variable(hw:w.Ok)(d:Nat){ts:List Ty}{xs ys:List T}(hr:Rs w ts xs ys)
include hw
theorem Ee{P:Nat->Bool}{c:Nat}(hc:c<=1):((fN w.n λs=>P (w.sg s)).map λs=>((uk w.f w.r (1 - c) s:Nat):Int)).Perm ((fN w.n P).map λs=>((uk w.f w.r c s:Nat):Int)):=by
 have h1:=(rj hw.shape.fpos (r:=w.r) P).map (λs=>((uk w.f w.r c s:Nat):Int))
 rw [a_]at h1
 refine (Ah.of_eq (bg λs hs=> ?_)).trans h1
 have z:=So hw (c:=c) (s:=w.sg s) hc (ci hw (bW.mp hs).1)
 rw [dR hw (bW.mp hs).1]at z
 exact congrArg (λn:Nat=>(n:Int)) z
theorem GZ{c u:Nat}(hc:c<=1)(hu:u<w.n):cp ((fN w.n (w.turn.men (1 - c) 1)).map (f9 w.f (1 - c))) u=cp ((fN w.n (w.men c 1)).map (f9 w.f c)) (w.sg u):=by
 have hq:fN w.n (w.turn.men (1 - c) 1)=fN w.n (λs=>w.men c 1 (w.sg s)):=qG λs hs=>kU hw hc (az.mp hs)
 have h2:=(rj hw.shape.fpos (r:=w.r) (w.men c 1)).countP_eq (λs=>f9 w.f c s (w.sg u))
 unfold cp
 rw [hq,ij,ij]
 rw [ij]at h2
 refine zT (qH λs hs=> ?_) h2
 have hs1:=(bW.mp hs).1
 have z:=wv hw.shape.fpos (r:=w.r) (c:=c) (t:=w.sg s) (u:=w.sg u) hc (ci hw hs1) (ci hw hu)
 rw [show sg w.f w.r (w.sg s)=s from dR hw hs1,show sg w.f w.r (w.sg u)=u from dR hw hu]at z
 exact NN (congrArg (· =true) z)
theorem Hf{c:Nat}(hc:c<=1)(k:Nat):cnt w.turn.n (w.turn.men (1 - c) k)=cnt w.n (w.men c k):=
 (cZ (n:=w.n) λs hs=>kU hw hc hs).trans (tS hw.shape.fpos (r:=w.r) (w.men c k))
theorem EQ{c:Nat}(hc:c<=1):R w w6 (oV λk=>(cnt w.n (w.men c k):Nat)) (oV λk=>(cnt w.turn.n (w.turn.men (1 - c) k):Nat)):=by
 have e:(λk=>((cnt w.turn.n (w.turn.men (1 - c) k):Nat):Int))=λk=>((cnt w.n (w.men c k):Nat):Int):=funext λk=>by rw [Hf hw hc k]
 have h:∀k,R w (.i 0 7) (.int (cnt w.n (w.men c k):Nat)) (.int (cnt w.n (w.men c k):Nat)):=λk=>xP (au _) (aW.mpr (an (oB λs _ h=>CP h) hw.few))
 have h0:∀q:Prop,[Decidable q]->R w (.i 0 1) (.int (if q then 1 else 0)) (.int (if q then 1 else 0)):=λq _=>by
  by_cases e:q
  ·rw [if_pos e];exact xP (by decide) (by decide)
  ·rw [if_neg e];exact xP (by decide) (by decide)
 rw [e]
 exact ⟨_,_,rfl,rfl,aM (h0 _) (aM (h 1) (aM (h 2) (aM (h 3) (aM (h 4) (aM (h 5) dS)))))⟩
include hr
theorem OT:Ok (Ja ts λa b c e=>a.isK 5 (b.asB w.n λk=>if k=2 then c.isK 1 (e.asI λ_ _=>some (Ty.i 0 (w.r - 2:Nat)))else none)) (C2 w (d+2) 54 xs ys):=
 G1 hr λa b c e x y u v p q m n h1 h2 h3 h4=>Bv (Q:=λx y=>C2 w (d+2) 54 [x,u,p,m] [y,v,q,n]) h1<|cS (Q:=λu v=>C2 w (d+2) 54 [_,u,p,m] [_,v,q,n]) h2 λj P hp=> .if1 λej=>qx (Q:=λp q=>C2 w (d+2) 54 [_,_,p,m] [_,_,q,n]) h3 λc hc=>
  cW (Q:=λm n=>C2 w (d+2) 54 [_,_,_,m] [_,_,_,n]) h4 λlo hi k _ _=> .some (by
   subst ej
   have hl:∀x,x∈(fN w.n P).map (λs=>((uk w.f w.r c s:Nat):Int))->1<=x/\x<=((w.r - 2:Nat):Int):=λx hx=>by
    obtain ⟨s,hs,rfl⟩:=c9.mp hx
    have:=s6 (c:=c) hw (bW.mp hs).1 (hp s (bW.mp hs).1 (bW.mp hs).2)
    exact ⟨aW.mpr this.1,aW.mpr this.2⟩
   have hb:=uS (fi:=k) (hi:=((w.r - 2:Nat):Int)) _ 0 (dm _) (au _) hl
   have hg:=jB w.f w.r
   refine c2 (vk d hw.shape.n_le λs hs=>gj d hw.shape hg hc (bW.mp hs).1) (vk d (n:=w.n) hw.shape.n_le λs hs=>gj d hw.shape hg (bE 1 c) (bW.mp hs).1) ?_
   rw [<-GG (Ee hw hc).symm (λx hx=>(hl x hx).1) 0]
   exact xP hb.1 hb.2)
theorem KE:Ok (wY ts λa b c=>a.isK 6 (b.isK 1 (c.asS λ_=>some (Ty.bb 0)))) (C2 w (d+5) 67 xs ys):=
 sQ hr λa b c x y u v p q h1 h2 h3=>td (Q:=λx y=>C2 w (d+5) 67 [x,u,p] [y,v,q]) h1 λa b=>qx (Q:=λu v=>C2 w (d+5) 67 [_,u,p] [_,v,q]) h2 λc hc=>gM (Q:=λp q=>C2 w (d+5) 67 [_,_,p] [_,_,q]) h3 λ_ k hk _=> .some (by
  obtain ⟨K,k1,k2⟩:=sB d hw.shape hk
  have hG:=jB w.f w.r
  have pw:∀c,c<=1->b4 (c:Nat) (.sh (.list [mX (w.f*w.r) λt=>bT w.f w.r (f9 w.f 0 t),mX (w.f*w.r) λt=>bT w.f w.r (f9 w.f 1 t)]))=some (.sh (mX (w.f*w.r) λt=>bT w.f w.r (f9 w.f c t))):=λc hc=>by
   match c,hc with
   | 0,_=>rfl
   | 1,_=>rfl
  have tb:∀c s,s<w.n->b4 (s:Nat) (.sh (mX (w.f*w.r) λt=>bT w.f w.r (f9 w.f c t)))=some (.sh (.int (bI w.n (f9 w.f c s)))):=λc s hs=>cy hs (aC hw.shape.n_le (bm rfl))
  exact c2 (sC (p:=w.posT a) (d+3) (n:=w.n) hw.shape.n_le (K:=K) (g:=f9 w.f c) rfl hG.pawn (pw c hc) (fh (d+3) (kP w a) hc (aA 1) (bm rfl)) k1 λs hs=>tb c s (bW.mp hs).1)
   (sC (p:=w.turn.posT b) (d+3) (n:=w.n) hw.shape.n_le (K:=λu=>K (w.sg u)) (g:=f9 w.f (1 - c)) (P:=w.turn.men (1 - c) 1) rfl hG.pawn (pw (1 - c) (bE 1 c)) (fh (d+3) (kP w.turn b) (bE 1 c) (aA 1) (bm rfl)) k2 λs hs=>tb (1 - c) s (bW.mp hs).1)
   (mz (P:=λs=>K s&& !decide (1<cp ((fN w.n (w.men c 1)).map (f9 w.f c)) s)) (k:=0) trivial λu hu=>by rw [GZ hw hc hu]))
theorem Rg:Ok (gZ ts λa=>a.isK 6 (some (Ty.lsd w6))) (C2 w (d+3) 77 xs ys):=
 fP hr λa x y h1=>td (Q:=λx y=>C2 w (d+3) 77 [x] [y]) h1 λa b=> .some (c2 (eA d hw.shape.n_le (kP w a)) (eA (w:=w.turn) d hw.shape.n_le (kP w.turn b)) (show R w (.lsd w6) _ _ from ⟨_,_,_,_,rfl,rfl,EQ hw (aE 1),EQ hw (aA 1)⟩))
theorem OV:Ok (kI ts λa b=>a.isK 6 (b.isK 1 (some (tY 120)))) (C2 w (d+13) 60 xs ys):=
 gE hr λa b x y u v h1 h2=>td (Q:=λx y=>C2 w (d+13) 60 [x,u] [y,v]) h1 λa b=>qx (Q:=λu v=>C2 w (d+13) 60 [_,u] [_,v]) h2 λc hc=> .some (tD hw d hc a b)
end
theorem CQ(hw:w.Ok)(d:Nat):qh w (bj br (d+13)) (JB w.f w.r):=λg ts xs ys hr=>
 .ite (λe=>by subst e;exact OT hw (d+11) hr) λ_=> .ite (λe=>by subst e;exact KE hw (d+8) hr) λ_=> .ite (λe=>by subst e;exact Rg hw (d+10) hr) λ_=> .ite (λe=>by subst e;exact OV hw d hr) λ_=>rx hw (d+9) g ts xs ys hr
end
end
section
noncomputable def T3(t:Option Ty)(lo hi:Int):Bool:=(t.bind λt=>t.asI λa b=>if lo<=a/\b<=hi then some ()else none).isSome
noncomputable def Bq:Ty:= .lsd (tY 120)
noncomputable def FV(f r:Nat):Bool:=
 [102,53].all (λg=>T3 (vP f r (JB f r) 8 g [.c 6,.c 1]) (-2147000000) 2147000000)&&(T3 (vP f r (JB f r) 8 80 [.lsd w6,.c 1]) (-400000) 400000&&[64,75,96,100].all λg=>T3 (vP f r (JB f r) 8 g [.c 6,.c 1,Bq]) (-2147000000) 2147000000)
theorem DV:([3,4].all λf=>[4,5].all λr=>FV f r)=true:=by decide+kernel
section
variable{w:Bd}
theorem nc{o:d5}{ct:Nat->List Ty->Option Ty}(hct:qh w o ct){g:Nat}{ts:List Ty}{xs ys:List T}{lo hi:Int}(h:T3 (ct g ts) lo hi=true)(hr:Rs w ts xs ys):∃k:Int,o.call g xs=some (.int k)/\o.call g ys=some (.int k)/\lo<=k/\k<=hi:=by
 obtain ⟨x,y,h1,h2,k,e1,e2,h3⟩:=qu (Q:=λx y=>∃k,x= .int k/\y= .int k/\lo<=k/\k<=hi) hct hr h λt x y h=>cW (Q:=λx y _=>∃k,x= .int k/\y= .int k/\lo<=k/\k<=hi) h λa b k h1 h2=> .if1 λe=> .some ⟨k,rfl,rfl,ap e.1 h1,ap h2 e.2⟩
 subst e1 e2
 exact ⟨k,h1,h2,h3⟩
noncomputable def sM(n by_:Int):Int:=if 0<=n then n.fdiv by_ else -((-n).fdiv by_)
structure jC where
 mk::
 (ps im pw mb kg th sp:Int)
noncomputable def jC.odd(v:jC):Int:=sM v.im 16
noncomputable def jC.list(v:jC):List Int:=[v.ps,v.odd*2^16+v.odd,v.pw,v.mb,v.kg,v.th,v.sp]
noncomputable def Sv(k:Int):Prop:= -2147000000<=k/\k<=2147000000
structure jC.Ok(v:jC):Prop where
 ps:Sv v.ps
 im: -400000<=v.im/\v.im<=400000
 pw:Sv v.pw
 mb:Sv v.mb
 kg:Sv v.kg
 th:Sv v.th
 sp:Sv v.sp
structure g7(o:d5)(p cs ms:T)(c:Int)(v:jC):Prop where
 ps:o.call 102 [p,.int c]=some (.int v.ps)
 im:o.call 80 [cs,.int c]=some (.int v.im)
 pw:o.call 53 [p,.int c]=some (.int v.pw)
 mb:o.call 64 [p,.int c,ms]=some (.int v.mb)
 kg:o.call 75 [p,.int c,ms]=some (.int v.kg)
 th:o.call 96 [p,.int c,ms]=some (.int v.th)
 sp:o.call 100 [p,.int c,ms]=some (.int v.sp)
theorem g7.le{d e:Nat}{p cs ms:T}{c:Int}{v:jC}(h:g7 (bj br d) p cs ms c v)(k:d<=e):g7 (bj br e) p cs ms c v:=
 ⟨b8 k h.ps,b8 k h.im,b8 k h.pw,b8 k h.mb,b8 k h.kg,b8 k h.th,b8 k h.sp⟩
noncomputable def mj(w:Bd):T:= .list [oV λk=>(cnt w.n (w.men 0 k):Nat),oV λk=>(cnt w.n (w.men 1 k):Nat)]
theorem B6(hw:w.Ok)(d:Nat){c:Nat}(hc:c<=1)(a b:Int){ms ms':T}(hms:R w Bq ms ms'):∃v:jC,v.Ok/\g7 (bj br (d+21)) (w.posT a) (mj w) ms (c:Nat) v/\g7 (bj br (d+21)) (w.turn.posT b) (mj w.turn) ms' ((1 - c:Nat):Int) v:=by
 have hct:=lL hw (d:=d+12) (CQ hw d) 8
 have hl:=cD (ax.mp (ax.mp DV w.f hw.shape.mem.1) w.r hw.shape.mem.2)
 have l1:=ax.mp hl.1
 have l2:=ax.mp (cD hl.2).2
 have hps:=Bj (w:=w) a b
 have hsd:=EP (w:=w) hc
 have a2:=aM hps (aM hsd dS)
 have a3:=aM hps (aM hsd (aM hms dS))
 have hcs:R w (.lsd w6) (mj w) (mj w.turn):=⟨_,_,_,_,rfl,rfl,EQ hw (aE 1),EQ hw (aA 1)⟩
 obtain ⟨ps,p1,p2,p3⟩:=nc hct (l1 102 (.head _)) a2
 obtain ⟨im,i1,i2,i3⟩:=nc hct (cD hl.2).1 (aM hcs (aM hsd dS))
 obtain ⟨pw,w1,w2,w3⟩:=nc hct (l1 53 (.tail _ (.head _))) a2
 obtain ⟨mb,m1,m2,m3⟩:=nc hct (l2 64 (.head _)) a3
 obtain ⟨kg,k1,k2,k3⟩:=nc hct (l2 75 (.tail _ (.head _))) a3
 obtain ⟨th,t1,t2,t3⟩:=nc hct (l2 96 (.tail _ (.tail _ (.head _)))) a3
 obtain ⟨sp,s1,s2,s3⟩:=nc hct (l2 100 (.tail _ (.tail _ (.tail _ (.head _))))) a3
 exact ⟨⟨ps,im,pw,mb,kg,th,sp⟩,⟨p3,i3,w3,m3,k3,t3,s3⟩,⟨p1,i1,w1,m1,k1,t1,s1⟩,⟨p2,i2,w2,m2,k2,t2,s2⟩⟩
theorem TH(d:Nat){n b q:Int}(h1:bK .fdv (.int (if n<0 then -n else n)) (.int b)=some (.int q))(hb:¬b<0):(bj br (d+1)).call 26 [.int n,.int b]=some (.int (if n<0 then -q else q)):=by
 have ab:∀x:Int,qI .abs [.int x]=some (.int (if x<0 then -x else x)):=λ_=>rfl
 have cb:∀x y:Bool,gP .ne (.bool x) (.bool y)=some (!(x==y)):=λ_ _=>rfl
 have hb2:qI .abs [.int b]=some (.int b):=(ab b).trans (by rw [if_neg hb])
 refine bq (F:=yM) (ρ:=[some (.sh (.int n)),some (.sh (.int b)),none]) rfl rfl (.next (.asg (.bin (.bi (.cons (.var rfl) .nil) (ab n)) (.bi (.cons (.var rfl) .nil) hb2) h1)) ?_)
 by_cases hn:n<0
 ·rw [if_pos hn]
  exact .h_iff_t (.cmp (.cmp (.var rfl) .lit rfl) (.cmp (.var rfl) .lit rfl) ((cb _ _).trans (by rw [decide_eq_true hn,decide_eq_false hb];rfl))) (.h_ret (.neg (.var rfl)))
 ·rw [if_neg hn]
  exact .skip_iff (.cmp (.cmp (.var rfl) .lit rfl) (.cmp (.var rfl) .lit rfl) ((cb _ _).trans (by rw [decide_eq_false hn,decide_eq_false hb];rfl))) (.h_ret (.var rfl))
theorem kH(d:Nat)(n:Int){b:Int}(h0:0<b)(hb:small b=true):(bj br (d+1)).call 26 [.int n,.int b]=some (.int (sM n b)):=by
 have hs:(b==0|| !small b)=false:=by
  rw [hb,beq_eq_false_iff_ne.mpr (ln h0)];rfl
 rw [TH d (dH hs) (cC.mpr (bv h0))]
 unfold sM
 by_cases hn:n<0
 ·rw [if_pos hn,if_pos hn,if_neg (fV.mpr hn)]
 ·rw [if_neg hn,if_neg hn,if_pos (cC.mp hn)]
theorem AR(d:Nat)(a b:Int)(hb:small b=true):(bj br (d+1)).call 27 [.int a,.int b]=some (.int (b*2^16+a)):=
 bq (F:=ny) (ρ:=[some (.sh (.int a)),some (.sh (.int b))]) rfl rfl (.h_ret (.bin (.bin (.var rfl) .lit (qC (xc (by decide) (by decide) hb))) (.var rfl) rfl))
theorem AK{n b m:Int}(hb:0<b)(h1: -m<=n)(h2:n<=m): -m<=sM n b/\sM n b<=m:=by
 have key:∀x:Int,0<=x->0<=x.fdiv b/\x.fdiv b<=x:=λx hx=>by
  rw [bO _ (bv hb)]
  exact ⟨vM hx (bv hb),Int.ediv_le_self b hx⟩
 unfold sM
 clear hb
 by_cases h:0<=n
 ·rw [if_pos h];have:=key n h;omega
 ·rw [if_neg h];have:=key (-n) (by omega);omega
noncomputable def EV(l:List Int):T:= .list (l.map .int)
theorem DY{k:Int}(h1: -400000<=k)(h2:k<=400000):small k=true:=n9 (bS (by decide) h1) (bC h2 (by decide))
theorem EM(d:Nat){p cs ms:T}{c:Int}{v:jC}(hv:v.Ok)(h:g7 (bj br (d+1)) p cs ms c v)(h77:(bj br (d+1)).call 77 [p]=some cs):(bj br (d+2)).call 103 [p,.int c,ms]=some (EV v.list):=by
 have hb:=AK (b:=16) (by decide) hv.im.1 hv.im.2
 exact bq (F:=nu) (ρ:=[some (.sh p),some (.sh (.int c)),some (.sh ms),none]) rfl rfl (.next (.asg (.call (.cons (.call (.cons (.call (.cons (.var rfl) .nil) h77) (.cons (.var rfl) .nil)) h.im) (.cons .lit .nil)) (kH d v.im (by decide) rfl)))
  (.h_ret (.list (.cons (.call (.cons (.var rfl) (.cons (.var rfl) .nil)) h.ps) (.cons (.call (.cons (.var rfl) (.cons (.var rfl) .nil)) (AR d v.odd v.odd (DY hb.1 hb.2))) (.cons (.call (.cons (.var rfl) (.cons (.var rfl) .nil)) h.pw)
   (.cons (.call (.cons (.var rfl) (.cons (.var rfl) (.cons (.var rfl) .nil))) h.mb) (.cons (.call (.cons (.var rfl) (.cons (.var rfl) (.cons (.var rfl) .nil))) h.kg) (.cons (.call (.cons (.var rfl) (.cons (.var rfl) (.cons (.var rfl) .nil))) h.th) (.cons (.call (.cons (.var rfl) (.cons (.var rfl) (.cons (.var rfl) .nil))) h.sp) .nil))))))))))
theorem Nk(d:Nat){p m0 m1:T}(h0:(bj br d).call 60 [p,.int 0]=some m0)(h1:(bj br d).call 60 [p,.int 1]=some m1):(bj br (d+1)).call 61 [p]=some (.list [m0,m1]):=
 bq (F:=l9) (ρ:=[some (.sh p)]) rfl rfl (.h_ret (.list (.cons (.call (.cons (.var rfl) (.cons .glob .nil)) h0) (.cons (.call (.cons (.var rfl) (.cons .glob .nil)) h1) .nil))))
noncomputable def go:List Str:=[aa "pieces",aa "imbalance",aa "pawns",aa "mobility",aa "king",aa "threats",aa "space"]
noncomputable def jy(W K:List Int):T:= .list ((go.zip (W.zip K)).map λq=> .tup [.str q.1,.int q.2.1,.int q.2.2])
theorem HJ(d:Nat){p ms:T}{v u:jC}(h61:(bj br d).call 61 [p]=some ms)(hw:(bj br d).call 103 [p,.int 0,ms]=some (EV v.list))(hb:(bj br d).call 103 [p,.int 1,ms]=some (EV u.list)):(bj br (d+1)).call 104 [p]=some (jy v.list u.list):=by
 refine bq (F:=Cu) (ρ:=[some (.sh p),none,none,none,none]) rfl rfl (.next (.asg (.call (.cons (.var rfl) .nil) h61)) (.next (.asg (.call (.cons (.var rfl) (.cons .glob (.cons (.var rfl) .nil))) hw)) (.next (.asg (.call (.cons (.var rfl) (.cons .glob (.cons (.var rfl) .nil))) hb)) ?_)))
 unfold jy EV jC.list
 generalize v.odd*2^16+v.odd=x
 generalize u.odd*2^16+u.odd=y
 exact .h_ret rfl
end
end
theorem JQ(s:String):(aa s).length=s.length:=by
 rw [Str.ofString_eq_toList]
 show (s.toList.map Char.toNat).toArray.size=_
 rw [aJ,aq];exact String.length_toList
theorem wT(a b:Str):(a++b).length=a.length+b.length:=by
 show (a.cps++b.cps).size=_
 rw [Array.size_append];rfl
noncomputable def sI(a:Int):Str:=aa (toString a)
theorem tJ{a:Int}(h1: -1000000000<a)(h2:a<1000000000):(sI a).length<=10:=by
 unfold sI;rw [JQ]
 exact int_text_length_le10 (k:=9) (by decide) (by omega)
theorem tT{a b:Str}(h:a.length<=1000/\b.length<=1000):bK .add (.str a) (.str b)=some (.str (a++b)):=if_pos h
theorem tU{a:Int}(h1: -1000000000<a)(h2:a<1000000000):qI .str [.int a]=some (.str (sI a)):=
 if_pos (by rw [decide_eq_true h1,decide_eq_true h2];rfl)
noncomputable def tM(s:Int):Int:=(s+32768)%65536 - 32768
noncomputable def A4(s:Int):Int:=(s - tM s)/65536
theorem w9(s:Int): -32768<=tM s/\tM s<=32767:=by unfold tM;omega
noncomputable def Md(s:Int):Prop:= -2147400000<=s/\s<=2147400000
theorem xa{s:Int}(h:Md s): -32768<=A4 s/\A4 s<=32767:=by unfold Md at h;unfold A4 tM;omega
theorem jd{a:Int}(h: -32768<=a/\a<=32767): -1000000000<a/\a<1000000000:=⟨bS (by decide) h.1,bC h.2 (by decide)⟩
theorem ve(d:Nat)(n:Int):(bj br (d+1)).call 25 [.int n]=some (.int (tM n)):=
 bq (F:=pE) (ρ:=[some (.sh (.int n))]) rfl rfl (.h_ret (.bin (.bin (.bin (.var rfl) .glob rfl) (.bin .glob .lit rfl) (congrArg (λk=>some (T.int k)) (bitAnd_m16 _))) .glob rfl))
theorem wO(d:Nat)(n:Int):(bj br (d+2)).call 28 [.int n]=some (.int (tM n)):=
 bq (F:=Cw) (ρ:=[some (.sh (.int n))]) rfl rfl (.h_ret (.call (.cons (.var rfl) .nil) (ve d n)))
theorem RD{n:Int}(hn:Md n):tM ((n+32768).fdiv (2^16))=A4 n:=by
 rw [bO _ (by decide)]
 unfold Md at hn
 unfold tM A4 tM
 rw [show (2:Int)^16=65536 from rfl];omega
theorem wP(d:Nat){n:Int}(hn:Md n):(bj br (d+2)).call 29 [.int n]=some (.int (A4 n)):=by
 rw [<-RD hn]
 exact bq (F:=Cy) (ρ:=[some (.sh (.int n))]) rfl rfl (.h_ret (.call (.cons (.bin (.bin (.var rfl) .glob rfl) .lit (ni rfl)) .nil) (ve d _)))
noncomputable def nX(s:Int):Str:=(sI (tM s)++aa "/")++sI (A4 s)
theorem jj:(aa "/").length<=1:=by decide
theorem jx{s:Int}(h:Md s):(sI (tM s)++aa "/").length<=11/\(sI (A4 s)).length<=10:=
 ⟨wT .. ▸gv (tJ (jd (w9 s)).1 (jd (w9 s)).2) jj,tJ (jd (xa h)).1 (jd (xa h)).2⟩
theorem pt{s:Int}(h:Md s):(nX s).length<=30:=by
 unfold nX;rw [wT]
 exact an (gv (jx h).1 (jx h).2) (by decide)
theorem vr(d:Nat){s:Int}(h:Md s):(bj br (d+3)).call 112 [.int s]=some (.str (nX s)):=by
 have a:=jd (w9 s)
 have b:=jd (xa h)
 exact bq (F:=nv) (ρ:=[some (.sh (.int s))]) rfl rfl (.h_ret (.bin (.bin (.bi (.cons (.call (.cons (.var rfl) .nil) (wO d s)) .nil) (tU a.1 a.2)) .lit (tT ⟨an (tJ a.1 a.2) (by decide),an jj (by decide)⟩))
  (.bi (.cons (.call (.cons (.var rfl) .nil) (wP d h)) .nil) (tU b.1 b.2)) (tT ⟨an (jx h).1 (by decide),an (jx h).2 (by decide)⟩)))
@[reducible] noncomputable def Rw:=Str×Int×Int
noncomputable def nZ(q:Rw):T:= .tup [.str q.1,.int q.2.1,.int q.2.2]
noncomputable def Jy(q:Rw):Prop:=Md q.2.1/\Md q.2.2
noncomputable def B2(L:List Rw):Int:=(L.map λq=>tM q.2.1 - tM q.2.2).sum
noncomputable def A7(L:List Rw):Int:=(L.map λq=>A4 q.2.1 - A4 q.2.2).sum
@[reducible] noncomputable def N1:S:= .seq (.aug 1 .add (.bin .sub (.call 28 (.cons (.var 4) .nil)) (.call 28 (.cons (.var 5) .nil)))) (.seq (.aug 2 .add (.bin .sub (.call 29 (.cons (.var 4) .nil)) (.call 29 (.cons (.var 5) .nil)))) .skip)
theorem B_(d:Nat)(r:T):∀(L:List Rw) (m e:Int) (a b c:Option O),(∀q,q∈L->Jy q)->
  ∃x y z,FL (bj br (d+2)) N1 [3,4,5] (L.map nZ) [some (.sh r),iT m,iT e,a,b,c] [some (.sh r),iT (m+B2 L),iT (e+A7 L),x,y,z]
 |[],m,e,a,b,c,_=>⟨a,b,c,by rw [show B2 []=0 from rfl,show A7 []=0 from rfl,bQ,bQ];exact .nil⟩
 |(s,u,v)::L,m,e,a,b,c,h=>by
  have o:=h _ ak
  obtain ⟨x,y,z,ee⟩:=B_ d r L (m+(tM u - tM v)) (e+(A4 u - A4 v)) (some (.sh (.str s))) (iT u) (iT v) λq hq=>h q (ao _ hq)
  rw [dh,dh]at ee
  exact ⟨x,y,z,.cons (ρ1:=[some (.sh r),iT m,iT e,some (.sh (.str s)),iT u,iT v]) rfl (.seq (.aug rfl (.bin (.call (.cons (.var rfl) .nil) (wO d u)) (.call (.cons (.var rfl) .nil) (wO d v)) rfl) rfl) (.seq (.aug rfl (.bin (.call (.cons (.var rfl) .nil) (wP d o.1)) (.call (.cons (.var rfl) .nil) (wP d o.2)) rfl) rfl) .skip)) ee⟩
theorem vg(d:Nat){L:List Rw}(h:∀q,q∈L->Jy q):(bj br (d+3)).call 105 [.list (L.map nZ)]=some (.tup [.int (B2 L),.int (A7 L)]):=by
 obtain ⟨x,y,z,e⟩:=B_ d (.list (L.map nZ)) L 0 0 none none none h
 rw [de,de]at e
 exact bq (F:=pF) (ρ:=[some (.sh (.list (L.map nZ))),none,none,none,none,none]) rfl rfl (.next (.asg .lit) (.next (.asg .lit) (.next (.forr (.var rfl) rfl e) (.h_ret (.tup (.cons (.var rfl) (.cons (.var rfl) .nil)))))))
theorem Dw{a b c n:Int}(h1: -32768<=a/\a<=32767)(h2: -32768<=b/\b<=32767)(h: -(65536*n)<=c/\c<=65536*n): -(65536*(n+1))<=a - b+c/\a - b+c<=65536*(n+1):=by omega
theorem N5{L:List Rw}(h:∀q,q∈L->Jy q):(-(65536*(L.length:Int))<=B2 L/\B2 L<=65536*L.length)/\ -(65536*(L.length:Int))<=A7 L/\A7 L<=65536*L.length:=by
 induction L with
 | nil=>exact ⟨⟨dm _,dm _⟩,dm _,dm _⟩
 | cons q L ih=>
  have o:=h _ ak
  have i:=ih λq hq=>h q (ao _ hq)
  exact ⟨Dw (w9 q.2.1) (w9 q.2.2) i.1,Dw (xa o.1) (xa o.2) i.2⟩
noncomputable def gY(v b:Int):Int:=if 0<v then v+max b (-v)else if v<0 then v - max b v else 0
theorem O6(a b:Int):(if a<b then b else a)=max a b:=by
 by_cases h:a<b
 ·rw [if_pos h,ki (bv h)]
 ·rw [if_neg h,lF (cC.mp h)]
theorem O5(a b:Int):(if b<a then b else a)=min a b:=by
 by_cases h:b<a
 ·rw [if_pos h,kh (bv h)]
 ·rw [if_neg h,lE (cC.mp h)]
theorem nj(a b:Int):qI .max [.int a,.int b]=some (.int (max a b)):=congrArg (λk=>some (T.int k)) (O6 a b)
theorem iN(a b:Int):qI .min [.int a,.int b]=some (.int (min a b)):=congrArg (λk=>some (T.int k)) (O5 a b)
theorem n5.iffD{c:d5}{ρ:b6}{q:X}{s r:S}{x y:T}{P:Prop}[Decidable P](h:Ts c ρ q (decide P))(k1:P->n5 c ρ s x)(k2:¬P->n5 c ρ r y):n5 c ρ (.seq (.iff q s .skip) r) (if P then x else y):=by
 by_cases e:P
 ·rw [if_pos e];rw [decide_eq_true e]at h;exact .h_iff_t h (k1 e)
 ·rw [if_neg e];rw [decide_eq_false e]at h;exact .skip_iff h (k2 e)
theorem oL{P:Prop}[Decidable P](a b:Int):T.int (if P then a else b)=if P then T.int a else T.int b:=apply_ite ..
theorem sy(d:Nat)(v b:Int):(bj br (d+1)).call 107 [.int v,.int b]=some (.int (gY v b)):=by
 unfold gY
 rw [oL,oL]
 exact bq (F:=lX) (ρ:=[some (.sh (.int v)),some (.sh (.int b))]) rfl rfl (.iffD (.cmp (.var rfl) .lit rfl) (λ_=> .h_ret (.bin (.var rfl) (.bi (.cons (.var rfl) (.cons (.neg (.var rfl)) .nil)) (nj ..)) rfl))
  λ_=> .iffD (.cmp (.var rfl) .lit rfl) (λ_=> .h_ret (.bin (.var rfl) (.bi (.cons (.var rfl) (.cons (.var rfl) .nil)) (nj ..)) rfl)) λ_=> .h_ret .lit)
noncomputable def jg(mg eg ph sc:Int):Int:=sM (mg*ph+sM (eg*(128 - ph)*sc) 64) 128
theorem fB{a b:Int}(h:small a=true\/small b=true):(small a||small b)=true:=by rw [du];exact h
theorem AQ(d:Nat){mg eg ph sc:Int}(h1:small ph=true)(h2:small sc=true)(h3:small (128 - ph)=true):(bj br (d+2)).call 30 [.int mg,.int eg,.int ph,.int sc]=some (.int (jg mg eg ph sc)):=
 bq (F:=Cv) (ρ:=[some (.sh (.int mg)),some (.sh (.int eg)),some (.sh (.int ph)),some (.sh (.int sc)),none]) rfl rfl
  (.next (.asg (.call (.cons (.bin (.bin (.var rfl) (.bin .glob (.var rfl) rfl) (lC (fB (.inr h3)))) (.var rfl) (lC (fB (.inr h2)))) (.cons .glob .nil)) (kH d _ (by decide) rfl)))
   (.h_ret (.call (.cons (.bin (.bin (.var rfl) (.var rfl) (lC (fB (.inr h1)))) (.var rfl) rfl) (.cons .glob .nil)) (kH d _ (by decide) rfl))))
noncomputable def kc(v:Int):Int:=min (max v (-31753)) 31753
theorem Hi(v:Int):kc v=if 31753<v then 31753 else if v< -31753 then -31753 else v:=by unfold kc;split<;>(try split)<;>omega
theorem AV(d:Nat)(v:Int):(bj br (d+1)).call 101 [.int v]=some (.int (kc v)):=by
 rw [Hi,oL,oL]
 exact bq (F:=Cz) (ρ:=[some (.sh (.int v))]) rfl rfl (.iffD (.cmp (.var rfl) .glob rfl) (λ_=> .h_ret .glob) λ_=> .iffD (.cmp (.var rfl) (.neg .glob) rfl) (λ_=> .h_ret (.neg .glob)) λ_=> .h_ret (.var rfl))
noncomputable def tL(sd v:Int):Int:=kc ((if sd=1 then -v else v)+28)
theorem H9(d:Nat){p:T}{sd:Int}(hp:bV 20 (.sh p)=some (.sh (.int sd)))(v:Int):(bj br (d+2)).call 110 [p,.int v]=some (.int (tL sd v)):=by
 have h:Ex (bj br (d+1)) [some (.sh p),iT v] (.iff (.cmp .eq (.attr (.var 0) 20) (.glob (aa "BLACK") (.int 1))) (.seq (.asg 1 (.neg (.var 1))) .skip) .skip) [some (.sh p),iT (if sd=1 then -v else v)]:=by
  refine .iffB (p:=sd==1) (.cmp (.attr (.var rfl) hp) .glob rfl) (λe=> ?_) λe=> ?_
  ·rw [if_pos (beq_iff_eq.mp e)];exact .seq (.asg (.neg (.var rfl))) .skip
  ·rw [if_neg (beq_eq_false_iff_ne.mp e)];exact .skip
 exact bq (F:=lY) (ρ:=[some (.sh p),iT v]) rfl rfl (.next h (.h_ret (.call (.cons (.bin (.var rfl) .glob rfl) .nil) (AV d _))))
theorem yf(d:Nat)(e:Int):(bj br (d+1)).call 84 [.int e]=some (.int ((if 0<e then 0 else 1:Nat):Int)):=
 (bq (F:=lV) (ρ:=[some (.sh (.int e))]) rfl rfl (.h_ret (.iteB (p:=decide (0<e)) (.cmp (.var rfl) .lit rfl) .glob .glob))).trans (by
  by_cases h:0<e
  ·rw [decide_eq_true h,if_pos h];rfl
  ·rw [decide_eq_false h,if_neg h];rfl)
section
@[reducible] noncomputable def Op:=(Nat->Bool)->Nat->Bool
noncomputable def dl(u:Nat):Nat->Bool:=λs=>s==u
noncomputable def cj(n:Nat)(L:Op):Prop:=∀Q s,s<n->(L Q s=true↔∃u,u<n/\Q u=true/\L (dl u) s=true)
theorem and_t{a b:Bool}:(a&&b)=true↔a=true/\b=true:=NN (aB a b)
theorem or_t{a b:Bool}:(a||b)=true↔a=true\/b=true:=NN (du a b)
theorem cj.at{n:Nat}(g:Nat->Bool)(t:Nat->Nat)(ht:∀s,s<n->g s=true->t s<n):cj n λQ s=>g s&&Q (t s):=λQ s hs=>
 ⟨λh=>⟨t s,ht s hs (and_t.mp h).1,(and_t.mp h).2,and_t.mpr ⟨(and_t.mp h).1,beq_self_eq_true _⟩⟩,λ⟨u,_,b,c⟩=>and_t.mpr ⟨(and_t.mp c).1,(show t s=u from beq_iff_eq.mp (and_t.mp c).2)▸b⟩⟩
theorem cj.id'(n:Nat):cj n (λQ=>Q):=cj.at (λ_=>true) (λs=>s) λ_ h _=>h
theorem cj.or'{n:Nat}{L M:Op}(h:cj n L)(k:cj n M):cj n (λQ s=>L Q s||M Q s):=λQ s hs=>
 ⟨λe=>(or_t.mp e).elim (λe=>let ⟨u,a,b,c⟩:=(h Q s hs).mp e;⟨u,a,b,or_t.mpr (.inl c)⟩) λe=>let ⟨u,a,b,c⟩:=(k Q s hs).mp e;⟨u,a,b,or_t.mpr (.inr c)⟩,
  λ⟨u,a,b,c⟩=>or_t.mpr ((or_t.mp c).imp (λc=>(h Q s hs).mpr ⟨u,a,b,c⟩) λc=>(k Q s hs).mpr ⟨u,a,b,c⟩)⟩
theorem cj.comp{n:Nat}{L M:Op}(h:cj n L)(k:cj n M):cj n (λQ=>L (M Q)):=λQ s hs=>
 ⟨λe=>let ⟨v,a,b,c⟩:=(h (M Q) s hs).mp e;let ⟨u,x,y,f⟩:=(k Q v a).mp b;⟨u,x,y,(h _ s hs).mpr ⟨v,a,f,c⟩⟩,
  λ⟨u,x,y,f⟩=>let ⟨v,a,b,c⟩:=(h _ s hs).mp f;(h (M Q) s hs).mpr ⟨v,a,(k Q v a).mpr ⟨u,x,y,b⟩,c⟩⟩
theorem cj.sh(n k:Nat):∀c,cj n (NO n k c)
 | 0=>cj.at (λs=>decide (k<=s)) (λs=>s - k) λs h _=>aC (bE ..) h
 | c+1=>cj.at (λs=>decide (s+k<n)) (λs=>s+k) λs _ h=>of_decide_eq_true h
theorem cj.and'{n:Nat}{L:Op}(h:cj n L)(m:Nat->Bool):cj n (λQ=>L λu=>Q u&&m u):=
 cj.comp h (M:=λQ u=>Q u&&m u) ((funext λ(Q:Nat->Bool)=>funext λu=>cz (m u) (Q u))▸cj.at m (λs=>s) λ_ h _=>h)
theorem cj.nb(f n:Nat):cj n (Fs f n):=cj.or' (cj.and' (cj.sh n 1 0) (λu=> !(u%f==f - 1))) (cj.and' (cj.sh n 1 1) (λu=> !(u%f==0)))
theorem cj.fl(n f c:Nat):∀l:List Nat,cj n (λQ=>l.foldl (iL n f c) Q)
 |[]=>cj.id' n
 | m::l=>cj.comp (cj.fl n f c l) (cj.or' (cj.id' n) (cj.sh n (m*f) c))
noncomputable def A3(f r c:Nat)(Q:Nat->Bool):Nat->Bool:=NO (f*r) f c (QM f r c Q)
theorem cj.fs(f r c:Nat):cj (f*r) (A3 f r c):=cj.comp (L:=NO (f*r) f c) (M:=QM f r c) (cj.sh (f*r) f c) (cj.fl (f*r) f c (wZ r))
theorem cj.any{n:Nat}{L:Op}(h:cj n L)(Q:Nat->Bool){s:Nat}(hs:s<n):L Q s=(ar n).any λu=>Q u&&L (dl u) s:=
 fF.mpr ((h Q s hs).trans ⟨λ⟨u,a,b,c⟩=>cm.mpr ⟨u,az.mpr a,and_t.mpr ⟨b,c⟩⟩,λe=>let ⟨u,a,b⟩:=cm.mp e;⟨u,az.mp a,and_t.mp b⟩⟩)
noncomputable def uw(f c s u:Nat):Bool:=if c=0 then decide (s/f<u/f)else decide (u/f<s/f)
noncomputable def sL(f s u:Nat):Nat:=((u%f:Nat) -(s%f:Nat):Int).natAbs
theorem Ij:∀f∈[3,4],∀r∈[4,5],∀c<2,∀s,s<f*r->∀u,u<f*r->A3 f r (1 - c) (dl u) s=(uw f c s u&&sL f s u==0)/\A3 f r (1 - c) (Fs f (f*r) (dl u)) s=(uw f c s u&&sL f s u==1):=by decide+kernel
theorem DE{n:Nat}{P Q:Nat->Bool}(h:∀u,u<n->P u=Q u):(ar n).any P=(ar n).any Q:=
 fF.mpr (cm.trans (NM ⟨λ⟨u,a,b⟩=>⟨u,a,h u (az.mp a)▸b⟩,λ⟨u,a,b⟩=>⟨u,a,(h u (az.mp a)).symm▸b⟩⟩ cm.symm))
theorem Ik{f r:Nat}(h:bX f r){c s:Nat}(hc:c<=1)(hs:s<f*r)(Q:Nat->Bool):A3 f r (1 - c) Q s=(ar (f*r)).any λu=>Q u&&(uw f c s u&&sL f s u==0):=
 (cj.any (cj.fs f r (1 - c)) Q hs).trans (DE λu hu=>congrArg (Q u&& ·) (Ij f h.mem.1 r h.mem.2 c (aU hc) s hs u hu).1)
theorem G0{f r:Nat}(h:bX f r){c s:Nat}(hc:c<=1)(hs:s<f*r)(Q:Nat->Bool):A3 f r (1 - c) (Fs f (f*r) Q) s=(ar (f*r)).any λu=>Q u&&(uw f c s u&&sL f s u==1):=
 (cj.any (cj.comp (cj.fs f r (1 - c)) (cj.nb f (f*r))) Q hs).trans (DE λu hu=>congrArg (Q u&& ·) (Ij f h.mem.1 r h.mem.2 c (aU hc) s hs u hu).2)
noncomputable def Bd.pasP(w:Bd)(c s:Nat):Bool:=w.men c 1 s&& !(w.men c 1 s&&A3 w.f w.r (1 - c) (w.men c 1) s)&& !(w.men c 1 s&&A3 w.f w.r (1 - c) (w.men (1 - c) 1) s)&& !(A3 w.f w.r (1 - c) (Fs w.f w.n (w.men (1 - c) 1)) s)
noncomputable def Bd.freeP(w:Bd)(c t:Nat):Bool:=(ar w.n).all λu=> !(uw w.f c t u&&((w.b u==(if c=0 then 9 else 1))&&decide (sL w.f t u<2)||(w.b u==w.b t)&&(sL w.f t u==0)))
section
variable{w:Bd}
theorem Ky:∀p<16,(!(p==0)&&p%8==0)=false->∀c<2,∀k<6,((!(p==0)&&p/8==c)&&p%8==k+1)=(p==k+1+8*c):=by decide
theorem hU{p:Nat}(h:p=0\/(p<16/\1<=p%8/\p%8<=6)):p<16/\(!(p==0)&&p%8==0)=false:=
 h.elim (λe=>by subst e;decide) λ⟨a,b,_⟩=>⟨a,(congrArg (!(p==0)&& ·) (beq_eq_false_iff_ne.mpr (cN b))).trans (bP _)⟩
theorem tN(hw:w.Ok){c k s:Nat}(hc:c<=1)(hk:1<=k)(hk6:k<=6)(hs:s<w.n):w.men c k s=(w.b s==k+8*c):=
 match k,hk with
 | k+1,_=>Ky _ (hU (hw.pc s hs)).1 (hU (hw.pc s hs)).2 c (aU hc) k (Nat.lt_of_succ_le hk6)
theorem Kx(hw:w.Ok){c k s:Nat}(hc:c<=1)(hk:1<=k)(hk6:k<=6)(hs:s<w.n):w.men c k s=true↔w.b s=k+8*c:=tN hw hc hk hk6 hs▸beq_iff_eq
theorem yR{X Y Z:Nat->Bool}:∀l:List Nat,(!(l.any X)&& !(l.any Y)&& !(l.any Z))=l.all λu=> !(X u||Y u||Z u)
 |[]=>rfl
 | u::l=>(show ∀x y z X Y Z A,(!X&& !Y&& !Z)=A->(!(x||X)&& !(y||Y)&& !(z||Z))=(!(x||y||z)&&A) by decide) (X u) (Y u) (Z u) _ _ _ _ (yR l)
theorem Gp:∀o f a g0 g1:Bool,(!(o&&(a&&g0)||f&&(a&&g0)||f&&(a&&g1)))= !(a&&(f&&(g0||g1)||o&&g0)):=by decide
theorem K4:∀g:Nat,decide (g<2)=(g==0||g==1)
 | 0=>rfl
 | 1=>rfl
 | g+2=>decide_eq_false (dM.mpr (cw 2 g))
theorem DH{n:Nat}{P Q:Nat->Bool}(h:∀u,u<n->P u=Q u):(ar n).all P=(ar n).all Q:=
 fF.mpr (ax.trans (NM ⟨λe u a=>h u (az.mp a)▸e u a,λe u a=>(h u (az.mp a)).symm▸e u a⟩ ax.symm))
theorem K6:∀c≤1,(if c=0 then 9 else 1)=1+8*(1 - c):=by decide
theorem Go(hw:w.Ok){c s:Nat}(hc:c<=1)(hs:s<w.n):w.pasP c s=(w.men c 1 s&&w.freeP c s):=by
 unfold Bd.pasP
 rw [Ik hw.shape hc hs,Ik hw.shape hc hs,show A3 w.f w.r (1 - c) (Fs w.f w.n (w.men (1 - c) 1)) s=_ from G0 hw.shape hc hs _]
 cases hm:w.men c 1 s
 ·rfl
 ·have hb:=(Kx hw hc (aA 1) (cw 1 5) hs).mp hm
  refine (yR _).trans (DH (n:=w.n) λu hu=>(Gp ..).trans ?_)
  rw [tN hw hc (aA 1) (cw 1 5) hu,tN hw (bE 1 c) (aA 1) (cw 1 5) hu,<-K6 c hc,<-hb,<-K4]
end
end
section
theorem Ex.setA{c:d5}{ρ:b6}{e:X}{k y q:Nat}{ks:List Nat}{l l':List O}{x:T}(h0:get ρ y=some (.ins q ks l))(h1:dO c ρ e (.sh x))(h2:upd.setFld ks l k (.sh x)=(ks,l'))(hk:(decide (ks.length<=900)&&d6 ks)=true):Ex c ρ (.setA (.var y) k e) (fO ρ y (.ins q ks l')):=by
 have h3:xI c (.var y) k ρ (.sh x)=some (fO ρ y (.ins q ks l')):=by
  show (get ρ y).bind _=_
  rw [h0]
  exact (if_pos hk).trans (by rw [h2];rfl)
 show ((ev c e ρ).bind O.t?).bind _=_
 rw [h1];show (xI c (.var y) k ρ (.sh x)).map _=_
 rw [h3];rfl
theorem Ex.asgN{c:d5}{ρ:b6}{a:X}{i g:Nat}{l:List T}{o:O}(h1:Es c ρ a l)(h:c.new g l=some o):Ex c ρ (.asgO i (.new g a)) (fO ρ i o):=by
 show ((o7 c a ρ).bind _).map _=_
 rw [h1];show (c.new g l).map _=_;rw [h];rfl
section
variable{p G:T}{w:Bd}
@[reducible] noncomputable def fS(p:T)(c:Int)(G:T)(own foe bes:Int)(l:List O)(x y z:Option O):b6:=[some (.sh p),iT c,some (.sh G),iT own,iT foe,iT bes,some (.ins 2 [35,3,4,5,6,7,8,9,10,11] l),x,y,z]
theorem sN{x y z:Int}(e:aj x y=z):bK .and (.int x) (.int y)=some (.int z):=congrArg (λk=>some (T.int k)) e
theorem Pc(d:Nat){c own foe bes a1 a2 a3 a4 a5 a6 a7 a8 a9 f0 f1 so hlp pa sh sf as cd:Int}(hG:bV 2 (.sh p)=some (.sh G))
  (h_own:(bj br (d+1)).call 42 [p,.int c]=some (.int own)) (h_foe:(bj br (d+1)).call 42 [p,.int (1 - c)]=some (.int foe)) (h_bes:(bj br (d+1)).call 44 [G,.int own]=some (.int bes))
  (h_a1:(bj br (d+1)).call 43 [G,.int bes,.int c]=some (.int a1)) (h_a2:(bj br (d+1)).call 46 [G,.int bes,.int c]=some (.int a2)) (h_f0:(bj br (d+1)).call 45 [G,.int bes,.int 0]=some (.int f0)) (h_f1:(bj br (d+1)).call 45 [G,.int bes,.int 1]=some (.int f1))
  (h_so:(bj br (d+1)).call 46 [G,.int own,.int (1 - c)]=some (.int so)) (h_hlp:(bj br (d+1)).call 45 [G,.int bes,.int c]=some (.int hlp))
  (h_pa:(bj br (d+1)).call 48 [G,.int foe,.int (1 - c)]=some (.int pa)) (h_sh:(bj br (d+1)).call 43 [G,.int (av foe pa),.int (1 - c)]=some (.int sh))
  (h_sf:(bj br (d+1)).call 46 [G,.int foe,.int (1 - c)]=some (.int sf)) (h_as:(bj br (d+1)).call 47 [G,.int foe,.int (1 - c)]=some (.int as)) (h_cd:(bj br (d+1)).call 49 [G,.int own,.int foe,.int c]=some (.int cd))
  (e3:aj own (-(av f0 f1) - 1)=a3) (e4:aj own so=a4) (e5:aj (aj (aj own (-hlp - 1)) (-a3 - 1)) sh=a5) (e6:aj own (av bes a1)=a6) (e7:aj own sf=a7) (e8:aj (aj (aj own (-a4 - 1)) (-a7 - 1)) (-as - 1)=a8)
  (e9:aj cd (aj (aj (aj own (-a4 - 1)) (-a7 - 1)) (-a8 - 1))=a9):
  (bj br (d+2)).call 50 [p,.int c]=some (.inst 2 [35,3,4,5,6,7,8,9,10,11] [.int own,.int a1,.int a2,.int a3,.int a4,.int a5,.int a6,.int a7,.int a8,.int a9]):=
 bq (F:=nw) (ρ:=[some (.sh p),iT c,none,none,none,none,none,none,none,none]) rfl rfl (.next (.asg (.attr (.var rfl) hG)) (.next (.asg (.call (.cons (.var rfl) (.cons (.var rfl) .nil)) h_own)) (.next (.asg (.call (.cons (.var rfl) (.cons (.bin .lit (.var rfl) rfl) .nil)) h_foe)) (.next (.asg (.call (.cons (.var rfl) (.cons (.var rfl) .nil)) h_bes))
  (.next (ρ1:=fS p c G own foe bes [.sh (.int own),.sh (.int 0),.sh (.int 0),.sh (.int 0),.sh (.int 0),.sh (.int 0),.sh (.int 0),.sh (.int 0),.sh (.int 0),.sh (.int 0)] none none none) (.asgN (.cons (.var rfl) .nil) (uU d _)) (.next (ρ1:=fS p c G own foe bes [.sh (.int own),.sh (.int a1),.sh (.int 0),.sh (.int 0),.sh (.int 0),.sh (.int 0),.sh (.int 0),.sh (.int 0),.sh (.int 0),.sh (.int 0)] none none none) (.setA rfl (.call (.cons (.var rfl) (.cons (.var rfl) (.cons (.var rfl) .nil))) h_a1) rfl rfl) (.next (ρ1:=fS p c G own foe bes [.sh (.int own),.sh (.int a1),.sh (.int a2),.sh (.int 0),.sh (.int 0),.sh (.int 0),.sh (.int 0),.sh (.int 0),.sh (.int 0),.sh (.int 0)] none none none) (.setA rfl (.call (.cons (.var rfl) (.cons (.var rfl) (.cons (.var rfl) .nil))) h_a2) rfl rfl)
  (.next (ρ1:=fS p c G own foe bes [.sh (.int own),.sh (.int a1),.sh (.int a2),.sh (.int a3),.sh (.int 0),.sh (.int 0),.sh (.int 0),.sh (.int 0),.sh (.int 0),.sh (.int 0)] none none none) (.setA rfl (.bin (.var rfl) (.inv (.bin (.call (.cons (.var rfl) (.cons (.var rfl) (.cons .glob .nil))) h_f0) (.call (.cons (.var rfl) (.cons (.var rfl) (.cons .glob .nil))) h_f1) rfl)) (sN e3)) rfl rfl)
  (.next (ρ1:=fS p c G own foe bes [.sh (.int own),.sh (.int a1),.sh (.int a2),.sh (.int a3),.sh (.int a4),.sh (.int 0),.sh (.int 0),.sh (.int 0),.sh (.int 0),.sh (.int 0)] none none none) (.setA rfl (.bin (.var rfl) (.call (.cons (.var rfl) (.cons (.var rfl) (.cons (.bin .lit (.var rfl) rfl) .nil))) h_so) (sN e4)) rfl rfl)
  (.next (ρ1:=fS p c G own foe bes [.sh (.int own),.sh (.int a1),.sh (.int a2),.sh (.int a3),.sh (.int a4),.sh (.int 0),.sh (.int 0),.sh (.int 0),.sh (.int 0),.sh (.int 0)] (iT hlp) none none) (.asg (.call (.cons (.var rfl) (.cons (.var rfl) (.cons (.var rfl) .nil))) h_hlp)) (.next (ρ1:=fS p c G own foe bes [.sh (.int own),.sh (.int a1),.sh (.int a2),.sh (.int a3),.sh (.int a4),.sh (.int 0),.sh (.int 0),.sh (.int 0),.sh (.int 0),.sh (.int 0)] (iT hlp) (iT (av foe pa)) none) (.asg (.bin (.var rfl) (.call (.cons (.var rfl) (.cons (.var rfl) (.cons (.bin .lit (.var rfl) rfl) .nil))) h_pa) rfl))
  (.next (ρ1:=fS p c G own foe bes [.sh (.int own),.sh (.int a1),.sh (.int a2),.sh (.int a3),.sh (.int a4),.sh (.int a5),.sh (.int 0),.sh (.int 0),.sh (.int 0),.sh (.int 0)] (iT hlp) (iT (av foe pa)) none) (.setA rfl (.bin (.bin (.bin (.var rfl) (.inv (.var rfl)) rfl) (.inv (.attr (.var rfl) rfl)) rfl) (.call (.cons (.var rfl) (.cons (.var rfl) (.cons (.bin .lit (.var rfl) rfl) .nil))) h_sh) (sN e5)) rfl rfl)
  (.next (ρ1:=fS p c G own foe bes [.sh (.int own),.sh (.int a1),.sh (.int a2),.sh (.int a3),.sh (.int a4),.sh (.int a5),.sh (.int a6),.sh (.int 0),.sh (.int 0),.sh (.int 0)] (iT hlp) (iT (av foe pa)) none) (.setA rfl (.bin (.var rfl) (.bin (.var rfl) (.attr (.var rfl) rfl) rfl) (sN e6)) rfl rfl) (.next (ρ1:=fS p c G own foe bes [.sh (.int own),.sh (.int a1),.sh (.int a2),.sh (.int a3),.sh (.int a4),.sh (.int a5),.sh (.int a6),.sh (.int a7),.sh (.int 0),.sh (.int 0)] (iT hlp) (iT (av foe pa)) none) (.setA rfl (.bin (.var rfl) (.call (.cons (.var rfl) (.cons (.var rfl) (.cons (.bin .lit (.var rfl) rfl) .nil))) h_sf) (sN e7)) rfl rfl)
  (.next (ρ1:=fS p c G own foe bes [.sh (.int own),.sh (.int a1),.sh (.int a2),.sh (.int a3),.sh (.int a4),.sh (.int a5),.sh (.int a6),.sh (.int a7),.sh (.int a8),.sh (.int 0)] (iT hlp) (iT (av foe pa)) none) (.setA rfl (.bin (.bin (.bin (.var rfl) (.inv (.attr (.var rfl) rfl)) rfl) (.inv (.attr (.var rfl) rfl)) rfl) (.inv (.call (.cons (.var rfl) (.cons (.var rfl) (.cons (.bin .lit (.var rfl) rfl) .nil))) h_as)) (sN e8)) rfl rfl)
  (.next (ρ1:=fS p c G own foe bes [.sh (.int own),.sh (.int a1),.sh (.int a2),.sh (.int a3),.sh (.int a4),.sh (.int a5),.sh (.int a6),.sh (.int a7),.sh (.int a8),.sh (.int 0)] (iT hlp) (iT (av foe pa)) (iT (aj (aj (aj own (-a4 - 1)) (-a7 - 1)) (-a8 - 1)))) (.asg (.bin (.bin (.bin (.var rfl) (.inv (.attr (.var rfl) rfl)) rfl) (.inv (.attr (.var rfl) rfl)) rfl) (.inv (.attr (.var rfl) rfl)) rfl))
  (.next (ρ1:=fS p c G own foe bes [.sh (.int own),.sh (.int a1),.sh (.int a2),.sh (.int a3),.sh (.int a4),.sh (.int a5),.sh (.int a6),.sh (.int a7),.sh (.int a8),.sh (.int a9)] (iT hlp) (iT (av foe pa)) (iT (aj (aj (aj own (-a4 - 1)) (-a7 - 1)) (-a8 - 1)))) (.setA rfl (.bin (.call (.cons (.var rfl) (.cons (.var rfl) (.cons (.var rfl) (.cons (.var rfl) .nil)))) h_cd) (.var rfl) (sN e9)) rfl rfl) (.next (.frz rfl) (.h_ret (.var rfl))))))))))))))))))))
theorem Oz(d:Nat){c A B:Int}{M N:T}(h1:bV 29 (.sh p)=some (.sh M))(h2:bV 30 (.sh p)=some (.sh N))(h3:b4 1 (.sh M)=some (.sh (.int A)))(h4:b4 c (.sh N)=some (.sh (.int B))):
  (bj br (d+1)).call 42 [p,.int c]=some (.int (aj A B)):=
 bq (F:=rU) (ρ:=[some (.sh p),iT c]) rfl rfl (.h_ret (.bin (.idx (.attr (.var rfl) h1) .glob h3) (.idx (.attr (.var rfl) h2) (.var rfl) h4) rfl))
theorem sx(d:Nat)(hp:Fa p w){c:Nat}(hc:c<=1):(bj br (d+1)).call 42 [p,.int c]=some (.int (bI w.n (w.men c 1))):=
 (Oz d hp.kinds hp.sides (gu w (k:=1) (by decide) (by decide)) (dZ w hc)).trans (congrArg (λk=>some (T.int k)) ((dJ _ _ _).trans (bp λs _=>cz _ _)))
theorem QR(d:Nat){b x y c:Int}(h1:(bj br d).call 45 [G,.int b,.int c]=some (.int x))(h2:(bj br d).call 43 [G,.int x,.int c]=some (.int y)):(bj br (d+1)).call 46 [G,.int b,.int c]=some (.int y):=
 bq (F:=nE) (ρ:=[some (.sh G),iT b,iT c]) rfl rfl (.h_ret (.call (.cons (.var rfl) (.cons (.call (.cons (.var rfl) (.cons (.var rfl) (.cons (.var rfl) .nil))) h1) (.cons (.var rfl) .nil))) h2))
theorem PE(d:Nat){b x y c:Int}(h1:(bj br d).call 44 [G,.int b]=some (.int x))(h2:(bj br d).call 46 [G,.int x,.int c]=some (.int y)):(bj br (d+1)).call 47 [G,.int b,.int c]=some (.int y):=
 bq (F:=l8) (ρ:=[some (.sh G),iT b,iT c]) rfl rfl (.h_ret (.call (.cons (.var rfl) (.cons (.call (.cons (.var rfl) (.cons (.var rfl) .nil)) h1) (.cons (.var rfl) .nil))) h2))
theorem Q7(d:Nat){b x y c:Int}(h1:(bj br d).call 44 [G,.int b]=some (.int x))(h2:(bj br d).call 43 [G,.int x,.int c]=some (.int y)):(bj br (d+1)).call 48 [G,.int b,.int c]=some (.int y):=
 bq (F:=kt) (ρ:=[some (.sh G),iT b,iT c]) rfl rfl (.h_ret (.call (.cons (.var rfl) (.cons (.call (.cons (.var rfl) (.cons (.var rfl) .nil)) h1) (.cons (.var rfl) .nil))) h2))
theorem EG:([3,4].all λf=>[4,5].all λr=>((vP f r (E6 f r) 8 49 [.c 5,.bb 2,.bb 2,.c 1]).bind (JD (f*r))).isSome)=true:=by decide+kernel
theorem sD(hw:w.Ok)(d:Nat){c:Nat}(hc:c<=1)(a:Int):∃F:T,(bj br (d+14)).call 50 [w.posT a,.int (c:Nat)]=some F/\bV 10 (.sh F)=some (.sh (.int (bI w.n (w.pasP c)))):=by
 have hs:=hw.shape
 have hG:=jB w.f w.r
 have hp:=kP w a
 have hk:=bE 1 c
 have pwR:∀c,R w (.bb 2) (.int (bI w.n (w.men c 1))) (.int (bI w.n λs=>w.men c 1 (w.sg s))):=λc=>QD (k:=2) λs _ h=>(cD h).2
 have gR:R w (.c 5) (eE w.f w.r) (eE w.f w.r):=⟨rfl,rfl⟩
 obtain ⟨x,y,c1,_,CD,e,_⟩:=qu (lL hw (rx hw d) 8) (aM gR (aM (pwR c) (aM (pwR (1 - c)) (aM (EP hc) dS)))) (ax.mp (ax.mp EG w.f hs.mem.1) w.r hs.mem.2) λt x y h=>C1 h
 subst e
 have sp:=λ(d:Nat) (Q:Nat->Bool) (c:Nat) (hc:c<=1)=>QR (G:=eE w.f w.r) (d+1) (hJ d hs hG hc Q) (fg d hs hG _ hc)
 have foe:=sx (d+12) hp hk
 have sf:=sp (d+11) (w.men (1 - c) 1) (1 - c) hk
 have so:=sp (d+11) (w.men c 1) (1 - c) hk
 have as:=PE (G:=eE w.f w.r) (d+12) (iu (d+11) hs hG (w.men (1 - c) 1)) (sp (d+10) (Fs w.f w.n (w.men (1 - c) 1)) (1 - c) hk)
 have pa:=Q7 (G:=eE w.f w.r) (d+12) (iu (d+11) hs hG (w.men (1 - c) 1)) (fg (d+11) hs hG _ hk)
 have shh:=fg (d+12) hs hG (λs=>w.men (1 - c) 1 s||NO (w.f*w.r) w.f (1 - c) (Fs w.f (w.f*w.r) (w.men (1 - c) 1)) s) hk
 rw [<-zY hc]at foe so sf as pa shh
 have a4:=dJ w.n (w.men c 1) (A3 w.f w.r (1 - c) (w.men c 1))
 have a7:=dJ w.n (w.men c 1) (A3 w.f w.r (1 - c) (w.men (1 - c) 1))
 have r:=Pc (p:=w.posT a) (G:=eE w.f w.r) (d+12) (c:=(c:Nat)) hp.geo (sx (d+12) hp hc) foe (iu (d+12) hs hG (w.men c 1)) (fg (d+12) hs hG _ hc) (sp (d+11) _ c hc) (hJ (d+12) hs hG (c:=0) (aE 1) _) (hJ (d+12) hs hG (c:=1) (aA 1) _) so (hJ (d+12) hs hG hc _) pa (ec w.n _ _▸shh) sf as (b8 (mS (d+12)) c1) rfl a4 rfl rfl a7 rfl rfl
 refine ⟨_,r,?_⟩
 show some (O.sh (T.int (aj (aj (aj (bI w.n (w.men c 1)) (nI w.n _)) (nI w.n _)) (nI w.n _))))=_
 rw [iO,iO,iO]
 rfl
end
end
section
theorem Ex.augIf{c:d5}{S:Int->b6}{q:X}{i:Nat}{x k:Int}{P:Bool}(h:Ts c (S x) q P)(h1:get (S x) i=some (.sh (.int x)))(h2:fO (S x) i (.sh (.int (x+k)))=S (x+k)):Ex c (S x) (.iff q (.seq (.aug i .add (.lit (.int k))) .skip) .skip) (S (x+if P then k else 0)):=by
 cases P
 ·rw [if_neg (by decide),bQ];exact .iff_f h .skip
 ·exact .iff_t h (.seq (h2▸.aug h1 .lit rfl) .skip)
noncomputable def TP(w:Bd)(k s:Nat):Bool:=w.kindP 1 s&&decide (s%w.f<k)
noncomputable def TQ(w:Bd)(k s:Nat):Bool:=w.kindP 1 s&&decide (w.f - 1 - s%w.f<k)
noncomputable def lR(x:Int):Int:=if x<0 then -x else x
noncomputable def tR(f r wk bk:Nat)(np pc:Int)(wings bare:Bool):Int:=
 9*pc+12*np+9*(lR ((wk%f:Nat) -(bk%f:Nat))+(wk/f:Nat) -(bk/f:Nat)) - 110+(if wings then 21 else if lR ((wk%f:Nat) -(bk%f:Nat))+(wk/f:Nat) -(bk/f:Nat)<0 then -43 else 0)+
  (if r<=2*(wk/f)\/r<=2*(r - 1 - bk/f)then 24 else 0)+(if bare then 51 else 0)
noncomputable def Bd.low(w:Bd)(s:Nat):Bool:=w.kindP 1 s&&decide (s%w.f<w.f/2)
noncomputable def Bd.high(w:Bd)(s:Nat):Bool:=w.kindP 1 s&&decide (w.f - 1 - s%w.f<w.f/2)
noncomputable def Bd.wings(w:Bd):Bool:= !(cnt w.n w.low==0)&& !(cnt w.n w.high==0)
noncomputable def Bd.bare(w:Bd):Bool:=cnt w.n (w.kindP 1)+2==cnt w.n w.occP
noncomputable def Bd.drive(w:Bd)(wk bk:Nat):Int:=tR w.f w.r wk bk (cnt w.n (w.kindP 1):Nat) ((cnt w.n (w.pasP 0)+cnt w.n (w.pasP 1):Nat):Int) w.wings w.bare
section
variable{p G F0 F1:T}{w:Bd}
theorem Ro(d:Nat){c A B C K:Int}{M N:T}(h1:bV 30 (.sh p)=some (.sh M))(h2:bV 29 (.sh p)=some (.sh N))(h3:b4 c (.sh M)=some (.sh (.int A)))(h4:b4 6 (.sh N)=some (.sh (.int B)))(h5:aj A B=C)(h6:(bj br d).call 3 [.int C]=some (.int K)):
  (bj br (d+1)).call 20 [p,.int c]=some (.int K):=
 bq (F:=lZ) (ρ:=[some (.sh p),iT c]) rfl rfl (.h_ret (.call (.cons (.bin (.idx (.attr (.var rfl) h1) (.var rfl) h3) (.idx (.attr (.var rfl) h2) .glob h4) (sN h5)) .nil) h6))
theorem h_{α β:Type}[BEq α][LawfulBEq α][BEq β][LawfulBEq β]{a b:α}{c d:β}(h:a=b↔c=d):(a==b)=(c==d):=fF.mpr (beq_iff_eq.trans (h.trans beq_iff_eq.symm))
theorem vq(hw:w.Ok)(d:Nat)(hp:Fa p w){c k:Nat}(hc:c<=1)(hk:k<w.n)(h:∀s,s<w.n->(w.b s=6+8*c↔s=k)):(bj br (d+3)).call 20 [p,.int c]=some (.int (k:Nat)):=
 Ro (d+2) hp.sides hp.kinds (dZ w hc) (gu w (k:=6) (by decide) (by decide)) (dJ _ _ _) ((bp (n:=w.n) λs hs=>(tN hw hc (by decide) (by decide) hs).trans (h_ (h s hs)))▸kF d w.n k hk hw.shape.n_le)
theorem TD(d:Nat){A B C:Int}{M:T}(h1:bV 30 (.sh p)=some (.sh M))(h3:b4 0 (.sh M)=some (.sh (.int A)))(h4:b4 1 (.sh M)=some (.sh (.int B)))(h5:av A B=C):(bj br (d+1)).call 18 [p]=some (.int C):=
 bq (F:=rV) (ρ:=[some (.sh p)]) rfl rfl (.h_ret (.bin (.idx (.attr (.var rfl) h1) .glob h3) (.idx (.attr (.var rfl) h1) .glob h4) (congrArg (λk=>some (T.int k)) h5)))
@[reducible] noncomputable def qL(p G:T)(wk bk rw rb pw l0 l1:Int)(a b c d:Option O):b6:=[some (.sh p),some (.sh G),iT wk,iT bk,iT rw,iT rb,iT pw,some (.lst [.sh (.int l0),.sh (.int l1)]),a,b,c,d]
@[reducible] noncomputable def A9:S:= .seq (.augI (.var 7) (.lit (.int 0)) .or (.bin .and (.var 6) (.idx (.attr (.var 1) 15) (.var 8)))) (.seq (.augI (.var 7) (.lit (.int 1)) .or (.bin .and (.var 6) (.idx (.attr (.var 1) 15) (.bin .sub (.bin .sub (.attr (.var 1) 1) (.lit (.int 1))) (.var 8))))) .skip)
theorem JJ(o:d5){f:Int}{M:T}{wk bk rw rb pw l0 l1 k m0 m1 l0' l1':Int}{b c d:Option O}(hf:bV 1 (.sh G)=some (.sh (.int f)))(hM:bV 15 (.sh G)=some (.sh M))(h0:b4 k (.sh M)=some (.sh (.int m0)))(h1:b4 (f - 1 - k) (.sh M)=some (.sh (.int m1)))
  (e0:av l0 (aj pw m0)=l0') (e1:av l1 (aj pw m1)=l1'):Ex o (qL p G wk bk rw rb pw l0 l1 (iT k) b c d) A9 (qL p G wk bk rw rb pw l0' l1' (iT k) b c d):=by
 subst e0 e1
 exact .seq (ρ1:=qL p G wk bk rw rb pw (av l0 (aj pw m0)) l1 (iT k) b c d) (.augI (j:=0) (m:=[.sh (.int l0),.sh (.int l1)]) rfl .lit rfl (.bin (.var rfl) (.idx (.attr (.var rfl) hM) (.var rfl) h0) rfl) rfl rfl)
  (.seq (.augI (j:=1) (m:=[.sh (.int (av l0 (aj pw m0))),.sh (.int l1)]) rfl .lit rfl (.bin (.var rfl) (.idx (.attr (.var rfl) hM) (.bin (.bin (.attr (.var rfl) hf) .lit rfl) (.var rfl) rfl) h1) rfl) rfl rfl) .skip)
theorem NW:∀f∈[3,4],∀x<f,∀k<f,(decide (x<k)||x==k)=decide (x<k+1)/\(decide (f - 1 - x<k)||x==f - 1 - k)=decide (f - 1 - x<k+1):=by decide
theorem ML(n:Nat)(P A F B:Nat->Bool)(h:∀s,s<n->(A s||F s)=B s):av (bI n λs=>P s&&A s) (aj (bI n P) (bI n F))=bI n λs=>P s&&B s:=by
 rw [dJ,ec];exact bp λs hs=>by rw [<-xT,h s hs]
theorem B4(o:d5)(hw:w.Ok){G:T}(hG:qg G w.f w.r){wk bk rw rb:Int}{b c d:Option O}:∀(m j:Nat) (a:Option O),j+m<=w.f->
  ∃x,FL o A9 [8] ((gX j m).map λi=>T.int (i:Nat)) (qL p G wk bk rw rb (bI w.n (w.kindP 1)) (bI w.n (TP w j)) (bI w.n (TQ w j)) a b c d) (qL p G wk bk rw rb (bI w.n (w.kindP 1)) (bI w.n (TP w (j+m))) (bI w.n (TQ w (j+m))) x b c d)
 | 0,j,a,_=>⟨a,.nil⟩
 | m+1,j,a,h=>by
  have hj:j<w.f:=bR (ke (eY m)) h
  have h6:w.f<1000000:=(show ∀f∈[3,4],f<1000000 by decide) _ hw.shape.mem.1
  have t2:=cy (g:=λj=>bT w.f w.r (j8 w.f j)) (n:=w.f) (s:=w.f - 1 - j) (aC (bE _ j) (xS hw.shape.fpos uB)) h6
  rw [show ((w.f - 1 - j:Nat):Int)=(w.f:Int) - 1 - j by rw [dD (cx hj),dD hw.shape.fpos];rfl]at t2
  have tb:=λs=>NW w.f hw.shape.mem.1 _ (d_ s hw.shape.fpos) j hj
  obtain ⟨x,e2⟩:=B4 o hw hG (wk:=wk) (bk:=bk) (rw:=rw) (rb:=rb) (b:=b) (c:=c) (d:=d) m (j+1) (iT (j:Nat)) (by rw [je];exact h)
  rw [je]at e2
  exact ⟨x,.cons (ρ1:=qL p G wk bk rw rb (bI w.n (w.kindP 1)) (bI w.n (TP w j)) (bI w.n (TQ w j)) (iT (j:Nat)) b c d) rfl (JJ o hG.files hG.fmasks (cy (g:=λj=>bT w.f w.r (j8 w.f j)) hj h6) t2 (ML _ _ _ _ _ λs _=>(tb s).1) (ML _ _ _ _ _ λs _=>(tb s).2)) e2⟩
noncomputable def zV(a b:Bool)(far:Int):Int:=if (a&&b)=true then 21 else if far<0 then -43 else 0
theorem Dj{c:d5}{S:Int->b6}{q:X}{i j:Nat}{far v:Int}{a b:Bool}(g9:get (S v) j=some (.sh (.int far)))(g11:get (S v) i=some (.sh (.int v)))(hp:∀k,fO (S v) i (.sh (.int k))=S k)(h:Ts c (S v) q (a&&b)):
  Ex c (S v) (.iff q (.seq (.aug i .add (.lit (.int 21))) .skip) (.seq (.iff (.cmp .lt (.var j) (.lit (.int 0))) (.seq (.aug i .sub (.lit (.int 43))) .skip) .skip) .skip)) (S (v+zV a b far)):=by
 unfold zV
 refine .iffB h (λe=> ?_) λe=> ?_
 ·rw [if_pos e,<-hp (v+21)];exact .seq (.aug g11 .lit rfl) .skip
 ·rw [if_neg (cQ.mp e)]
  refine .seq (.iffB (p:=decide (far<0)) (.cmp (.var g9) .lit rfl) (λe=> ?_) λe=> ?_) .skip
  ·rw [if_pos (of_decide_eq_true e),<-hp (v+ -43)];exact .seq (.aug g11 .lit rfl) .skip
  ·rw [if_neg (of_decide_eq_false e),bQ];exact .skip
theorem UO(d:Nat){f r wk bk fw fb mw mb pw hf l0 l1 P0 P1 c0 c1 np OC K OK hr:Int}{M:T}(hG:bV 2 (.sh p)=some (.sh G))(hF:bV 1 (.sh G)=some (.sh (.int f)))(hR:bV 21 (.sh G)=some (.sh (.int r)))
  (k0:(bj br d).call 20 [p,.int 0]=some (.int wk)) (k1:(bj br d).call 20 [p,.int 1]=some (.int bk)) (d0:bK .fdv (.int wk) (.int f)=some (.int fw)) (d1:bK .fdv (.int bk) (.int f)=some (.int fb)) (n0:bK .mod (.int wk) (.int f)=some (.int mw)) (n1:bK .mod (.int bk) (.int f)=some (.int mb))
  (hM:bV 29 (.sh p)=some (.sh M)) (hpw:b4 1 (.sh M)=some (.sh (.int pw))) (hkk:b4 6 (.sh M)=some (.sh (.int K))) (hf2:bK .fdv (.int f) (.int 2)=some (.int hf)) {lst:List T} (hrn:qI .range [.int hf]=some (.rng 0 hf 1)) (hrng:dg (.rng 0 hf 1)=some lst)
  {x:Option O} (hloop:FL (bj br d) A9 [8] lst (qL p G wk bk fw (r - 1 - fb) pw 0 0 none none none none) (qL p G wk bk fw (r - 1 - fb) pw l0 l1 x none none none))
  (p0:(bj br d).call 50 [p,.int 0]=some F0) (p1:(bj br d).call 50 [p,.int 1]=some F1) (q0:bV 10 (.sh F0)=some (.sh (.int P0))) (q1:bV 10 (.sh F1)=some (.sh (.int P1))) (s0:(bj br d).call 0 [.int P0]=some (.int c0)) (s1:(bj br d).call 0 [.int P1]=some (.int c1)) (s2:(bj br d).call 0 [.int pw]=some (.int np))
  (oc:(bj br d).call 18 [p]=some (.int OC)) (ok:av pw K=OK) (hr2:bK .fdv (.int (r+1)) (.int 2)=some (.int hr)):
  (bj br (d+1)).call 106 [p]=some (.int (9*(c0+c1)+12*np+9*(lR (mw - mb)+fw+(r - 1 - fb) - r+1) - 110+zV (!(l0==0)) (!(l1==0)) (lR (mw - mb)+fw+(r - 1 - fb) - r+1)+(if decide (hr<=max fw (r - 1 - fb))then 24 else 0)+(if (OC==OK)=true then 51 else 0))):=by
 have mu:∀(a b:Int),small a=true->bK .mul (.int a) (.int b)=some (.int (a*b)):=λa b h=>lC (fB (.inl h))
 have ti:∀i:Int,bx (.int i)=some (!(i==0)):=λ_=>rfl
 refine bq (F:=nF) (ρ:=[some (.sh p),none,none,none,none,none,none,none,none,none,none,none]) rfl rfl
  (.next (.asg (.attr (.var rfl) hG)) (.next (.asg (.call (.cons (.var rfl) (.cons .glob .nil)) k0)) (.next (.asg (.call (.cons (.var rfl) (.cons .glob .nil)) k1)) (.next (.asg (.bin (.var rfl) (.attr (.var rfl) hF) d0)) (.next (.asg (.bin (.bin (.attr (.var rfl) hR) .lit rfl) (.bin (.var rfl) (.attr (.var rfl) hF) d1) rfl)) (.next (.asg (.idx (.attr (.var rfl) hM) .glob hpw))
  (.next (ρ1:=qL p G wk bk fw (r - 1 - fb) pw 0 0 none none none none) (.asgO rfl)
  (.next (.forr (.bi (.cons (.bin (.attr (.var rfl) hF) .lit hf2) .nil) hrn) hrng hloop) ?_))))))))
 refine .next (ρ1:=qL p G wk bk fw (r - 1 - fb) pw l0 l1 x (iT (lR (mw - mb)+fw+(r - 1 - fb) - r+1)) none none) (.asg (.bin (.bin (.bin (.bin (.bi (.cons (.bin (.bin (.var rfl) (.attr (.var rfl) hF) n0) (.bin (.var rfl) (.attr (.var rfl) hF) n1) rfl) .nil) rfl) (.var rfl) rfl) (.var rfl) rfl) (.attr (.var rfl) hR) rfl) .lit rfl)) ?_
 generalize lR (mw - mb)+fw+(r - 1 - fb) - r+1=far
 refine .next (.asg (.bin (.call (.cons (.attr (.call (.cons (.var rfl) (.cons .glob .nil)) p0) q0) .nil) s0) (.call (.cons (.attr (.call (.cons (.var rfl) (.cons .glob .nil)) p1) q1) .nil) s1) rfl))
  (.next (ρ1:=qL p G wk bk fw (r - 1 - fb) pw l0 l1 x (iT far) (iT (c0+c1)) (iT (9*(c0+c1)+12*np+9*far - 110))) (.asg (.bin (.bin (.bin (.bin .lit (.var rfl) (mu 9 _ rfl)) (.bin .lit (.call (.cons (.var rfl) .nil) s2) (mu 12 _ rfl)) rfl) (.bin .lit (.var rfl) (mu 9 _ rfl)) rfl) .lit rfl)) ?_)
 generalize 9*(c0+c1)+12*np+9*far - 110=v1
 refine .next (Dj (S:=λv=>qL p G wk bk fw (r - 1 - fb) pw l0 l1 x (iT far) (iT (c0+c1)) (iT v)) rfl rfl (λ_=>rfl) (.and (.idx (.var rfl) .lit rfl (ti _)) (.idx (.var rfl) .lit rfl (ti _)))) ?_
 generalize v1+zV (!(l0==0)) (!(l1==0)) far=v2
 refine .next (.augIf (S:=λv=>qL p G wk bk fw (r - 1 - fb) pw l0 l1 x (iT far) (iT (c0+c1)) (iT v)) (P:=decide (hr<=max fw (r - 1 - fb))) (.cmp (.bi (.cons (.var rfl) (.cons (.var rfl) .nil)) (nj ..)) (.bin (.bin (.attr (.var rfl) hR) .lit rfl) .lit hr2) rfl) rfl rfl) ?_
 generalize v2+(if decide (hr<=max fw (r - 1 - fb))=true then 24 else 0)=v3
 exact .next (.augIf (S:=λv=>qL p G wk bk fw (r - 1 - fb) pw l0 l1 x (iT far) (iT (c0+c1)) (iT v)) (P:=OC==OK) (.cmp (.call (.cons (.var rfl) .nil) oc) (.bin (.var rfl) (.idx (.attr (.var rfl) hM) .glob hkk) (congrArg (λk=>some (T.int k)) ok)) rfl) rfl rfl) (.h_ret (.var rfl))
end
theorem xD(n:Nat)(P:Nat->Bool):(bI n P==0)=(cnt n P==0):=h_ (cP.trans eJ.symm)
theorem He{n:Nat}{P Q:Nat->Bool}(h:∀s,s<n->P s=true->Q s=true)(e:cnt n P=cnt n Q):∀s,s<n->P s=Q s:=by
 have a:=lh n Q P
 rw [cZ (P:=λs=>Q s&&P s) (Q:=P) λs hs=>(show ∀p q:Bool,(p=true->q=true)->(q&&p)=p by decide) _ _ (h s hs),e]at a
 exact λs hs=>(show ∀p q:Bool,(p=true->q=true)->(q&& !p)=false->p=q by decide) _ _ (h s hs) (eJ.mp (Nat.add_left_cancel (n:=cnt n Q) a.symm) s hs)
theorem xA{n:Nat}{P Q:Nat->Bool}(h:∀s,s<n->P s=true->Q s=false):cnt n (λs=>P s||Q s)=cnt n P+cnt n Q:=by
 rw [lh n (λs=>P s||Q s) P,cZ (P:=λs=>(P s||Q s)&&P s) (Q:=P) λs _=>(show ∀p q:Bool,((p||q)&&p)=p by decide) _ _,cZ (P:=λs=>(P s||Q s)&& !P s) (Q:=Q) λs hs=>(show ∀p q:Bool,(p=true->q=false)->((p||q)&& !p)=q by decide) _ _ (h s hs)]
section
variable{w:Bd}
theorem qQ(hw:w.Ok){s:Nat}(hs:s<w.n):w.b s<16:=(hU (hw.pc s hs)).1
theorem Ed(hw:w.Ok){s:Nat}(hs:s<w.n):(w.sideP 0 s||w.sideP 1 s)=w.occP s:=(show ∀p<16,((!(p==0)&&p/8==0)||(!(p==0)&&p/8==1))= !(p==0) by decide) _ (qQ hw hs)
theorem Ek(hw:w.Ok):cnt w.n (w.kindP 6)=2:=by
 obtain ⟨a,ha,h0⟩:=hw.king 0 (aE 1)
 obtain ⟨b,hb,h1⟩:=hw.king 1 (aA 1)
 have ab:a≠b:=λe=>absurd (((h0 a ha).mpr rfl).symm.trans ((h1 a ha).mpr e)) (by decide)
 have e:cnt w.n (w.kindP 6)=cnt w.n (λs=>(s==a)||(s==b)):=cZ λs hs=>
  ((show ∀p<16,(p%8==6)=(p==6+8*0||p==6+8*1) by decide) _ (qQ hw hs)).trans (by rw [h_ (h0 s hs),h_ (h1 s hs)])
 rw [e,xA λs _ h=>beq_eq_false_iff_ne.mpr (beq_iff_eq.mp h▸ab),rH _ _ ha,rH _ _ hb]
theorem LW(hw:w.Ok):(bI w.n w.occP==bI w.n (λs=>w.kindP 1 s||w.kindP 6 s))=w.bare:=by
 have ho:cnt w.n (λs=>w.kindP 1 s||w.kindP 6 s)=cnt w.n (w.kindP 1)+2:=by
  rw [xA (P:=w.kindP 1) (Q:=w.kindP 6) λs _ h=>beq_eq_false_iff_ne.mpr λe=>absurd ((beq_iff_eq.mp h).symm.trans e) (by decide),Ek hw]
 have hsub:∀s,s<w.n->(w.kindP 1 s||w.kindP 6 s)=true->w.occP s=true:=λs _ h=>(or_t.mp h).elim (iD (by decide)) (iD (by decide))
 exact h_ ⟨λh=>ho.symm.trans (cZ λs hs=>(Iy h s hs).symm),λh=>bp λs hs=>(He hsub (ho.trans h) s hs).symm⟩
theorem Ci{f:Nat}(h:f=3\/f=4):qI .range [.int ((f/2:Nat):Int)]=some (.rng 0 ((f/2:Nat):Int) 1)/\dg (.rng 0 ((f/2:Nat):Int) 1)=some ((gX 0 (f/2)).map λi=>T.int (i:Nat)):=
 h.elim (λe=>by subst e;exact ⟨rfl,rfl⟩) λe=>by subst e;exact ⟨rfl,rfl⟩
theorem Gf:∀r∈[4,5],∀x<r,∀y<r,decide ((((r+1)/2:Nat):Int)<=max (x:Int) ((r:Int) - 1 -(y:Int)))=decide (r<=2*x\/r<=2*(r - 1 - y)):=by decide
theorem jJ(P:Prop)[Decidable P](a b:Int):(if decide P then a else b)=if P then a else b:=by
 by_cases h:P
 ·rw [if_pos h,if_pos (decide_eq_true h)]
 ·rw [if_neg h,if_neg λe=>h (of_decide_eq_true e)]
theorem Pb(a x r y:Int):a+x+(r - 1 - y) - r+1=a+x - y:=by omega
theorem qB(hw:w.Ok)(d:Nat)(a:Int){wk bk:Nat}(hwk:wk<w.n)(hbk:bk<w.n)(h0:∀s,s<w.n->(w.b s=6↔s=wk))(h1:∀s,s<w.n->(w.b s=14↔s=bk)):
  (bj br (d+15)).call 106 [w.posT a]=some (.int (w.drive wk bk)):=by
 have hs:=hw.shape
 have hG:=jB w.f w.r
 have hp:=kP w a
 have hn:w.n<1000:=FA hs
 obtain ⟨F0,p0,q0⟩:=sD hw d (c:=0) (aE 1) a
 obtain ⟨F1,p1,q1⟩:=sD hw d (c:=1) (aA 1) a
 have fdv:∀s:Nat,bK .fdv (.int (s:Nat)) (.int (w.f:Int))=some (.int ((s/w.f:Nat):Int)):=λs=>by rw [dH (EZ hs),gJ]
 have md:∀s:Nat,bK .mod (.int (s:Nat)) (.int (w.f:Int))=some (.int ((s%w.f:Nat):Int)):=λs=>by rw [g6 (NA hs),kX]
 have f2:bK .fdv (.int (w.f:Int)) (.int 2)=some (.int ((w.f/2:Nat):Int)):=(dH (by decide)).trans (congrArg (λx=>some (T.int x)) (gJ w.f 2))
 have r2:bK .fdv (.int ((w.r:Int)+1)) (.int 2)=some (.int (((w.r+1)/2:Nat):Int)):=(dH (by decide)).trans (congrArg (λx=>some (T.int x)) (gJ (w.r+1) 2))
 have z0:bI w.n (TP w 0)=0:=(bp λs _=>bP _).trans (fq w.n)
 have z1:bI w.n (TQ w 0)=0:=(bp λs _=>bP _).trans (fq w.n)
 obtain ⟨x,hl⟩:=B4 (p:=w.posT a) (bj br (d+14)) hw hG (wk:=wk) (bk:=bk) (rw:=((wk/w.f:Nat):Int)) (rb:=(w.r:Int) - 1 -((bk/w.f:Nat):Int)) (b:=none) (c:=none) (d:=none) (w.f/2) 0 none (by rw [gw];exact Nat.div_le_self ..)
 rw [z0,z1,gw]at hl
 have r:=UO (p:=w.posT a) (G:=eE w.f w.r) (d+14) hp.geo hG.files hG.ranks (vq hw (d+11) hp (c:=0) (aE 1) hwk h0) (vq hw (d+11) hp (c:=1) (aA 1) hbk h1) (fdv wk) (fdv bk) (md wk) (md bk) hp.kinds (gu w (k:=1) (by decide) (by decide)) (gu w (k:=6) (by decide) (by decide))
  f2 (Ci hs.1).1 (Ci hs.1).2 hl p0 p1 q0 q1 (da (d+13) _ _ hn) (da (d+13) _ _ hn) (da (d+13) _ _ hn) (TD (d+13) hp.sides (dZ w (c:=0) (aE 1)) (dZ w (c:=1) (aA 1)) (ec _ _ _)) (ec _ _ _) r2
 rw [r,show (bI w.n λs=>w.sideP 0 s||w.sideP 1 s)=bI w.n w.occP from bp λs hs=>Ed hw hs,LW hw,xD,xD]
 unfold Bd.drive tR
 rw [Gf w.r hs.mem.2 _ (aH hwk) _ (aH hbk),Pb]
 unfold zV Bd.wings
 exact congrArg (λk=>some (T.int (k+_))) (congrArg (_+ ·) (jJ ..))
end
end
section
noncomputable def iK(g:Nat->Int):Int:=g 2*781+g 3*825+g 4*1276+g 5*2538
theorem qd(a b:Int)(h:small b=true):bK .mul (.int a) (.int b)=some (.int (a*b)):=lC (fB (.inr h))
theorem qK(a b:Int)(h:small a=true):bK .mul (.int a) (.int b)=some (.int (a*b)):=lC (fB (.inl h))
theorem jM(d:Nat)(g:Nat->Int):(bj br (d+1)).call 78 [oV g,.int 2]=some (.int (iK g)):=by
 have i2:b4 2 (.sh (oV g))=some (.sh (.int (g 2))):=rfl
 have i3:b4 3 (.sh (oV g))=some (.sh (.int (g 3))):=rfl
 have i4:b4 4 (.sh (oV g))=some (.sh (.int (g 4))):=rfl
 have i5:b4 5 (.sh (oV g))=some (.sh (.int (g 5))):=rfl
 unfold iK
 rw [<-de (g 2*781)]
 generalize oV g=rr at*
 exact bq (F:=rQ) (ρ:=[some (.sh rr),iT 2,none,none]) rfl rfl (.next (.asg .lit) (.next (.forr (.bi (.cons (.var rfl) (.cons (.bin .glob .lit rfl) .nil)) rfl) (l:=[.int 2,.int 3,.int 4,.int 5]) rfl
  (.cons (ρ1:=[some (.sh rr),iT 2,iT 0,iT 2]) rfl (.seq (.aug rfl (.bin (.idx (.var rfl) (.var rfl) i2) (.idx (.idx .glob (.var rfl) rfl) .lit rfl) (qd _ 781 rfl)) rfl) .skip)
  (.cons (ρ1:=[some (.sh rr),iT 2,iT (0+g 2*781),iT 3]) rfl (.seq (.aug rfl (.bin (.idx (.var rfl) (.var rfl) i3) (.idx (.idx .glob (.var rfl) rfl) .lit rfl) (qd _ 825 rfl)) rfl) .skip)
  (.cons (ρ1:=[some (.sh rr),iT 2,iT (0+g 2*781+g 3*825),iT 4]) rfl (.seq (.aug rfl (.bin (.idx (.var rfl) (.var rfl) i4) (.idx (.idx .glob (.var rfl) rfl) .lit rfl) (qd _ 1276 rfl)) rfl) .skip)
  (.cons (ρ1:=[some (.sh rr),iT 2,iT (0+g 2*781+g 3*825+g 4*1276),iT 5]) rfl (.seq (.aug rfl (.bin (.idx (.var rfl) (.var rfl) i5) (.idx (.idx .glob (.var rfl) rfl) .lit rfl) (qd _ 2538 rfl)) rfl) .skip) .nil))))) (.h_ret (.var rfl))))
noncomputable def jA(n:Nat):Int:=(3915*(n:Int)).fdiv 64
noncomputable def my(n:Nat):Int:=(15258*(n:Int)).fdiv 64
noncomputable def tK(n:Nat)(W:Int):Int:=((min (max W (jA n)) (my n) - jA n)*128).fdiv (my n - jA n)
theorem Q5:∀n,n<21->1<=n->0<my n - jA n/\my n - jA n<10000/\0<=jA n/\my n<10000:=by decide
theorem HW:∀n,n<21->1<=n->(my n - jA n==0|| !small (my n - jA n))=false:=by decide
theorem D_{n:Nat}(h1:1<=n)(h2:n<=20)(W:Int):0<=tK n W/\tK n W<=128:=by
 have hb:=(Q5 n (aU h2) h1).1
 unfold tK
 have h3:0<=min (max W (jA n)) (my n) - jA n:=gW (qE.mpr ⟨dj ..,bv (Int.lt_of_sub_pos hb)⟩)
 have h4:min (max W (jA n)) (my n) - jA n<=my n - jA n:=Fm (di ..) _
 rw [bO _ (bv hb)]
 have h5:(min (max W (jA n)) (my n) - jA n)*128<=128*(my n - jA n):=by rw [qU];exact gV h4 (by decide)
 exact ⟨vM (mQ h3 (by decide)) (bv hb),DQ hb h5⟩
theorem Oy(d:Nat){p G r0 r1:T}{n:Nat}{w0 w1:Int}(h1:1<=n)(h2:n<=20)(hG:bV 2 (.sh p)=some (.sh G))(hn:bV 22 (.sh G)=some (.sh (.int (n:Nat))))(hc:(bj br d).call 77 [p]=some (.list [r0,r1]))(k0:(bj br d).call 78 [r0,.int 2]=some (.int w0))(k1:(bj br d).call 78 [r1,.int 2]=some (.int w1)):
  (bj br (d+1)).call 79 [p]=some (.int (tK n (w0+w1))):=
 bq (F:=rR) (ρ:=[some (.sh p),none,none,none,none]) rfl rfl (.next (.asg (.call (.cons (.var rfl) .nil) hc)) (.next (.asg (.bin (.bin .glob (.attr (.attr (.var rfl) hG) hn) (qK 3915 _ rfl)) .glob (dH rfl))) (.next (.asg (.bin (.bin .glob (.attr (.attr (.var rfl) hG) hn) (qK 15258 _ rfl)) .glob (dH rfl)))
  (.next (.asg (.bin (.call (.cons (.idx (.var rfl) .glob rfl) (.cons .glob .nil)) k0) (.call (.cons (.idx (.var rfl) .glob rfl) (.cons .glob .nil)) k1) rfl)) (.next (ρ1:=[some (.sh p),some (.sh (.list [r0,r1])),iT (jA n),iT (my n),iT (min (max (w0+w1) (jA n)) (my n))]) (.asg (.bi (.cons (.bi (.cons (.var rfl) (.cons (.var rfl) .nil)) (nj ..)) (.cons (.var rfl) .nil)) (iN ..)))
  (.h_ret (.bin (.bin (.bin (.var rfl) (.var rfl) rfl) .glob (qd _ 128 rfl)) (.bin (.var rfl) (.var rfl) rfl) (dH (HW n (aU h2) h1)))))))))
noncomputable def xn(np wo wf cs:Int)(opp:Bool):Int:=
 if np=0/\wo - wf<=825 then (if wo<1276 then 0 else if wf<=825 then 4 else 14)
 else if opp then (if wo=825/\wf=825 then min 64 (18+4*np)else min 64 (22+3*cs))else min 64 (36+7*np)
section
variable{c:d5}{ρ:b6}{q e q':X}{s r:S}{x y:Int}{P Q:Prop}[Decidable P][Decidable Q]
theorem n5.iffI(h:Ts c ρ q (decide P))(k1:n5 c ρ s (.int x))(k2:n5 c ρ r (.int y)):n5 c ρ (.seq (.iff q s .skip) r) (.int (if P then x else y)):=(oL (P:=P) x y)▸n5.iffD h (λ_=>k1) λ_=>k2
theorem dO.iteI(h:Ts c ρ q (decide P))(k1:dO c ρ e (.sh (.int x)))(k2:dO c ρ q' (.sh (.int y))):dO c ρ (.ite q e q') (.sh (.int (if P then x else y))):=by
 by_cases e:P
 ·rw [if_pos e];exact .ite_t (decide_eq_true e▸h) k1
 ·rw [if_neg e];exact .ite_f (decide_eq_false e▸h) k2
theorem Ts.andD(h:Ts c ρ q (decide P))(k:Ts c ρ q' (decide Q)):Ts c ρ (.andd q q') (decide (P/\Q)):=Mm P Q▸Ts.and h k
theorem Ts.boolD{b:Bool}(h:Ts c ρ q b):Ts c ρ q (decide (b=true)):=by rw [Bool.decide_eq_true];exact h
end
theorem Om(d:Nat){p cs ro rf S:T}{st np wo wf sd nn:Int}{opp:Bool}(hc:(bj br d).call 77 [p]=some cs)(i0:b4 st (.sh cs)=some (.sh ro))(i1:b4 (1 - st) (.sh cs)=some (.sh rf))(k0:(bj br d).call 78 [ro,.int 2]=some (.int wo))(k1:(bj br d).call 78 [rf,.int 2]=some (.int wf))(hnp:b4 1 (.sh ro)=some (.sh (.int np)))
  (ho:(bj br d).call 82 [p]=some (.bool opp)) (hS:bV 30 (.sh p)=some (.sh S)) (hsd:b4 st (.sh S)=some (.sh (.int sd))) (hn:(bj br d).call 0 [.int sd]=some (.int nn)):
  (bj br (d+1)).call 83 [p,.int st]=some (.int (xn np wo wf nn opp)):=
 bq (F:=kq) (ρ:=[some (.sh p),iT st,none,none,none,none,none]) rfl rfl (.next (.asg (.call (.cons (.var rfl) .nil) hc)) (.next (.asg (.idx (.var rfl) (.var rfl) i0)) (.next (.asg (.call (.cons (.var rfl) (.cons .glob .nil)) k0)) (.next (.asg (.call (.cons (.idx (.var rfl) (.bin .lit (.var rfl) rfl) i1) (.cons .glob .nil)) k1))
  (.next (ρ1:=[some (.sh p),iT st,some (.sh cs),some (.sh ro),iT wo,iT wf,iT 825]) (.asg (.idx (.idx .glob .glob rfl) .lit rfl))
  (.iffI (.andD (.cmp (.idx (.var rfl) .glob hnp) .lit rfl) (.cmp (.bin (.var rfl) (.var rfl) rfl) (.var rfl) rfl)) (.iffI (.cmp (.var rfl) (.idx (.idx .glob .glob rfl) .lit rfl) rfl) (.h_ret .lit) (.h_ret (.iteI (.cmp (.var rfl) (.var rfl) rfl) .lit .lit)))
  (.iffI (.boolD (.call (.cons (.var rfl) .nil) ho rfl)) (.iffI (.andD (.cmp (.var rfl) (.var rfl) rfl) (.cmp (.var rfl) (.var rfl) rfl)) (.h_ret (.bi (.cons .glob (.cons (.bin .lit (.bin .lit (.idx (.var rfl) .glob hnp) (qK 4 _ rfl)) rfl) .nil)) (iN ..)))
   (.h_ret (.bi (.cons .glob (.cons (.bin .lit (.bin .lit (.call (.cons (.idx (.attr (.var rfl) hS) (.var rfl) hsd) .nil) hn) (qK 3 _ rfl)) rfl) .nil)) (iN ..))))
   (.h_ret (.bi (.cons .glob (.cons (.bin .lit (.bin .lit (.idx (.var rfl) .glob hnp) (qK 7 _ rfl)) rfl) .nil)) (iN ..))))))))))
end
section
noncomputable def d7(f s:Nat):Bool:=(s%f+s/f)%2==1
theorem AF:([3,4].all λf=>[4,5].all λr=>Uc ((bj br 2).call 81 [eE f r]) (bI (f*r) (d7 f)))=true:=by decide+kernel
theorem AU(d:Nat){f r:Nat}(hs:bX f r):(bj br (d+2)).call 81 [eE f r]=some (.int (bI (f*r) (d7 f))):=
 b8 (cw 2 d) (Ig (ax.mp (ax.mp AF f hs.mem.1) r hs.mem.2))
noncomputable def Bd.N(w:Bd)(c k:Nat):Int:=(cnt w.n (w.men c k):Nat)
noncomputable def Bd.opp(w:Bd):Bool:=(cnt w.n (w.men 0 3)==1)&&(cnt w.n (w.men 1 3)==1)&& !((cnt w.n (λs=>w.men 0 3 s&&d7 w.f s)==0)==(cnt w.n (λs=>w.men 1 3 s&&d7 w.f s)==0))
noncomputable def Bd.W(w:Bd)(c:Nat):Int:=iK (w.N c)
noncomputable def Bd.scale(w:Bd)(st:Nat):Int:=xn (w.N st 1) (w.W st) (w.W (1 - st)) (cnt w.n (w.sideP st):Nat) w.opp
noncomputable def Bd.phase(w:Bd):Int:=tK w.n (w.W 0+w.W 1)
noncomputable def Bd.val(w:Bd)(wk bk:Nat)(mg eg:Int):Int:=
 jg (gY mg (min (w.drive wk bk+50) 0)) (gY eg (w.drive wk bk)) w.phase (w.scale (if 0<gY eg (w.drive wk bk)then 0 else 1))
section
variable{w:Bd}{p:T}
theorem n5.iffBB{c:d5}{ρ:b6}{q:X}{s r:S}{b x y:Bool}(h:Ts c ρ q b)(k1:n5 c ρ s (.bool x))(k2:n5 c ρ r (.bool y)):n5 c ρ (.seq (.iff q s .skip) r) (.bool (if b then x else y)):=by
 cases b
 ·exact .skip_iff h k2
 ·exact .h_iff_t h k1
theorem Gw:∀a b c d:Bool,(if ((!a)||(!b))=true then false else !((!c)==(!d)))=(a&&b&& !(c==d)):=by decide
theorem TC(d:Nat){G M N:T}{B W0 W1 A0 A1 L x0 x1:Int}{n0 n1:Int}(hG:bV 2 (.sh p)=some (.sh G))(hM:bV 29 (.sh p)=some (.sh M))(hN:bV 30 (.sh p)=some (.sh N))(h3:b4 3 (.sh M)=some (.sh (.int B)))(s0:b4 0 (.sh N)=some (.sh (.int W0)))(s1:b4 1 (.sh N)=some (.sh (.int W1)))
  (e0:aj B W0=A0) (e1:aj B W1=A1) (c0:(bj br d).call 0 [.int A0]=some (.int n0)) (c1:(bj br d).call 0 [.int A1]=some (.int n1)) (hl:(bj br d).call 81 [G]=some (.int L)) (f0:aj A0 L=x0) (f1:aj A1 L=x1):
  (bj br (d+1)).call 82 [p]=some (.bool ((n0==1)&&(n1==1)&& !((x0==0)==(x1==0)))):=by
 rw [<-Gw]
 exact bq (F:=fE) (ρ:=[some (.sh p),none,none,none]) rfl rfl (.next (.asg (.bin (.idx (.attr (.var rfl) hM) .glob h3) (.idx (.attr (.var rfl) hN) .glob s0) (sN e0))) (.next (.asg (.bin (.idx (.attr (.var rfl) hM) .glob h3) (.idx (.attr (.var rfl) hN) .glob s1) (sN e1)))
  (.iffBB (.or (.cmp (.call (.cons (.var rfl) .nil) c0) .lit rfl) (.cmp (.call (.cons (.var rfl) .nil) c1) .lit rfl)) (.h_ret .lit) (.next (.asg (.call (.cons (.attr (.var rfl) hG) .nil) hl)) (.h_ret (.cmp (.cmp (.bin (.var rfl) (.var rfl) (sN f0)) .lit rfl) (.cmp (.bin (.var rfl) (.var rfl) (sN f1)) .lit rfl) rfl))))))
theorem Hm(d:Nat)(hs:bX w.f w.r)(a:Int):(bj br (d+3)).call 82 [w.posT a]=some (.bool w.opp):=by
 have hp:=kP w a
 have hn:w.n<1000:=FA hs
 have e:∀c,aj (bI w.n (w.kindP 3)) (bI w.n (w.sideP c))=bI w.n (w.men c 3):=λc=>(dJ ..).trans (bp λs _=>cz _ _)
 have c1:∀k:Nat,((k:Int)==1)=(k==1):=λk=>h_ (R_ (n:=1))
 refine (TC (d+2) hp.geo hp.kinds hp.sides (gu w (k:=3) (by decide) (by decide)) (dZ w (c:=0) (aE 1)) (dZ w (c:=1) (aA 1)) (e 0) (e 1) (da (d+1) _ _ hn) (da (d+1) _ _ hn) (AU d hs) (dJ _ _ _) (dJ _ _ _)).trans ?_
 rw [c1,c1,xD,xD];rfl
theorem I5(hs:bX w.f w.r):1<=w.f*w.r:=Nat.mul_pos hs.fpos ((show ∀r∈[4,5],0<r by decide) _ hs.mem.2)
theorem AT(d:Nat)(hs:bX w.f w.r)(a:Int):(bj br (d+4)).call 79 [w.posT a]=some (.int w.phase):=
 Oy (d+3) (I5 hs) hs.n_le (kP w a).geo (jB w.f w.r).size (eA d hs.n_le (kP w a)) (jM (d+2) _) (jM (d+2) _)
theorem Ch:∀{c:Nat},c<=1->b4 (c:Nat) (.sh (mj w))=some (.sh (oV (w.N c)))
 | 0,_=>rfl
 | 1,_=>rfl
theorem AS(d:Nat)(hs:bX w.f w.r)(a:Int){st:Nat}(hst:st<=1):(bj br (d+4)).call 83 [w.posT a,.int (st:Nat)]=some (.int (w.scale st)):=by
 have i1:=Ch (w:=w) (bE 1 st)
 rw [<-zY hst]at i1
 exact Om (d+3) (eA d hs.n_le (kP w a)) (Ch hst) i1 (jM (d+2) _) (jM (d+2) _) rfl (Hm d hs a) (kP w a).sides (dZ w hst) (da (d+2) _ _ (FA hs))
noncomputable def In(a b x:Int):Prop:=a<=x/\x<=b
theorem kL{P:Prop}[Decidable P]{a b x y:Int}(h1:P->In a b x)(h2:¬P->In a b y):In a b (if P then x else y):=by
 by_cases h:P
 ·rw [if_pos h];exact h1 h
 ·rw [if_neg h];exact h2 h
theorem In.c{a b k:Int}(h:(decide (a<=k)&&decide (k<=b))=true):In a b k:=⟨of_decide_eq_true (cD h).1,of_decide_eq_true (cD h).2⟩
theorem Bp{k x y:Int}(hk:0<=k)(h:0<=x)(h2:0<=y):In 0 64 (min 64 (x+k*y)):=⟨qE.mpr ⟨by decide,Int.add_nonneg h (mQ hk h2)⟩,fK ..⟩
theorem Gb(np wo wf cs:Int)(opp:Bool)(h1:0<=np)(h2:0<=cs):In 0 64 (xn np wo wf cs opp):=
 kL (λ_=>kL (λ_=> .c rfl) λ_=>kL (λ_=> .c rfl) λ_=> .c rfl) λ_=>kL (λ_=>kL (λ_=>Bp (by decide) (by decide) h1) λ_=>Bp (by decide) (by decide) h2) λ_=>Bp (by decide) (by decide) h1
theorem IU(st:Nat):In 0 64 (w.scale st):=Gb _ _ _ _ _ (au _) (au _)
theorem IV(hs:bX w.f w.r):In 0 128 w.phase:=D_ (I5 hs) hs.n_le _
theorem jp{a b k:Int}(h:In a b k)(ha: -1000000000000<a)(hb:b<1000000000000):small k=true:=n9 (bS ha h.1) (bC h.2 hb)
theorem Uz(d:Nat){mg eg D m1 e1 ph sc st v:Int}(hD:(bj br d).call 106 [p]=some (.int D))(h1:(bj br d).call 107 [.int mg,.int (min (D+50) 0)]=some (.int m1))(h2:(bj br d).call 107 [.int eg,.int D]=some (.int e1))(h3:(bj br d).call 79 [p]=some (.int ph))(h4:(bj br d).call 84 [.int e1]=some (.int st))(h5:(bj br d).call 83 [p,.int st]=some (.int sc))(h6:(bj br d).call 30 [.int m1,.int e1,.int ph,.int sc]=some (.int v)):
  (bj br (d+1)).call 108 [p,.int mg,.int eg]=some (.int v):=
 bq (F:=lU) (ρ:=[some (.sh p),iT mg,iT eg,none]) rfl rfl (.next (.asg (.call (.cons (.var rfl) .nil) hD)) (.next (.asg (.call (.cons (.var rfl) (.cons (.bi (.cons (.bin (.var rfl) .lit rfl) (.cons .lit .nil)) (iN ..)) .nil)) h1)) (.next (.asg (.call (.cons (.var rfl) (.cons (.var rfl) .nil)) h2)) (.h_ret (.call (.cons (.var rfl) (.cons (.var rfl) (.cons (.call (.cons (.var rfl) .nil) h3) (.cons (.call (.cons (.var rfl) (.cons (.call (.cons (.var rfl) .nil) h4) .nil)) h5) .nil)))) h6)))))
theorem Dr(hw:w.Ok)(d:Nat)(a:Int){wk bk:Nat}(hwk:wk<w.n)(hbk:bk<w.n)(h0:∀s,s<w.n->(w.b s=6↔s=wk))(h1:∀s,s<w.n->(w.b s=14↔s=bk))(mg eg:Int):(bj br (d+16)).call 108 [w.posT a,.int mg,.int eg]=some (.int (w.val wk bk mg eg)):=by
 have hs:=hw.shape
 have hph:=IV (w:=w) hs
 exact Uz (d+15) (qB hw d a hwk hbk h0 h1) (sy (d+14) _ _) (sy (d+14) _ _) (AT (d+11) hs a) (yf (d+14) _) (AS (d+11) hs a (by split<;>decide))
  (AQ (d+13) (jp hph (by decide) (by decide)) (jp (IU _) (by decide) (by decide)) (jp (a:=0) (b:=128) ⟨gW hph.2,vK _ hph.1⟩ (by decide) (by decide)))
theorem wK{n b m:Int}(hb:0<b)(h:In (-(m*b)) (m*b) n):In (-m) m (sM n b):=by
 have key:∀x:Int,0<=x->x<=m*b->0<=x.fdiv b/\x.fdiv b<=m:=λx hx hm=>by
  rw [bO _ (bv hb)]
  exact ⟨vM hx (bv hb),DQ hb hm⟩
 refine kL (λe=> ?_) λe=> ?_
 ·have:=key n e h.2
  exact ⟨ap (jP (ap this.1 this.2)) this.1,this.2⟩
 ·have:=key (-n) (jQ (bv (fV.mp e))) (Int.neg_le_of_neg_le h.1)
  exact ⟨eS this.2,ap (jP this.1) (ap this.1 this.2)⟩
theorem Cp{v b V B:Int}(h1:In (-V) V v)(h2:In (-B) B b):In (-(V+B)) (V+B) (gY v b):=by
 unfold In at h1 h2
 refine kL (λe=> ?_) λe=>kL (λe2=> ?_) λ_=> ?_
 ·rcases qW b (-v)with h | h
  ·rw [ki h];unfold In;omega
  ·rw [lF h];unfold In;omega
 ·rcases qW b v with h | h
  ·rw [ki h];unfold In;omega
  ·rw [lF h];unfold In;omega
 ·unfold In;omega
theorem Mz{x y X Y:Int}(h1:In (-X) X x)(h:In 0 Y y):In (-(X*Y)) (X*Y) (x*y):=by
 have hX:0<=X:=by have:=ap h1.1 h1.2;clear h;omega
 have a:X*y<=X*Y:=gV h.2 hX
 have b:x*y<=X*y:=bN h1.2 h.1
 have c: -X*y<=x*y:=bN h1.1 h.1
 rw [mV]at c
 exact ⟨ap (eS a) c,ap b a⟩
theorem In.add{a b c d x y:Int}(h:In a b x)(k:In c d y):In (a+c) (b+d) (x+y):=⟨cO h.1 k.1,cO h.2 k.2⟩
theorem In.le{a b c d x:Int}(h:In a b x)(h1:c<=a)(h2:b<=d):In c d x:=⟨ap h1 h.1,ap h.2 h2⟩
theorem FW{m e ph sc:Int}(hm:In (-1000000) 1000000 m)(he:In (-1000000) 1000000 e)(hp:In 0 128 ph)(hs:In 0 64 sc):In (-100000000) 100000000 (jg m e ph sc):=
 wK (by decide) (((Mz hm hp).add (wK (b:=64) (m:=1000000*128) (by decide) (Mz (Mz he (y:=128 - ph) (Y:=128) ⟨gW hp.2,vK _ hp.1⟩) hs))).le (by decide) (by decide))
theorem Ey{pc np ab x y a b c:Int}(h1:In 0 40 pc)(h2:In 0 20 np)(h3:In 0 5 ab)(h4:In 0 5 x)(h5:In 0 5 y)(h6:In (-43) 21 a)(h7:In 0 24 b)(h8:In 0 51 c):In (-1000) 1000 (9*pc+12*np+9*(ab+x - y) - 110+a+b+c):=by unfold In at*;omega
theorem xu{k m:Nat}{M:Int}(h:k<=m)(hm:(m:Int)<=M):In 0 M (k:Int):=⟨au k,ap (aW.mpr h) hm⟩
theorem PM:∀x<4,∀y<4,In 0 5 (lR ((x:Nat) -(y:Nat))):=by unfold In;decide
theorem zi(hw:w.Ok){wk bk:Nat}(hwk:wk<w.n)(hbk:bk<w.n):In (-1000) 1000 (w.drive wk bk):=by
 have hf:w.f<=4:=(show ∀f∈[3,4],f<=4 by decide) _ hw.shape.mem.1
 have hr:w.r<=5:=(show ∀f∈[4,5],f<=5 by decide) _ hw.shape.mem.2
 have hn:w.n<=20:=hw.shape.n_le
 have c:=λP=>an (qz w.n P) hn
 have m:=λs=>bR (d_ s hw.shape.fpos) hf
 have q:=λs (h:s<w.n)=>an (lm (show s/w.f<w.r from aH h)) hr
 exact Ey (xu (gv (c (w.pasP 0)) (c (w.pasP 1))) (by decide)) (xu (c (w.kindP 1)) (by decide)) (PM _ (m wk) _ (m bk)) (xu (q wk hwk) (by decide)) (xu (q bk hbk) (by decide))
  (kL (λ_=> .c rfl) λ_=>kL (λ_=> .c rfl) λ_=> .c rfl) (kL (λ_=> .c rfl) λ_=> .c rfl) (kL (λ_=> .c rfl) λ_=> .c rfl)
theorem OP{D:Int}(h:In (-1000) 1000 D):In (-1000) 1000 (min (D+50) 0):=⟨qE.mpr ⟨ap h.1 (wX (by decide)),by decide⟩,ap (di ..) (by decide)⟩
theorem NY(hw:w.Ok){wk bk:Nat}(hwk:wk<w.n)(hbk:bk<w.n){mg eg:Int}(h1:In (-500000) 500000 mg)(h2:In (-500000) 500000 eg):In (-100000000) 100000000 (w.val wk bk mg eg):=
 FW ((Cp h1 (OP (zi hw hwk hbk))).le (by decide) (by decide)) ((Cp h2 (zi hw hwk hbk)).le (by decide) (by decide)) (IV hw.shape) (IU _)
theorem Uy(d:Nat){rows:T}{mg eg v:Int}(h1:(bj br d).call 104 [p]=some rows)(h2:(bj br d).call 105 [rows]=some (.tup [.int mg,.int eg]))(h3:(bj br d).call 108 [p,.int mg,.int eg]=some (.int v)):(bj br (d+1)).call 109 [p]=some (.int v):=
 bq (F:=lT) (ρ:=[some (.sh p),none,none]) rfl rfl (.next (.tupa (.call (.cons (.call (.cons (.var rfl) .nil) h1) .nil) h2) rfl) (.h_ret (.call (.cons (.var rfl) (.cons (.var rfl) (.cons (.var rfl) .nil))) h3)))
theorem UN(d:Nat){v m:Int}(h1:(bj br d).call 109 [p]=some (.int v))(h2:(bj br d).call 110 [p,.int v]=some (.int m)):(bj br (d+1)).call 111 [p]=some (.int m):=
 bq (F:=rY) (ρ:=[some (.sh p)]) rfl rfl (.h_ret (.call (.cons (.var rfl) (.cons (.call (.cons (.var rfl) .nil) h1) .nil)) h2))
noncomputable def sp:Str:=aa " "
noncomputable def kK(q:Rw):Str:=(((q.1++sp)++nX q.2.1)++sp)++nX q.2.2
noncomputable def Ba(mg eg:Int):Str:=((aa "total "++sI mg)++aa "/")++sI eg
noncomputable def S3(v:Int):Str:=aa "white "++sI v
noncomputable def TZ(v:Int):Str:=aa "mover "++sI v
noncomputable def mh:Str:=aa "term white black"
noncomputable def zW(L:List Rw)(mg eg v mv:Int):List T:=((([T.str mh]++L.map λq=>T.str (kK q))++[T.str (Ba mg eg)])++[T.str (S3 v)])++[T.str (TZ mv)]
noncomputable def Sw(q:Rw):Prop:=Jy q/\q.1.length<=100
noncomputable def Sh(s:Str)(n:Nat):Prop:=s.length<=n
theorem Sh.app{a b:Str}{m n:Nat}(h:Sh a m)(k:Sh b n):Sh (a++b) (m+n):=by unfold Sh;rw [wT];exact gv h k
theorem Sh.bt{a b:Str}{m n:Nat}(h:Sh a m)(k:Sh b n)(hm:m<=1000)(hn:n<=1000):bK .add (.str a) (.str b)=some (.str (a++b)):=tT ⟨an h hm,an k hn⟩
theorem xj:Sh sp 1:=show sp.length<=1 by decide
noncomputable def Sm(a:Int):Prop:= -1000000000<a/\a<1000000000
theorem Sm.sh{a:Int}(h:Sm a):Sh (sI a) 10:=tJ h.1 h.2
theorem Sm.bi{a:Int}(h:Sm a):qI .str [.int a]=some (.str (sI a)):=tU h.1 h.2
theorem wV{q:Rw}(h:Sw q):Sh (q.1++sp) 101/\Sh ((q.1++sp)++nX q.2.1) 131/\Sh (((q.1++sp)++nX q.2.1)++sp) 132:=
 have a:=Sh.app (show Sh q.1 100 from h.2) xj
 have b:=a.app (show Sh _ 30 from pt h.1.1)
 ⟨a,b,b.app xj⟩
theorem CX(d:Nat){ρ:b6}{q:Rw}{i:Nat}{j' k':X}(h:Sw q)(h1:get ρ i=some (.sh (.str q.1)))(h2:dO (bj br (d+3)) ρ j' (.sh (.str (nX q.2.1))))(h3:dO (bj br (d+3)) ρ k' (.sh (.str (nX q.2.2)))):
  dO (bj br (d+3)) ρ (.bin .add (.bin .add (.bin .add (.bin .add (.var i) (.lit (.str (aa " ")))) j') (.lit (.str (aa " ")))) k') (.sh (.str (kK q))):=
 .bin (.bin (.bin (.bin (.var h1) .lit (Sh.bt h.2 xj (by decide) (by decide))) h2 (Sh.bt (wV h).1 (pt h.1.1) (by decide) (by decide))) .lit (Sh.bt (wV h).2.1 xj (by decide) (by decide))) h3 (Sh.bt (wV h).2.2 (pt h.1.2) (by decide) (by decide))
theorem oG:Sh (aa "total ") 6/\Sh (aa "white ") 6/\Sh (aa "mover ") 6:=by unfold Sh;decide
section
variable{o:d5}{ρ:b6}{a b:X}{x y:Int}
theorem HI(hx:Sm x)(hy:Sm y)(h1:dO o ρ a (.sh (.int x)))(h2:dO o ρ b (.sh (.int y))):dO o ρ (.bin .add (.bin .add (.bin .add (.lit (.str (aa "total "))) (.bi .str (.cons a .nil))) (.lit (.str (aa "/")))) (.bi .str (.cons b .nil))) (.sh (.str (Ba x y))):=
 .bin (.bin (.bin .lit (.bi (.cons h1 .nil) hx.bi) (Sh.bt oG.1 hx.sh (by decide) (by decide))) .lit (Sh.bt (oG.1.app hx.sh) jj (by decide) (by decide))) (.bi (.cons h2 .nil) hy.bi) (Sh.bt ((oG.1.app hx.sh).app jj) hy.sh (by decide) (by decide))
theorem MK(hx:Sm x)(h1:dO o ρ a (.sh (.int x))):dO o ρ (.bin .add (.lit (.str (aa "white "))) (.bi .str (.cons a .nil))) (.sh (.str (S3 x))):= .bin .lit (.bi (.cons h1 .nil) hx.bi) (Sh.bt oG.2.1 hx.sh (by decide) (by decide))
theorem Nd(hx:Sm x)(h1:dO o ρ a (.sh (.int x))):dO o ρ (.bin .add (.lit (.str (aa "mover "))) (.bi .str (.cons a .nil))) (.sh (.str (TZ x))):= .bin .lit (.bi (.cons h1 .nil) hx.bi) (Sh.bt oG.2.2 hx.sh (by decide) (by decide))
theorem Ex.appT{i:Nat}{e:X}{m:List T}{t:T}(h1:get ρ i=some (.lst (m.map .sh)))(h2:dO o ρ e (.sh t))(hl:m.length<=1000):Ex o ρ (.app (.var i) e) (fO ρ i (.lst ((m++[t]).map .sh))):=by
 rw [cf];exact .app h1 h2 (by rw [aq];exact hl)
theorem Ex.frzT{i:Nat}{m:List T}(h1:get ρ i=some (.lst (m.map .sh))):Ex o ρ (.frz i) (fO ρ i (.sh (.list m))):=by
 have:=Ex.frz (c:=o) h1
 rw [show (O.lst (m.map .sh)).toT=T.list m from congrArg T.list (e_ m)]at this;exact this
end
@[reducible] noncomputable def N4:S:= .seq (.app (.var 4) (.bin .add (.bin .add (.bin .add (.bin .add (.var 5) (.lit (.str (aa " ")))) (.call 112 (.cons (.var 6) .nil))) (.lit (.str (aa " ")))) (.call 112 (.cons (.var 7) .nil)))) .skip
theorem Ca(d:Nat){p0 r mg eg:T}{x:Option O}:∀(L:List Rw) (out:List T) (a b c:Option O),(∀q,q∈L->Sw q)->out.length+L.length<=1000->
  ∃y z u,FL (bj br (d+3)) N4 [5,6,7] (L.map nZ) [some (.sh p0),some (.sh r),some (.sh mg),some (.sh eg),some (.lst (out.map .sh)),a,b,c,x] [some (.sh p0),some (.sh r),some (.sh mg),some (.sh eg),some (.lst ((out++L.map λq=>T.str (kK q)).map .sh)),y,z,u,x]
 |[],out,a,b,c,_,_=>⟨a,b,c,by rw [d3,d3,bc];exact .nil⟩
 | q::L,out,a,b,c,h,hl=>by
  have hq:=h q ak
  obtain ⟨y,z,u,e⟩:=Ca d (p0:=p0) (r:=r) (mg:=mg) (eg:=eg) (x:=x) L (out++[T.str (kK q)]) (some (.sh (.str q.1))) (iT q.2.1) (iT q.2.2) (λq hq=>h q (ao _ hq)) (by rw [bn,eB,bU [T.str (kK q)].length];exact hl)
  rw [dA]at e
  exact ⟨y,z,u,.cons (ρ1:=[some (.sh p0),some (.sh r),some (.sh mg),some (.sh eg),some (.lst (out.map .sh)),some (.sh (.str q.1)),iT q.2.1,iT q.2.2,x]) rfl (.seq (.appT (m:=out) rfl (CX d hq rfl (.call (.cons (.var rfl) .nil) (vr d hq.1.1)) (.call (.cons (.var rfl) .nil) (vr d hq.1.2))) (an (bJ ..) hl)) .skip) e⟩
theorem N3(d:Nat){L:List Rw}{mg eg v mv:Int}(h:∀q,q∈L->Sw q)(hl:L.length<=900)(h1:(bj br (d+3)).call 105 [.list (L.map nZ)]=some (.tup [.int mg,.int eg]))(h2:(bj br (d+3)).call 108 [p,.int mg,.int eg]=some (.int v))(h3:(bj br (d+3)).call 110 [p,.int v]=some (.int mv))(a1:Sm mg)(a2:Sm eg)(a3:Sm v)(a4:Sm mv):
  (bj br (d+4)).call 113 [p,.list (L.map nZ)]=some (.list (zW L mg eg v mv)):=by
 have hlen:[T.str mh].length+L.length<=901:=bU 1 L.length▸bf hl
 obtain ⟨y,z,u,e⟩:=Ca d (p0:=p) (r:= .list (L.map nZ)) (mg:= .int mg) (eg:= .int eg) (x:=none) L [T.str mh] none none none h (an hlen (by decide))
 unfold zW
 have hlen:([T.str mh]++L.map λq=>T.str (kK q)).length<=901:=by rw [bn,aq];exact hlen
 generalize ([T.str mh]++L.map λq=>T.str (kK q))=o1 at*
 have h2':∀a:T,(o1++[a]).length<=902:=λa=>by rw [bn];exact bf hlen
 have h3':∀a b:T,(o1++[a]++[b]).length<=903:=λa b=>by rw [bn];exact bf (h2' a)
 exact bq (F:=nr) (ρ:=[some (.sh p),some (.sh (.list (L.map nZ))),none,none,none,none,none,none,none]) rfl rfl
  (.next (.tupa (.call (.cons (.var rfl) .nil) h1) rfl) (.next (ρ1:=[some (.sh p),some (.sh (.list (L.map nZ))),iT mg,iT eg,some (.lst ([T.str mh].map .sh)),none,none,none,none]) (.asgO rfl) (.next (.forr (.var rfl) rfl e)
  (.next (ρ1:=[some (.sh p),some (.sh (.list (L.map nZ))),iT mg,iT eg,some (.lst ((o1++[T.str (Ba mg eg)]).map .sh)),y,z,u,none]) (.appT rfl (HI a1 a2 (.var rfl) (.var rfl)) (an hlen (by decide))) (.next (.asg (.call (.cons (.var rfl) (.cons (.var rfl) (.cons (.var rfl) .nil))) h2))
  (.next (ρ1:=[some (.sh p),some (.sh (.list (L.map nZ))),iT mg,iT eg,some (.lst (((o1++[T.str (Ba mg eg)])++[T.str (S3 v)]).map .sh)),y,z,u,iT v]) (.appT rfl (MK a3 (.var rfl)) (an (h2' _) (by decide)))
  (.next (.appT rfl (Nd a4 (.call (.cons (.var rfl) (.cons (.var rfl) .nil)) h3)) (an (h3' _ _) (by decide))) (.next (.frzT rfl) (.h_ret (.var rfl))))))))))
end
end
section
theorem compM{α β:Type}{f:b6->Option Bool}{g:b6->Option β}{i:Nat}{ρ:b6}{F:α->T}{P:α->Bool}{H:α->β}:∀L:List α,(∀a,a∈L->f (fO ρ i (.sh (F a)))=some (P a))->(∀a,a∈L->P a=true->g (fO ρ i (.sh (F a)))=some (H a))->gQ f g [i] ρ (L.map F)=some ((L.filter P).map H)
 |[],_,_=>rfl
 | a::L,hf,hg=>by
  have ih:=compM L (λu hu=>hf u (.tail _ hu)) (λu hu=>hg u (.tail _ hu))
  show ((f (fO ρ i (.sh (F a)))).bind _)=_
  rw [hf a (.head _)]
  show (if P a=true then (g (fO ρ i (.sh (F a)))).bind _ else gQ f g [i] ρ (L.map F))=_
  cases hp:P a
  ·rw [if_neg (by decide),ih,List.filter_cons_of_neg (by rw [hp];decide)]
  ·rw [if_pos rfl,hg a (.head _) hp,ih,List.filter_cons_of_pos hp];rfl
theorem pp{c:d5}{ρ:b6}{src:X}{t:T}{l:List T}{G:List T->Option O}(h1:dO c ρ src (.sh t))(h2:dg t=some l)(h3:l.length<=1000000):(((ev c src ρ).bind O.t?).bind lB).bind G=G l:=by
 rw [h1]
 show (((dg t).bind _)).bind G=_
 rw [h2]
 show (if l.length<=1000000 then some l else none).bind G=_
 rw [if_pos h3];rfl
section
variable{c:d5}{ρ:b6}{i:Nat}{src q e:X}{t:T}{α:Type}{F H:α->T}{P:α->Bool}{L:List α}
theorem dO.compM(hu:ev c (.comp [i] src q e) ρ=(((ev c src ρ).bind O.t?).bind lB).bind λl=>(gQ (tst c q) (λr=>(ev c e r).bind O.t?) [i] ρ l).map λl=> .sh (.list l))(h1:dO c ρ src (.sh t))(h2:dg t=some (L.map F))(h3:L.length<=1000000)
  (hq:∀a,a∈L->Ts c (fO ρ i (.sh (F a))) q (P a)) (he:∀a,a∈L->P a=true->dO c (fO ρ i (.sh (F a))) e (.sh (H a))):dO c ρ (.comp [i] src q e) (.sh (.list ((L.filter P).map H))):=
 hu.trans ((pp h1 h2 (by rw [aq];exact h3)).trans (congrArg (bZ λl=>O.sh (.list l)) (TI.compM L hq λa ha hp=>by rw [he a ha hp];rfl)))
theorem dO.compN(h1:dO c ρ src (.sh t))(h2:dg t=some (L.map F))(h3:L.length<=1000000)(he:∀a,a∈L->dO c (fO ρ i (.sh (F a))) e (.sh (H a))):dO c ρ (.comp [i] src .nil e) (.sh (.list (L.map H))):=by
 have h:=TI.compM (f:=λ_=>some true) (P:=λ_=>true) (H:=H) (g:=λr=>(ev c e r).bind O.t?) L (λ_ _=>rfl) λa ha _=>by rw [he a ha];rfl
 rw [List.filter_eq_self.mpr λ_ _=>rfl]at h
 exact (pp h1 h2 (by rw [aq];exact h3)).trans (congrArg (bZ λl=>O.sh (.list l)) h)
end
theorem y9{n:Nat}(hn:n<=1000):eT (n:Nat)=true:=by
 have h:(n:Int)<=1000:=aW.mpr hn
 unfold eT
 rw [decide_eq_true (ap (by decide) (au n)),decide_eq_true (ap h (by decide))];rfl
theorem gq{n:Nat}(hn:n<=1000):dg (.rng 0 (n:Nat) 1)=some (ka (ar n)):=by
 have hf:(eT 0&&eT (n:Nat)&&((1:Int)==1||(1:Int)== -1))=true:=by rw [y9 hn];rfl
 refine (if_pos hf).trans (congrArg some ?_)
 rw [yD,Te,gn]
 exact bg λi _=>congrArg T.int (de _)
theorem k7{n:Nat}(hn:n<=1000):qI .range [.int (n:Nat)]=some (.rng 0 (n:Nat) 1):=if_pos (y9 hn)
theorem tW{l:List T}(h:l.length<=1000):qI .len [.list l]=some (.int (l.length:Nat)):=if_pos (an h (by decide))
theorem gz(d:Nat)(s:Int):(bj br (d+1)).call 120 [.int s]=some (.tup [.int (tM s),.int (A4 s)]):=
 have m1:bK .mod (.int (s+32768)) (.int 65536)=some (.int ((s+32768)%65536)):=(g6 rfl).trans (congrArg (λk=>some (T.int k)) (i6 _ (by decide)))
 have d1:∀x:Int,bK .fdv (.int x) (.int 65536)=some (.int (x/65536)):=λx=>(dH (by decide)).trans (congrArg (λk=>some (T.int k)) (bO _ (by decide)))
 bq (F:=nC) (ρ:=[iT s,none]) rfl rfl (.next (ρ1:=[iT s,iT (tM s)]) (.asg (.bin (.bin (.bin (.var rfl) .lit rfl) .lit m1) .lit rfl)) (.h_ret (.tup (.cons (.var rfl) (.cons (.bin (.bin (.var rfl) (.var rfl) rfl) .lit (d1 _)) .nil)))))
theorem tz(d:Nat)(n:Int){b:Int}(h0:0<b)(hb:small b=true):(bj br (d+1)).call 121 [.int n,.int b]=some (.int (sM n b)):=by
 have hs:(b==0|| !small b)=false:=by
  rw [hb,beq_eq_false_iff_ne.mpr (ln h0)];rfl
 exact bq (F:=uO) (ρ:=[iT n,iT b]) rfl rfl (.h_ret (.iteI (.cmp (.var rfl) .lit rfl) (.bin (.var rfl) (.var rfl) (dH hs)) (.neg (.bin (.neg (.var rfl)) (.var rfl) (dH hs)))))
theorem Gg(v b:Int):(if ¬v=0 then v+(if 0<v then 1 else -1)*max b (-lR v)else 0)=gY v b:=by
 unfold gY lR
 by_cases h1:0<v
 ·rw [if_pos (ln h1),if_pos h1,if_pos h1,jU,if_neg (cC.mpr (bv h1))]
 ·by_cases h2:v<0
  ·rw [if_pos (Int.ne_of_lt h2),if_neg h1,if_neg h1,if_pos h2,if_pos h2,d9,mV,jU];rfl
  ·rw [if_neg (λe=>e (fM (cC.mp h1) (cC.mp h2))),if_neg h1,if_neg h2]
theorem vj(d:Nat)(v b:Int):(bj br (d+1)).call 125 [.int v,.int b]=some (.int (gY v b)):=by
 have ti:bx (.int v)=some (decide (¬v=0)):=(congrArg some decide_not).symm
 rw [<-Gg]
 exact bq (F:=rW) (ρ:=[iT v,iT b,none]) rfl rfl (.next (.asg (.iteI (P:=0<v) (.cmp (.var rfl) .lit rfl) .lit (.neg .lit))) (.h_ret (.iteI (.var rfl ti) (.bin (.var rfl) (.bin (.var rfl) (.bi (.cons (.var rfl) (.cons (.neg (.bi (.cons (.var rfl) .nil) rfl)) .nil)) (nj ..)) (lC (fB (.inl (by split<;>decide))))) rfl) .lit)))
theorem sA(d:Nat){s:Int}(h:Md s):(bj br (d+2)).call 128 [.int s]=some (.str (nX s)):=by
 have a:=jd (w9 s)
 have b:=jd (xa h)
 exact bq (F:=rX) (ρ:=[iT s,none,none]) rfl rfl (.next (ρ1:=[iT s,iT (tM s),iT (A4 s)]) (.tupa (.call (.cons (.var rfl) .nil) (gz d s)) rfl) (.h_ret (.bin (.bin (.bi (.cons (.var rfl) .nil) (tU a.1 a.2)) .lit (tT ⟨an (tJ a.1 a.2) (by decide),an jj (by decide)⟩)) (.bi (.cons (.var rfl) .nil) (tU b.1 b.2)) (tT ⟨an (jx h).1 (by decide),an (jx h).2 (by decide)⟩))))
noncomputable def lv(k:Nat):Int:=(nth [0,126,781,825,1276,2538,0] k).getD 0
noncomputable def wc(c:Nat)(q:Nat):Int:=if q/8=c/\2<=q%8 then lv (q%8)else 0
@[reducible] noncomputable def Ia:S:= .seq (.iff (.andd (.cmp .eq (.bin .fdv (.var 4) (.lit (.int 8))) (.var 1)) (.cmp .ge (.bin .mod (.var 4) (.lit (.int 8))) (.var 2))) (.seq (.aug 3 .add (.idx (.glob (aa "_law_values") (.list [(.int 0),(.int 126),(.int 781),(.int 825),(.int 1276),(.int 2538),(.int 0)])) (.bin .mod (.var 4) (.lit (.int 8))))) .skip) .skip) .skip
theorem OW{k:Nat}(h:k<=6):b4 (k:Nat) (.sh (.list [(.int 0),(.int 126),(.int 781),(.int 825),(.int 1276),(.int 2538),(.int 0)]))=some (.sh (.int (lv k))):=cy (g:=λk=>T.int (lv k)) (n:=7) (aU h) (by decide)
theorem T5(q:Nat):bK .fdv (.int (q:Nat)) (.int 8)=some (.int ((q/8:Nat):Int)):=(dH (by decide)).trans (congrArg (λx=>some (T.int x)) (gJ q 8))
theorem S8(q:Nat):bK .mod (.int (q:Nat)) (.int 8)=some (.int ((q%8:Nat):Int)):=(g6 (by decide)).trans (congrArg (λx=>some (T.int x)) (kX q 8))
theorem cK(a b:Nat):((a:Int)==(b:Int))=(a==b):=h_ R_
theorem KG(o:d5){B:T}{c q:Nat}{t:Int}(hq:q%8<=6):Ex o [some (.sh B),iT (c:Nat),iT 2,iT t,iT (q:Nat)] Ia [some (.sh B),iT (c:Nat),iT 2,iT (t+wc c q),iT (q:Nat)]:=by
 unfold wc
 refine .seq (.iffB (p:=decide (q/8=c/\2<=q%8)) ?_ (λe=> ?_) λe=> ?_) .skip
 ·rw [Mm]
  exact .and (.cmp (.bin (.var rfl) .lit (T5 q)) (.var rfl) (congrArg some (cK _ c))) (.cmp (.bin (.var rfl) .lit (S8 q)) (.var rfl) (congrArg some (decide_eq_decide.mpr (aW (m:=2)))))
 ·rw [if_pos (of_decide_eq_true e)];exact .seq (.aug rfl (.idx .glob (.bin (.var rfl) .lit (S8 q)) (OW hq)) rfl) .skip
 ·rw [if_neg (of_decide_eq_false e),bQ];exact .skip
theorem CR(o:d5){B:T}{c:Nat}:∀(l:List Nat) (t:Int) (x:Option O),(∀q,q∈l->q%8<=6)->∃y,FL o Ia [4] (ka l) [some (.sh B),iT (c:Nat),iT 2,iT t,x] [some (.sh B),iT (c:Nat),iT 2,iT (t+(l.map (wc c)).sum),y]
 |[],t,x,_=>⟨x,by rw [show (([]:List Nat).map (wc c)).sum=0 from rfl,bQ];exact .nil⟩
 | q::l,t,x,h=>by
  obtain ⟨y,e⟩:=CR o (B:=B) (c:=c) l (t+wc c q) (iT (q:Nat)) λr hr=>h r (.tail _ hr)
  rw [dh]at e
  exact ⟨y,.cons (ρ1:=[some (.sh B),iT (c:Nat),iT 2,iT t,iT (q:Nat)]) rfl (KG o (h q (.head _))) e⟩
theorem Uf(a b c d:Int):a+b+(c+d)=a+c+(b+d):=by omega
theorem DS(g h:Nat->Int):iK (λk=>g k+h k)=iK g+iK h:=by
 unfold iK
 rw [mW,mW,mW,mW,Uf (g 2*781),Uf (g 2*781+g 3*825),Uf (g 2*781+g 3*825+g 4*1276)]
theorem DR:∀p<16,(!(p==0)&&p%8==0)=false->∀c<2,iK (λk=>((if ((!(p==0)&&p/8==c)&&p%8==k)then 1 else 0:Nat):Int))=wc c p:=by decide
theorem uF(w:Bd){c:Nat}(hc:c<=1):∀n,(∀s,s<n->w.b s=0\/(w.b s<16/\1<=w.b s%8/\w.b s%8<=6))->iK (λk=>((cnt n (w.men c k):Nat):Int))=(((ar n).map w.b).map (wc c)).sum
 | 0,_=>rfl
 | n+1,h=>by
  have hn:=hU (h n (cn n))
  rw [k8,cf,cf,Mi,<-uF w hc n λs hs=>h s (cq hs),
   show ((([n]:List Nat).map w.b).map (wc c)).sum=wc c (w.b n)from bQ _,<-DR _ hn.1 hn.2 c (aU hc),<-DS]
  exact congrArg iK (funext λk=>vL _ _)
section
variable{w:Bd}
theorem pv(w:Bd):dg w.brdT=some (ka ((ar w.n).map w.b)):=congrArg some (by unfold ka;rw [a_];rfl)
theorem iS(d:Nat)(hw:w.Ok){c:Nat}(hc:c<=1):(bj br (d+1)).call 122 [w.brdT,.int (c:Nat),.int 2]=some (.int (w.W c)):=by
 obtain ⟨y,e⟩:=CR (bj br d) (B:=w.brdT) (c:=c) ((ar w.n).map w.b) 0 none λq hq=>by
  obtain ⟨s,hs,rfl⟩:=c9.mp hq
  exact (hw.pc s (az.mp hs)).elim (λe=>by rw [e];decide) (·.2.2)
 rw [de,<-show w.W c=_ from uF w hc w.n hw.pc]at e
 exact bq (F:=pG) (ρ:=[some (.sh w.brdT),iT (c:Nat),iT 2,none,none]) rfl rfl (.next (.asg .lit) (.next (.forr (.var rfl) (pv w) e) (.h_ret (.var rfl))))
end
end
section
@[reducible] noncomputable def bB(b:Bool):Option O:=some (.sh (.bool b))
noncomputable def uv(sd bu bt fu ft mu mt:Int):Bool:=(if (sd==0)=true then decide (ft<fu)else decide (fu<ft))&&(((bu==9 - sd*8)&&decide (lR (mu - mt)<2))||((bu==bt)&&(lR (mu - mt)==0)))
@[reducible] noncomputable def Qk:S:= .seq (.asg 8 (.ite (.cmp .eq (.var 5) (.lit (.int 0))) (.cmp .gt (.bin .fdv (.var 7) (.var 0)) (.bin .fdv (.var 4) (.var 0))) (.cmp .lt (.bin .fdv (.var 7) (.var 0)) (.bin .fdv (.var 4) (.var 0))))) (.seq (.asg 9 (.bi .abs (.cons (.bin .sub (.bin .mod (.var 7) (.var 0)) (.bin .mod (.var 4) (.var 0))) .nil))) (.seq (.iff (.andd (.var 8) (.orr (.andd (.cmp .eq (.idx (.var 2) (.var 7)) (.bin .sub (.lit (.int 9)) (.bin .mul (.var 5) (.lit (.int 8))))) (.cmp .lt (.var 9) (.lit (.int 2)))) (.andd (.cmp .eq (.idx (.var 2) (.var 7)) (.idx (.var 2) (.var 4))) (.cmp .eq (.var 9) (.lit (.int 0)))))) (.seq (.asg 6 (.lit (.bool false))) .skip) .skip) .skip))
@[reducible] noncomputable def zO(f r:Int)(B:T)(k:Int)(a b c d x y:Option O):b6:=[iT f,iT r,some (.sh B),iT k,a,b,c,d,x,y]
@[reducible] noncomputable def To(f r:Int)(B:T)(k:Int)(J:b6):b6:=zO f r B k (get J 0) (get J 1) (get J 2) (get J 3) (get J 4) (get J 5)
theorem dO.iteBL{c:d5}{ρ:b6}{q a b:X}{p x y:Bool}(h:Ts c ρ q p)(h1:dO c ρ a (.sh (.bool x)))(h2:dO c ρ b (.sh (.bool y))):dO c ρ (.ite q a b) (.sh (.bool (if p=true then x else y))):=by
 cases p
 ·exact .ite_f h h2
 ·exact .ite_t h h1
theorem KI(o:d5){f r sd t u bu bt fu ft mu mt k:Int}{fr:Bool}{B:T}{y z:Option O}(hu:b4 u (.sh B)=some (.sh (.int bu)))(ht:b4 t (.sh B)=some (.sh (.int bt)))(d1:bK .fdv (.int u) (.int f)=some (.int fu))(d2:bK .fdv (.int t) (.int f)=some (.int ft))(m1:bK .mod (.int u) (.int f)=some (.int mu))(m2:bK .mod (.int t) (.int f)=some (.int mt)):
  ∃y' z',Ex o (zO f r B k (iT t) (iT sd) (bB fr) (iT u) y z) Qk (zO f r B k (iT t) (iT sd) (bB (fr&& !uv sd bu bt fu ft mu mt)) (iT u) y' z'):=by
 refine ⟨bB (if (sd==0)=true then decide (ft<fu)else decide (fu<ft)),iT (lR (mu - mt)),.seq (.asg (.iteBL (p:=sd==0) (.cmp (.var rfl) .lit rfl) (.cmp (.bin (.var rfl) (.var rfl) d1) (.bin (.var rfl) (.var rfl) d2) rfl) (.cmp (.bin (.var rfl) (.var rfl) d1) (.bin (.var rfl) (.var rfl) d2) rfl)))
  (.seq (ρ1:=(zO f r B k (iT t) (iT sd) (bB fr) (iT u) (bB (if (sd==0)=true then decide (ft<fu)else decide (fu<ft))) (iT (lR (mu - mt))))) (.asg (.bi (.cons (.bin (.bin (.var rfl) (.var rfl) m1) (.bin (.var rfl) (.var rfl) m2) rfl) .nil) rfl))
  (.seq (.iffB (p:=uv sd bu bt fu ft mu mt) (.and (.var rfl rfl) (.or (.and (.cmp (.idx (.var rfl) (.var rfl) hu) (.bin .lit (.bin (.var rfl) .lit (lC (fB (.inr rfl)))) rfl) rfl) (.cmp (.var rfl) .lit rfl)) (.and (.cmp (.idx (.var rfl) (.var rfl) hu) (.idx (.var rfl) (.var rfl) ht) rfl) (.cmp (.var rfl) .lit rfl)))) (λe=> ?_) λe=> ?_) .skip))⟩
 ·rw [e,show (fr&& !true)=false from bP fr];exact .seq (.asg .lit) .skip
 ·rw [e,show (fr&& !false)=fr from dF fr];exact .skip
theorem CU(o:d5){f r sd t bt ft mt k:Int}{B:T}{bu fu mu:Nat->Int}(ht:b4 t (.sh B)=some (.sh (.int bt)))(d2:bK .fdv (.int t) (.int f)=some (.int ft))(m2:bK .mod (.int t) (.int f)=some (.int mt)):∀(l:List Nat) (fr:Bool) (x y z:Option O),
  (∀u,u∈l->b4 (u:Nat) (.sh B)=some (.sh (.int (bu u)))/\bK .fdv (.int (u:Nat)) (.int f)=some (.int (fu u))/\bK .mod (.int (u:Nat)) (.int f)=some (.int (mu u)))->
  ∃x' y' z',FL o Qk [7] (ka l) (zO f r B k (iT t) (iT sd) (bB fr) x y z) (zO f r B k (iT t) (iT sd) (bB (fr&&l.all λu=> !uv sd (bu u) bt (fu u) ft (mu u) mt)) x' y' z')
 |[],fr,x,y,z,_=>⟨x,y,z,by rw [List.all_nil,dF];exact .nil⟩
 | u::l,fr,x,y,z,h=>by
  have h1:=h u (.head _)
  obtain ⟨y',z',e2⟩:=KI o (r:=r) (sd:=sd) (k:=k) (fr:=fr) (y:=y) (z:=z) h1.1 ht h1.2.1 d2 h1.2.2 m2
  obtain ⟨x2,y2,z2,e3⟩:=CU o (r:=r) (sd:=sd) (k:=k) ht d2 m2 l (fr&& !uv sd (bu u) bt (fu u) ft (mu u) mt) (iT (u:Nat)) y' z' λv hv=>h v (.tail _ hv)
  rw [wj]at e3
  exact ⟨x2,y2,z2,.cons (ρ1:=(zO f r B k (iT t) (iT sd) (bB fr) (iT (u:Nat)) y z)) rfl e2 e3⟩
@[reducible] noncomputable def Nm:S:= .seq (.iff (.cmp .eq (.bin .mod (.idx (.var 2) (.var 4)) (.lit (.int 8))) (.lit (.int 1))) (.seq (.asg 5 (.bin .fdv (.idx (.var 2) (.var 4)) (.lit (.int 8)))) (.seq (.asg 6 (.lit (.bool true))) (.seq (.forr [7] (.bi .range (.cons (.bi .len (.cons (.var 2) .nil)) .nil)) Qk) (.seq (.iff (.var 6) (.seq (.aug 3 .add (.lit (.int 1))) .skip) .skip) .skip)))) .skip) .skip
section
variable{w:Bd}
theorem fZ(w:Bd){s:Nat}(hs:s<w.n)(hn:w.n<=20):b4 (s:Nat) (.sh w.brdT)=some (.sh (.int (w.b s:Nat))):=cy hs (aC hn (by decide))
theorem oF(w:Bd)(hn:w.n<=20):qI .len [w.brdT]=some (.int (w.n:Nat)):=by
 have e:((ar w.n).map λs=>T.int (w.b s:Nat)).length=w.n:=by rw [aq,aK]
 exact (tW (e.symm▸(an hn (by decide):w.n<=1000))).trans (by rw [e])
theorem wW(x:Int):lR x=(x.natAbs:Int):=by
 unfold lR
 by_cases h:x<0
 ·rw [if_pos h];exact (Int.ofNat_natAbs_of_nonpos (bv h)).symm
 ·rw [if_neg h];exact (Int.natAbs_of_nonneg (cC.mp h)).symm
theorem EB(hw:w.Ok){t u:Nat}(ht:t<w.n)(hp:w.kindP 1 t=true):uv ((w.b t/8:Nat):Int) (w.b u:Nat) (w.b t:Nat) ((u/w.f:Nat):Int) ((t/w.f:Nat):Int) ((u%w.f:Nat):Int) ((t%w.f:Nat):Int)=
  (uw w.f (w.b t/8) t u&&((w.b u==(if w.b t/8=0 then 9 else 1))&&decide (sL w.f t u<2)||(w.b u==w.b t)&&(sL w.f t u==0))):=by
 have hc:w.b t/8<2:=aH (qQ hw ht)
 unfold uv uw
 rw [wW,show (((u%w.f:Nat):Int) -((t%w.f:Nat):Int)).natAbs=sL w.f t u from rfl,cK _ (w.b t),show decide (((sL w.f t u:Nat):Int)<2)=decide (sL w.f t u<2)from decide_eq_decide.mpr (bF (m:=2)),show (((sL w.f t u:Nat):Int)==0)=(sL w.f t u==0)from cK _ 0]
 match w.b t/8,hc with
 | 0,_=>rw [show ((w.b u:Int)==9 -((0:Nat):Int)*8)=(w.b u==9)from cK _ 9,show decide (((t/w.f:Nat):Int)<((u/w.f:Nat):Int))=decide (t/w.f<u/w.f)from decide_eq_decide.mpr bF];rfl
 | 1,_=>rw [show ((w.b u:Int)==9 -((1:Nat):Int)*8)=(w.b u==1)from cK _ 1,show decide (((u/w.f:Nat):Int)<((t/w.f:Nat):Int))=decide (u/w.f<t/w.f)from decide_eq_decide.mpr bF];rfl
theorem E7(hw:w.Ok)(s:Nat):bK .fdv (.int (s:Nat)) (.int (w.f:Int))=some (.int ((s/w.f:Nat):Int)):=by rw [dH (EZ hw.shape),gJ]
theorem E5(hw:w.Ok)(s:Nat):bK .mod (.int (s:Nat)) (.int (w.f:Int))=some (.int ((s%w.f:Nat):Int)):=by rw [g6 (NA hw.shape),kX]
theorem g5(hw:w.Ok):w.n<=1000:=an hw.shape.n_le (by decide)
theorem KM(o:d5)(hw:w.Ok){t:Nat}(ht:t<w.n)(k:Int)(J:b6):∃J',Ex o (To w.f w.r w.brdT k (iT (t:Nat)::J)) Nm (To w.f w.r w.brdT (k+(if (w.kindP 1 t&&w.freeP (w.b t/8) t)=true then 1 else 0)) J'):=by
 have hn:w.n<=20:=hw.shape.n_le
 have hb:=fZ w ht hn
 have hq:Ts o (To w.f w.r w.brdT k (iT (t:Nat)::J)) (.cmp .eq (.bin .mod (.idx (.var 2) (.var 4)) (.lit (.int 8))) (.lit (.int 1))) (w.kindP 1 t):= .cmp (.bin (.idx (.var rfl) (.var rfl) hb) .lit (S8 _)) .lit (congrArg some (cK _ 1))
 cases hp:w.kindP 1 t
 ·rw [hp]at hq
  refine ⟨iT (t:Nat)::J,?_⟩
  rw [show (if (false&&w.freeP (w.b t/8) t)=true then (1:Int)else 0)=0 from if_neg aL,bQ]
  exact .seq (.iff_f hq .skip) .skip
 ·rw [hp]at hq
  obtain ⟨x',y',z',e⟩:=CU o (r:=w.r) (sd:=((w.b t/8:Nat):Int)) (k:=k) (bu:=λu=>(w.b u:Nat)) (fu:=λu=>((u/w.f:Nat):Int)) (mu:=λu=>((u%w.f:Nat):Int)) hb (E7 hw t) (E5 hw t) (ar w.n) true (get J 2) (get J 3) (get J 4) λu hu=>⟨fZ w (az.mp hu) hn,E7 hw u,E5 hw u⟩
  rw [ei,show ((ar w.n).all λu=> !uv ((w.b t/8:Nat):Int) (w.b u:Nat) (w.b t:Nat) ((u/w.f:Nat):Int) ((t/w.f:Nat):Int) ((u%w.f:Nat):Int) ((t%w.f:Nat):Int))=w.freeP (w.b t/8) t from DH λu hu=>congrArg (!·) (EB hw ht hp)]at e
  exact ⟨[_,_,_,_,_,_],.seq (.iff_t hq (.seq (.asg (.bin (.idx (.var rfl) (.var rfl) hb) .lit (T5 _))) (.seq (ρ1:=zO w.f w.r w.brdT k (iT (t:Nat)) (iT ((w.b t/8:Nat):Int)) (bB true) (get J 2) (get J 3) (get J 4)) (.asg .lit) (.seq (.forr (.bi (.cons (.bi (.cons (.var rfl) .nil) (oF w hn)) .nil) (k7 (g5 hw))) (gq (g5 hw)) e)
   (.seq (.augIf (S:=λk=>zO w.f w.r w.brdT k (iT (t:Nat)) (iT ((w.b t/8:Nat):Int)) (bB (w.freeP (w.b t/8) t)) x' y' z') (.var rfl rfl) rfl rfl) .skip))))) .skip⟩
theorem CV(o:d5)(hw:w.Ok):∀(l:List Nat) (k:Int) (J:b6),(∀t,t∈l->t<w.n)->∃J',FL o Nm [4] (ka l) (To w.f w.r w.brdT k J) (To w.f w.r w.brdT (k+(l.map λt=>if (w.kindP 1 t&&w.freeP (w.b t/8) t)=true then (1:Int)else 0).sum) J')
 |[],k,J,_=>⟨J,by rw [d3,R8,bQ];exact .nil⟩
 | t::l,k,J,h=>by
  obtain ⟨J1,e⟩:=KM o hw (h t (.head _)) k [get J 1,get J 2,get J 3,get J 4,get J 5]
  obtain ⟨J2,e2⟩:=CV o hw l (k+(if (w.kindP 1 t&&w.freeP (w.b t/8) t)=true then 1 else 0)) J1 λu hu=>h u (.tail _ hu)
  rw [dh]at e2
  exact ⟨J2,.cons rfl e e2⟩
theorem Dn(P:Nat->Bool):∀n,((ar n).map λt=>if P t=true then (1:Int)else 0).sum=(cnt n P:Nat)
 | 0=>rfl
 | n+1=>by
  rw [k8,cf,Mi,Dn P n,show (([n]:List Nat).map λt=>if P t=true then (1:Int)else 0).sum=((if P n=true then 1 else 0:Nat):Int)from (bQ _).trans (apply_ite (λk:Nat=>(k:Int)) (P n=true) 1 0).symm]
  exact (vL _ _).symm
theorem Kj:∀p<16,(!(p==0)&&p%8==0)=false->∀F:Nat->Bool,(p%8==1&&F (p/8))=((p==1+8*0&&F 0)||(p==1+8*1&&F 1)):=by
 intro p hp h F
 have key:∀a b:Bool,(p%8==1&&(if p/8=0 then a else b))=((p==1+8*0&&a)||(p==1+8*1&&b)):=(show ∀p<16,∀a b:Bool,(p%8==1&&(if p/8=0 then a else b))=((p==1+8*0&&a)||(p==1+8*1&&b)) by decide) p hp
 rw [<-key]
 match p/8,aH (n:=8) (k:=2) hp with
 | 0,_=>rfl
 | 1,_=>rfl
theorem Aw(hw:w.Ok):cnt w.n (λt=>w.kindP 1 t&&w.freeP (w.b t/8) t)=cnt w.n (w.pasP 0)+cnt w.n (w.pasP 1):=by
 have pf:=λc hc s (hs:s<w.n)=>(Go hw (c:=c) hc hs).trans (congrArg (· &&w.freeP c s) (tN hw hc (aA 1) (by decide) hs))
 rw [<-xA (P:=w.pasP 0) (Q:=w.pasP 1)]
 ·refine cZ λs hs=> ?_
  rw [pf 0 (aE 1) s hs,pf 1 (aA 1) s hs]
  exact Kj _ (hU (hw.pc s hs)).1 (hU (hw.pc s hs)).2 λc=>w.freeP c s
 ·intro s hs h
  rw [pf 0 (aE 1) s hs]at h
  rw [pf 1 (aA 1) s hs,beq_iff_eq.mp (cD h).1];rfl
theorem wd(d:Nat)(hw:w.Ok):(bj br (d+1)).call 123 [.int w.f,.int w.r,w.brdT]=some (.int ((cnt w.n (w.pasP 0)+cnt w.n (w.pasP 1):Nat):Int)):=by
 obtain ⟨J,e⟩:=CV (bj br d) hw (ar w.n) 0 [] λt ht=>az.mp ht
 rw [Dn,Aw hw,de]at e
 exact bq (F:=nB) (ρ:=[iT w.f,iT w.r,some (.sh w.brdT),none,none,none,none,none,none,none]) rfl rfl (.next (.asg .lit) (.next (.forr (.bi (.cons (.bi (.cons (.var rfl) .nil) (oF w hw.shape.n_le)) .nil) (k7 (g5 hw))) (gq (g5 hw)) e) (.h_ret (.var rfl))))
end
end
section
theorem mM(x:Int):∀l:List Nat,uu (.int x) (ka l)=some (l.map λs=>((s:Nat):Int)==x)
 |[]=>rfl
 | a::l=>by
  show (uu (.int x) (ka l)).map _=_
  rw [mM x l];rfl
theorem nN:∀n i k,i<n->lf k ((ar n).map (· ==i))=some (k+i)
 | n+1,0,k,_=>by rw [ko];rfl
 | n+1,i+1,k,h=>by
  rw [ko,zD,a_,show ((· ==i+1)∘b_)=(· ==i)from funext λj=>h_ (Nat.succ_inj (b:=i))]
  exact (nN n i (k+1) (bh h)).trans (congrArg some (by rw [eB,bU 1]))
section
variable{w:Bd}
theorem LM(w:Bd):w.brdT= .list (ka ((ar w.n).map w.b)):=by unfold ka;rw [a_];rfl
theorem lJ{n:Nat}{l:List Nat}(h:l.length<=n):(ka l).length<=n:=by unfold ka;rw [aq];exact h
theorem I8(hn:w.n<=20):((ar w.n).map w.b).length<=1000:=by rw [aq,aK];exact an hn (by decide)
theorem vw(hn:w.n<=20){v k:Nat}(hk:k<w.n)(h:∀s,s<w.n->(w.b s=v↔s=k)):uq .index w.brdT (.int (v:Nat))=some (.int (k:Nat)):=by
 rw [LM]
 refine (if_pos (lJ (I8 hn))).trans ?_
 rw [mM,cY,a_,show (ar w.n).map ((λs:Nat=>((s:Nat):Int)==(v:Int))∘w.b)=(ar w.n).map (· ==k)from bg λs hs=>(cK _ v).trans (h_ (h s (az.mp hs))),nN _ _ _ hk,gw]
 rfl
theorem tB(o:d5)(hw:w.Ok){ρ:b6}{i:Nat}(h:get ρ i=some (.sh w.brdT)):dO o ρ (.bi .range (.cons (.bi .len (.cons (.var i) .nil)) .nil)) (.sh (.rng 0 (w.n:Nat) 1)):= .bi (.cons (.bi (.cons (.var h) .nil) (oF w hw.shape.n_le)) .nil) (k7 (g5 hw))
theorem pT(n:Nat)(P:Nat->Bool):(!(fN n P).isEmpty)= !(cnt n P==0):=by
 rw [<-fX];cases fN n P<;>rfl
theorem rN{l:List Nat}(h:l.length<=1000):bx (.list (ka l))=some (!l.isEmpty):=by
 refine (if_pos (an (lJ h) (by decide))).trans ?_
 cases l<;>rfl
theorem Dc(n:Nat)(P Q:Nat->Bool):(fN n P).filter Q=fN n λs=>P s&&Q s:=by unfold fN;rw [List.filter_filter];exact qG λs _=>cz _ _
theorem D7:∀r∈([4,5]:List Nat),∀x<r,∀y<r,(decide ((r:Int)<=(x:Int)*2)||decide ((r:Int)<=((r:Int) - 1 -(y:Int))*2))=decide (r<=2*x\/r<=2*(r - 1 - y)):=by decide
theorem FI:∀f∈([3,4]:List Nat),∀x<f,decide ((x:Int)<((f/2:Nat):Int))=decide (x<f/2)/\decide ((f:Int) - 1 -(x:Int)<((f/2:Nat):Int))=decide (f - 1 - x<f/2):=by decide
@[reducible] noncomputable def BK(f r:Int)(B:T)(wk bk:Int)(P far Lw Hg v:Option O):b6:=[iT f,iT r,some (.sh B),iT wk,iT bk,P,far,Lw,Hg,v,none,none,none,none]
theorem na(hw:w.Ok)(P:Nat->Bool):(fN w.n P).length<=1000:=by rw [fX];exact an (qz w.n P) (g5 hw)
theorem Ql(hw:w.Ok)(P:Nat->Bool):qI .len [.list (ka (fN w.n P))]=some (.int (cnt w.n P:Nat)):=
 (tW (lJ (na hw P))).trans (by unfold ka;rw [aq,fX])
theorem yl(d:Nat)(hw:w.Ok){wk bk:Nat}(hwk:wk<w.n)(hbk:bk<w.n)(h0:∀s,s<w.n->(w.b s=6↔s=wk))(h1:∀s,s<w.n->(w.b s=14↔s=bk)):(bj br (d+2)).call 124 [.int w.f,.int w.r,w.brdT]=some (.int (w.drive wk bk)):=by
 have hn:w.n<=20:=hw.shape.n_le
 have f2:bK .fdv (.int (w.f:Int)) (.int 2)=some (.int ((w.f/2:Nat):Int)):=(dH (by decide)).trans (congrArg (λx=>some (T.int x)) (gJ w.f 2))
 have wt:=λs=>FI w.f hw.shape.mem.1 _ (d_ s hw.shape.fpos)
 have hO:((ar w.n).map w.b).filter (λq=> !(q==0))=(fN w.n w.occP).map w.b:=ig
 have lO:qI .len [.list (ka ((fN w.n w.occP).map w.b))]=some (.int (cnt w.n w.occP:Nat)):=(tW (lJ (by rw [aq];exact na hw _))).trans (by unfold ka;rw [aq,aq,fX])
 unfold Bd.drive tR
 rw [<-jJ (w.r<=2*(wk/w.f)\/w.r<=2*(w.r - 1 - bk/w.f)),<-D7 w.r hw.shape.mem.2 _ (aH hwk) _ (aH hbk)]
 refine bq (F:=pL) (ρ:=[iT w.f,iT w.r,some (.sh w.brdT),none,none,none,none,none,none,none,none,none,none,none]) rfl rfl (.next (.asg (.meth (.var rfl) .lit (vw hn hwk h0))) (.next (ρ1:=BK w.f w.r w.brdT wk bk none none none none none) (.asg (.meth (.var rfl) .lit (vw hn hbk h1)))
  (.next (ρ1:=BK w.f w.r w.brdT wk bk (some (.sh (.list (ka (fN w.n (w.kindP 1)))))) none none none none) (.asg (.compM rfl (tB _ hw rfl) (gq (g5 hw)) (by rw [aK];exact an (g5 hw) (by decide)) (λs hs=> .cmp (.bin (.idx (.var rfl) (.var rfl) (fZ w (az.mp hs) hn)) .lit (S8 _)) .lit (congrArg some (cK _ 1))) λ_ _ _=> .var rfl))
  (.next (ρ1:=BK w.f w.r w.brdT wk bk (some (.sh (.list (ka (fN w.n (w.kindP 1)))))) (iT (lR (((wk%w.f:Nat):Int) -((bk%w.f:Nat):Int))+((wk/w.f:Nat):Int) -((bk/w.f:Nat):Int))) none none none) (.asg (.bin (.bin (.bi (.cons (.bin (.bin (.var rfl) (.var rfl) (E5 hw wk)) (.bin (.var rfl) (.var rfl) (E5 hw bk)) rfl) .nil) rfl) (.bin (.var rfl) (.var rfl) (E7 hw wk)) rfl) (.bin (.var rfl) (.var rfl) (E7 hw bk)) rfl)) ?_))))
 generalize lR (((wk%w.f:Nat):Int) -((bk%w.f:Nat):Int))+((wk/w.f:Nat):Int) -((bk/w.f:Nat):Int)=far
 refine .next (ρ1:=BK w.f w.r w.brdT wk bk (some (.sh (.list (ka (fN w.n (w.kindP 1)))))) (iT far) (some (.sh (.list (ka ((fN w.n (w.kindP 1)).filter λs=>decide (s%w.f<w.f/2)))))) none none) (.asg (.compM rfl (.var rfl) rfl (an (na hw _) (by decide)) (λs _=> .cmp (op:= .lt) (.bin (.var rfl) (.var rfl) (E5 hw s)) (.bin (.var rfl) .lit f2) (congrArg some (wt s).1)) λ_ _ _=> .var rfl)) ?_
 generalize eL:((fN w.n (w.kindP 1)).filter λs=>decide (s%w.f<w.f/2))=Lw
 refine .next (ρ1:=BK w.f w.r w.brdT wk bk (some (.sh (.list (ka (fN w.n (w.kindP 1)))))) (iT far) (some (.sh (.list (ka Lw)))) (some (.sh (.list (ka ((fN w.n (w.kindP 1)).filter λs=>decide (w.f - 1 - s%w.f<w.f/2)))))) none) (.asg (.compM rfl (.var rfl) rfl (an (na hw _) (by decide)) (λs _=> .cmp (op:= .lt) (.bin (.bin (.var rfl) .lit rfl) (.bin (.var rfl) (.var rfl) (E5 hw s)) rfl) (.bin (.var rfl) .lit f2) (congrArg some (wt s).2)) λ_ _ _=> .var rfl)) ?_
 generalize eH:((fN w.n (w.kindP 1)).filter λs=>decide (w.f - 1 - s%w.f<w.f/2))=Hg
 rw [Dc]at eL eH
 have zL:(!Lw.isEmpty)= !(cnt w.n w.low==0):=by rw [<-eL];exact pT ..
 have zH:(!Hg.isEmpty)= !(cnt w.n w.high==0):=by rw [<-eH];exact pT ..
 refine .next (.asg (.bin (.bin (.bin (.bin .lit (.call (.cons (.var rfl) (.cons (.var rfl) (.cons (.var rfl) .nil))) (wd d hw)) (qK 9 _ rfl)) (.bin .lit (.bi (.cons (.var rfl) .nil) (Ql hw _)) (qK 12 _ rfl)) rfl) (.bin .lit (.var rfl) (qK 9 _ rfl)) rfl) .lit rfl)) ?_
 generalize 9*((cnt w.n (w.pasP 0)+cnt w.n (w.pasP 1):Nat):Int)+12*((cnt w.n (w.kindP 1):Nat):Int)+9*far - 110=v1
 refine .next (Dj (S:=λv=>BK w.f w.r w.brdT wk bk (some (.sh (.list (ka (fN w.n (w.kindP 1)))))) (iT far) (some (.sh (.list (ka Lw)))) (some (.sh (.list (ka Hg)))) (iT v)) rfl rfl (λ_=>rfl) (a:= !(cnt w.n w.low==0)) (b:= !(cnt w.n w.high==0)) (.and (.var rfl (zL▸rN (eL▸na hw _))) (.var rfl (zH▸rN (eH▸na hw _))))) ?_
 refine .next (.augIf (S:=λv=>BK w.f w.r w.brdT wk bk (some (.sh (.list (ka (fN w.n (w.kindP 1)))))) (iT far) (some (.sh (.list (ka Lw)))) (some (.sh (.list (ka Hg)))) (iT v)) (.or (.cmp (.bin (.bin (.var rfl) (.var rfl) (E7 hw wk)) .lit (qd _ 2 rfl)) (.var rfl) rfl) (.cmp (.bin (.bin (.bin (.var rfl) .lit rfl) (.bin (.var rfl) (.var rfl) (E7 hw bk)) rfl) .lit (qd _ 2 rfl)) (.var rfl) rfl)) rfl rfl) ?_
 exact .next (.augIf (S:=λv=>BK w.f w.r w.brdT wk bk (some (.sh (.list (ka (fN w.n (w.kindP 1)))))) (iT far) (some (.sh (.list (ka Lw)))) (some (.sh (.list (ka Hg)))) (iT v)) (P:=w.bare) (.cmp (op:= .eq) (y:= .int ((cnt w.n w.occP:Nat):Int)) (.bin (.bi (.cons (.var rfl) .nil) (Ql hw _)) .lit rfl) (.bi (.cons (.compM (F:=λs:Nat=>T.int (s:Nat)) (P:=λq:Nat=> !(q==0)) rfl (.var rfl) (pv w) (an (I8 hn) (by decide)) (λs _=> .var rfl (congrArg (λb=>some (!b)) (cK s 0))) λ_ _ _=> .var rfl) .nil) (hO▸lO)) (congrArg some (cK (cnt w.n (w.kindP 1)+2) (cnt w.n w.occP)))) rfl rfl) (.h_ret (.var rfl))
end
end
section
section
variable{c:d5}{ρ:b6}{q q':X}{s r:S}{a b:Bool}{x y:Int}
theorem n5.iff2(h1:Ts c ρ q a)(h2:a=true->Ts c ρ q' b)(k1:n5 c ρ s (.int x))(k2:n5 c ρ r (.int y)):n5 c ρ (.seq (.iff q (.seq (.iff q' s .skip) .skip) .skip) r) (.int (if (a&&b)=true then x else y)):=by
 cases a
 ·exact .skip_iff h1 k2
 ·cases b
  ·exact .next (.iff_t h1 (.seq (.iff_f (h2 rfl) .skip) .skip)) k2
  ·exact .h_iff_t h1 (.h_iff_t (h2 rfl) k1)
theorem Ts.andL(h:Ts c ρ q a)(k:a=true->Ts c ρ q' b):Ts c ρ (.andd q q') (a&&b):=by
 cases a
 ·exact .and_f h
 ·exact .and_t h (k rfl)
end
section
variable{w:Bd}
noncomputable def Ue(w:Bd):Bool:=(fN w.n (w.kindP 3)).length==2&& !(w.b ((fN w.n (w.kindP 3)).headD 0)==w.b ((fN w.n (w.kindP 3)).tail.headD 0))
noncomputable def P_(w:Bd):Nat:=(fN w.n (w.kindP 3)).headD 0%w.f+(fN w.n (w.kindP 3)).headD 0/w.f+((fN w.n (w.kindP 3)).tail.headD 0%w.f+(fN w.n (w.kindP 3)).tail.headD 0/w.f)
noncomputable def Qe(w:Bd):Bool:=P_ w%2==1
theorem Dp(n:Nat)(P Q:Nat->Bool):cnt n (λs=>P s&&Q s)=((fN n P).filter Q).length:=by rw [Dc,fX]
theorem ry:∀l:List Nat,l.length=2->l=[l.headD 0,l.tail.headD 0]
 |[_,_],_=>rfl
theorem JL(A B:Nat->Bool)(l:List Nat):(l.countP A==1&&(l.countP (λs=> !A s)==1)&& !((l.countP (λs=>A s&&B s)==0)==(l.countP (λs=> !A s&&B s)==0)))=(l.length==2&& !(A (l.headD 0)==A (l.tail.headD 0))&& !(B (l.headD 0)==B (l.tail.headD 0))):=by
 by_cases h:l.length=2
 ·rw [ry l h]
  generalize l.headD 0=x
  generalize l.tail.headD 0=y
  simp only [Ma,List.countP_nil]
  show (_&&_&& !(_==_))=(true&& !(A x==A y)&& !(B x==B y))
  generalize A x=a;generalize A y=a';generalize B x=b;generalize B y=b'
  revert a a' b b';decide
 ·have e:(l.countP A==1&&(l.countP (λs=> !A s)==1))=false:=cQ.mpr λe=>h (by
   have h2:=l.length_eq_countP_add_countP (p:=A)
   rw [beq_iff_eq.mp (cD e).1,show l.countP (λa=>decide ¬A a=true)=1 from (qH λs _=>by cases A s<;>decide).trans (beq_iff_eq.mp (cD e).2)]at h2
   exact h2)
  rw [e,beq_eq_false_iff_ne.mpr h];rfl
theorem sT:∀p<16,(p%8==3)=true->((!(p==0)&&p/8==1)= !(!(p==0)&&p/8==0))/\∀q<16,(q%8==3)=true->(p==q)=((!(p==0)&&p/8==0)==(!(q==0)&&q/8==0)):=by decide
theorem Kk(a b:Nat):((a+b)%2==1)= !((a%2==1)==(b%2==1)):=by
 rw [Nat.add_mod]
 exact (show ∀a<2,∀b<2,((a+b)%2==1)= !((a==1)==(b==1)) by decide) _ (d_ a (by decide)) _ (d_ b (by decide))
theorem Gv(hw:w.Ok):w.opp=(Ue w&&Qe w):=by
 have hm:∀s,s∈fN w.n (w.kindP 3)->w.b s<16/\(w.b s%8==3)=true:=λs hs=>⟨qQ hw (bW.mp hs).1,(bW.mp hs).2⟩
 have key:∀(Q A:Nat->Bool),(∀s,s∈fN w.n (w.kindP 3)->Q s=A s)->cnt w.n (λs=>w.kindP 3 s&&Q s)=(fN w.n (w.kindP 3)).countP A:=λQ A h=>by
  rw [Dp,<-List.countP_eq_length_filter];exact qH λs hs=>by rw [h s hs]
 have e0:cnt w.n (w.men 0 3)=_:=(cZ λs _=>cz _ _).trans (key (w.sideP 0) (w.sideP 0) λ_ _=>rfl)
 have e1:cnt w.n (w.men 1 3)=_:=(cZ λs _=>cz _ _).trans (key (w.sideP 1) (λs=> !w.sideP 0 s) λs hs=>(sT _ (hm s hs).1 (hm s hs).2).1)
 have e2:cnt w.n (λs=>w.men 0 3 s&&d7 w.f s)=_:=(cZ λs _=>(congrArg (· &&_) (cz _ _)).trans (wj ..)).trans (key (λs=>w.sideP 0 s&&d7 w.f s) (λs=>w.sideP 0 s&&d7 w.f s) λ_ _=>rfl)
 have e3:cnt w.n (λs=>w.men 1 3 s&&d7 w.f s)=_:=(cZ λs _=>(congrArg (· &&_) (cz _ _)).trans (wj ..)).trans (key (λs=>w.sideP 1 s&&d7 w.f s) (λs=> !w.sideP 0 s&&d7 w.f s) λs hs=>congrArg (· &&d7 w.f s) (sT _ (hm s hs).1 (hm s hs).2).1)
 unfold Bd.opp Ue Qe P_
 rw [e0,e1,e2,e3,JL,Kk]
 generalize fN w.n (w.kindP 3)=l at*
 by_cases h:l.length=2
 ·rw [ry l h]at hm
  have hx:=hm _ (.head _)
  have hy:=hm _ (.tail _ (.head _))
  rw [show (w.b (l.headD 0)==w.b (l.tail.headD 0))=(w.sideP 0 (l.headD 0)==w.sideP 0 (l.tail.headD 0))from (sT _ hx.1 hx.2).2 _ hy.1 hy.2];rfl
 ·rw [beq_eq_false_iff_ne.mpr h];rfl
theorem Ez(l:List Nat)(h:l.length<=1000)(k:Nat):uq .count (.list (ka l)) (.int (k:Nat))=some (.int ((l.filter λq=>q==k).length:Nat)):=by
 refine (if_pos (lJ h)).trans ?_
 rw [mM]
 refine congrArg (λn:Nat=>some (T.int n)) ?_
 rw [ig,aq]
 exact congrArg Td (qG λq _=>cK q k)
theorem yj(d:Nat)(hw:w.Ok){st:Nat}(hst:st<=1):(bj br (d+2)).call 126 [.int w.f,w.brdT,.int (st:Nat)]=some (.int (w.scale st)):=by
 have hn:w.n<=20:=hw.shape.n_le
 have hO:((((ar w.n).map w.b).filter λq=> !(q==0)&&q/8==st).map λq=>T.int ((q%8:Nat):Int))=ka ((fN w.n (w.sideP st)).map λs=>w.b s%8):=by
  unfold ka;rw [ig,a_,a_];rfl
 have hl:((fN w.n (w.sideP st)).map λs=>w.b s%8).length<=1000:=by rw [aq];exact na hw _
 have hcn:uq .count (.list (ka ((fN w.n (w.sideP st)).map λs=>w.b s%8))) (.int 1)=some (.int (w.N st 1)):=(Ez _ hl 1).trans (congrArg (λn:Nat=>some (T.int n)) (by
  rw [ig,aq];exact (Dp w.n (w.sideP st) (w.kindP 1)).symm))
 have hln:qI .len [.list (ka ((fN w.n (w.sideP st)).map λs=>w.b s%8))]=some (.int (cnt w.n (w.sideP st):Nat)):=(tW (lJ hl)).trans (by unfold ka;rw [aq,aq,fX])
 have hlT:qI .len [.list (ka (fN w.n (w.kindP 3)))]=some (.int ((fN w.n (w.kindP 3)).length:Nat)):=fX (w.kindP 3) w.n▸Ql hw (w.kindP 3)
 have k1:=iS d hw (bE 1 st)
 rw [<-zY hst]at k1
 unfold Bd.scale xn
 rw [Gv hw]
 refine bq (F:=pJ) (ρ:=[iT w.f,some (.sh w.brdT),iT st,none,none,none,none,none,none,none]) rfl rfl (.next (.asg (.compM (P:=λq=> !(q==0)&&q/8==st) (H:=λq=>T.int ((q%8:Nat):Int)) rfl (.var rfl) (pv w) (an (I8 hn) (by decide)) (λq _=> .and (.var rfl (congrArg (λb=>some (!b)) (cK q 0))) (.cmp (op:= .eq) (.bin (.var rfl) .lit (T5 q)) (.var rfl) (congrArg some (cK _ st)))) λq _ _=> .bin (.var rfl) .lit (S8 q))) ?_)
 rw [hO]
 generalize ka ((fN w.n (w.sideP st)).map λs=>w.b s%8)=Ow at*
 refine .next (.asg (.call (.cons (.var rfl) (.cons (.var rfl) (.cons .lit .nil))) (iS d hw hst))) (.next (ρ1:=[iT w.f,some (.sh w.brdT),iT st,some (.sh (.list Ow)),iT (w.W st),iT (w.W (1 - st)),none,none,none,none]) (.asg (.call (.cons (.var rfl) (.cons (.bin .lit (.var rfl) rfl) (.cons .lit .nil))) k1)) ?_)
 refine .iffI (.andD (.cmp (.meth (.var rfl) .lit hcn) .lit rfl) (.cmp (.bin (.var rfl) (.var rfl) rfl) .lit rfl)) (.iffI (.cmp (.var rfl) .lit rfl) (.h_ret .lit) (.h_ret (.iteI (.cmp (.var rfl) .lit rfl) .lit .lit)))
  (.next (ρ1:=[iT w.f,some (.sh w.brdT),iT st,some (.sh (.list Ow)),iT (w.W st),iT (w.W (1 - st)),some (.sh (.list (ka (fN w.n (w.kindP 3))))),none,none,none]) (.asg (.compM rfl (tB _ hw rfl) (gq (g5 hw)) (by rw [aK];exact an (g5 hw) (by decide)) (λs hs=> .cmp (.bin (.idx (.var rfl) (.var rfl) (fZ w (az.mp hs) hn)) .lit (S8 _)) .lit (congrArg some (cK _ 3))) λ_ _ _=> .var rfl)) ?_)
 have hm:∀s,s∈fN w.n (w.kindP 3)->s<w.n:=λs h=>(bW.mp h).1
 unfold Ue Qe P_
 generalize fN w.n (w.kindP 3)=l at*
 have two:∀{b:Bool},(l.length==2&&b)=true->l=[l.headD 0,l.tail.headD 0]:=λe=>ry l (beq_iff_eq.mp (cD e).1)
 have i0:∀{x y:Nat},l=[x,y]->b4 0 (.sh (.list (ka l)))=some (.sh (.int (x:Nat)))/\b4 1 (.sh (.list (ka l)))=some (.sh (.int (y:Nat))):=λe=>by rw [e];exact ⟨rfl,rfl⟩
 refine .iff2 (.andL (.cmp (op:= .eq) (y:= .int 2) (.bi (.cons (.var rfl) .nil) hlT) .lit (congrArg some (cK _ 2))) λe=> ?_) (λe=> ?_) (.iffI (.andD (.cmp (.var rfl) .lit rfl) (.cmp (.var rfl) .lit rfl)) (.h_ret (.bi (.cons .lit (.cons (.bin .lit (.bin .lit (.meth (.var rfl) .lit hcn) (qK 4 _ rfl)) rfl) .nil)) (iN ..))) (.h_ret (.bi (.cons .lit (.cons (.bin .lit (.bin .lit (.bi (.cons (.var rfl) .nil) hln) (qK 3 _ rfl)) rfl) .nil)) (iN ..))))
  (.h_ret (.bi (.cons .lit (.cons (.bin .lit (.bin .lit (.meth (.var rfl) .lit hcn) (qK 7 _ rfl)) rfl) .nil)) (iN ..)))
 ·have e2:=ry l (beq_iff_eq.mp e)
  have j:=i0 e2
  rw [e2]at hm
  exact .cmp (op:= .ne) (.idx (.var rfl) (.idx (.var rfl) .lit j.1) (fZ w (hm _ (.head _)) hn)) (.idx (.var rfl) (.idx (.var rfl) .lit j.2) (fZ w (hm _ (.tail _ (.head _))) hn)) (congrArg (λb=>some (!b)) (cK _ _))
 ·have e2:=two e
  generalize l.headD 0=x at*
  generalize l.tail.headD 0=y at*
  rw [e2]
  exact .cmp (op:= .eq) (.bin (.bi (.cons (.compN (L:=[x,y]) (F:=λs:Nat=>T.int (s:Nat)) (H:=λs=>T.int ((s%w.f:Nat)+(s/w.f:Nat):Int)) (.var rfl) rfl (bm rfl) λs _=> .bin (.bin (.var rfl) (.var rfl) (E5 hw s)) (.bin (.var rfl) (.var rfl) (E7 hw s)) rfl) .nil) (t:= .int ((x%w.f+x/w.f+(y%w.f+y/w.f):Nat):Int)) rfl) .lit ((g6 rfl).trans (congrArg (λk=>some (T.int k)) (kX _ 2)))) .lit (congrArg some (cK _ 1))
end
end
section
@[reducible] noncomputable def TF:S:= .seq (.augI (.var 4) (.var 8) .add (.bin .sub (.idx (.call 120 (.cons (.var 6) .nil)) (.var 8)) (.idx (.call 120 (.cons (.var 7) .nil)) (.var 8)))) .skip
@[reducible] noncomputable def Nl:S:= .seq (.forr [8] (.tup (.cons (.lit (.int 0)) (.cons (.lit (.int 1)) .nil))) TF) .skip
@[reducible] noncomputable def xJ(f r B Rw:T)(m e:Int)(a b c h:Option O):b6:=[some (.sh f),some (.sh r),some (.sh B),some (.sh Rw),some (.lst [.sh (.int m),.sh (.int e)]),a,b,c,h,none,none,none,none,none,none,none,none]
theorem GN(d:Nat){f r B RR:T}{m e u v:Int}{s:T}{h:Option O}:
  Ex (bj br (d+1)) (xJ f r B RR m e (some (.sh s)) (iT u) (iT v) h) Nl (xJ f r B RR (m+(tM u - tM v)) (e+(A4 u - A4 v)) (some (.sh s)) (iT u) (iT v) (iT 1)):=
 .seq (.forr (.tup (.cons .lit (.cons .lit .nil))) rfl
  (.cons (ρ1:=xJ f r B RR m e (some (.sh s)) (iT u) (iT v) (iT 0)) (ρ2:=xJ f r B RR (m+(tM u - tM v)) e (some (.sh s)) (iT u) (iT v) (iT 0)) rfl (.seq (.augI (j:=0) (m:=[.sh (.int m),.sh (.int e)]) rfl (.var rfl) rfl (.bin (.idx (.call (.cons (.var rfl) .nil) (gz d u)) (.var rfl) rfl) (.idx (.call (.cons (.var rfl) .nil) (gz d v)) (.var rfl) rfl) rfl) rfl rfl) .skip)
  (.cons (ρ1:=xJ f r B RR (m+(tM u - tM v)) e (some (.sh s)) (iT u) (iT v) (iT 1)) (ρ2:=xJ f r B RR (m+(tM u - tM v)) (e+(A4 u - A4 v)) (some (.sh s)) (iT u) (iT v) (iT 1)) rfl (.seq (.augI (j:=1) (m:=[.sh (.int (m+(tM u - tM v))),.sh (.int e)]) rfl (.var rfl) rfl (.bin (.idx (.call (.cons (.var rfl) .nil) (gz d u)) (.var rfl) rfl) (.idx (.call (.cons (.var rfl) .nil) (gz d v)) (.var rfl) rfl) rfl) rfl rfl) .skip) .nil))) .skip
theorem yU(d:Nat){f r B RR:T}:∀(L:List Rw) (m e:Int) (a b c h:Option O),∃x y z u,FL (bj br (d+1)) Nl [5,6,7] (L.map nZ) (xJ f r B RR m e a b c h) (xJ f r B RR (m+B2 L) (e+A7 L) x y z u)
 |[],m,e,a,b,c,h=>⟨a,b,c,h,by rw [show B2 []=0 from rfl,show A7 []=0 from rfl,bQ,bQ];exact .nil⟩
 |(s,u,v)::L,m,e,a,b,c,h=>by
  obtain ⟨x,y,z,t,ee⟩:=yU d (f:=f) (r:=r) (B:=B) (RR:=RR) L (m+(tM u - tM v)) (e+(A4 u - A4 v)) (some (.sh (.str s))) (iT u) (iT v) (iT 1)
  rw [dh,dh]at ee
  exact ⟨x,y,z,t,.cons (ρ1:=xJ f r B RR m e (some (.sh (.str s))) (iT u) (iT v) h) rfl (GN d) ee⟩
section
variable{w:Bd}
@[reducible] noncomputable def Qi(f r B Rw:T)(L a b c h:Option O)(D m1 e1 lo hi x ph:Option O):b6:=[some (.sh f),some (.sh r),some (.sh B),some (.sh Rw),L,a,b,c,h,D,m1,e1,lo,hi,x,ph,none]
theorem yh(d:Nat)(hw:w.Ok){wk bk:Nat}(hwk:wk<w.n)(hbk:bk<w.n)(h0:∀s,s<w.n->(w.b s=6↔s=wk))(h1:∀s,s<w.n->(w.b s=14↔s=bk))(L:List Rw):
  (bj br (d+4)).call 127 [.int w.f,.int w.r,w.brdT,.list (L.map nZ)]=some (.tup [.list [.int (B2 L),.int (A7 L)],.int (w.val wk bk (B2 L) (A7 L))]):=by
 have hn:w.n<=20:=hw.shape.n_le
 have hp1:1<=w.n:=I5 hw.shape
 obtain ⟨a,b,c,h,e⟩:=yU (d+2) (f:= .int w.f) (r:= .int w.r) (B:=w.brdT) (RR:= .list (L.map nZ)) L 0 0 none none none none
 rw [de,de]at e
 have hph:=IV (w:=w) hw.shape
 have hsc:=yj (d+1) hw (st:=if 0<gY (A7 L) (w.drive wk bk)then 0 else 1) (by split<;>decide)
 rw [apply_ite (λn:Nat=>(n:Int))]at hsc
 unfold Bd.val jg
 have x1:=jp hph (by decide) (by decide)
 have x2:small (128 - w.phase)=true:=jp (a:=0) (b:=128) ⟨gW hph.2,vK _ hph.1⟩ (by decide) (by decide)
 have x3:=λst=>jp (IU (w:=w) st) (by decide) (by decide)
 refine bq (F:=pI) (ρ:=[iT w.f,iT w.r,some (.sh w.brdT),some (.sh (.list (L.map nZ))),none,none,none,none,none,none,none,none,none,none,none,none,none]) rfl rfl
  (.next (ρ1:=xJ (.int w.f) (.int w.r) w.brdT (.list (L.map nZ)) 0 0 none none none none) (.asgO rfl) (.next (.forr (.var rfl) rfl e) (.next (.asg (.call (.cons (.var rfl) (.cons (.var rfl) (.cons (.var rfl) .nil))) (yl (d+1) hw hwk hbk h0 h1)))
  (.next (.asg (.call (.cons (.idx (.var rfl) .lit rfl) (.cons (.bi (.cons (.bin (.var rfl) .lit rfl) (.cons .lit .nil)) (iN ..)) .nil)) (vj (d+2) _ _)))
  (.next (.asg (.call (.cons (.idx (.var rfl) .lit rfl) (.cons (.var rfl) .nil)) (vj (d+2) _ _))) ?_)))))
 generalize gY (A7 L) (w.drive wk bk)=e1 at*
 generalize gY (B2 L) (min (w.drive wk bk+50) 0)=m1
 generalize w.drive wk bk=D
 refine .next (ρ1:=Qi (.int w.f) (.int w.r) w.brdT (.list (L.map nZ)) (some (.lst [.sh (.int (B2 L)),.sh (.int (A7 L))])) a b c h (iT D) (iT m1) (iT e1) (iT (jA w.n)) none none none) (.asg (.bin (.bin .lit (.bi (.cons (.var rfl) .nil) (oF w hn)) (qK 3915 _ rfl)) .lit (dH rfl)))
  (.next (.asg (.bin (.bin .lit (.bi (.cons (.var rfl) .nil) (oF w hn)) (qK 15258 _ rfl)) .lit (dH rfl)))
  (.next (ρ1:=Qi (.int w.f) (.int w.r) w.brdT (.list (L.map nZ)) (some (.lst [.sh (.int (B2 L)),.sh (.int (A7 L))])) a b c h (iT D) (iT m1) (iT e1) (iT (jA w.n)) (iT (my w.n)) (iT (min (max (w.W 0+w.W 1) (jA w.n)) (my w.n))) none) (.asg (.bi (.cons (.bi (.cons (.bin (.call (.cons (.var rfl) (.cons .lit (.cons .lit .nil))) (iS (d+2) hw (aE 1))) (.call (.cons (.var rfl) (.cons .lit (.cons .lit .nil))) (iS (d+2) hw (aA 1))) rfl) (.cons (.var rfl) .nil)) (nj ..)) (.cons (.var rfl) .nil)) (iN ..)))
  (.next (ρ1:=Qi (.int w.f) (.int w.r) w.brdT (.list (L.map nZ)) (some (.lst [.sh (.int (B2 L)),.sh (.int (A7 L))])) a b c h (iT D) (iT m1) (iT e1) (iT (jA w.n)) (iT (my w.n)) (iT (min (max (w.W 0+w.W 1) (jA w.n)) (my w.n))) (iT w.phase)) (.asg (.bin (.bin (.bin (.var rfl) (.var rfl) rfl) .lit (qd _ 128 rfl)) (.bin (.var rfl) (.var rfl) rfl) (dH (HW w.n (aU hn) hp1)))) ?_)))
 generalize w.phase=ph at*
 exact .next (.asg (.call (.cons (.bin (.bin (.var rfl) (.bin .lit (.var rfl) rfl) (qd _ _ x2)) (.call (.cons (.var rfl) (.cons (.var rfl) (.cons (.iteI (P:=0<e1) (.cmp (.var rfl) .lit rfl) .lit .lit) .nil))) hsc) (qd _ _ (x3 _))) (.cons .lit .nil)) (tz (d+2) _ (by decide) rfl))) (.next (.frz rfl) (.h_ret (.tup (.cons (.var rfl) (.cons (.call (.cons (.bin (.bin (.var rfl) (.var rfl) (qd _ _ x1)) (.var rfl) rfl) (.cons .lit .nil)) (tz (d+2) _ (by decide) rfl)) .nil)))))
end
end
section
structure BX(f r wk bk:Nat)(b:Nat->Nat)(k:Nat):Prop where
 pc:∀s,s<f*r->b s=0\/(b s<16/\1<=b s%8/\b s%8<=6)
 k6:∀s,s<f*r->(b s=6↔s=wk)
 k14:∀s,s<f*r->(b s=14↔s=bk)
 pawn:∀s,s<f*r->b s%8=1->1<=s/f/\s/f+2<=r
 few:cnt (f*r) (λs=> !(b s==0))<=k
noncomputable def kN(b:Nat->Nat)(i p:Nat):Nat->Nat:=λs=>if s=i then p else b s
theorem i'{P:Nat->Nat->Prop}{n i p:Nat}{b:Nat->Nat}(h:∀s,s<n->P s (b s))(hp:P i p):∀s,s<n->P s (kN b i p s):=λs hs=>by
 unfold kN
 by_cases e:s=i
 ·rw [if_pos e,e];exact hp
 ·rw [if_neg e];exact h s hs
theorem wl{n i p k:Nat}{b:Nat->Nat}(hi:i<n)(h0:b i=0)(h:cnt n (λs=> !(b s==0))<=k):cnt n (λs=> !(kN b i p s==0))<=k+1:=by
 refine an (oB (Q:=λs=> !(b s==0)||s==i) λs _ hs=> ?_) ?_
 ·unfold kN at hs
  by_cases e:s=i
  ·exact or_t.mpr (.inr (beq_iff_eq.mpr e))
  ·rw [if_neg e]at hs;exact or_t.mpr (.inl hs)
 ·rw [xA (P:=λs=> !(b s==0)) (Q:=λs=>s==i) λs _ hs=>beq_eq_false_iff_ne.mpr λe=>by
   subst e;rw [h0]at hs;exact absurd hs (by decide),rH _ _ hi]
  exact bf h
theorem BX.upd{f r wk bk:Nat}{b:Nat->Nat}{k i p:Nat}(h:BX f r wk bk b k)(hi:i<f*r)(h0:b i=0)(hp:p<16/\1<=p%8/\p%8<=5)(hpw:p%8=1->1<=i/f/\i/f+2<=r):BX f r wk bk (kN b i p) (k+1):=
 ⟨i' (P:=λs q=>q=0\/(q<16/\1<=q%8/\q%8<=6)) h.pc (.inr ⟨hp.1,hp.2.1,gm hp.2.2⟩),
  i' (P:=λs q=>q=6↔s=wk) h.k6 ⟨λe=>absurd hp.2.2 (by rw [e];decide),λe=>absurd ((h.k6 i hi).mpr e) (by rw [h0];decide)⟩,
  i' (P:=λs q=>q=14↔s=bk) h.k14 ⟨λe=>absurd hp.2.2 (by rw [e];decide),λe=>absurd ((h.k14 i hi).mpr e) (by rw [h0];decide)⟩,
  i' (P:=λs q=>q%8=1->1<=s/f/\s/f+2<=r) h.pawn hpw,wl hi h0 h.few⟩
noncomputable def fT(n:Nat)(b:Nat->Nat):List O:=(ar n).map λs=> .sh (.int (b s:Nat))
theorem oD(n:Nat)(b:Nat->Nat)(i p:Nat):dp (fT n b) i (.sh (.int (p:Nat)))=fT n (kN b i p):=
 (mC ..).trans (bg λs _=>(apply_ite (λq:Nat=>O.sh (.int (q:Nat))) (s=i) p (b s)).symm)
theorem kZ{n:Nat}(b:Nat->Nat){i:Nat}(hi:i<n)(hn:n<=20):cr (i:Nat) (fT n b).length=some i:=by
 unfold fT;rw [aq,aK]
 exact if_pos ⟨au i,bF.mpr hi,bF.mpr (bR hi (an hn (by decide)))⟩
theorem Hu{n:Nat}(b:Nat->Nat){i:Nat}(hi:i<n)(hn:n<=20):b4 (i:Nat) (.lst (fT n b))=some (.sh (.int (b i:Nat))):=by
 show ((cr (i:Nat) (fT n b).length).bind (nth _))=_
 rw [kZ b hi hn];exact fA _ hi
theorem o9{a:Nat}(h:a<=1000):small (a:Int)=true:=n9 (bS (by decide) (au a)) (bC (aW.mpr h) (by decide))
theorem SB{l:List T}(h:l.length<=1000):decide (l.length<=1000000)=true:=decide_eq_true (an h (by decide))
theorem DZ{a:Int}{l:List T}(h0:0<=a)(h1:small a=true)(h2:l.length<=1000):mx (some a) none (.list l)=some (.list (l.drop a.toNat)):=if_pos (by rw [h1,decide_eq_true h0,SB h2];rfl)
theorem F7{a b:Int}{l:List T}(h0:0<=a)(h1:small a=true)(k0:0<=b)(k1:small b=true)(h2:l.length<=1000):mx (some a) (some b) (.list l)=some (.list ((l.take b.toNat).drop a.toNat)):=if_pos (by rw [h1,k1,decide_eq_true h0,decide_eq_true k0,SB h2];rfl)
theorem yx{a:Nat}{l:List T}(h1:a<=1000)(h2:l.length<=1000):mx (some (a:Int)) none (.list l)=some (.list (l.drop a)):=DZ (au a) (o9 h1) h2
theorem Ce{a b:Nat}{l:List T}(h1:a<=1000)(k1:b<=1000)(h2:l.length<=1000):mx (some (a:Int)) (some (b:Int)) (.list l)=some (.list ((l.take b).drop a)):=F7 (au a) (o9 h1) (au b) (o9 k1) h2
theorem hZ(x:Int){n:Nat}(hn:0<n):∃k:Nat,k<n/\x.fmod (n:Int)=(k:Nat):=by
 obtain ⟨k,e⟩:=cR (Int.fmod_nonneg_of_pos x (bF.mpr hn))
 exact ⟨k,bF.mp (e▸Int.fmod_lt_of_pos x (bF.mpr hn)),e⟩
section
variable{c:d5}{ρ:b6}{a b:X}{x y:Bool}{t u:T}{k l:Int}
theorem dO.orB(h1:dO c ρ a (.sh (.bool x)))(h2:dO c ρ b (.sh (.bool y))):dO c ρ (.orr a b) (.sh (.bool (x||y))):=by
 show ((ev c a ρ).bind O.t?).bind _=_
 rw [h1]
 cases x
 ·show (ev c b ρ).bind _=_
  rw [h2];rfl
 ·rfl
theorem dO.slc1(h1:dO c ρ a (.sh t))(h2:dO c ρ b (.sh (.int k)))(h:mx (some k) none t=some u):dO c ρ (.slc a b .nil) (.sh u):=by
 show ((ev c a ρ).bind O.t?).bind _=_
 rw [h1];show ((ev c b ρ).bind O.int?).bind _=_;rw [h2];show mP (mx (some k) none t)=_;rw [h];rfl
end
@[reducible] noncomputable def qf(f r N n wk:Option O)(L:List O)(it:Option O)(J:b6):b6:=[f,r,N,n,some (.lst L),wk,it,get J 0,get J 1,get J 2]
@[reducible] noncomputable def BN:S:= .seq (.asg 7 (.bin .mod (.var 6) (.var 3))) (.seq (.asg 8 (.bin .add (.lit (.int 1)) (.bin .mod (.bin .fdv (.var 6) (.var 3)) (.lit (.int 5))))) (.seq (.asg 9 (.orr (.cmp .eq (.bin .fdv (.var 7) (.var 0)) (.lit (.int 0))) (.cmp .eq (.bin .fdv (.var 7) (.var 0)) (.bin .sub (.var 1) (.lit (.int 1)))))) (.seq (.iff (.andd (.cmp .eq (.idx (.var 4) (.var 7)) (.lit (.int 0))) (.nott (.andd (.cmp .eq (.var 8) (.lit (.int 1))) (.var 9)))) (.seq (.setI (.var 4) (.var 7) (.bin .add (.var 8) (.bin .mul (.bin .mod (.bin .fdv (.var 6) (.bin .mul (.var 3) (.lit (.int 5)))) (.lit (.int 2))) (.lit (.int 8))))) .skip) .skip) .skip)))
theorem LU:∀kd:Nat,kd<5->∀cl:Nat,cl<2->1+kd+cl*8<16/\1<=(1+kd+cl*8)%8/\(1+kd+cl*8)%8<=5/\(((1+kd+cl*8)%8==1)=((1+(kd:Int))==1)):=by decide
theorem LS:∀r∈([4,5]:List Nat),∀y<r,((((y:Nat):Int)==0)||(((y:Nat):Int)==(r:Int) - 1))=false->1<=y/\y+2<=r:=by decide
theorem Nc:∀f∈([3,4]:List Nat),∀r∈([4,5]:List Nat),0<f*r/\((((f*r:Nat):Int)==0)|| !small ((f*r:Nat):Int))=false/\((((f*r:Nat):Int)*5==0)|| !small (((f*r:Nat):Int)*5))=false/\((((f*r:Nat):Int)==0))=false/\(((f*r:Nat):Int) - 1==0)=false/\0<f*r - 1/\((f*r:Nat):Int) - 1=((f*r - 1:Nat):Int):=by decide
theorem Ht(o:d5){f r wk bk k:Nat}{b:Nat->Nat}{N W:Option O}{J:b6}(hs:bX f r)(h:BX f r wk bk b k)(v:Int):
  ∃b' J',BX f r wk bk b' (k+1)/\Ex o (qf (iT f) (iT r) N (iT (f*r:Nat)) W (fT (f*r) b) (iT v) J) BN (qf (iT f) (iT r) N (iT (f*r:Nat)) W (fT (f*r) b') (iT v) J'):=by
 have nt:=Nc f hs.mem.1 r hs.mem.2
 obtain ⟨sq,q1,q2⟩:=hZ v nt.1
 obtain ⟨kd,k1,k2⟩:=hZ (v.fdiv ((f*r:Nat):Int)) (n:=5) (by decide)
 obtain ⟨cl,c1,c2⟩:=hZ (v.fdiv (((f*r:Nat):Int)*5)) (n:=2) (by decide)
 have m0:bK .mod (.int v) (.int (f*r:Nat))=some (.int (sq:Nat)):=(g6 nt.2.2.2.1).trans (congrArg (λk=>some (T.int k)) q2)
 have m5:bK .mod (.int (v.fdiv ((f*r:Nat):Int))) (.int 5)=some (.int (kd:Nat)):=(g6 rfl).trans (congrArg (λk=>some (T.int k)) k2)
 have m2:bK .mod (.int (v.fdiv (((f*r:Nat):Int)*5))) (.int 2)=some (.int (cl:Nat)):=(g6 rfl).trans (congrArg (λk=>some (T.int k)) c2)
 have df:bK .fdv (.int (sq:Nat)) (.int (f:Int))=some (.int ((sq/f:Nat):Int)):=by rw [dH (EZ hs),gJ]
 have e3:Ex o (qf (iT f) (iT r) N (iT (f*r:Nat)) W (fT (f*r) b) (iT v) [iT sq,iT (1+(kd:Int)),get J 2]) (.asg 9 (.orr (.cmp .eq (.bin .fdv (.var 7) (.var 0)) (.lit (.int 0))) (.cmp .eq (.bin .fdv (.var 7) (.var 0)) (.bin .sub (.var 1) (.lit (.int 1)))))) (qf (iT f) (iT r) N (iT (f*r:Nat)) W (fT (f*r) b) (iT v) [iT sq,iT (1+(kd:Int)),bB ((((sq/f:Nat):Int)==0)||(((sq/f:Nat):Int)==(r:Int) - 1))]):=
  .asg (.orB (.cmp (.bin (.var rfl) (.var rfl) df) .lit rfl) (.cmp (.bin (.var rfl) (.var rfl) df) (.bin (.var rfl) .lit rfl) rfl))
 have bt:=LU kd k1 cl c1
 have bt2:=LS r hs.mem.2 _ (aH q1)
 generalize ((((sq/f:Nat):Int)==0)||(((sq/f:Nat):Int)==(r:Int) - 1))=ou at*
 have hq:Ts o (qf (iT f) (iT r) N (iT (f*r:Nat)) W (fT (f*r) b) (iT v) [iT sq,iT (1+(kd:Int)),bB ou]) (.andd (.cmp .eq (.idx (.var 4) (.var 7)) (.lit (.int 0))) (.nott (.andd (.cmp .eq (.var 8) (.lit (.int 1))) (.var 9)))) ((((b sq:Nat):Int)==0)&& !((1+(kd:Int)==1)&&ou)):= .and (.cmp (.idx (.var rfl) (.var rfl) (Hu b q1 hs.n_le)) .lit rfl) (.not (.and (.cmp (.var rfl) .lit rfl) (.var rfl rfl)))
 have pre:∀{ρ:b6},Ex o (qf (iT f) (iT r) N (iT (f*r:Nat)) W (fT (f*r) b) (iT v) [iT sq,iT (1+(kd:Int)),bB ou]) (.seq (.iff (.andd (.cmp .eq (.idx (.var 4) (.var 7)) (.lit (.int 0))) (.nott (.andd (.cmp .eq (.var 8) (.lit (.int 1))) (.var 9)))) (.seq (.setI (.var 4) (.var 7) (.bin .add (.var 8) (.bin .mul (.bin .mod (.bin .fdv (.var 6) (.bin .mul (.var 3) (.lit (.int 5)))) (.lit (.int 2))) (.lit (.int 8))))) .skip) .skip) .skip) ρ->Ex o (qf (iT f) (iT r) N (iT (f*r:Nat)) W (fT (f*r) b) (iT v) J) BN ρ:=λh=>
  .seq (.asg (.bin (.var rfl) (.var rfl) m0)) (.seq (ρ1:=qf (iT f) (iT r) N (iT (f*r:Nat)) W (fT (f*r) b) (iT v) [iT sq,iT (1+(kd:Int)),get J 2]) (.asg (.bin .lit (.bin (.bin (.var rfl) (.var rfl) (dH nt.2.1)) .lit m5) rfl)) (.seq e3 h))
 cases hc:((((b sq:Nat):Int)==0)&& !((1+(kd:Int)==1)&&ou))
 ·rw [hc]at hq
  exact ⟨b,_,⟨h.pc,h.k6,h.k14,h.pawn,gm h.few⟩,pre (.seq (.iff_f hq .skip) .skip)⟩
 ·rw [hc]at hq
  have hc:=cD hc
  refine ⟨kN b sq (1+kd+cl*8),[iT sq,iT (1+(kd:Int)),bB ou],h.upd q1 (uh.inj (beq_iff_eq.mp hc.1)) ⟨bt.1,bt.2.1,bt.2.2.1⟩ (λe=>bt2 ((show ∀a b:Bool,(!(a&&b))=true->a=true->b=false by decide) _ _ hc.2 (bt.2.2.2▸beq_iff_eq.mpr e))),pre (.seq (.iff_t hq (.seq ?_ .skip)) .skip)⟩
  rw [<-oD]
  exact .setI (m:=fT (f*r) b) rfl (.var rfl) (.bin (.var rfl) (.bin (.bin (.bin (.var rfl) (.bin (.var rfl) .lit (qd _ 5 rfl)) (dH nt.2.2.1)) .lit m2) .lit (qd _ 8 rfl)) rfl) (kZ b q1 hs.n_le)
theorem Dx(o:d5){f r wk bk:Nat}{N W:Option O}(hs:bX f r):∀(l:List Int) (b:Nat->Nat) (k:Nat) (it:Option O) (J:b6),BX f r wk bk b k->
  ∃b' yi J',BX f r wk bk b' (k+l.length)/\FL o BN [6] (l.map .int) (qf (iT f) (iT r) N (iT (f*r:Nat)) W (fT (f*r) b) it J) (qf (iT f) (iT r) N (iT (f*r:Nat)) W (fT (f*r) b') yi J')
 |[],b,k,it,J,h=>⟨b,it,J,h,.nil⟩
 | v::l,b,k,it,J,h=>by
  obtain ⟨b1,J1,h1,e1⟩:=Ht o (N:=N) (W:=W) (J:=J) hs h v
  obtain ⟨b2,yi,J2,h2,e2⟩:=Dx o (N:=N) (W:=W) hs l b1 (k+1) (iT v) J1 h1
  exact ⟨b2,yi,J2,by rw [j9,bU l.length,<-eB];exact h2,.cons (ρ1:=qf (iT f) (iT r) N (iT (f*r:Nat)) W (fT (f*r) b) (iT v) J) rfl e1 e2⟩
theorem RP{wk m n:Nat}(h:wk<n)(hm:m<n - 1):(wk+1+m)%n≠wk:=by
 rcases iU (wk+1+m) n with h | h
 ·rw [tF h];omega
 ·rw [Jl h,tF (by omega)];omega
theorem UP{f r wk bk:Nat}(w1:wk<f*r)(b1:bk<f*r)(hne:bk≠wk):BX f r wk bk (kN (kN (λ_=>0) wk 6) bk 14) 2:=by
 have z:kN (λ_=>0) wk 6 bk=0:=if_neg hne
 refine ⟨i' (P:=λs q=>q=0\/(q<16/\1<=q%8/\q%8<=6)) (i' (P:=λs q=>q=0\/(q<16/\1<=q%8/\q%8<=6)) (λ_ _=> .inl rfl) (.inr (by decide))) (.inr (by decide)),?_,?_,
  i' (P:=λs q=>q%8=1->1<=s/f/\s/f+2<=r) (i' (P:=λs q=>q%8=1->1<=s/f/\s/f+2<=r) (λ_ _ e=>absurd e (by decide)) λe=>absurd e (by decide)) (λe=>absurd e (by decide)),wl b1 z (wl w1 rfl (DL (eJ.mpr λ_ _=>rfl)))⟩
 ·intro s _
  unfold kN
  by_cases e:s=bk
  ·rw [if_pos e,e];exact ⟨λh=>absurd h (by decide),λh=>absurd h hne⟩
  ·rw [if_neg e]
   by_cases e2:s=wk
   ·rw [if_pos e2];exact ⟨λ_=>e2,λ_=>rfl⟩
   ·rw [if_neg e2];exact ⟨λh=>absurd h (show ¬(0:Nat)=6 by decide),λh=>absurd h e2⟩
 ·intro s _
  unfold kN
  by_cases e:s=bk
  ·rw [if_pos e];exact ⟨λ_=>e,λ_=>rfl⟩
  ·rw [if_neg e]
   by_cases e2:s=wk
   ·rw [if_pos e2];exact ⟨λh=>absurd h (by decide),λh=>absurd h e⟩
   ·rw [if_neg e2];exact ⟨λh=>absurd h (show ¬(0:Nat)=14 by decide),λh=>absurd h e⟩
theorem UG:∀ns:List Int,ns.length<=7->∃n0 n1 rest,ns++[(0:Int),9].drop ns.length=n0::n1::rest/\rest.length<=5
 |[],_=>⟨0,9,[],rfl,aE 5⟩
 |[a],_=>⟨a,9,[],rfl,aE 5⟩
 | a::b::l,h=>⟨a,b,l,congrArg (λt=>a::b::t) (show l++Uj l.length []=l by rw [Qz,bc]),f_ (f_ h)⟩
theorem KH{l:List T}{t u:T}(h:l.length<=5):b4 0 (.sh (.list (t::u::l)))=some (.sh t)/\b4 1 (.sh (.list (t::u::l)))=some (.sh u):=by
 have h7:(t::u::l).length<=7:=bf (bf h)
 have p:∀i:Nat,i<2->cr (i:Nat) (t::u::l).length=some i:=λi hi=>if_pos ⟨au i,bF.mpr (bR hi (bf (bf (aE _)))),bF.mpr (ll hi (by decide))⟩
 exact ⟨by show (((cr ((0:Nat):Int) (t::u::l).length).bind _).map _)=_;rw [p 0 (by decide)];rfl,by show (((cr ((1:Nat):Int) (t::u::l).length).bind _).map _)=_;rw [p 1 (by decide)];rfl⟩
theorem vx(n:Nat)(b:Nat->Nat):(O.lst (fT n b)).toT=mX n λs=> .int (b s:Nat):=congrArg T.list (by
 have:=e_ ((ar n).map λs=>T.int (b s:Nat))
 rw [a_]at this;exact this)
theorem AW(d:Nat){f r:Nat}(hs:bX f r)(ns:List Int)(hns:ns.length<=7):∃w:Bd,w.Ok/\w.f=f/\w.r=r/\∃wk bk,wk<w.n/\bk<w.n/\(∀s,s<w.n->(w.b s=6↔s=wk))/\(∀s,s<w.n->(w.b s=14↔s=bk))/\(bj br (d+1)).call 118 [.int f,.int r,.list (ns.map .int)]=some w.brdT:=by
 have hn:=hs.n_le
 have nt:=Nc f hs.mem.1 r hs.mem.2
 obtain ⟨n0,n1,rest,hN,hrest⟩:=UG ns hns
 obtain ⟨wk,w1,w2⟩:=hZ n0 nt.1
 obtain ⟨m,m1,m2⟩:=hZ n1 nt.2.2.2.2.2.1
 have hne:=RP w1 m1
 have b1:=d_ (wk+1+m) nt.1
 have mw:bK .mod (.int n0) (.int (f*r:Nat))=some (.int (wk:Nat)):=(g6 nt.2.2.2.1).trans (congrArg (λk=>some (T.int k)) w2)
 have mm:bK .mod (.int n1) (.int (((f*r:Nat):Int) - 1))=some (.int (m:Nat)):=(g6 nt.2.2.2.2.1).trans (congrArg (λk=>some (T.int k)) (nt.2.2.2.2.2.2▸m2))
 have mb:bK .mod (.int ((wk:Int)+1+m)) (.int (f*r:Nat))=some (.int ((wk+1+m)%(f*r):Nat)):=(g6 nt.2.2.2.1).trans (congrArg (λk=>some (T.int k)) (kX (wk+1+m) (f*r)))
 generalize (wk+1+m)%(f*r)=bk at*
 obtain ⟨b',yi,J,h2,e2⟩:=Dx (bj br d) (N:=some (.sh (.list ((n0::n1::rest).map .int)))) (W:=iT (wk:Nat)) hs rest _ 2 none [] (UP w1 b1 hne)
 refine ⟨⟨f,r,b'⟩,⟨hs,h2.pc,λc hc=> ?_,h2.pawn,an h2.few (cV hrest 2)⟩,rfl,rfl,wk,bk,w1,b1,h2.k6,h2.k14,?_⟩
 ·match c,hc with
  | 0,_=>exact ⟨wk,w1,h2.k6⟩
  | 1,_=>exact ⟨bk,b1,h2.k14⟩
 have sm:small ((f:Int))=true:=(show ∀f∈([3,4]:List Nat),small ((f:Int))=true by decide) _ hs.mem.1
 have hl7:(ns.map T.int).length<=1000:=by rw [aq];exact an hns (by decide)
 have hlen:qI .len [.list (ns.map .int)]=some (.int (ns.length:Nat)):=(tW hl7).trans (by rw [aq])
 have hadd:bK .add (.list (ns.map .int)) (.list (([(0:Int),9].map T.int).drop ns.length))=some (.list ((n0::n1::rest).map .int)):=by
  rw [<-hN,cf,<-zC]
  exact if_pos (by
   have:(([(0:Int),9].drop ns.length).map T.int).length<=2:=by rw [aq,sK];exact bE ..
   first | exact ⟨an hl7 (by decide),an this (by decide)⟩ | exact an (gv hl7 this) (by decide))
 have ix:=KH (l:=rest.map T.int) (t:= .int n0) (u:= .int n1) (by rw [aq];exact hrest)
 have hrl:((n0::n1::rest).map T.int).length<=1000:=by rw [aq];exact an (bf (bf hrest)) (by decide)
 have hrep:aw (((f*r:Nat):Int)).toNat (O.sh (.int 0))=fT (f*r) (λ_=>0):=by
  rw [gn];unfold fT;rw [k_,aK];rfl
 refine bq (F:=pM) (ρ:=[iT f,iT r,some (.sh (.list (ns.map .int))),none,none,none,none,none,none,none]) rfl rfl
  (.next (ρ1:=[iT f,iT r,some (.sh (.list (ns.map .int))),iT (f*r:Nat),none,none,none,none,none,none]) (.asg (.bin (.var rfl) (.var rfl) (qK f r sm)))
  (.next (ρ1:=[iT f,iT r,some (.sh (.list ((n0::n1::rest).map .int))),iT (f*r:Nat),none,none,none,none,none,none]) (.asg (.bin (.var rfl) (.slc1 (.list (.cons .lit (.cons .lit .nil))) (.bi (.cons (.var rfl) .nil) hlen) (yx (an hns (by decide)) (bm rfl))) hadd))
  (.next (ρ1:=qf (iT f) (iT r) (some (.sh (.list ((n0::n1::rest).map .int)))) (iT (f*r:Nat)) none (fT (f*r) (λ_=>0)) none []) (.asgO (hrep▸if_pos ⟨ap (by decide) (au _),aW.mpr (an hn (by decide):f*r<=1000)⟩))
  (.next (ρ1:=qf (iT f) (iT r) (some (.sh (.list ((n0::n1::rest).map .int)))) (iT (f*r:Nat)) (iT wk) (fT (f*r) (λ_=>0)) none []) (.asg (.bin (.idx (.var rfl) .lit ix.1) (.var rfl) mw))
  (.next (ρ1:=qf (iT f) (iT r) (some (.sh (.list ((n0::n1::rest).map .int)))) (iT (f*r:Nat)) (iT wk) (fT (f*r) (kN (λ_=>0) wk 6)) none []) (oD (f*r) (λ_=>0) wk 6▸.setI (m:=fT (f*r) λ_=>0) rfl (.var rfl) .lit (kZ _ w1 hn))
  (.next (ρ1:=qf (iT f) (iT r) (some (.sh (.list ((n0::n1::rest).map .int)))) (iT (f*r:Nat)) (iT wk) (fT (f*r) (kN (kN (λ_=>0) wk 6) bk 14)) none []) (oD (f*r) (kN (λ_=>0) wk 6) bk 14▸.setI (m:=fT (f*r) (kN (λ_=>0) wk 6)) rfl (.bin (.bin (.bin (.var rfl) .lit rfl) (.bin (.idx (.var rfl) .lit ix.2) (.bin (.var rfl) .lit rfl) mm) rfl) (.var rfl) mb) .lit (kZ _ b1 hn))
  (.next (.forr (.slc1 (.var rfl) .lit (yx (a:=2) (by decide) hrl)) rfl e2) (.next (.frz rfl) (.h_ret (.var ?_))))))))))
 exact congrArg (λt=>some (O.sh t)) (vx (f*r) b')
end
section
theorem ot{c:d5}{ρ:b6}{y k:Nat}{e:X}{t:O}{q:Nat}{ks:List Nat}{l:List O}(h:uA c e ρ=some t)(g:get ρ y=some (.ins q ks l))(hk:(decide (ks.length<=900)&&d6 ks)=true):
  ex c (.setAO (.var y) k e) ρ=some (fO ρ y (.ins q (upd.setFld ks l k t).1 (upd.setFld ks l k t).2),none):=by
 show ((uA c e ρ).bind λt=>(xI c (.var y) k ρ t).map λr=>(r,ae))=_
 rw [h]
 show (((get ρ y).bind _).map _)=_
 rw [g]
 show bZ _ (if (decide (ks.length<=900)&&d6 ks)=true then _ else _)=_
 rw [if_pos hk];rfl
theorem Kq(d:Nat)(za zb zc zd:T):(bj br (d+1)).new 4 [za,zb,zc,zd]=some (.ins 4 [39,32,31,20] [.sh za,.sh zb,.sh zc,.sh zd]):=by
 refine rq (F:=pj) (ρ:=[some (.sh .none),some (.sh za),some (.sh zb),some (.sh zc),some (.sh zd)]) rfl rfl (ρ':=[some (.ins 4 [39,32,31,20] [.sh za,.sh zb,.sh zc,.sh zd]),some (.sh za),some (.sh zb),some (.sh zc),some (.sh zd)]) ?_ rfl
 unfold pj
 refine (cu (ρ':=[some (.ins 4 [39] [.sh za]),some (.sh za),some (.sh zb),some (.sh zc),some (.sh zd)]) (dY (y:=0) (k:=39) (t:=za) (ks:=[]) (l:=[]) rfl rfl (by decide))).trans ?_
 refine (cu (ρ':=[some (.ins 4 [39,32] [.sh za,.sh zb]),some (.sh za),some (.sh zb),some (.sh zc),some (.sh zd)]) (dY (y:=0) (k:=32) (t:=zb) (ks:=[39]) (l:=[.sh za]) rfl rfl (by decide))).trans ?_
 refine (cu (ρ':=[some (.ins 4 [39,32,31] [.sh za,.sh zb,.sh zc]),some (.sh za),some (.sh zb),some (.sh zc),some (.sh zd)]) (dY (y:=0) (k:=31) (t:=zc) (ks:=[39,32]) (l:=[.sh za,.sh zb]) rfl rfl (by decide))).trans ?_
 refine (cu (ρ':=[some (.ins 4 [39,32,31,20] [.sh za,.sh zb,.sh zc,.sh zd]),some (.sh za),some (.sh zb),some (.sh zc),some (.sh zd)]) (dY (y:=0) (k:=20) (t:=zd) (ks:=[39,32,31]) (l:=[.sh za,.sh zb,.sh zc]) rfl rfl (by decide))).trans ?_
 rfl
@[reducible] noncomputable def pO(G Z:T)(B K S:List O)(sd key:Int):O:= .ins 1 [2,27,28,29,30,20,31,32,33,23,0,34] [.sh G,.sh Z,.lst B,.lst K,.lst S,.sh (.int sd),.sh (.int 0),.sh (.int (-1)),.sh (.int 0),.sh (.int 1),.sh (.int key),.lst []]
theorem Dg{c:d5}{ρ:b6}{e n:X}{t:T}{k:Nat}(h1:ev c e ρ=some (.sh t))(h2:ev c n ρ=some (.sh (.int (k:Nat))))(hk:k<=1000):uA c (.bin .mul (.list (.cons e .nil)) n) ρ=some (.lst (aw k (.sh t))):=by
 show (((ev c e ρ).bind O.t?).bind λx=>((ev c n ρ).bind O.int?).bind λk=>if -1000<=k/\k<=1000 then some (O.lst (aw k.toNat (.sh x)))else ae)=_
 rw [h1,h2]
 show (if -1000<=((k:Nat):Int)/\((k:Nat):Int)<=1000 then _ else _)=_
 rw [if_pos (by omega)];rfl
theorem Kr(d:Nat){G Z:T}{n:Nat}(hn:n<=20)(hG:bV 22 (.sh G)=some (.sh (.int (n:Nat)))):(bj br (d+1)).new 1 [G,Z]=some (pO G Z (aw n (.sh (.int 0))) (aw 7 (.sh (.int 0))) [.sh (.int 0),.sh (.int 0)] 0 0):=by
 generalize hB0:aw n (O.sh (.int 0))=B0
 generalize hK0:aw 7 (O.sh (.int 0))=K0
 have hB:∀ρ:b6,get ρ 1=some (.sh G)->uA (bj br d) (.bin .mul (.list (.cons (.glob (aa "EMPTY") (.int 0)) .nil)) (.attr (.var 1) 22)) ρ=some (.lst B0):=λρ h=>by
  rw [<-hB0]
  refine Dg rfl ?_ (by omega)
  show ((get ρ 1).bind (bV 22))=_
  rw [h];exact hG
 have hK:∀ρ:b6,get ρ 1=some (.sh G)->uA (bj br d) (.bin .mul (.list (.cons (.lit (.int 0)) .nil)) (.lit (.int 7))) ρ=some (.lst K0):=λρ h=>by
  rw [<-hK0];exact Dg (k:=7) rfl rfl (by decide)
 refine rq (F:=mL) (ρ:=[some (.sh .none),some (.sh G),some (.sh Z)]) rfl rfl (ρ':=[some (pO G Z B0 K0 [.sh (.int 0),.sh (.int 0)] 0 0),some (.sh G),some (.sh Z)]) ?_ rfl
 unfold mL
 refine (cu (ρ':=[some (.ins 1 [2] [.sh G]),some (.sh G),some (.sh Z)]) (dY (y:=0) (k:=2) (t:=G) (ks:=[]) (l:=[]) rfl rfl (by decide))).trans ?_
 refine (cu (ρ':=[some (.ins 1 [2,27] [.sh G,.sh Z]),some (.sh G),some (.sh Z)]) (dY (y:=0) (k:=27) (t:=Z) (ks:=[2]) (l:=[.sh G]) rfl rfl (by decide))).trans ?_
 refine (cu (ρ':=[some (.ins 1 [2,27,28] [.sh G,.sh Z,.lst B0]),some (.sh G),some (.sh Z)]) (ot (y:=0) (k:=28) (t:= .lst B0) (ks:=[2,27]) (l:=[.sh G,.sh Z]) (hB _ rfl) rfl (by decide))).trans ?_
 refine (cu (ρ':=[some (.ins 1 [2,27,28,29] [.sh G,.sh Z,.lst B0,.lst K0]),some (.sh G),some (.sh Z)]) (ot (y:=0) (k:=29) (t:= .lst K0) (ks:=[2,27,28]) (l:=[.sh G,.sh Z,.lst B0]) (hK _ rfl) rfl (by decide))).trans ?_
 refine (cu (ρ':=[some (.ins 1 [2,27,28,29,30] [.sh G,.sh Z,.lst B0,.lst K0,.lst [.sh (.int 0),.sh (.int 0)]]),some (.sh G),some (.sh Z)]) (ot (y:=0) (k:=30) (t:= .lst [.sh (.int 0),.sh (.int 0)]) (ks:=[2,27,28,29]) (l:=[.sh G,.sh Z,.lst B0,.lst K0]) rfl rfl (by decide))).trans ?_
 refine (cu (ρ':=[some (.ins 1 [2,27,28,29,30,20] [.sh G,.sh Z,.lst B0,.lst K0,.lst [.sh (.int 0),.sh (.int 0)],.sh (.int 0)]),some (.sh G),some (.sh Z)]) (dY (y:=0) (k:=20) (t:=(.int 0)) (ks:=[2,27,28,29,30]) (l:=[.sh G,.sh Z,.lst B0,.lst K0,.lst [.sh (.int 0),.sh (.int 0)]]) rfl rfl (by decide))).trans ?_
 refine (cu (ρ':=[some (.ins 1 [2,27,28,29,30,20,31] [.sh G,.sh Z,.lst B0,.lst K0,.lst [.sh (.int 0),.sh (.int 0)],.sh (.int 0),.sh (.int 0)]),some (.sh G),some (.sh Z)]) (dY (y:=0) (k:=31) (t:=(.int 0)) (ks:=[2,27,28,29,30,20]) (l:=[.sh G,.sh Z,.lst B0,.lst K0,.lst [.sh (.int 0),.sh (.int 0)],.sh (.int 0)]) rfl rfl (by decide))).trans ?_
 refine (cu (ρ':=[some (.ins 1 [2,27,28,29,30,20,31,32] [.sh G,.sh Z,.lst B0,.lst K0,.lst [.sh (.int 0),.sh (.int 0)],.sh (.int 0),.sh (.int 0),.sh (.int (-1))]),some (.sh G),some (.sh Z)]) (dY (y:=0) (k:=32) (t:=(.int (-1))) (ks:=[2,27,28,29,30,20,31]) (l:=[.sh G,.sh Z,.lst B0,.lst K0,.lst [.sh (.int 0),.sh (.int 0)],.sh (.int 0),.sh (.int 0)]) rfl rfl (by decide))).trans ?_
 refine (cu (ρ':=[some (.ins 1 [2,27,28,29,30,20,31,32,33] [.sh G,.sh Z,.lst B0,.lst K0,.lst [.sh (.int 0),.sh (.int 0)],.sh (.int 0),.sh (.int 0),.sh (.int (-1)),.sh (.int 0)]),some (.sh G),some (.sh Z)]) (dY (y:=0) (k:=33) (t:=(.int 0)) (ks:=[2,27,28,29,30,20,31,32]) (l:=[.sh G,.sh Z,.lst B0,.lst K0,.lst [.sh (.int 0),.sh (.int 0)],.sh (.int 0),.sh (.int 0),.sh (.int (-1))]) rfl rfl (by decide))).trans ?_
 refine (cu (ρ':=[some (.ins 1 [2,27,28,29,30,20,31,32,33,23] [.sh G,.sh Z,.lst B0,.lst K0,.lst [.sh (.int 0),.sh (.int 0)],.sh (.int 0),.sh (.int 0),.sh (.int (-1)),.sh (.int 0),.sh (.int 1)]),some (.sh G),some (.sh Z)]) (dY (y:=0) (k:=23) (t:=(.int 1)) (ks:=[2,27,28,29,30,20,31,32,33]) (l:=[.sh G,.sh Z,.lst B0,.lst K0,.lst [.sh (.int 0),.sh (.int 0)],.sh (.int 0),.sh (.int 0),.sh (.int (-1)),.sh (.int 0)]) rfl rfl (by decide))).trans ?_
 refine (cu (ρ':=[some (.ins 1 [2,27,28,29,30,20,31,32,33,23,0] [.sh G,.sh Z,.lst B0,.lst K0,.lst [.sh (.int 0),.sh (.int 0)],.sh (.int 0),.sh (.int 0),.sh (.int (-1)),.sh (.int 0),.sh (.int 1),.sh (.int 0)]),some (.sh G),some (.sh Z)]) (dY (y:=0) (k:=0) (t:=(.int 0)) (ks:=[2,27,28,29,30,20,31,32,33,23]) (l:=[.sh G,.sh Z,.lst B0,.lst K0,.lst [.sh (.int 0),.sh (.int 0)],.sh (.int 0),.sh (.int 0),.sh (.int (-1)),.sh (.int 0),.sh (.int 1)]) rfl rfl (by decide))).trans ?_
 refine (cu (ρ':=[some (.ins 1 [2,27,28,29,30,20,31,32,33,23,0,34] [.sh G,.sh Z,.lst B0,.lst K0,.lst [.sh (.int 0),.sh (.int 0)],.sh (.int 0),.sh (.int 0),.sh (.int (-1)),.sh (.int 0),.sh (.int 1),.sh (.int 0),.lst []]),some (.sh G),some (.sh Z)]) (ot (y:=0) (k:=34) (t:= .lst []) (ks:=[2,27,28,29,30,20,31,32,33,23,0]) (l:=[.sh G,.sh Z,.lst B0,.lst K0,.lst [.sh (.int 0),.sh (.int 0)],.sh (.int 0),.sh (.int 0),.sh (.int (-1)),.sh (.int 0),.sh (.int 1),.sh (.int 0)]) rfl rfl (by decide))).trans ?_
 rfl
section
variable{c:d5}{ρ:b6}{y k q:Nat}{ks ks':List Nat}{fs fs' l:List O}{i e:X}{j:Nat}{m:Int}{t:T}
theorem yp{o:O}(h0:get ρ y=some (.ins q ks fs))(h6:upd.setFld ks fs k o=(ks',fs')):upd c (.attr (.var y) k) ρ o=some (fO ρ y (.ins q ks' fs')):=by
 show ((get ρ y).bind _)=_
 rw [h0]
 show upd c (.var y) ρ (.ins q (upd.setFld ks fs k o).1 (upd.setFld ks fs k o).2)=_
 rw [h6];rfl
theorem wb(h0:get ρ y=some (.ins q ks fs))(h1:bV k (.ins q ks fs)=some (.lst l))(h2:ev c i ρ=some (.sh (.int m)))(h3:cr m l.length=some j)(h5:ev c e ρ=some (.sh t))(h6:upd.setFld ks fs k (.lst (dp l j (.sh t)))=(ks',fs')):
  ex c (.setI (.attr (.var y) k) i e) ρ=some (fO ρ y (.ins q ks' fs'),none):=by
 have a:ev c (.attr (.var y) k) ρ=some (.lst l):=by
  show ((get ρ y).bind (bV k))=_
  rw [h0];exact h1
 show (((ev c e ρ).bind O.t?).bind λt=>((ev c (.attr (.var y) k) ρ).bind λr=>((ev c i ρ).bind O.int?).bind λn=>_).map _)=_
 rw [h5,a,h2]
 show bZ _ ((cr m l.length).bind λj=>upd c (.attr (.var y) k) ρ (.lst (dp l j (.sh t))))=_
 rw [h3,cY,yp h0 h6];rfl
theorem nO{x b z:Int}(h0:get ρ y=some (.ins q ks fs))(h1:bV k (.ins q ks fs)=some (.lst l))(h2:ev c i ρ=some (.sh (.int m)))(h3:cr m l.length=some j)(h4:nth l j=some (.sh (.int x)))(h5:ev c e ρ=some (.sh (.int b)))(hz:av x b=z)(h6:upd.setFld ks fs k (.lst (dp l j (.sh (.int z))))=(ks',fs')):
  ex c (.augI (.attr (.var y) k) i .or e) ρ=some (fO ρ y (.ins q ks' fs'),none):=by
 have a:ev c (.attr (.var y) k) ρ=some (.lst l):=by
  show ((get ρ y).bind (bV k))=_
  rw [h0];exact h1
 have b':ev c (.idx (.attr (.var y) k) i) ρ=some (.sh (.int x)):=by
  show ((ev c (.attr (.var y) k) ρ).bind λo=>((ev c i ρ).bind O.int?).bind λn=>b4 n o)=_
  rw [a,h2];show ((cr m l.length).bind (nth l))=_
  rw [h3];exact h4
 show (((ev c (.idx (.attr (.var y) k) i) ρ).bind O.t?).bind λx=>((ev c e ρ).bind O.t?).bind λt=>_)=_
 rw [b',h5]
 show bZ _ (Fy c (.attr (.var y) k) i ρ (.sh (.int (av x b))))=_
 show bZ _ ((ev c (.attr (.var y) k) ρ).bind λr=>((ev c i ρ).bind O.int?).bind λn=>_)=_
 rw [a,h2,hz]
 show bZ _ ((cr m l.length).bind λj=>upd c (.attr (.var y) k) ρ (.lst (dp l j (.sh (.int z)))))=_
 rw [h3,cY,yp h0 h6];rfl
theorem yc{x b z:Int}(h0:get ρ y=some (.ins q ks fs))(h1:bV k (.ins q ks fs)=some (.sh (.int x)))(h5:ev c e ρ=some (.sh (.int b)))(hz:c_ x b=z)(hk:(decide (ks.length<=900)&&d6 ks)=true)(h6:upd.setFld ks fs k (.sh (.int z))=(ks',fs')):
  ex c (.augA (.var y) k .xor e) ρ=some (fO ρ y (.ins q ks' fs'),none):=by
 have a:ev c (.attr (.var y) k) ρ=some (.sh (.int x)):=by
  show ((get ρ y).bind (bV k))=_
  rw [h0];exact h1
 show (((ev c (.attr (.var y) k) ρ).bind O.t?).bind λx=>((ev c e ρ).bind O.t?).bind λt=>_)=_
 rw [a,h5]
 show bZ _ ((get ρ y).bind _)=_
 rw [h0,hz]
 show bZ _ (if (decide (ks.length<=900)&&d6 ks)=true then upd c (.var y) ρ (.ins q (upd.setFld ks fs k (.sh (.int z))).1 (upd.setFld ks fs k (.sh (.int z))).2)else none)=_
 rw [if_pos hk,h6];rfl
end
theorem Kg(d:Nat){G Z PZ PR:T}{B B' K K' S S':List O}{piece s bit kd sd xk xs zk zs:Int}{jb jk js:Nat}(hbit:bK .shl (.int 1) (.int s)=some (.int bit))(hb:cr s B.length=some jb)(hB:dp B jb (.sh (.int piece))=B')
  (hk:(bj br d).call 6 [.int piece]=some (.int kd)) (hkj:cr kd K.length=some jk) (hkx:nth K jk=some (.sh (.int xk))) (hkz:av xk bit=zk) (hK:dp K jk (.sh (.int zk))=K')
  (hs:(bj br d).call 5 [.int piece]=some (.int sd)) (hsj:cr sd S.length=some js) (hsx:nth S js=some (.sh (.int xs))) (hsz:av xs bit=zs) (hS:dp S js (.sh (.int zs))=S')
  (z1:bV 39 (.sh Z)=some (.sh PZ)) (z2:b4 piece (.sh PZ)=some (.sh PR)) (z3:b4 s (.sh PR)=some (.sh (.int 0))):
  (bj br (d+1)).io 17 (pO G Z B K S 0 0) [.int piece,.int s]=some (pO G Z B' K' S' 0 0):=by
 have e:ex (bj br d) kC.body [some (pO G Z B K S 0 0),iT piece,iT s,none]=some ([some (pO G Z B' K' S' 0 0),iT piece,iT s,iT bit],none):=by
  refine (cu (ρ':=[some (pO G Z B K S 0 0),iT piece,iT s,iT bit]) (by exact congrArg (λx=>((mP x).bind O.t?).map λt=>(fO [some (pO G Z B K S 0 0),iT piece,iT s,none] 3 (.sh t),ae)) hbit)).trans ?_
  refine (cu (ρ':=[some (pO G Z B' K S 0 0),iT piece,iT s,iT bit]) (wb (q:=1) (l:=B) (j:=jb) (m:=s) (t:= .int piece) rfl rfl rfl hb rfl (by rw [hB];rfl))).trans ?_
  have ek:∀o:O,ev (bj br d) (.call 6 (.cons (.var 1) .nil)) [some o,iT piece,iT s,iT bit]=some (.sh (.int kd)):=λo=>congrArg mP hk
  have es:∀o:O,ev (bj br d) (.call 5 (.cons (.var 1) .nil)) [some o,iT piece,iT s,iT bit]=some (.sh (.int sd)):=λo=>congrArg mP hs
  refine (cu (ρ':=[some (pO G Z B' K' S 0 0),iT piece,iT s,iT bit]) (nO (q:=1) (l:=K) (j:=jk) (m:=kd) (x:=xk) (b:=bit) (z:=zk) rfl rfl (ek _) hkj hkx rfl hkz (by rw [hK];rfl))).trans ?_
  refine (cu (ρ':=[some (pO G Z B' K' S' 0 0),iT piece,iT s,iT bit]) (nO (q:=1) (l:=S) (j:=js) (m:=sd) (x:=xs) (b:=bit) (z:=zs) rfl rfl (es _) hsj hsx rfl hsz (by rw [hS];rfl))).trans ?_
  have ez:ev (bj br d) (.idx (.idx (.attr (.attr (.var 0) 27) 39) (.var 1)) (.var 2)) [some (pO G Z B' K' S' 0 0),iT piece,iT s,iT bit]=some (.sh (.int 0)):=by
   have a1:ev (bj br d) (.attr (.attr (.var 0) 27) 39) [some (pO G Z B' K' S' 0 0),iT piece,iT s,iT bit]=some (.sh PZ):=z1
   have a2:ev (bj br d) (.idx (.attr (.attr (.var 0) 27) 39) (.var 1)) [some (pO G Z B' K' S' 0 0),iT piece,iT s,iT bit]=some (.sh PR):=(congrArg (λo=>o.bind (b4 piece)) a1).trans z2
   exact (congrArg (λo=>o.bind (b4 s)) a2).trans z3
  refine (cu (ρ':=[some (pO G Z B' K' S' 0 0),iT piece,iT s,iT bit]) (yc (y:=0) (k:=0) (q:=1) (ks:=[2,27,28,29,30,20,31,32,33,23,0,34]) (ks':=[2,27,28,29,30,20,31,32,33,23,0,34]) (fs:=[.sh G,.sh Z,.lst B',.lst K',.lst S',.sh (.int 0),.sh (.int 0),.sh (.int (-1)),.sh (.int 0),.sh (.int 1),.sh (.int 0),.lst []]) (fs':=[.sh G,.sh Z,.lst B',.lst K',.lst S',.sh (.int 0),.sh (.int 0),.sh (.int (-1)),.sh (.int 0),.sh (.int 1),.sh (.int 0),.lst []]) (x:=0) (b:=0) (z:=0) rfl rfl ez rfl (by decide) rfl)).trans ?_
  rfl
 show (if br.io 17=true then (br.fn 17).bind λF=>(ew F [.none,.int piece,.int s]).bind λρ=>(ex (bj br d) F.body (fO ρ 0 (pO G Z B K S 0 0))).bind λo=>get o.1 0 else none)=_
 rw [if_pos (show br.io 17=true from rfl)]
 show ((ex (bj br d) kC.body [some (pO G Z B K S 0 0),iT piece,iT s,none]).bind _)=_
 rw [e];rfl
end
section
section
variable{c:d5}{ρ:b6}{a:X}{g y:Nat}{l:List T}{o o':O}
theorem Ex.callIO(h0:get ρ y=some o)(h1:Es c ρ a l)(h:c.io g o l=some o'):Ex c ρ (.callIO g y a) (fO ρ y o'):=by
 show (get ρ y).bind _=_
 rw [h0];show (o7 c a ρ).bind _=_;rw [h1];show (c.io g o l).map _=_;rw [h];rfl
theorem dO.newT(h1:Es c ρ a l)(h:c.new g l=some o):dO c ρ (.new g a) (.sh o.toT):=by
 show (o7 c a ρ).bind _=_
 rw [h1];show (c.new g l).map _=_;rw [h];rfl
end
noncomputable def FO(n N:Nat)(G:Nat->Nat->Bool)(m:Nat):List O:=(ar N).map λj=> .sh (.int (bI n λs=>decide (s<m)&&G j s))
theorem wR(g:Nat->Bool)(m s:Nat):(decide (s<m+1)&&g s)=((decide (s<m)&&g s)||(s==m&&g m)):=by
 rcases gk s m with h | h | h
 ·rw [decide_eq_true (cq h),decide_eq_true h,beq_eq_false_iff_ne.mpr (cM h),mO,cg]
 ·subst h;rw [decide_eq_true (cn s),decide_eq_false (jV s),beq_self_eq_true,mO,oU]
 ·rw [decide_eq_false (dM.mpr h),decide_eq_false (Ta h),beq_eq_false_iff_ne.mpr (cN h)];rfl
theorem DJ{n N m:Nat}{G:Nat->Nat->Bool}(h:∀j,G j m=false):FO n N G m=FO n N G (m+1):=
 bg λj _=>congrArg (λx=>O.sh (.int x)) (bp λs _=>by rw [wR,h,bP,cg])
theorem IK{n N m j0:Nat}{G:Nat->Nat->Bool}(h:∀j,G j m=(j0==j)):dp (FO n N G m) j0 (.sh (.int (bI n λu=>(decide (u<m)&&G j0 u)||u==m)))=FO n N G (m+1):=
 (mC ..).trans (bg λj _=>by
  by_cases e:j=j0
  ·subst e;rw [if_pos rfl]
   exact congrArg (λx=>O.sh (.int x)) (bp λs _=>by rw [wR,h,beq_self_eq_true,dF])
  ·rw [if_neg e]
   exact congrArg (λx=>O.sh (.int x)) (bp λs _=>by rw [wR,h,beq_eq_false_iff_ne.mpr (Ne.symm e),bP,cg]))
theorem IL(n N:Nat)(G:Nat->Nat->Bool):FO n N G 0=aw N (.sh (.int 0)):=by
 unfold FO
 rw [show (λj=>O.sh (.int (bI n λs=>decide (s<0)&&G j s)))=λ_=>O.sh (.int 0)from funext λj=>congrArg (λx=>O.sh (.int x)) ((bp λs _=>rfl).trans (fq n)),k_,aK]
theorem IN(n N:Nat)(G:Nat->Nat->Bool):O.toTs (FO n N G n)=(ar N).map λj=> .int (bI n (G j)):=by
 have h:FO n N G n=((ar N).map λj=>T.int (bI n (G j))).map O.sh:=by
  rw [a_]
  exact bg λj _=>congrArg (λx=>O.sh (.int x)) (bp λs hs=>by rw [decide_eq_true hs,ei])
 rw [h,e_]
section
variable{w:Bd}
noncomputable def NE(w:Bd)(m s:Nat):Nat:=if s<m then w.b s else 0
@[reducible] noncomputable def kG(w:Bd)(j s:Nat):Bool:= !(w.b s==0)&&w.b s%8==j
@[reducible] noncomputable def sG(w:Bd)(c s:Nat):Bool:= !(w.b s==0)&&w.b s/8==c
@[reducible] noncomputable def uj(w:Bd)(m:Nat)(sd:Int):O:=pO (eE w.f w.r) (Mn w.f w.r) (fT w.n (NE w m)) (FO w.n 7 (kG w) m) (FO w.n 2 (sG w) m) sd 0
theorem El(d p:Nat):(bj br (d+1)).call 6 [.int (p:Nat)]=some (.int ((p%8:Nat):Int)):=
 bq (F:=uP) (ρ:=[iT (p:Nat)]) rfl rfl (.h_ret (.bin (.var rfl) .lit (sN (bitAnd_m3 p))))
theorem D0(d p:Nat):(bj br (d+1)).call 5 [.int (p:Nat)]=some (.int ((p/8:Nat):Int)):=
 bq (F:=uN) (ρ:=[iT (p:Nat)]) rfl rfl (.h_ret (.bin (.var rfl) .lit ((ni (by decide)).trans (congrArg (λx=>some (T.int x)) (oq p 3)))))
theorem pd{k len:Nat}(h:k<len)(hl:len<=1000):cr (k:Nat) len=some k:=if_pos ⟨au k,bF.mpr h,bF.mpr (bR h (an hl (by decide)))⟩
theorem IM(n N:Nat)(G:Nat->Nat->Bool)(m:Nat):(FO n N G m).length=N:=by unfold FO;rw [aq,aK]
theorem zr(m:Nat):kN (NE w m) m (w.b m)=NE w (m+1):=funext λs=>by
 unfold kN NE
 rcases gk s m with h | h | h
 ·rw [if_neg (cM h),if_pos h,if_pos (cq h)]
 ·subst h;rw [if_pos rfl,if_pos (cn s)]
 ·rw [if_neg (cN h),if_neg (Ta h),if_neg (dM.mpr h)]
theorem Q4(hw:w.Ok)(d:Nat){m:Nat}(hm:m<w.n)(h0:(w.b m==0)=false):(bj br (d+2)).io 17 (uj w m 0) [.int (w.b m:Nat),.int (m:Nat)]=some (uj w (m+1) 0):=by
 have hn:w.n<=20:=hw.shape.n_le
 have h1000:=g5 hw
 have hb:w.b m<16:=qQ hw hm
 have hk:w.b m%8<7:=(hw.pc m hm).elim (λe=>by rw [e];decide) λh=>aU h.2.2
 have hs:w.b m/8<2:=aH hb
 have hbit:bK .shl (.int 1) (.int (m:Nat))=some (.int (bI w.n λu=>u==m)):=by
  rw [qC (xc (au m) (aW.mpr (an (lm hm) h1000)) (by decide)),xC _ _ hm,jU];rfl
 have gt:∀(f:Nat->Nat) (j:Nat),(!(w.b m==0)&&f (w.b m)==j)=(f (w.b m)==j):=λf j=>by rw [h0];rfl
 exact Kg (d+1) (G:=eE w.f w.r) (Z:=Mn w.f w.r) (PZ:=mX 15 λ_=>i7 (w.f*w.r)) (PR:=i7 (w.f*w.r)) hbit (kZ _ hm hn) ((oD ..).trans (by rw [zr])) (El d (w.b m)) (by rw [IM];exact pd hk (by decide)) (fA _ hk) (ec _ _ _) (IK (G:=kG w) (gt (· %8)))
  (D0 d (w.b m)) (by rw [IM];exact pd hs (by decide)) (fA _ hs) (ec _ _ _) (IK (G:=sG w) (gt (· /8))) rfl (cy (n:=15) (g:=λ_=>i7 (w.f*w.r)) ((hw.pc m hm).elim (λe=>e▸eY _) λh=>(show ∀p<16,p%8<=6->p<15 by decide) _ h.1 h.2.2) (by decide)) (cy (n:=w.f*w.r) (g:=λ_=>T.int 0) hm (aC h1000 (by decide)))
theorem JZ{m:Nat}(h0:(w.b m==0)=true):uj w m 0=uj w (m+1) 0:=by
 have e:NE w m=NE w (m+1):=(funext λs=>by
  unfold kN
  by_cases h:s=m
  ·rw [if_pos h,h,beq_iff_eq.mp h0];exact if_neg (jV m)
  ·rw [if_neg h]).trans (zr m)
 unfold uj
 rw [e,DJ (G:=kG w) λj=>by unfold kG;rw [h0];rfl,DJ (G:=sG w) λj=>by unfold sG;rw [h0];rfl]
@[reducible] noncomputable def OY:S:= .seq (.iff (.idx (.var 1) (.var 5)) (.seq (.callIO 17 4 (.cons (.idx (.var 1) (.var 5)) (.cons (.var 5) .nil))) .skip) .skip) .skip
@[reducible] noncomputable def JC(w:Bd)(sd NU:T)(P:O)(x5:Option O):b6:=[some (.sh (eE w.f w.r)),some (.sh w.brdT),some (.sh sd),some (.sh NU),some P,x5,none]
theorem Ct(hw:w.Ok)(d:Nat){sd NU:T}:∀(k m:Nat) (x5:Option O),m+k=w.n->∃y5,FL (bj br (d+2)) OY [5] (ka (gX m k)) (JC w sd NU (uj w m 0) x5) (JC w sd NU (uj w w.n 0) y5)
 | 0,m,x5,h=>⟨x5,by rw [show m=w.n from h];exact .nil⟩
 | k+1,m,x5,h=>by
  have hm:m<w.n:=h▸ke (eY k)
  obtain ⟨y5,e⟩:=Ct hw d (sd:=sd) (NU:=NU) k (m+1) (iT (m:Nat)) (by rw [je];exact h)
  have hb:=fZ w hm hw.shape.n_le
  have hq:Ts (bj br (d+2)) (JC w sd NU (uj w m 0) (iT (m:Nat))) (.idx (.var 1) (.var 5)) (!(w.b m==0)):= .idx (.var rfl) (.var rfl) hb (congrArg (λb=>some (!b)) (cK _ 0))
  refine ⟨y5,.cons (ρ1:=JC w sd NU (uj w m 0) (iT (m:Nat))) rfl (.seq (.iffB hq (λh0=> ?_) λh0=> ?_) .skip) e⟩
  ·exact .seq (.callIO rfl (.cons (.idx (.var rfl) (.var rfl) hb) (.cons (.var rfl) .nil)) (Q4 hw d hm ((show ∀b:Bool,(!b)=true->b=false by decide) _ h0))) .skip
  ·rw [<-JZ ((show ∀b:Bool,(!b)=false->b=true by decide) _ h0)];exact .skip
theorem O1:∀p<16,(!(p==0)&&p%8==0)=false->∀j<6,(!(p==0)&&p%8==j+1)=(p%8==j+1):=by decide
theorem D8(hw:w.Ok)(sd:Int):(uj w w.n sd).toT=w.posT sd:=by
 have e1:O.toTs (fT w.n (NE w w.n))=(ar w.n).map λs=> .int (w.b s:Nat):=by
  rw [show fT w.n (NE w w.n)=fT w.n w.b from bg λs hs=>by unfold NE;rw [if_pos (az.mp hs)]]
  exact T.list_inj (vx w.n w.b)
 have k0:bI w.n (kG w 0)=0:=(bp λs hs=>(hU (hw.pc s hs)).2).trans (fq w.n)
 have kk:∀j,j<6->bI w.n (kG w (j+1))=bI w.n (w.kindP (j+1)):=λj hj=>bp λs hs=>O1 _ (hU (hw.pc s hs)).1 (hU (hw.pc s hs)).2 j hj
 have e2:O.toTs (FO w.n 7 (kG w) w.n)=[.int 0,w.bT (w.kindP 1),w.bT (w.kindP 2),w.bT (w.kindP 3),w.bT (w.kindP 4),w.bT (w.kindP 5),w.bT (w.kindP 6)]:=by
  refine (IN ..).trans ?_
  show [T.int (bI w.n (kG w 0)),T.int (bI w.n (kG w 1)),T.int (bI w.n (kG w 2)),T.int (bI w.n (kG w 3)),T.int (bI w.n (kG w 4)),T.int (bI w.n (kG w 5)),T.int (bI w.n (kG w 6))]=_
  rw [k0,kk 0 (by decide),kk 1 (by decide),kk 2 (by decide),kk 3 (by decide),kk 4 (by decide),kk 5 (by decide)];rfl
 show T.inst 1 _ [_,_,.list (O.toTs (fT w.n (NE w w.n))),.list (O.toTs (FO w.n 7 (kG w) w.n)),.list (O.toTs (FO w.n 2 (sG w) w.n)),_,_,_,_,_,_,_]=_
 rw [e1,e2,IN];rfl
theorem Qc(k:Nat)(hk:k<=1000):bK .mul (.list [.int 0]) (.int (k:Nat))=some (i7 k):=(if_pos ⟨ap (by decide) (au k),aW.mpr hk⟩).trans (by
 unfold i7 mX
 rw [k_,aK];rfl)
theorem mc(hw:w.Ok)(d:Nat)(sd:Int):(bj br (d+3)).call 119 [eE w.f w.r,w.brdT,.int sd]=some (w.posT sd):=by
 have hn:w.n<=20:=hw.shape.n_le
 have hG:=jB w.f w.r
 obtain ⟨y5,e⟩:=Ct hw d (sd:= .int sd) (NU:=mX 15 λ_=>i7 (w.f*w.r)) w.n 0 none (gw _)
 rw [<-DO]at e
 unfold uj at e
 rw [IL,IL,show fT w.n (NE w 0)=aw w.n (.sh (.int 0)) by
  rw [show NE w 0=λ_=>0 from funext λs=>if_neg (dC s)];unfold fT;rw [k_,aK];rfl]at e
 rw [<-D8 hw]
 exact bq (F:=kv) (ρ:=[some (.sh (eE w.f w.r)),some (.sh w.brdT),iT sd,none,none,none,none]) rfl rfl
  (.next (ρ1:=[some (.sh (eE w.f w.r)),some (.sh w.brdT),iT sd,some (.sh (mX 15 λ_=>i7 (w.f*w.r))),none,none,none]) (.asg (.compN (L:=ar 15) (F:=λs:Nat=>T.int (s:Nat)) (H:=λ_=>i7 (w.f*w.r)) (.bi (.cons .lit .nil) (k7 (n:=15) (by decide))) (gq (n:=15) (by decide)) (by decide) λ_ _=> .bin (.list (.cons .lit .nil)) (.attr (.var rfl) hG.size) (Qc _ (g5 hw))))
  (.next (.asgN (.cons (.var rfl) (.cons (.newT (.cons (.var rfl) (.cons (.bin (.list (.cons .lit .nil)) (.attr (.var rfl) hG.files) (Qc _ ((show ∀f∈([3,4]:List Nat),f<=1000 by decide) _ hw.shape.mem.1))) (.cons (.bin (.list (.cons .lit .nil)) .lit (Qc 16 (by decide))) (.cons .lit .nil)))) (Kq (d+1) (mX 15 λ_=>i7 (w.f*w.r)) (i7 w.f) (i7 16) (.int 0))) .nil)) (Kr (d+1) (G:=eE w.f w.r) (Z:=Mn w.f w.r) (n:=w.n) hn hG.size))
  (.next (.forr (.bi (.cons (.attr (.var rfl) hG.size) .nil) (k7 (g5 hw))) (gq (g5 hw)) e)
  (.next (ρ1:=JC w (.int sd) (mX 15 λ_=>i7 (w.f*w.r)) (uj w w.n sd) y5) (.setA rfl (.var rfl) rfl rfl) (.next (.frz rfl) (.h_ret (.var rfl)))))))
end
end
section
theorem K_{c:d5}{ρ:b6}{p:Nat}(hp:p<16)(h:get ρ 5=iT (p:Nat)):dO c ρ (.ite (.var 5) (.bin .xor (.var 5) (.lit (.int 8))) (.lit (.int 0))) (.sh (.int (dX p:Nat))):=by
 have ti:bx (.int (p:Nat))=some (!(p==0)):=congrArg (λb=>some (!b)) (cK p 0)
 cases z:(p==0)
 ·rw [z]at ti
  exact .ite_t (.var h ti) (.bin (.var h) .lit (congrArg (λk=>some (T.int k)) ((show ∀p,p<16->(p==0)=false->c_ (p:Nat) 8=(dX p:Nat) by decide) p hp z)))
 ·rw [z]at ti
  rw [beq_iff_eq.mp z]
  exact .ite_f (.var h ti) .lit
section
variable{c:d5}{ρ:b6}{a b e:X}{y:Nat}{k k':Int}{t u:T}{lo m:List T}
theorem Gr{α:Type}{x:X}{a b:α}(h:mf x false true=true):mf x a b=b:=by cases x<;>first | rfl | cases h
theorem dO.slc2(hu:mf e false true=true)(h1:dO c ρ a (.sh t))(h2:dO c ρ b (.sh (.int k)))(h3:dO c ρ e (.sh (.int k')))(h:mx (some k) (some k') t=some u):dO c ρ (.slc a b e) (.sh u):=by
 show (((ev c a ρ).bind O.t?).bind λt=>((ev c b ρ).bind O.int?).bind λl=>mf e (mP (mx (some l) ae t)) (((ev c e ρ).bind O.int?).bind λh=>mP (mx (some l) (some h) t)))=_
 rw [h1];show ((ev c b ρ).bind O.int?).bind _=_;rw [h2];show mf e _ _=_;rw [Gr hu,h3];show mP (mx (some k) (some k') t)=_;rw [h];rfl
theorem Ex.ext(h1:get ρ y=some (.lst (lo.map .sh)))(h2:dO c ρ e (.sh (.list m)))(l1:lo.length<=1000)(l2:m.length<=1000):Ex c ρ (.ext y e) (fO ρ y (.lst ((lo++m).map .sh))):=by
 rw [cf]
 show (get ρ y).bind _=_
 rw [h1];show ((ev c e ρ).bind O.t?).bind _=_;rw [h2]
 exact if_pos ⟨by rw [aq];exact l1,l2⟩
end
section
variable{w:Bd}
@[reducible] noncomputable def HH:S:= .ext 3 (.comp [5] (.slc (.var 2) (.bin .mul (.var 4) (.var 0)) (.bin .add (.bin .mul (.var 4) (.var 0)) (.var 0))) .nil (.ite (.var 5) (.bin .xor (.var 5) (.lit (.int 8))) (.lit (.int 0))))
noncomputable def QB(w:Bd)(k:Nat):List T:=(ar k).map λs=> .int (dX (w.b (w.sg s)):Nat)
theorem t4(g:Nat->T)(n a f:Nat)(h:a+f<=n):(((ar n).map g).take (a+f)).drop a=(ar f).map λt=>g (a+t):=by
 rw [<-Qy,<-zC,List.take_range,vJ h,wi,List.drop_append_of_le_length (by rw [aK];exact aA a),List.drop_of_length_le (by rw [aK];exact aA a),ic,a_]
 rfl
@[reducible] noncomputable def Fx(w:Bd)(i:Nat)(x4:Option O):b6:=[iT w.f,iT w.r,some (.sh w.brdT),some (.lst ((QB w (i*w.f)).map .sh)),x4,none]
theorem Oi(hs:0<w.f){i t:Nat}(ht:t<w.f):w.sg (i*w.f+t)=(w.r - 1 - i)*w.f+t:=by
 show (w.r - 1 -(i*w.f+t)/w.f)*w.f+(i*w.f+t)%w.f=_
 rw [eZ i,PV hs,Mh ht,DM,PU,tF ht]
theorem FP(hw:w.Ok)(i:Nat):QB w ((i+1)*w.f)=QB w (i*w.f)++(ar w.f).map λt=> .int (dX (w.b ((w.r - 1 - i)*w.f+t)):Nat):=by
 unfold QB
 rw [mT,f8,wi,cf,a_]
 exact congrArg (HAppend.hAppend _) (bg λt ht=>congrArg (λs=>T.int (dX (w.b s):Nat)) (Oi hw.shape.fpos (az.mp ht)))
theorem HQ{i:Nat}(hi:i<w.r):i*w.f+w.f<=w.n:=by
 have h:=Fh w.f (show i+1<=w.r from hi)
 rw [mT,f8,eZ w.r]at h;exact h
theorem JM(o:d5)(hw:w.Ok){i:Nat}(hi:i<w.r):Ex o (Fx w i (iT ((w.r:Int) - 1 - i))) (.seq HH .skip) (Fx w (i+1) (iT ((w.r:Int) - 1 - i))):=by
 have h3:=g5 hw
 have hk:w.r - 1 - i<w.r:=aC (bE ..) (xS (aC (aE i) hi) uB)
 have hkn:=HQ (w:=w) hk
 rw [show (w.r:Int) - 1 - i=((w.r - 1 - i:Nat):Int) by rw [dD (cx hi),dD (aC (aE i) hi)];rfl]
 unfold Fx
 rw [FP hw i]
 generalize w.r - 1 - i=k at*
 have sf:small (w.f:Int)=true:=(show ∀f∈([3,4]:List Nat),small ((f:Int))=true by decide) _ hw.shape.mem.1
 have mul:bK .mul (.int (k:Nat)) (.int (w.f:Int))=some (.int (k*w.f:Nat)):=qd k w.f sf
 have hsl:mx (some ((k*w.f:Nat):Int)) (some ((k*w.f+w.f:Nat):Int)) w.brdT=some (.list ((ar w.f).map λt=> .int (w.b (k*w.f+t):Nat))):=
  (Ce (an (an (bJ ..) hkn) h3) (an hkn h3) (by rw [aq,aK];exact h3)).trans (congrArg (λl=>some (T.list l)) (t4 (λs=>T.int (w.b s:Nat)) w.n (k*w.f) w.f hkn))
 have hf3:w.f<=1000:=(show ∀f∈([3,4]:List Nat),f<=1000 by decide) _ hw.shape.mem.1
 exact .seq (.ext (lo:=QB w (i*w.f)) rfl (.compN (L:=ar w.f) (F:=λt=>T.int (w.b (k*w.f+t):Nat)) (H:=λt=>T.int (dX (w.b (k*w.f+t)):Nat)) (.slc2 rfl (.var rfl) (.bin (.var rfl) (.var rfl) mul) (.bin (.bin (.var rfl) (.var rfl) mul) (.var rfl) rfl) hsl) rfl (by rw [aK];exact an hf3 (by decide))
  λt ht=>K_ (qQ hw (bR (Fv (az.mp ht) _) hkn)) rfl) (by unfold QB;rw [aq,aK];exact an (an (bJ ..) (HQ hi)) h3) (by rw [aq,aK];exact hf3)) .skip
theorem B8(o:d5)(hw:w.Ok):∀(k i:Nat) (x4:Option O),i+k=w.r->∃y4,FL o (.seq HH .skip) [4] ((gX i k).map λ(j:Nat)=>T.int ((w.r:Int) - 1 - j)) (Fx w i x4) (Fx w w.r y4)
 | 0,i,x4,h=>⟨x4,by rw [show i=w.r from h];exact .nil⟩
 | k+1,i,x4,h=>by
  obtain ⟨y4,e⟩:=B8 o hw k (i+1) (iT ((w.r:Int) - 1 - i)) (by rw [je];exact h)
  exact ⟨y4,.cons (ρ1:=Fx w i (iT ((w.r:Int) - 1 - i))) rfl (JM o hw (h▸ke (eY k))) e⟩
theorem Hb{r:Nat}(h:r=4\/r=5):qI .range [.int ((r:Int) - 1),.int (-1),.int (-1)]=some (.rng ((r:Int) - 1) (-1) (-1))/\dg (.rng ((r:Int) - 1) (-1) (-1))=some ((gX 0 r).map λ(j:Nat)=>T.int ((r:Int) - 1 - j)):=
 h.elim (λe=>by subst e;exact ⟨rfl,rfl⟩) λe=>by subst e;exact ⟨rfl,rfl⟩
theorem ye(hw:w.Ok)(d:Nat):(bj br (d+1)).call 117 [.int w.f,.int w.r,w.brdT]=some w.turn.brdT:=by
 obtain ⟨y4,e⟩:=B8 (bj br d) hw w.r 0 none (gw _)
 have dt:=Hb hw.shape.2
 have fin:w.turn.brdT= .list (QB w (w.r*w.f)):=by
  show mX w.turn.n _=_
  unfold QB
  rw [eZ];rfl
 rw [fin]
 exact bq (F:=nA) (ρ:=[iT w.f,iT w.r,some (.sh w.brdT),none,none,none]) rfl rfl (.next (ρ1:=[iT w.f,iT w.r,some (.sh w.brdT),some (.lst []),none,none]) (.asgO rfl) (.next (.forr (.bi (.cons (.bin (.var rfl) .lit rfl) (.cons (.neg .lit) (.cons (.neg .lit) .nil))) dt.1) dt.2 (by
  rw [show (some (O.lst []):Option O)=some (.lst ((QB w (0*w.f)).map .sh)) by rw [Nat.zero_mul];rfl];exact e)) (.next (.frzT rfl) (.h_ret (.var rfl)))))
end
end
section
theorem UI(a b c d e f g:Int):gP .ne (.list [.int a,.int b,.int c,.int d,.int e,.int f,.int g]) (.list [.int a,.int b,.int c,.int d,.int e,.int f,.int g])=some false:=by
 show some (!((a==a)&&((b==b)&&((c==c)&&((d==d)&&((e==e)&&((f==f)&&((g==g)&&true))))))))=_
 rw [beq_self_eq_true,beq_self_eq_true,beq_self_eq_true,beq_self_eq_true,beq_self_eq_true,beq_self_eq_true,beq_self_eq_true];rfl
section
variable{w:Bd}{p G:T}
theorem J_:([3,4].all λf=>[4,5].all λr=>((vP f r (JB f r) 8 41 [.c 5,.c 2,.sq 1]).bind λt=>t.asI λ_ _=>some ()).isSome)=true:=by decide+kernel
theorem LH(hw:w.Ok)(d:Nat):∃q:Nat->Int,∀s,s<w.n->w.occP s=true->(bj br (d+21)).call 41 [eE w.f w.r,.int (w.b s:Nat),.int (s:Nat)]=some (.int (q s)):=by
 have key:∀s,∃k:Int,s<w.n->w.occP s=true->(bj br (d+21)).call 41 [eE w.f w.r,.int (w.b s:Nat),.int (s:Nat)]=some (.int k):=λs=>by
  by_cases h:s<w.n/\w.occP s=true
  ·have h2:=(hw.pc s h.1).resolve_left λe=>absurd h.2 (by unfold Bd.occP;rw [e];decide)
   obtain ⟨x,y,c1,_,k,e⟩:=qu (Q:=λx _=>∃k,x= .int k) (lL hw (d:=d+12) (CQ hw d) 8) (aM (show R w (.c 5) (eE w.f w.r) (eE w.f w.r)from ⟨rfl,rfl⟩) (aM (show R w (.c 2) (.int (w.b s:Nat)) (.int (dX (w.b s):Nat))from ⟨w.b s,h2.1,h2.2.1,h2.2.2,rfl,rfl⟩) (aM (show R w (.sq 1) (.int (s:Nat)) (.int (w.sg s:Nat))from ⟨s,h.1,rfl,rfl,h.2⟩) dS)))
    (ax.mp (ax.mp J_ w.f hw.shape.mem.1) w.r hw.shape.mem.2) λt x y hr=>cW (Q:=λx _ _=>∃k,x= .int k) hr λ_ _ k _ _=> .some ⟨k,rfl⟩
   subst e
   exact ⟨k,λ_ _=>c1⟩
  ·exact ⟨0,λh1 h2=>absurd ⟨h1,h2⟩ h⟩
 exact ⟨λs=>UZ (key s),λs=>vU (key s)⟩
@[reducible] noncomputable def Ou:S:= .seq (.aug 2 .add (.call 41 (.cons (.attr (.var 0) 2) (.cons (.idx (.attr (.var 0) 28) (.var 3)) (.cons (.var 3) .nil))))) .skip
theorem Cq(o:d5){B:T}{c:Int}{b q:Nat->Int}(h1:bV 2 (.sh p)=some (.sh G))(h2:bV 28 (.sh p)=some (.sh B)):∀(l:List Nat) (t:Int) (x:Option O),(∀s,s∈l->b4 (s:Nat) (.sh B)=some (.sh (.int (b s)))/\o.call 41 [G,.int (b s),.int (s:Nat)]=some (.int (q s)))->
  ∃y,FL o Ou [3] (ka l) [some (.sh p),iT c,iT t,x] [some (.sh p),iT c,iT (t+(l.map q).sum),y]
 |[],t,x,_=>⟨x,by rw [d3,R8,bQ];exact .nil⟩
 | s::l,t,x,h=>by
  obtain ⟨y,e⟩:=Cq o (c:=c) h1 h2 l (t+q s) (iT (s:Nat)) λu hu=>h u (.tail _ hu)
  rw [dh]at e
  exact ⟨y,.cons (ρ1:=[some (.sh p),iT c,iT t,iT (s:Nat)]) rfl (.seq (.aug rfl (.call (.cons (.attr (.var rfl) h1) (.cons (.idx (.attr (.var rfl) h2) (.var rfl) (h s (.head _)).1) (.cons (.var rfl) .nil))) (h s (.head _)).2) rfl) .skip) e⟩
theorem yg(hw:w.Ok)(d:Nat)(a:Int){c:Nat}(hc:c<=1){q:Nat->Int}(hq:∀s,s<w.n->w.occP s=true->(bj br (d+1)).call 41 [eE w.f w.r,.int (w.b s:Nat),.int (s:Nat)]=some (.int (q s))):
  (bj br (d+2)).call 102 [w.posT a,.int (c:Nat)]=some (.int (((fN w.n (w.sideP c)).map q).sum)):=by
 have hp:=kP w a
 obtain ⟨y,e⟩:=Cq (p:=w.posT a) (G:=eE w.f w.r) (bj br (d+1)) (c:=(c:Nat)) (b:=λs=>(w.b s:Nat)) (q:=q) hp.geo hp.brd (fN w.n (w.sideP c)) 0 none λs hs=>
  ⟨fZ w (bW.mp hs).1 hw.shape.n_le,hq s (bW.mp hs).1 (kQ (bW.mp hs).2)⟩
 rw [de]at e
 exact bq (F:=lW) (ρ:=[some (.sh (w.posT a)),iT c,none,none]) rfl rfl (.next (.asg .lit) (.next (.forr (.call (.cons (.idx (.attr (.var rfl) hp.sides) (.var rfl) (dZ w hc)) .nil) (eF d w.n _ (an hw.shape.n_le (by decide)))) rfl e) (.h_ret (.var rfl))))
@[reducible] noncomputable def NX:S:= .seq (.asg 5 (.bi .sum (.cons (.comp [9] (.bi .range (.cons (.bi .len (.cons (.var 1) .nil)) .nil)) (.andd (.idx (.var 1) (.var 9)) (.cmp .eq (.bin .fdv (.idx (.var 1) (.var 9)) (.lit (.int 8))) (.var 4))) (.call 41 (.cons (.attr (.var 0) 2) (.cons (.idx (.var 1) (.var 9)) (.cons (.var 9) .nil))))) .nil))) (.seq (.asg 6 (.call 121 (.cons (.call 80 (.cons (.call 77 (.cons (.var 0) .nil)) (.cons (.var 4) .nil))) (.cons (.lit (.int 16)) .nil)))) (.seq (.asg 7 (.list (.cons (.var 5) (.cons (.bin .mul (.var 6) (.lit (.int 65537))) (.cons (.call 53 (.cons (.var 0) (.cons (.var 4) .nil))) (.cons (.call 64 (.cons (.var 0) (.cons (.var 4) (.cons (.var 3) .nil)))) (.cons (.call 75 (.cons (.var 0) (.cons (.var 4) (.cons (.var 3) .nil)))) (.cons (.call 96 (.cons (.var 0) (.cons (.var 4) (.cons (.var 3) .nil)))) (.cons (.call 100 (.cons (.var 0) (.cons (.var 4) (.cons (.var 3) .nil)))) .nil))))))))) (.seq (.iff (.cmp .ne (.comp [8] (.var 2) .nil (.idx (.var 8) (.bin .add (.lit (.int 1)) (.var 4)))) (.var 7)) (.seq (.ret (.lit (.bool false))) .skip) .skip) .skip)))
@[reducible] noncomputable def E3(p B RR ms:T)(c:Option O)(J:b6):b6:=[some (.sh p),some (.sh B),some (.sh RR),some (.sh ms),c,get J 0,get J 1,get J 2,none,none]
noncomputable def dW(v u:jC):List Rw:=go.zip (v.list.zip u.list)
theorem Ka(v u:jC):jy v.list u.list= .list ((dW v u).map nZ):=rfl
theorem Kb:∀{c:Nat},c<=1->∀q:Rw,b4 (1+(c:Int)) (.sh (nZ q))=some (.sh (.int (if c=0 then q.2.1 else q.2.2)))
 | 0,_,_=>rfl
 | 1,_,_=>rfl
theorem Kc(v u:jC):∀{c:Nat},c<=1->((dW v u).map λq=>T.int (if c=0 then q.2.1 else q.2.2))=(if c=0 then v else u).list.map .int
 | 0,_=>rfl
 | 1,_=>rfl
theorem C3:∀l:List Int,qy (l.map .int)=some l
 |[]=>rfl
 | a::l=>congrArg (bZ (a:: ·)) (C3 l)
theorem QP(l:List Int):qI .sum [.list (l.map .int)]=some (.int l.sum):=by
 show (qy (l.map .int)).map _=_
 rw [C3];rfl
theorem B5(o:d5)(hw:w.Ok){a:Int}{c:Nat}(hc:c<=1){q:Nat->Int}(hq:∀s,s<w.n->w.occP s=true->o.call 41 [eE w.f w.r,.int (w.b s:Nat),.int (s:Nat)]=some (.int (q s))){ms cs:T}{V U:jC}(hv:g7 o (w.posT a) cs ms (c:Nat) (if c=0 then V else U))(h77:o.call 77 [w.posT a]=some cs)
  (h121:∀v:jC,o.call 121 [.int v.im,.int 16]=some (.int v.odd)) (hps:(if c=0 then V else U).ps=((fN w.n (w.sideP c)).map q).sum) (J:b6):∃J',Ex o (E3 (w.posT a) w.brdT (jy V.list U.list) ms (iT (c:Nat)) J) NX (E3 (w.posT a) w.brdT (jy V.list U.list) ms (iT (c:Nat)) J'):=by
 have hn:w.n<=20:=hw.shape.n_le
 have eo:∀k:Int,k*65537=k*2^16+k:=λk=>by rw [show (2:Int)^16=65536 from rfl];omega
 have em:∀J,dO o (E3 (w.posT a) w.brdT (jy V.list U.list) ms (iT (c:Nat)) J) (.bi .sum (.cons (.comp [9] (.bi .range (.cons (.bi .len (.cons (.var 1) .nil)) .nil)) (.andd (.idx (.var 1) (.var 9)) (.cmp .eq (.bin .fdv (.idx (.var 1) (.var 9)) (.lit (.int 8))) (.var 4))) (.call 41 (.cons (.attr (.var 0) 2) (.cons (.idx (.var 1) (.var 9)) (.cons (.var 9) .nil))))) .nil)) (.sh (.int ((fN w.n (w.sideP c)).map q).sum)):=λJ=>
  .bi (.cons (.compM (P:=w.sideP c) (H:=λs=>T.int (q s)) rfl (tB o hw rfl) (gq (g5 hw)) (by rw [aK];exact an (g5 hw) (by decide)) (λs hs=> .and (.idx (.var rfl) (.var rfl) (fZ w (az.mp hs) hn) (congrArg (λb=>some (!b)) (cK _ 0))) (.cmp (op:= .eq) (.bin (.idx (.var rfl) (.var rfl) (fZ w (az.mp hs) hn)) .lit (T5 _)) (.var rfl) (congrArg some (cK _ c))))
   λs hs hp=> .call (.cons (.attr (.var rfl) (kP w a).geo) (.cons (.idx (.var rfl) (.var rfl) (fZ w (az.mp hs) hn)) (.cons (.var rfl) .nil))) (hq s (az.mp hs) (kQ hp))) .nil) (by
    rw [show (Fc (w.sideP c) (ar w.n)).map (λs=>T.int (q s))=((fN w.n (w.sideP c)).map q).map T.int from by rw [a_];rfl];exact QP _)
 have er:=λJ=>(dO.compN (c:=o) (ρ:=E3 (w.posT a) w.brdT (jy V.list U.list) ms (iT (c:Nat)) J) (i:=8) (src:= .var 2) (e:= .idx (.var 8) (.bin .add (.lit (.int 1)) (.var 4))) (L:=dW V U) (F:=nZ) (H:=λq=>T.int (if c=0 then q.2.1 else q.2.2)) (.var rfl) rfl (bm rfl) λq _=> .idx (.var rfl) (.bin .lit (.var rfl) rfl) (Kb hc q))
 rw [Kc V U hc]at er
 generalize (if c=0 then V else U)=v at*
 rw [<-hps]at em
 refine ⟨[iT v.ps,iT v.odd,some (.sh (.list (v.list.map .int)))],.seq (ρ1:=E3 (w.posT a) w.brdT (jy V.list U.list) ms (iT (c:Nat)) [iT v.ps,get J 1,get J 2]) (.asg (em J)) (.seq (ρ1:=E3 (w.posT a) w.brdT (jy V.list U.list) ms (iT (c:Nat)) [iT v.ps,iT v.odd,get J 2]) (.asg (.call (.cons (.call (.cons (.call (.cons (.var rfl) .nil) h77) (.cons (.var rfl) .nil)) hv.im) (.cons .lit .nil)) (h121 v)))
  (.seq (.asg (.list (.cons (.var rfl) (.cons (.bin (.var rfl) .lit ((qd v.odd 65537 rfl).trans (congrArg (λk=>some (T.int k)) (eo v.odd)))) (.cons (.call (.cons (.var rfl) (.cons (.var rfl) .nil)) hv.pw) (.cons (.call (.cons (.var rfl) (.cons (.var rfl) (.cons (.var rfl) .nil))) hv.mb) (.cons (.call (.cons (.var rfl) (.cons (.var rfl) (.cons (.var rfl) .nil))) hv.kg) (.cons (.call (.cons (.var rfl) (.cons (.var rfl) (.cons (.var rfl) .nil))) hv.th) (.cons (.call (.cons (.var rfl) (.cons (.var rfl) (.cons (.var rfl) .nil))) hv.sp) .nil))))))))) (.seq (.iff_f (.cmp (er [iT v.ps,iT v.odd,some (.sh (.list (v.list.map .int)))]) (.var rfl) (UI ..)) .skip) .skip)))⟩
theorem AP(d:Nat)(hw:w.Ok){a:Int}{q:Nat->Int}(hq:∀s,s<w.n->w.occP s=true->(bj br d).call 41 [eE w.f w.r,.int (w.b s:Nat),.int (s:Nat)]=some (.int (q s))){ms cs:T}{V U:jC}(h61:(bj br d).call 61 [w.posT a]=some ms)(hv:g7 (bj br d) (w.posT a) cs ms 0 V)(hu:g7 (bj br d) (w.posT a) cs ms 1 U)(h77:(bj br d).call 77 [w.posT a]=some cs)
  (h121:∀v:jC,(bj br d).call 121 [.int v.im,.int 16]=some (.int v.odd)) (p0:V.ps=((fN w.n (w.sideP 0)).map q).sum) (p1:U.ps=((fN w.n (w.sideP 1)).map q).sum):(bj br (d+1)).call 129 [w.posT a,w.brdT,jy V.list U.list]=some (.bool true):=by
 obtain ⟨J0,e0⟩:=B5 (bj br d) hw (c:=0) (aE 1) hq (V:=V) (U:=U) hv h77 h121 p0 []
 obtain ⟨J1,e1⟩:=B5 (bj br d) hw (c:=1) (aA 1) hq (V:=V) (U:=U) hu h77 h121 p1 J0
 exact bq (F:=pH) (ρ:=[some (.sh (w.posT a)),some (.sh w.brdT),some (.sh (jy V.list U.list)),none,none,none,none,none,none,none]) rfl rfl (.next (ρ1:=E3 (w.posT a) w.brdT (jy V.list U.list) ms none []) (.asg (.call (.cons (.var rfl) .nil) h61)) (.next (.forr (.tup (.cons .lit (.cons .lit .nil))) rfl (.cons rfl e0 (.cons rfl e1 .nil))) (.h_ret .lit)))
end
end
section
theorem Tx{a b c d:Bool}(h:a=b)(k:c=d):(a||c)=(b||d):=by rw [h,k]
theorem NG{a b c d:Bool}(h:a=b)(k:c=d):(a&&c)=(b&&d):=by rw [h,k]
section
variable{w:Bd}
theorem eK(hw:w.Ok){P Q:Nat->Bool}(h:∀s,s<w.n->Q s=P (w.sg s)):cnt w.n Q=cnt w.n P:=(cZ h).trans (tS hw.shape.fpos (r:=w.r) P)
theorem K9:∀p<16,(p=0\/(p<16/\1<=p%8/\p%8<=6))->dX p=0\/(dX p<16/\1<=dX p%8/\dX p%8<=6):=by decide
theorem u8:∀p<16,(p=0\/(p<16/\1<=p%8/\p%8<=6))->∀c<2,(dX p=6+8*c↔p=6+8*(1 - c)):=by decide
theorem Gd:∀r∈([4,5]:List Nat),∀y<r,1<=r - 1 - y/\r - 1 - y+2<=r->1<=y/\y+2<=r:=by decide
theorem AX(hw:w.Ok):w.turn.Ok:=by
 have pl:=λs (hs:s<w.n)=>qQ hw (ci hw hs)
 refine ⟨hw.shape,λs hs=>K9 _ (pl s hs) (hw.pc _ (ci hw hs)),λc hc=> ?_,λs hs hp=> ?_,(eK hw λs hs=>yq hw hs:cnt w.turn.n w.turn.occP=cnt w.n w.occP)▸hw.few⟩
 ·obtain ⟨k,hk,h⟩:=hw.king (1 - c) (bE 1 c)
  refine ⟨w.sg k,ci hw hk,λs hs=>(u8 _ (pl s hs) (hw.pc _ (ci hw hs)) c (aU hc)).trans ((h _ (ci hw hs)).trans ⟨λq=>q▸(dR hw hs).symm,λq=>q▸dR hw hk⟩)⟩
 ·have hp':=hw.pawn (w.sg s) (ci hw hs) (beq_iff_eq.mp ((hH (w:=w) 1 s).symm.trans (beq_iff_eq.mpr hp)))
  rw [show w.sg s/w.f=w.r - 1 - s/w.f from lz hw.shape.fpos s]at hp'
  exact Gd w.r hw.shape.mem.2 _ (aH hs) hp'
theorem II(hw:w.Ok){c k:Nat}(hc:c<=1):w.turn.N c k=w.N (1 - c) k:=congrArg (λn:Nat=>(n:Int)) (eK hw λs hs=>gH hw hc hs)
theorem xF(hw:w.Ok){c:Nat}(hc:c<=1):w.turn.W c=w.W (1 - c):=congrArg iK (funext λk=>II hw hc)
theorem Av(hw:w.Ok):w.turn.phase=w.phase:=by
 unfold Bd.phase
 rw [xF hw (c:=0) (aE 1),xF hw (c:=1) (aA 1),lq];rfl
theorem Ei:∀r∈([4,5]:List Nat),∀x<4,∀y<r,((x+(r - 1 - y))%2==1)=(((x+y)%2==1)^^((r - 1)%2==1)):=by decide
theorem Rz(hw:w.Ok):w.f<=4:=(show ∀f∈([3,4]:List Nat),f<=4 by decide) _ hw.shape.mem.1
theorem GQ(hw:w.Ok){s:Nat}(hs:s<w.n):d7 w.f (w.sg s)=(d7 w.f s^^((w.r - 1)%2==1)):=by
 unfold d7
 rw [show w.sg s%w.f=s%w.f from m9 hw.shape.fpos s,show w.sg s/w.f=w.r - 1 - s/w.f from lz hw.shape.fpos s]
 exact Ei w.r hw.shape.mem.2 _ (bR (d_ s hw.shape.fpos) (Rz hw)) _ (aH hs)
theorem CB{a b:Nat}(h:(a+b==1)=true):(b==0)= !(a==0):=by
 rcases Nat.add_eq_one_iff.mp (beq_iff_eq.mp h)with ⟨rfl,rfl⟩ |⟨rfl,rfl⟩<;>rfl
theorem Km(a a' b b':Nat):(b+b'==1&&a+a'==1&& !((b'==0)==(a'==0)))=(a+a'==1&&b+b'==1&& !((a==0)==(b==0))):=by
 cases h0:(a+a'==1)
 ·rw [bP];rfl
 ·cases h1:(b+b'==1)
  ·rfl
  ·rw [CB h0,CB h1]
   exact (show ∀x y:Bool,(true&&true&& !((!y)==(!x)))=(true&&true&& !(x==y)) by decide) _ _
theorem Gu(hw:w.Ok):w.turn.opp=w.opp:=by
 have c3:∀c,c<=1->cnt w.turn.n (w.turn.men c 3)=cnt w.n (w.men (1 - c) 3):=λc hc=>eK hw λs hs=>gH hw hc hs
 have l3:∀c,c<=1->cnt w.turn.n (λs=>w.turn.men c 3 s&&d7 w.turn.f s)=cnt w.n (λs=>w.men (1 - c) 3 s&&(d7 w.f s^^((w.r - 1)%2==1))):=λc hc=>eK hw λs hs=>by
  rw [gH hw hc hs,GQ hw hs,Bool.xor_assoc,Bool.xor_self,P3];rfl
 have cs:∀c,cnt w.n (w.men c 3)=cnt w.n (λs=>w.men c 3 s&&d7 w.f s)+cnt w.n (λs=>w.men c 3 s&& !d7 w.f s):=λc=>lh w.n (w.men c 3) (d7 w.f)
 unfold Bd.opp
 rw [c3 0 (aE 1),c3 1 (aA 1),l3 0 (aE 1),l3 1 (aA 1)]
 cases hz:((w.r - 1)%2==1)
 ·simp only [P3]
  exact (show ∀a b c d:Bool,(b&&a&& !(d==c))=(a&&b&& !(c==d)) by decide) _ _ _ _
 ·simp only [Bool.xor_true]
  rw [show 1 - 0=1 from rfl,show 1 - 1=0 from rfl,cs 0,cs 1]
  exact Km ..
theorem rO(hw:w.Ok){st:Nat}(hst:st<=1):w.turn.scale st=w.scale (1 - st):=by
 unfold Bd.scale
 rw [II hw hst,xF hw hst,xF hw (c:=1 - st) (bE 1 st),Gu hw,show cnt w.turn.n (w.turn.sideP st)=cnt w.n (w.sideP (1 - st))from eK hw λs hs=>ji hw hst hs]
theorem Il{n f c:Nat}:∀(l:List Nat) {P Q:Nat->Bool},(∀s,s<n->P s=Q s)->∀s,s<n->l.foldl (iL n f c) P s=l.foldl (iL n f c) Q s
 |[],_,_,h=>h
 | m::l,_,_,h=>Il l λt ht=>by unfold iL;rw [h t ht,j3 h ht]
theorem wC{f r c:Nat}{P Q:Nat->Bool}(h:∀s,s<f*r->P s=Q s){s:Nat}(hs:s<f*r):A3 f r c P s=A3 f r c Q s:=j3 (λu hu=>Il (wZ r) h u hu) hs
theorem BA{f r:Nat}(h:bX f r){c s:Nat}(hc:c<=1)(hs:s<f*r)(P:Nat->Bool):A3 f r (1 - c) (λs=>P (sg f r s)) s=A3 f r c P (sg f r s):=by
 have:=EN h (m:=1) (by decide) hc hs (QM f r c P)
 rw [f8]at this
 exact (j3 (λu hu=>Im h hc hu P) hs).trans this
theorem Kt{f n:Nat}{P Q:Nat->Bool}(h:∀s,s<n->P s=Q s){s:Nat}(hs:s<n):Fs f n P s=Fs f n Q s:=
 Tx (j3 (k:=1) (c:=0) (P:=λu=>P u&& !(u%f==f - 1)) (Q:=λu=>Q u&& !(u%f==f - 1)) (λu hu=>by rw [h u hu]) hs) (j3 (k:=1) (c:=1) (P:=λu=>P u&& !(u%f==0)) (Q:=λu=>Q u&& !(u%f==0)) (λu hu=>by rw [h u hu]) hs)
theorem yJ(hw:w.Ok){c s:Nat}(hc:c<=1)(hs:s<w.n):w.turn.pasP c s=w.pasP (1 - c) (w.sg s):=by
 have e1:1 -(1 - c)=c:=cH hc
 have f1:A3 w.f w.r (1 - c) (w.turn.men c 1) s=A3 w.f w.r c (w.men (1 - c) 1) (w.sg s):=(wC (λu hu=>gH hw hc hu) hs).trans (BA hw.shape hc hs (w.men (1 - c) 1))
 have f2:A3 w.f w.r (1 - c) (w.turn.men (1 - c) 1) s=A3 w.f w.r c (w.men c 1) (w.sg s):=(wC (λu hu=>kU hw hc hu) hs).trans (BA hw.shape hc hs (w.men c 1))
 have f3:A3 w.f w.r (1 - c) (Fs w.f w.n (w.turn.men (1 - c) 1)) s=A3 w.f w.r c (Fs w.f w.n (w.men c 1)) (w.sg s):=
  (wC (λu hu=>(Kt (λt ht=>kU hw hc ht) hu).trans (Nb hw.shape (s:=u) hu (w.men c 1))) hs).trans (BA hw.shape hc hs (Fs w.f w.n (w.men c 1)))
 show (w.turn.men c 1 s&& !(w.turn.men c 1 s&&A3 w.f w.r (1 - c) (w.turn.men c 1) s)&& !(w.turn.men c 1 s&&A3 w.f w.r (1 - c) (w.turn.men (1 - c) 1) s)&& !(A3 w.f w.r (1 - c) (Fs w.f w.n (w.turn.men (1 - c) 1)) s))=_
 rw [gH hw (c:=c) (k:=1) hc hs,f1,f2,f3]
 unfold Bd.pasP
 rw [e1]
theorem GY:∀r∈([4,5]:List Nat),∀x<r,∀y<r,decide (r<=2*(r - 1 - y)\/r<=2*(r - 1 -(r - 1 - x)))=decide (r<=2*x\/r<=2*(r - 1 - y)):=by decide
theorem G5(a x r y:Int):a+(r - 1 - y) -(r - 1 - x)=a+x - y:=by omega
theorem AJ(hw:w.Ok){wk bk:Nat}(hwk:wk<w.n)(hbk:bk<w.n):w.turn.drive (w.sg bk) (w.sg wk)=w.drive wk bk:=by
 have hf:=hw.shape.fpos
 have c1:cnt w.turn.n (w.turn.kindP 1)=cnt w.n (w.kindP 1):=eK hw λs _=>hH 1 s
 have p0:cnt w.turn.n (w.turn.pasP 0)=cnt w.n (w.pasP 1):=eK hw λs hs=>yJ hw (c:=0) (aE 1) hs
 have p1:cnt w.turn.n (w.turn.pasP 1)=cnt w.n (w.pasP 0):=eK hw λs hs=>yJ hw (c:=1) (aA 1) hs
 have oc:cnt w.turn.n w.turn.occP=cnt w.n w.occP:=eK hw λs hs=>yq hw hs
 have md:∀s,w.sg s%w.f=s%w.f:=λs=>m9 hf s
 have dv:∀s,w.sg s/w.f=w.r - 1 - s/w.f:=λs=>lz hf s
 have lo:cnt w.turn.n w.turn.low=cnt w.n w.low:=eK hw λs _=>NG (hH 1 s) (congrArg (λx=>decide (x<w.f/2)) (md s).symm)
 have hi:cnt w.turn.n w.turn.high=cnt w.n w.high:=eK hw λs _=>NG (hH 1 s) (congrArg (λx=>decide (w.f - 1 - x<w.f/2)) (md s).symm)
 have wg:w.turn.wings=w.wings:=by unfold Bd.wings;rw [lo,hi]
 have ba:w.turn.bare=w.bare:=by unfold Bd.bare;rw [c1,oc]
 have d1:wk/w.f<w.r:=aH hwk
 have d2:bk/w.f<w.r:=aH hbk
 have sub:∀y,y<w.r->((w.r - 1 - y:Nat):Int)=(w.r:Int) - 1 - y:=λy hy=>by rw [dD (cx hy),dD (aC (aE y) hy)];rfl
 unfold Bd.drive
 rw [c1,p0,p1,wg,ba,bU (cnt w.n (w.pasP 1))]
 show tR w.f w.r (w.sg bk) (w.sg wk) _ _ _ _=_
 unfold tR
 rw [md,md,dv,dv,show lR (((bk%w.f:Nat):Int) -((wk%w.f:Nat):Int))=lR (((wk%w.f:Nat):Int) -((bk%w.f:Nat):Int)) by rw [wW,wW,<-xH,mU],sub _ d1,sub _ d2,G5,<-jJ (w.r<=2*(w.r - 1 - bk/w.f)\/w.r<=2*(w.r - 1 -(w.r - 1 - wk/w.f))),GY w.r hw.shape.mem.2 _ d1 _ d2,jJ]
theorem Dk(x:Int){b:Int}:sM (-x) b= -sM x b:=by
 unfold sM
 by_cases h:0<=x
 ·by_cases h2:x=0
  ·subst h2
   rw [Int.neg_zero,if_pos (dm 0),Int.zero_fdiv];rfl
  ·rw [if_neg (λq=>h2 (fM (Int.nonpos_of_neg_nonneg q) h)),if_pos h,d9]
 ·rw [if_pos (jQ (bv (fV.mp h))),if_neg h,d9]
theorem yH(x b:Int):gY (-x) b= -gY x b:=by
 unfold gY
 rcases Mb x 0 with h | h | h
 ·rw [if_pos (Js h),if_neg (qV h),if_pos h,d9,mU,Jq,lq]
 ·subst h;rfl
 ·rw [if_neg (qV (p9 h)),if_pos (p9 h),if_pos h,uC];rfl
theorem DW(m e ph sc:Int):jg (-m) (-e) ph sc= -jg m e ph sc:=by
 unfold jg
 rw [mV,mV,mV,Dk,<-uC,Dk]
theorem Ao(m ph a b:Int):jg m 0 ph a=jg m 0 ph b:=by
 unfold jg;rw [iV,iV,iV]
theorem FK(hw:w.Ok){wk bk:Nat}(hwk:wk<w.n)(hbk:bk<w.n)(mg eg:Int):w.turn.val (w.sg bk) (w.sg wk) (-mg) (-eg)= -w.val wk bk mg eg:=by
 unfold Bd.val
 rw [AJ hw hwk hbk,Av hw,yH,yH,<-DW]
 generalize gY eg (w.drive wk bk)=e
 generalize gY mg (min (w.drive wk bk+50) 0)=m
 rcases Mb e 0 with h | h | h
 ·rw [if_pos (Js h),if_neg (qV h),rO hw (aE 1)]
 ·subst h;exact Ao _ _ _ _
 ·rw [if_neg (qV (p9 h)),if_pos h,rO hw (aA 1)]
end
end
theorem pn{n:Nat}:∀{l:List T},(∀t,t∈l->xQ n t t=some true)->SL n l l=some true
 |[],_=>rfl
 | a::l,h=>by
  show (xQ n a a).bind _=_
  rw [h a (.head _)];show (SL n l l).map _=_;rw [pn λt ht=>h t (.tail _ ht)];rfl
theorem Lv(s:Str):xQ 7 (.str s) (.str s)=some true:=congrArg some (beq_self_eq_true s)
theorem Lx(n:Nat)(q:Rw):xQ (n+2) (nZ q) (nZ q)=some true:=by
 show some ((q.1==q.1)&&((q.2.1==q.2.1)&&((q.2.2==q.2.2)&&true)))=_
 rw [beq_self_eq_true,beq_self_eq_true,beq_self_eq_true];rfl
theorem yd(L:List Rw):gP .eq (.list (L.map nZ)) (.list (L.map nZ))=some true:=pn (n:=7) λt ht=>by
 obtain ⟨q,_,rfl⟩:=c9.mp ht
 exact Lx 5 q
theorem pY{l:List T}(h:∀t,t∈l->∃s,t= .str s):gP .ne (.list l) (.list l)=some false:=
 congrArg (bZ (!·)) (pn (n:=7) λt ht=>by
  obtain ⟨s,rfl⟩:=h t ht
  exact Lv s)
theorem DU(L:List Rw)(mg eg v mv:Int):∀t,t∈zW L mg eg v mv->∃s,t= .str s:=λt ht=>by
 have one:∀s:Str,t∈[T.str s]->∃s,t= .str s:=λs h=>⟨s,aN.mp h⟩
 refine (aP.mp ht).elim (λht=>(aP.mp ht).elim (λht=>(aP.mp ht).elim (λht=>(aP.mp ht).elim (one _) λht=> ?_) (one _)) (one _)) (one _)
 obtain ⟨q,_,e⟩:=c9.mp ht
 exact ⟨_,e.symm⟩
theorem compB{α β:Type}{g:b6->Option β}{tg:List Nat}{ρ:b6}{ρ':α->b6}{F:α->T}{H:α->β}:∀L:List α,(∀a,a∈L->dz tg (F a) ρ=some (ρ' a))->(∀a,a∈L->g (ρ' a)=some (H a))->gQ (λ_=>some true) g tg ρ (L.map F)=some (L.map H)
 |[],_,_=>rfl
 | a::L,hf,hg=>by
  show (dz tg (F a) ρ).bind _=_
  rw [hf a (.head _)];show (g (ρ' a)).bind _=_;rw [hg a (.head _)]
  show (gQ (λ_=>some true) g tg ρ (L.map F)).map _=_
  rw [compB L (λu hu=>hf u (.tail _ hu)) λu hu=>hg u (.tail _ hu)];rfl
theorem dO.compB{c:d5}{ρ:b6}{tg:List Nat}{src e:X}{t:T}{α:Type}{F H:α->T}{L:List α}{ρ':α->b6}(h1:dO c ρ src (.sh t))(h2:dg t=some (L.map F))(h3:L.length<=1000000)(hb:∀a,a∈L->dz tg (F a) ρ=some (ρ' a))(he:∀a,a∈L->dO c (ρ' a) e (.sh (H a))):dO c ρ (.comp tg src .nil e) (.sh (.list (L.map H))):=
 (pp h1 h2 (by rw [aq];exact h3)).trans (congrArg (bZ λl=>O.sh (.list l)) (TI.compB (g:=λr=>(ev c e r).bind O.t?) L hb λa ha=>by rw [he a ha];rfl))
theorem n5.either{c:d5}{ρ:b6}{q:X}{s r:S}{p:Bool}{v:T}(h:Ts c ρ q p)(k1:n5 c ρ s v)(k2:n5 c ρ r v):n5 c ρ (.seq (.iff q s .skip) r) v:=by
 cases p
 ·exact .skip_iff h k2
 ·exact .h_iff_t h k1
@[reducible] noncomputable def zN(S B G P RR SU:T)(fi f r sd v mv:Int)(out:Option O)(J:b6):b6:=[some (.sh S),iT fi,iT f,iT r,iT sd,some (.sh B),some (.sh G),some (.sh P),some (.sh RR),some (.sh SU),iT v,iT mv,out,get J 0,get J 1,get J 2,none,none,none,none,none]
@[reducible] noncomputable def OX:S:= .seq (.app (.var 12) (.bin .add (.bin .add (.bin .add (.bin .add (.var 13) (.lit (.str (aa " ")))) (.call 128 (.cons (.var 14) .nil))) (.lit (.str (aa " ")))) (.call 128 (.cons (.var 15) .nil)))) .skip
theorem CS(d:Nat){S B G P RR SU:T}{fi f r sd v mv:Int}:∀(L:List Rw) (out:List T) (J:b6),(∀q,q∈L->Sw q)->out.length+L.length<=1000->
  ∃J',FL (bj br (d+3)) OX [13,14,15] (L.map nZ) (zN S B G P RR SU fi f r sd v mv (some (.lst (out.map .sh))) J) (zN S B G P RR SU fi f r sd v mv (some (.lst ((out++L.map λq=>T.str (kK q)).map .sh))) J')
 |[],out,J,_,_=>⟨J,by rw [d3,d3,bc];exact .nil⟩
 | q::L,out,J,h,hl=>by
  have hq:=h q (.head _)
  obtain ⟨J',e⟩:=CS d (S:=S) (B:=B) (G:=G) (P:=P) (RR:=RR) (SU:=SU) (fi:=fi) (f:=f) (r:=r) (sd:=sd) (v:=v) (mv:=mv) L (out++[T.str (kK q)]) [some (.sh (.str q.1)),iT q.2.1,iT q.2.2] (λq hq=>h q (.tail _ hq)) (by rw [bn,eB,bU [T.str (kK q)].length];exact hl)
  rw [dA]at e
  exact ⟨J',.cons (ρ1:=zN S B G P RR SU fi f r sd v mv (some (.lst (out.map .sh))) [some (.sh (.str q.1)),iT q.2.1,iT q.2.2]) rfl (.seq (.appT (m:=out) rfl (CX d hq rfl (.call (.cons (.var rfl) .nil) (sA (d+1) hq.1.1)) (.call (.cons (.var rfl) .nil) (sA (d+1) hq.1.2))) (an (bJ ..) hl)) .skip) e⟩
section
section
variable{w:Bd}
theorem An(hw:w.Ok)(a b:Int):∃v u:jC,v.Ok/\u.Ok/\∃ms:T,(bj br 23).call 104 [w.posT a]=some (jy v.list u.list)/\(bj br 23).call 104 [w.turn.posT b]=some (jy u.list v.list)/\(bj br 14).call 61 [w.posT a]=some ms/\
  g7 (bj br 21) (w.posT a) (mj w) ms 0 v/\g7 (bj br 21) (w.posT a) (mj w) ms 1 u:=by
 have hn:w.n<=20:=hw.shape.n_le
 obtain ⟨x0,y1,p1,p2,p3⟩:=tD hw 0 (c:=0) (aE 1) a b
 obtain ⟨x1,y0,p4,p5,p6⟩:=tD hw 0 (c:=1) (aA 1) a b
 have hms:R w Bq (.list [x0,x1]) (.list [y0,y1]):=⟨x0,x1,y1,y0,rfl,rfl,p3,p6⟩
 obtain ⟨v,v1,v2,v3⟩:=B6 hw 0 (c:=0) (aE 1) a b hms
 obtain ⟨u,u1,u2,u3⟩:=B6 hw 0 (c:=1) (aA 1) a b hms
 have m1:(bj br 14).call 61 [w.posT a]=some (.list [x0,x1]):=Nk 13 p1 p4
 have m2:(bj br 14).call 61 [w.turn.posT b]=some (.list [y0,y1]):=Nk 13 p5 p2
 have k1:(bj br 21).call 77 [w.posT a]=some (mj w):=eA 18 hn (kP w a)
 have k2:(bj br 21).call 77 [w.turn.posT b]=some (mj w.turn):=eA (w:=w.turn) 18 hn (kP w.turn b)
 exact ⟨v,u,v1,u1,.list [x0,x1],HJ 22 (b8 (by decide) m1) (EM 20 (c:=0) v1 v2 k1) (EM 20 (c:=1) u1 u2 k1),HJ 22 (b8 (by decide) m2) (EM 20 (c:=0) u1 u3 k2) (EM 20 (c:=1) v1 v3 k2),m1,v2,u2⟩
theorem w8{k:Int}(h:Sv k):Md k:=⟨ap (by decide) h.1,ap h.2 (by decide)⟩
theorem yo{v:jC}(h:v.Ok):∀x,x∈v.list->Md x:=by
 have o:In (-25000) 25000 v.odd:=wK (by decide) ⟨ap (by decide) h.im.1,ap h.im.2 (by decide)⟩
 have o2:In (-2147400000) 2147400000 (v.odd*2^16+v.odd):=((Mz o (y:=2^16) (Y:=65536) ⟨by decide,by decide⟩).add o).le (by decide) (by decide)
 exact cJ.mpr ⟨w8 h.ps,cJ.mpr ⟨o2,cJ.mpr ⟨w8 h.pw,cJ.mpr ⟨w8 h.mb,cJ.mpr ⟨w8 h.kg,cJ.mpr ⟨w8 h.th,cJ.mpr ⟨w8 h.sp,λ_ h=>nomatch h⟩⟩⟩⟩⟩⟩⟩
theorem Ef:∀s,s∈go->s.length<=100:=by decide
theorem Cg{v u:jC}(hv:v.Ok)(hu:u.Ok):∀q,q∈dW v u->Sw q:=λq hq=>
 have h1:=k9 (a:=q.1) (b:=q.2) hq
 have h2:=k9 (a:=q.2.1) (b:=q.2.2) h1.2
 ⟨⟨yo hv _ h2.1,yo hu _ h2.2⟩,Ef _ h1.1⟩
theorem sR:∀L:List Rw,B2 (L.map λq=>(q.1,q.2.2,q.2.1))= -B2 L/\A7 (L.map λq=>(q.1,q.2.2,q.2.1))= -A7 L
 |[]=>⟨rfl,rfl⟩
 | q::L=>⟨by
   show (tM q.2.2 - tM q.2.1)+B2 (L.map λq=>(q.1,q.2.2,q.2.1))= -((tM q.2.1 - tM q.2.2)+B2 L)
   rw [(sR L).1,uC,mU],by
   show (A4 q.2.2 - A4 q.2.1)+A7 (L.map λq=>(q.1,q.2.2,q.2.1))= -((A4 q.2.1 - A4 q.2.2)+A7 L)
   rw [(sR L).2,uC,mU]⟩
theorem yk(d:Nat):(bj br (d+1)).call 114 []=some (.list (go.map .str)):=bq (F:=pK) (ρ:=[]) rfl rfl (.h_ret rfl)
theorem AD{v:Int}:∀{k:Nat},k<2->tL (1 -(k:Int)) (-v)=tL k v
 | 0,_=>congrArg (λx=>kc (x+28)) (show (if (1:Int)=1 then - -v else -v)=(if (0:Int)=1 then -v else v) by rw [if_pos rfl,if_neg (by decide),d9])
 | 1,_=>congrArg (λx=>kc (x+28)) (show (if (0:Int)=1 then - -v else -v)=(if (1:Int)=1 then -v else v) by rw [if_neg (by decide),if_pos rfl])
theorem Eg(v:Int):∀{k:Nat},k<2->min (max ((if ((k:Int)=0)then v else -v)+28) (-31753)) 31753=tL k v
 | 0,_=>congrArg (λx=>kc (x+28)) (show (if (0:Int)=0 then v else -v)=(if (0:Int)=1 then -v else v) by rw [if_pos rfl,if_neg (by decide)])
 | 1,_=>congrArg (λx=>kc (x+28)) (show (if (1:Int)=0 then v else -v)=(if (1:Int)=1 then -v else v) by rw [if_neg (by decide),if_pos rfl])
theorem uX(hw:w.Ok){c k:Nat}(hc:c<=1)(hk:k<w.n)(h:∀s,s<w.n->(w.b s=6+8*(1 - c)↔s=k)):∀s,s<w.turn.n->(w.turn.b s=6+8*c↔s=w.sg k):=λs hs=>
 (u8 _ (qQ hw (ci hw hs)) (hw.pc _ (ci hw hs)) c (aU hc)).trans ((h _ (ci hw hs)).trans ⟨λq=>q▸(dR hw hs).symm,λq=>q▸dR hw hk⟩)
end
noncomputable def Io:List Int->Int
 |[]=>5
 | a::_=>a
theorem G3{c:d5}{ρ:b6}:∀ns:List Int,ns.length<=63->get ρ 0=some (.sh (.list (ns.map .int)))->dO c ρ (.ite (.var 0) (.idx (.var 0) (.lit (.int 0))) (.lit (.int 5))) (.sh (.int (Io ns)))
 |[],_,hρ=> .ite_f (.var hρ rfl) .lit
 | a::l,h,hρ=>by
  have hl:((a::l).map T.int).length<=1000:=by rw [aq];exact an h (by decide)
  have t0:bx (.list ((a::l).map .int))=some true:=if_pos (an hl (by decide))
  refine .ite_t (.var hρ t0) (.idx (.var hρ) .lit ?_)
  show (((cr ((0:Nat):Int) ((a::l).map T.int).length).bind _).map _)=_
  rw [pd (k:=0) (len:=((a::l).map T.int).length) (eY _) hl];rfl
theorem w4{a:Int}{M:Int}(h:In (-M) M a)(hM:M<1000000000):Sm a:=⟨bS (Int.neg_lt_neg hM) h.1,bC h.2 hM⟩
theorem Hh(v:Int):In (-31753) 31753 (kc v):=⟨qE.mpr ⟨dj ..,by decide⟩,di ..⟩
theorem F9:∀{k1 k2:Nat},k1<2->k2<2->bX (3+k1) (4+k2):=λ{k1 k2} h1 h2=>⟨(show ∀k<2,3+k=3\/3+k=4 by decide) k1 h1,(show ∀k<2,4+k=4\/4+k=5 by decide) k2 h2⟩
@[reducible] noncomputable def Ut(S:T)(fi f r sd:Int)(B G P RR:Option O):b6:=[some (.sh S),iT fi,iT f,iT r,iT sd,B,G,P,RR,none,none,none,none,none,none,none,none,none,none,none,none]
theorem KP(d:Nat){S B G P NS P2 TB:T}{fi f r sd m1 m2 m3 mg eg v mv:Int}{L L':List Rw}(h1:∀{c:d5} {ρ:b6},get ρ 0=some (.sh S)->dO c ρ (.ite (.var 0) (.idx (.var 0) (.lit (.int 0))) (.lit (.int 5))) (.sh (.int fi)))
  (b1:bK .mod (.int fi) (.int 2)=some (.int m1)) (b3:bK .mod (.int (fi.fdiv 2)) (.int 2)=some (.int m2)) (b5:bK .mod (.int (fi.fdiv 4)) (.int 2)=some (.int sd)) (b7:bK .mod (.int (fi.fdiv 8)) (.int 3)=some (.int m3)) (ef:3+m1=f) (er:4+m2=r)
  (hsl:mx (some 1) (some 8) S=some NS) (c1:(bj br (d+3)).call 118 [.int f,.int r,NS]=some B) (c2:(bj br (d+3)).call 116 [.int f,.int r]=some G) (c3:(bj br (d+3)).call 119 [G,B,.int sd]=some P) (c4:(bj br (d+3)).call 104 [P]=some (.list (L.map nZ))) (hnm:L.map (λq=>T.str q.1)=go.map .str)
  (c5:(bj br (d+3)).call 127 [.int f,.int r,B,.list (L.map nZ)]=some (.tup [.list [.int mg,.int eg],.int v])) (hmv:min (max ((if sd=0 then v else -v)+28) (-31753)) 31753=mv) (hL:∀q,q∈L->Sw q) (hLl:L.length<=900) (a1:Sm mg) (a2:Sm eg) (a3:Sm v) (a4:Sm mv)
  (c6:(bj br (d+3)).call 113 [P,.list (L.map nZ)]=some (.list (zW L mg eg v mv))) (c7:(bj br (d+3)).call 117 [.int f,.int r,B]=some TB) (c8:(bj br (d+3)).call 119 [G,TB,.int (1 - sd)]=some P2) (hL':L'=L.map λq=>(q.1,q.2.2,q.2.1))
  (k1:(bj br (d+3)).call 104 [P2]=some (.list (L'.map nZ))) (k2:(bj br (d+3)).call 129 [P,B,.list (L.map nZ)]=some (.bool true)) (k3:(bj br (d+3)).call 111 [P2]=some (.int mv)):(bj br (d+4)).call 130 [S]=some (.bool true):=by
 have f2:∀k:Int,(k==0|| !small k)=false->bK .fdv (.int fi) (.int k)=some (.int (fi.fdiv k)):=λk h=>dH h
 have hlen:[T.str mh].length+L.length<=901:=bU 1 L.length▸bf hLl
 obtain ⟨J,e⟩:=CS d (S:=S) (B:=B) (G:=G) (P:=P) (RR:= .list (L.map nZ)) (SU:= .list [.int mg,.int eg]) (fi:=fi) (f:=f) (r:=r) (sd:=sd) (v:=v) (mv:=mv) L [T.str mh] [] hL (an hlen (by decide))
 have hts:=DU L mg eg v mv
 unfold zW at c6 hts
 have hlen:([T.str mh]++L.map λq=>T.str (kK q)).length<=901:=by rw [bn,aq];exact hlen
 generalize ([T.str mh]++L.map λq=>T.str (kK q))=o1 at*
 have l2:∀a:T,(o1++[a]).length<=902:=λa=>by rw [bn];exact bf hlen
 have l3:∀a b:T,(o1++[a]++[b]).length<=903:=λa b=>by rw [bn];exact bf (l2 a)
 have hL6:L.length<=1000000:=an hLl (by decide)
 have tn:∀t,t∈go.map T.str->∃s,t= .str s:=λt ht=>by
  obtain ⟨s,_,e⟩:=c9.mp ht
  exact ⟨s,e.symm⟩
 subst ef er hmv
 refine bq (F:=MW) (ρ:=[some (.sh S),none,none,none,none,none,none,none,none,none,none,none,none,none,none,none,none,none,none,none,none]) rfl rfl
  (.next (.asg (h1 rfl)) (.next (.asg (.bin .lit (.bin (.var rfl) .lit b1) rfl)) (.next (.asg (.bin .lit (.bin (.bin (.var rfl) .lit (f2 2 rfl)) .lit b3) rfl)) (.next (ρ1:=Ut S fi (3+m1) (4+m2) sd none none none none) (.asg (.bin (.bin (.var rfl) .lit (f2 4 rfl)) .lit b5)) ?_))))
 generalize 3+m1=f at*
 generalize 4+m2=r at*
 refine .next (.asg (.call (.cons (.var rfl) (.cons (.var rfl) (.cons (.slc2 rfl (.var rfl) .lit .lit hsl) .nil))) c1)) (.next (.asg (.call (.cons (.var rfl) (.cons (.var rfl) .nil)) c2)) (.next (.asg (.call (.cons (.var rfl) (.cons (.var rfl) (.cons (.var rfl) .nil))) c3)) (.next (ρ1:=Ut S fi f r sd (some (.sh B)) (some (.sh G)) (some (.sh P)) (some (.sh (.list (L.map nZ))))) (.asg (.call (.cons (.var rfl) .nil) c4))
  (.skip_iff (.cmp (.compB (L:=L) (F:=nZ) (H:=λq=>T.str q.1) (.var rfl) rfl hL6 (λ_ _=>rfl) λq _=> .idx (.var rfl) .lit rfl) (.call .nil (yk (d+2))) (by rw [hnm];exact pY tn)) (.next (.tupa (.call (.cons (.var rfl) (.cons (.var rfl) (.cons (.var rfl) (.cons (.var rfl) .nil)))) c5) rfl)
  (.next (ρ1:=zN S B G P (.list (L.map nZ)) (.list [.int mg,.int eg]) fi f r sd v (min (max ((if sd=0 then v else -v)+28) (-31753)) 31753) none []) (.asg (.bi (.cons (.bi (.cons (.bin (.iteI (P:=sd=0) (.cmp (.var rfl) .lit rfl) (.var rfl) (.neg (.var rfl))) .lit rfl) (.cons (.neg .lit) .nil)) (nj ..)) (.cons .lit .nil)) (iN ..))) ?_))))))
 generalize min (max ((if sd=0 then v else -v)+28) (-31753)) 31753=mv at*
 refine .next (ρ1:=zN S B G P (.list (L.map nZ)) (.list [.int mg,.int eg]) fi f r sd v mv (some (.lst ([T.str mh].map .sh))) []) (.asgO rfl) (.next (.forr (.var rfl) rfl e)
  (.next (ρ1:=zN S B G P (.list (L.map nZ)) (.list [.int mg,.int eg]) fi f r sd v mv (some (.lst ((o1++[T.str (Ba mg eg)]).map .sh))) J) (.appT rfl (HI a1 a2 (.idx (.var rfl) .lit rfl) (.idx (.var rfl) .lit rfl)) (an hlen (by decide)))
  (.next (ρ1:=zN S B G P (.list (L.map nZ)) (.list [.int mg,.int eg]) fi f r sd v mv (some (.lst (((o1++[T.str (Ba mg eg)])++[T.str (S3 v)]).map .sh))) J) (.appT rfl (MK a3 (.var rfl)) (an (l2 _) (by decide)))
  (.next (ρ1:=zN S B G P (.list (L.map nZ)) (.list [.int mg,.int eg]) fi f r sd v mv (some (.lst ((((o1++[T.str (Ba mg eg)])++[T.str (S3 v)])++[T.str (TZ mv)]).map .sh))) J) (.appT rfl (Nd a4 (.var rfl)) (an (l3 _ _) (by decide))) ?_))))
 generalize ((o1++[T.str (Ba mg eg)])++[T.str (S3 v)])++[T.str (TZ mv)]=TX at*
 refine .next (ρ1:=zN S B G P (.list (L.map nZ)) (.list [.int mg,.int eg]) fi f r sd v mv (some (.sh (.list TX))) J) (.frzT rfl) (.skip_iff (.cmp (.call (.cons (.var rfl) (.cons (.var rfl) .nil)) c6) (.var rfl) (pY hts)) (.next (.asg (.call (.cons (.var rfl) (.cons (.call (.cons (.var rfl) (.cons (.var rfl) (.cons (.var rfl) .nil))) c7) (.cons (.bin .lit (.var rfl) rfl) .nil))) c8)) ?_))
 subst hL'
 exact .either (.cmp (.bin (.bin (.var rfl) .lit (f2 8 rfl)) .lit b7) .lit rfl) (.h_ret (.cmp (.call (.cons (.var rfl) .nil) k1) (.compB (L:=L) (F:=nZ) (H:=λq=>nZ (q.1,q.2.2,q.2.1)) (.var rfl) rfl hL6 (λ_ _=>rfl) λq _=> .tup (.cons (.var rfl) (.cons (.var rfl) (.cons (.var rfl) .nil)))) (by rw [<-show (L.map λq=>(q.1,q.2.2,q.2.1)).map nZ=L.map λq=>nZ (q.1,q.2.2,q.2.1)from a_];exact yd _)))
  (.either (.cmp (.bin (.bin (.var rfl) .lit (f2 8 rfl)) .lit b7) .lit rfl) (.h_ret (.call (.cons (.var rfl) (.cons (.var rfl) (.cons (.var rfl) .nil))) k2)) (.h_ret (.cmp (.call (.cons (.var rfl) .nil) k3) (.var rfl) (congrArg some (beq_self_eq_true mv)))))
theorem hlaw:∀ns:List Int,ns.length<=63->(bj br 40).call 130 [.list (ns.map .int)]=some (.bool true):=λns hns=>by
 have h1:=λ{c:d5} {ρ:b6}=>G3 (c:=c) (ρ:=ρ) ns hns
 generalize Io ns=fi at*
 obtain ⟨k1,k1l,k1e⟩:=hZ fi (n:=2) (by decide)
 obtain ⟨k2,k2l,k2e⟩:=hZ (fi.fdiv 2) (n:=2) (by decide)
 obtain ⟨k3,k3l,k3e⟩:=hZ (fi.fdiv 4) (n:=2) (by decide)
 obtain ⟨k4,k4l,k4e⟩:=hZ (fi.fdiv 8) (n:=3) (by decide)
 have hs:=F9 k1l k2l
 have ef:(3:Int)+(k1:Nat)=((3+k1:Nat):Int):=rfl
 have er:(4:Int)+(k2:Nat)=((4+k2:Nat):Int):=rfl
 generalize 3+k1=f at*
 generalize 4+k2=r at*
 have hlen7:((ns.take 8).drop 1).length<=7:=by rw [sK];exact Nat.sub_le_of_le_add (an (List.length_take_le ..) (by decide))
 obtain ⟨w,hw,wf,wr,wk,bk,hwk,hbk,h6,h14,hboard⟩:=AW 38 hs ((ns.take 8).drop 1) hlen7
 subst wf
 subst wr
 have hwt:=AX hw
 obtain ⟨v,u,hv,hu,ms,ht1,ht2,h61,vc,uc⟩:=An hw (k3:Nat) (1 -(k3:Nat))
 have hL:=Cg hv hu
 have hL1:∀q,q∈dW v u->Jy q:=λq hq=>(hL q hq).1
 have hsum:=vg 0 hL1
 have hsumT:=vg 0 (L:=dW u v) λq hq=>(Cg hu hv q hq).1
 have hsw:=sR (dW v u)
 rw [show dW u v=(dW v u).map λq=>(q.1,q.2.2,q.2.1)from rfl,hsw.1,hsw.2]at hsumT
 have sb:=N5 hL1
 rw [show (dW v u).length=7 from rfl]at sb
 have m1:In (-500000) 500000 (B2 (dW v u)):=In.le sb.1 (by decide) (by decide)
 have m2:In (-500000) 500000 (A7 (dW v u)):=In.le sb.2 (by decide) (by decide)
 have hwhite:=yh 35 hw hwk hbk h6 h14 (dW v u)
 have htv:=Dr hw 0 (k3:Nat) hwk hbk h6 h14 (B2 (dW v u)) (A7 (dW v u))
 have htvT:=Dr hwt 0 (1 -(k3:Nat)) (wk:=w.sg bk) (bk:=w.sg wk) (ci hw hbk) (ci hw hwk) (uX hw (c:=0) (aE 1) hbk h14) (uX hw (c:=1) (aA 1) hwk h6) (-B2 (dW v u)) (-A7 (dW v u))
 rw [FK hw hwk hbk]at htvT
 have m3:=w4 (NY hw hwk hbk m1 m2) (by decide)
 have m4:Sm (tL (k3:Nat) (w.val wk bk (B2 (dW v u)) (A7 (dW v u)))):=w4 (Hh _) (by decide)
 have hnm:(dW v u).map (λq=>T.str q.1)=go.map .str:=rfl
 have hlenL:(dW v u).length<=900:=bm rfl
 have hswL:dW u v=(dW v u).map λq=>(q.1,q.2.2,q.2.1):=rfl
 obtain ⟨q,hq⟩:=LH hw 0
 have ps:∀{c:Nat} {z:jC},c<=1->g7 (bj br 21) (w.posT (k3:Nat)) (mj w) ms (c:Nat) z->z.ps=((fN w.n (w.sideP c)).map q).sum:=λhc hz=>
  (T.int_inj (ah.inj ((yg hw 20 (k3:Nat) hc hq).symm.trans (b8 (m:=22) (by decide) hz.ps)))).symm
 have h77:(bj br 38).call 77 [w.posT (k3:Nat)]=some (mj w):=eA 35 hw.shape.n_le (kP w _)
 have wired:=AP 38 hw (λs h1 h2=>b8 (m:=38) (by decide) (hq s h1 h2)) (b8 (by decide) h61) (vc.le (by decide)) (uc.le (by decide)) h77 (λv=>tz 37 v.im (by decide) rfl) (ps (aE 1) vc) (ps (aA 1) uc)
 have c5:=ht1
 rw [Ka]at wired ht1 ht2
 have htrace:=N3 (p:=w.posT (k3:Nat)) 30 hL hlenL (b8 (by decide) hsum) (b8 (by decide) htv) (H9 31 rfl _) (w4 m1 (by decide)) (w4 m2 (by decide)) m3 m4
 have heval:=UN 38 (Uy (p:=w.turn.posT (1 -(k3:Nat))) 37 (b8 (by decide) ht2) (b8 (by decide) hsumT) (b8 (by decide) htvT)) (H9 36 rfl _)
 rw [AD k3l]at heval
 generalize B2 (dW v u)=mg at*
 generalize A7 (dW v u)=eg at*
 generalize w.val wk bk mg eg=val at*
 generalize dW v u=L at*
 generalize dW u v=L' at*
 have md:∀{x k:Int} {n:Nat},(k==0)=false->x.fmod k=(n:Nat)->bK .mod (.int x) (.int k)=some (.int (n:Nat)):=λh e=>(g6 h).trans (congrArg (λk=>some (T.int k)) e)
 exact KP 36 h1 (md rfl k1e) (md rfl k2e) (md rfl k3e) (md rfl k4e) ef er (Ce (a:=1) (b:=8) (by decide) (by decide) (by rw [aq];exact an hns (by decide))) (by rw [<-Qy,<-zC];exact hboard) (Ho w.f w.r 36 hs) (mc hw 36 (k3:Nat)) (b8 (by decide) ht1) hnm hwhite (Eg val k3l) hL hlenL (w4 m1 (by decide)) (w4 m2 (by decide)) m3 m4
  (b8 (by decide) htrace) (ye hw 38) (mc hwt 36 (1 -(k3:Nat))) hswL (b8 (by decide) ht2) wired heval
end
set_option maxHeartbeats 8000000
theorem fin:_root_.PySem.Challenge.rw_nt0471_01.Holds:=by
 w_on
 refine holds_law Tv λhsd=> ?_
 refine holds_openX left (XP:=λ_ _=>True) (λ_ _=>trivial) (λ_ _ _ _ _=>trivial) (by rfl) (by rfl) (by rfl) (λs e=>recFacts_of e) (by rfl) (by first | assumption | decide+kernel) (by decide+kernel) ⟨rfl,rfl,rfl,rfl,rfl,by decide+kernel⟩ ?hw ?hc
 case hw=>w_witness2
 case hc=>exact FJ rfl hlaw
end TI
theorem PySem.Challenge.cw_nt0471_01_holds : PySem.Challenge.rw_nt0471_01.Holds :=
 TI.fin
