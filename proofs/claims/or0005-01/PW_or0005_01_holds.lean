import PyProof.Rows.All
import Wide.Line
import OpenK.KLine
import PySem.Challenge.RW_or0005_01
set_option Elab.async false
open Nat renaming le_trans->Lk,le_refl->Lv,le_of_ble_eq_true->LL,zero_le->LP,le_of_eq->LU,lt_of_lt_of_le->L1,le_succ->Mf,le_add_right->Me,lt_of_le_of_lt->Mp,le_antisymm->Ms,ne_of_lt->MC,le_add_left->MF,add_le_add_left->M9,zero_add->Nf,add_le_add->Nl,lt_succ_of_le->NI,le_of_lt->NN,not_lt_zero->NM,lt_succ_self->Oe,add_assoc->Ov,succ_le_succ->Ou,mul_le_mul_right->Oo,lt_trans->OD,ne_of_gt->O0,add_mul->Pd,mul_add->PE,lt_succ_of_lt->PD,add_comm->PX,not_lt->Qe,add_right_cancel->Qd,add_le_add_right->Qc,sub_le->Qa,le_of_succ_le->P9,one_mul->PZ,min_eq_left->QK,add_sub_cancel_left->QI,le_max_right->QF,ble->RE,mul_le_mul_left->RD,sub_eq_zero_of_le->Rv,le_succ_of_le->Ru,lt_of_not_le->Rt,le_of_lt_succ->Rl,add_left_cancel->Rk,add_add_add_comm->SX,mul_left_comm->SW,zero_mul->SV,le_max_left->SK,lt_succ_iff_lt_or_eq->SI,succ_pos->Up,le_of_not_lt->Uo,sub_add_cancel->Un,min_le_left->Um,lt_of_lt_of_eq->Uk,le_zero->Ud,mul_one->W0,lt_add_of_pos_right->WZ,add_right_comm->Xd,lt_irrefl->Xc,le_of_add_le_add_left->Xb,not_succ_le_zero->W9,min_le_right->WT,succ_ne_self->WK,testBit_or->WW,succ_add_eq_add_succ->YZ,le_add_of_sub_le->YY,le_of_succ_le_succ->YW,min_eq_right->Y7,add_eq_zero_iff->YA,exists_eq_add_of_le->Yz,le_add_left_of_le->Yp
open Or renaming elim->Lr
open List renaming length_append->LH,mem_cons_self->LI,length_map->LN,mem_singleton->LV,mem_cons->L7,mem_cons_of_mem->L8,append_assoc->Mh,map_map->Ml,map_append->Mj,range->Mo,forall_mem_append->Mr,replicate->Mu,getElem?_eq_some_iff->Mt,append_nil->Mz,mem_append_right->MB,mem_map->MH,mem_of_getElem?->MI,all_eq_true->MV,getElem?_eq_getElem->MU,mem_append->M0,mem_append_left->MZ,map_cons->M6,getElem?_map->M8,length->Nr,nodup_cons->Ny,lookup_cons->Oc,mem_range->Oq,pairwise_cons->OG,filter_cons->OE,getElem?_append_left->OY,eq_nil_of_length_eq_zero->Pc,nodup_append->Pa,length_range->O',contains_iff_mem->PB,nodup_nil->Pz,length_replicate->Py,map_congr_left->Qh,length_take->Qg,any_eq_true->Qf,forall_mem_cons->Qb,foldl_append->P8,length_pos_iff->P7,length_cons->P5,length_eq_one_iff->P0,size_toArray->QP,replicate_succ->QO,foldl_cons->QN,not_mem_nil->QM,lookup->QJ,take_length->QH,flatMap_cons->QG,mem_filter->QR,filter_append->QQ,flatten_cons->RC,find?_cons->RB,findIdx?_cons->Rz,getElem?_eq_none_iff->Rq,length_drop->Ro,getElem?_append_right->Rn,isEmpty_iff->Rm,map_id->Rj,length_take_le'->SQ,pairwise_singleton->SP,range'->SO,map_replicate->SM,mem_filterMap->SH,forIn_cons->Ui,cons_append->Uh,length_nil->Ug,cons_ne_nil->Ue,length_eq_zero_iff->Uc,length_singleton->Ub,mem_flatMap->Ua,flatMap_nil->T9,flatMap_append->TZ,mem_replicate->TY,map_nil->TV,sum_cons->TU,map_const'->TQ,sublist_cons_self->TP,perm_append_comm_assoc->TO,take->W8,foldl->W7,ext_getElem?->W6,getElem?_set->W5,filter_eq_self->W4,contains_cons->WU,drop_zero->WM,dropLast_eq_take->WL,zip_cons_cons->WG,getElem?_eq_none->WE,getD_eq_getElem?_getD->WD,sum_append->Wy,length_flatMap->Ww,find?_eq_none->Wv,mem_flatten->Wu,take_of_length_le->Wt,idxOf_eq_length->Ws,length_filter_le->Wr,filter_congr->Wq,take_zero->WY,filter_sublist->WX,drop_of_length_le->YO,zipIdx_cons->YN,filterMap_cons->YM,drop_eq_nil_of_le->YG,getElem?_drop->YF,filter_eq_nil_iff->YE,find?_some->YD,mem_of_find?_eq_some->Y9,append_eq_nil_iff->Y8,sum_replicate_nat->Y6,mem_of_mem_take->Y5,append_ne_nil_of_left_ne_nil->Y4,idxOf_lt_length_of_mem->Y3,getElem_idxOf->Y2,zipIdx_append->Y1,any_eq_false->Y0,length_pos_of_mem->YC,ne_nil_of_mem->YB,replicate_append_replicate->Yy,takeWhile_cons->Yx,dropWhile_cons->Yw,range_add->Yv,filter_map->Yu,length_take_le->Yt,replicate_succ'->Ys,map_singleton->Yr,append_cancel_left->Yq
open Int renaming ofNat_inj->L9,ofNat->Mi,ofNat_le->M1,natCast_nonneg->Nq,not_lt->Od,ofNat_lt->Ot,le_trans->Rx,not_le->SS,le_of_lt->Ul,toNat_lt->Uj,negSucc->TX,lt_of_le_of_lt->WV,lt_trans->WQ,min_eq_left->WO,natCast_pos->WN,le_refl->WA,lt_irrefl->Wz,max_eq_right->Wx,eq_ofNat_of_zero_le->YV,sub_add_cancel->YQ,sub_nonpos_of_le->YL,toNat_of_nonneg->YK
open Exists renaming elim->MO
open Bool renaming and_eq_true->MW,false_ne_true->Nd,or_eq_true->OH,false_eq_true->PA,and_eq_true_iff->PY,eq_iff_iff->QL,not_eq_true'->Rr,not_eq_true->SJ,and_false->YJ
open Iff renaming rfl->NW
open Classical renaming not_not->NV,byContradiction->O9,em->PC
open Option renaming isSome_iff_exists->OZ,isSome_map->QS,map_eq_some_iff->Ry,isSome->Rp,map_some->SU,bind->SN,bind_eq_some_iff->WJ,getD_some->WH,isNone_iff_eq_none->WB,bind_some->YT,none_or->YH
open Array renaming getElem?_toList->Pb,toList_push->Xa,forIn_toList->YX,mem_toList_iff->YU,length_toList->YS,getElem?_eq_getElem->YR,size_push->YP,getElem?_eq_none_iff->YI
open And renaming right->P6
open PySem renaming wpAny_bind→WF,Value→WP,Shared→W1,wpAny_pure→XV,wpAny→ZB,model→η,Heap→θ,World→μ,Around→ψ,Program→Θ,wpAny_newObj_type→AK,wpAny_holding→Zb,wpAny_call_entry→xG,DictEntry→Zf,wpAny_callSpecial?_slot→Jc,NameKind→Zk,mainGlobals→HJ,Stmt→χ,cLine→Λ,wpAny_sequenceKey→Vo,wpAny_specialOf→u1,cellsFrom→Le,Scope→K6,sizeLine→DK,Comprehension→GW,starEach→Zj,FuncData→A1,letOwnedTupleGo→Hy,sysModules→Di,wpAny_mono→ye,assignEach→xT,wpAny_standAt→yA,wpAny_field→Ea,compEnvC→EY,swapsWith→EQ,backTo→Zl,wpAny_rule→uf,call_meets→Ij,Model→XI,intKind→DP,codeAny→U6,notedBy→xO,dictGet→HN,operate→KA,relabel→KB,Result→Dd,cellOf→qJ,Params→Dg
open PySem.W renaming Frag→Y',findIn→uV,instObj→Ds,WellAll→C3,nsIn→Ke
open PySem renaming Str→ζ
set_option linter.all false
set_option maxRecDepth 100000
set_option maxHeartbeats 4000000
set_option bootstrap.genMatcherCode false
set_option genSizeOf false
set_option tactic.hygienic false
namespace Mine.Internal
theorem au {α:Type _}{a:α}{P:Prop}(h:none=some a):P:=by contradiction
theorem za {α:Type _}{a:α}{P:Prop}(h:some a=none):P:=by contradiction
theorem ak {P:Prop}(h:false=true):P:=by contradiction
theorem vz {P:Prop}(h:true=false):P:=by contradiction
@[elab_as_elim] theorem aR {α:Sort _}{a b:α}{P:α->Prop}(h:a=b)(k:P a):P b:=h▸k
@[elab_as_elim] theorem ad {α:Sort _}{a b:α}{P:α->Prop}(h:a=b)(k:P b):P a:=h▸k
@[elab_as_elim] theorem aT {α:Type _}{a b:α}{P:α->Prop}(h:some a=some b)(k:P a):P b:=Option.some.inj h▸k
@[elab_as_elim] theorem cX {α:Type _}{a b:α}{P:α->Prop}(h:some a=some b)(k:P b):P a:=Option.some.inj h▸k
@[elab_as_elim] theorem bF {α β:Type _}{a a':α}{b b':β}{P:α->β->Prop}(h:some (a,b)=some (a',b'))(k:P a b):P a' b':=by cases h;exact k
@[elab_as_elim] theorem kD {α β γ:Type _}{a a':α}{b b':β}{c c':γ}{P:α->β->γ->Prop}(h:some (a,b,c)=some (a',b',c'))(k:P a b c):P a' b' c':=by cases h;exact k
@[elab_as_elim] theorem List.cs {α:Type _}{P:List α->Prop}(nil:P [])(cons:∀a l,P (a::l))(t:List α):P t:=List.casesOn t nil cons
theorem vA {a b c G:Prop}(h:a/\b/\c)(k:a->b->c->G):G:=k h.1 h.2.1 h.2.2
theorem y9 {a b c d G:Prop}(h:a/\b/\c/\d)(k:a->b->c->d->G):G:=k h.1 h.2.1 h.2.2.1 h.2.2.2
theorem IG {a b c d e G:Prop}(h:a/\b/\c/\d/\e)(k:a->b->c->d->e->G):G:=k h.1 h.2.1 h.2.2.1 h.2.2.2.1 h.2.2.2.2
theorem Ko {a b c d e f G:Prop}(h:a/\b/\c/\d/\e/\f)(k:a->b->c->d->e->f->G):G:=k h.1 h.2.1 h.2.2.1 h.2.2.2.1 h.2.2.2.2.1 h.2.2.2.2.2
theorem ag {α:Sort _}{a b:α->Prop}{G:Prop}(h:∃x,a x/\b x)(k:∀x,a x->b x->G):G:=MO h λx h=>k x h.1 h.2
theorem a6 {α:Sort _}{a b c:α->Prop}{G:Prop}(h:∃x,a x/\b x/\c x)(k:∀x,a x->b x->c x->G):G:=MO h λx h=>vA h (k x)
theorem Kr {α:Sort _}{a b c d:α->Prop}{G:Prop}(h:∃x,a x/\b x/\c x/\d x)(k:∀x,a x->b x->c x->d x->G):G:=MO h λx h=>y9 h (k x)
theorem Ks {α:Sort _}{a b c d e:α->Prop}{G:Prop}(h:∃x,a x/\b x/\c x/\d x/\e x)(k:∀x,a x->b x->c x->d x->e x->G):G:=MO h λx h=>IG h (k x)
theorem tJ {α:Sort _}{a b c d e f:α->Prop}{G:Prop}(h:∃x,a x/\b x/\c x/\d x/\e x/\f x)(k:∀x,a x->b x->c x->d x->e x->f x->G):G:=MO h λx h=>Ko h (k x)
theorem gf {α:Sort _}{β:Sort _}{a:α->β->Prop}{G:Prop}(h:∃x y,a x y)(k:∀x y,a x y->G):G:=MO h λx h=>MO h (k x)
theorem bv {α:Sort _}{β:Sort _}{a b:α->β->Prop}{G:Prop}(h:∃x y,a x y/\b x y)(k:∀x y,a x y->b x y->G):G:=MO h λx h=>ag h (k x)
theorem aL {α:Sort _}{β:Sort _}{a b c:α->β->Prop}{G:Prop}(h:∃x y,a x y/\b x y/\c x y)(k:∀x y,a x y->b x y->c x y->G):G:=MO h λx h=>a6 h (k x)
theorem cS {α:Sort _}{β:Sort _}{a b c d:α->β->Prop}{G:Prop}(h:∃x y,a x y/\b x y/\c x y/\d x y)(k:∀x y,a x y->b x y->c x y->d x y->G):G:=MO h λx h=>Kr h (k x)
theorem CM {α:Sort _}{β:Sort _}{a b c d e:α->β->Prop}{G:Prop}(h:∃x y,a x y/\b x y/\c x y/\d x y/\e x y)(k:∀x y,a x y->b x y->c x y->d x y->e x y->G):G:=MO h λx h=>Ks h (k x)
theorem Kt {α:Sort _}{β:Sort _}{a b c d e f:α->β->Prop}{G:Prop}(h:∃x y,a x y/\b x y/\c x y/\d x y/\e x y/\f x y)(k:∀x y,a x y->b x y->c x y->d x y->e x y->f x y->G):G:=MO h λx h=>tJ h (k x)
theorem Ku {α:Sort _}{β:Sort _}{γ:Sort _}{a:α->β->γ->Prop}{G:Prop}(h:∃x y z,a x y z)(k:∀x y z,a x y z->G):G:=MO h λx h=>gf h (k x)
theorem fh {α:Sort _}{β:Sort _}{γ:Sort _}{a b:α->β->γ->Prop}{G:Prop}(h:∃x y z,a x y z/\b x y z)(k:∀x y z,a x y z->b x y z->G):G:=MO h λx h=>bv h (k x)
theorem ik {α:Sort _}{β:Sort _}{γ:Sort _}{a b c:α->β->γ->Prop}{G:Prop}(h:∃x y z,a x y z/\b x y z/\c x y z)(k:∀x y z,a x y z->b x y z->c x y z->G):G:=MO h λx h=>aL h (k x)
theorem jz {α:Sort _}{β:Sort _}{γ:Sort _}{a b c d:α->β->γ->Prop}{G:Prop}(h:∃x y z,a x y z/\b x y z/\c x y z/\d x y z)(k:∀x y z,a x y z->b x y z->c x y z->d x y z->G):G:=MO h λx h=>cS h (k x)
theorem F7 {α:Sort _}{β:Sort _}{γ:Sort _}{a b c d e:α->β->γ->Prop}{G:Prop}(h:∃x y z,a x y z/\b x y z/\c x y z/\d x y z/\e x y z)(k:∀x y z,a x y z->b x y z->c x y z->d x y z->e x y z->G):G:=MO h λx h=>CM h (k x)
theorem xu {α:Sort _}{β:Sort _}{γ:Sort _}{a b c d e f:α->β->γ->Prop}{G:Prop}(h:∃x y z,a x y z/\b x y z/\c x y z/\d x y z/\e x y z/\f x y z)(k:∀x y z,a x y z->b x y z->c x y z->d x y z->e x y z->f x y z->G):G:=MO h λx h=>Kt h (k x)
theorem CN {α:Sort _}{β:Sort _}{γ:Sort _}{δ:Sort _}{a:α->β->γ->δ->Prop}{G:Prop}(h:∃x y z u,a x y z u)(k:∀x y z u,a x y z u->G):G:=MO h λx h=>Ku h (k x)
theorem Kv {α:Sort _}{β:Sort _}{γ:Sort _}{δ:Sort _}{a b:α->β->γ->δ->Prop}{G:Prop}(h:∃x y z u,a x y z u/\b x y z u)(k:∀x y z u,a x y z u->b x y z u->G):G:=MO h λx h=>fh h (k x)
theorem IP {α:Sort _}{β:Sort _}{γ:Sort _}{δ:Sort _}{a b c:α->β->γ->δ->Prop}{G:Prop}(h:∃x y z u,a x y z u/\b x y z u/\c x y z u)(k:∀x y z u,a x y z u->b x y z u->c x y z u->G):G:=MO h λx h=>ik h (k x)
theorem Kw {α:Sort _}{β:Sort _}{γ:Sort _}{δ:Sort _}{a b c d e f:α->β->γ->δ->Prop}{G:Prop}(h:∃x y z u,a x y z u/\b x y z u/\c x y z u/\d x y z u/\e x y z u/\f x y z u)(k:∀x y z u,a x y z u->b x y z u->c x y z u->d x y z u->e x y z u->f x y z u->G):G:=MO h λx h=>xu h (k x)
theorem dy {α:Type _}{c:Prop}[Decidable c]{a:Option α}{z:α}{G:Prop}(h:(if c then a else none)=some z)(k:c->a=some z->G):G:=if q:c then k q ((if_pos q).symm.trans h)else au ((if_neg q).symm.trans h)
theorem fY {a b c G:Prop}(h:a\/b\/c)(x:a->G)(y:b->G)(z:c->G):G:=h.elim x λh=>h.elim y z
theorem mM {a b c d G:Prop}(h:a\/b\/c\/d)(x:a->G)(y:b->G)(z:c->G)(u:d->G):G:=h.elim x λh=>fY h y z u
theorem bj {a b:Bool}(h:(a&&b)=true):a=true/\b=true:=PY.mp h
theorem qA {p q:Prop}[Decidable p][Decidable q](h:(decide p&&decide q)=true):p/\q:=⟨of_decide_eq_true (bj h).1,of_decide_eq_true (bj h).2⟩
theorem oF {a b c:Bool}(h:(a&&b&&c)=true):(a=true/\b=true)/\c=true:=⟨bj (bj h).1,(bj h).2⟩
theorem E4 {p q r:Prop}[Decidable p][Decidable q][Decidable r](h:(decide p&&decide q&&decide r)=true):(p/\q)/\r:=⟨qA (bj h).1,of_decide_eq_true (bj h).2⟩
theorem IQ {a b:Bool}{r:Prop}[Decidable r](h:(a&&b&&decide r)=true):(a=true/\b=true)/\r:=⟨bj (bj h).1,of_decide_eq_true (bj h).2⟩
theorem dB {a b:Bool}(h1:a=true)(h2:b=true):(a&&b)=true:=PY.mpr ⟨h1,h2⟩
theorem mN {α β:Type _}{o:Option α}{f:α->Option β}{z:β}{G:Prop}(h:o.bind f=some z)(k:∀a,o=some a->f a=some z->G):G:=by
 rcases o with _|a
 ·exact au h
 ·exact k a rfl h
@[elab_as_elim] theorem zb {α β:Type _}{o:Option α}{f:α->β}{z:β}{G:β->Prop}(h:o.map f=some z)(k:∀a,o=some a->G (f a)):G z:=by
 rcases o with _|a
 ·exact au h
 ·exact aT h (k a rfl)
set_option genInjectivity false in
set_option genSizeOf false in
set_option genCtorIdx false in
inductive Lf|v (n:Nat)|k (n:Nat)|a (x y:Lf)|m (n:Nat)(x:Lf)|w (x:Lf)(n:Nat)
noncomputable def Lf.g (c:List Nat):Nat->Nat:=List.rec (λ_=>0) (λa _ f i=>Nat.rec a (λj _=>f j) i) c
noncomputable def Lf.d (c:List Nat)(e:Lf):Nat:=Lf.rec (Lf.g c) (λk=>k) (λ_ _ x y=>x+y) (λk _ x=>k*x) (λ_ k x=>x*k) e
noncomputable def Lf.f (g:Nat->Nat)(u:Nat)(e:Lf):Nat:=Lf.rec g (λk=>k*u) (λ_ _ x y=>x+y) (λk _ x=>k*x) (λ_ k x=>x*k) e
noncomputable def Lf.s (f:Lf->Nat)(z:Nat)(b:Nat×Lf×Lf->Lf)(cs:List (Nat×Lf×Lf)):Nat:=List.rec z (λa _ x=>a.1*f (b a)+x) cs
def Lf.imp (c:List Nat)(P:Prop)(cs:List (Nat×Lf×Lf)):Prop:=List.rec P (λa _ q=>a.2.1.d c<=a.2.2.d c->q) cs
def Lf.T (k:Nat)(l r:Lf)(cs:List (Nat×Lf×Lf))(z:Nat)(f:Lf->Nat):Prop:=k*f l+Lf.s f 0 (λa=>a.2.2) cs<=k*f r+Lf.s f z (λa=>a.2.1) cs
noncomputable def Lf.le1 (k:Nat)(l r:Lf)(cs:List (Nat×Lf×Lf))(z:Nat)(f:Lf->Nat):Bool:=RE (k*f l+Lf.s f 0 (λa=>a.2.2) cs) (k*f r+Lf.s f z (λa=>a.2.1) cs)
noncomputable def Lf.e (i j:Nat):Nat:=cond (Nat.beq i j) 1 0
noncomputable def Lf.abL (k:Nat)(l r:Lf)(cs:List (Nat×Lf×Lf))(c:List Nat):Nat->Bool:=List.rec (λ_=>true) (λ_ _ q i=>Lf.le1 k l r cs 0 (Lf.f (Lf.e i) 0)&&q (i+1)) c
noncomputable def Lf.chk (k:Nat)(l r:Lf)(cs:List (Nat×Lf×Lf))(c:List Nat):Bool:=(Nat.blt 0 k&&Lf.le1 k l r cs (k-1) (Lf.f (λ_=>0) 1))&&Lf.abL k l r cs c 0
noncomputable def Lf.G (c:List Nat)(j:Nat):Nat->Nat:=List.rec (λ_=>0) (λa _ q i=>a*Lf.e i j+q (i+1)) c
theorem Lf.acy (w w':Nat->Nat)(u u':Nat)(e:Lf):f (λj=>w j+w' j) (u+u') e=f w u e+f w' u' e:=Lf.rec (λ_=>rfl) (λ_=>PE _ _ _) (λx y h1 h2=>(congr (congrArg HAdd.hAdd h1) h2).trans (SX _ _ _ _)) (λk x h=>(congrArg (k*·) h).trans (PE _ _ _)) (λx k h=>(congrArg (·*k) h).trans (Pd _ _ _)) e
theorem Lf.acx (n:Nat)(w:Nat->Nat)(u:Nat)(e:Lf):f (λj=>n*w j) (n*u) e=n*f w u e:=Lf.rec (λ_=>rfl) (λ_=>SW _ _ _) (λx y h1 h2=>(congr (congrArg HAdd.hAdd h1) h2).trans (PE _ _ _).symm) (λk x h=>(congrArg (k*·) h).trans (SW _ _ _)) (λx k h=>(congrArg (·*k) h).trans (Nat.mul_assoc _ _ _)) e
theorem Lf.abV (f f':Lf->Nat)(z z':Nat)(b)(cs):s (λe=>f e+f' e) (z+z') b cs=s f z b cs+s f' z' b cs:=List.rec rfl (λa _ h=>(congr (congrArg HAdd.hAdd (PE _ _ _)) h).trans (SX _ _ _ _)) cs
theorem Lf.abU (n:Nat)(f:Lf->Nat)(z:Nat)(b)(cs):s (λe=>n*f e) (n*z) b cs=n*s f z b cs:=List.rec rfl (λa _ h=>(congr (congrArg HAdd.hAdd (SW _ _ _)) h).trans (PE _ _ _).symm) cs
section
variable {k:Nat}{l r:Lf}{cs:List (Nat×Lf×Lf)}{z z':Nat}{f f':Lf->Nat}
theorem Lf.T.add (h:T k l r cs z f)(h':T k l r cs z' f'):T k l r cs (z+z') (λe=>f e+f' e):=by
 have q:=Nl h h';rw[SX,<- PE,<- abV,SX (k*f r),<- PE,<- abV]at q;exact q
theorem Lf.T.mul (n:Nat)(h:T k l r cs 0 f):T k l r cs 0 (λe=>n*f e):=by
 have q:=RD n h;rw[PE,PE,<- abU,<- abU,SW,SW n]at q;exact q
theorem Lf.T.abL (h0:T k l r cs z (Lf.f (λ_=>0) 1))(c:List Nat):∀i:Nat,abL k l r cs c i=true->T k l r cs z (Lf.f (λj=>G c j i) 1):=by
 induction c with
 |nil=>exact λ_ _=>h0
 |cons a c ih=>
  intro i h;have q:=(Lf.T.mul a (LL (PY.mp h).1)).add (ih (i+1) (PY.mp h).2);rw[Nf]at q;refine(congrArg (T k l r cs z) (funext λe=>?_)).mp q;exact(congrArg (·+_) (Lf.acx a (Lf.e i) 0 e).symm).trans (Lf.acy _ _ 0 1 e).symm
end
theorem Lf.acA (i:Nat):e i i=1:=congrArg (cond · 1 0) (Nat.beq_refl i)
theorem Lf.acd {i j:Nat}(h:i≠j):e i j=0:=by
 unfold e;rcases q:Nat.beq i j with _|_
 ·rfl
 ·exact absurd (Nat.eq_of_beq_eq_true q) h
theorem Lf.a0 {a x y:Nat}(h:x=0)(k:y=0):a*x+y=0:=by rw[h,k];rfl
theorem Lf.acD (c:List Nat){j:Nat}:∀i,j<i->G c j i=0:=by
 induction c with
 |nil=>exact λ_ _=>rfl
 |cons a c ih=>exact λi h=>Lf.a0 (Lf.acd (O0 h)) (ih (i+1) (PD h))
theorem Lf.g_G (c:List Nat):∀i j:Nat,Lf.g c j=G c (i+j) i:=by
 induction c with
 |nil=>exact λ_ _=>rfl
 |cons a c ih=>
  intro i j;rcases j with _|j
  ·show a=a*e i i+G c i (i+1);rw[Lf.acA,Lf.acD c _ (Oe i)];exact(W0 a).symm
  ·show g c j=a*e i (i+(j+1))+G c (i+(j+1)) (i+1);rw[Lf.acd (MC (WZ (Up j))),ih (i+1) j,YZ];exact(Nf _).symm
theorem Lf.acC {a b c d:Nat}(h:a=b)(k:c=d):a+c=b+d:=h▸k▸rfl
theorem Lf.d_f (c:List Nat)(e:Lf):d c e=f (λj=>G c j 0) 1 e:=Lf.rec (motive:=λe=>d c e=f (λj=>G c j 0) 1 e) (λj=>(Lf.g_G c 0 j).trans (congrArg (G c · 0) (Nf j))) (λk=>(W0 k).symm) (λ_ _ h1 h2=>Lf.acC h1 h2) (λk _ h=>congrArg (k*·) h) (λ_ k h=>congrArg (·*k) h) e
theorem Lf.s_z (f:Lf->Nat)(z:Nat)(b)(cs):s f z b cs=s f 0 b cs+z:=List.rec (Nf _).symm (λa _ h=>(congrArg (_+·) h).trans (Ov _ _ _).symm) cs
theorem Lf.acu {c:List Nat}{P:Prop}:∀{cs},(s (d c) 0 (λa=>a.2.1) cs<=s (d c) 0 (λa=>a.2.2) cs->P)->imp c P cs:=fun {cs}=>List.rec (motive:=λcs=>(s (d c) 0 (λa=>a.2.1) cs<=s (d c) 0 (λa=>a.2.2) cs->P)->imp c P cs) (λh=>h (Lv _)) (λa _ ih h q=>ih λw=>h (Nl (RD _ q) w)) cs
noncomputable abbrev M2:Lf:=.v 0
noncomputable abbrev No:Lf:=.v 1
noncomputable abbrev NE:Lf:=.v 2
noncomputable abbrev On:Lf:=.k 1
noncomputable abbrev Op:Lf:=.v 3
noncomputable abbrev Os:Lf:=.v 4
noncomputable abbrev Pi:Lf:=.v 5
noncomputable abbrev Ps:Lf:=.k 8388000
noncomputable abbrev Pv:Lf:=.k 0
noncomputable abbrev Re:Lf:=.k 10
noncomputable abbrev Rs:Lf:=.k 2
noncomputable abbrev Sc:Lf:=.k 4
noncomputable abbrev SB:Lf:=.v 6
noncomputable abbrev SC:Lf:=.k 8
noncomputable abbrev SL:Lf:=.k 6
noncomputable abbrev SZ:Lf:=.k 64
noncomputable abbrev Tk:Lf:=.k 224
noncomputable abbrev Tl:Lf:=.k 11
noncomputable abbrev Tm:Lf:=.k 5
noncomputable abbrev TD:Lf:=.k 200
noncomputable abbrev TI:Lf:=.k 100
noncomputable abbrev TT:Lf:=.v 8
noncomputable abbrev Uf:Lf:=.k 50
noncomputable abbrev UF:Lf:=.k 18
noncomputable abbrev UV:Lf:=.k 16
noncomputable abbrev Wp:Lf:=.k 2300
theorem Ll (c:List Nat)(k:Nat)(l r:Lf)(cs:List (Nat×Lf×Lf))(h:Lf.chk k l r cs c=true):Lf.imp c (l.d c<=r.d c) cs:=Lf.acu λw=>by
 have h1:=PY.mp h;have h2:=PY.mp h1.1;have q:Lf.T k l r cs (k-1) (Lf.d c):=(congrArg (Lf.T k l r cs (k-1)) (funext (Lf.d_f c))).mpr (Lf.T.abL (LL h2.2) c 0 h1.2);unfold Lf.T at q;rw[Lf.s_z _ (k-1),<- Ov,Xd]at q;have q:=Nat.le_of_add_le_add_right (Lk q (M9 w _));refine Uo λo=>?_;have o:=Lk (RD k o) q;have p:=LL h2.1;exact Xc _ (L1 (Nat.sub_lt p Nat.one_pos) (Xb o))
theorem nu {a b:Nat}:a<=a-b+b:=YY (Lv _)
theorem mL {a b:Nat}(h:b<=a):a-b+b<=a:=LU (Un h)
theorem iU {a b:Nat}(h:a=b):b<=a:=LU h.symm
set_option genSizeOfSpec false
inductive V where
 |none
 |bool (b:Bool)
 |int (i:Int)
 |str (s:List Nat)
 |tup (l:List V)
 |lst (l:List V)
 |dct (ks vs:List V)
 |ref (r:Nat)
 |rng (a b:Int)
mutual
noncomputable def V.eqb:V->V->Bool
 |.none,v=>(match v with|.none=>true|_=>false)
 |.bool a,v=>(match v with|.bool b=>a==b|_=>false)
 |.int a,v=>(match v with|.int b=>a==b|_=>false)
 |.str a,v=>(match v with|.str b=>a==b|_=>false)
 |.tup a,v=>(match v with|.tup b=>V.abC a b|_=>false)
 |.lst a,v=>(match v with|.lst b=>V.abC a b|_=>false)
 |.dct a c,v=>(match v with|.dct b d=>V.abC a b&&V.abC c d|_=>false)
 |.ref a,v=>(match v with|.ref b=>a==b|_=>false)
 |.rng a c,v=>(match v with|.rng b d=>a==b&&c==d|_=>false)
noncomputable def V.abC:List V->List V->Bool
 |[],l=>(match l with|[]=>true|_::_=>false)
 |a::x,l=>(match l with|[]=>false|b::y=>V.eqb a b&&V.abC x y)
end
theorem V.acz (a:V):∀b:V,V.eqb a b=true↔a=b:=by
 have no:∀{a b:V},a≠b->(false=true↔a=b):=λh=>⟨Bool.noConfusion,λe=>absurd e h⟩
 have two:∀{p q:Bool} {P Q:Prop},(p=true↔P)->(q=true↔Q)->((p&&q)=true↔P/\Q):=fun {p q P Q} h1 h2=>by rw[MW,h1,h2]
 refine V.rec (motive_1:=λa=>∀b,V.eqb a b=true↔a=b) (motive_2:=λl=>∀k,V.abC l k=true↔l=k) ?_ ?_ ?_ ?_ ?_ ?_ ?_ ?_ ?_ ?_ ?_ a
 ·intro b;rcases b with _|_|_|_|_|_|_|_|_<;>first|exact⟨λ_=>rfl,λ_=>rfl⟩|exact no V.noConfusion
 ·intro a b;rcases b with _|_|_|_|_|_|_|_|_<;>first|exact⟨λh=>congrArg V.bool (eq_of_beq h),λh=>V.bool.inj h▸beq_self_eq_true a⟩|exact no V.noConfusion
 ·intro a b;rcases b with _|_|_|_|_|_|_|_|_<;>first|exact⟨λh=>congrArg V.int (eq_of_beq h),λh=>V.int.inj h▸beq_self_eq_true a⟩|exact no V.noConfusion
 ·intro a b;rcases b with _|_|_|_|_|_|_|_|_<;>first|exact⟨λh=>congrArg V.str (eq_of_beq h),λh=>V.str.inj h▸beq_self_eq_true a⟩|exact no V.noConfusion
 ·intro a ih b;rcases b with _|_|_|_|_|_|_|_|_<;>first|exact⟨λh=>congrArg V.tup ((ih _).mp h),λh=>(ih _).mpr (V.tup.inj h)⟩|exact no V.noConfusion
 ·intro a ih b;rcases b with _|_|_|_|_|_|_|_|_<;>first|exact⟨λh=>congrArg V.lst ((ih _).mp h),λh=>(ih _).mpr (V.lst.inj h)⟩|exact no V.noConfusion
 ·intro a c ih VL b;rcases b with _|_|_|_|_|_|_|_|_<;>first|exact(two (ih _) (VL _)).trans ⟨λh=>congr (congrArg V.dct h.1) h.2,λh=>V.dct.inj h⟩|exact no V.noConfusion
 ·intro a b;rcases b with _|_|_|_|_|_|_|_|_<;>first|exact⟨λh=>congrArg V.ref (eq_of_beq h),λh=>V.ref.inj h▸beq_self_eq_true a⟩|exact no V.noConfusion
 ·intro a c b;rcases b with _|_|_|_|_|_|_|_|_<;>first|exact(two beq_iff_eq beq_iff_eq).trans ⟨λh=>congr (congrArg V.rng h.1) h.2,λh=>V.rng.inj h⟩|exact no V.noConfusion
 ·intro k;rcases k with _|_
  ·exact⟨λ_=>rfl,λ_=>rfl⟩
  ·exact⟨Bool.noConfusion,λe=>nomatch e⟩
 ·intro a l ih VL k;rcases k with _|⟨_,_⟩
  ·exact⟨Bool.noConfusion,λe=>nomatch e⟩
  ·exact(two (ih _) (VL _)).trans ⟨λh=>congr (congrArg List.cons h.1) h.2,λh=>List.cons.inj h⟩
noncomputable instance:DecidableEq V:=λa b=>decidable_of_iff _ (V.acz a b)
inductive AO where
 |list (l:List V)
 |dict (l:List (V×V))
 |inst (c:Nat) (fs:List (Nat×V))
 |dead
structure St where
 n:Nat
 g:Nat->AO
noncomputable def St.set (σ:St)(r:Nat)(o:AO):St:=⟨σ.n,λx=>if x=r then o else σ.g x⟩
noncomputable def St.new (σ:St)(o:AO):St:=⟨σ.n+1,λx=>if x=σ.n then o else σ.g x⟩
noncomputable abbrev Loc:=Nat->Option V
noncomputable def Loc.set (ρ:Loc)(i:Nat)(v:V):Loc:=λj=>if j=i then some v else ρ j
inductive qy where|add|sub|mul|mod|bor
inductive CD where|eq|ne|lt|le|gt|ge|isin|abz
inductive BI where|len|range|sorted|tuple|max
 deriving DecidableEq
inductive ff where
 |loc (i:Nat)
 |tup (l:List Nat)
set_option genInjectivity false
set_option genCtorIdx false
inductive IE where
 |const (v:V)
 |glob (v:V)
 |loc (i:Nat)
 |tup (es:List IE)
 |lst (es:List IE)
 |abe (es:List IE)
 |abm
 |bin (op:qy) (a b:IE)
 |cmp (op:CD) (a b:IE)
 |isn (no:Bool) (a:IE)
 |not (a:IE)
 |neg (a:IE)
 |τ (es:List IE)
 |ω (es:List IE)
 |ite (t a b:IE)
 |sub (a i:IE)
 |slice (a:IE) (lo hi:Option IE)
 |attr (a:IE) (f:Nat)
 |call (f:Nat) (args:List IE)
 |make (c:Nat) (args:List IE)
 |bi (b:BI) (args:List IE)
 |π (o:IE) (m:Nat) (args:List IE)
 |comp (elt:IE) (t:ff) (it:IE) (aal:List IE)
 |abort
inductive IS where
 |assign (t:ff) (e:IE)
 |Ξ (o i e:IE)
 |setAttr (o:IE) (f:Nat) (e:IE)
 |aug (i:Nat) (op:qy) (e:IE)
 |abw (o:IE) (f:Nat) (op:qy) (e:IE)
 |expr (e:IE)
 |ret (e:IE)
 |brk
 |cond (t:IE) (a b:List IS)
 |loop (t:ff) (it:IE) (b:List IS)
 |abD (bound:IE) (t:IE) (b:List IS)
 |del (o i:IE)
 |abA (o lo:IE)
 |freeze (i:Nat)
 |abort
set_option genInjectivity true
set_option genCtorIdx true
structure Fn where
 abc:Nat
 abj:List V
 body:List IS
noncomputable def d0 (i:Int):Bool:=decide (0<=i)&&decide (i<=100000)
noncomputable def aq:Nat:=2 ^ 23
mutual
noncomputable def db (n:Nat)(k:V):Bool:=match k with
 |.int _=>true
 |.str s=>s.all λc=>decide (c<128)
 |.tup l=>match n with
  |0=>false
  |m+1=>ck m l
 |_=>false
noncomputable def ck (n:Nat)(l:List V):Bool:=match l with
 |[]=>true
 |a::l=>db n a&&ck n l
end
noncomputable def bk:V->Bool
 |.int _=>true
 |_=>false
noncomputable def eY:V->Bool
 |.tup _=>true
 |_=>false
noncomputable def a8 (k:V):Bool:=bk k||(eY k&&db 4 k)
noncomputable def bl (l:List (V×V))(k:V):Bool:=if bk k then l.all λx=>bk x.1 else l.all λx=>eY x.1
noncomputable def cB (l:List (V×V))(k:V):Option V:=(l.find? λx=>decide (x.1=k)).map (·.2)
noncomputable def dj (l:List (V×V))(k v:V):List (V×V):=if(cB l k).isSome then l.map λx=>if x.1=k then(x.1,v)else x else l++[(k,v)]
noncomputable def oG (l:List (V×V))(k:V):List (V×V):=l.filter λx=>decide (x.1≠k)
noncomputable def cC (fs:List (Nat×V))(f:Nat):Option V:=(fs.find? λx=>x.1==f).map (·.2)
noncomputable def eO:List (Nat×V)->Nat->V->List (Nat×V)
 |[],f,v=>[(f,v)]
 |x::l,f,v=>if x.1==f then(x.1,v)::l else x::eO l f v
noncomputable def cQ (σ:St):V->Option Bool
 |.bool b=>some b
 |.int i=>some (decide (i≠0))
 |.lst l=>some (!l.isEmpty)
 |_=>none
noncomputable def aS (l:List V):Bool:=l.all bk
noncomputable def cD {α:Type}(f:Int->Option α):V->Option α
 |.int i=>f i
 |_=>none
noncomputable def zc {α:Type}(f:List V->Option α):V->Option α
 |.lst l=>f l
 |_=>none
noncomputable def tK {α:Type}(f:Bool->Option α):V->Option α
 |.bool l=>f l
 |_=>none
noncomputable def Kf {α:Type}(x:Option α):List V->Option α
 |[]=>x
 |_::_=>none
noncomputable def CE {α:Type}(f:V->Option α):List V->Option α
 |[]=>none
 |x::l=>Kf (f x) l
noncomputable def CO (f:Int->Int->Option V)(x y:V):Option V:=cD (λa=>cD (f a) y) x
noncomputable def IR (x y:V):Option V:=match x with
 |.int a=>cD (λb=>some (.int (a+b))) y
 |.lst a=>zc (λb=>if a.length+b.length<=aq then some (.lst (a++b))else none) y
 |_=>none
noncomputable def IT (x y:V):Option V:=match x with
 |.int a=>cD (λb=>if decide (0<=b)&&decide (b<100)then some (.int (a*b))else none) y
 |.lst a=>cD (λb=>if decide (b<=1000)&&decide (-1000<=b)&&decide (a.length<=100)then some (.lst (Mu b.toNat a).flatten)else none) y
 |_=>none
noncomputable def dP (op:qy)(a b:V):Option V:=match op with
 |.add=>IR a b
 |.sub=>CO (λa b=>some (.int (a-b))) a b
 |.mul=>IT a b
 |.mod=>CO (λa b=>if decide (0<b)then some (.int (a % b))else none) a b
 |.bor=>CO (λa b=>if decide (0<=a)&&decide (0<=b)then some (.int ((a.toNat ||| b.toNat:Nat):Int))else none) a b
noncomputable def gg:List V->List V->Bool
 |[],[]=>true
 |.int a::x,.int b::y=>a==b&&gg x y
 |_,_=>false
noncomputable def zd (p:Int->Int->Bool)(x y:V):Option Bool:=cD (λa=>cD (λb=>some (p a b)) y) x
noncomputable def KZ (x y:V):Option Bool:=match x with
 |.int a=>cD (λb=>some (decide (a=b))) y
 |.bool a=>tK (λb=>some (a==b)) y
 |_=>none
noncomputable def K0 (x y:V):Option Bool:=match x with
 |.int a=>cD (λb=>some (decide (a≠b))) y
 |.bool a=>tK (λb=>some (a != b)) y
 |.lst a=>zc (λb=>if aS a&&aS b then some (!gg a b)else none) y
 |_=>none
noncomputable def F8 (a:V):AO->Option Bool
 |.dict l=>if a8 a&&bl l a then some (cB l a).isSome else none
 |_=>none
noncomputable def has (σ:St)(a:V):V->Option Bool
 |.dct ks _=>if bk a&&aS ks then some (ks.contains a)else none
 |.ref r=>F8 a (σ.g r)
 |_=>none
noncomputable def Kx (σ:St)(a:V):V->Option Bool
 |.tup l=>if bk a&&aS l then some (l.contains a)else none
 |.dct k v=>has σ a (.dct k v)
 |.ref r=>has σ a (.ref r)
 |_=>none
noncomputable def dQ (op:CD)(σ:St)(a b:V):Option Bool:=match op with
 |.eq=>KZ a b
 |.ne=>K0 a b
 |.lt=>zd (λa b=>decide (a<b)) a b
 |.le=>zd (λa b=>decide (a<=b)) a b
 |.gt=>zd (λa b=>decide (a > b)) a b
 |.ge=>zd (λa b=>decide (a≥b)) a b
 |.isin=>Kx σ a b
 |.abz=>(has σ a b).map (!·)
noncomputable def gj (l:List V)(i:Int):Option V:=if 0<=i then l[i.toNat]? else if -(l.length:Int)<=i then l[(i+l.length).toNat]? else none
noncomputable def jA:List V->List V->V->Option V
 |k::ks,v::vs,x=>if k=x then some v else jA ks vs x
 |_,_,_=>none
noncomputable def ze (i:V):AO->Option V
 |.list l=>cD (λi=>if 0<=i then l[i.toNat]? else none) i
 |.dict l=>if a8 i&&bl l i then cB l i else none
 |_=>none
noncomputable def cb (σ:St)(a i:V):Option V:=match a with
 |.tup l=>cD (gj l) i
 |.lst l=>cD (gj l) i
 |.str s=>cD (λi=>if 0<=i/\i<1000 then(s[i.toNat]?).map λc=> .str [c]else none) i
 |.dct ks vs=>cD (λi=>if aS ks then jA ks vs (.int i)else none) i
 |.ref r=>ze i (σ.g r)
 |_=>none
noncomputable def bound (n:Nat)(i:Int):Nat:=(max 0 (min (if i<0 then i+n else i) n)).toNat
noncomputable def tL (l:List V)(lo hi:Option Int):List V:=(l.drop (lo.elim 0 (bound l.length))).take (hi.elim l.length (bound l.length)-lo.elim 0 (bound l.length))
noncomputable def tM:Option V->Option (Option Int)
 |none=>some none
 |some (.int i)=>some (some i)
 |_=>none
noncomputable def K9 (l:List V)(x y:Option Int):Option V:=match x with
 |none=>y.bind λj=>if 0<=j/\j<l.length then some (.tup (l.take j.toNat))else none
 |some _=>none
noncomputable def La (x y:Option Int):V->Option V
 |.tup l=>K9 l x y
 |.lst l=>some (.lst (tL l x y))
 |_=>none
noncomputable def eR (a:V)(lo hi:Option V):Option V:=(tM lo).bind λx=>(tM hi).bind λy=>La x y a
noncomputable def ez (x:Int):List Int->List Int
 |[]=>[x]
 |y::l=>if x<=y then x::y::l else y::ez x l
noncomputable def cT (l:List Int):List Int:=l.foldr ez []
noncomputable def iC:List V->Option (List Int)
 |[]=>some []
 |.int i::l=>(iC l).map (i::·)
 |_=>none
noncomputable def oH (a b:Int):List V:=(Mo (b-a).toNat).map fun (k:Nat)=> .int (a+(k:Int))
noncomputable def Lb (f:V->V->Option V):List V->Option V
 |[]=>none
 |x::l=>CE (f x) l
noncomputable def F9:AO->Option V
 |.list l=>some (.int l.length)
 |_=>none
noncomputable def IU (σ:St):V->Option V
 |.tup l=>some (.int l.length)
 |.lst l=>some (.int l.length)
 |.ref r=>F9 (σ.g r)
 |_=>none
noncomputable def Ky (a:Int):V->Option V:=cD λb=>if d0 a&&d0 b then some (.rng a b)else none
noncomputable def vB:AO->Option V
 |.dict l=>if l.length<64 then(iC (l.map (·.1))).map λx=> .lst ((cT x).map .int)else none
 |_=>none
noncomputable def E5 (σ:St):V->Option V
 |.ref r=>vB (σ.g r)
 |_=>none
noncomputable def IV:V->Option V
 |.lst l=>some (.tup l)
 |_=>none
noncomputable def Ga:List V->Option V
 |[]=>none
 |x::l=>match l with
  |[]=>cD (λb=>if d0 b then some (.rng 0 b)else none) x
  |y::k=>match k with
   |[]=>cD (λa=>Ky a y) x
   |_::_=>none
noncomputable def builtin (b:BI)(σ:St)(args:List V):Option V:=match b with
 |.len=>CE (IU σ) args
 |.range=>Ga args
 |.sorted=>CE (E5 σ) args
 |.tuple=>CE IV args
 |.max=>Lb (λx y=>cD (λa=>cD (λb=>some (.int (if b > a then b else a))) y) x) args
noncomputable def Kg (r:Nat):AO->Option (List V×Option Nat)
 |.list l=>some (l,some r)
 |_=>none
noncomputable def bV (σ:St):V->Option (List V×Option Nat)
 |.tup l=>some (l,none)
 |.lst l=>some (l,none)
 |.rng a b=>some (oH a b,none)
 |.dct ks _=>some (ks,none)
 |.ref r=>Kg r (σ.g r)
 |_=>none
noncomputable def vC (l:List V):AO->Bool
 |.list l'=>decide (l'=l)
 |_=>false
noncomputable def guard (src:Option Nat)(l:List V)(σ:St):Bool:=match src with
 |none=>true
 |some r=>vC l (σ.g r)
noncomputable def iD:List Nat->List V->Loc->Option Loc
 |[],[],ρ=>some ρ
 |i::is,v::vs,ρ=>iD is vs (ρ.set i v)
 |_,_,_=>none
noncomputable def j6 (t:ff)(v:V)(ρ:Loc):Option Loc:=match t,v with
 |.loc i,v=>some (ρ.set i v)
 |.tup is,.tup vs=>iD is vs ρ
 |_,_=>none
noncomputable def ff.clear (t:ff)(ρ:Loc):Loc:=match t with
 |.loc i=>λj=>if j=i then none else ρ j
 |.tup is=>λj=>if is.contains j then none else ρ j
noncomputable abbrev R (α:Type):=Option (α×St)
inductive Fl where
 |next|brk|ret (v:V)
noncomputable abbrev Call:=Nat->List V->St->R V
noncomputable def iV (t:ff)(src:Option Nat)(all:List V)(test:Loc->St->R Bool)(elt:Loc->St->R V):List V->List V->Loc->St->R (List V)
 |[],acc,_,σ=>if guard src all σ then some (acc,σ)else none
 |v::vs,acc,ρ,σ=>if guard src all σ then
   (j6 t v ρ).bind λρ=>(test ρ σ).bind fun (b,σ)=>
    if b then(elt ρ σ).bind fun (x,σ)=>if acc.length<aq then iV t src all test elt vs (acc++[x]) ρ σ else none
    else iV t src all test elt vs acc ρ σ
  else none
structure zf where
 fn:Nat->Option Fn
 init:Nat->Option (Option Nat)
 π:Nat->Nat->Option Nat
noncomputable def oJ:Nat:=0
noncomputable def Gb:Nat:=1
noncomputable def Gc:Nat:=2
section
variable (P:zf)(cl:Call)
noncomputable def Gd (no:Bool):V->Bool
 |.none=>!no
 |_=>no
noncomputable def CP (f:Nat):AO->Option V
 |.inst _ fs=>cC fs f
 |_=>none
noncomputable def getAttr (o:V)(f:Nat)(σ:St):Option V:=match o with
 |.ref r=>CP f (σ.g r)
 |_=>none
noncomputable def zg {α:Type}(x:Option α):V->Option α
 |.none=>x
 |_=>none
noncomputable def Kh (c:Nat)(vs:List V)(σ:St):Option Nat->R V
 |none=>if vs.isEmpty then some (.ref σ.n,σ.new (.inst c []))else none
 |some f=>(cl f (.ref σ.n::vs) (σ.new (.inst c []))).bind λx=>zg (some (.ref σ.n,x.2)) x.1
noncomputable def make (c:Nat)(vs:List V)(σ:St):R V:=(P.init c).bind (Kh cl c vs σ)
noncomputable def IW (r:Nat)(l:List V)(m:Nat)(vs:List V)(σ:St):R V:=if m=oJ then CE (λv=>if l.length<aq then some (.none,σ.set r (.list (l++[v])))else none) vs
 else if m=Gb then Kf (l.getLast?.bind λv=>some (v,σ.set r (.list l.dropLast))) vs else none
noncomputable def IX (l:List (V×V))(m:Nat)(vs:List V)(σ:St):R V:=if m=Gc then CE (λk=>if a8 k&&bl l k then some ((cB l k).getD .none,σ)else none) vs else none
noncomputable def j7 (m r:Nat)(vs:List V)(σ:St):AO->R V
 |.list l=>IW r l m vs σ
 |.dict l=>IX l m vs σ
 |.inst c _=>(P.π c m).bind λf=>cl f (.ref r::vs) σ
 |.dead=>none
noncomputable def zh (m:Nat)(o:V)(vs:List V)(σ:St):R V:=match o with
 |.ref r=>j7 P cl m r vs σ (σ.g r)
 |_=>none
noncomputable def Ge:AO->Option Nat
 |.list _=>some 0
 |.dict _=>some 1
 |.inst c _=>some (c+2)
 |.dead=>none
noncomputable def vD (σ:St):V->Option Nat
 |.ref r=>Ge (σ.g r)
 |_=>none
mutual
noncomputable def cm:IE->Loc->St->R V
 |.const v,_,σ=>some (v,σ)
 |.glob v,_,σ=>some (v,σ)
 |.loc i,ρ,σ=>(ρ i).bind λv=>some (v,σ)
 |.tup es,ρ,σ=>(eP es ρ σ).bind fun (vs,σ)=>some (.tup vs,σ)
 |.lst es,ρ,σ=>(eP es ρ σ).bind fun (vs,σ)=>some (.lst vs,σ)
 |.abe es,ρ,σ=>(eP es ρ σ).bind fun (vs,σ)=>some (.ref σ.n,σ.new (.list vs))
 |.abm,_,σ=>some (.ref σ.n,σ.new (.dict []))
 |.bin op a b,ρ,σ=>(cm a ρ σ).bind fun (x,σ)=>(cm b ρ σ).bind fun (y,σ)=>(dP op x y).bind λz=>some (z,σ)
 |.cmp op a b,ρ,σ=>(cm a ρ σ).bind fun (x,σ)=>(cm b ρ σ).bind fun (y,σ)=>(dQ op σ x y).bind λz=>some (.bool z,σ)
 |.isn no a,ρ,σ=>(cm a ρ σ).bind fun (x,σ)=>some (.bool (Gd no x),σ)
 |.not a,ρ,σ=>(cm a ρ σ).bind fun (x,σ)=>(cQ σ x).bind λb=>some (.bool !b,σ)
 |.neg a,ρ,σ=>(cm a ρ σ).bind fun (x,σ)=>cD (λi=>some (.int (-i),σ)) x
 |.τ es,ρ,σ=>oK es ρ σ
 |.ω es,ρ,σ=>oM es ρ σ
 |.ite t a b,ρ,σ=>(cm t ρ σ).bind fun (x,σ)=>(cQ σ x).bind λc=>if c then cm a ρ σ else cm b ρ σ
 |.sub a i,ρ,σ=>(cm a ρ σ).bind fun (x,σ)=>(cm i ρ σ).bind fun (y,σ)=>(cb σ x y).bind λz=>some (z,σ)
 |.slice a lo hi,ρ,σ=>(cm a ρ σ).bind fun (x,σ)=>(Kz lo ρ σ).bind fun (l,σ)=>(Kz hi ρ σ).bind fun (h,σ)=>(eR x l h).bind λz=>some (z,σ)
 |.attr a f,ρ,σ=>(cm a ρ σ).bind fun (x,σ)=>(getAttr x f σ).bind λv=>some (v,σ)
 |.call f es,ρ,σ=>(eP es ρ σ).bind fun (vs,σ)=>cl f vs σ
 |.make c es,ρ,σ=>(eP es ρ σ).bind fun (vs,σ)=>make P cl c vs σ
 |.bi b es,ρ,σ=>(eP es ρ σ).bind fun (vs,σ)=>(builtin b σ vs).bind λv=>some (v,σ)
 |.π o m es,ρ,σ=>(cm o ρ σ).bind fun (x,σ)=>(eP es ρ σ).bind fun (vs,σ')=>if vD σ x=vD σ' x then zh P cl m x vs σ' else none
 |.comp e t it cs,ρ,σ=>(cm it ρ σ).bind fun (x,σ)=>(bV σ x).bind fun (l,src)=>
   (iV t src l (λρ σ=>dk cs ρ σ) (λρ σ=>cm e ρ σ) l [] (t.clear ρ) σ).bind fun (vs,σ)=>some (.lst vs,σ)
 |.abort,_,_=>none
noncomputable def eP:List IE->Loc->St->R (List V)
 |[],_,σ=>some ([],σ)
 |e::es,ρ,σ=>(cm e ρ σ).bind fun (v,σ)=>(eP es ρ σ).bind fun (vs,σ)=>some (v::vs,σ)
noncomputable def Kz:Option IE->Loc->St->R (Option V)
 |none,_,σ=>some (none,σ)
 |some e,ρ,σ=>(cm e ρ σ).bind fun (v,σ)=>some (some v,σ)
noncomputable def oK:List IE->Loc->St->R V
 |[],_,_=>none
 |[e],ρ,σ=>cm e ρ σ
 |e::es,ρ,σ=>(cm e ρ σ).bind fun (v,σ)=>(cQ σ v).bind λb=>if b then oK es ρ σ else some (v,σ)
noncomputable def oM:List IE->Loc->St->R V
 |[],_,_=>none
 |[e],ρ,σ=>cm e ρ σ
 |e::es,ρ,σ=>(cm e ρ σ).bind fun (v,σ)=>(cQ σ v).bind λb=>if b then some (v,σ)else oM es ρ σ
noncomputable def dk:List IE->Loc->St->R Bool
 |[],_,σ=>some (true,σ)
 |e::es,ρ,σ=>(cm e ρ σ).bind fun (v,σ)=>(cQ σ v).bind λb=>if b then dk es ρ σ else some (false,σ)
end
noncomputable abbrev RS:=Option (Fl×Loc×St)
noncomputable def vE (t:ff)(src:Option Nat)(all:List V)(body:Loc->St->RS):List V->Loc->St->RS
 |[],ρ,σ=>if guard src all σ then some (.next,ρ,σ)else none
 |v::vs,ρ,σ=>if guard src all σ then
   (j6 t v ρ).bind λρ=>(body ρ σ).bind fun (fl,ρ,σ)=>match fl with
    |.next=>vE t src all body vs ρ σ
    |.brk=>some (.next,ρ,σ)
    |.ret v=>some (.ret v,ρ,σ)
  else none
noncomputable def oN (test:Loc->St->R Bool)(body:Loc->St->RS):Nat->Loc->St->RS
 |0,_,_=>none
 |n+1,ρ,σ=>(test ρ σ).bind fun (b,σ)=>if b then
   (body ρ σ).bind fun (fl,ρ,σ)=>match fl with
    |.next=>oN test body n ρ σ
    |.brk=>some (.next,ρ,σ)
    |.ret v=>some (.ret v,ρ,σ)
  else some (.next,ρ,σ)
noncomputable def nv (f:AO->Option AO)(σ:St):V->Option St
 |.ref r=>(f (σ.g r)).map (σ.set r)
 |_=>none
noncomputable def CQ (i v:V):AO->Option AO
 |.list l=>cD (λi=>if 0<=i/\i.toNat<l.length then some (.list (l.set i.toNat v))else none) i
 |.dict l=>if a8 i&&bl l i&&decide (l.length<aq)then some (.dict (dj l i v))else none
 |_=>none
noncomputable def eA (o i v:V)(σ:St):Option St:=nv (CQ i v) σ o
noncomputable def IY (f:Nat)(v:V):AO->Option AO
 |.inst c fs=>if fs.length<100 then some (.inst c (eO fs f v))else none
 |_=>none
noncomputable def dc (o:V)(f:Nat)(v:V)(σ:St):Option St:=nv (IY f v) σ o
noncomputable def IZ (i:V):AO->Option AO
 |.dict l=>if a8 i&&bl l i&&(cB l i).isSome then some (.dict (oG l i))else none
 |_=>none
noncomputable def oO (o i:V)(σ:St):Option St:=nv (IZ i) σ o
noncomputable def I0 (lo:V):AO->Option AO
 |.list l=>cD (λi=>if 0<=i/\i<=l.length then some (.list (l.take i.toNat))else none) lo
 |_=>none
noncomputable def kE (o lo:V)(σ:St):Option St:=nv (I0 lo) σ o
noncomputable def Gf:AO->Option V
 |.list l=>some (.lst l)
 |.dict l=>some (.dct (l.map (·.1)) (l.map (·.2)))
 |_=>none
noncomputable def kY (v:V)(σ:St):Option (V×St):=match v with
 |.ref r=>(Gf (σ.g r)).map λx=>(x,σ.set r .dead)
 |_=>none
mutual
noncomputable def nx:IS->Loc->St->RS
 |.assign t e,ρ,σ=>(cm P cl e ρ σ).bind fun (v,σ)=>(j6 t v ρ).bind λρ=>some (.next,ρ,σ)
 |.Ξ o i e,ρ,σ=>(cm P cl e ρ σ).bind fun (v,σ)=>(cm P cl o ρ σ).bind fun (x,σ)=>(cm P cl i ρ σ).bind fun (y,σ)=>(eA x y v σ).bind λσ=>some (.next,ρ,σ)
 |.setAttr o f e,ρ,σ=>(cm P cl e ρ σ).bind fun (v,σ)=>(cm P cl o ρ σ).bind fun (x,σ)=>(dc x f v σ).bind λσ=>some (.next,ρ,σ)
 |.aug i op e,ρ,σ=>(ρ i).bind λa=>(cm P cl e ρ σ).bind fun (b,σ)=>(if bk a&&bk b then dP op a b else none).bind λv=>some (.next,ρ.set i v,σ)
 |.abw o f op e,ρ,σ=>(cm P cl o ρ σ).bind fun (x,σ)=>(getAttr x f σ).bind λa=>(cm P cl e ρ σ).bind fun (b,σ)=>(if bk a&&bk b then dP op a b else none).bind λv=>
   (dc x f v σ).bind λσ=>some (.next,ρ,σ)
 |.expr e,ρ,σ=>(cm P cl e ρ σ).bind fun (v,σ)=>match v with
  |.none=>some (.next,ρ,σ)
  |.int _=>some (.next,ρ,σ)
  |_=>none
 |.ret e,ρ,σ=>(cm P cl e ρ σ).bind fun (v,σ)=>some (.ret v,ρ,σ)
 |.brk,ρ,σ=>some (.brk,ρ,σ)
 |.cond t a b,ρ,σ=>(cm P cl t ρ σ).bind fun (x,σ)=>(cQ σ x).bind λc=>if c then iE a ρ σ else iE b ρ σ
 |.loop t it b,ρ,σ=>(cm P cl it ρ σ).bind fun (x,σ)=>(bV σ x).bind fun (l,src)=>vE t src l (λρ σ=>iE b ρ σ) l ρ σ
 |.abD k t b,ρ,σ=>(cm P cl k ρ σ).bind fun (x,_)=>match x with
  |.int n=>oN (λρ σ=>(cm P cl t ρ σ).bind fun (x,σ)=>(cQ σ x).bind λc=>some (c,σ)) (λρ σ=>iE b ρ σ) (n.toNat+1) ρ σ
  |_=>none
 |.del o i,ρ,σ=>(cm P cl o ρ σ).bind fun (x,σ)=>(cm P cl i ρ σ).bind fun (y,σ)=>(oO x y σ).bind λσ=>some (.next,ρ,σ)
 |.abA o lo,ρ,σ=>(cm P cl o ρ σ).bind fun (x,σ)=>(cm P cl lo ρ σ).bind fun (y,σ)=>(kE x y σ).bind λσ=>some (.next,ρ,σ)
 |.freeze i,ρ,σ=>(ρ i).bind λv=>(kY v σ).bind fun (v,σ)=>some (.next,ρ.set i v,σ)
 |.abort,_,_=>none
noncomputable def iE:List IS->Loc->St->RS
 |[],ρ,σ=>some (.next,ρ,σ)
 |s::ss,ρ,σ=>(nx s ρ σ).bind fun (fl,ρ,σ)=>match fl with
  |.next=>iE ss ρ σ
  |.brk=>some (.brk,ρ,σ)
  |.ret v=>some (.ret v,ρ,σ)
end
end
noncomputable def aI (P:zf):Nat->Call
 |0,_,_,_=>none
 |n+1,f,args,σ=>(P.fn f).bind λfn=>
  if fn.abc<=args.length/\args.length<=fn.abc+fn.abj.length then
   let all:=args++fn.abj.drop (args.length-fn.abc)
   (iE P (aI P n) fn.body (λi=>all[i]?) σ).bind fun (fl,_,σ)=>match fl with
    |.next=>some (.none,σ)
    |.ret v=>some (v,σ)
    |.brk=>none
  else none
end Mine.Internal
set_option genInjectivity false
namespace Mine.Internal
noncomputable def jB:Fn:=⟨1,[],[
  .setAttr (.loc 0) 0 (.abe [])]⟩
noncomputable def qB:Fn:=⟨3,[],[
  .expr (.π (.attr (.loc 0) 0) 0 [.tup [.loc 1,.loc 2]])]⟩
noncomputable def mO:Fn:=⟨1,[],[
  .assign (.loc 1) (.abm),
  .loop (.tup [2,3]) (.attr (.loc 0) 0) [.Ξ (.loc 1) (.loc 2) (.loc 3)],
  .ret (.bi .sorted [.loc 1])]⟩
noncomputable def gm:Fn:=⟨1,[],[
  .setAttr (.loc 0) 0 (.abe []),
  .setAttr (.loc 0) 1 (.abm),
  .setAttr (.loc 0) 2 (.abe [.const .none]),
  .setAttr (.loc 0) 3 (.abe []),
  .setAttr (.loc 0) 4 (.abe []),
  .setAttr (.loc 0) 5 (.abe []),
  .setAttr (.loc 0) 6 (.abm),
  .setAttr (.loc 0) 7 (.abm),
  .setAttr (.loc 0) 8 (.const (.int 0)),
  .loop (.loc 1) (.glob (.tup [(.tup [(.int 1),(.str [97,110,121])]),(.tup [(.int 1),(.str [117,110,107,110,111,119,110])]),(.tup [(.int 1),(.str [110,101,118,101,114])]),(.tup [(.int 1),(.str [118,111,105,100])]),(.tup [(.int 1),(.str [117,110,100,101,102,105,110,101,100])]),(.tup [(.int 1),(.str [110,117,108,108])]),(.tup [(.int 1),(.str [115,116,114,105,110,103])]),(.tup [(.int 1),(.str [110,117,109,98,101,114])]),(.tup [(.int 2),(.int 0),(.int 0)]),(.tup [(.int 2),(.int 1),(.int 0)]),(.tup [(.int 1),(.str [111,98,106,101,99,116])]),(.tup [(.int 8),(.tup []),(.tup []),(.tup []),(.tup []),(.tup []),(.int 0)]),(.tup [(.int 6),(.tup [(.int 8),(.int 9)])]),(.tup [(.int 1),(.str [101,114,114,111,114])]),(.tup [(.int 2),(.int 0),(.int 1)]),(.tup [(.int 2),(.int 1),(.int 1)])])) [.expr (.π (.loc 0) 3 [.loc 1])]]⟩
noncomputable def kv:Fn:=⟨2,[],[
  .cond (.cmp .isin (.loc 1) (.attr (.loc 0) 1)) [.ret (.sub (.attr (.loc 0) 1) (.loc 1))] [],
  .assign (.loc 2) (.bi .len [.attr (.loc 0) 0]),
  .expr (.π (.attr (.loc 0) 0) 0 [.loc 1]),
  .Ξ (.attr (.loc 0) 1) (.loc 1) (.loc 2),
  .ret (.loc 2)]⟩
noncomputable def tN:Fn:=⟨2,[(.int 0)],[
  .ret (.π (.loc 0) 3 [.tup [.glob (.int 3),.loc 1,.loc 2]])]⟩
noncomputable def tO:Fn:=⟨2,[(.int 0)],[
  .ret (.π (.loc 0) 3 [.tup [.glob (.int 4),.loc 1,.loc 2]])]⟩
noncomputable def qC:Fn:=⟨2,[(.int 0)],[
  .ret (.π (.loc 0) 3 [.tup [.glob (.int 2),.ite (.loc 1) (.const (.int 1)) (.const (.int 0)),.loc 2]])]⟩
noncomputable def oP:Fn:=⟨2,[(.int 0)],[
  .ret (.π (.loc 0) 3 [.tup [.glob (.int 11),.loc 1,.loc 2]])]⟩
noncomputable def qD:Fn:=⟨2,[],[
  .assign (.loc 2) (.neg (.const (.int 1))),
  .loop (.loc 3) (.bi .range [.bi .len [.loc 0]]) [.cond (.cmp .isin (.sub (.sub (.loc 0) (.loc 3)) (.const (.int 1))) (.loc 1)) [.assign (.loc 2) (.loc 3)] []],
  .ret (.loc 2)]⟩
noncomputable def jC:Fn:=⟨2,[],[
  .assign (.loc 2) (.call 9 [.loc 1,.tup [.glob (.int 0)]]),
  .assign (.loc 3) (.abe []),
  .loop (.loc 4) (.bi .range [.bi .len [.loc 1]]) [.assign (.tup [5,6]) (.sub (.loc 1) (.loc 4)),.cond (.τ [.cmp .eq (.loc 6) (.glob (.int 1)),.cmp .lt (.loc 4) (.loc 2)]) [.abort] [.expr (.π (.loc 3) 0 [.tup [.loc 5,.loc 6]])]],
  .freeze 3,
  .ret (.loc 3)]⟩
noncomputable def tP:Fn:=⟨2,[],[
  .assign (.loc 2) (.neg (.const (.int 1))),
  .loop (.loc 3) (.bi .range [.bi .len [.loc 1]]) [.cond (.τ [.cmp .lt (.loc 2) (.const (.int 0)),.cmp .eq (.sub (.sub (.loc 1) (.loc 3)) (.const (.int 1))) (.glob (.int 2))]) [.assign (.loc 2) (.loc 3)] []],
  .assign (.loc 4) (.call 9 [.loc 1,.tup [.glob (.int 2),.glob (.int 1)]]),
  .cond (.ω [.cmp .lt (.loc 2) (.const (.int 0)),.cmp .le (.loc 4) (.loc 2)]) [.ret (.loc 1)] [],
  .abort]⟩
noncomputable def oQ:Fn:=⟨2,[(.int 0)],[
  .assign (.loc 5) (.comp (.tup [.loc 3,.loc 4]) (.tup [3,4]) (.loc 1) []),
  .cond (.cmp .lt (.call 9 [.loc 5,.tup [.glob (.int 3)]]) (.const (.int 0))) [.assign (.loc 5) (.call 11 [.loc 0,.call 10 [.loc 0,.loc 5]]),.cond (.τ [.cmp .eq (.bi .len [.loc 5]) (.const (.int 1)),.cmp .eq (.sub (.sub (.loc 5) (.const (.int 0))) (.const (.int 1))) (.glob (.int 2))]) [.ret (.call 8 [.loc 0,.sub (.sub (.loc 5) (.const (.int 0))) (.const (.int 0)),.loc 2])] []] [],
  .ret (.π (.loc 0) 3 [.tup [.glob (.int 12),.bi .tuple [.loc 5],.loc 2]])]⟩
noncomputable def tQ:Fn:=⟨2,[],[
  .cond (.cmp .eq (.loc 1) (.glob (.int 2))) [.ret (.tup [])] [],
  .assign (.loc 2) (.sub (.attr (.loc 0) 0) (.loc 1)),
  .cond (.cmp .eq (.sub (.loc 2) (.const (.int 0))) (.glob (.int 6))) [.ret (.sub (.loc 2) (.const (.int 1)))] [],
  .ret (.tup [.loc 1])]⟩
noncomputable def kZ:Fn:=⟨1,[],[
  .assign (.loc 1) (.sub (.loc 0) (.const (.int 0))),
  .cond (.ω [.cmp .eq (.loc 1) (.glob (.int 3)),.cmp .eq (.loc 1) (.glob (.int 18))]) [.ret (.glob (.int 6))] [],
  .cond (.cmp .eq (.loc 1) (.glob (.int 4))) [.ret (.glob (.int 7))] [],
  .cond (.cmp .eq (.loc 1) (.glob (.int 5))) [.abort] [],
  .ret (.neg (.const (.int 1)))]⟩
noncomputable def lc:Fn:=⟨2,[],[
  .assign (.loc 2) (.sub (.attr (.loc 0) 0) (.loc 1)),
  .cond (.τ [.cmp .isin (.sub (.loc 2) (.const (.int 0))) (.glob (.tup [(.int 2),(.int 3),(.int 4),(.int 5),(.int 8)])),.cmp .eq (.sub (.loc 2) (.neg (.const (.int 1)))) (.const (.int 1))]) [.abort] [],
  .ret (.neg (.const (.int 1)))]⟩
noncomputable def oR:Fn:=⟨1,[],[
  .cond (.τ [.ω [.cmp .isin (.glob (.int 8)) (.loc 0),.cmp .isin (.glob (.int 14)) (.loc 0)],.ω [.cmp .isin (.glob (.int 9)) (.loc 0),.cmp .isin (.glob (.int 15)) (.loc 0)]]) [.Ξ (.loc 0) (.glob (.int 8)) (.const (.int 1)),.Ξ (.loc 0) (.glob (.int 9)) (.const (.int 1))] []]⟩
noncomputable def lf:Fn:=⟨3,[],[
  .cond (.cmp .isin (.call 15 [.loc 0,.loc 2]) (.loc 1)) [.ret (.const (.bool false))] [],
  .ret (.cmp .abz (.call 14 [.sub (.attr (.loc 0) 0) (.loc 2)]) (.loc 1))]⟩
noncomputable def zi:Fn:=⟨1,[],[
  .loop (.loc 1) (.tup [.glob (.int 0),.glob (.int 13),.glob (.int 1)]) [.cond (.cmp .isin (.loc 1) (.loc 0)) [.ret (.loc 1)] []],
  .ret (.neg (.const (.int 1)))]⟩
noncomputable def CS:Fn:=⟨2,[],[
  .assign (.loc 2) (.abm),
  .loop (.loc 3) (.loc 1) [.loop (.loc 4) (.call 13 [.loc 0,.loc 3]) [.Ξ (.loc 2) (.loc 4) (.const (.int 1))]],
  .assign (.loc 5) (.call 18 [.loc 2]),
  .cond (.cmp .ge (.loc 5) (.const (.int 0))) [.ret (.loc 5)] [],
  .expr (.call 16 [.loc 2]),
  .assign (.loc 7) (.comp (.loc 6) (.loc 6) (.bi .sorted [.loc 2]) [.call 17 [.loc 0,.loc 2,.loc 6]]),
  .cond (.not (.loc 7)) [.ret (.glob (.int 2))] [],
  .cond (.cmp .eq (.bi .len [.loc 7]) (.const (.int 1))) [.ret (.sub (.loc 7) (.const (.int 0)))] [],
  .cond (.cmp .gt (.bi .len [.loc 7]) (.glob (.int 400))) [.abort] [],
  .ret (.π (.loc 0) 3 [.tup [.glob (.int 6),.bi .tuple [.loc 7]]])]⟩
noncomputable def qE:Fn:=⟨2,[],[
  .ret (.call 19 [.loc 0,.tup [.loc 1,.glob (.int 4)]])]⟩
noncomputable def oS:Fn:=⟨2,[],[
  .ret (.cmp .isin (.sub (.sub (.attr (.loc 0) 0) (.loc 1)) (.const (.int 0))) (.glob (.tup [(.int 2),(.int 3),(.int 4),(.int 5)])))]⟩
noncomputable def tR:Fn:=⟨2,[],[
  .assign (.loc 2) (.sub (.attr (.loc 0) 0) (.loc 1)),
  .ret (.τ [.cmp .isin (.sub (.loc 2) (.const (.int 0))) (.glob (.tup [(.int 2),(.int 3),(.int 4),(.int 5),(.int 8)])),.cmp .eq (.sub (.loc 2) (.neg (.const (.int 1)))) (.const (.int 1))])]⟩
noncomputable def mP:Fn:=⟨2,[],[
  .cond (.call 22 [.loc 0,.loc 1]) [.abort] [],
  .ret (.loc 1)]⟩
noncomputable def kw:Fn:=⟨2,[],[
  .setAttr (.loc 0) 9 (.loc 1),
  .setAttr (.loc 0) 10 (.const (.int 0)),
  .setAttr (.loc 0) 11 (.glob (.int 200))]⟩
noncomputable def oT:Fn:=⟨2,[],[
  .ret (.loc 1)]⟩
noncomputable def qF:Fn:=⟨2,[],[
  .cond (.cmp .eq (.sub (.loc 1) (.const (.int 1))) (.glob (.int 3))) [.ret (.glob (.int 1))] [],
  .ret (.ite (.cmp .eq (.sub (.loc 1) (.const (.int 1))) (.glob (.int 1))) (.call 20 [.loc 0,.sub (.loc 1) (.const (.int 0))]) (.sub (.loc 1) (.const (.int 0))))]⟩
noncomputable def lg:Fn:=⟨3,[],[
  .setAttr (.loc 0) 12 (.loc 1),
  .setAttr (.loc 0) 13 (.loc 2),
  .setAttr (.loc 0) 14 (.abm),
  .setAttr (.loc 0) 15 (.abm),
  .setAttr (.loc 0) 16 (.abm),
  .setAttr (.loc 0) 17 (.abe []),
  .setAttr (.loc 0) 18 (.abe []),
  .setAttr (.loc 0) 10 (.const (.int 0)),
  .setAttr (.loc 0) 19 (.make 3 []),
  .setAttr (.loc 0) 20 (.const (.bool true)),
  .setAttr (.loc 0) 21 (.const .none),
  .setAttr (.loc 0) 22 (.const (.str [])),
  .setAttr (.loc 0) 23 (.const (.int 0))]⟩
noncomputable def xw:Fn:=⟨3,[],[
  .ret (.call 38 [.loc 0,.loc 1,.loc 2])]⟩
noncomputable def tS:Fn:=⟨2,[],[
  .cond (.attr (.loc 0) 20) [.expr (.π (.attr (.loc 0) 19) 3 [.loc 1,.attr (.loc 0) 23])] []]⟩
noncomputable def tT:Fn:=⟨3,[],[
  .ret (.ω [.cmp .eq (.loc 1) (.loc 2),.π (.call 35 [.loc 0]) 4 [.loc 1,.loc 2]])]⟩
noncomputable def tU:Fn:=⟨1,[],[
  .ret (.tup [.bi .len [.attr (.attr (.loc 0) 19) 0],.bi .len [.attr (.loc 0) 17]])]⟩
noncomputable def tV:Fn:=⟨2,[],[
  .expr (.call 36 [.loc 0,.loc 1])]⟩
noncomputable def xy:Fn:=⟨4,[],[
  .assign (.loc 4) (.π (.attr (.loc 0) 14) 2 [.loc 1]),
  .ret (.τ [.isn true (.loc 4),.π (.loc 4) 5 [.loc 0,.loc 2,.loc 3]])]⟩
noncomputable def mQ:Fn:=⟨2,[],[
  .assign (.loc 2) (.make 2 [.attr (.loc 0) 12,.loc 1]),
  .setAttr (.loc 2) 14 (.attr (.loc 0) 14),
  .setAttr (.loc 2) 20 (.const (.bool false)),
  .ret (.loc 2)]⟩
noncomputable def xz:Fn:=⟨1,[],[
  .cond (.cmp .eq (.attr (.loc 0) 13) (.glob (.int 3))) [.ret (.loc 0)] [],
  .cond (.isn false (.attr (.loc 0) 21)) [.setAttr (.loc 0) 21 (.call 34 [.loc 0,.glob (.int 3)])] [],
  .ret (.attr (.loc 0) 21)]⟩
noncomputable def tW:Fn:=⟨2,[],[
  .abA (.attr (.attr (.loc 0) 19) 0) (.sub (.loc 1) (.const (.int 0))),
  .abD (.bi .len [.attr (.loc 0) 17]) (.cmp .gt (.bi .len [.attr (.loc 0) 17]) (.sub (.loc 1) (.const (.int 1)))) [.del (.attr (.loc 0) 15) (.π (.attr (.loc 0) 17) 1 [])]]⟩
noncomputable def xA:Fn:=⟨2,[],[
  .assign (.loc 1) (.π (.loc 0) 6 [.loc 1]),
  .cond (.call 21 [.attr (.loc 0) 9,.loc 1]) [.ret (.call 23 [.attr (.loc 0) 9,.loc 1])] [],
  .ret (.loc 1)]⟩
noncomputable def qG:Fn:=⟨3,[],[
  .cond (.cmp .eq (.loc 1) (.loc 2)) [.ret (.const (.bool true))] [],
  .assign (.loc 1) (.call 37 [.attr (.loc 0) 12,.loc 1]),
  .assign (.loc 2) (.call 37 [.attr (.loc 0) 12,.loc 2]),
  .cond (.cmp .eq (.loc 1) (.loc 2)) [.ret (.const (.bool true))] [],
  .cond (.cmp .eq (.attr (.loc 0) 13) (.glob (.int 3))) [.assign (.loc 3) (.attr (.attr (.attr (.loc 0) 12) 9) 0),.cond (.ω [.cmp .eq (.loc 1) (.glob (.int 13)),.cmp .eq (.loc 2) (.glob (.int 13))]) [.ret (.const (.bool true))] [],.cond (.ω [.cmp .isin (.sub (.sub (.loc 3) (.loc 1)) (.const (.int 0))) (.glob (.tup [(.int 1),(.int 2),(.int 3),(.int 4),(.int 5)])),.cmp .isin (.sub (.sub (.loc 3) (.loc 2)) (.const (.int 0))) (.glob (.tup [(.int 1),(.int 2),(.int 3),(.int 4),(.int 5)]))]) [.ret (.const (.bool false))] [],.ret (.call 39 [.loc 0,.loc 1,.loc 2])] [],
  .assign (.loc 4) (.call 43 [.loc 0,.loc 1,.loc 2]),
  .cond (.ω [.cmp .eq (.loc 4) (.const (.int 1)),.τ [.cmp .eq (.attr (.loc 0) 13) (.glob (.int 2)),.cmp .ne (.loc 2) (.glob (.int 2)),.cmp .eq (.call 43 [.loc 0,.loc 2,.loc 1]) (.const (.int 1))]]) [.ret (.const (.bool true))] [],
  .ret (.τ [.cmp .lt (.loc 4) (.const (.int 0)),.call 39 [.loc 0,.loc 1,.loc 2]])]⟩
noncomputable def Gg:Fn:=⟨3,[],[
  .assign (.loc 3) (.tup [.loc 1,.loc 2]),
  .cond (.cmp .isin (.loc 3) (.attr (.loc 0) 16)) [.ret (.sub (.attr (.loc 0) 16) (.loc 3))] [],
  .cond (.cmp .isin (.loc 3) (.attr (.loc 0) 15)) [.ret (.const (.bool true))] [],
  .cond (.cmp .ge (.attr (.loc 0) 10) (.glob (.int 60))) [.abort] [],
  .assign (.loc 4) (.π (.loc 0) 7 []),
  .Ξ (.attr (.loc 0) 15) (.loc 3) (.const (.int 1)),
  .expr (.π (.attr (.loc 0) 17) 0 [.loc 3]),
  .abw (.loc 0) 10 .add (.const (.int 1)),
  .assign (.loc 5) (.ite (.cmp .eq (.attr (.loc 0) 13) (.glob (.int 3))) (.call 54 [.loc 0,.loc 1,.loc 2]) (.call 49 [.loc 0,.loc 1,.loc 2])),
  .abw (.loc 0) 10 .sub (.const (.int 1)),
  .cond (.not (.loc 5)) [.expr (.call 36 [.loc 0,.loc 4]),.cond (.ω [.cmp .eq (.sub (.loc 4) (.const (.int 1))) (.const (.int 0)),.cmp .ne (.attr (.loc 0) 13) (.glob (.int 4))]) [.Ξ (.attr (.loc 0) 16) (.loc 3) (.const (.bool false))] []] [.cond (.cmp .eq (.sub (.loc 4) (.const (.int 1))) (.const (.int 0))) [.expr (.call 40 [.loc 0,.cmp .eq (.bi .len [.attr (.attr (.loc 0) 19) 0]) (.sub (.loc 4) (.const (.int 0)))])] []],
  .ret (.loc 5)]⟩
noncomputable def mR:Fn:=⟨2,[],[
  .loop (.loc 2) (.attr (.loc 0) 17) [.del (.attr (.loc 0) 15) (.loc 2),.cond (.loc 1) [.Ξ (.attr (.loc 0) 16) (.loc 2) (.const (.bool true))] []],
  .setAttr (.loc 0) 17 (.abe [])]⟩
noncomputable def CT:Fn:=⟨1,[],[
  .ret (.τ [.attr (.loc 0) 20,.cmp .eq (.attr (.loc 0) 13) (.glob (.int 1))])]⟩
noncomputable def mS:Fn:=⟨3,[],[
  .cond (.τ [.call 41 [.loc 0],.cmp .ne (.loc 1) (.glob (.int 13)),.cmp .ne (.loc 2) (.glob (.int 13)),.not (.π (.loc 0) 8 [.loc 1,.loc 2])]) [.expr (.π (.loc 0) 9 [.glob (.int 3)])] []]⟩
noncomputable def jD:Fn:=⟨3,[],[
  .assign (.loc 3) (.call 44 [.loc 0,.loc 1,.loc 2]),
  .cond (.cmp .ge (.loc 3) (.const (.int 0))) [.ret (.loc 3)] [],
  .assign (.loc 4) (.attr (.attr (.attr (.loc 0) 12) 9) 0),
  .assign (.loc 5) (.sub (.sub (.loc 4) (.loc 1)) (.const (.int 0))),
  .assign (.loc 6) (.sub (.sub (.loc 4) (.loc 2)) (.const (.int 0))),
  .cond (.ω [.cmp .isin (.loc 5) (.glob (.tup [(.int 6),(.int 7),(.int 10),(.int 14),(.int 15),(.int 16),(.int 17),(.int 18),(.int 19)])),.cmp .isin (.loc 6) (.glob (.tup [(.int 6),(.int 7),(.int 10),(.int 14),(.int 15),(.int 16),(.int 17),(.int 18),(.int 19)]))]) [.ret (.neg (.const (.int 1)))] [],
  .cond (.cmp .eq (.loc 2) (.glob (.int 10))) [.ret (.ite (.cmp .isin (.loc 5) (.glob (.tup [(.int 1),(.int 2),(.int 3),(.int 4),(.int 5)]))) (.const (.int 0)) (.neg (.const (.int 1))))] [],
  .cond (.cmp .isin (.loc 6) (.glob (.tup [(.int 1),(.int 2),(.int 3),(.int 4),(.int 5)]))) [.ret (.ite (.cmp .isin (.loc 5) (.glob (.tup [(.int 1),(.int 2),(.int 3),(.int 4),(.int 5)]))) (.call 47 [.loc 0,.loc 1,.loc 2]) (.const (.int 0)))] [],
  .cond (.ω [.cmp .eq (.loc 1) (.glob (.int 4)),.cmp .eq (.loc 1) (.glob (.int 5)),.cmp .eq (.loc 1) (.glob (.int 3))]) [.ret (.const (.int 0))] [],
  .ret (.neg (.const (.int 1)))]⟩
noncomputable def lh:Fn:=⟨3,[],[
  .cond (.ω [.cmp .eq (.loc 2) (.glob (.int 0)),.cmp .eq (.loc 2) (.glob (.int 13)),.cmp .eq (.loc 1) (.glob (.int 2)),.cmp .eq (.loc 1) (.glob (.int 13))]) [.ret (.const (.int 1))] [],
  .cond (.τ [.cmp .eq (.loc 1) (.glob (.int 0)),.cmp .eq (.attr (.loc 0) 13) (.glob (.int 4))]) [.ret (.const (.int 0))] [],
  .cond (.cmp .eq (.loc 2) (.glob (.int 1))) [.ret (.const (.int 1))] [],
  .cond (.cmp .eq (.loc 1) (.glob (.int 0))) [.cond (.cmp .eq (.loc 2) (.glob (.int 2))) [.ret (.const (.int 0))] [],.expr (.π (.loc 0) 9 [.glob (.int 1)]),.ret (.const (.int 1))] [],
  .cond (.cmp .eq (.loc 1) (.glob (.int 1))) [.ret (.call 45 [.loc 0,.loc 2])] [],
  .cond (.τ [.cmp .eq (.loc 2) (.glob (.int 2)),.cmp .abz (.sub (.sub (.attr (.attr (.attr (.loc 0) 12) 9) 0) (.loc 1)) (.const (.int 0))) (.glob (.tup [(.int 6),(.int 7),(.int 10),(.int 14),(.int 15),(.int 16),(.int 17),(.int 18),(.int 19)]))]) [.ret (.const (.int 0))] [],
  .ret (.neg (.const (.int 1)))]⟩
noncomputable def li:Fn:=⟨2,[],[
  .cond (.cmp .isin (.sub (.sub (.attr (.attr (.attr (.loc 0) 12) 9) 0) (.loc 1)) (.const (.int 0))) (.glob (.tup [(.int 10),(.int 14),(.int 15),(.int 16),(.int 17),(.int 18),(.int 19)]))) [.ret (.neg (.const (.int 1)))] [],
  .assign (.loc 2) (.call 13 [.attr (.attr (.loc 0) 12) 9,.loc 1]),
  .cond (.cmp .eq (.attr (.loc 0) 13) (.glob (.int 4))) [.ret (.const (.int 0))] [],
  .ret (.ite (.τ [.cmp .isin (.glob (.int 11)) (.loc 2),.cmp .isin (.glob (.int 5)) (.loc 2),.cmp .isin (.glob (.int 4)) (.loc 2)]) (.const (.int 1)) (.const (.int 0)))]⟩
noncomputable def iW:Fn:=⟨1,[],[
  .ret (.τ [.cmp .eq (.sub (.loc 0) (.const (.int 0))) (.glob (.int 5)),.cmp .eq (.call 14 [.loc 0]) (.glob (.int 7))])]⟩
noncomputable def jE:Fn:=⟨3,[],[
  .cond (.cmp .eq (.loc 1) (.glob (.int 4))) [.ret (.ite (.cmp .eq (.loc 2) (.glob (.int 3))) (.const (.int 1)) (.const (.int 0)))] [],
  .assign (.loc 3) (.sub (.attr (.attr (.attr (.loc 0) 12) 9) 0) (.loc 1)),
  .assign (.loc 4) (.sub (.attr (.attr (.attr (.loc 0) 12) 9) 0) (.loc 2)),
  .cond (.τ [.cmp .eq (.call 14 [.loc 3]) (.loc 2),.cmp .ge (.call 14 [.loc 3]) (.const (.int 0))]) [.ret (.const (.int 1))] [],
  .cond (.τ [.cmp .eq (.attr (.loc 0) 13) (.glob (.int 2)),.cmp .eq (.call 14 [.loc 4]) (.loc 1)]) [.ret (.const (.int 1))] [],
  .cond (.cmp .eq (.sub (.loc 3) (.const (.int 0))) (.glob (.int 5))) [.ret (.ite (.τ [.cmp .isin (.sub (.loc 4) (.const (.int 0))) (.tup [.glob (.int 3),.glob (.int 4)]),.cmp .eq (.call 14 [.loc 4]) (.call 14 [.loc 3]),.cmp .eq (.sub (.loc 4) (.const (.int 1))) (.sub (.loc 3) (.const (.int 3)))]) (.const (.int 1)) (.const (.int 0)))] [],
  .ret (.call 48 [.loc 0,.loc 1,.loc 3,.loc 4])]⟩
noncomputable def jF:Fn:=⟨4,[],[
  .cond (.ω [.cmp .eq (.attr (.loc 0) 13) (.glob (.int 4)),.not (.call 46 [.loc 3])]) [.ret (.const (.int 0))] [],
  .cond (.ω [.cmp .eq (.loc 1) (.glob (.int 7)),.τ [.cmp .eq (.sub (.loc 2) (.const (.int 0))) (.glob (.int 4)),.cmp .eq (.sub (.loc 2) (.const (.int 1))) (.sub (.loc 3) (.const (.int 3)))]]) [.abort] [],
  .ret (.const (.int 0))]⟩
noncomputable def oU:Fn:=⟨3,[],[
  .assign (.loc 3) (.attr (.attr (.attr (.loc 0) 12) 9) 0),
  .assign (.loc 4) (.sub (.sub (.loc 3) (.loc 1)) (.const (.int 0))),
  .assign (.loc 5) (.sub (.sub (.loc 3) (.loc 2)) (.const (.int 0))),
  .cond (.cmp .eq (.loc 4) (.glob (.int 6))) [.ret (.call 51 [.loc 0,.loc 1,.loc 2])] [],
  .cond (.cmp .eq (.loc 5) (.glob (.int 6))) [.ret (.call 53 [.loc 0,.loc 1,.loc 2])] [],
  .ret (.call 33 [.loc 0,.call 50 [.loc 4,.loc 5],.loc 1,.loc 2])]⟩
noncomputable def tX:Fn:=⟨2,[],[
  .cond (.ω [.cmp .eq (.loc 0) (.glob (.int 7)),.cmp .eq (.loc 1) (.glob (.int 7))]) [.ret (.glob (.int 1))] [],
  .cond (.ω [.cmp .isin (.loc 0) (.glob (.tup [(.int 10),(.int 14),(.int 15),(.int 16),(.int 17),(.int 18),(.int 19)])),.cmp .isin (.loc 1) (.glob (.tup [(.int 10),(.int 14),(.int 15),(.int 16),(.int 17),(.int 18),(.int 19)]))]) [.ret (.glob (.int 2))] [],
  .cond (.τ [.cmp .eq (.loc 0) (.glob (.int 13)),.cmp .eq (.loc 1) (.glob (.int 13))]) [.ret (.glob (.int 3))] [],
  .cond (.τ [.cmp .isin (.loc 0) (.glob (.tup [(.int 11),(.int 12)])),.cmp .isin (.loc 1) (.glob (.tup [(.int 11),(.int 12)]))]) [.ret (.glob (.int 4))] [],
  .ret (.glob (.int 5))]⟩
noncomputable def oV:Fn:=⟨3,[],[
  .loop (.loc 3) (.call 13 [.attr (.attr (.loc 0) 12) 9,.loc 1]) [.cond (.π (.loc 0) 4 [.loc 3,.loc 2]) [.cond (.cmp .eq (.attr (.loc 0) 13) (.glob (.int 2))) [.ret (.const (.bool true))] []] [.cond (.cmp .ne (.attr (.loc 0) 13) (.glob (.int 2))) [.ret (.const (.bool false))] []]],
  .ret (.cmp .ne (.attr (.loc 0) 13) (.glob (.int 2)))]⟩
noncomputable def qH:Fn:=⟨3,[],[
  .assign (.loc 3) (.neg (.const (.int 1))),
  .loop (.loc 4) (.loc 2) [.assign (.loc 5) (.π (.loc 0) 7 []),.cond (.π (.loc 0) 4 [.loc 1,.loc 4]) [.cond (.cmp .eq (.bi .len [.attr (.attr (.loc 0) 19) 0]) (.sub (.loc 5) (.const (.int 0)))) [.ret (.const (.bool true))] [],.expr (.π (.loc 0) 10 [.loc 5]),.cond (.cmp .lt (.loc 3) (.const (.int 0))) [.assign (.loc 3) (.loc 4)] []] []],
  .ret (.τ [.cmp .ge (.loc 3) (.const (.int 0)),.π (.loc 0) 4 [.loc 1,.loc 3]])]⟩
noncomputable def tY:Fn:=⟨3,[],[
  .assign (.loc 3) (.attr (.attr (.loc 0) 12) 9),
  .assign (.loc 4) (.call 13 [.loc 3,.loc 2]),
  .cond (.ω [.cmp .isin (.loc 1) (.loc 4),.call 52 [.loc 0,.loc 1,.loc 4]]) [.ret (.const (.bool true))] [],
  .assign (.loc 5) (.sub (.sub (.attr (.loc 3) 0) (.loc 1)) (.const (.int 0))),
  .cond (.cmp .isin (.loc 5) (.glob (.tup [(.int 10),(.int 14),(.int 15),(.int 16),(.int 17),(.int 18),(.int 19)]))) [.ret (.call 33 [.loc 0,.glob (.int 2),.loc 1,.loc 2])] [],
  .cond (.τ [.cmp .eq (.loc 5) (.glob (.int 7)),.call 33 [.loc 0,.glob (.int 1),.loc 1,.loc 2]]) [.ret (.const (.bool true))] [],
  .cond (.ω [.cmp .eq (.loc 5) (.glob (.int 7)),.cmp .isin (.loc 5) (.glob (.tup [(.int 8),(.int 9)]))]) [.ret (.call 33 [.loc 0,.glob (.int 6),.loc 1,.loc 2])] [],
  .ret (.τ [.cmp .eq (.loc 5) (.glob (.int 12)),.call 33 [.loc 0,.glob (.int 12),.loc 1,.loc 2]])]⟩
noncomputable def qI:Fn:=⟨3,[],[
  .assign (.loc 3) (.attr (.attr (.attr (.loc 0) 12) 9) 0),
  .assign (.loc 4) (.sub (.loc 3) (.loc 1)),
  .assign (.loc 5) (.sub (.loc 3) (.loc 2)),
  .cond (.τ [.cmp .eq (.sub (.loc 4) (.const (.int 0))) (.sub (.loc 5) (.const (.int 0))),.ω [.cmp .eq (.sub (.loc 4) (.const (.int 0))) (.glob (.int 6)),.cmp .eq (.sub (.loc 4) (.const (.int 0))) (.glob (.int 7))]]) [.ret (.τ [.call 55 [.loc 0,.sub (.loc 4) (.const (.int 1)),.sub (.loc 5) (.const (.int 1))],.call 55 [.loc 0,.sub (.loc 5) (.const (.int 1)),.sub (.loc 4) (.const (.int 1))]])] [],
  .cond (.ω [.cmp .isin (.sub (.loc 4) (.const (.int 0))) (.tup [.glob (.int 6),.glob (.int 7)]),.cmp .isin (.sub (.loc 5) (.const (.int 0))) (.tup [.glob (.int 6),.glob (.int 7)])]) [.ret (.const (.bool false))] [],
  .ret (.call 33 [.loc 0,.call 50 [.sub (.loc 4) (.const (.int 0)),.sub (.loc 5) (.const (.int 0))],.loc 1,.loc 2])]⟩
noncomputable def xB:Fn:=⟨3,[],[
  .loop (.loc 3) (.loc 1) [.cond (.not (.call 52 [.loc 0,.loc 3,.loc 2])) [.ret (.const (.bool false))] []],
  .ret (.const (.bool true))]⟩
noncomputable def lj:Fn:=⟨1,[],[
  .ret (.bi .len [.comp (.loc 1) (.loc 1) (.loc 0) [.cmp .eq (.sub (.loc 1) (.const (.int 1))) (.glob (.int 0))]])]⟩
noncomputable def oW:Fn:=⟨1,[],[
  .loop (.loc 1) (.bi .range [.bi .len [.loc 0]]) [.cond (.cmp .ge (.sub (.sub (.loc 0) (.loc 1)) (.const (.int 1))) (.glob (.int 2))) [.ret (.loc 1)] []],
  .ret (.neg (.const (.int 1)))]⟩
noncomputable def tZ:Fn:=⟨3,[],[
  .assign (.loc 3) (.call 57 [.loc 0]),
  .cond (.ω [.cmp .lt (.loc 3) (.const (.int 0)),.cmp .lt (.loc 2) (.loc 3)]) [.ret (.sub (.loc 0) (.loc 2))] [],
  .assign (.loc 4) (.bin .sub (.bin .sub (.bi .len [.loc 0]) (.loc 3)) (.const (.int 1))),
  .cond (.cmp .ge (.loc 2) (.bin .sub (.loc 1) (.loc 4))) [.ret (.sub (.loc 0) (.bin .sub (.bi .len [.loc 0]) (.bin .sub (.loc 1) (.loc 2))))] [],
  .ret (.sub (.loc 0) (.loc 3))]⟩
noncomputable def mT:Fn:=⟨2,[],[
  .cond (.cmp .lt (.call 56 [.loc 0]) (.call 56 [.loc 1])) [.ret (.const (.bool false))] [],
  .cond (.cmp .ge (.call 57 [.loc 1]) (.const (.int 0))) [.ret (.const (.bool true))] [],
  .ret (.τ [.cmp .lt (.call 57 [.loc 0]) (.const (.int 0)),.cmp .le (.bi .len [.loc 0]) (.bi .len [.loc 1])])]⟩
noncomputable def mU:Fn:=⟨3,[],[
  .assign (.loc 3) (.ite (.cmp .lt (.call 57 [.loc 1]) (.const (.int 0))) (.bi .len [.loc 1]) (.bin .add (.bi .len [.loc 1]) (.bi .len [.loc 2]))),
  .assign (.loc 4) (.abm),
  .loop (.loc 5) (.bi .range [.call 56 [.loc 1],.bin .add (.loc 3) (.const (.int 1))]) [.loop (.loc 6) (.bi .range [.loc 5]) [.assign (.loc 7) (.call 26 [.loc 0,.call 58 [.loc 1,.loc 5,.loc 6]]),.Ξ (.loc 4) (.tup [.loc 7,.call 26 [.loc 0,.call 58 [.loc 2,.loc 5,.loc 6]]]) (.const (.int 1))]],
  .freeze 4,
  .ret (.comp (.loc 8) (.loc 8) (.loc 4) [])]⟩
noncomputable def lk:Fn:=⟨1,[],[
  .ret (.cmp .gt (.bi .len [.comp (.loc 1) (.loc 1) (.loc 0) [.cmp .eq (.sub (.loc 1) (.const (.int 1))) (.glob (.int 3))]]) (.const (.int 0)))]⟩
noncomputable def t0:Fn:=⟨3,[],[
  .cond (.cmp .ne (.bi .len [.loc 1]) (.bi .len [.loc 2])) [.ret (.const (.bool false))] [],
  .loop (.loc 3) (.bi .range [.bi .len [.loc 1]]) [.cond (.ω [.cmp .ne (.sub (.sub (.loc 1) (.loc 3)) (.const (.int 1))) (.sub (.sub (.loc 2) (.loc 3)) (.const (.int 1))),.not (.π (.loc 0) 4 [.sub (.sub (.loc 1) (.loc 3)) (.const (.int 0)),.sub (.sub (.loc 2) (.loc 3)) (.const (.int 0))])]) [.ret (.const (.bool false))] []],
  .ret (.const (.bool true))]⟩
noncomputable def oX:Fn:=⟨3,[],[
  .loop (.tup [3,4]) (.loc 1) [.cond (.not (.π (.loc 0) 4 [.loc 3,.loc 4])) [.ret (.const (.bool false))] [],.cond (.not (.loc 2)) [.expr (.call 42 [.loc 0,.loc 3,.loc 4])] []],
  .ret (.const (.bool true))]⟩
noncomputable def mV:Fn:=⟨4,[],[
  .cond (.ω [.call 61 [.loc 2],.cmp .eq (.attr (.loc 0) 13) (.glob (.int 3))]) [.ret (.call 62 [.loc 0,.loc 1,.loc 2])] [],
  .cond (.call 61 [.loc 1]) [.abort] [],
  .cond (.not (.call 59 [.loc 1,.loc 2])) [.ret (.const (.bool false))] [],
  .cond (.τ [.not (.loc 3),.cmp .ne (.comp (.sub (.loc 4) (.const (.int 1))) (.loc 4) (.loc 1) []) (.comp (.sub (.loc 5) (.const (.int 1))) (.loc 5) (.loc 2) [])]) [.expr (.π (.loc 0) 9 [.glob (.int 3)])] [],
  .ret (.call 63 [.loc 0,.call 60 [.attr (.attr (.loc 0) 12) 9,.loc 1,.loc 2],.loc 3])]⟩
noncomputable def oY:Fn:=⟨4,[],[
  .cond (.not (.loc 3)) [.expr (.π (.loc 0) 9 [.glob (.int 3)])] [],
  .assign (.loc 4) (.attr (.attr (.loc 0) 12) 9),
  .assign (.loc 5) (.call 8 [.loc 4,.loc 2,.const (.int 1)]),
  .assign (.loc 6) (.abe []),
  .loop (.loc 7) (.loc 1) [.expr (.π (.loc 6) 0 [.ite (.cmp .eq (.sub (.loc 7) (.const (.int 1))) (.glob (.int 3))) (.tup [.sub (.loc 7) (.const (.int 0)),.loc 5]) (.tup [.call 26 [.loc 4,.loc 7],.loc 2])])],
  .freeze 6,
  .ret (.call 63 [.loc 0,.loc 6,.loc 3])]⟩
noncomputable def kx:Fn:=⟨3,[],[
  .assign (.loc 3) (.sub (.attr (.attr (.attr (.loc 0) 12) 9) 0) (.loc 1)),
  .assign (.loc 4) (.sub (.attr (.attr (.attr (.loc 0) 12) 9) 0) (.loc 2)),
  .cond (.τ [.sub (.loc 3) (.const (.int 2)),.not (.sub (.loc 4) (.const (.int 2)))]) [.ret (.const (.bool false))] [],
  .cond (.τ [.cmp .eq (.attr (.loc 0) 13) (.glob (.int 3)),.ω [.cmp .ne (.sub (.loc 3) (.const (.int 0))) (.sub (.loc 4) (.const (.int 0))),.cmp .ne (.sub (.loc 3) (.const (.int 2))) (.sub (.loc 4) (.const (.int 2)))]]) [.ret (.const (.bool false))] [],
  .cond (.τ [.cmp .eq (.sub (.loc 3) (.const (.int 0))) (.glob (.int 11)),.cmp .eq (.sub (.loc 4) (.const (.int 0))) (.glob (.int 11))]) [.ret (.call 63 [.loc 0,.lst [.tup [.sub (.loc 3) (.const (.int 1)),.sub (.loc 4) (.const (.int 1))]],.sub (.loc 4) (.const (.int 2))])] [],
  .cond (.cmp .eq (.sub (.loc 4) (.const (.int 0))) (.glob (.int 11))) [.ret (.call 65 [.loc 0,.sub (.loc 3) (.const (.int 1)),.sub (.loc 4) (.const (.int 1)),.sub (.loc 4) (.const (.int 2))])] [],
  .cond (.cmp .eq (.sub (.loc 3) (.const (.int 0))) (.glob (.int 11))) [.ret (.call 64 [.loc 0,.tup [.tup [.sub (.loc 3) (.const (.int 1)),.glob (.int 2)]],.sub (.loc 4) (.const (.int 1)),.sub (.loc 4) (.const (.int 2))])] [],
  .ret (.call 64 [.loc 0,.sub (.loc 3) (.const (.int 1)),.sub (.loc 4) (.const (.int 1)),.sub (.loc 4) (.const (.int 2))])]⟩
noncomputable def jG:Fn:=⟨4,[],[
  .ret (.call 66 [.loc 1,.loc 2,.loc 3])]⟩
noncomputable def im:Fn:=⟨1,[],[
  .Ξ (.attr (.loc 0) 14) (.glob (.int 4)) (.make 4 [])]⟩
noncomputable def aaX:Fn:=⟨2,[],[
  .assign (.loc 2) (.sub (.loc 0) (.const (.int 0))),
  .Ξ (.loc 0) (.const (.int 0)) (.bin .add (.loc 2) (.const (.int 1))),
  .assign (.loc 3) (.ite (.cmp .lt (.loc 2) (.bi .len [.sub (.loc 0) (.const (.int 1))])) (.sub (.sub (.loc 0) (.const (.int 1))) (.loc 2)) (.bin .add (.bin .mul (.loc 2) (.const (.int 3))) (.const (.int 1)))),
  .ret (.bin .mod (.loc 3) (.loc 1))]⟩
noncomputable def qK:Fn:=⟨2,[],[
  .assign (.loc 2) (.abe [.call 69 [.loc 0,.const (.int 10)]]),
  .assign (.loc 3) (.call 69 [.loc 0,.const (.int 4)]),
  .cond (.cmp .eq (.loc 3) (.const (.int 0))) [.expr (.π (.loc 2) 0 [.call 69 [.loc 0,.const (.int 11)]])] [.cond (.τ [.cmp .eq (.loc 3) (.const (.int 1)),.cmp .gt (.loc 1) (.const (.int 0))]) [.freeze 2,.ret (.tup [.loc 2,.lst [.call 71 [.loc 0,.const (.int 0)]]])] []],
  .freeze 2,
  .ret (.tup [.loc 2,.lst []])]⟩
noncomputable def qL:Fn:=⟨2,[],[
  .assign (.loc 2) (.ite (.cmp .eq (.call 69 [.loc 0,.const (.int 3)]) (.const (.int 2))) (.const (.int 1)) (.const (.int 0))),
  .assign (.loc 4) (.comp (.call 70 [.loc 0,.loc 1]) (.loc 3) (.bi .range [.call 69 [.loc 0,.const (.int 3)]]) []),
  .assign (.loc 5) (.call 69 [.loc 0,.const (.int 4)]),
  .assign (.loc 7) (.comp (.call 70 [.loc 0,.loc 1]) (.loc 6) (.bi .range [.sub (.lst [.const (.int 0),.const (.int 1),.const (.int 2),.const (.int 0)]) (.loc 5)]) []),
  .assign (.loc 8) (.ite (.cmp .gt (.loc 5) (.const (.int 1))) (.lst [.call 70 [.loc 0,.loc 1]]) (.lst [])),
  .assign (.loc 9) (.ite (.τ [.cmp .eq (.loc 5) (.const (.int 3)),.cmp .eq (.call 69 [.loc 0,.const (.int 2)]) (.const (.int 1))]) (.lst [.call 70 [.loc 0,.loc 1]]) (.lst [])),
  .ret (.tup [.loc 4,.loc 7,.loc 8,.loc 9,.loc 2])]⟩
noncomputable def t8:Fn:=⟨1,[],[
  .ret (.bin .add (.bin .add (.bin .add (.sub (.loc 0) (.const (.int 0))) (.sub (.loc 0) (.const (.int 1)))) (.sub (.loc 0) (.const (.int 2)))) (.sub (.loc 0) (.const (.int 3))))]⟩
noncomputable def oZ:Fn:=⟨3,[],[
  .assign (.loc 3) (.call 70 [.loc 0,.const (.int 0)]),
  .assign (.loc 4) (.call 69 [.loc 0,.const (.int 5)]),
  .assign (.loc 5) (.abe []),
  .assign (.loc 6) (.const (.int 0)),
  .loop (.loc 7) (.slice (.loc 1) none (some (.const (.int 4)))) [.assign (.loc 8) (.abe []),.loop (.loc 9) (.loc 7) [.expr (.π (.loc 8) 0 [.ite (.ω [.loc 2,.cmp .eq (.loc 6) (.loc 4)]) (.tup [.bin .add (.sub (.loc 9) (.const (.int 0))) (.sub (.loc 3) (.const (.int 0))),.sub (.loc 9) (.const (.int 1))]) (.loc 9)]),.aug 6 .add (.const (.int 1))],.freeze 8,.expr (.π (.loc 5) 0 [.loc 8])],
  .ret (.tup [.sub (.loc 5) (.const (.int 0)),.sub (.loc 5) (.const (.int 1)),.sub (.loc 5) (.const (.int 2)),.sub (.loc 5) (.const (.int 3)),.sub (.loc 1) (.const (.int 4))])]⟩
noncomputable def qM:Fn:=⟨2,[],[
  .assign (.tup [2,3,4,5,6]) (.loc 1),
  .assign (.loc 7) (.call 69 [.loc 0,.const (.int 8)]),
  .cond (.τ [.cmp .eq (.loc 7) (.const (.int 0)),.cmp .gt (.bi .len [.loc 2]) (.const (.int 0)),.cmp .eq (.bi .len [.loc 5]) (.const (.int 0))]) [.ret (.tup [.slice (.loc 2) none (some (.neg (.const (.int 1)))),.bin .add (.slice (.loc 2) (some (.neg (.const (.int 1)))) none) (.loc 3),.loc 4,.loc 5,.loc 6])] [],
  .cond (.τ [.cmp .eq (.loc 7) (.const (.int 1)),.cmp .eq (.bi .len [.loc 5]) (.const (.int 0)),.cmp .lt (.bi .len [.loc 3]) (.const (.int 3))]) [.ret (.tup [.loc 2,.bin .add (.loc 3) (.lst [.call 70 [.loc 0,.const (.int 0)]]),.loc 4,.loc 5,.loc 6])] [],
  .cond (.cmp .eq (.loc 7) (.const (.int 2))) [.ret (.tup [.bin .add (.loc 2) (.loc 5),.loc 3,.ite (.cmp .gt (.bi .len [.loc 4]) (.const (.int 0))) (.lst []) (.lst [.call 70 [.loc 0,.const (.int 0)]]),.lst [],.loc 6])] [],
  .cond (.τ [.cmp .eq (.loc 7) (.const (.int 3)),.cmp .gt (.bi .len [.loc 4]) (.const (.int 0)),.cmp .eq (.bi .len [.loc 3]) (.const (.int 0))]) [.ret (.tup [.loc 2,.loc 3,.loc 4,.ite (.cmp .gt (.bi .len [.loc 5]) (.const (.int 0))) (.slice (.loc 5) (some (.const (.int 1))) none) (.lst [.call 70 [.loc 0,.const (.int 0)]]),.loc 6])] [],
  .cond (.τ [.cmp .eq (.loc 7) (.const (.int 4)),.cmp .gt (.bi .len [.call 72 [.loc 1]]) (.const (.int 0))]) [.assign (.loc 8) (.ite (.cmp .gt (.bi .len [.loc 3]) (.const (.int 0))) (.lst [.const (.int 0)]) (.lst [])),.assign (.loc 9) (.lst []),.loop (.loc 10) (.call 72 [.loc 1]) [.assign (.loc 8) (.bin .add (.loc 8) (.sub (.loc 10) (.const (.int 0)))),.assign (.loc 9) (.bin .add (.loc 9) (.sub (.loc 10) (.const (.int 1))))],.ret (.tup [.lst [],.lst [],.lst [.tup [.loc 8,.loc 9]],.lst [],.loc 6])] [],
  .cond (.ω [.cmp .eq (.loc 7) (.const (.int 5)),.cmp .eq (.loc 7) (.const (.int 6))]) [.ret (.call 73 [.loc 0,.loc 1,.cmp .eq (.loc 7) (.const (.int 6))])] [],
  .ret (.tup [.loc 2,.loc 3,.loc 4,.loc 5,.bin .sub (.const (.int 1)) (.loc 6)])]⟩
noncomputable def qN:Fn:=⟨1,[],[
  .assign (.loc 1) (.const (.int 0)),
  .loop (.loc 2) (.loc 0) [.aug 1 .bor (.sub (.glob (.tup [(.int 1),(.int 2),(.int 4),(.int 8),(.int 16),(.int 32),(.int 64),(.int 128),(.int 448),(.int 560),(.int 8191)])) (.loc 2))],
  .ret (.loc 1)]⟩
noncomputable def mW:Fn:=⟨2,[],[
  .assign (.loc 2) (.call 75 [.sub (.loc 1) (.const (.int 0))]),
  .cond (.cmp .ne (.bin .bor (.loc 2) (.call 75 [.sub (.loc 0) (.const (.int 0))])) (.loc 2)) [.ret (.const (.bool false))] [],
  .loop (.loc 3) (.sub (.loc 0) (.const (.int 1))) [.cond (.τ [.cmp .lt (.loc 2) (.const (.int 8191)),.cmp .eq (.bi .len [.comp (.loc 4) (.loc 4) (.sub (.loc 1) (.const (.int 1))) [.call 79 [.loc 3,.loc 4]]]) (.const (.int 0))]) [.ret (.const (.bool false))] []],
  .ret (.const (.bool true))]⟩
noncomputable def ln:Fn:=⟨2,[],[
  .assign (.tup [2,3,4,5,6]) (.loc 0),
  .assign (.loc 7) (.abm),
  .loop (.loc 8) (.bi .range [.bin .add (.bin .sub (.bin .sub (.loc 1) (.bi .len [.loc 2])) (.bi .len [.loc 5])) (.const (.int 1))]) [.cond (.cmp .le (.loc 8) (.bi .len [.loc 3])) [.assign (.loc 9) (.slice (.loc 3) none (some (.loc 8)))] [.cond (.cmp .gt (.bi .len [.loc 4]) (.const (.int 0))) [.assign (.loc 9) (.bin .add (.loc 3) (.bin .mul (.loc 4) (.bin .sub (.loc 8) (.bi .len [.loc 3]))))] [.brk]],.assign (.loc 9) (.comp (.tup [.bin .add (.sub (.sub (.loc 9) (.loc 10)) (.const (.int 0))) (.ite (.cmp .lt (.loc 10) (.bi .len [.loc 3])) (.lst [.const (.int 0)]) (.lst [])),.sub (.sub (.loc 9) (.loc 10)) (.const (.int 1))]) (.loc 10) (.bi .range [.loc 8]) []),.Ξ (.loc 7) (.bin .add (.bin .add (.bi .len [.loc 2]) (.loc 8)) (.bi .len [.loc 5])) (.bin .add (.bin .add (.loc 2) (.loc 9)) (.loc 5))],
  .freeze 7,
  .ret (.loc 7)]⟩
noncomputable def qO:Fn:=⟨2,[],[
  .assign (.loc 2) (.const (.int 1)),
  .loop (.loc 3) (.lst [.loc 0,.loc 1]) [.assign (.loc 2) (.bi .max [.loc 2,.bin .add (.bin .add (.bi .len [.sub (.loc 3) (.const (.int 0))]) (.bi .len [.sub (.loc 3) (.const (.int 1))])) (.const (.int 1))])],
  .aug 2 .add (.bi .max [.bi .len [.sub (.loc 0) (.const (.int 3))],.bi .len [.sub (.loc 1) (.const (.int 3))]]),
  .ret (.tup [.call 77 [.loc 0,.loc 2],.call 77 [.loc 1,.loc 2]])]⟩
noncomputable def qP:Fn:=⟨2,[],[
  .cond (.cmp .gt (.sub (.loc 0) (.const (.int 4))) (.sub (.loc 1) (.const (.int 4)))) [.ret (.const (.bool false))] [],
  .assign (.tup [2,3]) (.call 78 [.loc 0,.loc 1]),
  .loop (.loc 4) (.loc 2) [.cond (.cmp .abz (.loc 4) (.loc 3)) [.ret (.const (.bool false))] [],.loop (.loc 5) (.bi .range [.loc 4]) [.cond (.not (.call 76 [.sub (.sub (.loc 2) (.loc 4)) (.loc 5),.sub (.sub (.loc 3) (.loc 4)) (.loc 5)])) [.ret (.const (.bool false))] []]],
  .ret (.const (.bool true))]⟩
noncomputable def t9:Fn:=⟨2,[],[
  .cond (.cmp .eq (.sub (.loc 1) (.const (.int 4))) (.const (.int 1))) [.ret (.const (.bool false))] [],
  .loop (.loc 2) (.bi .range [.const (.int 4)]) [.cond (.cmp .ne (.bi .len [.sub (.loc 0) (.loc 2)]) (.bi .len [.sub (.loc 1) (.loc 2)])) [.ret (.const (.bool true))] []],
  .assign (.tup [3,4]) (.call 78 [.loc 0,.loc 1]),
  .loop (.loc 5) (.loc 3) [.loop (.loc 6) (.bi .range [.loc 5]) [.cond (.cmp .ne (.call 75 [.sub (.sub (.sub (.loc 3) (.loc 5)) (.loc 6)) (.const (.int 0))]) (.call 75 [.sub (.sub (.sub (.loc 4) (.loc 5)) (.loc 6)) (.const (.int 0))])) [.ret (.const (.bool true))] []]],
  .ret (.const (.bool false))]⟩
noncomputable def qQ:Fn:=⟨2,[],[
  .cond (.ω [.cmp .eq (.loc 1) (.const (.int 2)),.cmp .eq (.loc 1) (.const (.int 3))]) [.ret (.call 7 [.loc 0,.bin .sub (.loc 1) (.const (.int 2))])] [],
  .cond (.ω [.cmp .eq (.loc 1) (.const (.int 4)),.cmp .eq (.loc 1) (.const (.int 5))]) [.ret (.call 6 [.loc 0,.bin .sub (.loc 1) (.const (.int 4))])] [],
  .cond (.ω [.cmp .eq (.loc 1) (.const (.int 6)),.cmp .eq (.loc 1) (.const (.int 7))]) [.ret (.call 5 [.loc 0,.sub (.const (.str [97,98])) (.bin .sub (.loc 1) (.const (.int 6)))])] [],
  .ret (.sub (.lst [.glob (.int 4),.glob (.int 5),.const (.int 0),.const (.int 0),.const (.int 0),.const (.int 0),.const (.int 0),.const (.int 0),.glob (.int 6),.glob (.int 7),.glob (.int 1)]) (.loc 1))]⟩
noncomputable def qR:Fn:=⟨2,[],[
  .assign (.loc 3) (.comp (.call 81 [.loc 0,.loc 2]) (.loc 2) (.sub (.loc 1) (.const (.int 0))) []),
  .ret (.call 19 [.loc 0,.bin .add (.loc 3) (.comp (.call 83 [.loc 0,.loc 4]) (.loc 4) (.sub (.loc 1) (.const (.int 1))) [])])]⟩
noncomputable def qS:Fn:=⟨2,[],[
  .assign (.tup [2,3,4,5,6]) (.loc 1),
  .cond (.τ [.cmp .eq (.bi .len [.loc 4]) (.const (.int 1)),.cmp .eq (.bi .len [.call 72 [.loc 1]]) (.const (.int 1))]) [.ret (.call 8 [.loc 0,.call 82 [.loc 0,.sub (.loc 4) (.const (.int 0))],.loc 6])] [],
  .assign (.loc 8) (.comp (.tup [.call 82 [.loc 0,.loc 7],.glob (.int 0)]) (.loc 7) (.loc 2) []),
  .assign (.loc 8) (.bin .add (.loc 8) (.comp (.tup [.call 82 [.loc 0,.loc 9],.glob (.int 1)]) (.loc 9) (.loc 3) [])),
  .assign (.loc 8) (.bin .add (.loc 8) (.comp (.tup [.call 82 [.loc 0,.loc 10],.glob (.int 2)]) (.loc 10) (.loc 4) [])),
  .ret (.call 12 [.loc 0,.bin .add (.loc 8) (.comp (.tup [.call 82 [.loc 0,.loc 11],.glob (.int 0)]) (.loc 11) (.loc 5) []),.loc 6])]⟩
noncomputable def ua:Fn:=⟨2,[],[
  .assign (.loc 2) (.make 2 [.make 1 [.loc 0],.loc 1]),
  .expr (.call 68 [.loc 2]),
  .ret (.loc 2)]⟩
noncomputable def qT:Fn:=⟨4,[],[
  .assign (.loc 4) (.call 83 [.loc 0,.loc 1]),
  .assign (.loc 5) (.call 83 [.loc 0,.loc 2]),
  .assign (.loc 6) (.call 79 [.loc 1,.loc 2]),
  .assign (.loc 7) (.call 84 [.loc 0,.glob (.int 1)]),
  .cond (.cmp .ne (.π (.loc 7) 4 [.loc 4,.loc 5]) (.loc 6)) [.ret (.const (.bool false))] [],
  .cond (.τ [.loc 3,.cmp .ne (.π (.attr (.loc 7) 19) 11 []) (.ite (.τ [.loc 6,.call 80 [.loc 1,.loc 2]]) (.lst [.glob (.int 3)]) (.lst []))]) [.ret (.const (.bool false))] [],
  .ret (.cmp .eq (.π (.call 84 [.loc 0,.glob (.int 4)]) 4 [.loc 4,.loc 5]) (.loc 6))]⟩
noncomputable def I4:Fn:=⟨1,[],[
  .assign (.loc 2) (.comp (.loc 1) (.loc 1) (.slice (.loc 0) none (some (.const (.int 40)))) []),
  .assign (.loc 3) (.abe [.const (.int 0),.loc 2]),
  .assign (.loc 4) (.ite (.τ [.cmp .gt (.bi .len [.loc 2]) (.const (.int 19)),.cmp .eq (.call 69 [.loc 3,.const (.int 2)]) (.const (.int 0))]) (.const (.int 1)) (.const (.int 0))),
  .assign (.loc 5) (.call 71 [.loc 3,.loc 4]),
  .cond (.cmp .eq (.call 69 [.loc 3,.const (.int 6)]) (.const (.int 5))) [.assign (.loc 6) (.call 71 [.loc 3,.loc 4])] [.assign (.loc 6) (.loc 5),.loop (.loc 7) (.bi .range [.call 69 [.loc 3,.const (.int 4)]]) [.assign (.loc 6) (.call 74 [.loc 3,.loc 6])]],
  .assign (.loc 8) (.make 0 []),
  .assign (.loc 9) (.call 83 [.loc 8,.loc 5]),
  .assign (.loc 10) (.call 83 [.loc 8,.loc 6]),
  .assign (.loc 11) (.call 84 [.loc 8,.glob (.int 1)]),
  .setAttr (.loc 11) 20 (.const (.bool false)),
  .cond (.cmp .ne (.call 66 [.loc 11,.loc 9,.loc 10]) (.call 79 [.loc 5,.loc 6])) [.ret (.const (.bool false))] [],
  .assign (.loc 11) (.call 84 [.loc 8,.glob (.int 3)]),
  .cond (.ω [.cmp .ne (.π (.loc 11) 4 [.loc 9,.loc 10]) (.cmp .eq (.loc 9) (.loc 10)),.cmp .ne (.call 66 [.loc 11,.loc 10,.loc 9]) (.cmp .eq (.loc 9) (.loc 10))]) [.ret (.const (.bool false))] [],
  .assign (.loc 12) (.cmp .eq (.loc 4) (.const (.int 0))),
  .ret (.τ [.call 85 [.loc 8,.loc 5,.loc 6,.loc 12],.call 85 [.loc 8,.loc 6,.loc 5,.loc 12]])]⟩
noncomputable def Lc:List Fn:=[jB,qB,mO,gm,kv,tN,tO,qC,oP,qD,jC,tP,oQ,tQ,kZ,lc,oR,lf,zi,CS,qE,oS,tR,mP,kw,oT,qF,lg,xw,tS,tT,tU,tV,xy,mQ,xz,tW,xA,qG,Gg,mR,CT,mS,jD,lh,li,iW,jE,jF,oU,tX,oV,qH,tY,qI,xB,lj,oW,tZ,mT,mU,lk,t0,oX,mV,oY,kx,jG,im,aaX,qK,qL,t8,oZ,qM,qN,mW,ln,qO,qP,t9,qQ,qR,qS,ua,qT,I4]
noncomputable def Ld:List (Option Nat):=[some 3,some 24,some 27,some 0,none]
noncomputable def zj:List (Nat×Nat×Nat):=[(0,3,4),(1,6,25),(2,4,28),(2,9,29),(2,8,30),(2,7,31),(2,10,32),(3,3,1),(3,11,2),(4,5,67)]
noncomputable def prog:zf where
 fn i:=Lc[i]?
 init c:=Ld[c]?
 π c m:=(zj.find? λp=>p.1==c&&p.2.1==m).map (·.2.2)
end Mine.Internal
namespace Mine.Internal
open PySem PySem.W PySem.Calls PyProof.Rows
structure bm where
 a:Nat->Nat
 d:Nat->Nat
noncomputable def ce (items:Array WP)(k:Nat):Obj:={cls:= .type "tuple",dict:=none,data:= .seq items k,slots:=#[]}
noncomputable def cG (items:Array WP)(k:Nat):Obj:={cls:= .type "list",dict:=none,data:= .seq items k,slots:=#[]}
noncomputable abbrev aat (h h':θ)(M:Nat->Prop):Prop:=∀a o,¬M a->h.get? a=some o->h'.get? a=some o
section
variable (w:μ)
mutual
noncomputable def dm:V->Int
 |.int i=>hashInt i
 |.str s=>hashStr w ⟨s.toArray⟩
 |.tup l=>reduceHash (Builtin.Tuple.tupleHashOf (bD l))
 |_=>0
noncomputable def bD:List V->List Int
 |[]=>[]
 |k::l=>dm k::bD l
end
mutual
noncomputable def bG:V->Nat
 |.tup l=>d9 l+1
 |_=>1
noncomputable def d9:List V->Nat
 |[]=>0
 |k::l=>bG k+d9 l
end
mutual
noncomputable def KR (h:θ):V->WP->Prop
 |.int i,v=>∃t,v=.int i t
 |.str s,v=>∃x t,v=.str x t/\x.cps.toList=s
 |.tup l,v=>∃a items k,v=.ref a/\h.get? a=some (ce items k)/\mX h l items.toList
 |_,_=>False
noncomputable def mX (h:θ):List V->List WP->Prop
 |[],vs=>vs=[]
 |k::l,vs=>∃y ys,vs=y::ys/\KR h k y/\mX h l ys
end
end
theorem lp {h:θ}{G:V->WP->Prop}{L:List V->List WP->Prop}(hi:∀i t,G (.int i) (.int i t))(hs:∀x t,G (.str x.cps.toList) (.str x t))(ht:∀l a items k,h.get? a=some (ce items k)->mX h l items.toList->L l items.toList->G (.tup l) (.ref a))(hn:L [] [])
  (hc:∀k l y ys,KR h k y->mX h l ys->G k y->L l ys->L (k::l) (y::ys)) (k:V):∀v,KR h k v->G k v:=V.rec (motive_1:=λk=>∀v,KR h k v->G k v) (motive_2:=λl=>∀vs,mX h l vs->L l vs) (λ_ q=>False.elim q) (λ_ _ q=>False.elim q) (λi v q=>MO q λt e=>ad e (hi i t)) (λs v q=>bv q λx t e1 e2=>ad e1 (aR e2 (hs x t)))
  (λl ih v q=>ik q λa items c e ho hl=>ad e (ht l a items c ho hl (ih _ hl))) (λ_ _ _ q=>False.elim q) (λ_ _ _ _ _ q=>False.elim q) (λ_ _ q=>False.elim q) (λ_ _ _ q=>False.elim q) (λvs q=>ad (show vs=[]from q) hn) (λk l VK VJ vs q=>aL q λy ys e h1 h2=>ad e (hc k l y ys h1 h2 (VK y h1) (VJ ys h2))) k
theorem CU {h:θ}{G:V->WP->Prop}{L:List V->List WP->Prop}(hG:∀k v,KR h k v->G k v)(hn:L [] [])(hc:∀k l y ys,KR h k y->mX h l ys->G k y->L l ys->L (k::l) (y::ys))(l:List V):∀vs,mX h l vs->L l vs:=by
 induction l with
 |nil=>exact λvs q=>ad (show vs=[]from q) hn
 |cons k l ih=>exact λvs q=>aL q λy ys e h1 h2=>ad e (hc k l y ys h1 h2 (hG k y h1) (ih ys h2))
theorem vF {G:Nat->V->Prop}{L:Nat->List V->Prop}(hi:∀n i,G n (.int i))(hs:∀n s,(s.all λc=>decide (c<128))=true->G n (.str s))(ht:∀n l,ck n l=true->L n l->G (n+1) (.tup l))(hn:∀n,L n [])
  (hc:∀n k l,db n k=true->ck n l=true->G n k->L n l->L n (k::l)) (k:V):∀n,db n k=true->G n k:=V.rec (motive_1:=λk=>∀n,db n k=true->G n k) (motive_2:=λl=>∀n,ck n l=true->L n l) (λ_ q=>ak q) (λ_ _ q=>ak q) (λi n _=>hi n i) (λs n q=>hs n s q)
  (λl ih n=>Nat.casesOn (motive:=λn=>db n (.tup l)=true->G n (.tup l)) n (λq=>ak q) λn q=>ht n l q (ih n q)) (λ_ _ _ q=>ak q) (λ_ _ _ _ _ q=>ak q) (λ_ _ q=>ak q) (λ_ _ _ q=>ak q) (λn _=>hn n) (λk l VK VJ n q=>hc n k l (bj q).1 (bj q).2 (VK n (bj q).1) (VJ n (bj q).2)) k
theorem Gh {h:θ}{y:V}{i:Int}{t:Tok}(q:KR h y (.int i t)):.int i=y:=by
 rcases y with _|_|_|_|_|_|_|_|_<;>first|exact False.elim q|exact MO q λ_ e=>congrArg V.int (Value.int.inj e).1|exact bv q λ_ _ e _=>nomatch e|exact ik q λ_ _ _ e _ _=>nomatch e
theorem Gi {h:θ}{y:V}{x:ζ}{t:Tok}(q:KR h y (.str x t)):.str x.cps.toList=y:=by
 rcases y with _|_|i|s|l|_|_|_|_
 ·exact False.elim q
 ·exact False.elim q
 ·exact MO q λ_ e=>nomatch e
 ·exact bv q λ_ _ e e2=>congrArg V.str ((congrArg (λx:ζ=>x.cps.toList) (Value.str.inj e).1).trans e2)
 ·exact ik q λ_ _ _ e _ _=>nomatch e
 ·exact False.elim q
 ·exact False.elim q
 ·exact False.elim q
 ·exact False.elim q
theorem Gj {h:θ}{y:V}{a:Nat}{items:Array WP}{k:Nat}(ho:h.get? a=some (ce items k))(q:KR h y (.ref a)):∃l,y=.tup l/\mX h l items.toList:=by
 rcases y with _|_|i|s|l|_|_|_|_
 ·exact False.elim q
 ·exact False.elim q
 ·exact MO q λ_ e=>nomatch e
 ·exact bv q λ_ _ e _=>nomatch e
 ·refine ik q λb OM k' e NR hl=>⟨l,rfl,?_⟩;have e2:=(ho.symm.trans ((congrArg h.get? (Value.ref.inj e)).trans NR));exact(Data.seq.inj (congrArg Obj.data (Option.some.inj e2))).1▸hl
 ·exact False.elim q
 ·exact False.elim q
 ·exact False.elim q
 ·exact False.elim q
theorem KR.inj {h:θ}{x y:V}{v:WP}(hx:KR h x v)(hy:KR h y v):x=y:=lp (G:=λx v=>∀y,KR h y v->x=y) (L:=λl vs=>∀k,mX h k vs->l=k) (λi t y q=>Gh q) (λx t y q=>Gi q) (λl a items k ho _ ih y q=>(Gj ho q).elim λl' e=>ad e.1 (congrArg V.tup (ih l' e.2)))
  (λk q=>by rcases k with _|_;rfl;exact aL q λ_ _ e _ _=>nomatch e) (λk l y ys _ _ h1 h2 k' q=>by
   rcases k' with _|⟨k2,l2⟩
   ·exact nomatch (show y::ys=[]from q)
   ·exact aL q λy2 ys2 e q1 q2=>congr (congrArg List.cons (h1 k2 ((List.cons.inj e).1▸q1))) (h2 l2 ((List.cons.inj e).2▸q2))) x v hx y hy
theorem KR.keeps {h h':θ}(hk:∀a items k,h.get? a=some (ce items k)->h'.get? a=some (ce items k)){x:V}{v:WP}(q:KR h x v):KR h' x v:=lp (G:=KR h') (L:=mX h') (λi t=>⟨t,rfl⟩) (λx t=>⟨x,t,rfl,rfl⟩) (λl a items k ho _ ih=>⟨a,items,k,rfl,hk _ _ _ ho,ih⟩) rfl (λk l y ys _ _ h1 h2=>⟨y,ys,rfl,h1,h2⟩) x v q
theorem ny {s:W1}{a:Nat}{items:Array WP}{k:Nat}(ho:s.heap.get? a=some (ce items k)):s.TypeIs (.ref a) "tuple":=⟨_,ho,rfl⟩
theorem cn {A:ψ}{n:Nat}(h:A.units+(n+1)<Λ):A.in1.units+n<Λ:=by
 show A.units+1+n<Λ;exact Ll [_,_,_] 1 (.a (.a (.a M2 On) No) On) NE [(1,.a (.a M2 (.a No On)) On,NE)] rfl h
noncomputable def lq (G:V->WP->Prop):List V->List WP->Prop
 |[],vs=>vs=[]
 |k::l,vs=>∃y ys,vs=y::ys/\G k y/\lq G l ys
theorem nz {G:V->WP->Prop}{left:List V}{x:WP}{rest:List WP}(h:lq G left (x::rest)):∃k l,left=k::l/\G k x/\lq G l rest:=by
 rcases left with _|⟨k,l⟩
 ·exact nomatch (show x::rest=[]from h)
 ·exact aL h λy ys e h1 h2=>⟨k,l,rfl,(List.cons.inj e).1▸h1,(List.cons.inj e).2▸h2⟩
theorem zk {G:V->WP->Prop}{left:List V}(h:lq G left []):left=[]:=by
 rcases left with _|⟨k,l⟩
 ·rfl
 ·exact aL h λy ys e _ _=>nomatch e
theorem j8 {w:μ}{k:V}:∀d:List V,bD w (d++[k])=bD w d++[dm w k]
 |[]=>rfl
 |c::d=>congrArg (dm w c::·) (j8 d)
theorem iX {k:V}:∀d:List V,d9 (d++[k])=d9 d+bG k
 |[]=>(Nat.add_zero _).trans (Nf _).symm
 |c::d=>(congrArg (bG c+·) (iX d)).trans (Ov ..).symm
section
variable {prog:Θ}{w:μ}{h:θ}
def nB (prog:Θ)(w:μ)(h:θ)(k:V)(v:WP):Prop:=∀{n:Nat} {A:ψ} {E:WP->W1->Prop} {s:W1} {Q:Int->W1->Prop},s.heap=h->db n k=true->A.units+n<Λ->Q (dm w k) {s with toks:=s.toks+bG k}->ZB (η prog w) A (pyHash v) Q E s
theorem zl {l:List V}{a:Nat}{items:Array WP}{k:Nat}(ho:h.get? a=some (ce items k))(ih:lq (nB prog w h) l items.toList):nB prog w h (.tup l) (.ref a):=by
 intro n A E s Q hs hk hu hq;rcases n with _|n
 ·exact ak hk
 have hk:ck n l=true:=hk;have ho:s.heap.get? a=some (ce items k):=hs▸ho;have hT:=ny ho
 first|unfold pyHashByItsType|skip
 first|refine WF (wpAny_cRoomFor_or (.inr (Ll [_,_,_] 1 (.a M2 On) No [(1,.a (.a M2 (.a NE On)) On,No)] rfl hu)) ?_)|skip
 refine WF (u1 hT F.slot_tuple_hash.lookup ?_)
 (refine ad (if_neg (by rw[beq_builtin_none];exact Nd)) ?_)
 refine WF (u1 hT F.slot_tuple_hash.lookup ?_);refine WF (wpAny_callSpecialIfBoundUnlessNone?_slot hT F.slot_tuple_hash (xG F.slot_tuple_hash hT F.entry_tuple_hash ?_ (F.args_tuple_hash_1 _)));show ZB _ _ (Builtin.Tuple.tupleItemsOf (.ref a) >>= _) _ _ s;refine WF (wpAny_tupleItemsOf ho rfl ?_);refine WF ?_;refine aR YX ?_
 refine wpAny_forIn_list _
  (λrest (b:Array Int) s'=>∃done left,l=done++left/\lq (nB prog w h) left rest/\b.toList=bD w done/\s'={s with toks:=s.toks+d9 done}/\ck n left=true)
  _ ?_ ?_ _ _ ⟨[],l,rfl,ih,rfl,rfl,hk⟩
 ·rintro x rest b s' ⟨done,left,e0,hl,hb,rfl,OA⟩;refine aL (nz hl) λk N6 e h1 h2=>?_;subst e;refine WF (h1 hs (bj OA).1 (cn hu) ?_);have q:∀b':Array Int,b'.toList=b.toList++[dm w k]->∃O1 left,l=O1++left/\lq (nB prog w h) left rest/\b'.toList=bD w O1/\({s with toks:=s.toks+d9 done+bG k}:W1)={s with toks:=s.toks+d9 O1}/\ck n left=true:=λb' e=>⟨done++[k],N6,e0.trans (List.append_cons done k N6),h2,e.trans ((congrArg (·++[dm w k]) hb).trans (j8 done).symm),congrArg (λt=>({s with toks:=t}:W1)) ((Ov ..).trans (congrArg (s.toks+·) (iX done).symm)),(bj OA).2⟩
  first
   |exact XV (q _ Xa)
   |exact WF (XV (XV (q _ Xa)))
 ·rintro b s' ⟨done,left,e0,hl,hb,rfl,-⟩;obtain rfl:=zk hl;obtain rfl:l=done:=e0.trans (Mz _);show ZB _ _ (retInt (Builtin.Tuple.tupleHashOf b.toList)) _ _ _;refine ad hb ?_;refine wpAny_ret_mkInt ?_;have hq:Q (reduceHash (Builtin.Tuple.tupleHashOf (bD w l))) {s with toks:=s.toks+d9 l+1}:=(Ov s.toks (d9 l) 1).symm▸hq
  show ZB _ _ (if(decide (-(2:Int) ^ 63<=Builtin.Tuple.tupleHashOf (bD w l))&&decide (Builtin.Tuple.tupleHashOf (bD w l)<2 ^ 63))=true then _ else _) Q E _
  unfold reduceHash at hq
  by_cases hr:(decide (-(2:Int) ^ 63<=Builtin.Tuple.tupleHashOf (bD w l))&&decide (Builtin.Tuple.tupleHashOf (bD w l)<2 ^ 63))=true
  ·refine ad (if_pos hr) ?_;rw[if_pos hr]at hq;exact XV hq
  ·refine ad (if_neg hr) ?_;rw[if_neg hr]at hq;exact WF (uf (XV hq))
theorem vG {prog:Θ}{w:μ}(n:Nat){k:V}{A:ψ}{E:WP->W1->Prop}{s:W1}{v:WP}{Q:Int->W1->Prop}(hk:db n k=true)(hu:A.units+n<Λ)(hx:KR s.heap k v)(hq:Q (dm w k) {s with toks:=s.toks+bG k}):ZB (η prog w) A (pyHash v) Q E s:=lp (G:=nB prog w s.heap) (L:=lq (nB prog w s.heap)) (λi t {n A E s Q} _ _ _ hq=>wpAny_pyHash_int hq) (λx t {n A E s Q} _ _ _ hq=>wpAny_pyHash_str hq) (λl a items c ho _ ih=>zl ho ih) rfl (λk l y ys _ _ h1 h2=>⟨y,ys,rfl,h1,h2⟩) k v hx rfl hk hu hq
end
mutual
noncomputable def pd:V->PyData
 |.none=> .none
 |.bool b=> .bool b
 |.int i=> .int i
 |.str s=> .str ⟨s.toArray⟩
 |.tup l=> .tuple (tG l)
 |.lst l=> .list (tG l)
 |_=> .none
noncomputable def tG:List V->List PyData
 |[]=>[]
 |k::l=>pd k::tG l
end
theorem KR.reads {h:θ}{k:V}{v:WP}(q:KR h k v):∃as,Reads h v (pd k) as:=lp (G:=λk v=>∃as,Reads h v (pd k) as) (L:=λl vs=>∃as,ReadsAll h vs (tG l) as) (λi t=>⟨_,.int i t⟩) (λx t=>⟨_,.str x t⟩) (λl a items k ho _ ih=>ih.elim λas r=>⟨as,.tuple ho rfl rfl r⟩) ⟨_,.nil⟩ (λk l y ys _ _ h1 h2=>h1.elim λas r1=>h2.elim λbs r2=>⟨_,.cons r1 r2⟩) k v q
theorem mX.reads {h:θ}{l:List V}{vs:List WP}(q:mX h l vs):∃as,ReadsAll h vs (tG l) as:=CU (G:=λk v=>∃as,Reads h v (pd k) as) (L:=λl vs=>∃as,ReadsAll h vs (tG l) as) (λk v q=>q.reads) ⟨_,.nil⟩ (λk l y ys _ _ h1 h2=>h1.elim λas r1=>h2.elim λbs r2=>⟨_,.cons r1 r2⟩) l vs q
theorem Gk:∀{s:List Nat},(s.all λc=>decide (c<128))=true->PyData.canLay0 (.str ⟨s.toArray⟩)=true:=by
 intro s h;show(s.toArray.all λc=>decide (c<0x110000))=true;refine ad List.all_toArray ?_;refine MV.mpr λc hc=>?_
 have:=MV.mp h c hc
 simp at this⊢
 exact Lk (by assumption) (by decide)
theorem vH (n:Nat){k:V}(h:db n k=true):(pd k).canLay0=true/\(pd k).depth<=n:=vF (G:=λn k=>(pd k).canLay0=true/\(pd k).depth<=n) (L:=λn l=>PyData.canLayAll0 (tG l)=true/\PyData.depthAll (tG l)<=n) (λn i=>⟨rfl,LP _⟩) (λn s h=>⟨Gk h,LP _⟩) (λn l _ ih=>⟨ih.1,Ou ih.2⟩) (λn=>⟨rfl,LP _⟩) (λn k l _ _ a b=>⟨dB a.1 b.1,Nat.max_le.mpr ⟨a.2,b.2⟩⟩) k n h
theorem zm {α:Type}[DecidableEq α]{x y:α}(h:x≠y):false=decide (x=y):=(decide_eq_false h).symm
theorem CV (n:Nat){x y:V}(hx:db n x=true)(hy:db n y=true):PyData.eqv (pd x) (pd y)=decide (x=y):=vF (G:=λn x=>∀y,db n y=true->PyData.eqv (pd x) (pd y)=decide (x=y)) (L:=λn l=>∀k,ck n k=true->PyData.eqvAll (tG l) (tG k)=decide (l=k))
  (λn i y hy=>by
   rcases y with _|_|j|s|l|_|_|_|_<;>first|exact ak hy|exact zm (λe=>by injection e)|exact decide_eq_decide.mpr ⟨congrArg V.int,V.int.inj⟩)
  (λn s _ y hy=>by
   rcases y with _|_|j|s'|l|_|_|_|_<;>first|exact ak hy|exact zm (λe=>by injection e)|skip
   exact decide_eq_decide.mpr ⟨λe=>congrArg V.str (congrArg (λx:ζ=>x.cps.toList) e),λe=>congrArg (λl:List Nat=>(⟨l.toArray⟩:ζ)) (V.str.inj e)⟩)
  (λn l _ ih y hy=>by
   rcases y with _|_|j|s|l'|_|_|_|_<;>first|exact ak hy|exact zm (λe=>by injection e)|exact(ih l' hy).trans (decide_eq_decide.mpr ⟨congrArg V.tup,V.tup.inj⟩))
  (λn k _=>by
   rcases k with _|⟨b,y⟩
   ·exact(decide_eq_true rfl).symm
   ·exact zm (λe=>by injection e))
  (λn a l _ _ h1 h2 k hk=>by
   rcases k with _|⟨b,y⟩
   ·exact zm (λe=>by injection e)
   ·exact(congr (congrArg and (h1 b (bj hk).1)) (h2 y (bj hk).2)).trans ((Bool.decide_and ..).symm.trans (decide_eq_decide.mpr ⟨λq=>q.1▸q.2▸rfl,List.cons.inj⟩)))
  x n hx y hy
def lr (prog:Θ)(w:μ)(h:θ)(k:V)(v:WP):Prop:=∀{n m:Nat} {A:ψ} {E:WP->W1->Prop} {s:W1} {Q:Bool->W1->Prop},s.heap=h->db n k=true->n<=m->Q true s->ZB (η prog w) A (eqIsQuiet m v) Q E s
theorem xC {prog:Θ}{w:μ}{h:θ}{l:List V}{a:Nat}{items:Array WP}{k:Nat}(ho:h.get? a=some (ce items k))(ih:lq (lr prog w h) l items.toList):lr prog w h (.tup l) (.ref a):=by
 intro n m A E s Q hs hk hm hq;rcases n with _|n
 ·exact ak hk
 rcases m with _|m
 ·exact absurd hm (W9 _)
 have hk:ck n l=true:=hk;have ho:s.heap.get? a=some (ce items k):=hs▸ho;have hT:=ny ho;unfold eqIsQuiet;refine WF (u1 hT F.slot_tuple_eq.lookup ?_);refine WF (wpAny_isInstance hT isSubtype_tuple_tuple ?_);refine WF (wpAny_seqItems ho rfl ?_);refine WF ?_;refine aR YX ?_;refine wpAny_forIn_list _ (λrest r s'=>r.1=none/\s'=s/\∃left,lq (lr prog w h) left rest/\ck n left=true) _ ?_ ?_ _ _ ⟨rfl,rfl,l,ih,hk⟩
 ·rintro v rest r s' ⟨hr,rfl,left,hl,OA⟩;refine aL (nz hl) λk N6 e h1 h2=>?_;subst e;exact WF (h1 hs (bj OA).1 (YW hm) (XV ⟨rfl,rfl,N6,h2,(bj OA).2⟩))
 ·rintro⟨r1,r2⟩ s' ⟨hr,rfl,_⟩;obtain rfl:r1=none:=hr;exact XV hq
theorem xD {prog:Θ}{w:μ}{A:ψ}{E:WP->W1->Prop}{s:W1}(n m:Nat){k:V}{v:WP}{Q:Bool->W1->Prop}(hk:db n k=true)(hm:n<=m)(hx:KR s.heap k v)(hq:Q true s):ZB (η prog w) A (eqIsQuiet m v) Q E s:=lp (G:=lr prog w s.heap) (L:=lq (lr prog w s.heap)) (λi t {n m A E s Q} _ _ _ hq=>ad (eqIsQuiet_byValue _ rfl) (XV hq)) (λx t {n m A E s Q} _ _ _ hq=>ad (eqIsQuiet_byValue _ rfl) (XV hq)) (λl a items c ho _ ih=>xC ho ih) rfl (λk l y ys _ _ h1 h2=>⟨y,ys,rfl,h1,h2⟩) k v hx rfl hk hm hq
noncomputable def lu (prog:Θ)(w:μ):HeapKind prog w V where
 is:=λh k a=>db 4 k=true/\eY k=true/\KR h k (.ref a)
 hash:=dm w
 draws:=bG
 room:=λA=>A.units+64<Λ
 inj:=λhx hy=>hx.2.2.inj hy.2.2
 keeps:=fun {h h' k a d o es ep} x ho hd hs=>⟨x.1,x.2.1,x.2.2.keeps λb items n hb=>(hs.2 b (by
  rintro rfl;replace hb:=ho▸hb;obtain rfl:=Option.some.inj hb
  contradiction)).trans hb⟩
 pyHash:=fun {A E s k a Q} hu hk h=>vG 4 hk.1 (Ll [_,_] 1 (.a (.a M2 Sc) On) No [(1,.a (.a M2 SZ) On,No)] rfl hu) hk.2.2 h
 eqBool:=fun {A E s x y a b Q} hu hx hy h=>by
  refine hx.2.2.reads.elim λas r1=>?_;refine hy.2.2.reads.elim λbs r2=>?_;have l1:=vH 4 hx.1;have l2:=vH 4 hy.1
  exact SeqAt.eqAt_reads _ _ A s _ _ _ _ r1 r2 l1.1 l2.1 (by
   have:min (pd x).depth (pd y).depth<=(pd x).depth:=Um _ _
   exact Ll [_,_,_,_] 1 (.a (.a M2 No) On) NE [(1,.a (.a M2 SZ) On,NE),(1,Op,Sc),(1,No,Op)] rfl hu l1.2 this) prog w E Q (by(refine ad (CV 4 hx.1 hy.1) ?_);exact h)
 quiet:=fun {A E s k a Q} hk h=>xD 4 8 hk.1 (MF _ _) hk.2.2 h
noncomputable def bH (es:Array Zf)(ep:Nat):Obj:={cls:= .type "dict",dict:=none,data:= .dict es ep,slots:=#[]}
def vI (σ:St)(φ:bm)(x:Nat):Prop:=∃r,r<σ.n/\σ.g r≠.dead/\(x=φ.a r\/x=φ.d r)
section
variable (w:μ)
mutual
noncomputable def VR (h:θ)(X:Nat->Prop)(φ:bm)(n:Nat):V->WP->Prop
 |.none,v=>v=.none
 |.bool b,v=>v=.bool b
 |.int i,v=>∃t,v=.int i t
 |.str s,v=>∃x t,v=.str x t/\x.cps.toList=s
 |.tup l,v=>∃a items k,v=.ref a/\¬X a/\h.get? a=some (ce items k)/\aZ h X φ n l items.toList/\items.size<=aq
 |.lst l,v=>∃a items k,v=.ref a/\¬X a/\h.get? a=some (cG items k)/\aZ h X φ n l items.toList/\items.size<=aq
 |.dct ks vs,v=>∃a es k,v=.ref a/\¬X a/\(a==Di)=false/\h.get? a=some (bH es k)/\aZ h X φ n ks (es.toList.map (·.key))/\aZ h X φ n vs (es.toList.map (·.val))/\
   es.toList.map (·.hash)=bD w ks/\ks.Nodup/\es.size<=aq
 |.ref r,v=>r<n/\v=.ref (φ.a r)
 |.rng a b,v=>d0 a=true/\d0 b=true/\∃x t u y,v=.ref x/\¬X x/\IsRange h x a b 1 t u y
noncomputable def aZ (h:θ)(X:Nat->Prop)(φ:bm)(n:Nat):List V->List WP->Prop
 |[],vs=>vs=[]
 |k::l,vs=>∃y ys,vs=y::ys/\VR h X φ n k y/\aZ h X φ n l ys
end
variable {w}
section
variable {h h':θ}{X X':Nat->Prop}{φ φ':bm}{n n':Nat}(hk:∀a o,¬X a->h.get? a=some o->h'.get? a=some o/\¬X' a)(hn:n<=n')(Oi:∀r,r<n->φ'.a r=φ.a r)
include hk hn Oi
theorem VR.mono {x:V}{v:WP}(hx:VR w h X φ n x v):VR w h' X' φ' n' x v:=V.rec (motive_1:=λx=>∀v,VR w h X φ n x v->VR w h' X' φ' n' x v) (motive_2:=λx=>∀v,aZ w h X φ n x v->aZ w h' X' φ' n' x v)
  (λ_ hx=>hx) (λ_ _ hx=>hx) (λ_ _ hx=>hx) (λ_ _ hx=>hx)
  (λl ih v hx=>jz hx λa items k e hX ho hi=>⟨a,items,k,e,(hk _ _ hX ho).2,(hk _ _ hX ho).1,ih _ hi.1,hi.2⟩)
  (λl ih v hx=>jz hx λa items k e hX ho hi=>⟨a,items,k,e,(hk _ _ hX ho).2,(hk _ _ hX ho).1,ih _ hi.1,hi.2⟩)
  (λks vs i1 i2 v hx=>xu hx λa es k e hX hs ho h1 h2=>⟨a,es,k,e,(hk _ _ hX ho).2,hs,(hk _ _ hX ho).1,i1 _ h1,i2 _ h2.1,h2.2⟩)
  (λr v hx=>⟨L1 hx.1 hn,hx.2.trans (congrArg Value.ref (Oi r hx.1).symm)⟩)
  (λa b v hx=>⟨hx.1,hx.2.1,IP hx.2.2 λx t u y e hX ho=>⟨x,t,u,y,e,(hk _ _ hX ho).2,(hk _ _ hX ho).1⟩⟩)
  (λ_ hx=>hx) (λk l i1 i2 v hx=>aL hx λy ys e h1 h2=>⟨y,ys,e,i1 y h1,i2 ys h2⟩) x v hx
theorem aZ.mono {x:List V}:∀{v:List WP},aZ w h X φ n x v->aZ w h' X' φ' n' x v:=by
 induction x with
 |nil=>exact λhx=>hx
 |cons k l ih=>exact λhx=>aL hx λy ys e h1 h2=>⟨y,ys,e,VR.mono hk hn Oi h1,ih h2⟩
end
section
variable {h:θ}{X:Nat->Prop}{φ:bm}{n:Nat}{v:WP}{G:WP->Prop}
@[elab_as_elim] theorem VR.abf {i:Int}(r:VR w h X φ n (.int i) v)(k:∀t,G (.int i t)):G v:=by obtain⟨t,rfl⟩:=r;exact k t
@[elab_as_elim] theorem VR.abS {s:List Nat}(r:VR w h X φ n (.str s) v)(k:∀x t,x.cps.toList=s->G (.str x t)):G v:=by obtain⟨x,t,rfl,e⟩:=r;exact k x t e
@[elab_as_elim] theorem VR.abn {r:Nat}(q:VR w h X φ n (.ref r) v)(k:r<n->G (.ref (φ.a r))):G v:=by obtain⟨e,rfl⟩:=q;exact k e
@[elab_as_elim] theorem VR.abB {l:List V}(r:VR w h X φ n (.tup l) v)(k:∀a items c,¬X a->h.get? a=some (ce items c)->aZ w h X φ n l items.toList->items.size<=aq->G (.ref a)):G v:=by
 obtain⟨a,items,c,rfl,h1,h2,h3,h4⟩:=r;exact k a items c h1 h2 h3 h4
@[elab_as_elim] theorem VR.abv {l:List V}(r:VR w h X φ n (.lst l) v)(k:∀a items c,¬X a->h.get? a=some (cG items c)->aZ w h X φ n l items.toList->items.size<=aq->G (.ref a)):G v:=by
 obtain⟨a,items,c,rfl,h1,h2,h3,h4⟩:=r;exact k a items c h1 h2 h3 h4
end
theorem aZ.length {h:θ}{X:Nat->Prop}{φ:bm}{n:Nat}{x:List V}:∀{v:List WP},aZ w h X φ n x v->v.length=x.length:=by
 induction x with
 |nil=>exact λhx=>congrArg Nr (show _=[]from hx)
 |cons k l ih=>exact λhx=>aL hx λy ys e h1 h2=>(congrArg Nr e).trans (congrArg (·+1) (ih h2))
theorem aZ.get {h:θ}{X:Nat->Prop}{φ:bm}{n:Nat}{x:List V}:∀{v:List WP} {i:Nat} {y:V},aZ w h X φ n x v->x[i]?=some y->∃z,v[i]?=some z/\VR w h X φ n y z:=by
 induction x with
 |nil=>exact λ_ hy=>au hy
 |cons k l ih=>
  intro v i y hx hy;refine aL hx λz zs e h1 h2=>ad e ?_;rcases i with _|i
  ·exact⟨z,rfl,Option.some.inj hy▸h1⟩
  ·exact ih (v:=zs) (i:=i) h2 hy
theorem aZ.append {h:θ}{X:Nat->Prop}{φ:bm}{n:Nat}{x y:List V}{v u:List WP}(hx:aZ w h X φ n x v)(hy:aZ w h X φ n y u):aZ w h X φ n (x++y) (v++u):=by
 induction x generalizing v with
 |nil=>exact ad (show v=[]from hx) hy
 |cons k l ih=>exact aL hx λz zs e h1 h2=>⟨z,zs++u,congrArg (·++u) e,h1,ih h2⟩
theorem aZ.take {h:θ}{X:Nat->Prop}{φ:bm}{n:Nat}{x:List V}:∀{v:List WP} (i:Nat),aZ w h X φ n x v->aZ w h X φ n (x.take i) (v.take i):=by
 induction x with
 |nil=>exact λi hx=>ad (show _=[]from hx) (by rcases i with _|_<;>rfl)
 |cons k l ih=>
  intro v i hx;rcases i with _|i
  ·rfl
  ·exact aL hx λz zs e h1 h2=>⟨z,zs.take i,congrArg (W8 (i+1)) e,h1,ih i h2⟩
theorem aZ.drop {h:θ}{X:Nat->Prop}{φ:bm}{n:Nat}{x:List V}:∀{v:List WP} (i:Nat),aZ w h X φ n x v->aZ w h X φ n (x.drop i) (v.drop i):=by
 induction x with
 |nil=>exact λi hx=>ad (show _=[]from hx) (by rcases i with _|_<;>rfl)
 |cons k l ih=>
  intro v i hx;rcases i with _|i
  ·exact hx
  ·exact aL hx λz zs e h1 h2=>(congrArg (λv=>aZ w h X φ n (l.drop i) (List.drop (i+1) v)) e).mpr (ih i h2)
theorem aZ.set {h:θ}{X:Nat->Prop}{φ:bm}{n:Nat}{x:List V}{v:List WP}(i:Nat){y:V}{z:WP}(hx:aZ w h X φ n x v)(hy:VR w h X φ n y z):aZ w h X φ n (x.set i y) (v.set i z):=by
 induction x generalizing v i with
 |nil=>exact ad (show v=[]from hx) rfl
 |cons k l ih=>
  rcases i with _|i
  ·exact aL hx λa as e h1 h2=>⟨z,as,congrArg (List.set · 0 z) e,hy,h2⟩
  ·exact aL hx λa as e h1 h2=>⟨a,as.set i z,congrArg (List.set · (i+1) z) e,h1,ih i h2⟩
theorem VR.key {h:θ}{X:Nat->Prop}{φ:bm}{m:Nat}(n:Nat){x:V}{v:WP}(hk:db n x=true)(hx:VR w h X φ m x v):KR h x v:=V.rec (motive_1:=λx=>∀n v,db n x=true->VR w h X φ m x v->KR h x v) (motive_2:=λx=>∀n v,ck n x=true->aZ w h X φ m x v->mX h x v)
  (λ_ _ h _=>ak h) (λ_ _ _ h _=>ak h) (λ_ _ _ _ hx=>hx) (λ_ _ _ _ hx=>hx)
  (λl ih n v hk hx=>by
   rcases n with _|n
   ·exact ak hk
   ·exact jz hx λa items k e hX ho hi=>⟨a,items,k,e,ho,ih n _ hk hi.1⟩)
  (λ_ _ _ _ h _=>ak h) (λ_ _ _ _ _ _ h _=>ak h) (λ_ _ _ h _=>ak h) (λ_ _ _ _ h _=>ak h)
  (λ_ _ _ hx=>hx) (λk l i1 i2 n v hk hx=>aL hx λy ys e h1 h2=>⟨y,ys,e,i1 n y (bj hk).1 h1,i2 n ys (bj hk).2 h2⟩) x n v hk hx
theorem aZ.key {h:θ}{X:Nat->Prop}{φ:bm}{m:Nat}(n:Nat){x:List V}:∀{v:List WP},ck n x=true->aZ w h X φ m x v->mX h x v:=by
 induction x with
 |nil=>exact λ_ hx=>hx
 |cons k l ih=>exact λhk hx=>aL hx λy ys e h1 h2=>⟨y,ys,e,VR.key n (bj hk).1 h1,ih (bj hk).2 h2⟩
end
structure qz where
 cls:Nat->Nat
 abg:Nat->ζ
 okc:Nat->Bool
 nf:Nat
section
variable (w:μ)(T:qz)
def ub (h:θ)(X:Nat->Prop)(φ:bm)(n:Nat)(fs:List (Nat×V))(m:ζ->Option WP):Prop:=(∀f v,cC fs f=some v->∃vc,m (T.abg f)=some vc/\VR w h X φ n v vc)/\(∀x,(m x).isSome=true->∃f,(cC fs f).isSome=true/\x=T.abg f)/\∀f,(cC fs f).isSome=true->f<T.nf
def CF (h:θ)(a:Nat)(m:ζ->Option WP)(k:Nat):Prop:=∃o es ep,h.get? a=some o/\o.data=.dict es ep/\StrKeys es/\(∀name,nsFind es name=m name)/\es.size<=k
theorem CF.ns {h:θ}{a:Nat}{m:ζ->Option WP}{k:Nat}(x:CF h a m k):h.Ns a m:=F7 x λo es ep a b c d _=>⟨o,es,ep,a,b,c,d⟩
noncomputable def OR (h:θ)(X:Nat->Prop)(φ:bm)(n:Nat)(r:Nat):AO->Prop
 |.list l=>φ.d r=φ.a r/\∃items k,h.get? (φ.a r)=some (cG items k)/\aZ w h X φ n l items.toList/\items.size<=aq
 |.dict l=>φ.d r=φ.a r/\∃es k,h.get? (φ.a r)=some (bH es k)/\aZ w h X φ n (l.map (·.1)) (es.toList.map (·.key))/\aZ w h X φ n (l.map (·.2)) (es.toList.map (·.val))/\
   es.toList.map (·.hash)=bD w (l.map (·.1))/\(l.map (·.1)).Nodup/\es.size<=aq/\∀x∈l.map (·.1),a8 x=true
 |.inst c fs=>T.okc c=true/\φ.d r≠φ.a r/\h.get? (φ.a r)=some (Ds (T.cls c) (φ.d r))/\∃m,CF h (φ.d r) m fs.length/\ub w T h X φ n fs m
 |.dead=>True
theorem OR.mono {w:μ}{T:qz}{h h':θ}{X X':Nat->Prop}{φ φ':bm}{n n' r:Nat}{o:AO}(hk:∀a o,¬X a->h.get? a=some o->h'.get? a=some o/\¬X' a)(hn:n<=n')(Oi:∀r,r<n->φ'.a r=φ.a r)
  (ha:φ'.a r=φ.a r) (hd:φ'.d r=φ.d r) (h1:∀o,h.get? (φ.a r)=some o->h'.get? (φ.a r)=some o) (h2:∀o,h.get? (φ.d r)=some o->h'.get? (φ.d r)=some o) (x:OR w T h X φ n r o):OR w T h' X' φ' n' r o:=by
 induction o with
 |list l=>
  obtain⟨e,items,k,ho,hi⟩:=x
  exact⟨by(refine ad ha ?_;refine ad hd ?_;refine ad e ?_;rfl),items,k,by(refine ad ha ?_);exact h1 _ ho,hi.1.mono hk hn Oi,hi.2⟩
 |dict l=>
  obtain⟨e,es,k,ho,hi,hv,r⟩:=x
  exact⟨by(refine ad ha ?_;refine ad hd ?_;refine ad e ?_;rfl),es,k,by(refine ad ha ?_);exact h1 _ ho,hi.mono hk hn Oi,hv.mono hk hn Oi,r⟩
 |inst c fs=>
  obtain⟨oc,e,ho,m,hm,f1,f2⟩:=x
  refine⟨oc,by(refine ad ha ?_;refine ad hd ?_);exact e,by(refine ad ha ?_;refine ad hd ?_);exact h1 _ ho,m,by(refine ad hd ?_);obtain⟨o,es,ep,q,r⟩:=hm;exact⟨o,es,ep,h2 _ q,r⟩,λf v e=>?_,f2⟩
  refine ag (f1 f v e) λvc a b=>?_;exact⟨vc,a,b.mono hk hn Oi⟩
 |dead=>trivial
noncomputable abbrev XF (σ:St)(φ:bm)(P:Nat->Prop)(a:Nat):Prop:=vI σ φ a\/P a
structure SR (i':θ)(P:Nat->Prop)(φ:bm)(σ:St)(h:θ):Prop where
 obj:∀r,r<σ.n->OR w T h (XF σ φ P) φ σ.n r (σ.g r)
 above:∀r,r<σ.n->i'.get? (φ.a r)=none/\i'.get? (φ.d r)=none/\3<φ.a r
 lt:∀r,r<σ.n->(h.get? (φ.a r)).isSome=true/\(h.get? (φ.d r)).isSome=true
 inj:∀r r',r<σ.n->r'<σ.n->r≠r'->φ.a r≠φ.a r'/\φ.a r≠φ.d r'/\φ.d r≠φ.a r'/\φ.d r≠φ.d r'
 aaZ:∀r,r<σ.n->¬P (φ.a r)/\¬P (φ.d r)
 Ψ:∀a,P a->i'.get? a=none/\(h.get? a).isSome=true
 low:(i'.get? 3).isSome=true
 old:∀b o,i'.get? b=some o->h.get? b=some o
structure fi (W:Nat->Prop)(σ:St)(φ:bm)(h:θ)(σ':St)(φ':bm)(h':θ):Prop where
 abh:σ.n<=σ'.n
 agree:∀r,r<σ.n->φ'.a r=φ.a r/\φ'.d r=φ.d r
 keep:∀a o,¬vI σ φ a->¬W a->h.get? a=some o->h'.get? a=some o
 abq:∀a,vI σ' φ' a->vI σ φ a\/h.get? a=none
 wk:∀a,W a->(h.get? a).isSome=true->(h'.get? a).isSome=true
theorem aB {α:Type}{o:Option α}(h:o=none)(h':o.isSome=true):False:=by replace h':=h▸h';exact ak h'
theorem ba {α:Type}{o:Option α}{x:α}(h:o=some x):o.isSome=true:=by(refine ad h ?_);rfl
theorem fi.refl (W:Nat->Prop)(σ:St)(φ:bm)(h:θ):fi W σ φ h σ φ h:=⟨Lv _,λ_ _=>⟨rfl,rfl⟩,λ_ _ _ _ e=>e,λ_ x=> .inl x,λ_ _ e=>e⟩
theorem fi.trans {W:Nat->Prop}{σ σ' Ls:St}{φ φ' MD:bm}{h h' SG:θ}(x:fi W σ φ h σ' φ' h')(y:fi W σ' φ' h' Ls MD SG):fi W σ φ h Ls MD SG where
 abh:=Lk x.abh y.abh
 agree:=λr hr=>by
  have a:=x.agree r hr;have b:=y.agree r (L1 hr x.abh);exact⟨b.1.trans a.1,b.2.trans a.2⟩
 keep:=λa o hm hW e=>y.keep a o (λq=>(x.abq a q).elim hm λq=>by replace e:=q▸e;exact au e) hW (x.keep a o hm hW e)
 abq:=λa q=>(y.abq a q).elim (x.abq a) λq=>by
  rcases e:h.get? a with _|o
  ·exact .inr rfl
  ·by_cases hm:vI σ φ a
   ·exact .inl hm
   ·by_cases hW:W a
    ·exact(aB q (x.wk a hW (ba e))).elim
    ·have:=x.keep a o hm hW e
     replace this:=q▸this;exact au this
 wk:=λa hW e=>y.wk a hW (x.wk a hW e)
theorem fi.weaken {W W':Nat->Prop}{σ σ':St}{φ φ':bm}{h h':θ}(x:fi W σ φ h σ' φ' h')(hW:∀a,W a->W' a)(hw:∀a,W' a->¬W a->(h.get? a).isSome=true->(h'.get? a).isSome=true):fi W' σ φ h σ' φ' h':=⟨x.abh,x.agree,λa o hm hw e=>x.keep a o hm (λq=>hw (hW a q)) e,x.abq,λa q e=>(PC (W a)).elim (λz=>x.wk a z e) λz=>hw a q z e⟩
theorem fi.kept {W P:Nat->Prop}{σ σ':St}{φ φ':bm}{h h':θ}(x:fi W σ φ h σ' φ' h')(hW:∀a,W a->P a):∀a o,¬XF σ φ P a->h.get? a=some o->h'.get? a=some o/\¬XF σ' φ' P a:=λa o hX e=>⟨x.keep a o (λq=>hX (.inl q)) (λq=>hX (.inr (hW a q))) e,λq=>q.elim (λq=>(x.abq a q).elim (λq=>hX (.inl q)) λq=>by replace e:=q▸e;exact au e) λq=>hX (.inr q)⟩
theorem VR.ext {w:μ}{W P:Nat->Prop}{σ σ':St}{φ φ':bm}{h h':θ}{x:V}{v:WP}(r:VR w h (XF σ φ P) φ σ.n x v)(e:fi W σ φ h σ' φ' h')(hW:∀a,W a->P a):VR w h' (XF σ' φ' P) φ' σ'.n x v:=r.mono (e.kept hW) e.abh λr hr=>(e.agree r hr).1
theorem aZ.ext {w:μ}{W P:Nat->Prop}{σ σ':St}{φ φ':bm}{h h':θ}{x:List V}{v:List WP}(r:aZ w h (XF σ φ P) φ σ.n x v)(e:fi W σ φ h σ' φ' h')(hW:∀a,W a->P a):aZ w h' (XF σ' φ' P) φ' σ'.n x v:=r.mono (e.kept hW) e.abh λr hr=>(e.agree r hr).1
end
section
variable {w:μ}{T:qz}{i':θ}{P:Nat->Prop}{φ:bm}{σ:St}{h h':θ}
theorem aP {a:Nat}(hk:∀o,h.get? a=some o->h'.get? a=some o)(e:(h.get? a).isSome=true):(h'.get? a).isSome=true:=by
 refine(OZ.mp e).elim λo ho=>?_
 (refine ad (hk o ho) ?_);rfl
theorem SR.keep {W:Nat->Prop}(S:SR w T i' P φ σ h)(hW:∀a,W a->P a)(hk:∀a o,¬W a->h.get? a=some o->h'.get? a=some o)(hw:∀a,W a->(h.get? a).isSome=true->(h'.get? a).isSome=true):SR w T i' P φ σ h' where
 obj:=λr hr=>by
  have np:=S.aaZ r hr;exact(S.obj r hr).mono (λa o hX e=>⟨hk a o (λq=>hX (.inr (hW a q))) e,hX⟩) (Lv _) (λ_ _=>rfl) rfl rfl (λo e=>hk _ o (λq=>np.1 (hW _ q)) e) λo e=>hk _ o (λq=>np.2 (hW _ q)) e
 above:=S.above
 lt:=λr hr=>⟨aP (λo e=>hk _ o (λq=>(S.aaZ r hr).1 (hW _ q)) e) (S.lt r hr).1,aP (λo e=>hk _ o (λq=>(S.aaZ r hr).2 (hW _ q)) e) (S.lt r hr).2⟩
 inj:=S.inj
 aaZ:=S.aaZ
 Ψ:=λa pa=>⟨(S.Ψ a pa).1,(PC (W a)).elim (λz=>hw a z (S.Ψ a pa).2) λz=>aP (λo e=>hk a o z e) (S.Ψ a pa).2⟩
 low:=S.low
 old:=λb o e=>hk b o (λq=>by replace e:=((S.Ψ b (hW b q)).1)▸e;exact au e) (S.old b o e)
theorem SR.grow (S:SR w T i' P φ σ h)(hk:∀a o,h.get? a=some o->h'.get? a=some o):SR w T i' P φ σ h':=S.keep (W:=λ_=>False) (λ_ q=>q.elim) (λa o _ e=>hk a o e) λ_ q=>q.elim
theorem fi.grow {W:Nat->Prop}(hk:∀a o,¬W a->h.get? a=some o->h'.get? a=some o)(hw:∀a,W a->(h.get? a).isSome=true->(h'.get? a).isSome=true):fi W σ φ h σ φ h':=⟨Lv _,λ_ _=>⟨rfl,rfl⟩,λa o _ hw e=>hk a o hw e,λ_ x=> .inl x,hw⟩
theorem St.abH {r r':Nat}{o:AO}:(σ.set r o).g r'=if r'=r then o else σ.g r':=rfl
set_option tactic.hygienic true in
theorem iY {r:Nat}{o:AO}{a:Nat}(q:vI (σ.set r o) φ a)(hr:σ.g r≠.dead):vI σ φ a:=by
 refine a6 q λr' h1 h2 h3=>?_;refine⟨r',h1,?_,h3⟩;rw[St.abH]at h2
 split at h2
 ·rename_i e;(refine ad e ?_);exact hr
 ·exact h2
theorem SR.upd {r:Nat}{o:AO}{a:Nat}(S:SR w T i' P φ σ h)(hr:r<σ.n)(L3:σ.g r≠.dead)(ha:a=φ.a r\/a=φ.d r)(hs:Heap.SameBut a h h')(L5:(h'.get? a).isSome=true)
  (ho:OR w T h' (XF (σ.set r o) φ P) φ σ.n r o):SR w T i' P φ (σ.set r o) h'/\fi (λ_=>False) σ φ h (σ.set r o) φ h':=by
 have hma:vI σ φ a:=⟨r,hr,L3,ha⟩;have kp:∀b ob,¬vI σ φ b->h.get? b=some ob->h'.get? b=some ob:=λb ob q e=>hs.extBut b ob (λz=>q (z▸hma)) e
 have np:¬P a:=by rcases ha with rfl|rfl;exact(S.aaZ r hr).1;exact(S.aaZ r hr).2
 have sm:∀b,(h.get? b).isSome=true->(h'.get? b).isSome=true:=λb e=>by
  by_cases z:b=a
  ·(refine ad z ?_);exact L5
  ·exact aP (λo q=>hs.extBut b o z q) e
 refine⟨⟨λr' L6=>?_,S.above,λr' L6=>⟨sm _ (S.lt r' L6).1,sm _ (S.lt r' L6).2⟩,S.inj,S.aaZ,λb pb=>⟨(S.Ψ b pb).1,sm _ (S.Ψ b pb).2⟩,S.low,λb ob e=>?_⟩,
  ⟨Lv _,λ_ _=>⟨rfl,rfl⟩,λb ob q _ e=>kp b ob q e,λb q=> .inl (iY q L3),λ_ z=>z.elim⟩⟩
 ·by_cases e:r'=r
  ·refine ad e ?_
   (refine ad St.abH ?_;refine ad (if_pos rfl) ?_);exact ho
  ·(refine ad St.abH ?_;refine ad (if_neg e) ?_)
   have J:=S.inj r' r L6 hr e
   have n1:φ.a r'≠a:=by rcases ha with rfl|rfl;exact J.1;exact J.2.1
   have n2:φ.d r'≠a:=by rcases ha with rfl|rfl;exact J.2.2.1;exact J.2.2.2
   refine(S.obj r' L6).mono (λb ob hX e=>⟨kp b ob (λq=>hX (.inl q)) e,λq=>q.elim (λq=>hX (.inl (iY q L3))) λq=>hX (.inr q)⟩) (Lv _) (λ_ _=>rfl) rfl rfl
    (λob e=>hs.extBut _ ob n1 e) λob e=>hs.extBut _ ob n2 e
 ·refine hs.extBut b ob (λz=>?_) (S.old b ob e);have ab:=S.above r hr;rw[z]at e;rcases ha with rfl|rfl
  ·replace e:=ab.1▸e;exact au e
  ·replace e:=ab.2.1▸e;exact au e
noncomputable def bm.put (φ:bm)(r:Nat)(a d:Nat):bm:=⟨λx=>if x=r then a else φ.a x,λx=>if x=r then d else φ.d x⟩
theorem cf {r x:Nat}{a d:Nat}(h:x≠r):(φ.put r a d).a x=φ.a x:=by simp[bm.put,h]
theorem cH {r x:Nat}{a d:Nat}(h:x≠r):(φ.put r a d).d x=φ.d x:=by simp[bm.put,h]
theorem d7 {r:Nat}{a d:Nat}:(φ.put r a d).a r=a:=by simp[bm.put]
theorem fR {r:Nat}{a d:Nat}:(φ.put r a d).d r=d:=by simp[bm.put]
theorem St.abK {r:Nat}{o:AO}:(σ.new o).g r=if r=σ.n then o else σ.g r:=rfl
theorem SR.new {o:AO}{a d:Nat}(S:SR w T i' P φ σ h)(hk:∀b ob,h.get? b=some ob->h'.get? b=some ob)(ha:h.get? a=none/\(h'.get? a).isSome=true)(hd:h.get? d=none/\(h'.get? d).isSome=true)(h3:3<a)
  (ho:OR w T h' (XF (σ.new o) (φ.put σ.n a d) P) (φ.put σ.n a d) (σ.n+1) σ.n o):SR w T i' P (φ.put σ.n a d) (σ.new o) h'/\fi (λ_=>False) σ φ h (σ.new o) (φ.put σ.n a d) h':=by
 have mu:∀b,vI (σ.new o) (φ.put σ.n a d) b->vI σ φ b\/h.get? b=none:=by
  rintro b ⟨r,h1,h2,h3⟩
  by_cases e:r=σ.n
  ·subst e;rw[d7,fR]at h3;rcases h3 with rfl|rfl
   ·exact .inr ha.1
   ·exact .inr hd.1
  ·rw[cf e,cH e]at h3;rw[St.abK,if_neg e]at h2;have TN:r<σ.n+1:=h1
   exact .inl ⟨r,by lia,h2,h3⟩
 have ne:∀r,r<σ.n->r≠σ.n:=λr hr e=>(W9 0 (Ll [_,_] 1 On Pv [(1,.a M2 On,No),(1,No,M2)] rfl hr (iU e)))
 have l1:∀x,x<σ.n+1->x≠σ.n->x<σ.n:=λx hx e=>by lia
 have na:∀b,(h.get? b).isSome=true->b≠a/\b≠d:=λb e=>⟨λz=>by subst z;exact aB ha.1 e,λz=>by subst z;exact aB hd.1 e⟩
 have n1:i'.get? a=none:=by
  rcases e:i'.get? a with _|ob
  ·rfl
  ·have:=S.old _ _ e;replace this:=ha.1▸this;exact au this
 have n2:i'.get? d=none:=by
  rcases e:i'.get? d with _|ob
  ·rfl
  ·have:=S.old _ _ e;replace this:=hd.1▸this;exact au this
 refine⟨⟨λr hr=>?_,λr hr=>?_,λr hr=>?_,λr r' hr L6 q=>?_,λr hr=>?_,λb pb=>⟨(S.Ψ b pb).1,aP (λo e=>hk _ o e) (S.Ψ b pb).2⟩,S.low,λb ob e=>hk b ob (S.old b ob e)⟩,
  ⟨Mf _,λr hr=>⟨cf (ne r hr),cH (ne r hr)⟩,λb ob _ _ e=>hk b ob e,mu,λ_ z=>z.elim⟩⟩
 ·by_cases e:r=σ.n
  ·subst e
   (refine ad St.abK ?_;refine ad (if_pos rfl) ?_);exact ho
  ·have L6:r<σ.n:=l1 r hr e
   (refine ad St.abK ?_;refine ad (if_neg e) ?_)
   exact(S.obj r L6).mono (λb ob hX e=>⟨hk b ob e,λq=>q.elim (λq=>(mu b q).elim (λq=>hX (.inl q)) λq=>by replace e:=q▸e;exact au e) λq=>hX (.inr q)⟩)
    (Mf _) (λr hr=>cf (ne r hr)) (cf e) (cH e) (λob e=>hk _ ob e) λob e=>hk _ ob e
 ·by_cases e:r=σ.n
  ·refine ad e ?_
   (refine ad d7 ?_;refine ad fR ?_)
   exact⟨n1,n2,h3⟩
  ·(refine ad (cf e) ?_;refine ad (cH e) ?_)
   exact S.above r (l1 r hr e)
 ·by_cases e:r=σ.n
  ·refine ad e ?_
   (refine ad d7 ?_;refine ad fR ?_);exact⟨ha.2,hd.2⟩
  ·(refine ad (cf e) ?_;refine ad (cH e) ?_)
   have:=S.lt r (l1 r hr e)
   exact⟨aP (λo e=>hk _ o e) this.1,aP (λo e=>hk _ o e) this.2⟩
 ·by_cases e:r=σ.n
  ·by_cases e':r'=σ.n
   ·exact absurd (e.trans e'.symm) q
   ·have z:=S.lt r' (l1 r' L6 e');subst e
    (refine ad d7 ?_;refine ad fR ?_;refine ad (cf e') ?_;refine ad (cH e') ?_)
    have z1:=na _ z.1;have z2:=na _ z.2;exact⟨λq=>z1.1 q.symm,λq=>z2.1 q.symm,λq=>z1.2 q.symm,λq=>z2.2 q.symm⟩
  ·by_cases e':r'=σ.n
   ·have z:=S.lt r (l1 r hr e);subst e'
    (refine ad d7 ?_;refine ad fR ?_;refine ad (cf e) ?_;refine ad (cH e) ?_)
    have z1:=na _ z.1;have z2:=na _ z.2;exact⟨z1.1,z1.2,z2.1,z2.2⟩
   ·(refine ad (cf e) ?_;refine ad (cH e) ?_;refine ad (cf e') ?_;refine ad (cH e') ?_)
    exact S.inj r r' (l1 r hr e) (l1 r' L6 e') q
 ·by_cases e:r=σ.n
  ·refine ad e ?_
   (refine ad d7 ?_;refine ad fR ?_)
   exact⟨λpa=>aB ha.1 (S.Ψ _ pa).2,λpa=>aB hd.1 (S.Ψ _ pa).2⟩
  ·(refine ad (cf e) ?_;refine ad (cH e) ?_)
   exact S.aaZ r (l1 r hr e)
end
end Mine.Internal
namespace Mine.Internal
open PySem PySem.W PySem.Calls PyProof.Rows
open PySem.MeetsSeq PySem.SeqRoads2
def aF (s s':W1):Prop:=s'.gens=s.gens/\s'.os=s.os/\s'.drawn=s.drawn/\∀b o,s.heap.get? b=some o->s'.heap.get? b=some o
theorem aF.refl (s:W1):aF s s:=⟨rfl,rfl,rfl,λ_ _ e=>e⟩
theorem aF.trans {s s' MQ:W1}(x:aF s s')(y:aF s' MQ):aF s MQ:=⟨y.1.trans x.1,y.2.1.trans x.2.1,y.2.2.1.trans x.2.2.1,λb o e=>y.2.2.2 b o (x.2.2.2 b o e)⟩
theorem aF.toks (s:W1)(t:Nat):aF s {s with toks:=t}:=⟨rfl,rfl,rfl,λ_ _ e=>e⟩
theorem aF.push (s:W1)(o:Obj):aF s {s with heap:=s.heap.push o}:=⟨rfl,rfl,rfl,λ_ _ e=>Heap.get?_push_of_some _ e⟩
theorem aW (h:θ):h.get? h.objs.size=none:=Heap.get?_none_of_le (Lv _)
section
variable {w:μ}{T:qz}{i':θ}{P:Nat->Prop}{φ:bm}{σ:St}{s s':W1}{h:θ}
theorem SR.fresh (S:SR w T i' P φ σ h){a:Nat}(ha:h.get? a=none):¬XF σ φ P a:=by
 rintro(⟨r,hr,_,rfl|rfl⟩|q)
 ·exact aB ha (S.lt r hr).1
 ·exact aB ha (S.lt r hr).2
 ·exact aB ha (S.Ψ a q).2
theorem VR.up {X:Nat->Prop}{n:Nat}{x:V}{v:WP}(r:VR w s.heap X φ n x v)(g:aF s s'):VR w s'.heap X φ n x v:=r.mono (λa o hX e=>⟨g.2.2.2 a o e,hX⟩) (Lv _) λ_ _=>rfl
theorem aZ.up {X:Nat->Prop}{n:Nat}{x:List V}{v:List WP}(r:aZ w s.heap X φ n x v)(g:aF s s'):aZ w s'.heap X φ n x v:=r.mono (λa o hX e=>⟨g.2.2.2 a o e,hX⟩) (Lv _) λ_ _=>rfl
theorem SR.up (S:SR w T i' P φ σ s.heap)(g:aF s s'):SR w T i' P φ σ s'.heap:=S.grow g.2.2.2
end
section
variable {prog:Θ}{w:μ}{A:ψ}{E:WP->W1->Prop}{T:qz}{i':θ}{P:Nat->Prop}{φ:bm}{σ:St}{s:W1}
theorem ud {a:Nat}{items:Array WP}{k:Nat}(e:s.heap.get? a=some (cG items k)):IsL s.heap a items k:=e
theorem bA {h:θ}{a:Nat}{items:Array WP}{k:Nat}(e:h.get? a=some (cG items k)):h.IsList a items:=⟨_,e,rfl,k,rfl⟩
theorem gv {h:θ}{a:Nat}{items:Array WP}{k:Nat}(e:h.get? a=some (ce items k)):IsTup h a items:=⟨_,e,rfl,k,rfl⟩
theorem CW {vs:List WP}{l:List V}{Q:WP->W1->Prop}(S:SR w T i' P φ σ s.heap)(hl:aZ w s.heap (XF σ φ P) φ σ.n l vs)
  (h:∀vc s',aF s s'->VR w s'.heap (XF σ φ P) φ σ.n (.lst l) vc->Q vc s') (Ω:vs.length<=aq):ZB (η prog w) A (newList vs) Q E s:=by
 refine AK (h _ _ (aF.push s _) ?_) (by show vs.toArray.size<=DK;rw[QP,PySem.sizeLine_eq];unfold aq at Ω;lia)
 exact⟨_,vs.toArray,0,rfl,S.fresh (aW _),Heap.get?_push_size _ rfl,by simpa using hl.up (aF.push s _),by simpa using Ω⟩
theorem CX {vs:List WP}{l:List V}{Q:WP->W1->Prop}(S:SR w T i' P φ σ s.heap)(hl:aZ w s.heap (XF σ φ P) φ σ.n l vs)
  (h:∀vc s',aF s s'->VR w s'.heap (XF σ φ P) φ σ.n (.tup l) vc->Q vc s') (Ω:vs.length<=aq):ZB (η prog w) A (newTuple vs) Q E s:=by
 refine AK (h _ _ (aF.push s _) ?_) (by show vs.toArray.size<=DK;rw[QP,PySem.sizeLine_eq];unfold aq at Ω;lia)
 exact⟨_,vs.toArray,0,rfl,S.fresh (aW _),Heap.get?_push_size _ rfl,by simpa using hl.up (aF.push s _),by simpa using Ω⟩
theorem nD {a b:Int}(ha:0<=a)(hb:0<=b):Builtin.bitOr a b=((a.toNat ||| b.toNat:Nat):Int):=by
 have h1:decide (0<=Builtin.bitNot a)=false:=by simp[Builtin.bitNot];lia
 have h2:decide (0<=Builtin.bitNot b)=false:=by simp[Builtin.bitNot];lia
 have e1:(Builtin.bitNot (Builtin.bitNot a)).toNat=a.toNat:=by simp[Builtin.bitNot];lia
 have e2:(Builtin.bitNot (Builtin.bitNot b)).toNat=b.toNat:=by simp[Builtin.bitNot];lia
 unfold Builtin.bitOr Builtin.bitAnd;rw[h1,h2];dsimp only;rw[e1,e2]
 simp[Builtin.bitNot]
 lia
noncomputable def qU:qy->Operator
 |.add=> .Add|.sub=> .Sub|.mul=> .Mult|.mod=> .Mod|.bor=> .BitOr
theorem I5 {a b:Int}(h0:0<=b)(h1:b<100):IntMulOk a b:=by
 refine IntMulOk.of_right ?_;refine(YV h0).elim λn e1=>?_;subst e1
 have:n<100:=by lia
 clear h0 h1;unfold Builtin.Int.intBits
 revert n
 decide
theorem aaU {j:Int}(h:j<=1000/\-1000<=j):¬(!Builtin.List.listFitsIndex j)=true:=by simp[Builtin.List.listFitsIndex];lia
theorem qV (items:Array WP):∀n:Nat,(W7 (λx1 x2=>x1++x2) #[] (Mu n items)).toList=(Mu n items.toList).flatten:=by
 have key:∀(n:Nat) (acc:Array WP),(W7 (λx1 x2=>x1++x2) acc (Mu n items)).toList=acc.toList++(Mu n items.toList).flatten:=by
  intro n
  induction n with
  |zero=>intro acc;simp
  |succ n ih=>intro acc;rw[QO,QN,ih,QO,RC];simp
 intro n;rw[key];simp
theorem aZ.rep {X:Nat->Prop}{n:Nat}{h:θ}{l:List V}{vs:List WP}(hl:aZ w h X φ n l vs)(k:Nat):aZ w h X φ n (Mu k l).flatten (Mu k vs).flatten:=by
 induction k with
 |zero=>exact rfl
 |succ k ih=>rw[QO,QO,RC,RC];exact hl.append ih
theorem gV {M:XI}{A:ψ}{E:WP->W1->Prop}{s:W1}{α:Type}{c:Prop}[Decidable c]{a b:Sem α}{Q:α->W1->Prop}(h:¬c)(e:ZB M A b Q E s):ZB M A (if c then a else b) Q E s:=(if_neg h).symm▸e
def qW (w:μ)(P:Nat->Prop)(φ:bm)(σ:St)(s:W1)(z:V)(Q:WP->W1->Prop):Prop:=∀vc s',aF s s'->VR w s'.heap (XF σ φ P) φ σ.n z vc->Q vc s'
theorem aZ.size {h:θ}{X:Nat->Prop}{n:Nat}{l:List V}{items:Array WP}(hi:aZ w h X φ n l items.toList):items.size=l.length:=hi.length
theorem eZ {n:Nat}(h:n<=aq):n<=DK:=PySem.sizeLine_eq▸Lk h (LL rfl)
section
variable {α:Type}{x y:V}{z:α}{a b:WP}{i j:Int}{l k:List V}{Q:WP->W1->Prop}
@[elab_as_elim] theorem bP {f:Int->Option α}{G:V->Prop}(e:cD f x=some z)(k:∀i,f i=some z->G (.int i)):G x:=by
 rcases x with _|_|i|_|_|_|_|_|_<;>first|exact au e|exact k i e
@[elab_as_elim] theorem vJ {f:List V->Option α}{G:V->Prop}(e:zc f x=some z)(k:∀i,f i=some z->G (.lst i)):G x:=by
 rcases x with _|_|_|_|_|i|_|_|_<;>first|exact au e|exact k i e
@[elab_as_elim] theorem qX {f:Bool->Option α}{G:V->Prop}(e:tK f x=some z)(k:∀i,f i=some z->G (.bool i)):G x:=by
 rcases x with _|i|_|_|_|_|_|_|_<;>first|exact au e|exact k i e
theorem gz {f:Int->Option α}(e:cD f x=some z):∃i,x=.int i/\f i=some z:=bP e λi e=>⟨i,rfl,e⟩
@[elab_as_elim] theorem abi {f:Int->Int->Option V}{z:V}{G:V->V->Prop}(e:CO f x y=some z)(k:∀i j,f i j=some z->G (.int i) (.int j)):G x y:=bP e λi e=>bP e λj e=>k i j e
@[elab_as_elim] theorem VR.abi {h:θ}{X:Nat->Prop}{n:Nat}{G:WP->WP->Prop}(r:VR w h X φ n (.int i) a)(q:VR w h X φ n (.int j) b)(k:∀t u,G (.int i t) (.int j u)):G a b:=r.abf λt=>q.abf λu=>k t u
theorem Gl (S:SR w T i' P φ σ s.heap)(hc:l.length+k.length<=aq)(h:qW w P φ σ s (.lst (l++k)) Q)(hx:VR w s.heap (XF σ φ P) φ σ.n (.lst l) a)(hy:VR w s.heap (XF σ φ P) φ σ.n (.lst k) b):ZB (η prog w) A (binaryOp .Add a b) Q E s:=by
 refine hx.abv λp items c hX ho hi hz=>hy.abv λq OL c2 hX2 ho2 Rf Tz=>?_;have hs:items.size+OL.size<=aq:=hi.size▸Rf.size▸hc;exact PySem.P.add_list (ud ho) (ud ho2) (h _ _ (aF.push s _) ⟨_,items++OL,0,rfl,S.fresh (aW _),Heap.get?_push_size _ rfl,ad Array.toList_append ((hi.append Rf).up (aF.push s _)),Array.size_append.symm▸hs⟩) (eZ hs)
theorem nE {α:Type}{l:List α}:∀n,(Mu n l).flatten.length=n*l.length
 |0=>(SV _).symm
 |n+1=>(LH (as:=l)).trans ((congrArg (l.length+·) (nE n)).trans (Nat.succ_mul n _▸PX _ _))
theorem xE (items:Array WP)(n:Nat):(W7 (λx1 x2=>x1++x2) #[] (Mu n items)).size=n*items.size:=(congrArg Nr (qV items n)).trans (nE n)
theorem CY {m:Nat}(h0:l.length<=100)(h1:j<=1000)(hi:m=l.length):m*j.toNat<=100000:=Nat.mul_le_mul (hi▸h0) (Int.toNat_le.mpr h1)
theorem Gm (S:SR w T i' P φ σ s.heap)(hc:(j<=1000/\-1000<=j)/\l.length<=100)(h:qW w P φ σ s (.lst (Mu j.toNat l).flatten) Q)(hx:VR w s.heap (XF σ φ P) φ σ.n (.lst l) a)(hy:VR w s.heap (XF σ φ P) φ σ.n (.int j) b):ZB (η prog w) A (binaryOp .Mult a b) Q E s:=by
 refine hx.abv λp items k hX ho hi hz=>hy.abf λu=>?_;have Ω:=CY hc.2 hc.1.1 hi.size
 have f:∀m,m<=100000->Builtin.List.listTooLong m≠true:=λm hm=>by simp[Builtin.List.listTooLong,DK];exact Ll [_] 1 M2 (.k 16777216) [(1,M2,.k 100000)] rfl hm
 refine wpAny_binaryOp_repeat_ref (T:="list") (U:="int") (by decide) ⟨_,ho,rfl⟩ (λs'=>typeIs_int s' j u) noFill_list_mul F.fills_int_mul F.slot_int_rmul repeat_list F.slot_int_index.lookup
  (Ij F.slot_int_rmul (typeIs_int s j u) F.entry_int_rmul (F.args_int_rmul_2 _ _) (lm_int_rmul_list_any j u p items k none #[])
   ⟨ho,rfl,⟨_,ho,rfl⟩,Ij F.slot_list_mul ⟨_,ho,rfl⟩ F.entry_list_mul (F.args_list_mul_2 _ _)
    (lm_list_mul_any p items k none #[] j u (aaU hc.1) (λq=>absurd (L1 q Ω) (by decide)) (f _ Ω))
    ⟨ho,h _ _ (aF.push s _) ⟨_,_,0,rfl,S.fresh (aW _),Heap.get?_push_size _ rfl,ad (qV ..) ?_,?_⟩⟩⟩)
 ·refine ad (xE _ _) (Lk ?_ (LL rfl:100000<=aq));rcases items.isEmpty with _|_
  ·exact Nat.mul_comm _ _▸Ω
  ·exact Lk (LU (SV _)) (LP _)
 ·refine aZ.up ?_ (aF.push s _);rcases hz:items.isEmpty with _|_
  ·exact hi.rep _
  ·have hl:l=[]:=Pc (hi.size.symm.trans (Array.isEmpty_iff_size_eq_zero.mp hz));exact ad hl (ad (List.flatten_replicate_nil) rfl)
end
section
variable {x y z:V}{a b:WP}{Q:WP->W1->Prop}
@[elab_as_elim] theorem Gn {G:V->V->V->Prop}(e:IR x y=some z)(k1:∀i j,G (.int i) (.int j) (.int (i+j)))(k2:∀l k,l.length+k.length<=aq->G (.lst l) (.lst k) (.lst (l++k))):G x y z:=by
 rcases x with _|_|i|_|_|l|_|_|_<;>first|exact au e|skip
 ·exact bP e λj e=>aT e (k1 i j)
 ·exact vJ e λk e=>dy e λc e=>aT e (k2 l k c)
@[elab_as_elim] theorem Go {G:V->V->V->Prop}(e:IT x y=some z)(k1:∀i j,0<=j/\j<100->G (.int i) (.int j) (.int (i*j)))(k2:∀l j,(j<=1000/\-1000<=j)/\l.length<=100->G (.lst l) (.int j) (.lst (Mu j.toNat l).flatten)):G x y z:=by
 rcases x with _|_|i|_|_|l|_|_|_<;>first|exact au e|skip
 ·exact bP e λj e=>dy e λc e=>aT e (k1 i j (qA c))
 ·exact bP e λk e=>dy e λc e=>aT e (k2 l k (E4 c))
theorem Gp {op:qy}(S:SR w T i' P φ σ s.heap)(hx:VR w s.heap (XF σ φ P) φ σ.n x a)(hy:VR w s.heap (XF σ φ P) φ σ.n y b)(e:dP op x y=some z)(h:qW w P φ σ s z Q):ZB (η prog w) A (binaryOp (qU op) a b) Q E s:=by
 revert hx hy h
 rcases op with _|_|_|_|_
 ·exact Gn e (λi j hx hy h=>hx.abi hy λt u=>PyProof.Rows.add_int (h _ _ (aF.toks s _) ⟨_,rfl⟩)) λl k c hx hy h=>Gl S c h hx hy
 ·exact abi e λi j e=>aT e λhx hy h=>hx.abi hy λt u=>PyProof.Rows.sub_int (h _ _ (aF.toks s _) ⟨_,rfl⟩)
 ·exact Go e (λi j c hx hy h=>hx.abi hy λt u=>PyProof.Rows.mul_int (h _ _ (aF.toks s _) ⟨_,rfl⟩) (I5 c.1 c.2)) λl k c hx hy h=>Gm S c h hx hy
 ·exact abi e λi j e=>dy e λc e=>aT e λhx hy h=>hx.abi hy λt u=>by
   have c:=of_decide_eq_true c;exact PyProof.Rows.mod_int' (Int.ne_of_gt c) (h _ _ (aF.toks s _) ⟨s.toks,congrArg (Value.int · _) (Int.fmod_eq_emod_of_nonneg _ (Ul c))⟩)
 ·exact abi e λi j e=>dy e λc e=>aT e λhx hy h=>hx.abi hy λt u=>PyProof.Rows.or_int (h _ _ (aF.toks s _) ⟨s.toks,congrArg (Value.int · _) (nD (qA c).1 (qA c).2)⟩)
end
end
noncomputable def pos (ks:List V)(k:V):Option Nat:=ks.findIdx? λx=>decide (x=k)
theorem lw (l:List (V×V))(k:V):cB l k=(pos (l.map (·.1)) k).bind λi=>(l.map (·.2))[i]?:=by
 induction l with
 |nil=>rfl
 |cons x l ih=>
  unfold cB pos at *
  (refine ad RB ?_;refine ad M6 ?_;refine ad Rz ?_)
  rcases decide (x.1=k)with _|_
  ·exact ih.trans ((λo=>by rcases o with _|_<;>rfl:∀o:Option Nat,(o.bind λi=>(l.map (·.2))[i]?)=((o.map (·+1)).bind λi=>((x::l).map (·.2))[i]?)) _)
  ·rfl
theorem jH {ks:List V}{k:V}{i:Nat}(h:pos ks k=some i):ks[i]?=some k:=by
 unfold pos at h;refine ag (List.findIdx?_eq_some_iff_getElem.mp h) λa b c=>?_;refine ad (MU a) ?_
 simpa using b
theorem iZ {ks:List V}{k:V}:pos ks k=none↔k∉ks:=by
 unfold pos;rw[List.findIdx?_eq_none_iff]
 constructor
 ·intro h m;simpa using h k m
 ·intro h x hx;simp;rintro rfl;exact h hx
theorem zn {ks:List V}{k:V}{i:Nat}(hn:ks.Nodup)(h:ks[i]?=some k):pos ks k=some i:=by
 rcases e:pos ks k with _|j
 ·exact absurd (MI h) (iZ.mp e)
 ·have:=jH e
  (refine ad ((List.getElem?_inj (Mt.mp this).1 hn).mp (this.trans h.symm)) ?_;rfl)
theorem zo (a:V)(ks:List V)(k:V):pos (a::ks) k=if a=k then some 0 else(pos ks k).map (·+1):=by
 unfold pos;rw[Rz]
 by_cases h:a=k
 ·rw[if_pos h,decide_eq_true h];rfl
 ·rw[if_neg h,decide_eq_false h];rfl
theorem ue (ks:List V):∀(vs:List V) (k:V),jA ks vs k=(pos ks k).bind λi=>vs[i]?:=by
 induction ks with
 |nil=>exact λvs k=>rfl
 |cons a ks ih=>
  intro vs k;rcases vs with _|⟨v,vs⟩
  ·rcases pos (a::ks) k with _|_<;>rfl
  ·show(if a=k then some v else jA ks vs k)=_
   rw[zo]
   by_cases h:a=k
   ·rw[if_pos h,if_pos h];rfl
   ·rw[if_neg h,if_neg h,ih];rcases pos ks k with _|_<;>rfl
theorem eU {l:List (V×V)}{k:V}:(cB l k).isSome=(pos (l.map (·.1)) k).isSome:=by
 rw[lw]
 cases e:pos (l.map (·.1)) k with
 |none=>rfl
 |some i=>
  have:=(Mt.mp (jH e)).1
  simpa using this
theorem xF (l:List (V×V))(k v:V):(dj l k v).map (·.1)=if(pos (l.map (·.1)) k).isSome then l.map (·.1)else l.map (·.1)++[k]:=by
 unfold dj;refine ad eU ?_
 split
 ·refine ad Ml ?_
  apply Qh
  intro x _
  show(if x.1=k then(x.1,v)else x).1=x.1
  split<;>rfl
 ·simp
theorem aak:∀(l:List (V×V)) (k v:V),(l.map (·.1)).Nodup->(dj l k v).map (·.2)=match pos (l.map (·.1)) k with|some i=>(l.map (·.2)).set i v|none=>l.map (·.2)++[v]:=by
 intro l k v hn;unfold dj;refine ad eU ?_
 cases e:pos (l.map (·.1)) k with
 |none=>simp
 |some i=>
  simp only[Option.isSome_some,if_true,Ml]
  apply W6
  intro j
  (refine ad W5 ?_;refine ad M8 ?_)
  have hi:=jH e
  by_cases hj:i=j
  ·subst hj;replace hi:=M8▸hi;rcases hl:l[i]? with _|x
   ·rw[hl]at hi;exact au hi
   ·rw[hl]at hi
    simp at hi
    have:i<l.length:=(Mt.mp hl).1
    simp[hi,this]
  ·(refine ad (if_neg hj) ?_;refine ad M8 ?_)
   rcases hl:l[j]? with _|x
   ·rfl
   ·have:x.1≠k:=by
     rintro rfl
     have h2:(l.map (·.1))[j]?=some x.1:=by(refine ad M8 ?_;refine ad hl ?_);rfl
     have:=zn hn h2
     rw[e]at this;exact hj (Option.some.inj this)
    simp[this]
theorem CZ (k:V)(l:List (V×V)):∀{i:Nat},(l.map (·.1)).Nodup->pos (l.map (·.1)) k=some i->oG l k=l.eraseIdx i:=by
 induction l with
 |nil=>exact λ_ h=>au h
 |cons x l ih=>
  intro i hn h;have hn:=Ny.mp hn;have h:=Rz.symm.trans h;rcases hk:decide (x.1=k)with _|_
  ·rw[hk]at h;exact zb (G:=λi=>oG (x::l) k=(x::l).eraseIdx i) h λj hj=>(List.filter_cons_of_pos (p:=λx:V×V=>decide (x.1≠k)) (decide_eq_true (of_decide_eq_false hk))).trans (congrArg (x::·) (ih hn.2 hj))
  ·rw[hk]at h;refine aT h ?_;have hk:=of_decide_eq_true hk;exact(List.filter_cons_of_neg (p:=λx:V×V=>decide (x.1≠k)) λq=>of_decide_eq_true q hk).trans (W4.mpr λy hy=>decide_eq_true λe=>hn.1 (MH.mpr ⟨y,hy,e.trans hk.symm⟩))
def cE (ks:List V)(k:V):Prop:=if bk k then ∀x∈ks,bk x=true else ∀x∈ks,eY x=true
section
variable {prog:Θ}{w:μ}{A:ψ}{E:WP->W1->Prop}{s:W1}
theorem mX.length {h:θ}{ks:List V}:∀{vs:List WP},mX h ks vs->vs.length=ks.length:=by
 induction ks with
 |nil=>exact λhx=>congrArg Nr (show _=[]from hx)
 |cons k l ih=>exact λhx=>aL hx λy ys e h1 h2=>(congrArg Nr e).trans (congrArg (·+1) (ih h2))
theorem aaJ {w:μ}{h:θ}{es:List Zf}:∀{ks:List V},mX h ks (es.map (·.key))->es.map (·.hash)=bD w ks->(∀x∈ks,bk x=true)->
  ∀e∈es,∃k,(DP prog w).is k e.key=true/\e.hash=(DP prog w).hash k:=by
 induction es with
 |nil=>exact λ_ _ _ e he=>absurd he QM
 |cons e es ih=>
  intro ks hk hh hi e' OC;rcases ks with _|⟨k,ks⟩
  ·exact nomatch (show e.key::es.map (·.key)=[]from hk)
  ·refine aL hk λy ys q h1 h2=>?_;have q:=List.cons.inj q;have hh:=List.cons.inj (show e.hash::es.map (·.hash)=dm w k::bD w ks from hh);refine(L7.mp OC).elim (λo=>?_) λOC=>ih (q.2▸h2) hh.2 (λx hx=>hi x (L8 _ hx)) e' OC;have hk:=hi k LI
   rcases k with _|_|i|_|_|_|_|_|_<;>first|exact ak hk|skip
   exact MO h1 λt ht=>⟨i,(congrArg (λx=>(DP prog w).is i x.key) o).trans ((congrArg ((DP prog w).is i) (q.1.trans ht)).trans (beq_self_eq_true i)),(congrArg (·.hash) o).trans hh.1⟩
theorem qY {h:θ}{i:Int}{es:List Zf}:∀{ks:List V},mX h ks (es.map (·.key))->(∀x∈ks,bk x=true)->
  (es.findIdx? λe=>Value.isInt i e.key)=pos ks (.int i):=by
 induction es with
 |nil=>
  intro ks hk _;rcases ks with _|⟨k,ks⟩
  ·rfl
  ·exact aL hk λy ys q _ _=>nomatch q
 |cons e es ih=>
  intro ks hk hi;rcases ks with _|⟨k,ks⟩
  ·exact nomatch (show e.key::es.map (·.key)=[]from hk)
  ·refine aL hk λy ys q h1 h2=>?_;have q:=List.cons.inj q;have ih:=ih (q.2▸h2) (λx hx=>hi x (L8 _ hx));have hk:=hi k LI
   rcases k with _|_|j|_|_|_|_|_|_<;>first|exact ak hk|skip
   refine h1.elim λt ht=>?_;unfold pos at *
   (refine ad Rz ?_;refine ad Rz ?_;refine ad ih ?_)
   have:Value.isInt i (.int j t)=decide (V.int j=V.int i):=by
    simp[Value.isInt];rfl
   (refine ad ((congrArg (Value.isInt i) (q.1.trans ht)).trans this) ?_;rfl)
theorem I6 {h:θ}{es:List Zf}:∀{ks:List V},mX h ks (es.map (·.key))->es.map (·.hash)=bD w ks->(∀x∈ks,eY x=true)->(∀x∈ks,a8 x=true)->
  ∃xs:List (V×Addr×WP),es=xs.map (entryOfKey (lu prog w))/\xs.map (·.1)=ks/\∀x∈xs,(lu prog w).is h x.1 x.2.1:=by
 induction es with
 |nil=>
  intro ks hk;rcases ks with _|⟨k,ks⟩
  ·exact λ_ _ _=>⟨[],rfl,rfl,λ_ x=>absurd x QM⟩
  ·exact aL hk λy ys q _ _=>nomatch q
 |cons e es ih=>
  intro ks hk hh hi ho;rcases ks with _|⟨k,ks⟩
  ·exact nomatch (show e.key::es.map (·.key)=[]from hk)
  ·refine aL hk λy ys q h1 h2=>?_;have q:=List.cons.inj q;have hh:=List.cons.inj (show e.hash::es.map (·.hash)=dm w k::bD w ks from hh);refine a6 (ih (q.2▸h2) hh.2 (λx hx=>hi x (L8 _ hx)) (λx hx=>ho x (L8 _ hx))) λxs e1 e2 e3=>?_;have q1:=hi k LI;have q2:=ho k LI
   rcases k with _|_|_|_|l|_|_|_|_<;>first|exact ak q1|skip
   rcases e with⟨hs,ky,vl⟩;refine fh (id h1) λa items n Zd q'=>?_;have e27:=q.1.trans Zd;exact⟨(.tup l,a,vl)::xs,congr (congrArg List.cons (show DictEntry.mk hs ky vl=DictEntry.mk (dm w (.tup l)) _ vl from congr (congr (congrArg DictEntry.mk hh.1) e27) rfl)) e1,congrArg (V.tup l::·) e2,λx hx=>(L7.mp hx).elim (λo9=>ad o9 ⟨q2,rfl,Zd▸h1⟩) (e3 x)⟩
set_option tactic.hygienic true in
theorem lx {d:Nat}{es:Array Zf}{ep:Nat}{ks:List V}{k:V}{key:WP}{Q:Option Nat->W1->Prop}(ho:s.heap.get? d=some (bH es ep))
  (hks:mX s.heap ks (es.toList.map (·.key))) (hh:es.toList.map (·.hash)=bD w ks) (hn:ks.Nodup) (abb:∀x∈ks,a8 x=true) (LS:cE ks k) (hk:a8 k=true)
  (LW:KR s.heap k key) (hu:A.units+64<Λ) (h:Q (pos ks k) s):ZB (η prog w) A (dictFind d key (dm w k)) Q E s:=by
 unfold cE at LS
 rcases k with _|_<;>simp[a8,bk,eY]at hk
 ·rename_i i;obtain⟨t,rfl⟩:=LW;have hko:KeysOf (DP prog w) es:=λe he=>aaJ hks hh LS e (YU.mpr he)
  refine wpAny_dictFind_of (knd:=DP prog w) (k:=i) (by simp[DP,Value.isInt]) ho rfl hko ?_
  have e0:es.findIdx? (λe=>Value.isInt i e.key)=es.toList.findIdx? λe=>Value.isInt i e.key:=by obtain⟨l⟩:=es;simp
  have:=qY (i:=i) hks LS
  show Q (es.findIdx? λe=>Value.isInt i e.key) s
  (refine ad e0 ?_;refine ad this ?_);exact h
 ·rename_i l;refine a6 (I6 (prog:=prog) hks hh LS abb) λxs e1 e2 e3=>?_;refine fh (id LW) λa items n e64 q=>?_;subst e64
  refine wpAny_dictFind_heap (knd:=lu prog w) (k:= .tup l) hu ⟨hk,rfl,LW⟩ ho rfl e1 e3 (by(refine ad e2 ?_);exact hn) (λQv=>?_) (λj p hj=>?_)
  ·have:pos ks (.tup l)=none:=by
    rw[iZ,<- e2];exact not_mem_keys_of_get Qv
   rw[this]at h;exact h
  ·have:pos ks (.tup l)=some j:=by
    refine zn hn ?_
    (refine aR e2 ?_;refine ad M8 ?_;refine ad hj ?_);rfl
   rw[this]at h;exact h
theorem o0 {k:V}{key:WP}{Q:Int->W1->Prop}(hk:a8 k=true)(LW:KR s.heap k key)(hu:A.units+64<Λ)(h:Q (dm w k) {s with toks:=s.toks+bG k}) :
  ZB (η prog w) A (pyHash key) Q E s:=by
 refine vG 4 ?_ (Ll [_,_] 1 (.a (.a M2 Sc) On) No [(1,.a (.a M2 SZ) On,No)] rfl hu) LW h
 rcases k with _|_|_|_|_|_|_|_|_<;>first|exact ak hk|exact hk
end
structure DD (w:μ)(h:θ)(ks:List V)(d:Nat)(es:Array Zf)(ep:Nat):Prop where
 ho:h.get? d=some (bH es ep)
 hks:mX h ks (es.toList.map (·.key))
 hh:es.toList.map (·.hash)=bD w ks
 hn:ks.Nodup
 abb:∀x∈ks,a8 x=true
 Ω:es.size<=aq
section
variable {prog:Θ}{w:μ}{A:ψ}{E:WP->W1->Prop}{s:W1}{ks:List V}{d:Nat}{es:Array Zf}{ep:Nat}{k:V}{key:WP}
theorem DD.typeIs (D:DD w s.heap ks d es ep):s.TypeIs (.ref d) "dict":=⟨_,D.ho,rfl⟩
theorem ly {Q:Option WP->W1->Prop}(D:DD w s.heap ks d es ep)(LS:cE ks k)(hk:a8 k=true)(LW:KR s.heap k key)(hu:A.units+64<Λ)
  (h:Q ((pos ks k).bind λi=>(es.toList.map (·.val))[i]?) {s with toks:=s.toks+bG k}):ZB (η prog w) A (HN d key) Q E s:=by
 unfold HN
 try with_reducible refine Zb ?_
 refine WF (o0 hk LW hu (WF (lx (s:={s with toks:=s.toks+bG k}) D.ho D.hks D.hh D.hn D.abb LS hk LW hu ?_)));rcases e:pos ks k with _|i
 ·replace h:=e▸h;exact XV h
 ·rw[e]at h;refine WF (wpAny_dictEntries (s:={s with toks:=s.toks+bG k}) D.ho rfl (XV ?_))
  have:(es.toList.map (·.val))[i]?=(es[i]?).map (·.val):=by(refine ad M8 ?_;refine ad Pb ?_;rfl)
  (refine aR this ?_);exact h
theorem i0 {Q:Bool->W1->Prop}(D:DD w s.heap ks d es ep)(LS:cE ks k)(hk:a8 k=true)(LW:KR s.heap k key)(hu:A.units+65<Λ)(hs:(d==Di)=false)
  (h:Q (pos ks k).isSome {s with toks:=s.toks+bG k}):ZB (η prog w) A (contains (.ref d) key) Q E s:=by
 unfold contains
 try with_reducible refine Zb ?_
 refine WF (u1 D.typeIs slot_dict_contains.lookup ?_)
 (refine ad (if_neg (by rw[beq_builtin_none];exact Nd)) ?_)
 refine WF (wpAny_callSpecialUnlessNone?_slot (name:=Str.ofString "__contains__") D.typeIs slot_dict_contains
  (xG slot_dict_contains D.typeIs entry_dict_contains ?_ (args_dict_contains _ _)))
 show ZB _ _ (HN d key >>= _) _ _ s;refine WF (ly D LS hk LW (cn hu) ?_);rcases e:pos ks k with _|i
 ·rw[e]at h;exact WF (wpAny_pendingKey_other hs (XV ⟨_,rfl,wpAny_truthy_bool h⟩))
 ·rw[e]at h
  have h2:i<es.toList.length:=by
   have:=(Mt.mp (jH e)).1
   have z:=D.hks.length;rw[LN]at z;exact Ll [_,_,_] 1 (.a M2 On) No [(1,.a M2 On,NE),(1,NE,No)] rfl this (iU z)
  simp only[YT,M8,MU h2,SU];exact XV ⟨_,rfl,wpAny_truthy_bool h⟩
theorem vK {v:WP}{Q:WP->W1->Prop}(D:DD w s.heap ks d es ep)(LS:cE ks k)(hk:a8 k=true)(LW:KR s.heap k key)(hu:A.units+65<Λ)
  (hv:((pos ks k).bind λi=>(es.toList.map (·.val))[i]?)=some v) (h:Q v {s with toks:=s.toks+bG k}):ZB (η prog w) A (getItem (.ref d) key) Q E s:=by
 unfold getItem
 try with_reducible refine Zb ?_
 refine WF (Vo D.typeIs (rfl) ?_)
 refine WF (Jc (name:=Str.ofString "__getitem__") D.typeIs slot_dict_getitem
  (xG slot_dict_getitem D.typeIs entry_dict_getitem ?_ (args_dict_getitem _ _)))
 show ZB _ _ (HN d key >>= _) _ _ s;refine WF (ly D LS hk LW (cn hu) ?_);refine ad hv ?_;exact XV ⟨v,rfl,XV h⟩
theorem pf {Q:WP->W1->Prop}(hs:(d==Di)=false)(hu:A.units+65<Λ)(D:DD w s.heap ks d es ep)(LS:cE ks k)(hk:a8 k=true)(LW:KR s.heap k key)
  (h:Q (((pos ks k).bind λi=>(es.toList.map (·.val))[i]?).getD .none) {s with toks:=s.toks+bG k}) :
  ZB (η prog w) A (call (.builtin "dict.get") [.ref d,key]) Q E s:=by
 refine call_meetsIn F.slot_dict_get D.typeIs F.entry_dict_get (F.args_dict_get_2 _ _) (MeetsIn.of_wp λA R s (hz:∃ks es ep k,DD w s.heap ks d es ep/\cE ks k/\a8 k=true/\KR s.heap k key/\A.units+65<Λ/\
    R (.ok (.ret (((pos ks k).bind λi=>(es.toList.map (·.val))[i]?).getD .none))) {s with toks:=s.toks+bG k})=>?_) ⟨ks,es,ep,k,D,LS,hk,LW,hu,h⟩
 refine Kw hz λks es ep k D LS hk LW hu hq=>?_;show ZB _ _ (HN d key >>= _) _ _ s;refine WF (ly D LS hk LW (cn hu) ?_)
 cases hf:(pos ks k).bind λi=>(es.toList.map (·.val))[i]? with
 |some v=>
  rw[hf]at hq;exact XV ⟨v,rfl,hq⟩
 |none=>
  rw[hf]at hq;exact WF (wpAny_missed_other hs (XV ⟨.none,rfl,hq⟩))
noncomputable def ug (w:μ)(ks:List V)(k:V)(key v:WP)(es:List Zf):List Zf:=match pos ks k with
 |some i=>es.modify i λe=>{e with val:=v}
 |none=>es++[⟨dm w k,key,v⟩]
theorem zp {v:WP}{Q:Unit->W1->Prop}(D:DD w s.heap ks d es ep)(LS:cE ks k)(hk:a8 k=true)(LW:KR s.heap k key)(hu:A.units+64<Λ)
  (h:∀h' Of Pe,h'.get? d=some (bH Of Pe)->Of.toList=ug w ks k key v es.toList->Heap.SameBut d s.heap h'->Q () {s with heap:=h',toks:=s.toks+bG k}) :
  ZB (η prog w) A (dictSet d key v) Q E s:=by
 unfold dictSet
 try with_reducible refine Zb ?_
 refine WF (o0 hk LW hu ?_);unfold dictSetHashed
 try with_reducible refine Zb ?_
 have VO:=D.Ω
 have Tz:es.size<=DK:=by(refine ad PySem.sizeLine_eq ?_);unfold aq at VO;exact Lk (by assumption) (by decide)
 refine WF (lx (s:={s with toks:=s.toks+bG k}) D.ho D.hks D.hh D.hn D.abb LS hk LW hu ?_);unfold ug at h;rcases e:pos ks k with _|i
 ·simp only[e]at h
  refine WF (uf (wpAny_updateDictKeys (hz:=Tz) (s:={s with toks:=s.toks+bG k}) D.ho rfl (h _ (es.push ⟨dm w k,key,v⟩) (ep+1)
   (Heap.get?_update_self _ D.ho (Obj.isFreed_of_dict (Obj.data_mapDictKeys (f:=λes=>es.push _) (rfl:(bH es ep).data=_)))) (by simp) (Heap.SameBut.update ..))))
 ·simp only[e]at h
  refine WF (uf (WF (wpAny_updateDict (s:={s with toks:=s.toks+bG k}) D.ho rfl (wpAny_point (h _ (es.modify i λe=>{e with val:=v}) ep
   (Heap.get?_update_self _ D.ho (Obj.isFreed_of_dict (Obj.data_mapDict (f:=λes=>es.modify i λe=>{e with val:=v}) (rfl:(bH es ep).data=_)))) (by simp) (Heap.SameBut.update ..))))))
theorem C0 {v:WP}{Q:Unit->W1->Prop}(D:DD w s.heap ks d es ep)(LS:cE ks k)(hk:a8 k=true)(LW:KR s.heap k key)(hu:A.units+65<Λ)
  (h:∀h' Of Pe,h'.get? d=some (bH Of Pe)->Of.toList=ug w ks k key v es.toList->Heap.SameBut d s.heap h'->Q () {s with heap:=h',toks:=s.toks+bG k}) :
  ZB (η prog w) A (setItem (.ref d) key v) Q E s:=by
 unfold setItem
 try with_reducible refine Zb ?_
 refine WF (Vo D.typeIs (rfl) ?_)
 refine WF (Jc (name:=Str.ofString "__setitem__") D.typeIs slot_dict_setitem
  (xG slot_dict_setitem D.typeIs entry_dict_setitem ?_ (args_dict_setitem _ _ _)))
 refine WF (wpAny_notOrdered_dict D.typeIs ?_);show ZB _ _ (dictSet d key v >>= _) _ _ s;exact WF (zp D LS hk LW (cn hu) λh' Of Pe NR OC M3=>XV ⟨.none,rfl,XV (h h' Of Pe NR OC M3)⟩)
theorem C1 {i:Nat}{Q:Unit->W1->Prop}(D:DD w s.heap ks d es ep)(LS:cE ks k)(hk:a8 k=true)(LW:KR s.heap k key)(hu:A.units+65<Λ)(hi:pos ks k=some i)
  (h:∀h' Of Pe,h'.get? d=some (bH Of Pe)->Of.toList=es.toList.eraseIdx i->Heap.SameBut d s.heap h'->Q () {s with heap:=h',toks:=s.toks+bG k}) :
  ZB (η prog w) A (delItem (.ref d) key) Q E s:=by
 have VO:=D.Ω
 have Tz:es.size<=DK:=by(refine ad PySem.sizeLine_eq ?_);unfold aq at VO;lia
 unfold delItem
 try with_reducible refine Zb ?_
 refine WF (Vo D.typeIs (rfl) ?_)
 refine WF (Jc (name:=Str.ofString "__delitem__") D.typeIs PySem.F.slot_dict_delitem
  (xG PySem.F.slot_dict_delitem D.typeIs PySem.F.entry_dict_delitem ?_ (PySem.F.args_dict_delitem_2 _ _)))
 refine WF ?_;refine WF (wpAny_notOrdered_dict D.typeIs ?_);refine XV ?_;show ZB _ _ (Builtin.Dict.takeOut d key >>= _) _ _ s;refine WF ?_;unfold Builtin.Dict.takeOut
 try with_reducible refine Zb ?_
 refine WF (o0 hk LW (cn hu) ?_);refine WF (lx (s:={s with toks:=s.toks+bG k}) D.ho D.hks D.hh D.hn D.abb LS hk LW (cn hu) ?_);refine ad hi ?_
 have h2:i<es.size:=by
  have:=(Mt.mp (jH hi)).1
  have z:=D.hks.length;rw[LN,YS]at z;exact Ll [_,_,_] 1 (.a M2 On) No [(1,.a M2 On,NE),(1,NE,No)] rfl this (iU z)
 refine WF (wpAny_dictEntries (s:={s with toks:=s.toks+bG k}) D.ho rfl ?_);refine ad (YR h2) ?_;refine WF (wpAny_updateDictKeys (hz:=Tz) (s:={s with toks:=s.toks+bG k}) D.ho rfl (XV ?_))
 refine WF (wpAny_letGo (XV ⟨.none,rfl,XV (h _ (es.eraseIdxIfInBounds i) (ep+1)
  (Heap.get?_update_self _ D.ho (Obj.isFreed_of_dict (Obj.data_mapDictKeys (f:=λes=>es.eraseIdxIfInBounds i) (rfl:(bH es ep).data=_)))) ?_ (Heap.SameBut.update ..))⟩))
 obtain⟨l⟩:=es
 simp
end
section
variable {prog:Θ}{w:μ}{A:ψ}{E:WP->W1->Prop}{T:qz}{i':θ}{P:Nat->Prop}{φ:bm}{σ:St}{s:W1}
theorem xH {n:Nat}(h:n<=aq):(n:Int)<2 ^ 63:=WV (M1.mpr h) (by decide)
theorem pg {l:List V}{items:Array WP}(h:items.size=l.length):items.isEmpty=l.isEmpty:=(congrArg (λn=>decide (n=0)) h).trans (by rcases l with _|_<;>rfl)
theorem E6 (a b:Int):(a != b)=decide (a≠b):=(decide_not ..).symm
theorem zq {x:V}{v:WP}{b:Bool}{Q:Bool->W1->Prop}(hx:VR w s.heap (XF σ φ P) φ σ.n x v)(e:cQ σ x=some b)
  (h:∀s',aF s s'->Q b s'):ZB (η prog w) A (truthy v) Q E s:=by
 rcases x with _|b'|i|_|_|l|_|_|_<;>first|exact au e|skip
 ·exact ad (show v=.bool b' from hx) (wpAny_truthy_bool (cX e (h _ (aF.refl s))))
 ·exact hx.abf λt=>PySem.P.truthy_int (ad (E6 i 0) (cX e (h _ (aF.refl s))))
 ·exact hx.abv λa items k hX ho hi hz=>wpAny_truthy_list (bA ho) (xH hz) (ad (pg hi.size) (cX e (h _ (aF.toks s _))))
theorem nF {a:V}{l:List V}{G:Prop}(h:aS (a::l)=true)(k:∀i,a=.int i->aS l=true->G):G:=by
 rcases a with _|_|i|_|_|_|_|_|_<;>first|exact ak h|exact k i rfl h
@[elab_as_elim] theorem dR {G:List V->Prop}{l:List V}(h:aS l=true)(h0:G [])(h1:∀i l,aS l=true->G l->G (.int i::l)):G l:=by
 induction l with
 |nil=>exact h0
 |cons a l ih=>exact nF h λi e h=>ad e (h1 i l h (ih h))
theorem fF {l:List V}(h:aS l=true):ck 0 l=true:=dR h rfl λi l _ ih=>ih
theorem j9 {l:List V}(h:aS l=true):∀x∈l,bk x=true:=MV.mp h
theorem pi {l:List V}(h:aS l=true):PyData.canLayAll0 (tG l)=true:=dR h rfl λi l _ ih=>ih
theorem xI {l:List V}(h:aS l=true):PyData.depthAll (tG l)=0:=dR h rfl λi l _ ih=>congrArg (max 0) ih
theorem zr {a:List V}(h:aS a=true):∀b:List V,aS b=true->PyData.eqvAll (tG a) (tG b)=gg a b:=dR h (λb=>by rcases b with _|_<;>exact λ_=>rfl) λi l _ ih b hb=>by
  rcases b with _|⟨y,b⟩
  ·rfl
  ·exact nF hb λj e hb=>ad e (congrArg (decide (i=j)&&·) (ih b hb))
theorem aaR (i j:Int):(V.int i==V.int j)=decide (j=i):=decide_eq_decide.mpr ⟨λe=>(V.int.inj e).symm,λe=>e▸rfl⟩
theorem zt {l:List V}{i:Int}(h:aS l=true):((tG l).any λy=>y.eqv (.int i))=l.contains (.int i):=dR h rfl λj l _ ih=>by
  refine ad WU ?_;exact ad (aaR i j) (congrArg (decide (j=i)||·) ih)
theorem nG {h:θ}{X:Nat->Prop}{n:Nat}{l:List V}{v:WP}(hl:aS l=true)(hx:VR w h X φ n (.lst l) v):∃as,Reads h v (pd (.lst l)) as:=hx.abv λa items k _ ho hi _=>(aZ.key 0 (fF hl) hi).reads.elim λ_ r=>⟨_,.list ho rfl rfl r⟩
theorem xJ {h:θ}{X:Nat->Prop}{n:Nat}{l:List V}{v:WP}(hl:aS l=true)(hx:VR w h X φ n (.tup l) v):∃as,Reads h v (.tuple (tG l)) as:=hx.abB λa items k _ ho hi _=>(aZ.key 0 (fF hl) hi).reads.elim λ_ r=>⟨_,.tuple ho rfl rfl r⟩
theorem cI {k:V}(h:a8 k=true):db 4 k=true:=by
 rcases k with _|_|_|_|_|_|_|_|_<;>first|exact ak h|exact h|rfl
theorem jI {k:V}(h:bk k=true):a8 k=true:=congrArg (·||(eY k&&db 4 k)) h
theorem SR.abI {r:Nat}{h:θ}(S:SR w T i' P φ σ h)(hr:r<σ.n):(φ.a r==Di)=false:=by
 have h1:=(S.above r hr).2.2
 exact beq_eq_false_iff_ne.mpr λe=>absurd (Uk h1 e) (by decide)
theorem vL:∀ks:List V,(∀x∈ks,a8 x=true)->ck 4 ks=true
 |[],_=>rfl
 |a::ks,h=>dB (cI (h a LI)) (vL ks λx hx=>h x (L8 _ hx))
theorem SR.list {r:Nat}{l:List V}{h:θ}(S:SR w T i' P φ σ h)(hr:r<σ.n)(hg:σ.g r=.list l) :
  φ.d r=φ.a r/\∃items k,h.get? (φ.a r)=some (cG items k)/\aZ w h (XF σ φ P) φ σ.n l items.toList/\items.size<=aq:=aR (P:=OR w T h (XF σ φ P) φ σ.n r) hg (S.obj r hr)
theorem SR.dict {r:Nat}{l:List (V×V)}{h:θ}(S:SR w T i' P φ σ h)(hr:r<σ.n)(hg:σ.g r=.dict l) :
  φ.d r=φ.a r/\∃es ep,DD w h (l.map (·.1)) (φ.a r) es ep/\aZ w h (XF σ φ P) φ σ.n (l.map (·.1)) (es.toList.map (·.key))/\aZ w h (XF σ φ P) φ σ.n (l.map (·.2)) (es.toList.map (·.val)):=have o:OR w T h (XF σ φ P) φ σ.n r (.dict l):=hg▸S.obj r hr
 ⟨o.1,CM o.2 λes ep ho hk hv hh q=>⟨es,ep,⟨ho,hk.key 4 (vL _ q.2.2),hh,q.1,q.2.2,q.2.1⟩,hk,hv⟩⟩
theorem eB {l:List (V×V)}{k:V}(h:bl l k=true):cE (l.map (·.1)) k:=by
 unfold bl at h;unfold cE
 rcases e:bk k with _|_<;>rw[e]at h<;>exact List.forall_mem_map.mpr (MV.mp h)
theorem zu {ks vs:List V}{v:WP}{h:θ}{X:Nat->Prop}{n:Nat}(hx:VR w h X φ n (.dct ks vs) v)(hi:aS ks=true) :
  ∃a es ep,v=.ref a/\DD w h ks a es ep/\(a==Di)=false/\aZ w h X φ n vs (es.toList.map (·.val)):=hx.elim λa q=>q.elim λes q=>q.elim λk q=>⟨a,es,k,q.1,⟨q.2.2.2.1,q.2.2.2.2.1.key 0 (fF hi),q.2.2.2.2.2.2.1,q.2.2.2.2.2.2.2.1,λx hx=>jI (j9 hi x hx),q.2.2.2.2.2.2.2.2⟩,q.2.2.1,q.2.2.2.2.2.1⟩
theorem kc {ks:List V}{k:V}(h:aS ks=true)(hk:bk k=true):cE ks k:=by
 unfold cE;rw[if_pos hk];exact j9 h
theorem pj {ks:List V}{x:V}:(pos ks x).isSome=ks.contains x:=by
 rw[QL,PB];rcases e:pos ks x with _|i
 ·exact⟨ak,λm=>absurd m (iZ.mp e)⟩
 ·exact⟨λ_=>MI (jH e),λ_=>rfl⟩
theorem Gq {a:V}{o:AO}{r:Bool}{G:AO->Bool->Prop}(e:F8 a o=some r)(k:∀l,a8 a=true/\bl l a=true->G (.dict l) (cB l a).isSome):G o r:=by
 rcases o with _|l|_|_<;>first|exact au e|exact dy e λc e=>aT e (k l (bj c))
section
variable {x y:V}{a b:WP}{r:Bool}{Q:Bool->W1->Prop}
theorem zv (S:SR w T i' P φ σ s.heap)(hx:VR w s.heap (XF σ φ P) φ σ.n x a)(hy:VR w s.heap (XF σ φ P) φ σ.n y b)
  (hu:A.units+80<Λ) (e:has σ x y=some r) (h:∀s',aF s s'->Q r s'):ZB (η prog w) A (contains b a) Q E s:=by
 have hu:A.units+65<Λ:=Mp (M9 (by decide) _) hu
 rcases y with _|_|_|_|_|_|⟨ks,vs⟩|q|_<;>first|exact au e|skip
 ·refine dy e λhk e=>?_;have hk:=bj hk;exact jz (zu hy hk.2) λc es ep e1 D hs _=>ad e1 (i0 D (kc hk.2 hk.1) (jI hk.1) (hx.key 4 (cI (jI hk.1))) hu hs (ad pj (cX e (h _ (aF.toks s _)))))
 ·refine hy.abn λhr=>Gq (G:=λo r=>(∀s',aF s s'->Q r s')->σ.g q=o->_) e (λl hk h hg=>?_) h rfl;exact aL (S.dict hr hg).2 λes ep D _ _=>i0 D (eB hk.2) hk.1 (hx.key 4 (cI hk.1)) hu (S.abI hr) (aR eU (h _ (aF.toks s _)))
end
noncomputable def Gr:CD->CmpOp
 |.eq=> .Eq|.ne=> .NotEq|.lt=> .Lt|.le=> .LtE|.gt=> .Gt|.ge=> .GtE|.isin=> .In|.abz=> .NotIn
section
variable {x y:V}{a b:WP}{r:Bool}{Q:WP->W1->Prop}{i j:Int}
@[elab_as_elim] theorem pn {p:Int->Int->Bool}{G:V->V->Bool->Prop}(e:zd p x y=some r)(k:∀i j,G (.int i) (.int j) (p i j)):G x y r:=bP e λi e=>bP e λj e=>aT e (k i j)
theorem uh (hu:A.units+80<Λ){m n:Nat}(h:min m n<=1):A.units+min m n<Λ:=Mp (M9 (Lk h (by decide)) _) hu
theorem I7 {p q:Bool}(hu:A.units+80<Λ)(hx:VR w s.heap (XF σ φ P) φ σ.n (.bool p) a)(hy:VR w s.heap (XF σ φ P) φ σ.n (.bool q) b)(h:∀s',aF s s'->Q (.bool (p==q)) s'):ZB (η prog w) A (compareOp .Eq a b) Q E s:=ad (show a=.bool p from hx) (ad (show b=.bool q from hy) (SeqAt.compareEq_reads (.bool _) (.bool _) rfl rfl (uh hu (LP _)) (h _ (aF.refl s))))
theorem I9 {p q:Bool}(hu:A.units+80<Λ)(hx:VR w s.heap (XF σ φ P) φ σ.n (.bool p) a)(hy:VR w s.heap (XF σ φ P) φ σ.n (.bool q) b)(h:∀s',aF s s'->Q (.bool (p != q)) s'):ZB (η prog w) A (compareOp .NotEq a b) Q E s:=ad (show a=.bool p from hx) (ad (show b=.bool q from hy) (SeqAt.compareNe_reads (.bool _) (.bool _) rfl rfl (uh hu (LP _)) (h _ (aF.refl s))))
theorem Ja {l k:List V}(hu:A.units+80<Λ)(hc:aS l=true/\aS k=true)(hx:VR w s.heap (XF σ φ P) φ σ.n (.lst l) a)(hy:VR w s.heap (XF σ φ P) φ σ.n (.lst k) b)(h:∀s',aF s s'->Q (.bool (!gg l k)) s'):ZB (η prog w) A (compareOp .NotEq a b) Q E s:=(nG hc.1 hx).elim λ_ r1=>(nG hc.2 hy).elim λ_ r2=>SeqAt.compareNe_reads r1 r2 (pi hc.1) (pi hc.2)
  (uh hu (Lk (Um _ _) (LU (congrArg (·+1) (xI hc.1))))) (ad (show PyData.eqv (pd (.lst l)) (pd (.lst k))=gg l k from zr hc.1 k hc.2) (h _ (aF.refl s)))
@[elab_as_elim] theorem Jb {G:V->V->Bool->Prop}(e:KZ x y=some r)(k1:∀i j,G (.int i) (.int j) (decide (i=j)))(k2:∀p q,G (.bool p) (.bool q) (p==q)):G x y r:=by
 rcases x with _|p|i|_|_|_|_|_|_<;>first|exact au e|skip
 ·exact qX e λq e=>aT e (k2 p q)
 ·exact bP e λj e=>aT e (k1 i j)
@[elab_as_elim] theorem aam {G:V->V->Bool->Prop}(e:K0 x y=some r)(k1:∀i j,G (.int i) (.int j) (decide (i≠j)))(k2:∀p q,G (.bool p) (.bool q) (p != q))(k3:∀l k,aS l=true/\aS k=true->G (.lst l) (.lst k) (!gg l k)):G x y r:=by
 rcases x with _|p|i|_|_|l|_|_|_<;>first|exact au e|skip
 ·exact qX e λq e=>aT e (k2 p q)
 ·exact bP e λj e=>aT e (k1 i j)
 ·exact vJ e λk e=>dy e λc e=>aT e (k3 l k (bj c))
theorem xK {l:List V}(hu:A.units+80<Λ)(hc:bk x=true/\aS l=true)(hx:VR w s.heap (XF σ φ P) φ σ.n x a)(hy:VR w s.heap (XF σ φ P) φ σ.n (.tup l) b)(h:∀s',aF s s'->Q (.bool (l.contains x)) s'):ZB (η prog w) A (compareOp .In a b) Q E s:=by
 rcases x with _|_|i|_|_|_|_|_|_<;>first|exact ak hc.1|skip
 exact hx.abf λt=>(xJ hc.2 hy).elim λ_ r1=>SeqAt.in_tuple_reads r1 (.int i t) (pi hc.2) rfl (Mp (Lk (M9 (WT _ _) _) (M9 (show 1<=80 by decide) A.units)) hu) (ad (zt hc.2) (h _ (aF.refl s)))
theorem zw {op:CD}(S:SR w T i' P φ σ s.heap)(hx:VR w s.heap (XF σ φ P) φ σ.n x a)(hy:VR w s.heap (XF σ φ P) φ σ.n y b)
  (hu:A.units+80<Λ) (e:dQ op σ x y=some r) (h:∀s',aF s s'->Q (.bool r) s'):ZB (η prog w) A (compareOp (Gr op) a b) Q E s:=by
 rcases op with _|_|_|_|_|_|_|_
 ·exact Jb (G:=λx y r=>VR w s.heap (XF σ φ P) φ σ.n x a->VR w s.heap (XF σ φ P) φ σ.n y b->(∀s',aF s s'->Q (.bool r) s')->_) e (λi j hx hy h=>hx.abi hy λt u=>PySem.P.eq_int (h _ (aF.refl s))) (λp q=>I7 hu) hx hy h
 ·exact aam (G:=λx y r=>VR w s.heap (XF σ φ P) φ σ.n x a->VR w s.heap (XF σ φ P) φ σ.n y b->(∀s',aF s s'->Q (.bool r) s')->_) e (λi j hx hy h=>hx.abi hy λt u=>PySem.P.ne_int (ad (E6 i j) (h _ (aF.refl s)))) (λp q=>I9 hu) (λl k c=>Ja hu c) hx hy h
 ·exact pn (G:=λx y r=>VR w s.heap (XF σ φ P) φ σ.n x a->VR w s.heap (XF σ φ P) φ σ.n y b->(∀s',aF s s'->Q (.bool r) s')->_) e (λi j hx hy h=>hx.abi hy λt u=>PySem.P.lt_int (h _ (aF.refl s))) hx hy h
 ·exact pn (G:=λx y r=>VR w s.heap (XF σ φ P) φ σ.n x a->VR w s.heap (XF σ φ P) φ σ.n y b->(∀s',aF s s'->Q (.bool r) s')->_) e (λi j hx hy h=>hx.abi hy λt u=>PySem.P.le_int (h _ (aF.refl s))) hx hy h
 ·exact pn (G:=λx y r=>VR w s.heap (XF σ φ P) φ σ.n x a->VR w s.heap (XF σ φ P) φ σ.n y b->(∀s',aF s s'->Q (.bool r) s')->_) e (λi j hx hy h=>hx.abi hy λt u=>PySem.P.gt_int (h _ (aF.refl s))) hx hy h
 ·exact pn (G:=λx y r=>VR w s.heap (XF σ φ P) φ σ.n x a->VR w s.heap (XF σ φ P) φ σ.n y b->(∀s',aF s s'->Q (.bool r) s')->_) e (λi j hx hy h=>hx.abi hy λt u=>PySem.P.ge_int (h _ (aF.refl s))) hx hy h
 ·have k:has σ x y=some r->ZB (η prog w) A (compareOp .In a b) Q E s:=λe=>WF (zv S hx hy hu e (λs' g=>XV (h s' g)))
  rcases y with _|_|_|_|l|_|_|_|_<;>first|exact au e|exact k e|skip
  exact dy e λc e=>xK hu (bj c) hx hy (cX e h)
 ·exact(Ry.mp e).elim λr' q=>WF (zv S hx hy hu q.1 (λs' g=>XV (q.2▸h s' g)))
end
end
theorem kz (slice:Expr)(o i:WP):∃ops,subscripted slice false o i=KA ops (getItem o i):=by
 have e:∃ops,KA [o,i] (getItem o i)=KA ops (getItem o i):=⟨_,rfl⟩;have e2:∃ops,KA [i,o] (getItem o i)=KA ops (getItem o i):=⟨_,rfl⟩
 rcases slice with _|_|_|_|_|_|_|_|_|_|_|_|_|_|_|_|_|_|_|_|_|_|_|_|_|_|⟨_,_,_|_,_⟩<;>first|exact e|exact e2
section
variable {prog:Θ}{w:μ}{A:ψ}{E:WP->W1->Prop}{T:qz}{i':θ}{P:Nat->Prop}{φ:bm}{σ:St}{s:W1}
def gA (A:ψ)(prog:Θ)(w:μ)(E:WP->W1->Prop)(Q:WP->W1->Prop)(o i:WP)(s:W1):Prop:=∃T id,s.TypeIs o T/\typeLookup (.type T) "__getitem__"=pure (some (.builtin id))/\ZB (η prog w) A (getItem o i) Q E s
theorem gA.tail {value slice:Expr}{o i:WP}{Q:WP->W1->Prop}(g:gA A prog w E Q o i s):ZB (η prog w) A (subscriptTail value slice o i) Q E s:=by
 refine aL g λT id h1 h2 h3=>?_;refine(kz slice o i).elim λops e=>?_;exact tail_any h1 h2 h3 e
theorem zx (i:Int)(n:Nat):seqIndex? i n=(λj:Int=>if(decide (0<=j)&&decide (j<n))=true then some j.toNat else none) (if i<0 then i+n else i):=rfl
theorem vM {i:Int}{n:Nat}(h0:0<=i)(h:i.toNat<n):seqIndex? i n=some i.toNat:=(zx i n).trans (ad (if_neg (Od.mpr h0)) (if_pos (dB (decide_eq_true h0) (decide_eq_true ((Uj h0).mp h)))))
theorem C4 {i:Int}{n:Nat}(h0:i<0)(h:-(n:Int)<=i):seqIndex? i n=some (i+n).toNat:=(zx i n).trans (ad (if_pos h0) (if_pos (dB (decide_eq_true (Int.add_left_neg (n:Int)▸Int.add_le_add_right h (n:Int))) (decide_eq_true (Int.lt_of_lt_of_le (Int.add_lt_add_right h0 (n:Int)) (Int.le_of_eq (Int.zero_add _)))))))
theorem C5 {i:Int}{n:Nat}(h0:0<=i)(h:i.toNat<n)(hz:n<=aq):i<2 ^ 63:=WQ ((Uj h0).mp h) (xH hz)
theorem E7 {i:Int}{n:Nat}(h1:-(n:Int)<=i)(hz:n<=aq):-(2 ^ 63)<=i:=Rx (Int.neg_le_neg (Ul (xH hz))) h1
theorem E8 {i:Int}(h0:0<=i):-(2 ^ 63)<=i:=Rx (by decide) h0
theorem kF {l:List V}{j:Nat}{z:V}(e:l[j]?=some z):j<l.length:=(Mt.mp e).1
theorem vN {l:List V}{i:Int}{z:V}{G:Prop}(e:gj l i=some z)(k0:0<=i->l[i.toNat]?=some z->G)(k1:i<0->-(l.length:Int)<=i->l[(i+l.length).toNat]?=some z->G):G:=by
 unfold gj at e
 by_cases h:0<=i
 ·exact k0 h ((if_pos h).symm.trans e)
 ·exact dy ((if_neg h).symm.trans e) (k1 (SS.mp h))
section
variable {x y z:V}{l:List V}{i:Int}{a b:WP}{Q:WP->W1->Prop}
theorem aZ.item {h:θ}{X:Nat->Prop}{n:Nat}{items:Array WP}{j:Nat}(hi:aZ w h X φ n l items.toList)(e:l[j]?=some z):∃x,items[j]?=some x/\VR w h X φ n z x:=(hi.get e).elim λx q=>⟨x,Pb.symm.trans q.1,q.2⟩
theorem qZ {h:θ}{X:Nat->Prop}{n:Nat}{ks:List V}{vs:List V}{es:Array Zf}{k:V}(hv:aZ w h X φ n vs (es.toList.map (·.val)))(e:((pos ks k).bind λi=>vs[i]?)=some z) :
  ∃x,((pos ks k).bind λi=>(es.toList.map (·.val))[i]?)=some x/\VR w h X φ n z x:=mN e λi hp e=>ad hp (hv.get e)
theorem C6 (hx:VR w s.heap (XF σ φ P) φ σ.n (.tup l) a)(hy:VR w s.heap (XF σ φ P) φ σ.n (.int i) b)(e:gj l i=some z)(h:qW w P φ σ s z Q):gA A prog w E Q a b s:=hx.abB λp items k _ ho hi hz=>hy.abf λt=>⟨"tuple",_,⟨_,ho,rfl⟩,slot_tuple_getitem.lookup,by
  have hs:=hi.size;refine vN e (λh0 e=>?_) λh0 h1 e=>?_
  ·exact(hi.item e).elim λv q=>PyProof.Rows.getItem_tuple (gv ho) (E8 h0) (C5 h0 (hs▸kF e) hz) (vM h0 (hs▸kF e)) q.1 (h _ _ (aF.refl s) q.2)
  ·exact(hi.item e).elim λv q=>PyProof.Rows.getItem_tuple (gv ho) (E7 (hs▸h1) hz) (WQ h0 (by decide)) (C4 h0 (hs▸h1)) (hs▸q.1) (h _ _ (aF.refl s) q.2)⟩
theorem C7 (hx:VR w s.heap (XF σ φ P) φ σ.n (.lst l) a)(hy:VR w s.heap (XF σ φ P) φ σ.n (.int i) b)(e:gj l i=some z)(h:qW w P φ σ s z Q):gA A prog w E Q a b s:=hx.abv λp items k _ ho hi hz=>hy.abf λt=>⟨"list",_,⟨_,ho,rfl⟩,slot_list_getitem.lookup,by
  have hs:=hi.size;refine vN e (λh0 e=>?_) λh0 h1 e=>?_
  ·exact(hi.item e).elim λv q=>wpAny_getItem_list (bA ho) h0 (C5 h0 (hs▸kF e) hz) q.1 (h _ _ (aF.refl s) q.2)
  ·exact(hi.item e).elim λv q=>wpAny_getItem_list_neg (bA ho) h0 (hs▸h1) (E7 (hs▸h1) hz) (hs▸q.1) (h _ _ (aF.refl s) q.2)⟩
theorem C9 {t:List Nat}(hx:VR w s.heap (XF σ φ P) φ σ.n (.str t) a)(hy:VR w s.heap (XF σ φ P) φ σ.n (.int i) b)(c:0<=i/\i<1000){m:Nat}(e:t[i.toNat]?=some m)(h:qW w P φ σ s (.str [m]) Q):gA A prog w E Q a b s:=hx.abS λu t es=>hy.abf λt2=>by
  have e:u.cps.toList[i.toNat]?=some m:=es▸e;have hl:i.toNat<u.length:=(Mt.mp e).1
  exact⟨"str",_,rfl,PySem.F.slot_str_getitem.lookup,PySem.P.getItem_str (c:=m) (Bool.or_eq_false_iff.mpr ⟨decide_eq_false (Od.mpr (E8 c.1)),decide_eq_false (SS.mpr (WQ c.2 (by decide)))⟩)
   (ad (vM c.1 hl) (Pb.symm.trans e)) (h _ _ (aF.toks s _) ⟨_,_,rfl,rfl⟩)⟩
theorem Da {ks vs:List V}(hu:A.units+65<Λ)(hk:aS ks=true)(hx:VR w s.heap (XF σ φ P) φ σ.n (.dct ks vs) a)(hy:VR w s.heap (XF σ φ P) φ σ.n (.int i) b)(e:jA ks vs (.int i)=some z)(h:qW w P φ σ s z Q):gA A prog w E Q a b s:=jz (zu hx hk) λc es ep e1 D hs hv=>ad e1 ((qZ hv ((ue ..).symm.trans e)).elim λv q=>⟨"dict",_,D.typeIs,slot_dict_getitem.lookup,vK D (kc hk rfl) rfl (hy.key 4 rfl) hu q.1 (h _ _ (aF.toks s _) (q.2.up (aF.toks s _)))⟩)
theorem Gs {o:AO}{G:AO->V->Prop}(e:ze y o=some z)(k1:∀l i,0<=i->l[i.toNat]?=some z->G (.list l) (.int i))(k2:∀l y,a8 y=true/\bl l y=true->cB l y=some z->G (.dict l) y):G o y:=by
 rcases o with l|l|_|_<;>first|exact au e|skip
 ·exact bP e λi e=>dy e λc e=>k1 l i c e
 ·exact dy e λc e=>k2 l y (bj c) e
theorem Db {r:Nat}(S:SR w T i' P φ σ s.heap)(hu:A.units+65<Λ)(hr:r<σ.n)(hy:VR w s.heap (XF σ φ P) φ σ.n y b)(e:ze y (σ.g r)=some z)(h:qW w P φ σ s z Q):gA A prog w E Q (.ref (φ.a r)) b s:=by
 refine Gs (G:=λo y=>σ.g r=o->VR w s.heap (XF σ φ P) φ σ.n y b->_) e (λl i h0 e hg hy=>hy.abf λt=>?_) (λl y hk e hg hy=>?_) rfl hy
 ·exact aL (S.dict hr hg).2 λes ep D _ hv=>(qZ hv ((lw ..).symm.trans e)).elim λv q=>⟨"dict",_,D.typeIs,slot_dict_getitem.lookup,vK D (eB hk.2) hk.1 (hy.key 4 (cI hk.1)) hu q.1 (h _ _ (aF.toks s _) (q.2.up (aF.toks s _)))⟩
 ·refine aL (S.list hr hg).2 λitems k ho hi hz=>?_;exact⟨"list",_,⟨_,ho,rfl⟩,slot_list_getitem.lookup,(hi.item e).elim λv q=>wpAny_getItem_list (bA ho) h0 (C5 h0 (hi.size▸kF e) hz) q.1 (h _ _ (aF.refl s) q.2)⟩
theorem Gu (S:SR w T i' P φ σ s.heap)(hx:VR w s.heap (XF σ φ P) φ σ.n x a)(hy:VR w s.heap (XF σ φ P) φ σ.n y b)
  (hu:A.units+80<Λ) (e:cb σ x y=some z) (h:qW w P φ σ s z Q):gA A prog w E Q a b s:=by
 have hu:A.units+65<Λ:=Mp (M9 (by decide) _) hu
 rcases x with _|_|_|t|l|l|⟨ks,vs⟩|r|_<;>first|exact au e|skip
 ·refine bP (G:=λy=>VR w s.heap (XF σ φ P) φ σ.n y b->_) e (λi e hy=>dy e λc e=>?_) hy;exact zb (G:=λz=>qW w P φ σ s z Q->_) e (λm e h=>C9 hx hy c e h) h
 ·exact bP (G:=λy=>VR w s.heap (XF σ φ P) φ σ.n y b->_) e (λi e hy=>C6 hx hy e h) hy
 ·exact bP (G:=λy=>VR w s.heap (XF σ φ P) φ σ.n y b->_) e (λi e hy=>C7 hx hy e h) hy
 ·exact bP (G:=λy=>VR w s.heap (XF σ φ P) φ σ.n y b->_) e (λi e hy=>dy e λc e=>Da hu c hx hy e h) hy
 ·exact hx.abn λhr=>Db S hu hr hy e h
end
theorem re {l:List V}{items:Array WP}{h:θ}{X:Nat->Prop}{n:Nat}(hi:aZ w h X φ n l items.toList)(lo Pq:Option Int):aZ w h X φ n (tL l lo Pq) (slicePick items lo Pq none).toList:=ad (slicePick_plain items lo Pq) (ad hi.size ((hi.drop _).take _))
noncomputable def lz (w:μ)(h:θ)(X:Nat->Prop)(φ:bm)(n:Nat):Option V->WP->Prop
 |none,c=>c=.none
 |some v,c=>VR w h X φ n v c
theorem ke {v:Option V}{x:Option Int}{c:WP}{h:θ}{X:Nat->Prop}{n:Nat}(e:tM v=some x)(hv:lz w h X φ n v c):IsPart c x:=by
 rcases v with _|v
 ·exact aT e (ad (show c=.none from hv) .none)
 ·rcases v with _|_|i|_|_|_|_|_|_<;>first|exact au e|exact aT e (VR.abf (show VR w h X φ n (.int i) c from hv) λt=> .int i t)
theorem rg (b n:Nat)(hb:b<=n):Builtin.Slice.sliceAdjust none (some (b:Int)) 1 (n:Int)=(0,(b:Int)):=congrArg (Prod.mk (0:Int)) ((if_neg (Od.mpr (Nq b))).trans (WO (M1.mpr hb)))
theorem rh (b:Nat):Builtin.Slice.slicePlaces 0 (b:Int) 1=b:=by
 unfold Builtin.Slice.slicePlaces;rcases b with _|b
 ·rfl
 ·rw[if_pos (by decide),if_pos (WN.mpr (Up b)),Int.sub_zero,Int.ediv_one,YQ];rfl
theorem i4 {sl:Addr}{b n:Nat}{u:Tok}{Q:Int×Int×Nat->W1->Prop}(hs:s.heap.IsSliceOf sl .none (.int b u) .none)(hb:b<=n)(h:Q (0,1,b) s) :
  ZB (η prog w) A (Builtin.Slice.sliceApplied (.ref sl) (pure (n:Int))) Q E s:=by
 refine a6 (id hs) λos O3 Oa PS=>?_;unfold Builtin.Slice.sliceApplied Builtin.Slice.sliceFields;refine WF (WF (Ea O3 PS (x:= .none) rfl (WF (Ea O3 PS (x:= .int b u) rfl (WF (Ea O3 PS (x:= .none) rfl (XV ?_)))))));refine WF (slicePart_none ?_)
 show ZB _ _ (if((1:Int)==0)=true then _ else _) _ _ s
 rw[if_neg (by decide)]
 refine WF (slicePart_none (WF (slicePart_int (WF (XV ?_)))))
 show ZB _ _ (match Builtin.Slice.sliceAdjust none (some (b:Int)) 1 (n:Int)with|(lo,hi)=>pure (lo,(1:Int),Builtin.Slice.slicePlaces lo hi 1)) _ _ s
 rw[rg b n hb];show ZB _ _ (pure ((0:Int),(1:Int),Builtin.Slice.slicePlaces 0 (b:Int) 1)) _ _ s;rw[rh];exact XV h
theorem xL (xs:Array WP)(b:Nat):((Mo b).filterMap fun (k:Nat)=>xs[((0:Int)+(k:Int)*1).toNat]?).toArray=(xs.toList.take b).toArray:=by
 have e:(fun (k:Nat)=>xs[((0:Int)+(k:Int)*1).toNat]?)=λk=>xs[0+k]?:=by
  funext k
  have:((0:Int)+(k:Int)*1).toNat=0+k:=by lia
  rw[this]
 rw[e]
 have:=pick_run xs 0 b
 rw[List.filterMap_map]at this;have e2:((λx=>xs[x]?)∘λx=>0+x)=λk=>xs[0+k]?:=rfl;rw[e2]at this;rw[this,WM]
theorem iF {t sl:Addr}{items:Array WP}{b:Nat}{u:Tok}{Q:WP->W1->Prop}(ht:IsTup s.heap t items)(hs:s.heap.IsSliceOf sl .none (.int b u) .none)(hb:b<items.size)
  (h:Q (.ref s.heap.objs.size) {s with heap:=s.heap.push {cls:= .type "tuple",data:= .seq (items.toList.take b).toArray}})
  (Ω:items.size<=DK):ZB (η prog w) A (getItem (.ref t) (.ref sl)) Q E s:=by
 have N':sizeOk (.seq (items.toList.take b).toArray):=by
  show(items.toList.take b).toArray.size<=DK;rw[QP,Qg,YS]
  lia
 refine a6 (id hs) λos O3 Oa PS=>?_;have TL:s.TypeIs (.ref sl) "slice":=⟨os,O3,Oa⟩;unfold getItem
 try with_reducible refine Zb ?_
 first|refine WF (XV ?_)|skip
 refine WF (Vo ht.typeIs (by decide) ?_)
 refine WF (Jc (name:=Str.ofString "__getitem__") ht.typeIs slot_tuple_getitem
  (xG slot_tuple_getitem ht.typeIs entry_tuple_getitem ?_ (args_tuple_getitem _ _)))
 show ZB _ _ (Builtin.Tuple.tupleItemsOf (.ref t) >>= _) _ _ s;refine WF (tupleItemsOf_ ht ?_);refine WF (wpAny_typeOf TL ?_)
 rw[if_pos (by decide)]
 refine WF (i4 hs (NN hb) ?_)
 have Qv:¬(((0:Int)==0&&(1:Int)==1&&b==items.size)=true):=by
  have:(b==items.size)=false:=by rw[beq_eq_false_iff_ne];exact MC (Ll [_,_] 1 (.a M2 On) No [(1,.a M2 On,No)] rfl hb)
  rw[this];simp
 show ZB _ _ (if((0:Int)==0&&(1:Int)==1&&b==items.size)=true then _ else _) _ _ s
 rw[if_neg Qv,xL items b]
 first
  |exact WF (m:=Builtin.Tuple.tupleExact _) (AK (XV ⟨_,rfl,XV h⟩) N')
  |exact WF (m:=Builtin.Tuple.tupleExact _) (AK (WF (XV (XV ⟨_,rfl,XV h⟩))) N')
  |exact WF (WF (m:=Builtin.Tuple.tupleExact _) (AK (XV (XV ⟨_,rfl,XV h⟩)) N'))
  |exact WF (WF (m:=Builtin.Tuple.tupleExact _) (AK (XV ⟨_,rfl,XV h⟩) N'))
section
variable {x y z:V}{l:List V}{i:Int}{a b cl ch:WP}{sl:Nat}{Q:WP->W1->Prop}
theorem xM {m:Nat}{u:Tok}(S:SR w T i' P φ σ s.heap)(hx:VR w s.heap (XF σ φ P) φ σ.n (.tup l) a)(hs:s.heap.IsSliceOf sl .none (.int m u) .none)(c:m<l.length)(h:qW w P φ σ s (.tup (l.take m)) Q):gA A prog w E Q a (.ref sl) s:=hx.abB λp items k _ ho hi hz=>⟨"tuple",_,⟨_,ho,rfl⟩,slot_tuple_getitem.lookup,iF (gv ho) hs (hi.size▸c) (h _ _ (aF.push s _) ⟨_,_,0,rfl,S.fresh (aW _),Heap.get?_push_size _ rfl,(hi.take m).up (aF.push s _),Lk (LU QP) (Lk (SQ _ _) hz)⟩) (eZ hz)⟩
theorem xN {x y:Option Int}(S:SR w T i' P φ σ s.heap)(hx:VR w s.heap (XF σ φ P) φ σ.n (.lst l) a)(p1:IsPart cl x)(p2:IsPart ch y)(hs:s.heap.IsSliceOf sl cl ch .none)(h:qW w P φ σ s (.lst (tL l x y)) Q):gA A prog w E Q a (.ref sl) s:=hx.abv λp items k _ ho hi hz=>⟨"list",_,⟨_,ho,rfl⟩,slot_list_getitem.lookup,wpAny_getItem_list_slice (bA ho) hs p1 p2 .none (by simp) (h _ _ (aF.push s _) ⟨_,_,0,rfl,S.fresh (aW _),Heap.get?_push_size _ rfl,(re hi _ _).up (aF.push s _),Lk (slicePick_size_le _ _ _ _) hz⟩) (eZ hz)⟩
theorem zy {lo hi:Option V}(S:SR w T i' P φ σ s.heap)(hx:VR w s.heap (XF σ φ P) φ σ.n x a)(O4:lz w s.heap (XF σ φ P) φ σ.n lo cl)(V6:lz w s.heap (XF σ φ P) φ σ.n hi ch)
  (hs:s.heap.IsSliceOf sl cl ch .none) (e:eR x lo hi=some z) (h:qW w P φ σ s z Q):gA A prog w E Q a (.ref sl) s:=by
 refine mN e λx1 e1 e=>mN e λx2 e2 e=>?_;have p1:=ke e1 O4;have p2:=ke e2 V6
 rcases x with _|_|_|_|l|l|_|_|_<;>first|exact au e|skip
 ·rcases p1 with _|_
  ·refine mN e λj ej e=>dy e λc e=>?_;rcases p2 with _|⟨j',u⟩
   ·exact au ej
   ·obtain rfl:=Option.some.inj ej;rcases j' with m|m
    ·exact xM S hx hs (Ot.mp c.2) (cX e h)
    ·exact absurd c.1 nofun
  ·exact au e
 ·exact xN S hx p1 p2 hs (cX e h)
end
end
structure aw (w:μ)(T:qz)(i':θ)(P:Nat->Prop)(W:Nat->Prop)(φ:bm)(σ:St)(s:W1)(φ':bm)(σ':St)(s':W1):Prop where
 sr:SR w T i' P φ' σ' s'.heap
 ext:fi W σ φ s.heap σ' φ' s'.heap
 gens:s'.gens=s.gens
 os:s'.os=s.os
 drawn:s'.drawn=s.drawn
section
variable {prog:Θ}{w:μ}{A:ψ}{E:WP->W1->Prop}{T:qz}{i':θ}{P W:Nat->Prop}{φ:bm}{σ:St}{s:W1}
theorem aw.refl (S:SR w T i' P φ σ s.heap):aw w T i' P W φ σ s φ σ s:=⟨S,fi.refl ..,rfl,rfl,rfl⟩
theorem aw.trans {φ' MD:bm}{σ' Ls:St}{s' MQ:W1}(x:aw w T i' P W φ σ s φ' σ' s')(y:aw w T i' P W φ' σ' s' MD Ls MQ):aw w T i' P W φ σ s MD Ls MQ:=⟨y.sr,x.ext.trans y.ext,y.gens.trans x.gens,y.os.trans x.os,y.drawn.trans x.drawn⟩
theorem aw.grow {s':W1}(S:SR w T i' P φ σ s.heap)(g:aF s s'):aw w T i' P W φ σ s φ σ s':=⟨S.up g,fi.grow (λa o _ e=>g.2.2.2 a o e) (λa _ q=>aP (λo e=>g.2.2.2 a o e) q),g.1,g.2.1,g.2.2.1⟩
theorem aw.weaken {W':Nat->Prop}{φ':bm}{σ':St}{s':W1}(x:aw w T i' P W φ σ s φ' σ' s')(h:∀a,W a->W' a)(hp:∀a,W' a->P a):aw w T i' P W' φ σ s φ' σ' s':=⟨x.sr,x.ext.weaken h λa wa _ _=>(x.sr.Ψ a (hp a wa)).2,x.gens,x.os,x.drawn⟩
theorem VR.abr {r:Nat}{o:AO}{h h':θ}{x:V}{v:WP}(hx:VR w h (XF σ φ P) φ σ.n x v)(hr:r<σ.n)(L3:σ.g r≠.dead)(hs:Heap.SameBut (φ.a r) h h') :
  VR w h' (XF (σ.set r o) φ P) φ σ.n x v:=hx.mono (λa ob hX e=>⟨hs.extBut a ob (λz=>hX (.inl ⟨r,hr,L3,.inl z⟩)) e,λq=>q.elim (λq=>hX (.inl (iY q L3))) λq=>hX (.inr q)⟩) (Lv _) λ_ _=>rfl
theorem aZ.abr {r:Nat}{o:AO}{h h':θ}{x:List V}{v:List WP}(hx:aZ w h (XF σ φ P) φ σ.n x v)(hr:r<σ.n)(L3:σ.g r≠.dead)(hs:Heap.SameBut (φ.a r) h h') :
  aZ w h' (XF (σ.set r o) φ P) φ σ.n x v:=hx.mono (λa ob hX e=>⟨hs.extBut a ob (λz=>hX (.inl ⟨r,hr,L3,.inl z⟩)) e,λq=>q.elim (λq=>hX (.inl (iY q L3))) λq=>hX (.inr q)⟩) (Lv _) λ_ _=>rfl
theorem i5 {r:Nat}{l l':List V}{items:Array WP}{k:Nat}{f:Array WP->Array WP}{toks:Nat}(S:SR w T i' P φ σ s.heap)(hr:r<σ.n)(hg:σ.g r=.list l)
  (ho:s.heap.get? (φ.a r)=some (cG items k)) (hd:φ.d r=φ.a r) (hl:aZ w s.heap (XF σ φ P) φ σ.n l' (f items).toList) (hz:(f items).size<=aq) :
  aw w T i' P (λ_=>False) φ σ s φ (σ.set r (.list l')) {s with heap:=s.heap.update (φ.a r) (Obj.mapSeq f),toks:=toks}:=by
 have L3:σ.g r≠.dead:=by rw[hg];exact λe=>by cases e
 have hs:Heap.SameBut (φ.a r) s.heap (s.heap.update (φ.a r) (Obj.mapSeq f)):=Heap.SameBut.update ..;refine(S.upd (o:= .list l') hr L3 (.inl rfl) hs (ba (IsL.update (n:=k) ho f)) ⟨hd,f items,_,IsL.update (n:=k) ho f,hl.abr hr L3 hs,hz⟩).elim λa b=>?_;exact⟨a,b,rfl,rfl,rfl⟩
theorem ri {l:Nat}{items:Array WP}{n:Nat}{k:Int}{t:Tok}{v:WP}{Q:Unit->W1->Prop}(ho:s.heap.get? l=some (cG items n))
  (h0:0<=k) (Oj:k<2 ^ 63) (hn:k<items.size) (hQ:Q () {s with heap:=s.heap.update l (Obj.mapSeq λxs=>xs.setIfInBounds k.toNat v)}) :
  ZB (η prog w) A (setItem (.ref l) (.int k t) v) Q E s:=by
 have hl:s.heap.IsList l items:=bA ho;unfold setItem
 try with_reducible refine Zb ?_
 first|refine WF (XV ?_)|skip
 refine WF (Vo hl.typeIs (by decide) ?_)
 refine WF (Jc (name:=Str.ofString "__setitem__") hl.typeIs slot_list_setitem
  (xG slot_list_setitem hl.typeIs entry_list_setitem ?_ (args_list_setitem _ _ _)))
 show ZB _ _ (Builtin.List.listSubscript? (.int k t) >>= _) _ _ s;refine WF (wpAny_listSubscript_int (fitsIndex_of h0 Oj) ?_);clear Oj;obtain⟨j,rfl⟩:=YV h0
 have hj:j<items.size:=by lia
 have N7:items[j]?=some items[j]:=YR hj;show ZB _ _ ((seqItemAt l j >>= λr=>pure (r.map (j,·))) >>= _) _ _ s;refine WF (WF (wpAny_seqItemAt ho rfl (XV ?_)));rw[N7];show ZB _ _ (setSeqItemAt l j v >>= _) _ _ s;refine WF (wpAny_setSeqItemAt ho rfl ?_)
 first
  |exact WF (XV (XV ⟨.none,rfl,XV hQ⟩))
  |exact XV ⟨.none,rfl,XV hQ⟩
theorem vO {α β:Type}{g:α->β}{F:α->α}(h:∀a,g (F a)=g a)(l:List α):∀i,(l.modify i F).map g=l.map g:=by
 induction l with
 |nil=>intro i;rcases i with _|i<;>rfl
 |cons a l ih=>
  intro i;rcases i with _|i
  ·exact congrArg (·::l.map g) (h a)
  ·exact congrArg (g a::·) (ih i)
theorem Dc {α β:Type}{g:α->β}{F:α->α}{v:β}(h:∀a,g (F a)=v)(l:List α):∀i,(l.modify i F).map g=(l.map g).set i v:=by
 induction l with
 |nil=>intro i;rcases i with _|i<;>rfl
 |cons a l ih=>
  intro i;rcases i with _|i
  ·exact congrArg (·::l.map g) (h a)
  ·exact congrArg (g a::·) (ih i)
theorem aaQ {ks:List V}{k:V}{key v:WP}{es:List Zf}{i:Nat}(hp:pos ks k=some i):ug w ks k key v es=es.modify i λe=>{e with val:=v}:=by unfold ug;rw[hp]
theorem xP {ks:List V}{k:V}{key v:WP}{es:List Zf}(hp:pos ks k=none):ug w ks k key v es=es++[⟨dm w k,key,v⟩]:=by unfold ug;rw[hp]
theorem mY (a b:List V):bD w (a++b)=bD w a++bD w b:=by
 induction a with
 |nil=>rfl
 |cons c d ih=>exact congrArg (dm w c::·) ih
theorem pq {h:θ}{X:Nat->Prop}{n r k:Nat}{l:List (V×V)}{ks vs:List V}{es:Array Zf}(e1:l.map (·.1)=ks)(e2:l.map (·.2)=vs)(hd:φ.d r=φ.a r)(ho:h.get? (φ.a r)=some (bH es k))(hk:aZ w h X φ n ks (es.toList.map (·.key)))
  (hv:aZ w h X φ n vs (es.toList.map (·.val))) (hh:es.toList.map (·.hash)=bD w ks) (hn:ks.Nodup) (hz:es.size<=aq) (ha:∀x∈ks,a8 x=true):OR w T h X φ n r (.dict l):=by
 subst e1 e2;exact⟨hd,es,k,ho,hk,hv,hh,hn,hz,ha⟩
theorem nH {r:Nat}{o:AO}(hg:σ.g r=o)(h:o≠.dead):σ.g r≠.dead:=hg▸h
theorem aw.upd {r:Nat}{o:AO}{h':θ}{toks:Nat}(p:SR w T i' P φ (σ.set r o) h'/\fi (λ_=>False) σ φ s.heap (σ.set r o) φ h'):aw w T i' P (λ_=>False) φ σ s φ (σ.set r o) {s with heap:=h',toks:=toks}:=⟨p.1,p.2,rfl,rfl,rfl⟩
section
variable {x y v:V}{σ':St}{a b c:WP}{r:Nat}{Q:Unit->W1->Prop}
theorem aaW {l:List V}{i:Int}(S:SR w T i' P φ σ s.heap)(hr:r<σ.n)(hg:σ.g r=.list l)(hc:0<=i/\i.toNat<l.length)(hy:VR w s.heap (XF σ φ P) φ σ.n (.int i) b)(hv:VR w s.heap (XF σ φ P) φ σ.n v c)
  (h:∀s',aw w T i' P (λ_=>False) φ σ s φ (σ.set r (.list (l.set i.toNat v))) s'->Q () s'):ZB (η prog w) A (setItem (.ref (φ.a r)) b c) Q E s:=hy.abf λt=>aL (S.list hr hg).2 λitems k ho hi hz=>by
  have hl:i.toNat<items.size:=hi.size▸hc.2;exact ri ho hc.1 (C5 hc.1 hl hz) ((Uj hc.1).mp hl) (h _ (i5 (toks:=s.toks) S hr hg ho (S.list hr hg).1 (ad Array.toList_setIfInBounds (hi.set i.toNat hv)) (ad Array.size_setIfInBounds hz)))
theorem De {l:List (V×V)}(S:SR w T i' P φ σ s.heap)(hu:A.units+65<Λ)(hr:r<σ.n)(hg:σ.g r=.dict l)(hc:(a8 y=true/\bl l y=true)/\l.length<aq)(hy:VR w s.heap (XF σ φ P) φ σ.n y b)(hv:VR w s.heap (XF σ φ P) φ σ.n v c)
  (h:∀s',aw w T i' P (λ_=>False) φ σ s φ (σ.set r (.dict (dj l y v))) s'->Q () s'):ZB (η prog w) A (setItem (.ref (φ.a r)) b c) Q E s:=by
 have L3:=nH hg nofun;refine aL (S.dict hr hg).2 λes ep D hk TA=>C0 D (eB hc.1.2) hc.1.1 (hy.key 4 (cI hc.1.1)) hu λh' Of Pe NR OC M3=>h _ (aw.upd (S.upd hr L3 (.inl rfl) M3 (ba NR) ?_));have pk:=xF l y v;have pv:=aak l y v D.hn;have hk:=hk.abr (o:= .dict (dj l y v)) hr L3 M3;have TA:=TA.abr (o:= .dict (dj l y v)) hr L3 M3;have hv:=hv.abr (o:= .dict (dj l y v)) hr L3 M3
 rcases hp:pos (l.map (·.1)) y with _|i<;>rw[hp]at pk pv
 ·have he:=OC.trans (xP hp);have pk:(dj l y v).map (·.1)=l.map (·.1)++[y]:=pk;have pv:(dj l y v).map (·.2)=l.map (·.2)++[v]:=pv;have hl:es.size=l.length:=(LN ..).symm.trans (hk.length.trans (LN ..));refine pq pk pv (S.dict hr hg).1 NR (ad he (ad Mj (hk.append ⟨_,_,rfl,hy.abr hr L3 M3,rfl⟩))) (ad he (ad Mj (TA.append ⟨_,_,rfl,hv,rfl⟩))) (ad he (ad Mj ((congrArg (·++[dm w y]) D.hh).trans (mY (w:=w) (l.map (·.1)) [y]).symm))) (Pa.mpr ⟨D.hn,SP _ _,λz hz q hq e=>iZ.mp hp (LV.mp hq▸e▸hz)⟩) ?_ (Mr.mpr ⟨D.abb,λz hz=>LV.mp hz▸hc.1.1⟩);exact Lk (LU ((congrArg Nr he).trans (LH.trans (congrArg (·+1) hl)))) hc.2
 ·have he:=OC.trans (aaQ hp);have pk:(dj l y v).map (·.1)=l.map (·.1):=pk;have pv:(dj l y v).map (·.2)=(l.map (·.2)).set i v:=pv;exact pq pk pv (S.dict hr hg).1 NR (ad he (ad (vO (g:=DictEntry.key) (F:=λe=>{e with val:=c}) (λ_=>rfl) es.toList i) hk)) (ad he (ad (Dc (g:=DictEntry.val) (F:=λe=>{e with val:=c}) (λ_=>rfl) es.toList i) (TA.set i hv))) (ad he ((vO (g:=DictEntry.hash) (F:=λe=>{e with val:=c}) (λ_=>rfl) es.toList i).trans D.hh)) D.hn (Lk (LU ((congrArg Nr he).trans (List.length_modify ..))) D.Ω) D.abb
theorem kG {f:AO->Option AO}{G:V->St->Prop}(e:nv f σ x=some σ')(k:∀r o,f (σ.g r)=some o->G (.ref r) (σ.set r o)):G x σ':=by
 rcases x with _|_|_|_|_|_|_|r|_<;>first|exact au e|exact zb e λo e=>k r o e
theorem Gv {o o':AO}{G:AO->V->AO->Prop}(e:CQ y v o=some o')(k1:∀l i,0<=i/\i.toNat<l.length->G (.list l) (.int i) (.list (l.set i.toNat v)))(k2:∀l y,(a8 y=true/\bl l y=true)/\l.length<aq->G (.dict l) y (.dict (dj l y v))):G o y o':=by
 rcases o with l|l|_|_<;>first|exact au e|skip
 ·exact bP e λi e=>dy e λc e=>aT e (k1 l i c)
 ·exact dy e λc e=>aT e (k2 l y (IQ c))
theorem xQ (S:SR w T i' P φ σ s.heap)(hx:VR w s.heap (XF σ φ P) φ σ.n x a)(hy:VR w s.heap (XF σ φ P) φ σ.n y b)(hv:VR w s.heap (XF σ φ P) φ σ.n v c)(hu:A.units+80<Λ)(e:eA x y v σ=some σ')
  (h:∀s',aw w T i' P (λ_=>False) φ σ s φ σ' s'->Q () s'):ZB (η prog w) A (setItem a b c) Q E s:=by
 have hu:A.units+65<Λ:=Mp (M9 (by decide) _) hu
 refine kG (G:=λx σ'=>VR w s.heap (XF σ φ P) φ σ.n x a->(∀s',aw w T i' P (λ_=>False) φ σ s φ σ' s'->Q () s')->_) e (λr o e hx h=>hx.abn λhr=>?_) hx h;exact Gv (G:=λo y o'=>σ.g r=o->VR w s.heap (XF σ φ P) φ σ.n y b->(∀s',aw w T i' P (λ_=>False) φ σ s φ (σ.set r o') s'->Q () s')->_) e (λl i c hg hy h=>aaW S hr hg c hy hv h) (λl y c hg hy h=>De S hu hr hg c hy hv h) rfl hy h
end
theorem aZ.erase {h:θ}{X:Nat->Prop}{n:Nat}{x:List V}:∀{v:List WP} (i:Nat),aZ w h X φ n x v->aZ w h X φ n (x.eraseIdx i) (v.eraseIdx i):=by
 induction x with
 |nil=>exact λi hx=>ad (show _=[]from hx) rfl
 |cons k l ih=>
  intro v i hx;rcases i with _|i
  ·exact aL hx λa as e h1 h2=>(congrArg (λv=>aZ w h X φ n l (List.eraseIdx v 0)) e).mpr h2
  ·exact aL hx λa as e h1 h2=>⟨a,as.eraseIdx i,congrArg (List.eraseIdx · (i+1)) e,h1,ih i h2⟩
theorem pu (l:List V):∀i:Nat,bD w (l.eraseIdx i)=(bD w l).eraseIdx i:=by
 induction l with
 |nil=>exact λ_=>rfl
 |cons a l ih=>exact λi=>by rcases i with _|i;rfl;exact congrArg (dm w a::·) (ih i)
theorem fj {α β:Type}(f:α->β)(l:List α):∀i:Nat,(l.eraseIdx i).map f=(l.map f).eraseIdx i:=by
 induction l with
 |nil=>exact λ_=>rfl
 |cons a l ih=>exact λi=>by rcases i with _|i;rfl;exact congrArg (f a::·) (ih i)
theorem Df {l:List (V×V)}{y:V}{b:WP}{r:Nat}{Q:Unit->W1->Prop}(S:SR w T i' P φ σ s.heap)(hu:A.units+65<Λ)(hr:r<σ.n)(hg:σ.g r=.dict l)(hc:(a8 y=true/\bl l y=true)/\(cB l y).isSome=true)(hy:VR w s.heap (XF σ φ P) φ σ.n y b)
  (h:∀s',aw w T i' P (λ_=>False) φ σ s φ (σ.set r (.dict (oG l y))) s'->Q () s'):ZB (η prog w) A (delItem (.ref (φ.a r)) b) Q E s:=by
 have L3:=nH hg nofun;refine aL (S.dict hr hg).2 λes ep D hk hv=>(OZ.mp (eU.symm.trans hc.2)).elim λi hi=>?_;have ed:=CZ y l D.hn hi;refine C1 D (eB hc.1.2) hc.1.1 (hy.key 4 (cI hc.1.1)) hu hi λh' Of Pe NR he M3=>h _ (aw.upd (S.upd hr L3 (.inl rfl) M3 (ba NR) ?_));exact pq (ad ed (fj ..)) (ad ed (fj ..)) (S.dict hr hg).1 NR (ad he (ad (fj ..) ((hk.abr hr L3 M3).erase i))) (ad he (ad (fj ..) ((hv.abr hr L3 M3).erase i))) (ad he ((fj ..).trans ((congrArg (·.eraseIdx i) D.hh).trans (pu ..).symm))) (D.hn.eraseIdx i) (Lk (LU (congrArg Nr he)) (Lk (List.length_eraseIdx_le ..) D.Ω)) λz hz=>D.abb z (List.mem_of_mem_eraseIdx hz)
theorem xR {x y:V}{σ':St}{a b:WP}{Q:Unit->W1->Prop}(S:SR w T i' P φ σ s.heap)(hx:VR w s.heap (XF σ φ P) φ σ.n x a)(hy:VR w s.heap (XF σ φ P) φ σ.n y b)
  (hu:A.units+80<Λ) (e:oO x y σ=some σ') (h:∀s',aw w T i' P (λ_=>False) φ σ s φ σ' s'->Q () s'):ZB (η prog w) A (delItem a b) Q E s:=by
 have hu:A.units+65<Λ:=Mp (M9 (by decide) _) hu
 refine kG (G:=λx σ'=>VR w s.heap (XF σ φ P) φ σ.n x a->(∀s',aw w T i' P (λ_=>False) φ σ s φ σ' s'->Q () s')->_) e (λr o e hx h=>hx.abn λhr=>?_) hx h
 rcases hg:σ.g r with l|l|_|_<;>rw[hg]at e<;>first|exact au e|exact dy e λc e=>Df S hu hr hg (oF c) hy (cX e h)
end
section
variable {prog:Θ}{w:μ}{A:ψ}{E:WP->W1->Prop}{T:qz}{i':θ}{P W:Nat->Prop}{φ:bm}{σ:St}{s:W1}
theorem xS {r:Nat}{l:List V}{v:V}{c:WP}(S:SR w T i' P φ σ s.heap)(hr:r<σ.n)(hg:σ.g r=.list l)(hv:VR w s.heap (XF σ φ P) φ σ.n v c)(hl:l.length<aq) :
  ∃items n,items.size<=DK/\IsL s.heap (φ.a r) items n/\
   aw w T i' P (λ_=>False) φ σ s φ (σ.set r (.list (l++[v]))) {s with heap:=s.heap.update (φ.a r) (Obj.mapSeq λxs=>xs.push c)}:=aL (S.list hr hg).2 λitems k ho hi hz=>⟨items,k,eZ hz,ud ho,i5 (toks:=s.toks) S hr hg ho (S.list hr hg).1 (ad Xa (hi.append (y:=[v]) (u:=[c]) ⟨_,_,rfl,hv,rfl⟩)) (ad (YP ..) (hi.size▸hl))⟩
theorem lA (items:Array WP):(items.eraseIdxIfInBounds (items.size-1)).toList=items.toList.take (items.size-1):=by
 have:(items.eraseIdxIfInBounds (items.size-1)).toList=items.toList.eraseIdx (items.size-1):=by
  rcases items with⟨its⟩;simp
 refine this.trans (ad (List.eraseIdx_eq_take_drop_succ ..) (ad (YO (show items.size<=_ from ?_)) (Mz _)));exact YY (Lv _)
theorem Gw {r:Nat}{l:List V}{z:V}{Q:WP->W1->Prop}(S:SR w T i' P φ σ s.heap)(hr:r<σ.n)(hg:σ.g r=.list l)(hv:l.getLast? = some z)
  (h:∀c s',aw w T i' P (λ_=>False) φ σ s φ (σ.set r (.list l.dropLast)) s'->VR w s'.heap (XF (σ.set r (.list l.dropLast)) φ P) φ σ.n z c->Q c s') :
  ZB (η prog w) A (call (.builtin "list.pop") [.ref (φ.a r)]) Q E s:=by
 refine aL (S.list hr hg).2 λitems k ho hi hz=>(hi.item (List.getLast?_eq_getElem?.symm.trans hv)).elim λx q=>?_;refine Ij PySem.F.slot_list_pop ⟨_,ho,rfl⟩ PySem.F.entry_list_pop (PySem.F.args_list_pop_1 _) (list_pop_last (φ.a r) items k x (hi.size▸q.1) (eZ hz)) ⟨ho,h _ _ (i5 (toks:=s.toks) S hr hg ho (S.list hr hg).1 ?_ ?_) (q.2.abr hr (nH hg nofun) (Heap.SameBut.update ..))⟩
 ·exact ad (lA items) (ad WL (hi.size▸hi.take _))
 ·exact Lk (LU (congrArg Nr (lA items))) (Lk (SQ _ _) hz)
theorem ea (a:Nat)(h:θ):Heap.SameBut a h h:=⟨rfl,λ_ _=>rfl⟩
theorem Jd {r:Nat}(S:SR w T i' P φ σ s.heap)(hr:r<σ.n)(L3:σ.g r≠.dead)(hW:∀a,W a->P a):aw w T i' P W φ σ s φ (σ.set r .dead) s/\¬XF (σ.set r .dead) φ P (φ.a r):=by
 refine(S.upd (o:= .dead) hr L3 (.inl rfl) (ea _ _) (S.lt r hr).1 trivial).elim λp q=>?_;refine⟨⟨p,q.weaken (λ_ z=>z.elim) λa wa _ _=>(S.Ψ a (hW a wa)).2,rfl,rfl,rfl⟩,?_⟩;rintro(⟨r',h1,h2,h3⟩|pa)
 ·rw[St.abH]at h2
  by_cases e:r'=r
  ·rw[if_pos e]at h2;exact h2 rfl
  ·have J:=S.inj r' r h1 hr e;refine Lr h3 (λh3=>?_) λh3=>?_
   ·exact J.1 h3.symm
   ·exact J.2.2.1 h3.symm
 ·exact(S.aaZ r hr).1 pa
theorem aaD {x v:V}{σ':St}{c:WP}(S:SR w T i' P φ σ s.heap)(hx:VR w s.heap (XF σ φ P) φ σ.n x c)(e:kY x σ=some (v,σ'))(hW:∀a,W a->P a) :
  aw w T i' P W φ σ s φ σ' s/\VR w s.heap (XF σ' φ P) φ σ'.n v c:=by
 rcases x with _|_|_|_|_|_|_|r|_<;>first|exact au e|skip
 refine hx.abn λhr=>?_;rcases hg:σ.g r with l|l|_|_
 ·refine bF ((congrArg (λo=>(Gf o).map λx=>(x,σ.set r .dead)) hg).symm.trans e) ?_;have L3:=nH hg nofun;exact(Jd (W:=W) S hr L3 hW).elim λst Qv=>⟨st,aL (S.list hr hg).2 λitems k ho hi hz=>⟨_,items,k,rfl,Qv,ho,hi.abr hr L3 (ea _ _),hz⟩⟩
 ·refine bF ((congrArg (λo=>(Gf o).map λx=>(x,σ.set r .dead)) hg).symm.trans e) ?_;have L3:=nH hg nofun;exact(Jd (W:=W) S hr L3 hW).elim λst Qv=>⟨st,aL (S.dict hr hg).2 λes ep D h1 h2=>⟨_,es,ep,rfl,Qv,S.abI hr,D.ho,h1.abr hr L3 (ea _ _),h2.abr hr L3 (ea _ _),D.hh,D.hn,D.Ω⟩⟩
 ·exact au ((congrArg (λo=>(Gf o).map λx=>(x,σ.set r .dead)) hg).symm.trans e)
 ·exact au ((congrArg (λo=>(Gf o).map λx=>(x,σ.set r .dead)) hg).symm.trans e)
theorem zz {α:Type}(c:Nat->Bool)(lo:Nat)(l:List α):∀(n:Nat),(∀k,k<n+l.length->c k=decide (lo<=k))->
  ((l.zipIdx n).filterMap λx=>if c x.2=true then none else some x.1)=l.take (lo-n):=by
 induction l with
 |nil=>intro n _;exact List.take_nil.symm
 |cons a l ih=>
  intro n h;have ih:=ih (n+1) λk hk=>h k (Uk hk (Nat.succ_add n l.length));have h0:=h n (WZ (Up _));refine ad YN (ad YM ?_)
  by_cases hl:lo<=n
  ·refine ad (if_pos (h0.trans (decide_eq_true hl)):(if c n=true then none else some a)=none) (ih.trans ?_)
   rw[Rv hl,Rv (Ru hl)];rfl
  ·refine ad (if_neg (λq=>hl (of_decide_eq_true (h0.symm.trans q))):(if c n=true then none else some a)=some a) ?_
   exact ad (Nat.succ_pred_eq_of_pos (Nat.sub_pos_of_lt (Rt hl))).symm (congrArg (a::·) ih)
theorem zA (lo:Nat)(items:Array WP):((items.toList.zipIdx 0).filterMap λx=>if(decide ((lo:Int)<=(x.2:Int))&&decide ((x.2:Int)<(items.size:Int))&&(((x.2:Int)-(lo:Int)) % 1==0))=true then none else some x.1)=items.toList.take lo:=zz (λk=>(decide ((lo:Int)<=(k:Int))&&decide ((k:Int)<(items.size:Int))&&(((k:Int)-(lo:Int)) % 1==0))) lo items.toList 0 λk hk=>by
  show(_&&_&&_)=_;rw[Int.emod_one,decide_eq_true (Ot.mpr (Uk hk (Nf items.size)))];exact(Bool.and_true _).trans ((Bool.and_true _).trans (decide_eq_decide.mpr M1))
theorem pw {l sl:Nat}{items:Array WP}{k lo:Nat}{u:Tok}{Q:Unit->W1->Prop}(ho:s.heap.get? l=some (cG items k))(hs:s.heap.IsSliceOf sl (.int lo u) .none .none)(O4:lo<=items.size)(Ω:items.size<=aq)
  (h:∀f:Array WP->Array WP,f items=(items.toList.take lo).toArray->Q () {s with heap:=s.heap.update l (Obj.mapSeq f)}):ZB (η prog w) A (delItem (.ref l) (.ref sl)) Q E s:=by
 have hl:s.heap.IsList l items:=bA ho;refine a6 hs λos O3 Oa PS=>?_;have TL:s.TypeIs (.ref sl) "slice":=⟨os,O3,Oa⟩;refine Zb ?_
 refine WF (Vo hl.typeIs (by decide) ?_)
 refine WF (Jc (name:=Str.ofString "__delitem__") hl.typeIs PySem.F.slot_list_delitem
  (xG PySem.F.slot_list_delitem hl.typeIs PySem.F.entry_list_delitem ?_ (PySem.F.args_list_delitem_2 _ _)))
 refine WF (m:=Builtin.List.listSubscript? (.ref sl)) ?_;refine WF (u1 TL slice_no_index ?_);refine XV ?_;refine WF (wpAny_typeOf TL ?_)
 refine gV (by decide) ?_
 refine ad (listSliceParts_eq ..) ?_;refine WF (WF (Ea O3 PS (x:= .none) rfl (WF (wpAny_listPart .none ?_))));refine gV (c:=(rawPart none==rawInt 0)=true) Nd ?_;refine WF (Ea O3 PS (x:= .int lo u) rfl (WF (wpAny_listPart (.int _ _) ?_)));refine WF (Ea O3 PS (x:= .none) rfl (WF (wpAny_listPart .none (XV ?_))));refine WF (m:=Builtin.List.listItems (.ref l)) ?_;refine WF (wpAny_seqItems ho rfl (XV ?_));have hc:=(clipAt_nat items.size lo).trans (QK O4)
 refine WF (wpAny_of_eq ((sliceIndices_raw (some (lo:Int)) none none items.size (by simp)).trans (congrArg pure ((sliceBounds_plain (some (lo:Int)) none items.size).trans (congrArg (λn:Nat=>((n:Int),((items.size:Nat):Int),(1:Int))) hc)))) ?_)
 refine WF (uf ?_);refine WF (m:=Builtin.List.listUpdate (.ref l) _) (wpAny_updateSeq ho rfl ?_ (eZ Ω) ?_)
 ·exact WF (wpAny_letGo (XV ⟨.none,rfl,XV (h _ (congrArg List.toArray (zA lo items)))⟩))
 ·exact Ru (Lk (LU ((congrArg Array.size (congrArg List.toArray (zA lo items))).trans QP)) (Lk (SQ _ _) (eZ Ω)))
theorem ui {x y:V}{σ':St}{a b:WP}{sl:Nat}{Q:Unit->W1->Prop}(S:SR w T i' P φ σ s.heap)(hx:VR w s.heap (XF σ φ P) φ σ.n x a)(hy:VR w s.heap (XF σ φ P) φ σ.n y b)
  (hs:s.heap.IsSliceOf sl b .none .none) (e:kE x y σ=some σ') (h:∀s',aw w T i' P (λ_=>False) φ σ s φ σ' s'->Q () s'):ZB (η prog w) A (delItem a (.ref sl)) Q E s:=by
 refine kG (G:=λx σ'=>VR w s.heap (XF σ φ P) φ σ.n x a->(∀s',aw w T i' P (λ_=>False) φ σ s φ σ' s'->Q () s')->_) e (λr o e hx h=>hx.abn λhr=>?_) hx h
 rcases hg:σ.g r with l|_|_|_<;>rw[hg]at e<;>first|exact au e|skip
 refine bP (G:=λy=>VR w s.heap (XF σ φ P) φ σ.n y b->_) e (λi e hy=>dy e λc e=>?_) hy;rcases i with m|m
 ·refine VR.abf (G:=λb=>s.heap.IsSliceOf sl b .none .none->_) hy (λt hs=>?_) hs;exact aL (S.list hr hg).2 λitems k ho hi hz=>pw ho hs (hi.size▸M1.mp c.2) hz λf hf=>aT (P:=λo=>(∀s',aw w T i' P (λ_=>False) φ σ s φ (σ.set r o) s'->Q () s')->_) e (λh=>h _ (i5 (toks:=s.toks) S hr hg ho (S.list hr hg).1 (ad hf (hi.take m)) (ad hf (Lk (LU QP) (Lk (SQ _ _) hz))))) h
 ·exact absurd c.1 nofun
end
inductive GV where
 |val (v:V)
 |fn (f:Nat)
 |cls (c:Nat)
 |bi (b:BI)
structure Wd where
 T:qz
 K:Y'
 P:zf
 abu:Nat->Nat
 glob:ζ->Option GV
 abo:Nat->ζ
noncomputable def CG:BI->WP
 |.len=> .builtin "len"|.range=> .type "range"|.sorted=> .builtin "sorted"|.tuple=> .type "tuple"|.max=> .builtin "max"
section
variable {w:μ}{T:qz}{i':θ}{P P':Nat->Prop}{φ:bm}{σ:St}{h h':θ}
theorem SR.less (S:SR w T i' P' φ σ h)(hp:∀a,P a->P' a):SR w T i' P φ σ h where
 obj:=λr hr=>(S.obj r hr).mono (λa o hX e=>⟨e,λq=>hX (q.elim .inl λq=> .inr (hp _ q))⟩) (Lv _) (λ_ _=>rfl) rfl rfl (λ_ e=>e) λ_ e=>e
 above:=S.above
 lt:=S.lt
 inj:=S.inj
 aaZ:=λr hr=>⟨λq=>(S.aaZ r hr).1 (hp _ q),λq=>(S.aaZ r hr).2 (hp _ q)⟩
 Ψ:=λa q=>S.Ψ a (hp a q)
 low:=S.low
 old:=S.old
theorem VR.less {n:Nat}{x:V}{v:WP}(r:VR w h (XF σ φ P') φ n x v)(hp:∀a,P a->P' a):VR w h (XF σ φ P) φ n x v:=r.mono (λa o hX e=>⟨e,λq=>hX (q.elim .inl λq=> .inr (hp _ q))⟩) (Lv _) λ_ _=>rfl
def ee (P N:Nat->Prop)(a:Nat):Prop:=P a\/N a
structure fG (h h':θ)(N:Nat->Prop):Prop where
 keep:∀b o,h.get? b=some o->h'.get? b=some o
 new:∀a,N a->h.get? a=none/\(h'.get? a).isSome=true
variable {N:Nat->Prop}
theorem XF.more (n:fG h h' N){a:Nat}{o:Obj}(hX:¬XF σ φ P a)(e:h.get? a=some o):h'.get? a=some o/\¬XF σ φ (ee P N) a:=⟨n.keep a o e,λq=>q.elim (λq=>hX (.inl q)) λq=>q.elim (λq=>hX (.inr q)) λq=>aB (n.new a q).1 (ba e)⟩
theorem SR.more (S:SR w T i' P φ σ h)(n:fG h h' N):SR w T i' (ee P N) φ σ h' where
 obj:=λr hr=>(S.obj r hr).mono (λa o hX e=>XF.more n hX e) (Lv _) (λ_ _=>rfl) rfl rfl (λo e=>n.keep _ o e) λo e=>n.keep _ o e
 above:=S.above
 lt:=λr hr=>⟨aP (λo e=>n.keep _ o e) (S.lt r hr).1,aP (λo e=>n.keep _ o e) (S.lt r hr).2⟩
 inj:=S.inj
 aaZ:=λr hr=>by
  have l:=S.lt r hr;have p:=S.aaZ r hr;exact⟨λq=>q.elim p.1 λq=>aB (n.new _ q).1 l.1,λq=>q.elim p.2 λq=>aB (n.new _ q).1 l.2⟩
 Ψ:=λa q=>q.elim (λq=>⟨(S.Ψ a q).1,aP (λo e=>n.keep _ o e) (S.Ψ a q).2⟩) λq=>⟨by
  rcases e:i'.get? a with _|o
  ·rfl
  ·exact(aB (n.new _ q).1 (ba (S.old _ _ e))).elim,(n.new _ q).2⟩
 low:=S.low
 old:=λb o e=>n.keep b o (S.old b o e)
theorem VR.more {m:Nat}{x:V}{v:WP}(r:VR w h (XF σ φ P) φ m x v)(n:fG h h' N):VR w h' (XF σ φ (ee P N)) φ m x v:=r.mono (λa o hX e=>XF.more n hX e) (Lv _) λ_ _=>rfl
theorem aZ.more {m:Nat}{x:List V}{v:List WP}(r:aZ w h (XF σ φ P) φ m x v)(n:fG h h' N):aZ w h' (XF σ φ (ee P N)) φ m x v:=r.mono (λa o hX e=>XF.more n hX e) (Lv _) λ_ _=>rfl
theorem fG.push (h:θ)(o:Obj)(hf:o.isFreed=false:=by rfl):fG h (h.push o) (λa=>a=h.objs.size):=⟨λ_ _ e=>Heap.get?_push_of_some _ e,λa e=>by refine ad e ?_;exact⟨aW _,by(refine ad (Heap.get?_push_size _ hf) ?_);rfl⟩⟩
end
structure aV (A:ψ)(n:Nat):Prop where
 handled:A.handled=none
 depth:A.depth+2*n+10<recursionLimit
 units:A.units+10*n+200<Λ
theorem aV.u {A:ψ}{n:Nat}(r:aV A n):A.units+80<Λ:=by have:=r.units;exact Ll [_,_,_] 1 (.a (.a M2 (.k 80)) On) No [(1,.a (.a (.a M2 (.m 10 NE)) TD) On,No)] rfl this
theorem py (A:ψ)(env:Env):(A.deeper env).depth=A.depth+1:=rfl
theorem aV.deeper {A:ψ}{n:Nat}(r:aV A (n+1))(env:Env):aV (A.deeper env) n:=⟨r.handled,by have:=r.depth;rw[py];exact Ll [_,_,_] 1 (.a (.a (.a (.a M2 On) (.m 2 No)) Re) On) NE [(1,.a (.a (.a M2 (.m 2 (.a No On))) Re) On,NE)] rfl this,by have:=r.units;rw[Around.deeper_units];exact Ll [_,_,_] 1 (.a (.a (.a (.a M2 (.k 3)) (.m 10 No)) TD) On) NE [(1,.a (.a (.a M2 (.m 10 (.a No On))) TD) On,NE)] rfl this⟩
def E9 (h:θ)(env:Env)(m:ζ->Option WP)(x:ζ)(vc:WP):Prop:=(env.kindOf x=some .local/\m x=some vc)\/((env.kindOf x=some .cell\/env.kindOf x=some .free)/\∃c,env.cells.lookup x=some c/\h.IsCell c (some vc))
noncomputable abbrev tH:=List (ζ×Nat)
structure FR (w:μ)(h:θ)(X:Nat->Prop)(φ:bm)(n:Nat)(P:Nat->Prop)(env:Env)(κ:tH)(m:ζ->Option WP)(ρ:Loc):Prop where
 kind:env.scope.kind=.function
 glob:env.globals=HJ
 blt:env.builtins=builtinsNs
 ns:h.Ns env.locals m
 pl:P env.locals
 pc:∀x c,(x,c)∈env.cells->P c
 apart:env.cells.Pairwise λx y=>x.2≠y.2
 abk:∀x c,(x,c)∈env.cells->c≠env.locals
 cell:∀x,(env.kindOf x=some .cell\/env.kindOf x=some .free)->(κ.lookup x).isSome=true->∃c LZ,env.cells.lookup x=some c/\h.IsCell c LZ
 var:∀x i v,κ.lookup x=some i->ρ i=some v->∃vc,VR w h X φ n v vc/\E9 h env m x vc
section
variable {w:μ}{T:qz}{i':θ}{P W:Nat->Prop}{φ φ':bm}{σ σ':St}{h h':θ}{env:Env}{κ:tH}{m:ζ->Option WP}{ρ:Loc}
theorem i6 {h h':θ}{L:Nat}{m:ζ->Option WP}(x:h.Ns L m)(hk:∀o,h.get? L=some o->h'.get? L=some o):h'.Ns L m:=by
 refine fh x λo es ep q r=>?_;exact⟨o,es,ep,hk _ q,r⟩
theorem dd {h h':θ}{c:Nat}{v:Option WP}(x:h.IsCell c v)(hk:∀o,h.get? c=some o->h'.get? c=some o):h'.IsCell c v:=by
 refine ag x λo q r=>?_;exact⟨o,hk _ q,r⟩
theorem FR.keep {X X':Nat->Prop}{n n':Nat}(F:FR w h X φ n P env κ m ρ)(hP:∀a o,P a->h.get? a=some o->h'.get? a=some o)
  (hv:∀v vc,VR w h X φ n v vc->VR w h' X' φ' n' v vc):FR w h' X' φ' n' P env κ m ρ where
 kind:=F.kind
 glob:=F.glob
 blt:=F.blt
 ns:=i6 F.ns λo e=>hP _ o F.pl e
 pl:=F.pl
 pc:=F.pc
 apart:=F.apart
 abk:=F.abk
 cell:=λx hx hl=>by
  refine bv (F.cell x hx hl) λc LZ a b=>?_;exact⟨c,LZ,a,dd b λo e=>hP _ o (F.pc x c (mem_of_lookup a)) e⟩
 var:=λx i v hl hr=>by
  refine ag (F.var x i v hl hr) λvc a b=>?_;refine⟨vc,hv _ _ a,?_⟩;refine Lr b (λb=>?_) λo1=>?_
  ·exact .inl b
  ·obtain⟨b,c,b1,b2⟩:=o1;exact .inr ⟨b,c,b1,dd b2 λo e=>hP _ o (F.pc x c (mem_of_lookup b1)) e⟩
theorem dn (S:SR w T i' P φ σ h){a:Nat}(pa:P a):¬vI σ φ a:=by
 rintro⟨r,hr,_,rfl|rfl⟩
 ·exact(S.aaZ r hr).1 pa
 ·exact(S.aaZ r hr).2 pa
theorem FR.ext (F:FR w h (XF σ φ P) φ σ.n P env κ m ρ)(S:SR w T i' P φ σ h)(e:fi (λ_=>False) σ φ h σ' φ' h'):FR w h' (XF σ' φ' P) φ' σ'.n P env κ m ρ:=F.keep (λa o pa q=>e.keep a o (dn S pa) (λz=>z) q) λv vc r=>r.ext e λ_ z=>z.elim
theorem FR.acp {N:Nat->Prop}(F:FR w h (XF σ φ P) φ σ.n P env κ m ρ)(n:fG h h' N):FR w h' (XF σ φ (ee P N)) φ σ.n (ee P N) env κ m ρ:=have G:=F.keep (X':=XF σ φ (ee P N)) (φ':=φ) (n':=σ.n) (λa o _ q=>n.keep a o q) λv vc r=>r.more n
 ⟨G.kind,G.glob,G.blt,G.ns,.inl G.pl,λx c q=> .inl (G.pc x c q),G.apart,G.abk,G.cell,G.var⟩
end
def bE (κ:tH):Prop:=∀x y i,κ.lookup x=some i->κ.lookup y=some i->x=y
section
variable {w:μ}{T:qz}{i':θ}{P W:Nat->Prop}{φ φ':bm}{σ σ':St}{h h':θ}{env:Env}{κ:tH}{m:ζ->Option WP}{ρ:Loc}
theorem VR.same {a:Nat}{n:Nat}{v:V}{vc:WP}(r:VR w h (XF σ φ P) φ n v vc)(pa:P a)(hs:Heap.SameBut a h h'):VR w h' (XF σ φ P) φ n v vc:=r.mono (λb o hX e=>⟨hs.extBut b o (λz=>hX (.inr (z▸pa))) e,hX⟩) (Lv _) λ_ _=>rfl
theorem aZ.same {a:Nat}{n:Nat}{v:List V}{vc:List WP}(r:aZ w h (XF σ φ P) φ n v vc)(pa:P a)(hs:Heap.SameBut a h h'):aZ w h' (XF σ φ P) φ n v vc:=r.mono (λb o hX e=>⟨hs.extBut b o (λz=>hX (.inr (z▸pa))) e,hX⟩) (Lv _) λ_ _=>rfl
theorem SR.same {a:Nat}(S:SR w T i' P φ σ h)(pa:P a)(hs:Heap.SameBut a h h')(L5:(h'.get? a).isSome=true):SR w T i' P φ σ h':=S.keep (W:=λb=>b=a) (λb e=>e▸pa) (λb o hb e=>hs.extBut b o hb e) (λb e _=>e▸L5)
theorem fi.same {a:Nat}(hs:Heap.SameBut a h h')(L5:(h'.get? a).isSome=true):fi (λb=>b=a) σ φ h σ φ h':=fi.grow (λb o hb e=>hs.extBut b o hb e) (λb e _=>e▸L5)
theorem aw.same {a:Nat}{s:W1}{tk:Nat}(S:SR w T i' P φ σ s.heap)(pa:P a)(hs:Heap.SameBut a s.heap h')(L5:(h'.get? a).isSome=true):aw w T i' P (λb=>b=a) φ σ s φ σ {s with heap:=h',toks:=tk}:=⟨S.same pa hs L5,fi.same hs L5,rfl,rfl,rfl⟩
theorem kH {h:θ}{a:Nat}{m:ζ->Option WP}(n:h.Ns a m):(h.get? a).isSome=true:=by obtain⟨o,_,_,e,_⟩:=n;(refine ad e ?_);rfl
theorem fk {h:θ}{a:Nat}{v:Option WP}(n:h.IsCell a v):(h.get? a).isSome=true:=by obtain⟨o,e,_⟩:=n;(refine ad e ?_);rfl
theorem FR.aci {x:ζ}{i:Nat}{v:V}{vc:WP}(F:FR w h (XF σ φ P) φ σ.n P env κ m ρ)(Lo:bE κ)(hx:κ.lookup x=some i)(hk:env.kindOf x=some .local)
  (hv:VR w h (XF σ φ P) φ σ.n v vc) (hn:h'.Ns env.locals λy=>if y=x then some vc else m y) (hs:Heap.SameBut env.locals h h') :
  FR w h' (XF σ φ P) φ σ.n P env κ (λy=>if y=x then some vc else m y) (ρ.set i v) where
 kind:=F.kind
 glob:=F.glob
 blt:=F.blt
 ns:=hn
 pl:=F.pl
 pc:=F.pc
 apart:=F.apart
 abk:=F.abk
 cell:=λy hy hl=>by
  refine bv (F.cell y hy hl) λc LZ a b=>?_;exact⟨c,LZ,a,b.sameBut hs (F.abk y c (mem_of_lookup a))⟩
 var:=λy j u hl hr=>by
  by_cases e:j=i
  ·subst e;refine ad (Lo y x j hl hx) ?_;simp only[Loc.set,if_true,Option.some.injEq]at hr;subst hr;exact⟨vc,hv.same F.pl hs,.inl ⟨hk,if_pos rfl⟩⟩
  ·simp only[Loc.set,if_neg e]at hr;refine ag (F.var y j u hl hr) λuc a b=>?_;refine⟨uc,a.same F.pl hs,?_⟩;refine Lr b (λo31=>?_) λU4=>?_
   ·refine o31.elim λb1 b2=>?_;refine .inl ⟨b1,?_⟩
    show(if y=x then some vc else m y)=_
    (refine ad (if_neg (λq=>e (by subst q;rw[hx]at hl;exact(Option.some.inj hl).symm))) ?_)
    exact b2
   ·obtain⟨b,c,b1,b2⟩:=U4;exact .inr ⟨b,c,b1,b2.sameBut hs (F.abk y c (mem_of_lookup b1))⟩
theorem FR.acj {x:ζ}{i c:Nat}{v:V}{vc:WP}(F:FR w h (XF σ φ P) φ σ.n P env κ m ρ)(Lo:bE κ)(hx:κ.lookup x=some i)(hk:env.kindOf x=some .cell)
  (hc:env.cells.lookup x=some c) (hv:VR w h (XF σ φ P) φ σ.n v vc) (hn:h'.IsCell c (some vc)) (hs:Heap.SameBut c h h') :
  FR w h' (XF σ φ P) φ σ.n P env κ m (ρ.set i v) where
 kind:=F.kind
 glob:=F.glob
 blt:=F.blt
 ns:=F.ns.sameBut hs λe=>F.abk x c (mem_of_lookup hc) e.symm
 pl:=F.pl
 pc:=F.pc
 apart:=F.apart
 abk:=F.abk
 cell:=λy hy hl=>by
  refine bv (F.cell y hy hl) λc' LZ a b=>?_
  by_cases e:c'=c
  ·subst e;exact⟨c',_,a,hn⟩
  ·exact⟨c',LZ,a,b.sameBut hs e⟩
 var:=λy j u hl hr=>by
  have pc:=F.pc x c (mem_of_lookup hc)
  by_cases e:j=i
  ·subst e;refine ad (Lo y x j hl hx) ?_;simp only[Loc.set,if_true,Option.some.injEq]at hr;subst hr;exact⟨vc,hv.same pc hs,.inr ⟨.inl hk,c,hc,hn⟩⟩
  ·simp only[Loc.set,if_neg e]at hr;refine ag (F.var y j u hl hr) λuc a b=>?_;refine⟨uc,a.same pc hs,?_⟩;refine Lr b (λVd=>?_) λRQ=>?_
   ·refine Vd.elim λb1 b2=>?_;exact .inl ⟨b1,b2⟩
   ·obtain⟨b,c',b1,b2⟩:=RQ;refine .inr ⟨b,c',b1,b2.sameBut hs ?_⟩;rintro rfl
    have:=name_of_addr F.apart (mem_of_lookup b1) (mem_of_lookup hc)
    subst this;rw[hx]at hl;exact e (Option.some.inj hl).symm
def i7 (env:Env)(a:Nat):Prop:=a=env.locals\/∃x,(x,a)∈env.cells
theorem FR.abd (F:FR w h (XF σ φ P) φ σ.n P env κ m ρ){a:Nat}(o:i7 env a):P a:=o.elim (λe=>e▸F.pl) λUQ=>UQ.elim λx q=>F.pc x a q
theorem uj (hk:env.scope.kind=.function):(env.scope.kind==.class||(env.scope.kind==.module&&env.locals != env.globals))=false:=by(refine ad hk ?_);rfl
theorem zB {M:XI}{A:ψ}{E:WP->W1->Prop}{s:W1}{x:ζ}{i:Nat}{v:V}{vc:WP}{Q:Unit->W1->Prop}(F:FR w s.heap (XF σ φ P) φ σ.n P env κ m ρ)
  (S:SR w T i' P φ σ s.heap) (Lo:bE κ) (hx:κ.lookup x=some i) (hk:env.kindOf x=some .local\/env.kindOf x=some .cell) (hv:VR w s.heap (XF σ φ P) φ σ.n v vc)
  (hQ:∀s' m',aw w T i' P (λa=>(env.kindOf x=some .local/\a=env.locals)\/(env.kindOf x=some .cell/\i7 env a)) φ σ s φ σ s'->FR w s'.heap (XF σ φ P) φ σ.n P env κ m' (ρ.set i v)->Q () s') :
  ZB M A (storeName env x vc) Q E s:=by
 refine Lr hk (λhk=>?_) λhk=>?_
 ·exact wpAny_storeName_local hk F.ns (λh' hn hs=>hQ _ _ ((aw.same S F.pl hs (kH hn)).weaken (λa e=> .inl ⟨hk,e⟩) λa q=>q.elim (λq=>q.2▸F.pl) λq=>F.abd q.2) (F.aci Lo hx hk hv hn hs)) (uj F.kind)
 ·refine bv (F.cell x (.inl hk) (by(refine ad hx ?_);rfl)) λc LZ hc Sx=>?_
  exact wpAny_storeName_cell F.kind hk hc Sx λh' hn hs=>hQ _ _ ((aw.same S (F.pc x c (mem_of_lookup hc)) hs (fk hn)).weaken (λa e=> .inr ⟨hk,.inr ⟨x,e▸mem_of_lookup hc⟩⟩) λa q=>q.elim (λq=>q.2▸F.pl) λq=>F.abd q.2) (F.acj Lo hx hk hc hv hn hs)
theorem vP {M:XI}{A:ψ}{E:WP->W1->Prop}{s:W1}{x:ζ}{i:Nat}{v:V}{Q:WP->W1->Prop}(F:FR w s.heap (XF σ φ P) φ σ.n P env κ m ρ)
  (hx:κ.lookup x=some i) (hr:ρ i=some v) (hn:(x==("__classdict__":ζ))=false) (hQ:∀vc,VR w s.heap (XF σ φ P) φ σ.n v vc->Q vc s):ZB M A (loadName env x) Q E s:=by
 refine ag (F.var x i v hx hr) λvc a b=>?_;rcases b with⟨b1,b2⟩|⟨b|b,c,b1,b2⟩
 ·exact wpAny_loadName_local F.kind b1 F.ns b2 (hQ vc a)
 ·exact wpAny_loadName_cell F.kind b b1 b2 (hQ vc a)
 ·exact wpAny_loadName_free F.kind b b1 b2 (hQ vc a) hn
end
section
variable {prog:Θ}{w:μ}{A:ψ}{E:WP->W1->Prop}{T:qz}{i':θ}{P W:Nat->Prop}{φ:bm}{σ:St}{s:W1}
theorem lB {d:Nat}{es:Array Zf}{ep:Nat}{Q:WP->W1->Prop}(hd:(d==Di)=false)(ho:s.heap.get? d=some (bH es ep))
  (hQ:Q (.ref s.heap.objs.size) {s with heap:=s.heap.push {cls:= .type "dict_keyiterator",data:= .fields #[.ref d,.int 0 0,.int es.size 0,.int ep 0]}}) :
  ZB (η prog w) A (pyIter (.ref d)) Q E s:=by
 have hT:s.TypeIs (.ref d) "dict":=⟨_,ho,rfl⟩;refine wpAny_pyIter_slot hT PySem.F.slot_dict_iter (xG PySem.F.slot_dict_iter hT PySem.F.entry_dict_iter ?_ (PySem.F.args_dict_iter_1 _));refine WF ?_;refine WF (wpAny_notOrdered_dict hT ?_);show ZB _ _ (pure (Value.ref d)) _ _ s;refine XV ?_;show ZB _ _ (Builtin.Dict.showsAll d >>= _) _ _ s;unfold Builtin.Dict.showsAll
 (refine ad (if_neg (by(refine ad hd ?_);exact Nd)) ?_)
 refine WF (XV ?_);refine WF (wpAny_dictEntries ho rfl ?_);refine WF (wpAny_dictEpoch ho rfl ?_);refine WF (AK (XV ⟨_,rfl,"dict_keyiterator",_,⟨_,Heap.get?_push_size _ rfl,rfl⟩,PySem.F.slot_dict_keyiterator_next.lookup,?_⟩));exact hQ
theorem Lg:(if Builtin.Dict_items.ownsTuple "dict_keyiterator"=true then 2 else 0)=0:=by decide
theorem iG {it d:Nat}{i ep:Nat}{es:Array Zf}{Q:Option WP->W1->Prop}(hh:A.handled=none)(hit:s.heap.IsKeyIter it d i es.size ep)
  (X7:s.heap.get? d=some (bH es ep))
  (hS:∀e h',es[i]?=some e->h'.IsKeyIter it d (i+1) es.size ep->Heap.SameBut it s.heap h'->Q (some e.key) {s with heap:=h'})
  (hN:es[i]?=none->∀h',Heap.ExtBut it s.heap h'->Q none {s with heap:=h'}):ZB (η prog w) A (pyNext (.ref it)) Q E s:=by
 refine a6 hit λo ho hc hd=>?_
 refine WF (wpAny_attempt (Jc (name:=Str.ofString "__next__") hit.typeIs PySem.F.slot_dict_keyiterator_next
  (xG PySem.F.slot_dict_keyiterator_next hit.typeIs PySem.F.entry_dict_keyiterator_next ?_ (PySem.F.args_dict_keyiterator_next_1 _))))
 refine WF (XV (WF (WF (WF (wpAny_typeNameOfWhole_keyiter hit.typeIs (XV (ad Lg (WF (wpAny_fieldsOf ho hd ?_)))))))));refine gV (c:=(Value.ref d==Value.none)=true) Nd (WF (XV (WF (wpAny_dictEntries X7 rfl ?_))));refine gV (λq=>Nd ((bne_self_eq_false _).symm.trans q)) (WF (XV (WF (wpAny_dictEpoch X7 rfl ?_))));refine gV (λq=>Nd ((bne_self_eq_false _).symm.trans q)) (XV ?_);dsimp only
 refine ad (show(if(i:Int)<0 then none else es[(i:Int).toNat]?)=es[i]? from if_neg (Od.mpr (Nq i))) ?_
 rcases hx:es[i]? with _|e
 ·refine WF ?_;refine WF (wpAny_typeNameOfWhole_keyiter hit.typeIs (XV ?_));refine WF (wpAny_setField (i:=0) (x:= .none) ho hd (LL rfl) ?_);refine WF ?_
  refine WF (AK ?_ (by size_fits))
  refine WF (m:=firstArgMember _ _) (wpAny_of_eq (a:=Value.none) rfl ?_)
  refine AK ?_ (by size_fits)
  refine WF (wpAny_handled ?_);refine ad (show A.in1.handled=none from hh) ?_;refine WF (XV (wpAny_throw ?_));refine WF (wpAny_isInstance (T:="StopIteration") (b:=true) ⟨_,Heap.get?_push_size _ rfl,rfl⟩ isSubtype_stop ?_);exact XV (hN hx _ (((Heap.SameBut.update ..).extBut.push _).push _))
 ·refine WF ?_;refine WF (wpAny_typeNameOfWhole_keyiter hit.typeIs (XV (WF (wpAny_isOneOf_keyiter hit.typeIs ?_))));refine WF (wpAny_setField (i:=1) (x:=rawInt ((i:Int)+1)) ho hd (LL rfl) ?_)
  have Md:(s.heap.update it (Obj.mapFields (·.setIfInBounds 1 (rawInt ((i:Int)+1))))).IsKeyIter it d (i+1) es.size ep:=⟨_,Heap.get?_update_self _ ho (Obj.isFreed_of_fields (Obj.data_mapFields hd _)),(Obj.cls_mapFields ..).trans hc,by rw[Obj.data_mapFields hd];rfl⟩
  refine WF (Zb (WF (wpAny_isOneOf_keyiter (s:={s with heap:=s.heap.update it (Obj.mapFields (·.setIfInBounds 1 (rawInt ((i:Int)+1))))}) Md.typeIs ?_)));exact XV (XV ⟨_,rfl,XV (hS e _ hx Md (Heap.SameBut.update ..))⟩)
def fZ (w:μ)(h:θ)(X:Nat->Prop)(φ:bm)(n:Nat)(src:Option Nat)(all:List V)(I i:Nat):Prop:=match src with
 |some r=>r<n/\h.IsListIter I (φ.a r) i
 |none=>
  (∃a items k,¬X a/\h.get? a=some (cG items k)/\aZ w h X φ n all items.toList/\h.IsListIter I a i)\/
  (∃a items k,¬X a/\h.get? a=some (ce items k)/\aZ w h X φ n all items.toList/\h.IsTupleIter I a i)\/
  (∃a b:Int,all=oH a b/\IsRangeIter h I (a+i) ((all.length:Int)-i) 1)\/
  (∃a es k,¬X a/\h.get? a=some (bH es k)/\aZ w h X φ n all (es.toList.map (·.key))/\h.IsKeyIter I a i es.size k)
theorem fZ.mono {h h':θ}{X X':Nat->Prop}{φ φ':bm}{n n':Nat}{src:Option Nat}{all:List V}{I i:Nat}(x:fZ w h X φ n src all I i)
  (hk:∀a o,¬X a->h.get? a=some o->h'.get? a=some o/\¬X' a) (hn:n<=n') (Oi:∀r,r<n->φ'.a r=φ.a r) (hI:∀o,h.get? I=some o->h'.get? I=some o):fZ w h' X' φ' n' src all I i:=by
 induction src with
 |some r=>
  obtain⟨hr,o,ho,q⟩:=x
  exact⟨L1 hr hn,o,hI o ho,by(refine ad (Oi r hr) ?_);exact q⟩
 |none=>
  refine mM x (λo7=>?_) (λo8=>?_) (λo9=>?_) λQq=>?_
  ·obtain⟨a,items,k,hX,ho,hi,o,q1,q2⟩:=o7;exact .inl ⟨a,items,k,(hk a _ hX ho).2,(hk a _ hX ho).1,hi.mono hk hn Oi,o,hI o q1,q2⟩
  ·obtain⟨a,items,k,hX,ho,hi,o,q1,q2⟩:=o8;exact .inr (.inl ⟨a,items,k,(hk a _ hX ho).2,(hk a _ hX ho).1,hi.mono hk hn Oi,o,hI o q1,q2⟩)
  ·refine bv o9 λa b e q=>?_;exact .inr (.inr (.inl ⟨a,b,e,hI _ q⟩))
  ·obtain⟨a,es,k,hX,ho,hi,o,q1,q2⟩:=Qq;exact .inr (.inr (.inr ⟨a,es,k,(hk a _ hX ho).2,(hk a _ hX ho).1,hi.mono hk hn Oi,o,hI o q1,q2⟩))
noncomputable def Fa (n:String):Bool:=!(["enumerate","zip","dict_itemiterator","dict_reverseitemiterator","odict_iterator","itertools.zip_longest","itertools.pairwise"].contains n)
theorem fZ.cls {h:θ}{X:Nat->Prop}{φ:bm}{n:Nat}{src:Option Nat}{all:List V}{I i:Nat}(x:fZ w h X φ n src all I i):∃o t,h.get? I=some o/\o.cls=.type t/\Fa t=true:=by
 induction src with
 |some r=>
  obtain⟨hr,o,ho,q,_⟩:=x
  exact⟨o,_,ho,q,by decide⟩
 |none=>
  refine mM x (λo15=>?_) (λo16=>?_) (λRV=>?_) λRU=>?_
  ·obtain⟨a,items,k,hX,ho,hi,o,q1,q2,_⟩:=o15
   exact⟨o,_,q1,q2,by decide⟩
  ·obtain⟨a,items,k,hX,ho,hi,o,q1,q2,_⟩:=o16;exact⟨o,_,q1,q2,rfl⟩
  ·refine bv RV λa b e q=>?_;exact⟨_,_,q,rfl,rfl⟩
  ·obtain⟨a,es,k,hX,ho,hi,o,q1,q2,_⟩:=RU;exact⟨o,_,q1,q2,rfl⟩
theorem Fb {I:Nat}{o:Obj}{t:String}{target:Expr}{v:WP}{Q:Unit->W1->Prop}(ho:s.heap.get? I=some o)(hc:o.cls=.type t)(hn:Fa t=true)(hQ:Q () s) :
  ZB (η prog w) A (Hy target (.ref I) v) Q E s:=by
 have e:ZB (η prog w) A (pure ()) Q E s:=XV hQ
 have k:∀a,ZB (η prog w) A (Hy (.Tuple [] 0 ⟨0,0,0,0⟩) (.ref I) (.ref a)) Q E s:=λa=>by
  refine WF (wpAny_load ho ?_);refine ad hc ?_
  rcases o.data with _|_|_|_|_|_|_|_|_|_|_<;>first|exact e|exact gV (λq=>Nd (((Rr _).mp hn).symm.trans (PY.mp q).1)) e
 rcases target with _|_|_|_|_|_|_|_|_|_|_|_|_|_|_|_|_|_|_|_|_|_|_|_|_|_|_<;>first|exact e|(rcases v with _|_|_|_|_|_|_|_|_|_|_<;>first|exact e|exact k _)
theorem iH {h:θ}{a:Nat}{items:Array WP}{k:Nat}(e:h.get? a=some (ce items k)):h.IsTuple a items:=⟨_,e,rfl,k,rfl⟩
theorem pz {h:θ}{a:Nat}{q:Obj->Prop}(x:∃o,h.get? a=some o/\q o):(h.get? a).isSome=true:=by obtain⟨o,e,_⟩:=x;(refine ad e ?_);rfl
theorem aZ.back {h:θ}{X:Nat->Prop}{n:Nat}{l:List V}{vs:List WP}{i:Nat}{x:WP}(r:aZ w h X φ n l vs)(e:vs[i]?=some x):∃v,l[i]?=some v/\VR w h X φ n v x:=by
 have hl:i<l.length:=r.length▸(Mt.mp e).1;exact(r.get (MU hl)).elim λy q=>⟨_,MU hl,Option.some.inj (q.1.symm.trans e)▸q.2⟩
theorem aZ.none {h:θ}{X:Nat->Prop}{n:Nat}{l:List V}{vs:List WP}{i:Nat}(r:aZ w h X φ n l vs)(e:vs[i]?=none):l[i]?=none:=Rq.mpr (r.length▸Rq.mp e)
theorem zC {r:Nat}{all:List V}(h:guard (some r) all σ=true):σ.g r=.list all:=by
 have key:∀o,vC all o=true->o=.list all:=λo h=>by
  rcases o with l|_|_|_<;>first|exact ak h|exact congrArg AO.list (of_decide_eq_true h)
 exact key _ h
theorem Gx {a b:Int}{i:Nat}{v:V}(h:(oH a b)[i]?=some v):v=.int (a+i):=by
 have h:=M8.symm.trans h;exact zb h λj q=>congrArg (λk:Nat=>V.int (a+k)) ((Mt.mp q).2.symm.trans (List.getElem_range ..))
section
variable {src:Option Nat}{all:List V}{I i:Nat}{Q:Option WP->W1->Prop}
structure NX (w:μ)(T:qz)(i':θ)(P:Nat->Prop)(φ:bm)(σ:St)(s:W1)(src:Option Nat)(all:List V)(I i:Nat)(Q:Option WP->W1->Prop):Prop where
 S:SR w T i' P φ σ s.heap
 pI:P I
 sm:∀v vc s',all[i]?=some v->aw w T i' P (λb=>b=I) φ σ s φ σ s'->fZ w s'.heap (XF σ φ P) φ σ.n src all I (i+1)->VR w s'.heap (XF σ φ P) φ σ.n v vc->Q (some vc) s'
 nn:all[i]?=none->∀h',Heap.ExtBut I s.heap h'->Q none {s with heap:=h'}
theorem NX.kp (N:NX w T i' P φ σ s src all I i Q){h':θ}(hs:Heap.SameBut I s.heap h')(b:Nat)(o:Obj)(hX:¬XF σ φ P b)(e:s.heap.get? b=some o):h'.get? b=some o:=hs.extBut b o (λz=>hX (.inr (z▸N.pI))) e
theorem NX.lst {a:Nat}{items:Array WP}{k:Nat}(N:NX w T i' P φ σ s src all I i Q)(hh:A.handled=none)(ho:s.heap.get? a=some (cG items k))(hi:aZ w s.heap (XF σ φ P) φ σ.n all items.toList)(hit:s.heap.IsListIter I a i)
  (K:∀h',Heap.SameBut I s.heap h'->h'.IsListIter I a (i+1)->fZ w h' (XF σ φ P) φ σ.n src all I (i+1)):ZB (η prog w) A (pyNext (.ref I)) Q E s:=by
 rcases hq:items[i]? with _|x
 ·exact wpAny_pyNext_list_end hh hit (bA ho) hq λh' eb=>N.nn (hi.none (Pb.trans hq)) _ eb
 ·exact(hi.back (Pb.trans hq)).elim λv q=>wpAny_pyNext_list_item hit (bA ho) hq λh' Md hs=>N.sm v x _ q.1 (aw.same N.S N.pI hs (pz Md)) (K h' hs Md) (q.2.same N.pI hs)
theorem NX.tup {a:Nat}{items:Array WP}{k:Nat}(N:NX w T i' P φ σ s none all I i Q)(hh:A.handled=none)(hX:¬XF σ φ P a)(ho:s.heap.get? a=some (ce items k))(hi:aZ w s.heap (XF σ φ P) φ σ.n all items.toList)(hit:s.heap.IsTupleIter I a i):ZB (η prog w) A (pyNext (.ref I)) Q E s:=by
 rcases hq:items[i]? with _|x
 ·exact wpAny_pyNext_tuple_end hh hit (iH ho) hq λh' eb=>N.nn (hi.none (Pb.trans hq)) _ eb
 ·exact(hi.back (Pb.trans hq)).elim λv q=>wpAny_pyNext_tuple_item hit (iH ho) hq λh' Md hs=>N.sm v x _ q.1 (aw.same N.S N.pI hs (pz Md)) (.inr (.inl ⟨a,items,k,hX,N.kp hs _ _ hX ho,hi.same N.pI hs,Md⟩)) (q.2.same N.pI hs)
theorem NX.dct {a:Nat}{es:Array Zf}{k:Nat}(N:NX w T i' P φ σ s none all I i Q)(hh:A.handled=none)(hX:¬XF σ φ P a)(ho:s.heap.get? a=some (bH es k))(hi:aZ w s.heap (XF σ φ P) φ σ.n all (es.toList.map (·.key)))(hit:s.heap.IsKeyIter I a i es.size k):ZB (η prog w) A (pyNext (.ref I)) Q E s:=by
 have hm:∀{o},es[i]?=o->(es.toList.map (·.key))[i]?=o.map (·.key):=λq=>M8.trans (congrArg _ (Pb.trans q));refine iG hh hit ho (λe h' hq Md hs=>?_) λhq h' eb=>N.nn (hi.none (hm hq)) _ eb;exact(hi.back (hm hq)).elim λv q=>N.sm v _ _ q.1 (aw.same N.S N.pI hs (pz Md)) (.inr (.inr (.inr ⟨a,es,k,hX,N.kp hs _ _ hX ho,hi.same N.pI hs,Md⟩))) (q.2.same N.pI hs)
theorem NX.rng {a b:Int}(N:NX w T i' P φ σ s none all I i Q)(hh:A.handled=none)(e:all=oH a b)(hit:IsRangeIter s.heap I (a+i) ((all.length:Int)-i) 1):ZB (η prog w) A (pyNext (.ref I)) Q E s:=by
 rcases hv:all[i]? with _|v
 ·exact wpAny_pyNext_range_end hh hit (YL (M1.mpr (Rq.mp hv))) λh' eb=>N.nn hv _ eb
 ·have ev:v=.int (a+i):=Gx (e▸hv);have r:∀h tk,VR w h (XF σ φ P) φ σ.n v (.int (a+i) tk):=λh tk=>ad ev ⟨tk,rfl⟩;refine wpAny_pyNext_range_item hit (Int.sub_pos_of_lt (Ot.mpr (Mt.mp hv).1)) λh' Md hs=>N.sm v _ _ hv (aw.same N.S N.pI hs (ba Md)) (.inr (.inr (.inl ⟨a,b,e,?_⟩))) (r _ _);exact aR (Int.add_assoc a i 1) (aR (Int.sub_sub (all.length:Int) i 1) Md)
theorem vQ (S:SR w T i' P φ σ s.heap)(pI:P I)(hg:guard src all σ=true)(it:fZ w s.heap (XF σ φ P) φ σ.n src all I i)(hh:A.handled=none)
  (L5:∀v vc s',all[i]?=some v->aw w T i' P (λb=>b=I) φ σ s φ σ s'->fZ w s'.heap (XF σ φ P) φ σ.n src all I (i+1)->VR w s'.heap (XF σ φ P) φ σ.n v vc->Q (some vc) s')
  (OQ:all[i]?=none->∀h',Heap.ExtBut I s.heap h'->Q none {s with heap:=h'}):ZB (η prog w) A (pyNext (.ref I)) Q E s:=by
 have N:NX w T i' P φ σ s src all I i Q:=⟨S,pI,L5,OQ⟩;rcases src with _|r
 ·refine mM it (λq=>jz q λa items k hX ho hi hit=>N.lst hh ho hi hit λh' hs Md=> .inl ⟨a,items,k,hX,N.kp hs _ _ hX ho,hi.same pI hs,Md⟩) (λq=>jz q λa items k hX ho hi hit=>N.tup hh hX ho hi hit) (λq=>bv q λa b e hit=>N.rng hh e hit) λq=>jz q λa es k hX ho hi hit=>N.dct hh hX ho hi hit
 ·exact aL (S.list it.1 (zC hg)).2 λitems k ho hi hz=>N.lst hh ho hi it.2 λh' hs Md=>⟨it.1,Md⟩
theorem vR {a b:Int}:(oH a b).length=(b-a).toNat:=(LN ..).trans O'
theorem rj {a b:Int}:Builtin.Range.rangeSize a b 1=((oH a b).length:Int):=by
 rw[vR]
 refine(if_pos (by decide):Builtin.Range.rangeSize a b 1=if a<b then(b-a-1) / 1+1 else 0).trans ?_
 by_cases h:a<b
 ·rw[if_pos h,Int.ediv_one,YQ,YK (Int.sub_nonneg_of_le (Ul h))]
 ·rw[if_neg h,Int.toNat_of_nonpos (YL (Od.mp h))];rfl
theorem vS {i:Int}(h0:0<=i)(h1:i<=100000):Builtin.Range.rangeFitsLong i=true:=dB (decide_eq_true (Rx (by decide) h0)) (decide_eq_true (WV h1 (by decide)))
theorem xU {a b:Int}(o1:d0 a=true)(o2:d0 b=true):Builtin.Range.small a b 1=true:=by
 have a0:=qA o1;have b0:=qA o2;have hl:(((b-a).toNat:Nat):Int)<=100000:=M1.mpr (Int.toNat_le.mpr (Rx (Int.sub_le_self _ a0.1) b0.2):(b-a).toNat<=100000);have e:Builtin.Range.rangeFitsLong (Builtin.Range.rangeSize a b 1)=true:=ad (rj.trans (congrArg Nat.cast vR)) (vS (Nq _) hl);exact dB (dB (dB (dB (vS a0.1 a0.2) (vS b0.1 b0.2)) rfl) e) ((OH _ _).mpr (.inr ((congrArg Builtin.Range.rangeFitsLong (Int.add_zero b)).trans (vS b0.1 b0.2))))
def kf (w:μ)(P:Nat->Prop)(φ:bm)(σ:St)(s:W1)(src:Option Nat)(all:List V)(Q:WP->W1->Prop):Prop:=∀s',fG s.heap s'.heap (λa=>a=s.heap.objs.size)->aF s s'->(∀N h',fG s.heap h' N->(∀o,s'.heap.get? s.heap.objs.size=some o->h'.get? s.heap.objs.size=some o)->fZ w h' (XF σ φ (ee P N)) φ σ.n src all s.heap.objs.size 0)->Q (.ref s.heap.objs.size) s'
theorem kf.push {Q:WP->W1->Prop}(h:kf w P φ σ s src all Q)(o:Obj)(ho:∀N h',fG s.heap h' N->h'.get? s.heap.objs.size=.some o->fZ w h' (XF σ φ (ee P N)) φ σ.n src all s.heap.objs.size 0)(hf:o.isFreed=false:=by rfl) :
  Q (.ref s.heap.objs.size) {s with heap:=s.heap.push o}:=h _ (fG.push _ o hf) (aF.push s o) λN h' n hI=>ho N h' n (hI _ (Heap.get?_push_size _ hf))
theorem vT {x:V}{xc:WP}{Q:WP->W1->Prop}(S:SR w T i' P φ σ s.heap)(hx:VR w s.heap (XF σ φ P) φ σ.n x xc)(e:bV σ x=some (all,src))(h:kf w P φ σ s src all Q):ZB (η prog w) A (pyIter xc) Q E s:=by
 rcases x with _|_|_|_|l|l|⟨ks,vs⟩|r|⟨a,b⟩<;>first|exact au e|skip
 ·refine bF (P:=λall src=>kf w P φ σ s src all Q->_) e (λh=>?_) h;exact hx.abB λa items k hX ho hi hz=>wpAny_pyIter_tuple (iH ho) (h.push _ λN h' n hI=> .inr (.inl ⟨a,items,k,(XF.more n hX ho).2,(XF.more n hX ho).1,hi.more n,_,hI,rfl,rfl⟩))
 ·refine bF (P:=λall src=>kf w P φ σ s src all Q->_) e (λh=>?_) h;exact hx.abv λa items k hX ho hi hz=>wpAny_pyIter_list (bA ho) (h.push _ λN h' n hI=> .inl ⟨a,items,k,(XF.more n hX ho).2,(XF.more n hX ho).1,hi.more n,_,hI,rfl,rfl⟩)
 ·refine bF (P:=λall src=>kf w P φ σ s src all Q->_) e (λh=>?_) h;refine hx.elim λa q=>q.elim λes q=>q.elim λk q=>ad q.1 (lB q.2.2.1 q.2.2.2.1 (h.push _ λN h' n hI=> .inr (.inr (.inr ⟨a,es,k,(XF.more n q.2.1 q.2.2.2.1).2,(XF.more n q.2.1 q.2.2.2.1).1,q.2.2.2.2.1.more n,_,hI,rfl,rfl⟩))))
 ·refine hx.abn λhr=>?_
  rcases hg:σ.g r with l|_|_|_<;>rw[show bV σ (.ref r)=Kg r (σ.g r)from rfl,hg]at e<;>first|exact au e|skip
  refine bF (P:=λall src=>kf w P φ σ s src all Q->_) e (λh=>?_) h;exact aL (S.list hr hg).2 λitems k ho hi hz=>wpAny_pyIter_list (bA ho) (h.push _ λN h' n hI=>⟨hr,_,hI,rfl,rfl⟩)
 ·refine bF (P:=λall src=>kf w P φ σ s src all Q->_) e (λh=>?_) h;obtain⟨o1,o2,x,t,u,y,rfl,hX,ho⟩:=hx;refine wpAny_pyIter_range ho (xU o1 o2) (h.push _ λN h' n hI=> .inr (.inr (.inl ⟨a,b,rfl,?_⟩)))
  have:IsRangeIter h' s.heap.objs.size a ((oH a b).length:Int) 1:=rj▸hI
  exact ad (Int.add_zero a) (ad (Int.sub_zero _) this)
end
theorem xV {src:Option Nat}{all:List V}{I i:Nat}{X:Nat->Prop}{n:Nat}{Q:WP->W1->Prop}(t:fZ w s.heap X φ n src all I i)(h:Q (.ref I) s):ZB (η prog w) A (pyIter (.ref I)) Q E s:=by
 induction src with
 |some r=>exact wpAny_pyIter_listiter t.2 h
 |none=>
  refine mM t (λU1=>?_) (λUY=>?_) (λo35=>?_) λo36=>?_
  ·refine jz U1 λa items k hX ho hi hit=>?_;exact wpAny_pyIter_listiter hit h
  ·refine jz UY λa items k hX ho hi hit=>?_;exact wpAny_pyIter_tupleiter hit h
  ·refine bv o35 λa b e hit=>?_;exact wpAny_pyIter_rangeiter hit h
  ·refine jz o36 λa es k hX ho hi hit=>?_;exact wpAny_pyIter_keyiter hit h
end
structure bS (D:Wd)(w:μ)(i':θ):Prop where
 kin:D.K.In i'
 top:∃p loose mg mb,TopRead p loose mg mb i'
 acv:∀x v,D.glob x=some (.val v)->∃vc,Ke D.K HJ x=some (some vc)/\∀φ,VR w i' (λ_=>False) φ 0 v vc
 gfn:∀x f,D.glob x=some (.fn f)->Ke D.K HJ x=some (some (.ref (D.abu f)))
 acw:∀x c,D.glob x=some (.cls c)->Ke D.K HJ x=some (some (.ref (D.T.cls c)))
 gbi:∀x b,D.glob x=some (.bi b)->Ke D.K HJ x=some none/\bootBuiltins x=some (CG b)/\x≠"__name__"
 kfn:∀f F,D.P.fn f=some F->keepIn D.K (.ref (D.abu f))=true
 acr:∀c,D.T.okc c=true->keepIn D.K (.ref (D.T.cls c))=true
 plain:∀c,D.T.okc c=true->plainGet D.K (D.T.cls c) Str.empty=true
 aca:∀c,D.T.okc c=true->hasDictIn D.K (D.T.cls c)=true
 own:∀c f,D.T.okc c=true->f<D.T.nf->uV D.K (.ref (D.T.cls c)) (D.T.abg f)=some none
 sets:∀c,D.T.okc c=true->uV D.K (.ref (D.T.cls c)) "__setattr__"=some (some (.builtin "object.__setattr__"))/\plainOver D.K (D.T.cls c)=true
 π:∀c m f,D.T.okc c=true->D.P.π c m=some f->uV D.K (.ref (D.T.cls c)) (D.abo m)=some (some (.ref (D.abu f)))/\isFn D.K (.ref (D.abu f))=true/\(D.P.fn f).isSome=true
 acq:∀m f,f<D.T.nf->D.abo m≠D.T.abg f
 acb:∀f g,f<D.T.nf->g<D.T.nf->D.T.abg f=D.T.abg g->f=g
 okc:∀c,(D.P.init c).isSome=true->D.T.okc c=true
 makes:∀c,D.T.okc c=true->makesIn D.K (D.T.cls c)=true
 ini:∀c f,D.P.init c=some (some f)->uV D.K (.ref (D.T.cls c)) "__init__"=some (some (.ref (D.abu f)))/\typeIn D.K (.ref (D.abu f))=some (.type "function")/\(D.P.fn f).isSome=true
 acs:∀c,D.P.init c=some none->uV D.K (.ref (D.T.cls c)) "__init__"=some (some (.builtin "object.__init__"))
 abQ:D.abo oJ="append"/\D.abo Gb="pop"/\D.abo Gc="get"
section
variable {prog:Θ}{w:μ}{A:ψ}{E:WP->W1->Prop}{D:Wd}{i':θ}{P W:Nat->Prop}{φ:bm}{σ:St}{s:W1}
theorem VR.handed {h:θ}{X:Nat->Prop}{n:Nat}{x:V}{v:WP}(r:VR w h X φ n x v):handedIn v=true:=by
 rcases x with _|_
 ·obtain rfl:=r;rfl
 ·obtain rfl:=r;rfl
 ·refine VR.abf r λt=>?_;rfl
 ·refine bv r λx t e78 _=>?_;refine ad e78 ?_;rfl
 ·refine fh r λa i k e91 _=>?_;refine ad e91 ?_;rfl
 ·refine fh r λa i k XB _=>?_;refine ad XB ?_;rfl
 ·refine fh r λa i k QU _=>?_;refine ad QU ?_;rfl
 ·refine VR.abn r λ_=>?_;rfl
 ·obtain⟨-,-,x,t,u,y,rfl,-⟩:=r;rfl
theorem i8 {h:θ}{d:Nat}{m:ζ->Option WP}(n:h.Ns d m):∃o,h.get? d=some o/\∀name,lookIn name o=some (m name):=by
 refine jz n λo es ep ho hd hk hf=>?_;refine⟨o,ho,λname=>?_⟩;unfold lookIn;refine ad hd ?_
 have:=hf name
 unfold nsFind findBy at this;rw[<- Array.find?_toList]at this;dsimp only
 cases e:es.toList.find? (·.key.isStr name)with
 |some en=>rw[e]at this;(refine aR this ?_);rfl
 |none=>
  rw[e]at this
  have hr:¬es.toList.any (·.refKey)=true:=by
   rw[Qf];intro UE;refine ag UE λx hx hr=>?_;refine gf (hk x (YU.mp hx)) λnn t hq=>?_
   simp[DictEntry.refKey,hq]at hr
  dsimp only
  (refine ad (if_neg hr) ?_;refine aR this ?_)
  rfl
theorem SR.inst {r c:Nat}{fs:List (Nat×V)}{h:θ}(S:SR w D.T i' P φ σ h)(hr:r<σ.n)(hg:σ.g r=.inst c fs) :
  D.T.okc c=true/\φ.d r≠φ.a r/\h.get? (φ.a r)=some (Ds (D.T.cls c) (φ.d r))/\∃m,CF h (φ.d r) m fs.length/\ub w D.T h (XF σ φ P) φ σ.n fs m:=aR (P:=OR w D.T h (XF σ φ P) φ σ.n r) hg (S.obj r hr)
theorem bS.here (F:bS D w i'){h:θ}(S:SR w D.T i' P φ σ h):D.K.In h:=F.kin.keeps S.old
theorem InstAt.abP {h:θ}{x d C:Nat}{o:Obj}(h1:h.get? x=some (Ds C d))(h2:h.get? d=some o):InstAt h x (Ds C d) C (some o):=⟨h1,rfl,rfl,h2⟩
theorem vU {r c f:Nat}{fs:List (Nat×V)}{v:V}{expr:Bool}{Q:WP->W1->Prop}(F:bS D w i')(S:SR w D.T i' P φ σ s.heap)(hr:r<σ.n)(hg:σ.g r=.inst c fs)(hf:cC fs f=some v)
  (h:∀vc s',aF s s'->VR w s'.heap (XF σ φ P) φ σ.n v vc->Q vc s'):ZB (η prog w) A (PySem.getAttr (.ref (φ.a r)) (D.T.abg f) expr) Q E s:=by
 obtain⟨oc,ne,ho,m,hn,f1,f2,f3⟩:=S.inst hr hg;refine ag (f1 f v hf) λvc a b=>?_;refine ag (i8 hn.ns) λo hd hl=>?_
 have My:=f3 f (by(refine ad hf ?_);rfl)
 exact get_value (F.here S) (InstAt.abP ho hd) (plainGet_of (F.plain c oc)).1 (findObj_own (F.aca c oc) (F.own c f oc My) rfl (by rw[hl,a])) b.handed (h _ _ (aF.toks s _) (b.up (aF.toks s _)))
theorem xW {r c m f:Nat}{fs:List (Nat×V)}{pl:Sem Bool}{Q:WP×List WP->W1->Prop}(F:bS D w i')(S:SR w D.T i' P φ σ s.heap)(hr:r<σ.n)(hg:σ.g r=.inst c fs)(hm:D.P.π c m=some f)
  (h:Q (.ref (D.abu f),[.ref (φ.a r)]) s):ZB (η prog w) A (getMethod (.ref (φ.a r)) (D.abo m) pl) Q E s:=by
 obtain⟨oc,ne,ho,mm,hn,f1,f2,f3⟩:=S.inst hr hg;refine ag (i8 hn.ns) λo hd hl=>?_;refine vA (F.π c m f oc hm) λg1 g2 _=>?_;refine method_fn (F.here S) (InstAt.abP ho hd) (plainGet_of (F.plain c oc)).1 (plainGet_of (F.plain c oc)).2 g1 (beq_iff_eq.mp g2) ?_ h;show(lookIn (D.abo m) o).map _=_;rw[hl]
 have:mm (D.abo m)=none:=by
  rcases e:mm (D.abo m)with _|x
  ·rfl
  ·refine ag (f2 _ (by(refine ad e ?_);rfl)) λf q1 q2=>?_
   exact absurd q2 (F.acq m f (f3 f q1))
 (refine ad this ?_);rfl
theorem fm (x:Nat×V)(l:List (Nat×V))(g:Nat):cC (x::l) g=if x.1==g then some x.2 else cC l g:=by
 unfold cC;rw[RB];rcases x.1==g with _|_<;>rfl
theorem nJ {x:Nat×V}{l:List (Nat×V)}{f:Nat}{v:V}:eO (x::l) f v=if x.1==f then(x.1,v)::l else x::eO l f v:=rfl
theorem gW (fs:List (Nat×V))(f g:Nat)(v:V):cC (eO fs f v) g=if g=f then some v else cC fs g:=by
 induction fs with
 |nil=>
  refine(fm (f,v) [] g).trans ?_
  by_cases e:g=f
  ·rw[if_pos e,e];exact if_pos (beq_self_eq_true f)
  ·rw[if_neg e];exact if_neg λq=>e (eq_of_beq q).symm
 |cons x l ih=>
  rw[nJ,fm x];rcases h:x.1==f with _|_
  ·refine(fm x _ g).trans ?_;rw[ih]
   by_cases e:g=f
   ·rw[if_pos e,if_pos e,e,h];rfl
   ·rw[if_neg e,if_neg e]
  ·refine(fm (x.1,v) l g).trans ?_;have h:=eq_of_beq h
   by_cases e:g=f
   ·rw[if_pos e,e];exact if_pos (h▸beq_self_eq_true _)
   ·have n:¬(x.1==g)=true:=λq=>e ((eq_of_beq q).symm.trans h);rw[if_neg e,if_neg n];exact(if_neg n).symm
theorem aaY {M:XI}{a:Nat}{m:ζ->Option WP}{k:Nat}{name:ζ}{v:WP}{Q:Unit->W1->Prop}(hn:CF s.heap a m k)
  (hQ:∀h',CF h' a (λx=>if x=name then some v else m x) (if(m name).isSome then k else k+1)->Heap.SameBut a s.heap h'->Q () {s with heap:=h',toks:=s.toks+1}):ZB M A (nsSet a name v) Q E s:=λΓ p _=>by
 refine F7 hn λo es ep ho hd hk hm hz=>?_;simp only[nsSet,strHash,Sem.wp_bind',Sem.wp_cmd_ask,Sem.wp_pure',Sem.wp_cmd_mkText];rw[Sem.wp_loadPart_of M Γ (λe _ s'=>E e s') p {s with toks:=s.toks+1} (o:=o) _ ho]
 have Wa:es.any (·.refKey)=false:=by
  rw[Array.any_eq_false'];intro e he;obtain⟨n,t,h⟩:=hk e he;simp[DictEntry.refKey,h]
 simp only[hd,aRefKeyMayBeTheName_eq,aRefKeyMayBeTheNameByArray,Wa,YJ,PA,if_false,Sem.wp_cmd_updatePart]
 refine⟨by(refine ad ho ?_);rfl,hQ _ ?_ (Heap.SameBut.update ..)⟩
 have TK:=hm name;unfold nsFind at TK;rw[findBy_of_findIdx?]at TK;obtain⟨c,d,dt,sl⟩:=o;subst hd;rcases hi:es.findIdx? (·.key.isStr name)with _|i
 ·have OQ:(m name).isSome=false:=by(refine aR TK ?_);simp[hi]
  refine⟨_,_,ep+1,Heap.get?_update_self _ ho (by simp only[Obj.putName_eq,Obj.putNameByArray,hi];rfl),by simp only[Obj.putName_eq,Obj.putNameByArray,hi];rfl,hk.push _ _ _ _,λx=>?_,?_⟩
  ·show _=if x=name then some v else m x
   rw[<- hm]
   exact findBy_push (λn v=>v.isStr n) es name x _ _ v (λy=>by
    show(name==y)=decide (y=name)
    by_cases h:y=name
    ·refine ad h ?_;simp
    ·have:¬name=y:=λe=>h e.symm
     simp[h,this]) hi
  ·(refine ad OQ ?_);simpa using hz
 ·have My:i<es.size:=(Array.findIdx?_eq_some_iff_getElem.mp hi).1
  have L5:(m name).isSome=true:=by(refine aR TK ?_);simp[hi,My]
  refine⟨_,_,ep,Heap.get?_update_self _ ho (by simp only[Obj.putName_eq,Obj.putNameByArray,hi];rfl),by simp only[Obj.putName_eq,Obj.putNameByArray,hi];rfl,hk.modify _ _,λx=>?_,?_⟩
  ·show _=if x=name then some v else m x
   rw[<- hm];exact findBy_modify (λn v=>v.isStr n) Value.isStr_inj es name x v i hi
  ·(refine ad L5 ?_);simpa using hz
theorem rk {fs:List (Nat×V)}{f:Nat}{v:V}:(eO fs f v).length=if(cC fs f).isSome then fs.length else fs.length+1:=by
 induction fs with
 |nil=>rfl
 |cons x l ih=>
  rw[nJ,fm];rcases x.1==f with _|_
  ·show(eO l f v).length+1=if(cC l f).isSome=true then l.length+1 else l.length+1+1
   rw[ih];rcases(cC l f).isSome with _|_<;>rfl
  ·rfl
section
variable {X X':Nat->Prop}{φ':bm}{n n' f:Nat}{h h':θ}{fs:List (Nat×V)}{m:ζ->Option WP}{v:V}{c:WP}
theorem ub.has (F:bS D w i')(R:ub w D.T h X φ n fs m)(hf:f<D.T.nf):(m (D.T.abg f)).isSome=(cC fs f).isSome:=by
 rcases q:cC fs f with _|u
 ·rcases q2:m (D.T.abg f)with _|u
  ·rfl
  ·exact(R.2.1 _ (q2▸rfl)).elim λg q3=>ak ((congrArg Rp q).symm.trans (F.acb f g hf (R.2.2 g q3.1) q3.2▸q3.1))
 ·exact(R.1 f u q).elim λvc q1=>congrArg Rp q1.1
theorem ub.put (F:bS D w i')(R:ub w D.T h X φ n fs m)(hf:f<D.T.nf)(hv:VR w h X φ n v c)(mv:∀{y vc},VR w h X φ n y vc->VR w h' X' φ' n' y vc):ub w D.T h' X' φ' n' (eO fs f v) λx=>if x=D.T.abg f then some c else m x:=by
 refine⟨λg u Qz=>?_,λy hy=>?_,λg hg=>?_⟩
 ·have Qz:=(gW ..).symm.trans Qz
  by_cases e:g=f
  ·exact⟨c,if_pos (congrArg _ e),aT ((if_pos e).symm.trans Qz) (mv hv)⟩
  ·have Qz:=(if_neg e).symm.trans Qz;exact(R.1 g u Qz).elim λvc q=>⟨vc,(if_neg λz=>e (F.acb g f (R.2.2 g (Qz▸rfl)) hf z)).trans q.1,mv q.2⟩
 ·by_cases e:y=D.T.abg f
  ·exact⟨f,ad (gW ..) (ad (if_pos rfl) rfl),e⟩
  ·exact(R.2.1 y ((congrArg Rp (if_neg e)).symm.trans hy)).elim λg q=>⟨g,ad (gW ..) (by by_cases e:g=f<;>simp only[e,if_true,if_false];rfl;exact q.1),q.2⟩
 ·have hg:=(congrArg Rp (gW ..)).symm.trans hg
  by_cases e:g=f
  ·exact e▸hf
  ·exact R.2.2 g ((congrArg Rp (if_neg e)).symm.trans hg)
theorem CF.line {a k:Nat}(x:CF h a m k)(hk:k<=aq):∃o,h.get? a=some o/\o.data.pastItsLine=none:=F7 x λo es ep q1 q2 _ _ q3=>⟨o,q1,ad q2 (pastItsLine_dict (Ru (eZ (Lk q3 hk))))⟩
end
theorem nK {x z:V}{f:Nat}{G:V->Prop}(e:getAttr x f σ=some z)(k:∀r c fs,σ.g r=.inst c fs->cC fs f=some z->G (.ref r)):G x:=by
 rcases x with _|_|_|_|_|_|_|r|_<;>first|exact au e|skip
 have e:CP f (σ.g r)=some z:=e
 rcases hg:σ.g r with _|_|⟨c,fs⟩|_<;>rw[hg]at e<;>first|exact au e|exact k r c fs hg e
theorem Gy {r cl f:Nat}{fs:List (Nat×V)}{v:V}{c:WP}{Q:Unit->W1->Prop}(F:bS D w i')(S:SR w D.T i' P φ σ s.heap)(hr:r<σ.n)(hg:σ.g r=.inst cl fs)(hlen:fs.length<100)(hv:VR w s.heap (XF σ φ P) φ σ.n v c)
  (hf:f<D.T.nf) (h:∀s',aw w D.T i' P (λ_=>False) φ σ s φ (σ.set r (.inst cl (eO fs f v))) s'->Q () s'):ZB (η prog w) A (setAttr (.ref (φ.a r)) (D.T.abg f) c) Q E s:=by
 have L3:=nH hg nofun;obtain⟨oc,ne,ho,m,hn,R⟩:=S.inst hr hg;refine ag (i8 hn.ns) λo hd hl=>?_;have X:=F.here S;have I:InstAt s.heap (φ.a r) (Ds (D.T.cls cl) (φ.d r)) (D.T.cls cl) (some o):=InstAt.abP ho hd
 refine set_plain X I (F.sets cl oc).1 (osa_open (s:={s with toks:=s.toks+1}) X I (F.sets cl oc).2 (r:=none) (by unfold takerIn;rw[F.own cl f oc hf];rfl) λb=>?_)
 refine ag (any_some (F.aca cl oc)) λcd hc Rg=>?_;refine WF (XV (WF (WF (wpAny_loadPart ho (WF ((looks_clsIn X hc).here (s:={s with toks:=s.toks+1}) ?_))))));refine ad Rg ?_;refine XV (a:=some (φ.d r)) (WF (XV (WF ?_)));refine aaY (s:={s with toks:=s.toks+1}) hn λh' Qw hs=>?_
 have Qw:=aR (P:=λb:Bool=>CF h' (φ.d r) (λx=>if x=D.T.abg f then some c else m x) (if b then fs.length else fs.length+1)) (R.has F hf) Qw
 have hk:(if(cC fs f).isSome then fs.length else fs.length+1)<=aq:=by
  rcases(cC fs f).isSome with _|_
  ·exact Lk hlen (by decide)
  ·exact Lk (NN hlen) (by decide)
 refine ag (Qw.line hk) λo' NR MJ=>WF (wpAny_lookBehind NR MJ (XV (h _ (aw.upd (S.upd hr L3 (.inr rfl) hs (kH Qw.ns) ?_)))));exact⟨oc,ne,hs.extBut _ _ ne.symm ho,_,ad rk Qw,R.put F hf hv λq=>q.mono (λa ob hX e=>⟨hs.extBut a ob (λz=>hX (.inl ⟨r,hr,L3,.inr z⟩)) e,λq=>q.elim (λq=>hX (.inl (iY q L3))) λq=>hX (.inr q)⟩) (Lv _) λ_ _=>rfl⟩
theorem lC {x v:V}{f:Nat}{σ':St}{a c:WP}{Q:Unit->W1->Prop}(F:bS D w i')(S:SR w D.T i' P φ σ s.heap)(hx:VR w s.heap (XF σ φ P) φ σ.n x a)(hv:VR w s.heap (XF σ φ P) φ σ.n v c)
  (hf:f<D.T.nf) (e:dc x f v σ=some σ') (h:∀s',aw w D.T i' P (λ_=>False) φ σ s φ σ' s'->Q () s'):ZB (η prog w) A (setAttr a (D.T.abg f) c) Q E s:=by
 refine kG (G:=λx σ'=>VR w s.heap (XF σ φ P) φ σ.n x a->(∀s',aw w D.T i' P (λ_=>False) φ σ s φ σ' s'->Q () s')->_) e (λr o e hx h=>hx.abn λhr=>?_) hx h
 rcases hg:σ.g r with _|_|⟨cl,fs⟩|_<;>rw[hg]at e<;>first|exact au e|skip
 exact dy e λhl e=>Gy F S hr hg hl hv hf (λs' st=>h s' (Option.some.inj e▸st))
end
section
variable {prog:Θ}{w:μ}{A:ψ}{E:WP->W1->Prop}{T:qz}{i':θ}{P W:Nat->Prop}{φ:bm}{σ:St}{s:W1}
theorem vV {α:Type}{M:XI}{c:Prop}[Decidable c]{a b:Sem α}{Q:α->W1->Prop}(hc:c)(h:ZB M A a Q E s):ZB M A (ite c a b) Q E s:=by(refine ad (if_pos hc) ?_);exact h
theorem zD {α:Type}{M:XI}{c:Prop}[Decidable c]{a b:Sem α}{Q:α->W1->Prop}(hc:¬c)(h:ZB M A b Q E s):ZB M A (ite c a b) Q E s:=by(refine ad (if_neg hc) ?_);exact h
theorem xX (hh:A.handled=none)(I d:Nat)(MT:d≠I)(es:Array Zf)(ep:Nat) :
  Walks prog w A I [I,d] [I] es.size (λi v=>∃e,es[i]?=some e/\v=e.key) (λi h=>h.IsKeyIter I d i es.size ep/\h.get? d=some (bH es ep)) where
 sub:=λb hb=>by simp at hb;simp[hb]
 frame:=λ_ _ _ st hk=>⟨st.1.at λo e=>hk I (by simp) o e,hk d (by simp) _ st.2⟩
 item:=λi s Q E hi st hQ=>iG hh st.1 st.2 (λe h' hq Md M3=>hQ _ h' s.toks ⟨e,hq,rfl⟩ ⟨Md,M3.extBut _ _ MT st.2⟩ λb o hb e=>M3.extBut b o (λh=>hb (h▸LI)) e) λhn=>absurd hi (Qe.mpr (YI.mp hn))
 done:=λs Q E st hQ=>iG hh st.1 st.2 (λe h' hq=>absurd (Array.getElem?_eq_some_iff.mp hq).1 (Xc _)) λ_ h' OC=>hQ h' s.toks λb o hb e=>OC b o (λh=>hb (h▸LI)) e
 self:=λ_ _ _ _ st hQ=>wpAny_pyIter_keyiter st.1 hQ
theorem zE {es:Array Zf}{acc:Array WP}(x:ItemsOf (λi v=>∃e,es[i]?=some e/\v=e.key) acc es.size):acc.toList=es.toList.map (·.key):=by
 apply W6
 intro i
 (refine ad M8 ?_;refine ad Pb ?_;refine ad Pb ?_)
 rcases e:acc[i]? with _|v
 ·have:es[i]?=none:=by
   rw[YI]at e⊢
   (refine aR x.1 ?_);exact e
  (refine ad this ?_);rfl
 ·refine ag (x.2 i v e) λen q1 e5=>?_;refine ad e5 ?_
  (refine ad q1 ?_);rfl
theorem rm {d:Nat}{es:Array Zf}{ep:Nat}{Q:List WP->W1->Prop}(hh:A.handled=none)(hs:(d==Di)=false)(ho:s.heap.get? d=some (bH es ep))(Ω:es.size<=DK)
  (hQ:∀s',aF s s'->Q (es.toList.map (·.key)) s'):ZB (η prog w) A (collect (.ref d)) Q E s:=by
 have My:d<s.heap.objs.size:=Heap.lt_size ho;have We:s.heap.objs.size≠d:=O0 My;unfold collect;refine WF (wpAny_runValue (codeAny_builtin PySem.F.entry_proto_collect ?_));rw[Around.under_plainId PySem.F.plain_proto_collect _];show ZB _ A.in1 (newList [] >>= λl=>again (.builtin "list.__iadd__" ⟨[l,.ref d],[]⟩)) _ _ s;refine WF (AK ?_);refine XV ⟨plainId_quiet PySem.F.plain_list_iadd _,codeAny_builtin PySem.F.entry_list_iadd ?_⟩;rw[Around.under_plainId PySem.F.plain_list_iadd _]
 generalize PM:({s with heap:=s.heap.push {cls:= .type "list",data:= .seq ([]:List WP).toArray}}:W1)=Lj
 have Sr:Lj.heap=s.heap.push {cls:= .type "list",data:= .seq ([]:List WP).toArray}:=by rw[<- PM]
 have g1:aF s Lj:=by rw[<- PM];exact aF.push s _
 have N8:Lj.heap.get? d=some (bH es ep):=g1.2.2.2 _ _ ho
 have PV:Lj.heap.get? s.heap.objs.size=some {cls:= .type "list",data:= .seq ([]:List WP).toArray}:=by rw[Sr];exact Heap.get?_push_size _ rfl
 show ZB _ A.in1 (Builtin.List.listExtendWith (.ref s.heap.objs.size) (.ref d) (.ref s.heap.objs.size)) _ _ _;unfold Builtin.List.listExtendWith;have hT:Lj.TypeIs (.ref d) "dict":=⟨_,N8,rfl⟩;refine WF (wpAny_typeOf hT ?_);refine zD (λe=>?_) ?_
 ·exact(OH _ _▸OH _ _▸e:((_\/_)\/_)).elim (·.elim (λe=>We (eq_of_beq e)) (by decide)) (by decide)
 refine WF (lB hs N8 ?_)
 generalize hI:Lj.heap.objs.size=I
 generalize Nk:({Lj with heap:=Lj.heap.push {cls:= .type "dict_keyiterator",data:= .fields #[.ref d,.int 0 0,.int es.size 0,.int ep 0]}}:W1)=Lp
 have g2:aF Lj Lp:=by rw[<- Nk];exact aF.push Lj _
 have PQ:Lp.heap.get? d=some (bH es ep):=g2.2.2.2 _ _ N8;have PU:=g2.2.2.2 _ _ PV
 have Qy:Lp.heap.IsKeyIter I d 0 es.size ep:=by
  rw[<- Nk,<- hI];exact⟨_,Heap.get?_push_size _ rfl,rfl,rfl⟩
 have hdI:d≠I:=by rw[<- hI];exact MC (Heap.lt_size N8)
 have SA:s.heap.objs.size≠I:=by rw[<- hI];exact MC (Heap.lt_size PV)
 have OX:Lp.TypeIs (.ref d) "dict":=⟨_,PQ,rfl⟩;refine WF (Zb ?_);unfold Builtin.List.listLengthHint;refine WF (u1 (name:=Str.ofString "__len__") OX PySem.F.slot_dict_len.lookup ?_);show ZB _ A.in1 (isInstance (.ref d) (.type "dict") >>= _) _ _ _
 refine WF (wpAny_isInstance (T:="dict") (b:=true) OX (by rw[isSubtype_type];kernel_rfl) ?_)
 refine zD (by decide) ?_
 refine vV (by kernel_rfl) ?_
 refine WF (wpAny_typeOf OX (XV ?_))
 refine vV (by kernel_rfl) ?_
 refine WF (uf ?_);refine WF ?_;show ZB _ A.in1 (updateSeq s.heap.objs.size (·.push .none) >>= λ_=>updateSeq s.heap.objs.size (·.pop)) _ _ _;refine WF (wpAny_updateSeq PU rfl ?_);have PT:=Heap.get?_update_self (Obj.mapSeq (·.push Value.none)) PU rfl;refine wpAny_updateSeq PT rfl ?_;have Sz:=Heap.get?_update_self (Obj.mapSeq (·.pop)) PT rfl;have Δ:∀b o,b≠s.heap.objs.size->Lp.heap.get? b=some o->((Lp.heap.update s.heap.objs.size (Obj.mapSeq (·.push Value.none))).update s.heap.objs.size (Obj.mapSeq (·.pop))).get? b=some o:=λb o hb e=>(Heap.get?_update_other _ _ (Ne.symm hb)).trans ((Heap.get?_update_other _ _ (Ne.symm hb)).trans e);have W:=(xX (prog:=prog) (w:=w) (A:=A.in1) hh I d hdI es ep).toS
 refine XV ⟨plainId_quiet PySem.F.plain_extend_loop _,codeAny_extend_loopS W Ω _ (λq=>(L7.mp q).elim SA λq=>We (LV.mp q)) _ es.size 0 _ _ _ rfl (LP _)
  ⟨Qy.at λo e=>Δ I o SA.symm e,Δ d _ We.symm PQ⟩ Sz (ItemsOf.nil _) λs' XH c' hm hS' Wb=>?_⟩
 show ZB _ A (load s.heap.objs.size >>= _) _ _ s';refine WF (wpAny_load hS' ?_);refine XV ?_;show Q XH.toList s';rw[zE Wb];have g3:=g1.trans g2;have Sy {b o} (e:s.heap.get? b=some o):b≠s.heap.objs.size:=MC (Heap.lt_size e);exact hQ s' ⟨hm.gens.trans g3.1,hm.os.trans g3.2.1,hm.drawn.trans g3.2.2.1,λb o e=>hm.heap b o (λq=>(L7.mp q).elim (Sy e) λq=>MC (hI▸Heap.lt_size (g1.2.2.2 _ _ e)) (LV.mp q)) (Δ b o (Sy e) (g3.2.2.2 _ _ e))⟩
end
theorem rn {x y:Int}{l:List Int}{P:List Int->Prop}(h1:x<=y->P (x::y::l))(h2:¬x<=y->P (y::ez x l)):P (ez x (y::l)):=if h:x<=y then ad (show ez x (y::l)=_ from if_pos h) (h1 h)else ad (show ez x (y::l)=_ from if_neg h) (h2 h)
theorem kg (x:Int)(l:List Int):(ez x l).Perm (x::l):=by
 induction l with
 |nil=>exact List.Perm.refl _
 |cons y l ih=>exact rn (P:=λz=>z.Perm (x::y::l)) (λ_=>List.Perm.refl _) λ_=>(List.Perm.cons y ih).trans (List.Perm.swap x y l)
theorem fa:∀l:List Int,(cT l).Perm l
 |[]=>List.Perm.refl _
 |x::l=>(kg x _).trans (List.Perm.cons x (fa l))
theorem mZ (x:Int)(l:List Int):l.Pairwise (·<=·)->(ez x l).Pairwise (·<=·):=by
 induction l with
 |nil=>exact λ_=>SP _ _
 |cons y l ih=>
  intro h;have h':=OG.mp h
  exact rn (P:=λz=>z.Pairwise (·<=·)) (λhx=>OG.mpr ⟨λz hz=>(L7.mp hz).elim (λo=>ad o hx) λhz=>Rx hx (h'.1 z hz),h⟩)
   λhx=>OG.mpr ⟨λz hz=>(L7.mp ((kg x l).mem_iff.mp hz)).elim (λo=>ad o (Ul (Int.lt_of_not_ge hx))) (h'.1 z),ih h'.2⟩
theorem fS:∀l:List Int,(cT l).Pairwise (·<=·)
 |[]=>List.Pairwise.nil
 |x::l=>mZ x _ (fS l)
theorem m0 {a:List Int}:∀{b:List Int},a.Perm b->a.Pairwise (·<=·)->b.Pairwise (·<=·)->a=b:=by
 induction a with
 |nil=>exact λh _ _=>h.nil_eq
 |cons x a ih=>
  intro b h ha hb;rcases b with _|⟨y,b⟩
  ·exact h.eq_nil
  have ha:=OG.mp ha;have hb:=OG.mp hb;have e:x=y:=(L7.mp (h.mem_iff.mp LI)).elim id λh1=>(L7.mp (h.mem_iff.mpr LI)).elim Eq.symm λh2=>Int.le_antisymm (ha.1 y h2) (hb.1 x h1);subst e;exact congrArg (x::·) (ih ((List.perm_cons x).mp h) ha.2 hb.2)
theorem lD {l:List V}:∀{x:List Int},iC l=some x->l=x.map .int:=by
 induction l with
 |nil=>exact λh=>aT h rfl
 |cons a l ih=>
  intro x h
  rcases a with _|_|i|_|_|_|_|_|_<;>first|exact au h|skip
  exact zb (G:=λx=>V.int i::l=x.map .int) h λy hy=>congrArg (V.int i::·) (ih hy)
theorem rp {w:μ}{h:θ}{X:Nat->Prop}{φ:bm}{n:Nat}:∀{x:List Int} {vs:List WP},aZ w h X φ n (x.map .int) vs->IntsAre vs x
 |[],vs,hx=>ad (show vs=[]from hx) .nil
 |i::x,vs,hx=>by
  refine aL hx λy ys Xm UL h2=>?_;refine ad Xm ?_;refine VR.abf UL λt=>?_;exact .cons _ _ (rp h2)
theorem lE {w:μ}{h:θ}{X:Nat->Prop}{φ:bm}{n:Nat}:∀{x:List Int} {vs:List WP},IntsAre vs x->aZ w h X φ n (x.map .int) vs
 |[],vs,hx=>by rcases hx with _|_;rfl
 |i::x,vs,hx=>by
  cases hx with
  |cons _ t hx=>exact⟨_,_,rfl,⟨t,rfl⟩,lE hx⟩
section
variable {prog:Θ}{w:μ}{A:ψ}{E:WP->W1->Prop}{T:qz}{i':θ}{P W:Nat->Prop}{φ:bm}{σ:St}{s:W1}
theorem uk {d:Nat}{es:Array Zf}{ep:Nat}{ns:List Int}{Q:WP->W1->Prop}(hh:A.handled=none)(hs:(d==Di)=false)(ho:s.heap.get? d=some (bH es ep))(SD:es.size<64)
  (hI:IntsAre (es.toList.map (·.key)) ns)
  (hQ:∀a s' (out:Array WP) k,aF s s'->s.heap.get? a=none->s'.heap.get? a=some (cG out k)->IntsAre out.toList (cT ns)->Q (.ref a) s'):ZB (η prog w) A (call (.builtin "sorted") [.ref d]) Q E s:=by
 refine Calls.call_function_entry kind_sorted plain_sorted entry_sorted (args_sorted1 _) ?_;unfold Builtin.«sorted»;refine WF (m:=checkCount "sorted" 1 1 _) (XV ?_)
 refine WF (rm hh hs ho (by rw[PySem.sizeLine_eq];exact Ll [_] 1 M2 (.k 16777216) [(1,.a M2 On,SZ)] rfl SD) λLj g=>?_)
 refine WF (wpAny_newList ?_ (by rw[PySem.sizeLine_eq];simp;exact Ll [_] 1 M2 (.k 16777216) [(1,.a M2 On,SZ)] rfl SD))
 have VY:(Lj.heap.push (seqObj "list" (es.toList.map (·.key)).toArray 0)).get? Lj.heap.objs.size=some (seqObj "list" (es.toList.map (·.key)).toArray 0):=Heap.get?_push_size _ rfl;show ZB _ _ _ _ _ {Lj with heap:=Lj.heap.push (seqObj "list" (es.toList.map (·.key)).toArray 0)}
 refine WF (Zb (xG slot_list_sort ⟨_,VY,rfl⟩ entry_list_sort (list_sort_tree (s:={Lj with heap:=Lj.heap.push (seqObj "list" (es.toList.map (·.key)).toArray 0)}) VY hI (by simpa using SD) λout ns' a1 a2 a3=>⟨_,rfl,?_⟩) (args_list_sort _)))
 have e:ns'=cT ns:=m0 (a2.trans (fa ns).symm) a3 (fS ns);subst e;obtain⟨k,hk⟩:=sortedHeap_at (out:=out) VY
 have fr:s.heap.get? Lj.heap.objs.size=none:=by
  cases e:s.heap.get? Lj.heap.objs.size with
  |none=>rfl
  |some o=>have:=g.2.2.2 _ _ e;rw[aW]at this;cases this
 refine XV ⟨_,rfl,hQ _ _ out k ⟨g.1,g.2.1,g.2.2.1,λb o e=>?_⟩ fr hk a1⟩;have e1:=g.2.2.2 b o e;have My:b<Lj.heap.objs.size:=Heap.lt_size e1;show(sortedHeap _ _ _ _).get? b=some o
 rw[sortedHeap_old (MC My) (by rw[size_push'];exact PD My)]
 exact Heap.get?_push_of_some _ e1
theorem aZ.one {h:θ}{X:Nat->Prop}{n:Nat}{x:V}{vs:List WP}(r:aZ w h X φ n [x] vs):∃a,vs=[a]/\VR w h X φ n x a:=by
 refine aL r λa as Xj h1 h2=>?_;refine ad Xj ?_;refine ad h2 ?_;exact⟨a,rfl,h1⟩
theorem aZ.two {h:θ}{X:Nat->Prop}{n:Nat}{x y:V}{vs:List WP}(r:aZ w h X φ n [x,y] vs):∃a b,vs=[a,b]/\VR w h X φ n x a/\VR w h X φ n y b:=by
 refine aL r λa as Xl h1 h2=>?_;refine ad Xl ?_;refine ag h2.one λb Xk h3=>?_;refine ad Xk ?_;exact⟨a,b,rfl,h1,h3⟩
theorem pB {f:V->Option V}{vs:List V}{z:V}(e:CE f vs=some z):∃x,vs=[x]/\f x=some z:=by
 rcases vs with _|⟨x,_|⟨y,l⟩⟩
 ·exact au e
 ·exact⟨x,rfl,e⟩
 ·exact au e
theorem Dh {o:AO}{z:V}(e:F9 o=some z):∃l,o=.list l/\z=.int l.length:=by
 rcases o with _|_<;>first|exact⟨_,rfl,(Option.some.inj e).symm⟩|exact au e
set_option tactic.hygienic true in
theorem zF {o:AO}{z:V}(e:vB o=some z):∃l ns,o=.dict l/\l.length<64/\iC (l.map (·.1))=some ns/\z=.lst ((cT ns).map .int):=by
 rcases o with _|_<;>try exact au e
 rename_i l
 by_cases h:l.length<64
 ·refine ag (Ry.mp ((if_pos h).symm.trans e)) λns h1 h2=>?_;exact⟨l,ns,rfl,h,h1,h2.symm⟩
 ·cases (if_neg h).symm.trans e
section
variable {x y z:V}{cs:List WP}{Q:WP->W1->Prop}(S:SR w T i' P φ σ s.heap)(h:∀vc s',aF s s'->VR w s'.heap (XF σ φ P) φ σ.n z vc->Q vc s')
include S h
theorem Gz (hv:aZ w s.heap (XF σ φ P) φ σ.n [x] cs)(e:IU σ x=some z):ZB (η prog w) A (call (CG .len) cs) Q E s:=by
 rcases x with _|_<;>try rcases e with _|_
 ·obtain⟨a,rfl,p,items,k,rfl,hX,ho,hi,hz⟩:=hv.one;refine PyProof.Rows.len_tuple (gv ho) (xH hz) ?_;rw[hi.size];exact h _ _ (aF.toks s _) ⟨_,rfl⟩
 ·obtain⟨a,rfl,p,items,k,rfl,hX,ho,hi,hz⟩:=hv.one;refine PyProof.Rows.len_list (bA ho) (xH hz) ?_;rw[hi.size];exact h _ _ (aF.toks s _) ⟨_,rfl⟩
 ·refine ag (Dh e) λl hg e60=>?_;subst e60;refine a6 hv.one λa e73 hr e74=>?_;refine ad e73 ?_;subst e74;obtain⟨-,items,k,ho,hi,hz⟩:=S.list hr hg;refine PyProof.Rows.len_list (bA ho) (xH hz) ?_;refine ad hi.size ?_;exact h _ _ (aF.toks s _) ⟨_,rfl⟩
theorem xY {i:Int}(hv:aZ w s.heap (XF σ φ P) φ σ.n [.int i] cs)(e:(if d0 i then some (V.rng 0 i)else none)=some z):ZB (η prog w) A (call (CG .range) cs) Q E s:=by
 by_cases hc:d0 i=true
 ·cases (if_pos hc).symm.trans e
  obtain⟨a,rfl,t,rfl⟩:=hv.one;exact call_range_1 (h _ _ ⟨rfl,rfl,rfl,λ_ _ e=>Heap.get?_push_of_some _ e⟩ ⟨rfl,hc,_,_,_,_,rfl,S.fresh (aW _),Heap.get?_push_size _ rfl⟩)
 ·cases (if_neg hc).symm.trans e
theorem xZ {i k:Int}(hv:aZ w s.heap (XF σ φ P) φ σ.n [.int i,.int k] cs)(e:(if d0 i&&d0 k then some (V.rng i k)else none)=some z):ZB (η prog w) A (call (CG .range) cs) Q E s:=by
 by_cases hc:(d0 i&&d0 k)=true
 ·cases (if_pos hc).symm.trans e
  rw[MW]at hc;refine aL hv.two λa b Xo UP UO=>?_;refine ad Xo ?_;refine VR.abf UP λt=>?_;refine VR.abf UO λu=>?_;exact call_range_2 (h _ _ ⟨rfl,rfl,rfl,λ_ _ e=>Heap.get?_push_of_some _ e⟩ ⟨hc.1,hc.2,_,_,_,_,rfl,S.fresh (aW _),Heap.get?_push_size _ rfl⟩)
 ·cases (if_neg hc).symm.trans e
theorem aaA (hh:A.handled=none)(hv:aZ w s.heap (XF σ φ P) φ σ.n [x] cs)(e:E5 σ x=some z):ZB (η prog w) A (call (CG .sorted) cs) Q E s:=by
 rcases x with _|_<;>try exact au e
 refine cS (zF e) λl ns hg SD υ e7=>?_;subst e7;refine a6 hv.one λa e12 hr QT=>?_;refine ad e12 ?_;refine ad QT ?_;obtain⟨-,es,ep,D,hk,-⟩:=S.dict hr hg;replace hk:=(lD υ)▸hk
 have hlen:es.size=ns.length:=by have:=hk.length;simpa using this
 have O6:l.length=ns.length:=by have:=congrArg Nr (lD υ);simpa using this
 refine uk hh (S.abI hr) D.ho (Ll [_,_,_] 1 (.a M2 On) SZ [(1,.a No On,SZ),(1,M2,NE),(1,NE,No)] rfl SD (LU hlen) (iU O6)) (rp hk) λa s' out k g fr ho hI=>h _ _ g ⟨a,out,k,rfl,S.fresh fr,ho,lE hI,?_⟩
 have e1:out.size=(cT ns).length:=by have:=(lE (w:=w) (h:=s.heap) (X:=λ_=>True) (φ:=φ) (n:=0) hI).length;simpa using this
 (refine ad e1 ?_;refine ad ((fa ns).length_eq) ?_)
 unfold aq;lia
theorem zG (hv:aZ w s.heap (XF σ φ P) φ σ.n [x] cs)(e:IV x=some z):ZB (η prog w) A (call (CG .tuple) cs) Q E s:=by
 rcases x with _|_<;>try rcases e with _|_
 obtain⟨a,rfl,p,items,k,rfl,hX,ho,hi,hz⟩:=hv.one;refine call_tuple_list (bA ho) (λh' hk=>h _ _ ⟨rfl,rfl,rfl,λb o e=>Heap.get?_push_of_some _ (hk b o e)⟩ ⟨_,items,0,rfl,?_,Heap.get?_push_size _ rfl,?_,hz⟩) (eZ hz)
 ·refine S.fresh ?_;rcases e:s.heap.get? h'.objs.size with _|o
  ·rfl
  ·have:=hk _ _ e;rw[aW]at this;exact au this
 ·exact hi.mono (λa o hX e=>⟨Heap.get?_push_of_some _ (hk a o e),hX⟩) (Lv _) λ_ _=>rfl
omit S in
theorem GA {i j:Int}(hh:A.handled=none)(hv:aZ w s.heap (XF σ φ P) φ σ.n [.int i,.int j] cs)(e:some (V.int (if j > i then j else i))=some z):ZB (η prog w) A (call (CG .max) cs) Q E s:=by
 obtain rfl:=Option.some.inj e;refine aL hv.two λa b Xn UN UM=>?_;refine ad Xn ?_;refine VR.abf UN λt=>?_;refine VR.abf UM λu=>?_;refine max_two_ints hh λh' tk hk=>?_
 by_cases c:j > i
 ·simp only[if_pos c]
  exact h _ _ ⟨rfl,rfl,rfl,hk⟩ (by(refine ad (if_pos c) ?_);exact⟨_,rfl⟩)
 ·simp only[if_neg c]
  exact h _ _ ⟨rfl,rfl,rfl,hk⟩ (by(refine ad (if_neg c) ?_);exact⟨_,rfl⟩)
end
theorem ul {b:BI}{vs:List V}{cs:List WP}{z:V}{Q:WP->W1->Prop}(S:SR w T i' P φ σ s.heap)(hv:aZ w s.heap (XF σ φ P) φ σ.n vs cs)(hh:A.handled=none)(e:builtin b σ vs=some z)
  (h:∀vc s',aF s s'->VR w s'.heap (XF σ φ P) φ σ.n z vc->Q vc s'):ZB (η prog w) A (call (CG b) cs) Q E s:=by
 induction b with
 |len=>obtain⟨x,rfl,e⟩:=pB e;exact Gz S h hv e
 |sorted=>obtain⟨x,rfl,e⟩:=pB e;exact aaA S h hh hv e
 |tuple=>obtain⟨x,rfl,e⟩:=pB e;exact zG S h hv e
 |max=>
  induction vs using List.cs with
  |nil=>exact au e
  |cons x vs=>
   refine ag (pB e) λy Xw e=>?_;subst Xw;refine ag (gz e) λi Xu e=>?_;subst Xu;refine ag (gz e) λj Xs e=>?_;subst Xs;exact GA h hh hv e
 |range=>
  rcases vs with _|⟨x,_|⟨y,_|⟨t,l⟩⟩⟩
  ·exact au e
  ·refine ag (gz e) λi Xr e=>?_;subst Xr;exact xY S h hv e
  ·refine ag (gz e) λi Xq e=>?_;subst Xq;refine ag (gz e) λj Xp e=>?_;subst Xp;exact xZ S h hv e
  ·exact au e
end
structure cA where
 scope:K6
 κ:tH
noncomputable def fo (sc:K6)(x:ζ):Option Zk:=sc.names.lookup x
noncomputable def GB:V->Const->Bool
 |.none,.none=>true
 |.bool a,.bool b=>a==b
 |.int a,.int b=>decide (a=b)
 |.str s,.str x=>decide (x.cps.toList=s)
 |_,_=>false
structure Vw where
 a:Expr:=default
 b:Expr:=default
 c:Expr:=default
 l:List Expr:=[]
 x:ζ:=PySem.Str.empty
 v:Const:= .none
 k:Nat:=0
 lo:Option Expr:=none
 hi:Option Expr:=none
 g:List GW:=[]
 sc:K6:=default
 u:Bool:=false
noncomputable def vw:Expr->Vw
 |.BoolOp _ l _=>{l:=l}
 |.BinOp a _ b _=>{a:=a,b:=b}
 |.UnaryOp op a _=>{a:=a,u:=op.ctorIdx==1}
 |.IfExp a b c _=>{a:=a,b:=b,c:=c}
 |.ListComp a g sc _=>{a:=a,g:=g,sc:=sc}
 |.Compare a _ l _=>{a:=a,l:=l,b:=l.headD default}
 |.Call a l _ _=>{a:=a,l:=l}
 |.Constant v k _=>{v:=v,k:=k}
 |.Attribute a _ _=>{a:=a}
 |.Subscript a b _=>{a:=a,b:=b}
 |.Name x _=>{x:=x}
 |.List l _=>{l:=l}
 |.Tuple l k _=>{l:=l,k:=k}
 |.Slice lo hi _ _=>{lo:=lo,hi:=hi}
 |_=>{}
noncomputable def kI (x:Expr):Bool:=x.ctorIdx != 22
noncomputable def lF (x:Expr):Bool:=x.ctorIdx != 7
noncomputable def gX (x:Expr):Bool:=x.ctorIdx != 8&&x.ctorIdx != 9&&x.ctorIdx != 10
noncomputable def rq (x:Expr):Bool:=x.ctorIdx != 25
noncomputable def fH (x:Expr):Bool:=x.ctorIdx != 16||!(vw x).l.isEmpty
noncomputable def jJ (x:Expr):Bool:=!(vw x).u&&x.ctorIdx != 0&&x.ctorIdx != 5&&x.ctorIdx != 15
noncomputable def pC (D:Wd)(C:cA)(x:ζ):Bool:=fo C.scope x==some .globalImplicit&&!(x==("__debug__":ζ))
noncomputable def Je (D:Wd)(C:cA)(x:ζ)(v:V):Bool:=pC D C x&&(match D.glob x with|some (.val u)=>decide (u=v)|_=>false)
theorem aaV {o:Option GV}{v:V}(h:(match o with|some (.val u)=>decide (u=v)|_=>false)=true):o=some (.val v):=by
 rcases o with _|g
 ·exact ak h
 ·rcases g with u|_|_|_<;>first|exact congrArg (λu=>some (GV.val u)) (of_decide_eq_true h)|exact ak h
noncomputable def Fc (f:Nat):Option GV->Bool
 |none=>false
 |some v=>match v with
  |.fn g=>g==f
  |_=>false
noncomputable def zH (f:Nat):Option GV->Bool
 |none=>false
 |some v=>match v with
  |.cls g=>g==f
  |_=>false
noncomputable def Fd (f:BI):Option GV->Bool
 |none=>false
 |some v=>match v with
  |.bi g=>decide (g=f)
  |_=>false
theorem zI {f:Nat}{o:Option GV}(h:Fc f o=true):o=some (.fn f):=by
 rcases o with _|(_|g|_|_)<;>first|exact ak h|exact eq_of_beq h▸rfl
theorem x0 {f:Nat}{o:Option GV}(h:zH f o=true):o=some (.cls f):=by
 rcases o with _|(_|_|g|_)<;>first|exact ak h|exact eq_of_beq h▸rfl
theorem zJ {f:BI}{o:Option GV}(h:Fd f o=true):o=some (.bi f):=by
 rcases o with _|(_|_|_|g)<;>first|exact ak h|exact of_decide_eq_true h▸rfl
noncomputable def vW (D:Wd)(C:cA)(x:ζ)(f:Nat):Bool:=pC D C x&&Fc f (D.glob x)&&(D.P.fn f).isSome
noncomputable def vX (D:Wd)(C:cA)(x:ζ)(c:Nat):Bool:=pC D C x&&zH c (D.glob x)&&(D.P.init c).isSome
noncomputable def vY (D:Wd)(C:cA)(x:ζ)(b:BI):Bool:=pC D C x&&Fd b (D.glob x)
noncomputable def m4 (C:cA)(x:ζ)(i:Nat):Bool:=(C.κ.lookup x==some i)&&!(x==("__debug__":ζ))&&!(x==("__classdict__":ζ))
noncomputable def fb (C:cA)(x:ζ):Bool:=fo C.scope x==some .local||fo C.scope x==some .cell
noncomputable def ru (x:Expr):Option ζ:=if x.ctorIdx==23 then some (vw x).x else none
noncomputable def lG (x:Expr):Option (List Expr):=if x.ctorIdx==25 then some (vw x).l else none
theorem GC {x:Expr}{y:ζ}{G:Expr->Prop}(h:ru x=some y)(k:∀p,G (.Name y p)):G x:=by
 rcases x with _|_|_|_|_|_|_|_|_|_|_|_|_|_|_|_|_|_|_|_|_|_|_|_|_|_|_<;>first|exact au h|exact aT h (λk=>k _) k
theorem Dj {x:Expr}{xs:List Expr}{G:Expr->Prop}(h:lG x=some xs)(k:∀n p,G (.Tuple xs n p)):G x:=by
 rcases x with _|_|_|_|_|_|_|_|_|_|_|_|_|_|_|_|_|_|_|_|_|_|_|_|_|_|_<;>first|exact au h|exact aT h (λk=>k _ _) k
theorem lH {α:Type}{o:Option α}{f:α->Bool}{G:Prop}(h:o.any f=true)(k:∀y,o=some y->f y=true->G):G:=by
 rcases o with _|y
 ·exact ak h
 ·exact k y rfl h
noncomputable def GD (C:cA)(i:Nat)(x:Expr):Bool:=(ru x).any λy=>m4 C y i&&fb C y
theorem um {C:cA}{i:Nat}{x:Expr}{G:Expr->Prop}(h:GD C i x=true)(k:∀y p,m4 C y i=true/\fb C y=true->G (.Name y p)):G x:=lH h λy e h=>GC e λp=>k y p (bj h)
noncomputable def nL (C:cA):List Nat->List Expr->Bool
 |[],l=>l.isEmpty
 |i::is,l=>match l with
  |[]=>false
  |x::xs=>GD C i x&&nL C is xs
noncomputable def m5 (C:cA)(t:ff)(x:Expr):Bool:=match t with
 |.loc i=>GD C i x
 |.tup is=>(lG x).any (nL C is)
noncomputable def vZ (v:tH):Bool:=decide (v.map (·.2)).Nodup
noncomputable def lI (sc outer:K6):K6:={sc with names:=sc.names.map fun (n,k)=>if(k==.free&&outer.kind==.function&&fo outer n==some .cell)then(n,.cell)else(n,k)}
noncomputable def nM (i:Nat)(x:Expr):tH:=((ru x).map λy=>(y,i)).toList
noncomputable def kh:List Nat->List Expr->tH
 |[],_=>[]
 |i::is,l=>match l with
  |[]=>[]
  |x::xs=>nM i x++kh is xs
noncomputable def jK (t:ff)(x:Expr):tH:=match t with
 |.loc i=>nM i x
 |.tup is=>((lG x).map (kh is)).getD []
noncomputable def b9 (C:cA)(sc:K6)(t:ff)(target:Expr):cA:=⟨lI sc C.scope,jK t target++C.κ.filter λp=>sc.names.lookup p.1==some .free⟩
noncomputable def lJ (C:cA)(x:ζ):Bool:=(C.κ.lookup x).isSome&&(fo C.scope x==some .cell||fo C.scope x==some .free)
noncomputable def i9 (C:cA)(sc:K6):Bool:=decide (sc.kind=.function)&&sc.names.all (λp=>p.2 != .cell)&&sc.names.all (λp=>!(p.2==.local)||sc.names.lookup p.1==some .local) &&
  sc.names.all (λp=>!(p.2==.free)||lJ C p.1)&&decide (sc.names.map (·.1)).Nodup
noncomputable def GE (sc:K6)(x:Expr):Bool:=(ru x).any λy=>sc.names.lookup y==some .local
noncomputable def uo (sc:K6)(t:ff)(x:Expr):Bool:=match t with
 |.loc _=>GE sc x
 |.tup _=>(lG x).any λxs=>xs.all (GE sc)
noncomputable def jL (C:cA)(t:ff)(g:GW)(sc:K6):Bool:=decide (g.is_async=0)&&lF g.iter&&i9 C sc&&m5 (b9 C sc t g.target) t g.target&&uo sc t g.target&&vZ (b9 C sc t g.target).κ
noncomputable def Vw.gen (u:Vw):GW:=u.g.headD default
noncomputable abbrev gB:=cA->Expr->Expr×Bool
noncomputable abbrev x9:=cA->List Expr->List Expr×Bool
noncomputable abbrev GF:=cA->Option Expr->Option Expr×Bool
section
variable (D:Wd)
noncomputable def uq (v:V):gB:=λC x=>(.Constant (vw x).v (vw x).k x.pos,GB v (vw x).v)
noncomputable def zK (v:V):gB:=λC x=>(.Name (vw x).x x.pos,Je D C (vw x).x v)
noncomputable def GG (i:Nat):gB:=λC x=>(.Name (vw x).x x.pos,m4 C (vw x).x i)
noncomputable def GH (es:List IE)(H:x9):gB:=λC x=>(.Tuple (H C (vw x).l).1 (vw x).k x.pos,(H C (vw x).l).2&&decide (es.length<=1000))
noncomputable def ya (es:List IE)(H:x9):gB:=λC x=>(.List (H C (vw x).l).1 x.pos,(H C (vw x).l).2&&decide (es.length<=1000))
noncomputable def zL:gB:=λC x=>(.Dict [] [] x.pos,true)
noncomputable def GI (op:qy)(A B:gB):gB:=λC x=>(.BinOp (A C (vw x).a).1 (qU op) (B C (vw x).b).1 x.pos,(A C (vw x).a).2&&(B C (vw x).b).2)
noncomputable def GJ (op:CD)(A B:gB):gB:=λC x=>(.Compare (A C (vw x).a).1 [Gr op] [(B C (vw x).b).1] x.pos,!behindInMarks (Gr op) (B C (vw x).b).1&&((A C (vw x).a).2&&(B C (vw x).b).2))
noncomputable def GM (no:Bool)(A:gB):gB:=λC x=>(.Compare (A C (vw x).a).1 [if no then .IsNot else .Is] [.Constant .none (vw (vw x).b).k (vw x).b.pos] x.pos,(A C (vw x).a).2)
noncomputable def IH (o:UnaryOp)(A:gB):gB:=λC x=>(.UnaryOp o (A C (vw x).a).1 x.pos,(A C (vw x).a).2)
noncomputable def nN (o:BoolOp)(H:x9):gB:=λC x=>(.BoolOp o (H C (vw x).l).1 x.pos,(H C (vw x).l).2)
noncomputable def GN (T A B:gB):gB:=λC x=>(.IfExp (T C (vw x).a).1 (A C (vw x).b).1 (B C (vw x).c).1 x.pos,(T C (vw x).a).2&&((A C (vw x).b).2&&(B C (vw x).c).2))
noncomputable def GO (A B:gB):gB:=λC x=>(.Subscript (A C (vw x).a).1 (B C (vw x).b).1 x.pos,(A C (vw x).a).2&&(B C (vw x).b).2)
noncomputable def ur (A:gB)(L H:GF):gB:=λC x=>(.Subscript (A C (vw x).a).1 (.Slice (L C (vw (vw x).b).lo).1 (H C (vw (vw x).b).hi).1 none (vw x).b.pos) x.pos,(A C (vw x).a).2&&((L C (vw (vw x).b).lo).2&&(H C (vw (vw x).b).hi).2))
noncomputable def zM (f:Nat)(A:gB):gB:=λC x=>(.Attribute (A C (vw x).a).1 (D.T.abg f) x.pos,fH (A C (vw x).a).1&&(A C (vw x).a).2)
noncomputable def ja (ok:cA->ζ->Bool)(es:List IE)(H:x9):gB:=λC x=>(.Call (.Name (vw (vw x).a).x (vw x).a.pos) (H C (vw x).l).1 [] x.pos,ok C (vw (vw x).a).x&&((H C (vw x).l).2&&decide (es.length<25)))
noncomputable def zN (m:Nat)(es:List IE)(A:gB)(H:x9):gB:=λC x=>(.Call (.Attribute (A C (vw (vw x).a).a).1 (D.abo m) (vw x).a.pos) (H C (vw x).l).1 [] x.pos,fH (A C (vw (vw x).a).a).1&&(decide ((vw x).a.pos.endLine=x.pos.line)&&(decide (es.length<25)&&((A C (vw (vw x).a).a).2&&(H C (vw x).l).2))))
noncomputable def zO (t:ff)(E I:gB)(H:x9):gB:=λC x=>
 (.ListComp (E (b9 C (vw x).sc t (vw x).gen.target) (vw x).a).1 [⟨(vw x).gen.target,(I C (vw x).gen.iter).1,(H (b9 C (vw x).sc t (vw x).gen.target) (vw x).gen.ifs).1,0⟩] (vw x).sc x.pos,
  jL C t ⟨(vw x).gen.target,(I C (vw x).gen.iter).1,(H (b9 C (vw x).sc t (vw x).gen.target) (vw x).gen.ifs).1,0⟩ (vw x).sc&&((I C (vw x).gen.iter).2&&((E (b9 C (vw x).sc t (vw x).gen.target) (vw x).a).2&&(H (b9 C (vw x).sc t (vw x).gen.target) (vw x).gen.ifs).2)))
noncomputable def ut:gB:=λC x=>(x,kI x)
noncomputable def GQ:x9:=λC xs=>([],true)
noncomputable def zP (A:gB)(H:x9):x9:=λC xs=>((A C (xs.headD default)).1::(H C xs.tail).1,(A C (xs.headD default)).2&&(H C xs.tail).2)
noncomputable def zQ:GF:=λC o=>(none,true)
noncomputable def zR (A:gB):GF:=λC o=>(some (A C (o.getD default)).1,(A C (o.getD default)).2)
noncomputable def TE:IE->gB:=IE.rec (motive_1:=λ_=>gB) (motive_2:=λ_=>x9) (motive_3:=λ_=>GF) uq (zK D) GG GH ya ya zL (λop _ _=>GI op) (λop _ _=>GJ op) (λno _=>GM no) (λ_=>IH .Not) (λ_=>IH .USub) (λ_=>nN .And) (λ_=>nN .Or)
 (λ_ _ _=>GN) (λ_ _=>GO) (λ_ _ _=>ur) (λ_ f=>zM D f) (λf=>ja λC x=>vW D C x f) (λc=>ja λC x=>vX D C x c) (λb=>ja λC x=>vY D C x b) (λ_ m=>zN D m) (λ_ t _ _=>zO t) ut GQ (λ_ _=>zP) zQ (λ_=>zR)
noncomputable def K1:List IE->x9:=IE.rec_1 (motive_1:=λ_=>gB) (motive_2:=λ_=>x9) (motive_3:=λ_=>GF) uq (zK D) GG GH ya ya zL (λop _ _=>GI op) (λop _ _=>GJ op) (λno _=>GM no) (λ_=>IH .Not) (λ_=>IH .USub) (λ_=>nN .And) (λ_=>nN .Or)
 (λ_ _ _=>GN) (λ_ _=>GO) (λ_ _ _=>ur) (λ_ f=>zM D f) (λf=>ja λC x=>vW D C x f) (λc=>ja λC x=>vX D C x c) (λb=>ja λC x=>vY D C x b) (λ_ m=>zN D m) (λ_ t _ _=>zO t) ut GQ (λ_ _=>zP) zQ (λ_=>zR)
noncomputable def K2:Option IE->GF:=IE.rec_2 (motive_1:=λ_=>gB) (motive_2:=λ_=>x9) (motive_3:=λ_=>GF) uq (zK D) GG GH ya ya zL (λop _ _=>GI op) (λop _ _=>GJ op) (λno _=>GM no) (λ_=>IH .Not) (λ_=>IH .USub) (λ_=>nN .And) (λ_=>nN .Or)
 (λ_ _ _=>GN) (λ_ _=>GO) (λ_ _ _=>ur) (λ_ f=>zM D f) (λf=>ja λC x=>vW D C x f) (λc=>ja λC x=>vX D C x c) (λb=>ja λC x=>vY D C x b) (λ_ m=>zN D m) (λ_ t _ _=>zO t) ut GQ (λ_ _=>zP) zQ (λ_=>zR)
def dS (C:cA)(e:IE)(x:Expr):Prop:=∃y,(TE D e C y).1=x/\(TE D e C y).2=true
def dz (C:cA)(es:List IE)(xs:List Expr):Prop:=∃ys,(K1 D es C ys).1=xs/\(K1 D es C ys).2=true
def KC (C:cA)(o:Option IE)(x:Option Expr):Prop:=∃y,(K2 D o C y).1=x/\(K2 D o C y).2=true
end
noncomputable def pD (e:IE):Bool:=IE.casesOn (motive_1:=λ_=>Bool) e (λv=>v.ctorIdx==0) (λ_=>false) (λ_=>false) (λ_=>false) (λ_=>false) (λ_=>false) false (λ_ _ _=>false) (λ_ _ _=>false) (λ_ _=>false) (λ_=>false) (λ_=>false) (λ_=>false) (λ_=>false) (λ_ _ _=>false) (λ_ _=>false) (λ_ _ _=>false) (λ_ _=>false) (λ_ _=>false) (λ_ _=>false) (λ_ _=>false) (λ_ _ _=>false) (λ_ _ _ _=>false) false
theorem zT {v:V}(h:(v.ctorIdx==0)=true):v=.none:=by
 rcases v with _|_|_|_|_|_|_|_|_
 all_goals first|rfl|exact ak h
theorem zU {e:IE}:pD e=true->e=.const .none:=IE.casesOn (motive_1:=λe=>pD e=true->e=.const .none) e (λ_ h=>congrArg IE.const (zT h)) (λ_ h=>ak h) (λ_ h=>ak h) (λ_ h=>ak h) (λ_ h=>ak h) (λ_ h=>ak h) (λh=>ak h) (λ_ _ _ h=>ak h) (λ_ _ _ h=>ak h) (λ_ _ h=>ak h) (λ_ h=>ak h) (λ_ h=>ak h) (λ_ h=>ak h) (λ_ h=>ak h) (λ_ _ _ h=>ak h) (λ_ _ h=>ak h) (λ_ _ _ h=>ak h) (λ_ _ h=>ak h) (λ_ _ h=>ak h) (λ_ _ h=>ak h) (λ_ _ h=>ak h) (λ_ _ _ h=>ak h) (λ_ _ _ _ h=>ak h) (λh=>ak h)
noncomputable def rz:qy->Bool
 |.add|.sub|.bor=>true
 |_=>false
structure Sw where
 t:Expr:=default
 v:Expr:=default
 p:List χ:=[]
 q:List χ:=[]
 o:Option Expr:=none
noncomputable def sw:χ->Sw
 |.Return o _=>{o:=o}
 |.Delete l _=>{t:=l.headD default}
 |.Assign l v _=>{t:=l.headD default,v:=v}
 |.AugAssign t _ v _=>{t:=t,v:=v}
 |.For t v p _ _=>{t:=t,v:=v,p:=p}
 |.While v p _ _=>{v:=v,p:=p}
 |.If v p q _=>{v:=v,p:=p,q:=q}
 |.Expr v _=>{v:=v}
 |_=>{}
noncomputable abbrev KD:=List χ->List χ×Bool
noncomputable abbrev Jf:=cA->List χ->KD->List χ×Bool
noncomputable abbrev yb:=cA->KD
noncomputable def one (f:cA->χ->χ×Bool):Jf:=λC xs r=>((f C (xs.headD default)).1::(r xs.tail).1,(f C (xs.headD default)).2&&(r xs.tail).2)
section
variable (D:Wd)
noncomputable def pE (t:ff)(e:IE)(C:cA)(x:χ):χ×Bool:=(.Assign [(sw x).t] (TE D e C (sw x).v).1 x.pos,m5 C t (sw x).t&&((TE D e C (sw x).v).2&&(match t with|.loc _=>true|.tup _=>rq (TE D e C (sw x).v).1&&gX (TE D e C (sw x).v).1)))
noncomputable def v0 (o i e:IE)(C:cA)(x:χ):χ×Bool:=(.Assign [.Subscript (TE D o C (vw (sw x).t).a).1 (TE D i C (vw (sw x).t).b).1 (sw x).t.pos] (TE D e C (sw x).v).1 x.pos,(TE D e C (sw x).v).2&&((TE D o C (vw (sw x).t).a).2&&(TE D i C (vw (sw x).t).b).2))
noncomputable def rA (o:IE)(f:Nat)(e:IE)(C:cA)(x:χ):χ×Bool:=(.Assign [.Attribute (TE D o C (vw (sw x).t).a).1 (D.T.abg f) (sw x).t.pos] (TE D e C (sw x).v).1 x.pos,decide (f<D.T.nf)&&((TE D e C (sw x).v).2&&(TE D o C (vw (sw x).t).a).2))
noncomputable def Jg (i:Nat)(op:qy)(e:IE)(C:cA)(x:χ):χ×Bool:=(.AugAssign (.Name (vw (sw x).t).x (sw x).t.pos) (qU op) (TE D e C (sw x).v).1 x.pos,rz op&&(m4 C (vw (sw x).t).x i&&(fb C (vw (sw x).t).x&&(TE D e C (sw x).v).2)))
noncomputable def rB (o:IE)(f:Nat)(op:qy)(e:IE)(C:cA)(x:χ):χ×Bool:=(.AugAssign (.Attribute (TE D o C (vw (sw x).t).a).1 (D.T.abg f) (sw x).t.pos) (qU op) (TE D e C (sw x).v).1 x.pos,rz op&&(decide (f<D.T.nf)&&((TE D e C (sw x).v).2&&(TE D o C (vw (sw x).t).a).2)))
noncomputable def Fe (e:IE)(C:cA)(x:χ):χ×Bool:=(.Expr (TE D e C (sw x).v).1 x.pos,gX (TE D e C (sw x).v).1&&(TE D e C (sw x).v).2)
noncomputable def GR (e:IE)(C:cA)(x:χ):χ×Bool:=match (sw x).o with
 |none=>(.Return none x.pos,pD e)
 |some y=>(.Return (some (TE D e C y).1) x.pos,(TE D e C y).2)
noncomputable def Jh (C:cA)(x:χ):χ×Bool:=(.Break x.pos,true)
noncomputable def Ff (t:IE)(P Q:yb)(C:cA)(x:χ):χ×Bool:=(.If (TE D t C (sw x).v).1 (P C (sw x).p).1 (Q C (sw x).q).1 x.pos,(TE D t C (sw x).v).2&&((P C (sw x).p).2&&(Q C (sw x).q).2))
noncomputable def Fg (t:ff)(e:IE)(P:yb)(C:cA)(x:χ):χ×Bool:=(.For (sw x).t (TE D e C (sw x).v).1 (P C (sw x).p).1 [] x.pos,m5 C t (sw x).t&&(lF (TE D e C (sw x).v).1&&((TE D e C (sw x).v).2&&(P C (sw x).p).2)))
noncomputable def zV (t:IE)(P:yb)(C:cA)(x:χ):χ×Bool:=(.While (TE D t C (sw x).v).1 (P C (sw x).p).1 [] x.pos,(TE D t C (sw x).v).2&&(P C (sw x).p).2)
noncomputable def Ji (o i:IE)(C:cA)(x:χ):χ×Bool:=(.Delete [.Subscript (TE D o C (vw (sw x).t).a).1 (TE D i C (vw (sw x).t).b).1 (sw x).t.pos] x.pos,(TE D o C (vw (sw x).t).a).2&&(TE D i C (vw (sw x).t).b).2)
noncomputable def nO (o l:IE)(C:cA)(x:χ):χ×Bool:=(.Delete [.Subscript (TE D o C (vw (sw x).t).a).1 (.Slice (some (TE D l C ((vw (vw (sw x).t).b).lo.getD default)).1) none none (vw (sw x).t).b.pos) (sw x).t.pos] x.pos,(TE D o C (vw (sw x).t).a).2&&(TE D l C ((vw (vw (sw x).t).b).lo.getD default)).2)
noncomputable def v2 (i:Nat):Jf:=λC xs r=>((r xs).1,(C.κ.any λp=>p.2==i&&C.κ.lookup p.1==some i)&&(r xs).2)
noncomputable def TS:IS->Jf:=IS.rec (motive_1:=λ_=>Jf) (motive_2:=λ_=>yb) (λt e=>one (pE D t e)) (λo i e=>one (v0 D o i e)) (λo f e=>one (rA D o f e)) (λi op e=>one (Jg D i op e)) (λo f op e=>one (rB D o f op e)) (λe=>one (Fe D e)) (λe=>one (GR D e)) (one Jh)
 (λt _ _ P Q=>one (Ff D t P Q)) (λt e _ P=>one (Fg D t e P)) (λ_ t _ P=>one (zV D t P)) (λo i=>one (Ji D o i)) (λo l=>one (nO D o l)) v2 (λ_ xs _=>(xs,true)) (λ_ _=>([],true)) (λ_ _ F G C xs=>F C xs (G C))
noncomputable def II:List IS->yb:=IS.rec_1 (motive_1:=λ_=>Jf) (motive_2:=λ_=>yb) (λt e=>one (pE D t e)) (λo i e=>one (v0 D o i e)) (λo f e=>one (rA D o f e)) (λi op e=>one (Jg D i op e)) (λo f op e=>one (rB D o f op e)) (λe=>one (Fe D e)) (λe=>one (GR D e)) (one Jh)
 (λt _ _ P Q=>one (Ff D t P Q)) (λt e _ P=>one (Fg D t e P)) (λ_ t _ P=>one (zV D t P)) (λo i=>one (Ji D o i)) (λo l=>one (nO D o l)) v2 (λ_ xs _=>(xs,true)) (λ_ _=>([],true)) (λ_ _ F G C xs=>F C xs (G C))
end
theorem aV.le {A:ψ}{n k:Nat}(r:aV A n)(h:k<=n):aV A k:=⟨r.handled,by have:=r.depth;exact Ll [_,_,_,_] 1 (.a (.a (.a M2 (.m 2 No)) Re) On) NE [(2,No,Op),(1,.a (.a (.a M2 (.m 2 Op)) Re) On,NE)] rfl h this,by have:=r.units;exact Ll [_,_,_,_] 1 (.a (.a (.a M2 (.m 10 No)) TD) On) NE [(10,No,Op),(1,.a (.a (.a M2 (.m 10 Op)) TD) On,NE)] rfl h this⟩
section
variable (D:Wd)(w:μ)(i':θ)
structure aE (P:Nat->Prop)(φ:bm)(σ:St)(s:W1)(C:cA)(env:Env)(m:ζ->Option WP)(ρ:Loc):Prop where
 fr:FR w s.heap (XF σ φ P) φ σ.n P env C.κ m ρ
 sc:env.scope=C.scope
 sr:SR w D.T i' P φ σ s.heap
def aX (P:Nat->Prop)(φ:bm)(σ:St)(s:W1)(v:V)(σ':St)(Q:WP->W1->Prop):Prop:=∀φ' s' vc,aw w D.T i' P (λ_=>False) φ σ s φ' σ' s'->VR w s'.heap (XF σ' φ' P) φ' σ'.n v vc->Q vc s'
def GS (P:Nat->Prop)(φ:bm)(σ:St)(s:W1)(vs:List V)(σ':St)(Q:List WP->W1->Prop):Prop:=∀φ' s' cs,aw w D.T i' P (λ_=>False) φ σ s φ' σ' s'->aZ w s'.heap (XF σ' φ' P) φ' σ'.n vs cs->Q cs s'
def fT (P:Nat->Prop)(φ:bm)(σ:St)(s:W1)(b:Bool)(σ':St)(Q:Bool->W1->Prop):Prop:=∀φ' s',aw w D.T i' P (λ_=>False) φ σ s φ' σ' s'->Q b s'
end
section
variable {D:Wd}{w:μ}{i':θ}{P:Nat->Prop}{φ φ':bm}{σ σ':St}{s s':W1}{C:cA}{env:Env}{m:ζ->Option WP}{ρ:Loc}
theorem aE.step (t:aE D w i' P φ σ s C env m ρ)(x:aw w D.T i' P (λ_=>False) φ σ s φ' σ' s'):aE D w i' P φ' σ' s' C env m ρ:=⟨t.fr.ext t.sr x.ext,t.sc,x.sr⟩
theorem aw.vr {v:V}{vc:WP}(x:aw w D.T i' P (λ_=>False) φ σ s φ' σ' s')(r:VR w s.heap (XF σ φ P) φ σ.n v vc):VR w s'.heap (XF σ' φ' P) φ' σ'.n v vc:=r.ext x.ext λ_ z=>z.elim
theorem aw.vrs {v:List V}{vc:List WP}(x:aw w D.T i' P (λ_=>False) φ σ s φ' σ' s')(r:aZ w s.heap (XF σ φ P) φ σ.n v vc):aZ w s'.heap (XF σ' φ' P) φ' σ'.n v vc:=r.ext x.ext λ_ z=>z.elim
theorem aE.kind (t:aE D w i' P φ σ s C env m ρ)(x:ζ):env.kindOf x=fo C.scope x:=by unfold Env.kindOf fo;(refine ad t.sc ?_;rfl)
end
section
variable {prog:Θ}{w:μ}{A:ψ}{E:WP->W1->Prop}{D:Wd}{i':θ}{P W:Nat->Prop}{φ:bm}{σ:St}{s:W1}{C:cA}{env:Env}{m:ζ->Option WP}{ρ:Loc}
theorem pF {x y:ζ}(h:(!(x==y))=true):(x==y)=false:=by simpa using h
theorem jM {M:XI}{x:ζ}{pos:Pos}{v:WP}{Q:WP->W1->Prop}(F:bS D w i')(t:aE D w i' P φ σ s C env m ρ)(hc:pC D C x=true)(e:Ke D.K HJ x=some (some v))(h:Q v s) :
  ZB M A (eval (.Name x pos) env) Q E s:=by
 unfold pC at hc;simp only[MW,beq_iff_eq]at hc;refine CN F.top λp loose mg mb T=>?_
 have hk:env.kindOf x=some .globalImplicit:=by rw[t.kind];exact hc.1
 exact Name_function_global t.fr.kind hk (loadGlobal_global (by(refine ad t.fr.glob ?_);exact T.g.keeps t.sr.old) (mg_of F.kin T.g e) h) (pF hc.2)
theorem Dk {M:XI}{x:ζ}{pos:Pos}{v:WP}{Q:WP->W1->Prop}(F:bS D w i')(t:aE D w i' P φ σ s C env m ρ)(hc:pC D C x=true)(e:Ke D.K HJ x=some none)
  (hv:bootBuiltins x=some v) (hn:x≠"__name__") (h:Q v s):ZB M A (eval (.Name x pos) env) Q E s:=by
 unfold pC at hc;simp only[MW,beq_iff_eq]at hc;refine CN F.top λp loose mg mb T=>?_
 have hk:env.kindOf x=some .globalImplicit:=by rw[t.kind];exact hc.1
 exact Name_function_global t.fr.kind hk (loadGlobal_builtin (by(refine ad t.fr.glob ?_);exact T.g.keeps t.sr.old) (mg_none_of F.kin T.g e) (by(refine ad t.fr.blt ?_);exact T.b.keeps t.sr.old) ((T.builtins x hn).trans hv) h) (pF hc.2)
theorem fI {x:ζ}{i:Nat}(h:m4 C x i=true):C.κ.lookup x=some i/\(x==("__debug__":ζ))=false/\(x==("__classdict__":ζ))=false:=by
 unfold m4 at h;simp only[MW,beq_iff_eq]at h;exact⟨h.1.1,pF h.1.2,pF h.2⟩
@[elab_as_elim] theorem GT {G:V->Const->Prop}{v:V}{c:Const}(h:GB v c=true)(k0:G .none .none)(k1:∀b,G (.bool b) (.bool b))(k2:∀i,G (.int i) (.int i))(k3:∀x:ζ,G (.str x.cps.toList) (.str x)):G v c:=by
 rcases v with _|b|i|t|_|_|_|_|_<;>rcases c with _|_|_|_|_|_|_|_|_|_<;>first|exact ak h|exact k0|exact eq_of_beq h▸k1 _|exact of_decide_eq_true h▸k2 _|exact of_decide_eq_true h▸k3 _
theorem zW {v:V}{c:Const}{k:Nat}{pos:Pos}{Q:WP->W1->Prop}(S:SR w D.T i' P φ σ s.heap)(hc:GB v c=true)(h:aX D w i' P φ σ s v σ Q):ZB (η prog w) A (eval (.Constant c k pos) env) Q E s:=by
 revert h
 exact GT hc (λh=>PyProof.Rows.Constant_none (h φ s _ (aw.refl S) rfl)) (λb h=>PyProof.Rows.Constant_bool (h φ s _ (aw.refl S) rfl)) (λi h=>wpAny_Constant_int (h φ _ _ (aw.grow S (aF.toks s _)) ⟨_,rfl⟩)) λx h=>wpAny_mkText (h φ _ _ (aw.grow S (aF.toks s _)) ⟨_,_,rfl,rfl⟩)
theorem zX {h:θ}{v:V}{vc:WP}(S:SR w D.T i' P φ σ h)(r:∀φ,VR w i' (λ_=>False) φ 0 v vc):VR w h (XF σ φ P) φ σ.n v vc:=(r φ).mono (λa o _ e=>⟨S.old a o e,λq=>q.elim (λz1=>a6 z1 λr hr _ q=>q.elim (λz=>aB (S.above r hr).1 (z▸ba e)) λz=>aB (S.above r hr).2.1 (z▸ba e)) λq=>aB (S.Ψ a q).1 (ba e)⟩) (LP _) λr hr=>absurd hr (NM _)
theorem jN {x:Expr}{xs:List Expr}(h:kI x=true):Zj (x::xs) env=(false,eval x env)::Zj xs env:=by
 rcases x with _|_|_|_|_|_|_|_|_|_|_|_|_|_|_|_|_|_|_|_|_|_|_|_|_|_|_<;>first|rfl|exact ak h
theorem jO {pos:Pos}{t:Sem WP}{l:List (Bool×Sem WP)}:Zl pos ((false,t)::l)=(false,t)::Zl pos l:=rfl
theorem aM {a b:Bool}(h:(a&&b)=true):a=true:=by rcases a with _|_;exact ak h;rfl
theorem aC {a b:Bool}(h:(a&&b)=true):b=true:=by rcases a with _|_;exact ak h;exact h
theorem Dl (e:IE){C:cA}{y:Expr}(h:(TE D e C y).2=true):kI (TE D e C y).1=true:=by
 rcases e with _|_<;>first|rfl|exact h
theorem dz.cons {e:IE}{es:List IE}{xs:List Expr}(h:dz D C (e::es) xs):∃x Tr,xs=x::Tr/\kI x=true/\dS D C e x/\dz D C es Tr:=by
 obtain⟨ys,rfl,h⟩:=h;exact⟨_,_,rfl,Dl e (aM h),⟨_,rfl,aM h⟩,_,rfl,aC h⟩
theorem dz.nil {xs:List Expr}(h:dz D C [] xs):xs=[]:=by
 refine ag h λys e5 h=>?_;refine aR e5 ?_;rfl
theorem lL {es:List IE}{pos:Pos}:∀{xs:List Expr},dz D C es xs->(Zl pos (Zj xs env)).any (·.1)=false/\xs.length=es.length:=by
 induction es with
 |nil=>intro xs h;(refine ad h.nil ?_);exact⟨rfl,rfl⟩
 |cons e es ih=>
  intro xs h;refine cS h.cons λx Tr e4 h1 _ h2=>?_;refine ad e4 ?_;refine(ih h2).elim λa b=>?_
  (refine ad (jN h1) ?_;refine ad jO ?_)
  exact⟨a,congrArg Nat.succ b⟩
theorem pG {it:Expr}(h:lF it=true):∀x,foldedSetIterable it env x=pure x:=by
 have key:foldedSetIterable it env=pure:=by
  rcases it with _|_|_|_|_|_|_|_|_|_|_|_|_|_|_|_|_|_|_|_|_|_|_|_|_|_|_<;>first|rfl|exact ak h
 exact congrFun key
theorem uu {M:XI}{x:Expr}{Q:Bool->W1->Prop}(hx:jJ x=true)(h:ZB M A (eval x env) (λv Lj=>ZB M A (truthy v) Q E Lj) E s):ZB M A (isTrue x env (eval x env)) Q E s:=by
 refine isTrue_plain h ?_;rcases x with _|_|_|⟨op,_,_⟩|_|_|_|_|_|_|_|_|_|_|_|_|_|_|_|_|_|_|_|_|_|_|_
 case UnaryOp=>rcases op with _|_|_|_<;>first|rfl|exact ak hx
 all_goals first|rfl|exact ak hx
theorem v3 {o:Expr}{n:ζ}{whole:Sem WP}(h:fH o=true):attributeBase o n env whole=whole:=by
 rcases o with _|_|_|_|_|_|_|_|_|_|_|_|_|_|_|_|⟨f,_|_,_,_⟩|_|_|_|_|_|_|_|_|_|_<;>first|rfl|exact ak h|(rcases f with _|_|_|_|_|_|_|_|_|_|_|_|_|_|_|_|_|_|_|_|_|_|_|_|_|_|_<;>rfl)
theorem yd {M:XI}{x:Expr}{n:ζ}{pos:Pos}{Q:WP->W1->Prop}(h:fH x=true)(hw:ZB (η prog w) A (eval x env) (λo Lj=>ZB (η prog w) A (PySem.getAttr o n true) Q E Lj) E s) :
  ZB (η prog w) A (eval (.Attribute x n pos) env) Q E s:=by
 refine Attribute_any_ hw ?_;show(attributeBase x n env (eval x env) >>= _)=_
 (refine ad (v3 h) ?_;rfl)
theorem zY {o:Expr}{n:ζ}{ap pos:Pos}{ov:WP}{k:Nat}{args:List (Bool×Sem WP)}{Q6:List (Option ζ×Sem WP)}(hf:methodCallForm k args Q6=true)(hp:ap.endLine=pos.line) :
  methodCall o n ap pos env ov k args Q6=(holding [ov] (getMethod ov n (do return (<- importBound o env).getD true)) >>= λx=>callWith pos x.1 x.2 args Q6):=by
 have e:methodCallPos true o env ap pos=pure pos:=if_pos (beq_iff_eq.mpr hp);show(holding [ov] (calleeOf (methodCallForm k args Q6) o env ov n) >>= λx=>methodCallPos (methodCallForm k args Q6) o env ap pos >>= λp=>callWith p x.1 x.2 args Q6)=_;rw[hf,e]
 rfl
theorem aaB {x:Expr}{n:ζ}{ap pos:Pos}{xs:List Expr}{Q:WP->W1->Prop}(h:fH x=true)(hp:ap.endLine=pos.line)(hl:xs.length<25)(hs:(Zl pos (Zj xs env)).any (·.1)=false)
  (hw:∀pl,ZB (η prog w) A (eval x env) (λov Lj=>ZB (η prog w) A (getMethod ov n pl) (λfx Lp=>ZB (η prog w) A (callWith pos fx.1 fx.2 (Zl pos (Zj xs env)) []) Q E Lp) E Lj) E s) :
  ZB (η prog w) A (eval (.Call (.Attribute x n ap) xs [] pos) env) Q E s:=by
 refine methodCall_KW (pl:=(do return (<- importBound x env).getD true)) (hw _) ?_
 show(attributeBase x n env (eval x env) >>= _)=_;refine ad (v3 h) ?_
 have hf:methodCallForm (xs.length+([]:List Keyword).length) (Zl pos (Zj xs env)) (backToKw pos (keywordEach [] env))=true:=by
  have a:(Zl pos (Zj xs env)).all (λx=>!x.1)=true:=List.all_eq_not_any_not.trans (by simpa using hs)
  exact dB (dB a rfl) (decide_eq_true (L1 hl (by decide)))
 exact congrArg (eval x env >>= ·) (funext λov=>congrArg (standAt ap.atName >>= ·) (funext λ_=>zY hf hp))
end
def eC (D:Wd)(prog:Θ)(w:μ)(i':θ)(n:Nat)(cl:Call):Prop:=∀f args σ v σ',cl f args σ=some (v,σ')->(D.P.fn f).isSome=true->∀{A:ψ} {P:Nat->Prop} {φ:bm} {s:W1} {cs:List WP} {R:Dd->W1->Prop},aV A (2*n)->SR w D.T i' P φ σ s.heap->
  aZ w s.heap (XF σ φ P) φ σ.n args cs->(∀φ' s' vc,aw w D.T i' P (λ_=>False) φ σ s φ' σ' s'->VR w s'.heap (XF σ' φ' P) φ' σ'.n v vc->R (.ok (.ret vc)) s')->
  U6 (η prog w) A (.call (.ref (D.abu f)) ⟨cs,[]⟩) R s
section
variable {prog:Θ}{w:μ}{A:ψ}{E:WP->W1->Prop}{D:Wd}{i':θ}{P W:Nat->Prop}{φ:bm}{σ:St}{s:W1}{C:cA}{env:Env}{m:ζ->Option WP}{ρ:Loc}
theorem zZ (A:ψ)(C:Nat)(rest:List WP):(A.under (.builtin "type.__call__" ⟨.ref C::rest,[]⟩)).depth=A.depth+1:=rfl
theorem z0 (A:ψ)(C:Nat)(rest:List WP):(A.under (.builtin "type.__call__" ⟨.ref C::rest,[]⟩)).units=A.units+1:=rfl
theorem aV.tc {k:Nat}(r:aV A (k+1))(C:Nat)(rest:List WP):aV (A.under (.builtin "type.__call__" ⟨.ref C::rest,[]⟩)) k:=by
 refine⟨r.handled,?_,?_⟩
 ·have h:=r.depth;rw[zZ];exact Ll [_,_,_] 1 (.a (.a (.a (.a M2 On) (.m 2 No)) Re) On) NE [(1,.a (.a (.a M2 (.m 2 (.a No On))) Re) On,NE)] rfl h
 ·have h:=r.units;rw[z0];exact Ll [_,_,_] 1 (.a (.a (.a (.a M2 On) (.m 10 No)) TD) On) NE [(1,.a (.a (.a M2 (.m 10 (.a No On))) TD) On,NE)] rfl h
theorem z6 {h:θ}{d:Nat}(e:h.get? d=some emptyDict):CF h d (λ_=>none) 0:=⟨_,#[],0,e,rfl,λx hx=>by simp at hx,λ_=>rfl,Lv _⟩
noncomputable def rC (hh:θ)(C:Nat):θ:=(hh.push emptyDict).push (Ds C hh.objs.size)
theorem nP {hh:θ}{C:Nat}(b:Nat)(ob:Obj)(e:hh.get? b=some ob):(rC hh C).get? b=some ob:=Heap.get?_push_of_some _ (Heap.get?_push_of_some _ e)
theorem uv {hh:θ}{C:Nat}:(rC hh C).get? (hh.objs.size+1)=some (Ds C hh.objs.size):=by unfold rC;heap_get
section
variable {n c:Nat}{cl:Call}{vs:List V}{cs:List WP}{v:V}{σ':St}{Q:WP->W1->Prop}
theorem v4 (S:SR w D.T i' P φ σ s.heap)(oc:D.T.okc c=true):aw w D.T i' P (λ_=>False) φ σ s (φ.put σ.n (s.heap.objs.size+1) s.heap.objs.size) (σ.new (.inst c [])) {s with heap:=rC s.heap (D.T.cls c)}:=by
 have h3:3<s.heap.objs.size:=(OZ.mp S.low).elim λo ho=>Heap.lt_size (S.old _ _ ho);have hd:(rC s.heap (D.T.cls c)).get? s.heap.objs.size=some emptyDict:=Heap.get?_push_of_some _ (Heap.get?_push_size _ rfl)
 have p:=S.new (o:= .inst c []) (a:=s.heap.objs.size+1) (d:=s.heap.objs.size) nP ⟨Heap.get?_none_of_le (Mf _),ba uv⟩ ⟨aW _,ba hd⟩ (PD h3)
  ⟨oc,ad d7 (ad fR (WK _).symm),ad d7 (ad fR uv),λ_=>none,ad fR (z6 hd),λf v e=>au e,λx hx=>ak hx,λf e=>ak e⟩
 exact⟨p.1,p.2,rfl,rfl,rfl⟩
theorem nQ:VR w (rC s.heap (D.T.cls c)) (XF (σ.new (.inst c [])) (φ.put σ.n (s.heap.objs.size+1) s.heap.objs.size) P) (φ.put σ.n (s.heap.objs.size+1) s.heap.objs.size) (σ.new (.inst c [])).n (.ref σ.n) (.ref (s.heap.objs.size+1)):=⟨Oe _,ad d7 rfl⟩
theorem GU (F:bS D w i')(S:SR w D.T i' P φ σ s.heap)(hi:D.P.init c=some none)(h:aX D w i' P φ σ s (.ref σ.n) (σ.new (.inst c [])) Q):ZB (η prog w) A (call (.ref (D.T.cls c)) []) Q E s:=by
 have oc:=F.okc c (hi▸rfl);have st:=v4 S oc;have sf:=nQ (w:=w) (D:=D) (P:=P) (φ:=φ) (σ:=σ) (s:=s) (c:=c);obtain⟨hh,g,d,t,os⟩:=s;refine wpAny_call ?_;have Y:=makes_of (M:=η prog w) (F.here S) (F.makes c oc);refine make_core Y (looks_findIn (F.here S) (F.acs c hi)) (λself=>Looks.of_pure (oi_bind self)) (.inr ⟨rfl,rfl⟩) ?_;have t2:Looks (η prog w) (rC hh (D.T.cls c)) (isInstance (.ref (hh.objs.size+1)) (.type "object")) true:=((Looks.ld uv).andThen .now:Looks (η prog w) (rC hh (D.T.cls c)) (typeOf (.ref (hh.objs.size+1))) (.ref (D.T.cls c))).andThen (Y.top.keeps nP);refine codeAny_call_builtin oi_plain entry_oi (@check_slot (η prog w) _ _ _ "object.__init__" "object" "__init__" (.ref (hh.objs.size+1)) [] [] _ oi_kind oi_split t2 (oi_args (.ref (hh.objs.size+1))) ?_);refine ad (oi_run ..) ?_;exact XV (And.intro rfl (h _ _ _ st sf))
theorem aaw {f:Nat}{Li:St}(F:bS D w i')(H:eC D prog w i' n cl)(hr:aV A (2*n+1))(S:SR w D.T i' P φ σ s.heap)(hv:aZ w s.heap (XF σ φ P) φ σ.n vs cs)(hi:D.P.init c=some (some f))
  (e:cl f (.ref σ.n::vs) (σ.new (.inst c []))=some (.none,Li)) (h:aX D w i' P φ σ s (.ref σ.n) Li Q):ZB (η prog w) A (call (.ref (D.T.cls c)) cs) Q E s:=by
 have oc:=F.okc c (hi▸rfl);have st:=v4 S oc;have sf:=nQ (w:=w) (D:=D) (P:=P) (φ:=φ) (σ:=σ) (s:=s) (c:=c);obtain⟨hh,g,d,t,os⟩:=s;refine wpAny_call ?_;refine vA (F.ini c f hi) λi1 i2 i3=>?_;refine make_core (makes_of (F.here S) (F.makes c oc)) (looks_findIn (F.here S) i1) (λself=>bind_fn (F.here S) self i2) (.inl rfl) ?_;exact H f _ _ _ _ e i3 (hr.tc _ _) st.sr ⟨_,_,rfl,sf,st.vrs hv⟩ λφ' s' vc N2 r=>ad r ⟨rfl,h _ _ _ (st.trans N2) (N2.vr sf)⟩
theorem z7 {α:Type}{y:Option α}{x:V}{z:α}{G:V->Prop}(e:zg y x=some z)(k:y=some z->G .none):G x:=by
 rcases x with _|_|_|_|_|_|_|_|_<;>first|exact au e|exact k e
theorem Dm (F:bS D w i')(H:eC D prog w i' n cl)(hr:aV A (2*n+1))(S:SR w D.T i' P φ σ s.heap)
  (hv:aZ w s.heap (XF σ φ P) φ σ.n vs cs) (e:make D.P cl c vs σ=some (v,σ')) (h:aX D w i' P φ σ s v σ' Q):ZB (η prog w) A (call (.ref (D.T.cls c)) cs) Q E s:=by
 refine mN e λo hi e=>?_;rcases o with _|f
 ·refine dy e λhn e=>?_;rcases vs with _|_
  ·exact ad (show cs=[]from hv) (GU F S hi (bF (P:=λv σ'=>aX D w i' P φ σ s v σ' Q->_) e (λh=>h) h))
  ·exact ak hn
 ·exact mN e λx e1 e2=>z7 (G:=λy=>x=(y,x.2)->_) e2 (λe2 q=>aaw F H hr S hv hi (e1.trans (congrArg some q)) (bF (P:=λv σ'=>aX D w i' P φ σ s v σ' Q->_) e2 (λh=>h) h)) rfl
end
theorem yf {h:θ}{X:Nat->Prop}{n:Nat}{l:List (V×V)}{es:Array Zf}{k:V}(hv:aZ w h X φ n (l.map (·.2)) (es.toList.map (·.val))) :
  VR w h X φ n ((cB l k).getD .none) (((pos (l.map (·.1)) k).bind λi=>(es.toList.map (·.val))[i]?).getD .none):=by
 rw[lw]
 cases hp:pos (l.map (·.1)) k with
 |none=>rfl
 |some i=>
  simp only[YT]
  cases hq:(l.map (·.2))[i]? with
  |none=>
   have:(es.toList.map (·.val))[i]?=none:=by
    rw[Rq]at hq⊢
    (refine ad hv.length ?_);exact hq
   (refine ad this ?_);rfl
  |some z=>
   refine ag (hv.get hq) λx a b=>?_
   (refine ad a ?_);exact b
end
section
variable (D:Wd)(prog:Θ)(w:μ)(i':θ)(n:Nat)(cl:Call)
def bW (e:IE):Prop:=∀{C:cA} {x:Expr} {A:ψ} {E:WP->W1->Prop} {P:Nat->Prop} {φ:bm} {σ:St} {s:W1} {env:Env} {m:ζ->Option WP} {ρ:Loc} {v:V} {σ':St} {Q:WP->W1->Prop},
 dS D C e x->aV A (2*n+1)->aE D w i' P φ σ s C env m ρ->cm D.P cl e ρ σ=some (v,σ')->aX D w i' P φ σ s v σ' Q->ZB (η prog w) A (eval x env) Q E s
def pH (e:IE):Prop:=∀{C:cA} {x:Expr} {A:ψ} {E:WP->W1->Prop} {P:Nat->Prop} {φ:bm} {σ:St} {s:W1} {env:Env} {m:ζ->Option WP} {ρ:Loc} {v:V} {σ':St} {b:Bool} {Q:Bool->W1->Prop},
 dS D C e x->aV A (2*n+1)->aE D w i' P φ σ s C env m ρ->cm D.P cl e ρ σ=some (v,σ')->cQ σ' v=some b->fT D w i' P φ σ s b σ' Q->ZB (η prog w) A (isTrue x env (eval x env)) Q E s
def eV (es:List IE):Prop:=∀{C:cA} {xs:List Expr} {pos:Pos} {A:ψ} {E:WP->W1->Prop} {P:Nat->Prop} {φ:bm} {σ:St} {s:W1} {env:Env} {m:ζ->Option WP} {ρ:Loc} {vs:List V} {σ':St} {Q:List WP->W1->Prop},
 dz D C es xs->aV A (2*n+1)->aE D w i' P φ σ s C env m ρ->eP D.P cl es ρ σ=some (vs,σ')->GS D w i' P φ σ s vs σ' Q->ZB (η prog w) A (spliced (Zl pos (Zj xs env))) Q E s
def ki (o:Option IE):Prop:=∀{C:cA} {x:Option Expr} {A:ψ} {E:WP->W1->Prop} {P:Nat->Prop} {φ:bm} {σ:St} {s:W1} {env:Env} {m:ζ->Option WP} {ρ:Loc} {v:Option V} {σ':St} {Q:WP->W1->Prop},
 KC D C o x->aV A (2*n+1)->aE D w i' P φ σ s C env m ρ->Kz D.P cl o ρ σ=some (v,σ')->(∀φ' s' vc,aw w D.T i' P (λ_=>False) φ σ s φ' σ' s'->lz w s'.heap (XF σ' φ' P) φ' σ'.n v vc->Q vc s')->ZB (η prog w) A (evalPart x env) Q E s
def z8 (op:BoolOp)(es:List IE):Prop:=∀{C:cA} {xs:List Expr} {pos:Pos} {A:ψ} {E:WP->W1->Prop} {P:Nat->Prop} {φ:bm} {σ:St} {s:W1} {env:Env} {m:ζ->Option WP} {ρ:Loc} {v:V} {σ':St} {Q:WP->W1->Prop},
 dz D C es xs->aV A (2*n+1)->aE D w i' P φ σ s C env m ρ->(match op with|.And=>oK D.P cl es ρ σ|.Or=>oM D.P cl es ρ σ)=some (v,σ')->aX D w i' P φ σ s v σ' Q->ZB (η prog w) A (eval (.BoolOp op xs pos) env) Q E s
def Fh (op:BoolOp)(es:List IE):Prop:=∀{C:cA} {xs:List Expr} {pos:Pos} {A:ψ} {E:WP->W1->Prop} {P:Nat->Prop} {φ:bm} {σ:St} {s:W1} {env:Env} {m:ζ->Option WP} {ρ:Loc} {v:V} {σ':St} {b:Bool} {whole:Sem WP} {Q:Bool->W1->Prop},
 dz D C es xs->aV A (2*n+1)->aE D w i' P φ σ s C env m ρ->(match op with|.And=>oK D.P cl es ρ σ|.Or=>oM D.P cl es ρ σ)=some (v,σ')->cQ σ' v=some b->fT D w i' P φ σ s b σ' Q->
  ZB (η prog w) A (isTrue (.BoolOp op xs pos) env whole) Q E s
def gY (es:List IE):Prop:=∀{C:cA} {xs:List Expr} {A:ψ} {E:WP->W1->Prop} {P:Nat->Prop} {φ:bm} {σ:St} {s:W1} {env:Env} {m:ζ->Option WP} {ρ:Loc} {b:Bool} {σ':St} {Q:Bool->W1->Prop},
 dz D C es xs->aV A (2*n+1)->aE D w i' P φ σ s C env m ρ->dk D.P cl es ρ σ=some (b,σ')->fT D w i' P φ σ s b σ' Q->
  ZB (η prog w) A (forIn xs true λc r=>if r=true then do let ok <- isTrue c env (eval c env);pure (ForInStep.yield ok)else pure (ForInStep.yield r)) Q E s
end
theorem a7 {α β:Type}{o:Option α}{f:α->Option β}{y:β}{G:Prop}(h:o.bind f=some y)(k:∀x,o=some x->f x=some y->G):G:=ag (WJ.mp h) λx a b=>k x a b
theorem ax {α γ β:Type}{o:Option (α×γ)}{f:α×γ->Option β}{y:β}{G:Prop}(h:o.bind f=some y)(k:∀u v,o=some (u,v)->f (u,v)=some y->G):G:=ag (WJ.mp h) λx a b=>k x.1 x.2 a b
theorem lM {α γ δ β:Type}{o:Option (α×γ×δ)}{f:α×γ×δ->Option β}{y:β}{G:Prop}(h:o.bind f=some y)(k:∀u v t,o=some (u,v,t)->f (u,v,t)=some y->G):G:=ag (WJ.mp h) λx a b=>k x.1 x.2.1 x.2.2 a b
section
variable {prog:Θ}{w:μ}{A:ψ}{E:WP->W1->Prop}{D:Wd}{i':θ}{P:Nat->Prop}{φ:bm}{σ:St}{s:W1}{C:cA}{env:Env}{m:ζ->Option WP}{ρ:Loc}{n:Nat}{cl:Call}
theorem aX.at {σ' Li:St}{v u:V}{Q:WP->W1->Prop}(h:aX D w i' P φ σ s v σ' Q)(e:some (u,Li)=some (v,σ')):aX D w i' P φ σ s u Li Q:=bF (P:=λv σ'=>aX D w i' P φ σ s v σ' Q->_) e id h
theorem aX.then {φ':bm}{σ' Ls:St}{s':W1}{v:V}{Q:WP->W1->Prop}(h:aX D w i' P φ σ s v Ls Q)(x:aw w D.T i' P (λ_=>False) φ σ s φ' σ' s'):aX D w i' P φ' σ' s' v Ls Q:=λMD MQ vc y r=>h MD MQ vc (x.trans y) r
theorem fT.then {φ':bm}{σ' Ls:St}{s':W1}{v:Bool}{Q:Bool->W1->Prop}(h:fT D w i' P φ σ s v Ls Q)(x:aw w D.T i' P (λ_=>False) φ σ s φ' σ' s'):fT D w i' P φ' σ' s' v Ls Q:=λMD MQ y=>h MD MQ (x.trans y)
theorem aX.grow {σ':St}{s':W1}{v:V}{vc:WP}{Q:WP->W1->Prop}(h:aX D w i' P φ σ s v σ Q)(S:SR w D.T i' P φ σ s.heap)(g:aF s s')(r:VR w s'.heap (XF σ φ P) φ σ.n v vc):Q vc s':=h φ s' vc (aw.grow S g) r
theorem eu {b:Bool}{v:V}{vc:WP}{Q:Bool->W1->Prop}(S:SR w D.T i' P φ σ s.heap)(r:VR w s.heap (XF σ φ P) φ σ.n v vc)(e:cQ σ v=some b)(h:fT D w i' P φ σ s b σ Q):ZB (η prog w) A (truthy vc) Q E s:=zq r e λs' g=>h φ s' (aw.grow S g)
theorem z9 {e:IE}{x:Expr}{v:V}{σ':St}{b:Bool}{Q:Bool->W1->Prop}(H:bW D prog w i' n cl e)(hx:jJ x=true)(hc:dS D C e x)(hr:aV A (2*n+1))(t:aE D w i' P φ σ s C env m ρ)
  (he:cm D.P cl e ρ σ=some (v,σ')) (hb:cQ σ' v=some b) (h:fT D w i' P φ σ s b σ' Q):ZB (η prog w) A (isTrue x env (eval x env)) Q E s:=uu hx (H hc hr t he λφ' s' vc st r=>eu st.sr r hb (h.then st))
theorem dp {M:XI}{f:WP}(h:∀a,f≠.ref a)(hp:θ):∃k,(k=Keeper.frame\/k=Keeper.machine\/k=Keeper.boundFrame)/\Looks M hp (keeperOf f) k:=by
 refine⟨.machine,.inr (.inl rfl),?_⟩
 rcases f with _|_<;>first|exact absurd rfl (h _)|exact Looks.now
theorem Do {es:List IE}{xs:List Expr}{pos:Pos}{f:WP}{vs:List V}{σ':St}{Q:Args->W1->Prop}(H:eV D prog w i' n cl es)(hc:dz D C es xs)(hr:aV A (2*n+1))(t:aE D w i' P φ σ s C env m ρ)
  (he:eP D.P cl es ρ σ=some (vs,σ')) (h:∀φ' s' cs,aw w D.T i' P (λ_=>False) φ σ s φ' σ' s'->aZ w s'.heap (XF σ' φ' P) φ' σ'.n vs cs->Q ⟨cs,[]⟩ s') :
  ZB (η prog w) A (evalArgs f true (Zl pos (Zj xs env)) []) Q E s:=by
 induction es using List.cs with
 |nil=>
  refine ad hc.nil ?_;rcases he with _|_;exact evalArgs_nil3 (h φ s [] (aw.refl t.sr) rfl)
 |cons e es=>
  refine cS hc.cons λx Tr e4 hs _ _=>?_;subst e4
  have:=H (pos:=pos) (E:=E) (Q:=λvs s'=>Q ⟨vs,[]⟩ s') hc hr t he λφ' s' cs st r=>h φ' s' cs st r
  rw[jN hs,jO]at this⊢;exact evalArgs_plain this
theorem cJ {es:List IE}{xs:List Expr}{pos:Pos}{f:WP}{first:List WP}{vs:List V}{σ':St}{Q:WP->W1->Prop}{Pk:θ->Prop}(H:eV D prog w i' n cl es)(hc:dz D C es xs)(hr:aV A (2*n+1))
  (t:aE D w i' P φ σ s C env m ρ) (hk:∀h,Pk h->∃k,(k=Keeper.frame\/k=Keeper.machine\/k=Keeper.boundFrame)/\Looks (η prog w) h (keeperOf f) k)
  (he:eP D.P cl es ρ σ=some (vs,σ')) (h:∀φ' s' cs,aw w D.T i' P (λ_=>False) φ σ s φ' σ' s'->aZ w s'.heap (XF σ' φ' P) φ' σ'.n vs cs->Pk s'.heap/\ZB (η prog w) A (call f (first++cs) []) Q E s') :
  ZB (η prog w) A (callWith pos f first (Zl pos (Zj xs env)) []) Q E s:=by
 refine callWith_of (P:=Pk) ?_ hk (Do H hc hr t he λφ' s' cs st r=>h φ' s' cs st r)
 (refine ad ((lL hc).1) ?_);rfl
theorem GX {es:List IE}{xs:List Expr}{g:ζ}{p pos:Pos}{f:Nat}{vs:List V}{v:V}{σ' Ls:St}{Q:WP->W1->Prop}(F:bS D w i')(Hc:eC D prog w i' n cl)(H:eV D prog w i' n cl es)
  (hg:vW D C g f=true) (hc:dz D C es xs) (hr:aV A (2*n+1)) (t:aE D w i' P φ σ s C env m ρ) (he:eP D.P cl es ρ σ=some (vs,σ')) (Mq:cl f vs σ'=some (v,Ls)) (h:aX D w i' P φ σ s v Ls Q) :
  ZB (η prog w) A (eval (.Call (.Name g p) xs [] pos) env) Q E s:=by
 have hg:=oF hg;have e:=zI hg.1.2;refine(OZ.mp hg.2).elim λFn hF=>?_;refine wpAny_Call_Name_kw (jM F t hg.1.1 (F.gfn _ _ e) ?_);refine cJ (Pk:=λhp=>D.K.In hp) H hc hr t (keeps_K (F.kfn f Fn hF)) he λφ' s' cs st r=>⟨F.here st.sr,?_⟩;exact wpAny_call (Hc f vs σ' v Ls Mq hg.2 (hr.le (Mf _)) st.sr r λMD MQ vc N2 r'=>h MD MQ vc (st.trans N2) r')
theorem GY {es:List IE}{xs:List Expr}{g:ζ}{p pos:Pos}{c:Nat}{vs:List V}{v:V}{σ' Ls:St}{Q:WP->W1->Prop}(F:bS D w i')(Hc:eC D prog w i' n cl)(H:eV D prog w i' n cl es)
  (hg:vX D C g c=true) (hc:dz D C es xs) (hr:aV A (2*n+1)) (t:aE D w i' P φ σ s C env m ρ) (he:eP D.P cl es ρ σ=some (vs,σ')) (Mq:make D.P cl c vs σ'=some (v,Ls)) (h:aX D w i' P φ σ s v Ls Q) :
  ZB (η prog w) A (eval (.Call (.Name g p) xs [] pos) env) Q E s:=by
 have hg:=oF hg;have e:=x0 hg.1.2;refine wpAny_Call_Name_kw (jM F t hg.1.1 (F.acw _ _ e) ?_);refine cJ (Pk:=λhp=>D.K.In hp) H hc hr t (keeps_K (F.acr c (F.okc c hg.2))) he λφ' s' cs st r=>⟨F.here st.sr,?_⟩
 exact Dm F Hc hr st.sr r Mq (h.then st)
theorem KE {es:List IE}{xs:List Expr}{g:ζ}{p pos:Pos}{b:BI}{vs:List V}{v:V}{σ':St}{Q:WP->W1->Prop}(F:bS D w i')(H:eV D prog w i' n cl es)
  (hg:vY D C g b=true) (hc:dz D C es xs) (hr:aV A (2*n+1)) (t:aE D w i' P φ σ s C env m ρ) (he:eP D.P cl es ρ σ=some (vs,σ')) (Mq:builtin b σ' vs=some v) (h:aX D w i' P φ σ s v σ' Q) :
  ZB (η prog w) A (eval (.Call (.Name g p) xs [] pos) env) Q E s:=by
 have hg:=bj hg;have e:=zJ hg.2;refine vA (F.gbi _ _ e) λq1 q2 q3=>?_;refine wpAny_Call_Name_kw (Dk F t hg.1 q1 q2 q3 ?_)
 refine cJ (Pk:=λ_=>True) H hc hr t (λhp _=>dp (by intro a;rcases b with _|_<;>simp[CG]) hp) he λφ' s' cs st r=>⟨trivial,?_⟩
 exact ul st.sr r hr.handled Mq λvc MQ g r'=>(h.then st).grow (σ':=σ') st.sr g r'
@[elab_as_elim] theorem Fi {α:Type}{f:V->Option α}{vs:List V}{z:α}{G:List V->Prop}(e:CE f vs=some z)(k:∀x,f x=some z->G [x]):G vs:=by
 rcases vs with _|⟨x,_|⟨y,l⟩⟩
 ·exact au e
 ·exact k x e
 ·exact au e
@[elab_as_elim] theorem Jj {α:Type}{y:Option α}{vs:List V}{z:α}{G:List V->Prop}(e:Kf y vs=some z)(k:y=some z->G []):G vs:=by
 rcases vs with _|⟨x,l⟩
 ·exact k e
 ·exact au e
def MG (prog:Θ)(w:μ)(A:ψ)(E:WP->W1->Prop)(env:Env)(pos:Pos)(xs:List Expr)(nm:ζ)(pl:Sem Bool)(oc:WP)(Q:WP->W1->Prop)(s:W1):Prop:=ZB (η prog w) A (getMethod oc nm pl) (λfx Lp=>ZB (η prog w) A (callWith pos fx.1 fx.2 (Zl pos (Zj xs env)) []) Q E Lp) E s
section
variable {es:List IE}{xs:List Expr}{pos:Pos}{pl:Sem Bool}{r mm:Nat}{vs:List V}{v:V}{σ' Ls:St}{Q:WP->W1->Prop}
theorem Jk {l NQ:List V}(H:eV D prog w i' n cl es)(hc:dz D C es xs)(hr:aV A (2*n+1))(t:aE D w i' P φ σ s C env m ρ)(he:eP D.P cl es ρ σ=some (vs,σ'))(LO:r<σ.n)(L4:σ.g r=.list NQ)(hg:σ'.g r=.list l)
  (e:CE (λv=>if l.length<aq then some (V.none,σ'.set r (.list (l++[v])))else none) vs=some (v,Ls)) (h:aX D w i' P φ σ s v Ls Q):MG prog w A E env pos xs "append" pl (.ref (φ.a r)) Q s:=by
 refine aL (t.sr.list LO L4).2 λitems k TH _ _=>getMethod_list_append TH rfl rfl (cJ (Pk:=λ_=>True) H hc hr t (λhp _=>dp (by nofun) hp) he λφ' s' cs st rv=>⟨trivial,?_⟩)
 refine Fi (G:=λvs=>aZ w s'.heap (XF σ' φ' P) φ' σ'.n vs cs->_) e (λv1 e rv=>dy e λhlen e=>bF (P:=λv Ls=>aX D w i' P φ σ s v Ls Q->_) e (λh=>?_) h) rv;refine ag rv.one λc ec rc=>ad ec (aR (st.ext.agree r LO).1 ?_);exact aL (xS st.sr (L1 LO st.ext.abh) hg rc hlen) λOM k' hz' NR UB=>Ij PySem.F.slot_list_append ⟨_,NR,rfl⟩ PySem.F.entry_list_append (PySem.F.args_list_append_2 _ _) (list_append (φ'.a r) OM k' c hz') ⟨NR,h _ _ _ (st.trans UB) rfl⟩
theorem Jl {l NQ:List V}(H:eV D prog w i' n cl es)(hc:dz D C es xs)(hr:aV A (2*n+1))(t:aE D w i' P φ σ s C env m ρ)(he:eP D.P cl es ρ σ=some (vs,σ'))(LO:r<σ.n)(L4:σ.g r=.list NQ)(hg:σ'.g r=.list l)
  (e:Kf (l.getLast?.bind λv=>some (v,σ'.set r (.list l.dropLast))) vs=some (v,Ls)) (h:aX D w i' P φ σ s v Ls Q):MG prog w A E env pos xs "pop" pl (.ref (φ.a r)) Q s:=by
 refine aL (t.sr.list LO L4).2 λitems k TH _ _=>PySem.getMethod_builtin ⟨_,TH,rfl⟩ PySem.F.plainAttrs_list PySem.F.slot_list_pop PySem.F.type_list_pop (λa e=>by cases e;exact⟨_,TH,rfl⟩) (cJ (Pk:=λ_=>True) H hc hr t (λhp _=>dp (by nofun) hp) he λφ' s' cs st rv=>⟨trivial,?_⟩)
 refine Jj (G:=λvs=>aZ w s'.heap (XF σ' φ' P) φ' σ'.n vs cs->_) e (λe rv=>mN e λz hz e=>bF (P:=λv Ls=>aX D w i' P φ σ s v Ls Q->_) e (λh=>?_) h) rv;refine ad (show cs=[]from rv) (aR (st.ext.agree r LO).1 ?_);exact Gw st.sr (L1 LO st.ext.abh) hg hz λc MQ UB rc=>h _ _ _ (st.trans UB) rc
theorem Jm {l NQ:List (V×V)}(H:eV D prog w i' n cl es)(hc:dz D C es xs)(hr:aV A (2*n+1))(t:aE D w i' P φ σ s C env m ρ)(he:eP D.P cl es ρ σ=some (vs,σ'))(LO:r<σ.n)(L4:σ.g r=.dict NQ)(hg:σ'.g r=.dict l)
  (e:CE (λk=>if a8 k&&bl l k then some ((cB l k).getD .none,σ')else none) vs=some (v,Ls)) (h:aX D w i' P φ σ s v Ls Q):MG prog w A E env pos xs "get" pl (.ref (φ.a r)) Q s:=by
 refine aL (t.sr.dict LO L4).2 λaaC aaj To _ _=>PySem.getMethod_builtin To.typeIs PySem.F.plainAttrs_dict PySem.F.slot_dict_get PySem.F.type_dict_get (λa e=>by cases e;exact⟨_,To.ho,rfl⟩) (cJ (Pk:=λ_=>True) H hc hr t (λhp _=>dp (by nofun) hp) he λφ' s' cs st rv=>⟨trivial,?_⟩)
 refine Fi (G:=λvs=>aZ w s'.heap (XF σ' φ' P) φ' σ'.n vs cs->_) e (λk e rv=>dy e λhk e=>bF (P:=λv Ls=>aX D w i' P φ σ s v Ls Q->_) e (λh=>?_) h) rv;have hk:=bj hk;have L6:=L1 LO st.ext.abh;refine ag rv.one λc ec rc=>ad ec (aR (st.ext.agree r LO).1 ?_)
 exact aL (st.sr.dict L6 hg).2 λOf Pe D' _ hv'=>pf (st.sr.abI L6) (Mp (M9 (by decide) _) hr.u) D' (eB hk.2) hk.1 (rc.key 4 (cI hk.1)) (h φ' _ _ (st.trans (aw.grow st.sr (aF.toks s' _))) ((yf hv').up (aF.toks s' _)))
theorem GZ {c f:Nat}{PW:List (Nat×V)}(F:bS D w i')(Hc:eC D prog w i' n cl)(H:eV D prog w i' n cl es)(hc:dz D C es xs)(hr:aV A (2*n+1))(t:aE D w i' P φ σ s C env m ρ)(he:eP D.P cl es ρ σ=some (vs,σ'))(LO:r<σ.n)(L4:σ.g r=.inst c PW)
  (hm:D.P.π c mm=some f) (e:cl f (.ref r::vs) σ'=some (v,Ls)) (h:aX D w i' P φ σ s v Ls Q):MG prog w A E env pos xs (D.abo mm) pl (.ref (φ.a r)) Q s:=by
 have g3:=(F.π c mm f (t.sr.inst LO L4).1 hm).2.2;refine(OZ.mp g3).elim λFn hF=>xW F t.sr LO L4 hm (cJ (Pk:=λhp=>D.K.In hp) H hc hr t (keeps_K (F.kfn f Fn hF)) he λφ' s' cs st rv=>⟨F.here st.sr,?_⟩);exact wpAny_call (Hc f _ σ' v Ls e g3 (hr.le (Mf _)) st.sr ⟨_,_,rfl,⟨L1 LO st.ext.abh,congrArg Value.ref (st.ext.agree r LO).1.symm⟩,rv⟩ λMD MQ vc N2 r'=>h MD MQ vc (st.trans N2) r')
theorem Jn {o o':AO}(h:Ge o'=Ge o):(∀l,o=.list l->∃l',o'=.list l')/\(∀l,o=.dict l->∃l',o'=.dict l')/\∀c fs,o=.inst c fs->∃fs',o'=.inst c fs':=by
 refine⟨λl e=>?_,λl e=>?_,λc fs e=>?_⟩<;>rw[e]at h<;>rcases o' with l|l|⟨c',l⟩|_<;>first|exact⟨_,rfl⟩|exact au h|exact za h|exact⟨_,by rw[Qd (Option.some.inj h)]⟩|exact absurd (Option.some.inj h) (by nofun)
theorem G0 {o:IE}{x:Expr}{nm:ζ}{ap:Pos}{ov:V}{Li:St}(F:bS D w i')(Hc:eC D prog w i' n cl)(Ho:bW D prog w i' n cl o)
  (H:eV D prog w i' n cl es) (hn:nm=D.abo mm) (hb:fH x=true) (hp:ap.endLine=pos.line) (hl:es.length<25) (hx:dS D C o x) (hc:dz D C es xs) (hr:aV A (2*n+1)) (t:aE D w i' P φ σ s C env m ρ)
  (ho:cm D.P cl o ρ σ=some (ov,Li)) (he:eP D.P cl es ρ Li=some (vs,σ')) (hk:vD Li ov=vD σ' ov) (Mq:zh D.P cl mm ov vs σ'=some (v,Ls)) (h:aX D w i' P φ σ s v Ls Q) :
  ZB (η prog w) A (eval (.Call (.Attribute x nm ap) xs [] pos) env) Q E s:=by
 have sp:=lL (env:=env) (pos:=pos) hc;refine ad hn (aaB hb hp (sp.2▸hl) sp.1 λpl=>Ho hx hr t ho λLm Lj oc F' ro=>?_);have Ly:=t.step F'
 have h1:=h.then F'
 rcases ov with _|_|_|_|_|_|_|r|_<;>first|exact au Mq|skip
 refine VR.abn (G:=λoc=>MG prog w A E env pos xs (D.abo mm) pl oc Q Lj) ro λLO=>?_;have ok:=Jn (show Ge (Li.g r)=Ge (σ'.g r)from hk);have Mq:j7 D.P cl mm r vs σ' (σ'.g r)=some (v,Ls):=Mq
 rcases hg:σ'.g r with l|l|⟨c,fs⟩|_<;>rw[hg]at Mq
 ·refine(ok.1 l hg).elim λNQ L4=>?_
  by_cases hm:mm=oJ
  ·exact ad hm (ad F.abQ.1 (Jk H hc hr Ly he LO L4 hg ((if_pos hm).symm.trans Mq) h1))
  ·have Mq:=(if_neg hm).symm.trans Mq
   by_cases hm:mm=Gb
   ·exact ad hm (ad F.abQ.2.1 (Jl H hc hr Ly he LO L4 hg ((if_pos hm).symm.trans Mq) h1))
   ·exact au ((if_neg hm).symm.trans Mq)
 ·refine(ok.2.1 l hg).elim λNQ L4=>?_
  by_cases hm:mm=Gc
  ·exact ad hm (ad F.abQ.2.2 (Jm H hc hr Ly he LO L4 hg ((if_pos hm).symm.trans Mq) h1))
  ·exact au ((if_neg hm).symm.trans Mq)
 ·exact(ok.2.2 c fs hg).elim λPW L4=>mN Mq λf hm e=>GZ F Hc H hc hr Ly he LO L4 hm e h1
 ·exact au Mq
end
end
section
variable {w:μ}{D:Wd}{i':θ}{P W:Nat->Prop}{φ φ':bm}{σ σ':St}{s s':W1}{C:cA}{env:Env}{m:ζ->Option WP}{ρ:Loc}
theorem aw.aaZ {a:Nat}{o:Obj}(S:SR w D.T i' P φ σ s.heap)(x:aw w D.T i' P W φ σ s φ' σ' s')(pa:P a)(nw:¬W a)(e:s.heap.get? a=some o):s'.heap.get? a=some o:=x.ext.keep a o (dn S pa) nw e
theorem aw.vrW {v:V}{vc:WP}(x:aw w D.T i' P W φ σ s φ' σ' s')(hW:∀a,W a->P a)(r:VR w s.heap (XF σ φ P) φ σ.n v vc):VR w s'.heap (XF σ' φ' P) φ' σ'.n v vc:=r.ext x.ext hW
theorem aw.abM {v:List V}{vc:List WP}(x:aw w D.T i' P W φ σ s φ' σ' s')(hW:∀a,W a->P a)(r:aZ w s.heap (XF σ φ P) φ σ.n v vc):aZ w s'.heap (XF σ' φ' P) φ' σ'.n v vc:=r.ext x.ext hW
theorem aw.it {src:Option Nat}{all:List V}{I i:Nat}(S:SR w D.T i' P φ σ s.heap)(x:aw w D.T i' P W φ σ s φ' σ' s')(hW:∀a,W a->P a)(pI:P I)(nI:¬W I)(t:fZ w s.heap (XF σ φ P) φ σ.n src all I i) :
  fZ w s'.heap (XF σ' φ' P) φ' σ'.n src all I i:=t.mono (x.ext.kept hW) x.ext.abh (λr hr=>(x.ext.agree r hr).1) λo e=>x.aaZ S pI nI e
theorem FR.abO (F:FR w s.heap (XF σ φ P) φ σ.n P env C.κ m ρ)(S:SR w D.T i' P φ σ s.heap)(x:aw w D.T i' P W φ σ s φ' σ' s')(hW:∀a,W a->P a)(hl:¬W env.locals)(hc:∀n c,(n,c)∈env.cells->¬W c) :
  FR w s'.heap (XF σ' φ' P) φ' σ'.n P env C.κ m ρ where
 kind:=F.kind
 glob:=F.glob
 blt:=F.blt
 ns:=i6 F.ns λo e=>x.aaZ S F.pl hl e
 pl:=F.pl
 pc:=F.pc
 apart:=F.apart
 abk:=F.abk
 cell:=λy hy hl=>by
  refine bv (F.cell y hy hl) λc LZ a b=>?_;exact⟨c,LZ,a,dd b λo e=>x.aaZ S (F.pc y c (mem_of_lookup a)) (hc y c (mem_of_lookup a)) e⟩
 var:=λy i v hl hr=>by
  refine ag (F.var y i v hl hr) λvc a b=>?_;refine⟨vc,x.vrW hW a,?_⟩;refine Lr b (λb=>?_) λo1=>?_
  ·exact .inl b
  ·obtain⟨b,c,b1,b2⟩:=o1;exact .inr ⟨b,c,b1,dd b2 λo e=>x.aaZ S (F.pc y c (mem_of_lookup b1)) (hc y c (mem_of_lookup b1)) e⟩
theorem aE.grow (t:aE D w i' P φ σ s C env m ρ)(g:aF s s'):aE D w i' P φ σ s' C env m ρ:=t.step (aw.grow t.sr g)
theorem jP {v:tH}(h:vZ v=true):bE v:=by
 have h:=of_decide_eq_true h;intro x y i hx hy;have h1:=mem_of_lookup hx;have h2:=mem_of_lookup hy;clear hx hy
 induction v with
 |nil=>cases h1
 |cons p v ih=>
  rw[M6,Ny]at h;refine Lr (L7.mp h1) (λe1=>?_) λh1=>?_
  ·rcases L7.mp h2 with e2|h2
   ·rw[<- e1]at e2;exact(Prod.mk.inj e2).1.symm
   ·rw[<- e1]at h;exact absurd (MH.mpr ⟨_,h2,rfl⟩) h.1
  ·rcases L7.mp h2 with e2|h2
   ·rw[<- e2]at h;exact absurd (MH.mpr ⟨_,h1,rfl⟩) h.1
   ·exact ih (decide_eq_true h.2) h.2 h1 h2
end
section
variable {prog:Θ}{w:μ}{A:ψ}{E:WP->W1->Prop}{D:Wd}{i':θ}{P W:Nat->Prop}{φ:bm}{σ:St}{s:W1}{C:cA}{env:Env}{m:ζ->Option WP}{ρ:Loc}{n:Nat}{cl:Call}
def rD (env:Env)(x:ζ)(a:Nat):Prop:=(env.kindOf x=some .local/\a=env.locals)\/(env.kindOf x=some .cell/\i7 env a)
theorem yg {x:ζ}(t:aE D w i' P φ σ s C env m ρ)(h:fb C x=true):env.kindOf x=some .local\/env.kindOf x=some .cell:=by
 unfold fb at h;rw[OH]at h;rw[t.kind];exact h.elim (λh=> .inl (beq_iff_eq.mp h)) λh=> .inr (beq_iff_eq.mp h)
theorem pJ {x:ζ}{i:Nat}{v:V}{vc:WP}{Q:Unit->W1->Prop}(t:aE D w i' P φ σ s C env m ρ)(Lo:bE C.κ)(hx:C.κ.lookup x=some i)(hk:fb C x=true)(hv:VR w s.heap (XF σ φ P) φ σ.n v vc)
  (hw:∀a,rD env x a->W a) (OW:∀a,W a->P a)
  (hQ:∀s' m',aw w D.T i' P W φ σ s φ σ s'->aE D w i' P φ σ s' C env m' (ρ.set i v)->Q () s'):ZB (η prog w) A (storeName env x vc) Q E s:=zB t.fr t.sr Lo hx (yg t hk) hv λs' m' st fr=>hQ s' m' (st.weaken hw OW) ⟨fr,t.sc,st.sr⟩
theorem pK {is:List Nat}:∀{xs:List Expr} {vs:List V} {cs:List WP} {σ:St} {s:W1} {m:ζ->Option WP} {ρ J':Loc} {Q:Unit->W1->Prop},aE D w i' P φ σ s C env m ρ->bE C.κ->nL C is xs=true->iD is vs ρ=some J'->
  aZ w s.heap (XF σ φ P) φ σ.n vs cs->(∀x i,(x,i)∈kh is xs->∀a,rD env x a->W a)->(∀a,W a->P a)->
  (∀s' m',aw w D.T i' P W φ σ s φ σ s'->aE D w i' P φ σ s' C env m' J'->Q () s')->ZB (η prog w) A (assignInOrder ((xT xs env).map (·.2)) cs) Q E s:=by
 induction is with
 |nil=>
  intro xs vs cs σ s m ρ J' Q t Lo hc hs hv hw OW hQ;rcases xs with _|_
  ·rcases vs with _|_
   ·exact XV (hQ s m (aw.refl t.sr) (Option.some.inj hs▸t))
   ·exact au hs
  ·exact ak hc
 |cons i is ih=>
  intro xs vs cs σ s m ρ J' Q t Lo hc hs hv hw OW hQ;rcases xs with _|⟨x,xs⟩
  ·exact ak hc
  rcases vs with _|⟨v,vs⟩
  ·exact au hs
  have hc:=bj hc;refine um (G:=λx=>(∀y j,(y,j)∈nM i x++kh is xs->∀a,rD env y a->W a)->ZB (η prog w) A (assignInOrder ((xT (x::xs) env).map (·.2)) cs) Q E s) hc.1 (λy p hy hw=>aL hv λc Ze e h1 h2=>ad e ?_) hw
  show ZB _ _ (do holding Ze (assign (.Name y p) env c);assignInOrder ((xT xs env).map (·.2)) Ze) Q E s
  refine WF (Zb (PyProof.Rows.assign_Name (pJ t Lo (fI hy.1).1 hy.2 h1 (λa ha=>hw y i LI a ha) OW λs' m' st t'=>?_)));exact ih t' Lo hc.2 hs (st.abM OW h2) (λx i hx=>hw x i (L8 _ hx)) OW λMQ VE N2 ZC=>hQ MQ VE (st.trans N2) ZC
theorem uw {is:List Nat}:∀{xs:List Expr},nL C is xs=true->(xT xs env).length=is.length/\(xT xs env).findIdx? (·.1)=none:=by
 induction is with
 |nil=>
  intro xs h;rcases xs with _|_
  ·exact⟨rfl,rfl⟩
  ·exact ak h
 |cons i is ih=>
  intro xs h;rcases xs with _|⟨x,xs⟩
  ·exact ak h
  have h:=bj h;have b:=ih h.2;exact um (G:=λx=>(xT (x::xs) env).length=(i::is).length/\(xT (x::xs) env).findIdx? (·.1)=none) h.1 λy p _=>⟨congrArg Nat.succ b.1,(Rz (p:=λa:Bool×(WP->Sem Unit)=>a.1)).trans (congrArg (Option.map (·+1)) b.2)⟩
theorem ux {is:List Nat}:∀{vs:List V} {ρ J':Loc},iD is vs ρ=some J'->vs.length=is.length:=by
 induction is with
 |nil=>intro vs ρ J' h;rcases vs with _|_;rfl;exact au h
 |cons i is ih=>
  intro vs ρ J' h;rcases vs with _|⟨v,vs⟩
  ·exact au h
  ·exact congrArg Nat.succ (ih h)
section
variable {v:V}{vc:WP}{J':Loc}{Q:Unit->W1->Prop}
theorem uy {is:List Nat}{xs:List Expr}{k:Nat}{p:Pos}{vs:List V}(T:aE D w i' P φ σ s C env m ρ)(Lo:bE C.κ)(hc:nL C is xs=true)(hb:iD is vs ρ=some J')(hv:VR w s.heap (XF σ φ P) φ σ.n (.tup vs) vc)
  (hh:A.handled=none) (hw:∀x i,(x,i)∈kh is xs->∀a,rD env x a->W a) (OW:∀a,W a->P a)
  (hQ:∀s' m',aw w D.T i' P W φ σ s φ σ s'->aE D w i' P φ σ s' C env m' J'->Q () s'):ZB (η prog w) A (assign (.Tuple xs k p) env vc) Q E s:=by
 have l:=uw (env:=env) hc;refine hv.abB λa items k' hX ho hi hz=>assign_Tuple_tuple hh (gv ho) (l.1.trans ((ux hb).symm.trans hi.size.symm)) l.2 λh' he=>?_
 have g:aF s {s with heap:=h'}:=⟨rfl,rfl,rfl,λb o e=>he b o (λz=>by rw[z,aW]at e;exact au e) e⟩
 exact pK (T.grow g) Lo hc hb (hi.up g) hw OW λs' m' st t'=>hQ s' m' ((aw.grow T.sr g).trans st) t'
theorem jQ {t:ff}{target:Expr}(T:aE D w i' P φ σ s C env m ρ)(Lo:bE C.κ)(hc:m5 C t target=true)(hb:j6 t v ρ=some J')(hv:VR w s.heap (XF σ φ P) φ σ.n v vc)
  (hh:A.handled=none) (hw:∀x i,(x,i)∈jK t target->∀a,rD env x a->W a) (OW:∀a,W a->P a)
  (hQ:∀s' m',aw w D.T i' P W φ σ s φ σ s'->aE D w i' P φ σ s' C env m' J'->Q () s'):ZB (η prog w) A (assign target env vc) Q E s:=by
 rcases t with i|is
 ·have hb:some (ρ.set i v)=some J':=by rcases v<;>exact hb
  exact um (G:=λtarget=>(∀x j,(x,j)∈nM i target->∀a,rD env x a->W a)->ZB (η prog w) A (assign target env vc) Q E s) hc (λy p hy hw=>PyProof.Rows.assign_Name (pJ T Lo (fI hy.1).1 hy.2 hv (λa ha=>hw y i (LV.mpr rfl) a ha) OW λs' m' st t'=>hQ s' m' st (Option.some.inj hb▸t'))) hw
 ·rcases v with _|_|_|_|vs|_|_|_|_<;>first|exact au hb|skip
  exact lH hc λxs e hc=>Dj (G:=λtarget=>(∀x j,(x,j)∈jK (.tup is) target->∀a,rD env x a->W a)->ZB (η prog w) A (assign target env vc) Q E s) e (λk p hw=>uy T Lo hc hb hv hh hw OW hQ) hw
end
end
section
variable {prog:Θ}{w:μ}{A:ψ}{R:Dd->W1->Prop}
theorem rE {elt target iter:Expr}{ifs:List Expr}{scope:K6}{pos:Pos}{it acc:WP}{env:Env}(I:Nat->W1->Prop)
  (turn:∀n s,I n s->ZB (η prog w) A (pyNext it) (λr Lj=>match r with
   |none=>R (.ok .next) Lj
   |some v=>ZB (η prog w) A (Hy target it v) (λ_ Ni=>ZB (η prog w) A (assign target env v) (λ_ Lp=>
     ZB (η prog w) A (forIn ifs true λc r=>if r=true then do let ok <- isTrue c env (eval c env);pure (ForInStep.yield ok)else pure (ForInStep.yield r)) (λok Lw=>
      if ok=true then ZB (η prog w) A (eval elt env) (λx Mg=>
       ZB (η prog w) A (call (.builtin "list.append") [acc,x]) (λ_ OJ=>∃m,m<n/\I m OJ) (xO (η prog w) A env λe s'=>R (.error e) s') Mg) (xO (η prog w) A env λe s'=>R (.error e) s') Lw
      else ∃m,m<n/\I m Lw) (xO (η prog w) A env λe s'=>R (.error e) s') Lp) (xO (η prog w) A env λe s'=>R (.error e) s') Ni) (xO (η prog w) A env λe s'=>R (.error e) s') Lj)
    (xO (η prog w) A env λe s'=>R (.error e) s') s)
  (n:Nat) (s:W1) (h:I n s) :
  U6 (η prog w) A (.compLoop (.ListComp elt [⟨target,iter,ifs,0⟩] scope pos) 0 it acc env) R s:=by
 refine codeAny_loop rfl I (λn s hI=>?_) n h
 show ZB _ A ((compTurn (.ListComp elt [⟨target,iter,ifs,0⟩] scope pos) 0 it acc env).onRaise (λx=>do noteFrame x env;theTreesLotGoes x)) _ _ s
 refine wpAny_noted ?_;rw[compTurn_list];refine WF (yA (WF (ye (turn n s hI) (λr Lj i'=>?_) λ_ _ h'=>h')))
 induction r with
 |none=>exact XV i'
 |some v=>
  refine WF (ye i' (λ_ Ni R4=>?_) λ_ _ h'=>h');refine WF (ye R4 (λ_ Lp VN=>WF (ye VN (λok Lw R3=>?_) λ_ _ h'=>h')) λ_ _ h'=>h')
  induction ok with
  |false=>exact XV ⟨rfl,R3⟩
  |true=>
   exact WF (WF (ye R3 (λx Mg ON=>WF (ye ON (λ_ OJ VM=>XV (XV ⟨rfl,VM⟩)) λ_ _ h'=>h')) λ_ _ h'=>h'))
end
noncomputable def bT (env:Env):List (ζ×Zk)->List (ζ×Nat)->List (ζ×Nat)
 |[],acc=>acc
 |(x,k)::r,acc=>if k==.free then bT env r ((x,(env.cells.lookup x).getD 0)::acc)else bT env r acc
theorem Dp {env:Env}{sc:K6}(h:∀p∈sc.names,p.2=.free->(env.cells.lookup p.1).isSome=true):closureFor sc env=pure (bT env sc.names []):=by
 have key:∀(names:List (ζ×Zk)) (acc:List (ζ×Nat)),(∀p∈names,p.2=.free->(env.cells.lookup p.1).isSome=true)->
   (forIn names acc (λx (cs:List (ζ×Nat))=>match x with
    |(name,kind)=>if(kind==NameKind.free)=true then do
      let a <- qJ env name
      pure (ForInStep.yield ((name,a)::cs))
     else pure (ForInStep.yield cs)):Sem (List (ζ×Nat)))=pure (bT env names acc):=by
  intro names
  induction names with
  |nil=>intro acc _;rfl
  |cons p r ih=>
   intro acc hp;obtain⟨x,k⟩:=p;rw[Ui];have XY:=λacc=>ih acc λq hq=>hp q (L8 _ hq);unfold bT
   by_cases hk:(k==NameKind.free)=true
   ·simp only[hk,if_true];refine(OZ.mp (hp (x,k) LI (beq_iff_eq.mp hk))).elim λc hc=>?_;simp only[qJ,hc,pure_bind,WH];exact XY _
   ·simp only[hk,PA,if_false,pure_bind];exact XY _
 exact(congrArg (· >>= pure) (key sc.names [] h)).trans (pure_bind _ _)
theorem pM {env:Env}{q:ζ×Zk}{r:List (ζ×Zk)}{acc:List (ζ×Nat)}{P:List (ζ×Nat)->Prop}(h1:(q.2==NameKind.free)=true->P (bT env r ((q.1,(env.cells.lookup q.1).getD 0)::acc)))(h2:P (bT env r acc)):P (bT env (q::r) acc):=if h:(q.2==NameKind.free)=true then ad (show bT env (q::r) acc=_ from if_pos h) (h1 h)else ad (show bT env (q::r) acc=_ from if_neg h) h2
theorem rF {env:Env}{names:List (ζ×Zk)}{p:ζ×Nat}:∀{acc:List (ζ×Nat)},p∈bT env names acc->p∈acc\/((p.1,NameKind.free)∈names/\p.2=(env.cells.lookup p.1).getD 0):=by
 induction names with
 |nil=>exact .inl
 |cons q r ih=>
  intro acc;exact pM (P:=λl=>p∈l->p∈acc\/((p.1,NameKind.free)∈q::r/\p.2=(env.cells.lookup p.1).getD 0)) (λhk h=>(ih h).elim (λh=>(L7.mp h).elim (λo=> .inr (ad o ⟨(Prod.ext rfl (beq_iff_eq.mp hk).symm:(q.1,NameKind.free)=q)▸LI,rfl⟩)) .inl) λo=> .inr ⟨L8 _ o.1,o.2⟩) λh=>(ih h).imp id λo=>⟨L8 _ o.1,o.2⟩
theorem yh {env:Env}{names:List (ζ×Zk)}{p:ζ×Nat}:∀{acc:List (ζ×Nat)},p∈acc->p∈bT env names acc:=by
 induction names with
 |nil=>exact id
 |cons q r ih=>exact λh=>pM (P:=(p∈·)) (λ_=>ih (L8 _ h)) (ih h)
theorem Dq {env:Env}{names:List (ζ×Zk)}{x:ζ}:∀{acc:List (ζ×Nat)},(x,NameKind.free)∈names->(x,(env.cells.lookup x).getD 0)∈bT env names acc:=by
 induction names with
 |nil=>exact λh=>nomatch h
 |cons q r ih=>
  intro acc h;exact(L7.mp h).elim (λe=>(congrArg (λq=>(x,(env.cells.lookup x).getD 0)∈bT env (q::r) acc) e).mp (show _∈bT env r ((x,(env.cells.lookup x).getD 0)::acc)from yh LI)) λh=>pM (P:=((x,(env.cells.lookup x).getD 0)∈·)) (λ_=>ih h) (ih h)
theorem uz {env:Env}{names:List (ζ×Zk)}:∀{acc:List (ζ×Nat)},(names.map (·.1)).Nodup->(acc.map (·.1)).Nodup->(∀x∈names.map (·.1),x∉acc.map (·.1))->((bT env names acc).map (·.1)).Nodup:=by
 induction names with
 |nil=>exact λ_ h _=>h
 |cons q r ih=>
  intro acc hn ha hd;have hn:=Ny.mp hn;exact pM (P:=λl=>(l.map (·.1)).Nodup) (λ_=>ih (acc:=(q.1,(env.cells.lookup q.1).getD 0)::acc) hn.2 (Ny.mpr ⟨hd q.1 LI,ha⟩) λy hy k=>(L7.mp k).elim (λo=>hn.1 ((congrArg (·∈r.map (·.1)) o).mp hy)) (hd y (L8 _ hy))) (ih hn.2 ha λy hy=>hd y (L8 _ hy))
theorem iI {α:Type}{x:ζ}{v:α}{l:List (ζ×α)}:(l.map (·.1)).Nodup->(x,v)∈l->l.lookup x=some v:=by
 induction l with
 |nil=>exact λ_ h=>nomatch h
 |cons p l ih=>
  intro hn h;have hn:=Ny.mp hn;refine Oc.trans ((L7.mp h).elim (λe=>e▸?_) λh2=>?_)
  ·rw[beq_self_eq_true]
  ·rw[beq_eq_false_iff_ne.mpr λe=>hn.1 (MH.mpr ⟨(x,v),h2,e⟩)];exact ih hn.2 h2
theorem m6 {α:Type}(p:ζ->Bool)(l:List (ζ×α))(x:ζ):(l.filter λq=>p q.1).lookup x=if p x then l.lookup x else none:=by
 induction l with
 |nil=>rcases p x with _|_<;>rfl
 |cons q l ih=>
  rw[OE,Oc];rcases hp:p q.1 with _|_
  ·show QJ x (l.filter λq=>p q.1)=_;rcases e:x==q.1 with _|_
   ·exact ih
   ·rw[ih,(eq_of_beq e▸hp:p x=false)];rfl
  ·refine Oc.trans ?_;rcases e:x==q.1 with _|_
   ·exact ih
   ·rw[(eq_of_beq e▸hp:p x=true)];rfl
theorem fe {α:Type}:∀(l r:List (ζ×α)) (x:ζ),(l++r).lookup x=(l.lookup x).or (r.lookup x)
 |[],r,x=>by simp
 |(y,u)::l,r,x=>by
  (refine ad Uh ?_;refine ad Oc ?_;refine ad Oc ?_;refine ad (fe l r x) ?_)
  cases x==y<;>rfl
theorem Aa {f:ζ->Zk->Zk}(x:ζ)(names:List (ζ×Zk)):(names.map λp=>(p.1,f p.1 p.2)).lookup x=(names.lookup x).map (f x):=by
 induction names with
 |nil=>rfl
 |cons p r ih=>
  refine Oc.trans ?_;rw[Oc];rcases e:x==p.1 with _|_
  ·exact ih
  ·exact congrArg (λy=>some (f y p.2)) (eq_of_beq e).symm
theorem lN {outer:K6}(names:List (ζ×Zk))(x:ζ) :
  (names.map fun (n,k)=>if(k==NameKind.free&&outer.kind==.function&&fo outer n==some .cell)then(n,NameKind.cell)else(n,k)).lookup x =
   (names.lookup x).map λk=>if(k==NameKind.free&&outer.kind==.function&&fo outer x==some .cell)then .cell else k:=(congrArg (QJ x) (Qh λp _=>(apply_ite (Prod.mk p.1) _ _ _).symm)).trans (Aa (f:=λx k=>if(k==NameKind.free&&outer.kind==.function&&fo outer x==some .cell)then .cell else k) x names)
theorem gZ {i j:Nat}{e:Expr}{x:ζ}(h:(x,j)∈nM i e):j=i/\ru e=some x:=by
 unfold nM at h
 revert h
 rcases ru e with _|y<;>intro h
 ·exact absurd h QM
 ·have h:=Prod.mk.inj (LV.mp h);exact⟨h.2,congrArg some h.1.symm⟩
theorem nR {is:List Nat}:∀{xs:List Expr} {x:ζ} {i:Nat},(x,i)∈kh is xs->i∈is/\∃e,ru e=some x/\e∈xs:=by
 induction is with
 |nil=>exact λh=>absurd h QM
 |cons j is ih=>
  intro xs x i h;rcases xs with _|⟨y,xs⟩
  ·exact absurd h QM
  ·exact(M0.mp h).elim (λh=>⟨(gZ h).1▸LI,y,(gZ h).2,LI⟩) λh=>⟨L8 _ (ih h).1,(ih h).2.elim λe q=>⟨e,q.1,L8 _ q.2⟩⟩
theorem rG {is:List Nat}{target:Expr}{x:ζ}{i:Nat}(h:(x,i)∈jK (.tup is) target):∃xs,lG target=some xs/\(x,i)∈kh is xs:=by
 have h:(x,i)∈((lG target).map (kh is)).getD []:=h
 revert h
 rcases lG target with _|xs<;>intro h
 ·exact absurd h QM
 ·exact⟨xs,rfl,h⟩
theorem uA {t:ff}{target:Expr}{x:ζ}{i:Nat}{ρ:Loc}(h:(x,i)∈jK t target):t.clear ρ i=none:=by
 rcases t with j|is
 ·exact if_pos (gZ h).1
 ·exact(rG h).elim λxs q=>if_pos (PB.mpr (nR q.2).1)
theorem lO {sc:K6}{t:ff}{target:Expr}{x:ζ}{i:Nat}(hl:uo sc t target=true)(h:(x,i)∈jK t target):sc.names.lookup x=some .local:=by
 have loc:∀{e:Expr},ru e=some x->GE sc e=true->sc.names.lookup x=some .local:=λe h=>lH h λy q h=>eq_of_beq (Option.some.inj (q.symm.trans e)▸h);rcases t with j|is
 ·exact loc (gZ h).2 hl
 ·exact lH hl λxs e hl=>(rG h).elim λys q=>(nR q.2).2.elim λy r=>loc r.1 (MV.mp hl y (Option.some.inj (q.1.symm.trans e)▸r.2))
theorem uB {t:ff}{ρ:Loc}{i:Nat}{v:V}(h:t.clear ρ i=some v):ρ i=some v:=by
 rcases t with j|is
 ·exact if e:i=j then au ((if_pos e).symm.trans h)else(if_neg e).symm.trans h
 ·exact if e:is.contains i=true then au ((if_pos e).symm.trans h)else(if_neg e).symm.trans h
section
variable {w:μ}{D:Wd}{i':θ}{P:Nat->Prop}{φ:bm}{σ:St}{s:W1}{C:cA}{env:Env}{m:ζ->Option WP}{ρ:Loc}
structure pN (C:cA)(sc:K6):Prop where
 kind:sc.kind=.function
 aco:∀x∈sc.names,x.2≠.cell
 locs:∀x∈sc.names,x.2=.local->sc.names.lookup x.1=some .local
 free:∀x∈sc.names,x.2=.free->lJ C x.1=true
 nodup:(sc.names.map (·.1)).Nodup
theorem iJ {sc:K6}(h:i9 C sc=true):pN C sc:=by
 unfold i9 at h;simp only[MW,decide_eq_true_eq]at h;refine h.elim λq3 h5=>?_;refine q3.elim λq4 h4=>?_;refine q4.elim λq5 h3=>?_;refine q5.elim λh1 h2=>?_;refine⟨h1,λx hx=>?_,λx hx e=>?_,λx hx e=>?_,h5⟩
 ·have:=MV.mp h2 x hx
  simpa using this
 ·have:=MV.mp h3 x hx
  rw[e]at this
  simpa using this
 ·have:=MV.mp h4 x hx
  rw[e]at this;exact this
theorem fp (t:aE D w i' P φ σ s C env m ρ){x:ζ}(h:lJ C x=true):∃c LZ,env.cells.lookup x=some c/\s.heap.IsCell c LZ:=by
 unfold lJ at h;simp only[MW,OH,beq_iff_eq]at h;refine t.fr.cell x ?_ h.1;rw[t.kind];exact h.2
theorem lP (t:aE D w i' P φ σ s C env m ρ)(sc:K6):KB sc env=lI sc C.scope:=by
 unfold KB lI;have e:∀n,env.kindOf n=fo C.scope n:=t.kind;simp only[e,t.sc]
theorem yi {sc:K6}{tg:ff}{target:Expr}{L:Nat}{s':W1}(t:aE D w i' P φ σ s C env m ρ)(hs:pN C sc)(hl:uo sc tg target=true){N:Nat->Prop}(n:fG s.heap s'.heap N)(Yi:N L)(υ:s'.heap.Ns L λ_=>none) :
  aE D w i' (ee P N) φ σ s' (b9 C sc tg target) (EY sc (bT env sc.names []) L env) (λ_=>none) (tg.clear ρ):=by
 have QA:=(n.new L Yi).1
 have qJ:∀x c,(x,c)∈bT env sc.names []->∃LZ,env.cells.lookup x=some c/\s.heap.IsCell c LZ/\sc.names.lookup x=some .free:=by
  intro x c h;refine Lr (rF h) (λh=>?_) λo1=>?_
  ·contradiction
  ·refine o1.elim λh1 h2=>?_;refine bv (fp t (hs.free _ h1 rfl)) λc' LZ a b=>?_;dsimp only at h2 a;rw[a]at h2;simp only[WH]at h2;refine ad h2 ?_;exact⟨LZ,a,b,iI hs.nodup h1⟩
 have nd:((bT env sc.names []).map (·.1)).Nodup:=uz hs.nodup (by simp) (by simp)
 have Zg:∀x,sc.names.lookup x=some .free->∃c,env.cells.lookup x=some c/\(bT env sc.names []).lookup x=some c:=by
  intro x hx;have hm:=mem_of_lookup hx;refine bv (fp t (hs.free _ hm rfl)) λc LZ a b=>?_
  have:=Dq (env:=env) (acc:=[]) hm
  dsimp only at a;rw[a]at this;exact⟨c,a,iI nd this⟩
 have kd:∀x,(EY sc (bT env sc.names []) L env).kindOf x=(sc.names.lookup x).map λk=>if(k==NameKind.free&&C.scope.kind==.function&&fo C.scope x==some .cell)then .cell else k:=by
  intro x;show(KB sc env).names.lookup x=_;refine ad (lP t sc) ?_;exact lN _ _
 have Qr:∀x,sc.names.lookup x=some .free->(EY sc (bT env sc.names []) L env).kindOf x=some .cell\/(EY sc (bT env sc.names []) L env).kindOf x=some .free:=by
  intro x hx;rw[kd,hx];simp only[SU]
  split
  ·exact .inl rfl
  ·exact .inr rfl
 have R2:∀x,sc.names.lookup x=some .local->(EY sc (bT env sc.names []) L env).kindOf x=some .local:=by
  intro x hx;rw[kd,hx];rfl
 have Nh:∀x i,(b9 C sc tg target).κ.lookup x=some i->(x,i)∈jK tg target\/(C.κ.lookup x=some i/\sc.names.lookup x=some .free):=by
  intro x i h;have h:(jK tg target++C.κ.filter λp=>sc.names.lookup p.1==some .free).lookup x=some i:=h;rw[fe]at h;rcases e:(jK tg target).lookup x with _|j
  ·replace h:=e▸h;rw[m6 (λy=>sc.names.lookup y==some .free)]at h;simp only[YH]at h;refine dy h λhf h=>?_;exact .inr ⟨h,beq_iff_eq.mp hf⟩
  ·rw[e]at h;refine aT h ?_;exact .inl (mem_of_lookup e)
 refine⟨?_,lP t sc,t.sr.more n⟩
 exact {
  kind:=by show(KB sc env).kind=_;exact hs.kind
  glob:=t.fr.glob
  blt:=t.fr.blt
  ns:=υ
  pl:= .inr Yi
  pc:=λx c h=>by
   refine a6 (qJ x c h) λLZ a b _=>?_;exact .inl (t.fr.pc x c (mem_of_lookup a))
  apart:=by
   have mp:∀{l:List (ζ×Nat)},(l.map (·.1)).Nodup->(∀x c,(x,c)∈l->(x,c)∈env.cells)->l.Pairwise λx y=>x.2≠y.2:=by
    intro l
    induction l with
    |nil=>intro _ _;exact List.Pairwise.nil
    |cons p l ih=>
     intro hn hm;rw[M6,Ny]at hn;rw[OG];refine⟨λq hq e=>?_,ih hn.2 λx c h=>hm x c (L8 _ h)⟩;have h1:=hm p.1 p.2 LI;have h2:=hm q.1 q.2 (L8 _ hq);rw[e]at h1
     have:=name_of_addr t.fr.apart h1 h2
     exact hn.1 (MH.mpr ⟨q,hq,this.symm⟩)
   exact mp nd λx c h=>by obtain⟨LZ,a,_⟩:=qJ x c h;exact mem_of_lookup a
  abk:=λx c h=>by
   refine a6 (qJ x c h) λLZ a b _=>?_;rintro rfl;exact aB QA (fk b)
  cell:=λx hk hv=>by
   obtain⟨i,hi⟩:=OZ.mp hv;refine Lr (Nh x i hi) (λh=>?_) λo22=>?_
   ·have:=R2 x (lO hl h)
    replace hk:=this▸hk
    rcases hk with hk|hk<;>contradiction
   ·refine o22.elim λh1 h2=>?_;refine ag (Zg x h2) λc a b=>?_;refine bv (fp t (hs.free _ (mem_of_lookup h2) rfl)) λc' LZ a' b'=>?_;dsimp only at a';replace a':=a▸a';obtain rfl:=Option.some.inj a';exact⟨c,LZ,b,dd b' λo e=>n.keep _ o e⟩
  var:=λx i v hx hr=>by
   refine Lr (Nh x i hx) (λh=>?_) λU4=>?_
   ·replace hr:=(uA h)▸hr;exact au hr
   ·obtain⟨h1,h2⟩:=U4;refine ag (t.fr.var x i v h1 (uB hr)) λvc a b=>?_;refine ag (Zg x h2) λc c1 c2=>?_;refine⟨vc,a.more n,.inr ⟨Qr x h2,c,c2,?_⟩⟩;have ok:=hs.free _ (mem_of_lookup h2) rfl;unfold lJ at ok;simp only[MW,OH,beq_iff_eq]at ok;refine Lr b (λo37=>?_) λo38=>?_
    ·refine o37.elim λb1 b2=>?_;rw[t.kind]at b1;rw[b1]at ok
     rcases ok.2 with q|q<;>contradiction
    ·obtain⟨b,c',b1,b2⟩:=o38;replace b1:=c1▸b1;refine cX b1 ?_
     exact dd b2 λo e=>n.keep _ o e}
end
section
variable {prog:Θ}{w:μ}{A:ψ}{E:WP->W1->Prop}{D:Wd}{i':θ}{P:Nat->Prop}{n:Nat}{cl:Call}{C:cA}{env:Env}
structure lQ (w:μ)(P:Nat->Prop)(φ:bm)(σ:St)(h:θ)(acc:Nat)(l:List V):Prop where
 ex:∃items k,h.get? acc=some (cG items k)/\aZ w h (XF σ φ P) φ σ.n l items.toList/\items.size<=aq
theorem lQ.step {W:Nat->Prop}{φ φ':bm}{σ σ':St}{s s':W1}{acc:Nat}{l:List V}(x:lQ w P φ σ s.heap acc l)(S:SR w D.T i' P φ σ s.heap)(st:aw w D.T i' P W φ σ s φ' σ' s')(hW:∀a,W a->P a)(pa:P acc)(nw:¬W acc) :
  lQ w P φ' σ' s'.heap acc l:=by
 refine aL x.ex λitems k ho hi hz=>?_;exact⟨items,k,st.aaZ S pa nw ho,st.abM hW hi,hz⟩
theorem aw.own {a:Nat}{h':θ}{φ:bm}{σ:St}{s:W1}(S:SR w D.T i' P φ σ s.heap)(pa:P a)(hs:Heap.SameBut a s.heap h')(L5:(h'.get? a).isSome=true):aw w D.T i' P (λb=>b=a) φ σ s φ σ {s with heap:=h'}:=aw.same S pa hs L5
def W3 (I acc:Nat)(env:Env)(a:Nat):Prop:=a=I\/a=acc\/a=env.locals
structure kj (P:Nat->Prop)(I acc:Nat)(env:Env):Prop where
 pI:P I
 pA:P acc
 il:I≠env.locals
 al:acc≠env.locals
 ia:I≠acc
 ci:∀x c,(x,c)∈env.cells->c≠I/\c≠acc
structure CL (w:μ)(D:Wd)(i':θ)(P:Nat->Prop)(C:cA)(env:Env)(I acc:Nat)(src:Option Nat)(all:List V)(LD:bm)(LF:St)(LQ:W1)(i:Nat)(l:List V)(m:ζ->Option WP)(ρ:Loc)(φ:bm)(σ:St)(s:W1):Prop where
 st:aw w D.T i' P (W3 I acc env) LD LF LQ φ σ s
 site:aE D w i' P φ σ s C env m ρ
 it:fZ w s.heap (XF σ φ P) φ σ.n src all I i
 ac:lQ w P φ σ s.heap acc l
variable {I acc:Nat}{src:Option Nat}{all:List V}{LD:bm}{LF:St}{LQ:W1}{i:Nat}{l:List V}{m:ζ->Option WP}{ρ:Loc}{φ:bm}{σ:St}{s:W1}
theorem CL.wP (c:CL w D i' P C env I acc src all LD LF LQ i l m ρ φ σ s)(ap:kj P I acc env):∀a,W3 I acc env a->P a:=by
 rintro a (rfl|rfl|rfl)
 ·exact ap.pI
 ·exact ap.pA
 ·exact c.site.fr.pl
theorem CL.abT {φ':bm}{σ':St}{s':W1}(c:CL w D i' P C env I acc src all LD LF LQ i l m ρ φ σ s)(ap:kj P I acc env)(st:aw w D.T i' P (λ_=>False) φ σ s φ' σ' s'):CL w D i' P C env I acc src all LD LF LQ i l m ρ φ' σ' s':=⟨c.st.trans (st.weaken (λa z=>z.elim) (c.wP ap)),c.site.step st,st.it c.site.sr (λa z=>z.elim) ap.pI (λz=>z) c.it,c.ac.step c.site.sr st (λa z=>z.elim) ap.pA λz=>z⟩
theorem Dr {Q:Option WP->W1->Prop}(c:CL w D i' P C env I acc src all LD LF LQ i l m ρ φ σ s)(ap:kj P I acc env)(hr:aV A (2*n+1))(hg:guard src all σ=true)
  (k1:∀v vc s',all[i]?=some v->VR w s'.heap (XF σ φ P) φ σ.n v vc->CL w D i' P C env I acc src all LD LF LQ (i+1) l m ρ φ σ s'->Q (some vc) s') (k2:all[i]?=none->∀h',Heap.ExtBut I s.heap h'->Q none {s with heap:=h'}):ZB (η prog w) A (pyNext (.ref I)) Q E s:=vQ c.site.sr ap.pI hg c.it hr.handled (λv vc s' hv st Tx rv=>k1 v vc s' hv rv ⟨c.st.trans (st.weaken (λa e=> .inl e) (c.wP ap)),⟨c.site.fr.abO c.site.sr st (λa e=>e▸ap.pI) (λe=>ap.il e.symm) λx c h e=>(ap.ci x c h).1 e,c.site.sc,st.sr⟩,Tx,c.ac.step c.site.sr st (λa e=>e▸ap.pI) ap.pA λe=>ap.ia e.symm⟩) k2
theorem yj {tg:ff}{target:Expr}{v:V}{vc:WP}{LK:Loc}{Q:Unit->W1->Prop}(c:CL w D i' P C env I acc src all LD LF LQ i l m ρ φ σ s)(ap:kj P I acc env)(hr:aV A (2*n+1))(Om:m5 C tg target=true)(Lo:bE C.κ)
  (NT:∀y i,(y,i)∈jK tg target->env.kindOf y=some .local) (hb:j6 tg v ρ=some LK) (rv:VR w s.heap (XF σ φ P) φ σ.n v vc) (k:∀s' m',CL w D i' P C env I acc src all LD LF LQ i l m' LK φ σ s'->Q () s'):ZB (η prog w) A (assign target env vc) Q E s:=by
 have pL:=c.site.fr.pl;refine jQ (W:=λa=>a=env.locals) c.site Lo Om hb rv hr.handled (λy j hy a ha=>?_) (λa e=>e▸pL) λLp m₂ st site=>k Lp m₂ ⟨c.st.trans (st.weaken (λa e=> .inr (.inr e)) (c.wP ap)),site,st.it c.site.sr (λa e=>e▸pL) ap.pI ap.il c.it,c.ac.step c.site.sr st (λa e=>e▸pL) ap.pA ap.al⟩;refine Lr ha (λo5=>?_) λo6=>?_
 ·refine o5.elim λ_ ha=>?_;exact ha
 ·refine o6.elim λha _=>?_;replace ha:=(NT y j hy)▸ha;contradiction
theorem G1 {y:V}{yc:WP}{Q:WP->W1->Prop}(c:CL w D i' P C env I acc src all LD LF LQ i l m ρ φ σ s)(ap:kj P I acc env)(hl:l.length<aq)(ry:VR w s.heap (XF σ φ P) φ σ.n y yc)
  (k:∀s',CL w D i' P C env I acc src all LD LF LQ i (l++[y]) m ρ φ σ s'->Q .none s'):ZB (η prog w) A (call (.builtin "list.append") [.ref acc,yc] []) Q E s:=by
 refine aL c.ac.ex λitems kk ho hit hz=>?_;have Ω:=hit.size;refine Ij PySem.F.slot_list_append ⟨_,ho,rfl⟩ PySem.F.entry_list_append (PySem.F.args_list_append_2 _ _) (list_append acc items kk yc (eZ hz)) ⟨ho,?_⟩;have Sj:=IsL.update (n:=kk) ho (λxs=>xs.push yc);have st:=aw.own c.site.sr ap.pA (Heap.SameBut.update ..) (ba Sj);refine k _ ⟨c.st.trans (st.weaken (λa e=> .inr (.inl e)) (c.wP ap)),⟨c.site.fr.abO c.site.sr st (λa e=>e▸ap.pA) (λe=>ap.al e.symm) λx c h e=>(ap.ci x c h).2 e,c.site.sc,st.sr⟩,st.it c.site.sr (λa e=>e▸ap.pA) ap.pI ap.ia c.it,⟨_,_,Sj,?_,?_⟩⟩
 ·have:=st.abM (λa e=>e▸ap.pA) (hit.append (y:=[y]) (u:=[yc]) ⟨_,_,rfl,ry,rfl⟩)
  simpa using this
 ·rw[YP];exact Ll [_,_,_] 1 (.a M2 On) No [(1,.a NE On,No),(1,M2,NE)] rfl hl (LU Ω)
noncomputable def CR (D:Wd)(cl:Call)(cs:List IE)(elt:IE)(tg:ff)(src:Option Nat)(all r l:List V)(ρ:Loc)(σ:St):Mine.Internal.R (List V):=iV tg src all (λρ σ=>dk D.P cl cs ρ σ) (λρ σ=>cm D.P cl elt ρ σ) r l ρ σ
section
variable {cs:List IE}{elt:IE}{tg:ff}{r:List V}{o:List V×St}
theorem lR (h:CR D cl cs elt tg src all r l ρ σ=some o):guard src all σ=true:=by
 cases hg:Mine.Internal.guard src all σ
 ·have e:CR D cl cs elt tg src all r l ρ σ=none:=by
   rcases r with _|_
   ·exact if_neg (by(refine ad hg ?_);exact Nd)
   ·exact if_neg (by(refine ad hg ?_);exact Nd)
  replace h:=e▸h;exact au h
 ·rfl
theorem G4 (h:CR D cl cs elt tg src all [] l ρ σ=some o):o=(l,σ):=(Option.some.inj ((if_pos (lR h)).symm.trans h)).symm
theorem aaN {v:V}(h:CR D cl cs elt tg src all (v::r) l ρ σ=some o):∃LK b Li,j6 tg v ρ=some LK/\dk D.P cl cs LK σ=some (b,Li)/\(b=false->CR D cl cs elt tg src all r l LK Li=some o)/\(b=true->∃y Lq,cm D.P cl elt LK Li=some (y,Lq)/\l.length<aq/\CR D cl cs elt tg src all r (l++[y]) LK Lq=some o):=by
 refine a7 ((if_pos (lR h)).symm.trans h) λLK hb hc=>?_;refine ax hc λb Li ht hc=>?_;refine⟨LK,b,Li,hb,ht,λe=>?_,λe=>?_⟩
 ·subst e;exact hc
 ·subst e;refine ax hc λy Lq he hc=>?_;dsimp only at hc;refine dy hc λhlen hc=>?_;exact⟨y,Lq,he,hlen,hc⟩
end
theorem v5 {v:V}(hv:all[i]?=some v):i<all.length/\all.drop i=v::all.drop (i+1):=by
 refine(Mt.mp hv).elim λMy e9=>?_;refine aR e9 ?_;exact⟨My,List.drop_eq_getElem_cons My⟩
section
variable {cs:List IE}{elt:IE}{tg:ff}{o:List V×St}{x target:Expr}{ifs:List Expr}
theorem yk {EN NX:W1->Prop}(He:bW D prog w i' n cl elt)(Hc:gY D prog w i' n cl cs)(Ol:dS D C elt x)(Oa:dz D C cs ifs)(Om:m5 C tg target=true)(Lo:bE C.κ)
  (NT:∀y i,(y,i)∈jK tg target->env.kindOf y=some .local) (hr:aV A (2*n+1)) (ap:kj P I acc env) (c:CL w D i' P C env I acc src all LD LF LQ i l m ρ φ σ s) (hc:CR D cl cs elt tg src all (all.drop i) l ρ σ=some o)
  (hE:all[i]?=none->∀h',Heap.ExtBut I s.heap h'->EN {s with heap:=h'}) (hN:∀φ' σ' s' m' J' l',i<all.length->CL w D i' P C env I acc src all LD LF LQ (i+1) l' m' J' φ' σ' s'->CR D cl cs elt tg src all (all.drop (i+1)) l' J' σ'=some o->NX s') :
  ZB (η prog w) A (pyNext (.ref I)) (λr Lj=>match r with
   |none=>EN Lj
   |some v=>ZB (η prog w) A (Hy target (.ref I) v) (λ_ Ni=>ZB (η prog w) A (assign target env v) (λ_ Lp=>
     ZB (η prog w) A (forIn ifs true λc r=>if r=true then do let ok <- isTrue c env (eval c env);pure (ForInStep.yield ok)else pure (ForInStep.yield r)) (λok Lw=>
      if ok=true then ZB (η prog w) A (eval x env) (λy Mg=>ZB (η prog w) A (call (.builtin "list.append") [.ref acc,y]) (λ_ OJ=>NX OJ) E Mg) E Lw
      else NX Lw) E Lp) E Ni) E Lj) E s:=by
 refine Dr c ap hr (lR hc) (λv vc s' hv rv c1=>?_) hE;refine(v5 hv).elim λMy hd=>?_;rw[hd]at hc;refine jz (aaN hc) λLK b Li hb ht hf VP=>?_;refine aL c1.it.cls λo ty e1 e2 e3=>?_;refine Fb e1 e2 e3 (yj c1 ap hr Om Lo NT hb rv λLp m₂ c2=>Hc Oa hr c2.site ht λLX Lw LA=>?_);have c3:=c2.abT ap LA
 induction b with
 |false=>exact hN _ _ _ _ _ _ My c3 (hf rfl)
 |true=>
  refine aL (VP rfl) λy Lq he hlen hc=>?_;exact He Ol hr c3.site he λaaM Mg yc RJ ry=>G1 (c3.abT ap RJ) ap hlen ry λOJ c5=>hN _ _ _ _ _ _ My c5 hc
def CI (w:μ)(D:Wd)(i':θ)(P:Nat->Prop)(C:cA)(env:Env)(I acc:Nat)(src:Option Nat)(all:List V)(LD:bm)(LF:St)(LQ:W1)(cl:Call)(cs:List IE)(elt:IE)(tg:ff)(o:List V×St)(k:Nat)(s:W1):Prop:=∃i φ σ m ρ l,k=all.length+1-i/\CL w D i' P C env I acc src all LD LF LQ i l m ρ φ σ s/\CR D cl cs elt tg src all (all.drop i) l ρ σ=some o
theorem yl {iter:Expr}{scope:K6}{pos:Pos}{R:Dd->W1->Prop}
  (He:bW D prog w i' n cl elt) (Hc:gY D prog w i' n cl cs) (Ol:dS D C elt x) (Oa:dz D C cs ifs) (Om:m5 C tg target=true) (Lo:bE C.κ)
  (NT:∀y i,(y,i)∈jK tg target->env.kindOf y=some .local) (hr:aV A (2*n+1)) (ap:kj P I acc env) {vs:List V} {Og:St}
  (hR:∀φ' s' m' h',aw w D.T i' P (W3 I acc env) LD LF LQ φ' Og s'->lQ w P φ' Og s'.heap acc vs->s'.heap.Ns env.locals m'->Heap.ExtBut I s'.heap h'->R (.ok .next) {s' with heap:=h'})
  (Ts:aw w D.T i' P (W3 I acc env) LD LF LQ φ σ s) (site:aE D w i' P φ σ s C env m ρ) (it:fZ w s.heap (XF σ φ P) φ σ.n src all I 0) (ac:lQ w P φ σ s.heap acc l)
  (hc:iV tg src all (λρ σ=>dk D.P cl cs ρ σ) (λρ σ=>cm D.P cl elt ρ σ) all l ρ σ=some (vs,Og)) :
  U6 (η prog w) A (.compLoop (.ListComp x [⟨target,iter,ifs,0⟩] scope pos) 0 (.ref I) (.ref acc) env) R s:=by
 refine rE (I:=CI w D i' P C env I acc src all LD LF LQ cl cs elt tg (vs,Og)) (λk s=>?_) (all.length+1) s ⟨0,φ,σ,m,ρ,l,rfl,⟨Ts,site,it,ac⟩,hc⟩;rintro⟨i,φ,σ,m,ρ,l,rfl,c,hc⟩;refine yk He Hc Ol Oa Om Lo NT hr ap c hc (λhn h' eb=>?_) λφ' σ' s' m' J' l' My c' V'=>⟨all.length+1-(i+1),(Ll [_,_,_,_] 1 (.a M2 On) No [(1,.a NE On,.a No Op),(1,.a M2 (.a Op On),.a NE On)] rfl nu (mL (Ll [_,_] 1 (.a M2 On) (.a No On) [(1,.a M2 On,No)] rfl My))),i+1,φ',σ',m',J',l',rfl,c',V'⟩;replace hc:=(YG (Rq.mp hn))▸hc
 cases G4 hc
 exact hR φ s m h' c.st c.ac c.site.fr.ns eb
end
end
section
variable {w:μ}{D:Wd}{i':θ}{P P' N H:Nat->Prop}{φ φ':bm}{σ σ':St}{h h':θ}
theorem XF.hole {Q:Nat->Prop}(hk:∀b o,¬H b->h.get? b=some o->h'.get? b=some o)(hH:∀a,H a->Q a)(hP:∀a,P' a->Q a){a:Nat}{o:Obj}(hX:¬XF σ φ Q a)(e:h.get? a=some o):h'.get? a=some o/\¬XF σ φ P' a:=⟨hk a o (λq=>hX (.inr (hH a q))) e,λq=>hX (q.elim .inl λq=> .inr (hP a q))⟩
theorem SR.hole {Q:Nat->Prop}(S:SR w D.T i' Q φ σ h)(hk:∀b o,¬H b->h.get? b=some o->h'.get? b=some o)(hH:∀a,H a->Q a)(hP:∀a,P' a->Q a)(hn:∀a,P' a->¬H a):SR w D.T i' P' φ σ h' where
 obj:=λr hr=>by
  have p:=S.aaZ r hr;exact(S.obj r hr).mono (λa o hX e=>XF.hole hk hH hP hX e) (Lv _) (λ_ _=>rfl) rfl rfl (λo e=>hk _ o (λq=>p.1 (hH _ q)) e) λo e=>hk _ o (λq=>p.2 (hH _ q)) e
 above:=S.above
 lt:=λr hr=>by
  have p:=S.aaZ r hr;exact⟨aP (λo e=>hk _ o (λq=>p.1 (hH _ q)) e) (S.lt r hr).1,aP (λo e=>hk _ o (λq=>p.2 (hH _ q)) e) (S.lt r hr).2⟩
 inj:=S.inj
 aaZ:=λr hr=>⟨λq=>(S.aaZ r hr).1 (hP _ q),λq=>(S.aaZ r hr).2 (hP _ q)⟩
 Ψ:=λa q=>⟨(S.Ψ a (hP a q)).1,aP (λo e=>hk _ o (hn a q) e) (S.Ψ a (hP a q)).2⟩
 low:=S.low
 old:=λb o e=>hk b o (λq=>by replace e:=((S.Ψ b (hH b q)).1)▸e;exact au e) (S.old b o e)
theorem VR.hole {Q:Nat->Prop}{n:Nat}{x:V}{v:WP}(r:VR w h (XF σ φ Q) φ n x v)(hk:∀b o,¬H b->h.get? b=some o->h'.get? b=some o)(hH:∀a,H a->Q a)(hP:∀a,P' a->Q a):VR w h' (XF σ φ P') φ n x v:=r.mono (λa o hX e=>XF.hole hk hH hP hX e) (Lv _) λ_ _=>rfl
theorem aZ.hole {Q:Nat->Prop}{n:Nat}{x:List V}{v:List WP}(r:aZ w h (XF σ φ Q) φ n x v)(hk:∀b o,¬H b->h.get? b=some o->h'.get? b=some o)(hH:∀a,H a->Q a)(hP:∀a,P' a->Q a):aZ w h' (XF σ φ P') φ n x v:=r.mono (λa o hX e=>XF.hole hk hH hP hX e) (Lv _) λ_ _=>rfl
theorem fi.hole {W:Nat->Prop}{SG:θ}(x:fi W σ φ h σ' φ' h')(hk:∀b o,¬H b->h'.get? b=some o->SG.get? b=some o)(hf:∀a,H a->h.get? a=none):fi W σ φ h σ' φ' SG where
 abh:=x.abh
 agree:=x.agree
 keep:=λa o hm hw e=>hk a o (λq=>aB (hf a q) (ba e)) (x.keep a o hm hw e)
 abq:=x.abq
 wk:=λa hw e=>aP (λo q=>hk a o (λz=>aB (hf a z) e) q) (x.wk a hw e)
theorem fi.laid {W:Nat->Prop}{h₀:θ}(nw:fG h₀ h N)(x:fi W σ φ h σ' φ' h')(hW:∀a,W a->N a):fi (λ_=>False) σ φ h₀ σ' φ' h' where
 abh:=x.abh
 agree:=x.agree
 keep:=λa o hm _ e=>x.keep a o hm (λq=>aB (nw.new a (hW a q)).1 (ba e)) (nw.keep a o e)
 abq:=λa q=>(x.abq a q).imp_right λq=>by
  rcases e:h₀.get? a with _|o
  ·rfl
  ·replace q:=(nw.keep a o e)▸q;exact za q
 wk:=λ_ z=>z.elim
end
section
variable {prog:Θ}{w:μ}{A:ψ}{E:WP->W1->Prop}{D:Wd}{i':θ}{P:Nat->Prop}{φ:bm}{σ:St}{s:W1}{C:cA}{env:Env}{m:ζ->Option WP}{ρ:Loc}{n:Nat}{cl:Call}
theorem aE.carry {P' W:Nat->Prop}{φ':bm}{σ':St}{s':W1}(t:aE D w i' P φ σ s C env m ρ)(S:SR w D.T i' P' φ' σ' s'.heap)(hP:∀a,P a->P' a)
  (x:fi (λ_=>False) σ φ s.heap σ' φ' s'.heap) (hv:∀v vc,VR w s.heap (XF σ φ P) φ σ.n v vc->VR w s'.heap (XF σ' φ' P') φ' σ'.n v vc):aE D w i' P' φ' σ' s' C env m ρ:=by
 have hk:∀a o,P a->s.heap.get? a=some o->s'.heap.get? a=some o:=λa o pa e=>x.keep a o (dn t.sr pa) (λz=>z) e;have F:=t.fr.keep (P:=P) (X':=XF σ' φ' P') (φ':=φ') (n':=σ'.n) hk hv;exact⟨⟨F.kind,F.glob,F.blt,F.ns,hP _ F.pl,λx c q=>hP _ (F.pc x c q),F.apart,F.abk,F.cell,F.var⟩,t.sc,S⟩
theorem nS {elt it:IE}{cs:List IE}{x target iter:Expr}{ifs:List Expr}{tg:ff}{src:Option Nat}{all:List V}{xv:V}{xc:WP}{sc:K6}{pos:Pos}{RR:WP->Nat->Dd->W1->Prop}{vs:List V}{Og:St}
  (He:bW D prog w i' n cl elt) (Hc:gY D prog w i' n cl cs) (Np:jL C tg ⟨target,iter,ifs,0⟩ sc=true) (Ol:dS D (b9 C sc tg target) elt x) (Oa:dz D (b9 C sc tg target) cs ifs) (hr:aV A (2*n+1))
  (t:aE D w i' P φ σ s C env m ρ) (hx:VR w s.heap (XF σ φ P) φ σ.n xv xc) (hi:bV σ xv=some (all,src))
  (hc:iV tg src all (λρ σ=>dk D.P cl cs ρ σ) (λρ σ=>cm D.P cl elt ρ σ) all [] (tg.clear ρ) σ=some (vs,Og))
  (hRR:∀φ' s' acc L m',SR w D.T i' (ee P λa=>a=L) φ' Og s'.heap->fi (λ_=>False) σ φ s.heap Og φ' s'.heap->s'.gens=s.gens->s'.os=s.os->s'.drawn=s.drawn->s.heap.get? L=none->s'.heap.Ns L m'->
   VR w s'.heap (XF Og φ' (ee P λa=>a=L)) φ' Og.n (.lst vs) (.ref acc)->acc≠L->RR (.ref acc) L (.ok .next) s') :
  ZB (η prog w) A (pyIter xc) (λit Lp=>ZB (η prog w) A (newList []) (λacc Lw=>ZB (η prog w) A (newFunctionEnv sc env.globals (bT env sc.names []) [] env.qual none .none (some env)) (λTf Mg=>
   U6 (η prog w) A (.compStart (.ListComp x [⟨target,iter,ifs,0⟩] sc pos) 0 it acc {Tf with scope:=KB sc env}) (RR acc Tf.locals) Mg) E Lw) E Lp) E s:=by
 unfold jL at Np;simp only[MW,decide_eq_true_eq]at Np;refine Np.elim λq3 VT=>?_;refine q3.elim λq4 My=>?_;refine q4.elim λq5 Om=>?_;refine q5.elim λq6 Po=>?_;refine q6.elim λ_ υ=>?_;have so:=iJ Po;refine vT t.sr hx hi λLp Nn Nc it₂=>?_;refine AK ?_
 generalize PL:({Lp with heap:=Lp.heap.push {cls:= .type "list",data:= .seq ([]:List WP).toArray}}:W1)=Lw
 have NU:aF Lp Lw:=by(refine aR PL ?_);exact aF.push Lp _
 have M4:Lw.heap.get? Lp.heap.objs.size=some (cG #[] 0):=by(refine aR PL ?_);exact Heap.get?_push_size _ rfl
 generalize hI:s.heap.objs.size=I at *
 generalize hA:Lp.heap.objs.size=acc at *
 refine wpAny_newFunctionEnv so.aco (by intro y hy;simp at hy) (λON OP hsb=>?_) so.kind
 generalize hL:Lw.heap.objs.size=L at *
 have OK:∀b o,Lw.heap.get? b=some o->ON.get? b=some o:=λb o e=>
  hsb.extBut b o (λz=>by rw[z,<- hL,aW]at e;exact au e) (Heap.get?_push_of_some _ e)
 have hIn:s.heap.get? I=none:=by(refine aR hI ?_);exact aW _
 have Wj:(Lp.heap.get? I).isSome=true:=(Nn.new I rfl).2
 have Ym:Lp.heap.get? acc=none:=by(refine aR hA ?_);exact aW _
 have Wf:Lw.heap.get? L=none:=by(refine aR hL ?_);exact aW _
 have Wi:=aP (λo e=>NU.2.2.2 I o e) Wj
 have ia:I≠acc:=λe=>by rw[e]at Wj;exact aB Ym Wj
 have il:I≠L:=λe=>by rw[e]at Wi;exact aB Wf Wi
 have al:acc≠L:=λe=>by rw[e,Wf]at M4;exact au M4
 have Wk:s.heap.get? acc=none:=by
  rcases e:s.heap.get? acc with _|o
  ·rfl
  ·have:=Nc.2.2.2 _ _ e;rw[Ym]at this;exact au this
 have Yk:s.heap.get? L=none:=by
  rcases e:s.heap.get? L with _|o
  ·rfl
  ·have:=NU.2.2.2 _ _ (Nc.2.2.2 _ _ e);replace this:=Wf▸this;exact au this
 let N:Nat->Prop:=λa=>a=I\/a=acc\/a=L
 generalize PJ:({Lw with heap:=ON,toks:=Lw.toks+([]:List (ζ×WP)).length}:W1)=Mg
 have ND:Mg.heap=ON:=by(refine aR PJ ?_;rfl)
 have nw:fG s.heap Mg.heap N:=by
  refine⟨λb o e=>by(refine ad ND ?_);exact OK b o (NU.2.2.2 b o (Nc.2.2.2 b o e)),λa q=>?_⟩
  refine ad ND ?_;rcases q with rfl|rfl|rfl
  ·exact⟨hIn,aP (λo e=>OK _ o e) Wi⟩
  ·exact⟨Wk,ba (OK _ _ M4)⟩
  ·exact⟨Yk,kH OP⟩
 have N3:aE D w i' (ee P N) φ σ Mg (b9 C sc tg target) (EY sc (bT env sc.names []) L env) (λ_=>none) (tg.clear ρ):=yi t so My nw (.inr (.inr rfl)) (by(refine ad ND ?_);exact OP)
 have PH:fZ w Mg.heap (XF σ φ (ee P N)) φ σ.n src all I 0:=it₂ N Mg.heap nw λo e=>by(refine ad ND ?_);exact OK _ _ (NU.2.2.2 _ _ e)
 have Th:lQ w (ee P N) φ σ Mg.heap acc []:=⟨#[],0,by(refine ad ND ?_);exact OK _ _ M4,rfl,LP _⟩
 have OT:Mg.gens=s.gens/\Mg.os=s.os/\Mg.drawn=s.drawn:=by
  refine aR PJ ?_;exact⟨NU.1.trans Nc.1,NU.2.1.trans Nc.2.1,NU.2.2.1.trans Nc.2.2.1⟩
 have ap:kj (ee P N) I acc (EY sc (bT env sc.names []) L env):=by
  refine⟨.inr (.inl rfl),.inr (.inr (.inl rfl)),il,al,ia,λy c hy=>?_⟩;rcases rF hy with h|⟨h1,h2⟩
  ·contradiction
  ·refine bv (fp t (so.free _ h1 rfl)) λc' LZ a b=>?_;dsimp only at h2 a;rw[a]at h2;simp only[WH]at h2;refine ad h2 ?_
   exact⟨λe=>by rw[e]at b;exact aB hIn (fk b),λe=>by rw[e]at b;exact aB Wk (fk b)⟩
 have NT:∀y i,(y,i)∈jK tg target->(EY sc (bT env sc.names []) L env).kindOf y=some .local:=λy i hy=>lookup_relabel_local (lO My hy)
 have loop:U6 (η prog w) A (.compLoop (.ListComp x [⟨target,iter,ifs,0⟩] sc pos) 0 (.ref I) (.ref acc) (EY sc (bT env sc.names []) L env)) (RR (.ref acc) L) Mg:=by
  refine yl He Hc Ol Oa Om (jP VT) NT hr ap (λφ' s' m' h' st ac hn eb=>?_) (aw.refl N3.sr) N3 PH Th hc;have x1:fi (λ_=>False) σ φ s.heap Og φ' s'.heap:=st.ext.laid nw λa q=>q;have x2:fi (λ_=>False) σ φ s.heap Og φ' h':=x1.hole (H:=λa=>a=I) (λb o hb e=>eb b o hb e) λa e=>e▸hIn;have hP:∀a,ee P (λa=>a=L) a->ee P N a:=λa q=>q.imp_right λq=> .inr (.inr q)
  have hPI:∀a,ee P (λa=>a=L) a->¬a=I:=by
   rintro a (q|q) rfl
   ·exact aB hIn (t.sr.Ψ _ q).2
   ·exact il q
  have S2:SR w D.T i' (ee P λa=>a=L) φ' Og h':=st.sr.hole (H:=λa=>a=I) (λb o hb e=>eb b o hb e) (λa e=> .inr (.inl e)) hP hPI;refine aL ac.ex λitems k ho hit hz=>?_;refine hRR φ' {s' with heap:=h'} acc L m' S2 x2 (st.gens.trans OT.1) (st.os.trans OT.2.1) (st.drawn.trans OT.2.2) Yk (i6 hn λo e=>eb L o (Ne.symm il) e) ⟨acc,items,k,rfl,?_,eb _ _ (Ne.symm ia) ho,hit.hole (H:=λa=>a=I) (λb o hb e=>eb b o hb e) (λa e=> .inr (.inl e)) hP,hz⟩ al;rintro(q|q|q)
  ·exact dn st.sr (.inr (.inr (.inl rfl))) q
  ·exact aB Wk (t.sr.Ψ _ q).2
  ·exact al q
 exact codeAny_compStart_list loop (xV PH loop)
end
section
variable {prog:Θ}{w:μ}{A:ψ}{E:WP->W1->Prop}{D:Wd}{i':θ}{P:Nat->Prop}{φ:bm}{σ:St}{s:W1}{C:cA}{env:Env}{m:ζ->Option WP}{ρ:Loc}{n:Nat}{cl:Call}
theorem nT {sc:K6}(t:aE D w i' P φ σ s C env m ρ)(so:pN C sc):closureFor sc env=pure (bT env sc.names []):=Dp λp hp e=>by
  refine bv (fp t (so.free p hp e)) λc LZ a b=>?_
  (refine ad a ?_);rfl
theorem Dt {elt it:IE}{cs:List IE}{x:Expr}{g:GW}{tg:ff}{sc:K6}{pos:Pos}{v:V}{σ':St}{Q:WP->W1->Prop}(Hi:bW D prog w i' n cl it)(He:bW D prog w i' n cl elt)(Hc:gY D prog w i' n cl cs)
  (Np:jL C tg g sc=true) (hit:dS D C it g.iter) (Ol:dS D (b9 C sc tg g.target) elt x) (Oa:dz D (b9 C sc tg g.target) cs g.ifs) (hr:aV A (2*n+1))
  (t:aE D w i' P φ σ s C env m ρ) (he:cm D.P cl (.comp elt tg it cs) ρ σ=some (v,σ')) (h:aX D w i' P φ σ s v σ' Q):ZB (η prog w) A (eval (.ListComp x [g] sc pos) env) Q E s:=by
 obtain⟨target,iter,ifs,as⟩:=g;have hg:=aM (aM Np);have Po:i9 C sc=true:=aC (aM hg);have υ:lF iter=true:=aC (aM (aM hg));obtain rfl:as=0:=of_decide_eq_true (aM (aM (aM hg)));have so:=iJ Po;refine ax he λxv Li e1 he=>?_;refine ax he λall src e2 he=>?_;refine ax he λvs Lq e3 he=>?_;have h:=h.at he;rw[eval_ListComp];refine wpAny_comprehension_free (use:=none) rfl (pG υ) (nT t so) so.kind so.locs ?_;refine Hi hit hr t e1 λLm Lj xc F' rx=>?_;have Ly:=t.step F';refine nS (it:=it) (RR:=λacc L=>compPost (η prog w) A E none Q acc L) He Hc Np Ol Oa hr Ly rx e2 e3 λφ' s' acc L m' S x g o d hL hn hv MT=>?_;refine⟨m',hn,λh' M3=>?_⟩
 have st:=h.then F'
 have hk:∀b ob,¬b=L->s'.heap.get? b=some ob->h'.get? b=some ob:=λb ob q e=>M3.extBut b ob q e
 refine st φ' {s' with heap:=h'} (.ref acc) ⟨S.hole (H:=λa=>a=L) hk (λa e=> .inr e) (λa q=> .inl q) (λa q e=>by cases e;exact aB hL (Ly.sr.Ψ _ q).2),x.hole (H:=λa=>a=L) hk (λa e=>e▸hL),g,o,d⟩ ?_
 exact hv.hole (H:=λa=>a=L) hk (λa e=> .inr e) λa q=> .inl q
theorem G5 {x:V}{no:Bool}(h:Gd false x=false):Gd no x=no:=by
 rcases x with _|_|_|_|_|_|_|_|_<;>first|exact vz h|rfl
theorem Du {x:V}(h:Gd false x=true):x=.none:=by
 rcases x with _|_|_|_|_|_|_|_|_<;>first|exact ak h|rfl
theorem VR.ack {h:θ}{X:Nat->Prop}{n:Nat}{x:V}{a:WP}(hx:Gd false x=false)(r:VR w h X φ n x a):a≠.none:=by
 rcases x with _|_|_|_|_|_|_|_|_
 ·exact vz hx
 ·exact ad (show a=_ from r) nofun
 ·exact r.abf λ_=>nofun
 ·exact r.abS λ_ _ _=>nofun
 ·exact r.abB λ_ _ _ _ _ _ _=>nofun
 ·exact r.abv λ_ _ _ _ _ _ _=>nofun
 ·exact r.elim λ_ q=>q.elim λ_ q=>q.elim λ_ q=>ad q.1 nofun
 ·exact r.abn λ_=>nofun
 ·exact r.2.2.elim λ_ q=>q.elim λ_ q=>q.elim λ_ q=>q.elim λ_ q=>ad q.1 nofun
theorem nU {x:V}{a:WP}{no:Bool}{Q:WP->W1->Prop}(h:Q (.bool (Gd no x)) s)(r:VR w s.heap (XF σ φ P) φ σ.n x a):ZB (η prog w) A (compareOp (if no then .IsNot else .Is) a .none) Q E s:=by
 rcases hx:Gd false x with _|_
 ·have ha:=r.ack hx;have h:=aR (P:=λb=>Q (.bool b) s) (G5 hx) h;rcases no with _|_
  ·exact is_none_ne ha h
  ·exact isnot_none_ne ha h
 ·obtain rfl:=Du hx;refine ad (show a=.none from r) ?_;rcases no with _|_
  ·exact is_none_none h
  ·exact isnot_none_none h
theorem Dv {vs:List V}{cs:List WP}{Q:WP->W1->Prop}(S:SR w D.T i' P φ σ s.heap)(hl:aZ w s.heap (XF σ φ P) φ σ.n vs cs)(Ω:cs.length<=aq)(h:aX D w i' P φ σ s (.ref σ.n) (σ.new (.list vs)) Q) :
  ZB (η prog w) A (newList cs) Q E s:=by
 have h3:3<s.heap.objs.size:=by
  refine(OZ.mp S.low).elim λo ho=>?_;exact Heap.lt_size (S.old _ _ ho)
 refine AK ?_ (by show cs.toArray.size<=DK;rw[QP,PySem.sizeLine_eq];unfold aq at Ω;lia)
 have g:=aF.push s {cls:= .type "list",data:= .seq cs.toArray};have hk:∀b ob,s.heap.get? b=some ob->(s.heap.push {cls:= .type "list",data:= .seq cs.toArray}).get? b=some ob:=λb ob e=>Heap.get?_push_of_some _ e;have hx:(s.heap.push {cls:= .type "list",data:= .seq cs.toArray}).get? s.heap.objs.size=some (cG cs.toArray 0):=Heap.get?_push_size _ rfl
 have hm:∀a,vI (σ.new (.list vs)) (φ.put σ.n s.heap.objs.size s.heap.objs.size) a->vI σ φ a\/s.heap.get? a=none:=by
  rintro a ⟨r,h1,h2,h3⟩
  by_cases e:r=σ.n
  ·subst e;rw[d7,fR]at h3
   rcases h3 with rfl|rfl<;>exact .inr (aW _)
  ·rw[cf e,cH e]at h3;rw[St.abK,if_neg e]at h2;have TN:r<σ.n+1:=h1
   exact .inl ⟨r,by lia,h2,h3⟩
 have N9:aZ w (s.heap.push {cls:= .type "list",data:= .seq cs.toArray}) (XF (σ.new (.list vs)) (φ.put σ.n s.heap.objs.size s.heap.objs.size) P) (φ.put σ.n s.heap.objs.size s.heap.objs.size) (σ.n+1) vs cs:=hl.mono (λa o hX e=>⟨hk a o e,λq=>q.elim (λq=>(hm a q).elim (λq=>hX (.inl q)) λq=>by rw[q]at e;cases e) λq=>hX (.inr q)⟩) (Mf _) λr hr=>cf (MC (Ll [_,_] 1 (.a M2 On) No [(1,.a M2 On,No)] rfl hr))
 obtain⟨p,q⟩:=S.new (o:= .list vs) (a:=s.heap.objs.size) (d:=s.heap.objs.size) hk ⟨aW _,ba hx⟩ ⟨aW _,ba hx⟩ h3
  ⟨by rw[d7,fR],cs.toArray,0,by rw[d7];exact hx,by simpa using N9,by simpa using Ω⟩
 exact h (φ.put σ.n s.heap.objs.size s.heap.objs.size) _ _ ⟨p,q,rfl,rfl,rfl⟩ ⟨Oe _,by rw[d7]⟩
theorem Dx {pos:Pos}{Q:WP->W1->Prop}(S:SR w D.T i' P φ σ s.heap)(h:aX D w i' P φ σ s (.ref σ.n) (σ.new (.dict [])) Q):ZB (η prog w) A (eval (.Dict [] [] pos) env) Q E s:=by
 have h3:3<s.heap.objs.size:=by
  refine(OZ.mp S.low).elim λo ho=>?_;exact Heap.lt_size (S.old _ _ ho)
 have hx:(s.heap.push (bH #[] 0)).get? s.heap.objs.size=some (bH #[] 0):=Heap.get?_push_size _ rfl;have hk:∀b ob,s.heap.get? b=some ob->(s.heap.push (bH #[] 0)).get? b=some ob:=λb ob e=>Heap.get?_push_of_some _ e
 obtain⟨p,q⟩:=S.new (o:= .dict []) (a:=s.heap.objs.size) (d:=s.heap.objs.size) hk ⟨aW _,ba hx⟩ ⟨aW _,ba hx⟩ h3
  ⟨by(refine ad d7 ?_;refine ad fR ?_;rfl),#[],0,by(refine ad d7 ?_);exact hx,rfl,rfl,rfl,Pz,LP _,by simp⟩
 have key:Q (.ref s.heap.objs.size) {s with heap:=s.heap.push (bH #[] 0)}:=h (φ.put σ.n s.heap.objs.size s.heap.objs.size) _ _ ⟨p,q,rfl,rfl,rfl⟩ ⟨Oe _,by(refine ad d7 ?_;rfl)⟩
 exact wpAny_Dict_empty key
end
theorem pO {P:zf}{cl:Call}{es:List IE}:∀{ρ:Loc} {σ:St} {vs:List V} {σ':St},eP P cl es ρ σ=some (vs,σ')->vs.length=es.length:=by
 induction es with
 |nil=>exact fun {ρ σ vs σ'} h=>bF (show some (([]:List V),σ)=some (vs,σ')from h) rfl
 |cons e es ih=>
  intro ρ σ vs σ' h;refine ax h λv Li _ h=>?_;refine ax h λZw Lq h2 h=>?_;exact bF h (congrArg (·+1) (ih h2))
section
variable {prog:Θ}{w:μ}{D:Wd}{i':θ}{n:Nat}{cl:Call}
section
variable {A:ψ}{E:WP->W1->Prop}{P:Nat->Prop}{φ:bm}{σ:St}{s:W1}{C:cA}{env:Env}{m:ζ->Option WP}{ρ:Loc}{v:V}{σ':St}{Q:WP->W1->Prop}{QB:Bool->W1->Prop}
theorem aX.gr {s':W1}{v:V}{vc:WP}{Q:WP->W1->Prop}(h:aX D w i' P φ σ s v σ Q)(S:SR w D.T i' P φ σ s.heap)(g:aF s s')(r:VR w s'.heap (XF σ φ P) φ σ.n v vc):Q vc s':=h φ s' vc (aw.grow S g) r
theorem G6 {es:List IE}{xs:List Expr}{k:Nat}{pos:Pos}(H:eV D prog w i' n cl es)(hc:dz D C es xs)(hl:es.length<=1000)(hr:aV A (2*n+1))(t:aE D w i' P φ σ s C env m ρ)
  (he:cm D.P cl (.tup es) ρ σ=some (v,σ')) (h:aX D w i' P φ σ s v σ' Q):ZB (η prog w) A (eval (.Tuple xs k pos) env) Q E s:=by
 refine ax he λvs Li e1 he=>?_;have h:=h.at he;have hlen:=pO e1;rw[arm_eval_Tuple];refine WF (yA (WF ?_))
 exact H hc hr t e1 λφ' s' cs st r=>CX st.sr r (λvc MQ g rv=>(h.then st).gr st.sr g rv) (by(refine ad r.length ?_;refine ad hlen ?_);exact Lk hl (by decide))
theorem G7 {es:List IE}{xs:List Expr}{pos:Pos}(H:eV D prog w i' n cl es)(hc:dz D C es xs)(hl:es.length<=1000)(hr:aV A (2*n+1))(t:aE D w i' P φ σ s C env m ρ)
  (he:cm D.P cl (.lst es) ρ σ=some (v,σ')) (h:aX D w i' P φ σ s v σ' Q):ZB (η prog w) A (eval (.List xs pos) env) Q E s:=by
 refine ax he λvs Li e1 he=>?_;have h:=h.at he;have hlen:=pO e1;rw[arm_eval_List];refine WF (yA (WF ?_))
 exact H hc hr t e1 λφ' s' cs st r=>CW st.sr r (λvc MQ g rv=>(h.then st).gr st.sr g rv) (by(refine ad r.length ?_;refine ad hlen ?_);exact Lk hl (by decide))
theorem Dy {es:List IE}{xs:List Expr}{pos:Pos}(H:eV D prog w i' n cl es)(hc:dz D C es xs)(hl:es.length<=1000)(hr:aV A (2*n+1))(t:aE D w i' P φ σ s C env m ρ)
  (he:cm D.P cl (.abe es) ρ σ=some (v,σ')) (h:aX D w i' P φ σ s v σ' Q):ZB (η prog w) A (eval (.List xs pos) env) Q E s:=by
 refine ax he λvs Li e1 he=>?_;have h:=h.at he;have hlen:=pO e1;rw[arm_eval_List];refine WF (yA (WF ?_))
 exact H hc hr t e1 λφ' s' cs st r=>Dv st.sr r (by(refine ad r.length ?_;refine ad hlen ?_);exact Lk hl (by decide)) (h.then st)
theorem G8 {op:qy}{a b:IE}{x y:Expr}{pos:Pos}(Ha:bW D prog w i' n cl a)(Hb:bW D prog w i' n cl b)(hx:dS D C a x)(hy:dS D C b y)(hr:aV A (2*n+1))(t:aE D w i' P φ σ s C env m ρ)
  (he:cm D.P cl (.bin op a b) ρ σ=some (v,σ')) (h:aX D w i' P φ σ s v σ' Q):ZB (η prog w) A (eval (.BinOp x (qU op) y pos) env) Q E s:=by
 refine ax he λu Li e1 he=>?_;refine ax he λz Lq e2 he=>?_;refine a7 he λq e3 he=>?_;have h:=h.at he;refine wpAny_BinOp (Ha hx hr t e1 λLm Lj c F' Lz=>Hb hy hr (t.step F') e2 λLJ Lp d Ln Mb=>?_)
 exact Gp Ln.sr (Ln.vr Lz) Mb e3 λvc MQ g rv=>((h.then F').then Ln).gr Ln.sr g rv
theorem G9 {op:CD}{a b:IE}{x y:Expr}{pos:Pos}(Ha:bW D prog w i' n cl a)(Hb:bW D prog w i' n cl b)(hm:behindInMarks (Gr op) y=false)(hx:dS D C a x)(hy:dS D C b y)(hr:aV A (2*n+1))(t:aE D w i' P φ σ s C env m ρ)
  (he:cm D.P cl (.cmp op a b) ρ σ=some (v,σ')) (h:aX D w i' P φ σ s v σ' Q):ZB (η prog w) A (eval (.Compare x [Gr op] [y] pos) env) Q E s:=by
 refine ax he λu Li e1 he=>?_;refine ax he λz Lq e2 he=>?_;refine a7 he λq e3 he=>?_;have h:=h.at he;refine wpAny_Compare1 (Ha hx hr t e1 λLm Lj c F' Lz=>Hb hy hr (t.step F') e2 λLJ Lp d Ln Mb=>?_) hm
 exact zw Ln.sr (Ln.vr Lz) Mb hr.u e3 λMQ g=>((h.then F').then Ln).gr Ln.sr g rfl
theorem Hd {op:CD}{a b:IE}{x y:Expr}{pos:Pos}{bb:Bool}{whole:Sem WP}(Ha:bW D prog w i' n cl a)(Hb:bW D prog w i' n cl b)(hm:behindInMarks (Gr op) y=false)(hx:dS D C a x)(hy:dS D C b y)(hr:aV A (2*n+1))(t:aE D w i' P φ σ s C env m ρ)
  (he:cm D.P cl (.cmp op a b) ρ σ=some (v,σ')) (hb:cQ σ' v=some bb) (h:fT D w i' P φ σ s bb σ' QB):ZB (η prog w) A (isTrue (.Compare x [Gr op] [y] pos) env whole) QB E s:=by
 refine ax he λu Li e1 he=>?_;refine ax he λz Lq e2 he=>?_;refine a7 he λq e3 he=>?_;rcases he with _|_;obtain rfl:=Option.some.inj hb;refine wpAny_isTrue_Compare1 (Ha hx hr t e1 λLm Lj c F' Lz=>Hb hy hr (t.step F') e2 λLJ Lp d Ln Mb=>?_) hm
 exact zw Ln.sr (Ln.vr Lz) Mb hr.u e3 λMQ g=>eu (v:= .bool _) (Ln.sr.up g) rfl rfl (((h.then F').then Ln).then (aw.grow Ln.sr g))
theorem Hf {no:Bool}{a:IE}{x:Expr}{k:Nat}{pos p:Pos}(Ha:bW D prog w i' n cl a)(hx:dS D C a x)(hr:aV A (2*n+1))(t:aE D w i' P φ σ s C env m ρ)
  (he:cm D.P cl (.isn no a) ρ σ=some (v,σ')) (h:aX D w i' P φ σ s v σ' Q):ZB (η prog w) A (eval (.Compare x [if no then .IsNot else .Is] [.Constant .none k p] pos) env) Q E s:=by
 refine ax he λu Li e1 he=>?_;have h:=h.at he
 refine wpAny_Compare1 (Ha hx hr t e1 λLm Lj c F' Lz=>PyProof.Rows.Constant_none ?_) (by rcases no with _|_<;>rfl)
 exact nU ((h.then F').gr F'.sr (aF.refl _) rfl) Lz
theorem Hg {no:Bool}{a:IE}{x:Expr}{k:Nat}{pos p:Pos}{bb:Bool}{whole:Sem WP}(Ha:bW D prog w i' n cl a)(hx:dS D C a x)(hr:aV A (2*n+1))(t:aE D w i' P φ σ s C env m ρ)
  (he:cm D.P cl (.isn no a) ρ σ=some (v,σ')) (hb:cQ σ' v=some bb) (h:fT D w i' P φ σ s bb σ' QB):ZB (η prog w) A (isTrue (.Compare x [if no then .IsNot else .Is] [.Constant .none k p] pos) env whole) QB E s:=by
 refine ax he λu Li e1 he=>?_;rcases he with _|_
 refine wpAny_isTrue_Compare1 (Ha hx hr t e1 λLm Lj c F' Lz=>PyProof.Rows.Constant_none ?_) (by rcases no with _|_<;>rfl)
 exact nU (eu (v:= .bool _) F'.sr rfl hb (h.then F')) Lz
theorem Hj {a:IE}{x:Expr}{pos:Pos}(Ha:bW D prog w i' n cl a)(hx:dS D C a x)(hr:aV A (2*n+1))(t:aE D w i' P φ σ s C env m ρ)
  (he:cm D.P cl (.not a) ρ σ=some (v,σ')) (h:aX D w i' P φ σ s v σ' Q):ZB (η prog w) A (eval (.UnaryOp .Not x pos) env) Q E s:=by
 refine ax he λu Li e1 he=>?_;refine a7 he λb e2 he=>?_;have h:=h.at he;refine UnaryOp_ (Ha hx hr t e1 λLm Lj c F' Lz=>not_of ?_)
 exact eu F'.sr Lz e2 λφ' s' st=>(h.then F') φ' s' _ st rfl
theorem Hk {a:IE}{x:Expr}{pos:Pos}{bb:Bool}{whole:Sem WP}(Ta:pH D prog w i' n cl a)(hx:dS D C a x)(hr:aV A (2*n+1))(t:aE D w i' P φ σ s C env m ρ)
  (he:cm D.P cl (.not a) ρ σ=some (v,σ')) (hb:cQ σ' v=some bb) (h:fT D w i' P φ σ s bb σ' QB):ZB (η prog w) A (isTrue (.UnaryOp .Not x pos) env whole) QB E s:=by
 refine ax he λu Li e1 he=>?_;refine a7 he λb e2 he=>?_;rcases he with _|_;obtain rfl:=Option.some.inj hb;exact isTrue_not (Ta hx hr t e1 e2 λφ' s' st=>h φ' s' st)
theorem Hm {a:IE}{x:Expr}{pos:Pos}(Ha:bW D prog w i' n cl a)(hx:dS D C a x)(hr:aV A (2*n+1))(t:aE D w i' P φ σ s C env m ρ)
  (he:cm D.P cl (.neg a) ρ σ=some (v,σ')) (h:aX D w i' P φ σ s v σ' Q):ZB (η prog w) A (eval (.UnaryOp .USub x pos) env) Q E s:=by
 refine ax he λu Li e1 he=>?_;refine bP (G:=λu=>bW D prog w i' n cl a->cm D.P cl a ρ σ=some (u,Li)->_) he (λi he Ha e1=>bF (P:=λv σ'=>aX D w i' P φ σ s v σ' Q->_) he (λh=>UnaryOp_ (Ha hx hr t e1 λLm Lj c F' Lz=>?_)) h) Ha e1
 exact VR.abf Lz λtk=>PySem.P.neg_int ((h.then F').gr F'.sr (aF.toks Lj _) ⟨_,rfl⟩)
theorem Hn {c a b:IE}{x y z:Expr}{pos:Pos}(Tc:pH D prog w i' n cl c)(Ha:bW D prog w i' n cl a)(Hb:bW D prog w i' n cl b)(hx:dS D C c x)(hy:dS D C a y)(hz:dS D C b z)(hr:aV A (2*n+1))(t:aE D w i' P φ σ s C env m ρ)
  (he:cm D.P cl (.ite c a b) ρ σ=some (v,σ')) (h:aX D w i' P φ σ s v σ' Q):ZB (η prog w) A (eval (.IfExp x y z pos) env) Q E s:=by
 refine ax he λu Li e1 he=>?_;refine a7 he λbb e2 he=>?_;refine IfExp_ (Tc hx hr t e1 e2 λLm Lj F'=>?_);rcases bb with _|_
 ·exact Hb hz hr (t.step F') he (h.then F')
 ·exact Ha hy hr (t.step F') he (h.then F')
theorem Hp {c a b:IE}{x y z:Expr}{pos:Pos}{bb:Bool}{whole:Sem WP}(Tc:pH D prog w i' n cl c)(Ta:pH D prog w i' n cl a)(Tb:pH D prog w i' n cl b)(hx:dS D C c x)(hy:dS D C a y)(hz:dS D C b z)(hr:aV A (2*n+1))(t:aE D w i' P φ σ s C env m ρ)
  (he:cm D.P cl (.ite c a b) ρ σ=some (v,σ')) (hb:cQ σ' v=some bb) (h:fT D w i' P φ σ s bb σ' QB):ZB (η prog w) A (isTrue (.IfExp x y z pos) env whole) QB E s:=by
 refine ax he λu Li e1 he=>?_;refine a7 he λb1 e2 he=>?_;refine isTrue_IfExp (Tc hx hr t e1 e2 λLm Lj F'=>?_);rcases b1 with _|_
 ·exact Tb hz hr (t.step F') he hb (h.then F')
 ·exact Ta hy hr (t.step F') he hb (h.then F')
theorem Hq {a i:IE}{x y:Expr}{pos:Pos}(Ha:bW D prog w i' n cl a)(Hb:bW D prog w i' n cl i)(hx:dS D C a x)(hy:dS D C i y)(hr:aV A (2*n+1))(t:aE D w i' P φ σ s C env m ρ)
  (he:cm D.P cl (.sub a i) ρ σ=some (v,σ')) (h:aX D w i' P φ σ s v σ' Q):ZB (η prog w) A (eval (.Subscript x y pos) env) Q E s:=by
 refine ax he λu Li e1 he=>?_;refine ax he λz Lq e2 he=>?_;refine a7 he λq e3 he=>?_;have h:=h.at he;refine Subscript_ (Ha hx hr t e1 λLm Lj c F' Lz=>Hb hy hr (t.step F') e2 λLJ Lp d Ln Mb=>?_)
 exact(Gu Ln.sr (Ln.vr Lz) Mb hr.u e3 λvc MQ g rv=>((h.then F').then Ln).gr Ln.sr g rv).tail
theorem Ab {a:IE}{lo hi:Option IE}{x:Expr}{l u:Option Expr}{pos p:Pos}(Ha:bW D prog w i' n cl a)(Hl:ki D prog w i' n cl lo)(Hh:ki D prog w i' n cl hi)(hx:dS D C a x)(O4:KC D C lo l)(V6:KC D C hi u)
  (hr:aV A (2*n+1)) (t:aE D w i' P φ σ s C env m ρ)
  (he:cm D.P cl (.slice a lo hi) ρ σ=some (v,σ')) (h:aX D w i' P φ σ s v σ' Q):ZB (η prog w) A (eval (.Subscript x (.Slice l u none p) pos) env) Q E s:=by
 refine ax he λxv Li e1 he=>?_;refine ax he λlv Lq e2 he=>?_;refine ax he λhv MP e3 he=>?_;refine a7 he λq e4 he=>?_;rcases he with _|_;refine Subscript_ (Ha hx hr t e1 λLm Lj c F' Lz=>wpAny_Slice ?_);have Ly:=t.step F';refine Hl O4 hr Ly e2 λLJ Lp d Ln Mb=>Hh V6 hr (Ly.step Ln) e3 λLX Lw f LA Qm=>?_;rw[evalPart_none];refine XV ?_;have g:=aF.push Lw {cls:= .type "slice",data:= .fields #[d,f,.none]}
 have RL:lz w Lw.heap (XF σ' LX P) LX σ'.n lv d:=by
  induction lv with
  |none=>exact Mb
  |some z=>exact LA.vr Mb
 have up:∀{o:Option V} {z:WP},lz w Lw.heap (XF σ' LX P) LX σ'.n o z->lz w (Lw.heap.push {cls:= .type "slice",data:= .fields #[d,f,.none]}) (XF σ' LX P) LX σ'.n o z:=fun {o z} q=>by
  induction o with
  |none=>exact q
  |some z=>exact VR.up q g
 refine(zy (s:={Lw with heap:=Lw.heap.push {cls:= .type "slice",data:= .fields #[d,f,.none]}}) (LA.sr.up g) (VR.up (LA.vr (Ln.vr Lz)) g) (up RL) (up Qm) ⟨_,Heap.get?_push_size _ rfl,rfl,rfl⟩ e4 λvc MQ g' rv=>?_).tail
 exact((((h.then F').then Ln).then LA).then (aw.grow LA.sr g)).gr (LA.sr.up g) g' rv
theorem Dz {a:IE}{f:Nat}{x:Expr}{pos:Pos}(F:bS D w i')(Ha:bW D prog w i' n cl a)(hb:fH x=true)(hx:dS D C a x)(hr:aV A (2*n+1))(t:aE D w i' P φ σ s C env m ρ)
  (he:cm D.P cl (.attr a f) ρ σ=some (v,σ')) (h:aX D w i' P φ σ s v σ' Q):ZB (η prog w) A (eval (.Attribute x (D.T.abg f) pos) env) Q E s:=by
 refine ax he λu Li e1 he=>?_;refine a7 he λz e2 he=>?_;refine bF (P:=λv σ'=>aX D w i' P φ σ s v σ' Q->_) he (λh=>yd (M:=η prog w) hb (Ha hx hr t e1 λLm Lj c F' Lz=>?_)) h
 exact nK (G:=λu=>VR w Lj.heap (XF Li Lm P) Lm Li.n u c->_) e2 (λr cc fs hg e Lz=>Lz.abn λL6=>vU F F'.sr L6 hg e λvc s' g rv=>(h.then F').gr F'.sr g rv) Lz
end
end
section
variable (D:Wd)(prog:Θ)(w:μ)(i':θ)(n:Nat)(cl:Call)
structure EM (e:IE):Prop where
 ev:bW D prog w i' n cl e
 ts:pH D prog w i' n cl e
structure LM (es:List IE):Prop where
 evs:eV D prog w i' n cl es
 τ:z8 D prog w i' n cl .And es
 ω:z8 D prog w i' n cl .Or es
 acf:Fh D prog w i' n cl .And es
 ace:Fh D prog w i' n cl .Or es
 tests:gY D prog w i' n cl es
end
section
variable {prog:Θ}{w:μ}{D:Wd}{i':θ}{n:Nat}{cl:Call}
theorem EM.plain {e:IE}(H:bW D prog w i' n cl e)(hp:∀C y,jJ (TE D e C y).1=true):EM D prog w i' n cl e:=⟨H,λhc hr t he hb h=>z9 H (by obtain⟨y,rfl,_⟩:=hc;exact hp _ y) hc hr t he hb h⟩
theorem nV (v:V):EM D prog w i' n cl (.const v):= .plain (fun {C x A E P φ σ s env m ρ v' σ' Q} hc hr t he h=>by
 obtain⟨y,rfl,hc⟩:=hc
 cases (show some (v,σ)=some (v',σ')from he)
 exact zW t.sr hc h) λ_ _=>rfl
theorem rH (F:bS D w i')(v:V):EM D prog w i' n cl (.glob v):= .plain (fun {C x A E P φ σ s env m ρ v' σ' Q} hc hr t he h=>by
 obtain⟨y,rfl,hc⟩:=hc
 cases (show some (v,σ)=some (v',σ')from he)
 have e:D.glob (vw y).x=some (.val v):=aaV (aC (show(pC D C (vw y).x&&_)=true from hc));refine ag (F.acv _ _ e) λvc e1 e2=>?_
 exact jM F t (aM hc) e1 (h φ s vc (aw.refl t.sr) (zX t.sr e2))) λ_ _=>rfl
theorem v6 (i:Nat):EM D prog w i' n cl (.loc i):= .plain (λhc hr t he h=>by
 obtain⟨y,rfl,hc⟩:=hc;refine vA (fI hc) λc1 c2 c3=>?_;refine a7 he λu e1 he=>?_;have h:=h.at he
 exact wpAny_Name (vP t.fr c1 e1 c3 λvc r=>h _ _ vc (aw.refl t.sr) r) c2) λ_ _=>rfl
theorem v7 (es:List IE)(H:LM D prog w i' n cl es):EM D prog w i' n cl (.tup es):= .plain (λhc hr t he h=>by
 obtain⟨y,rfl,hc⟩:=hc
 exact G6 H.evs ⟨_,rfl,aM hc⟩ (of_decide_eq_true (aC hc)) hr t he h) λ_ _=>rfl
theorem v8 (es:List IE)(H:LM D prog w i' n cl es):EM D prog w i' n cl (.lst es):= .plain (λhc hr t he h=>by
 obtain⟨y,rfl,hc⟩:=hc
 exact G7 H.evs ⟨_,rfl,aM hc⟩ (of_decide_eq_true (aC hc)) hr t he h) λ_ _=>rfl
theorem rI (es:List IE)(H:LM D prog w i' n cl es):EM D prog w i' n cl (.abe es):= .plain (λhc hr t he h=>by
 obtain⟨y,rfl,hc⟩:=hc
 exact Dy H.evs ⟨_,rfl,aM hc⟩ (of_decide_eq_true (aC hc)) hr t he h) λ_ _=>rfl
theorem rJ:EM D prog w i' n cl .abm:= .plain (fun {C x A E P φ σ s env m ρ v' σ' Q} hc hr t he h=>by
 refine ag hc λy Xe hc=>?_;refine aR Xe ?_
 cases (show some (V.ref σ.n,σ.new (.dict []))=some (v',σ')from he)
 exact Dx t.sr h) λ_ _=>rfl
theorem v9 (op:qy)(a b:IE)(A:EM D prog w i' n cl a)(B:EM D prog w i' n cl b):EM D prog w i' n cl (.bin op a b):= .plain (λhc hr t he h=>by
 obtain⟨y,rfl,hc⟩:=hc
 exact G8 A.ev B.ev ⟨_,rfl,aM hc⟩ ⟨_,rfl,aC hc⟩ hr t he h) λ_ _=>rfl
theorem wc {b:Bool}(h:(!b)=true):b=false:=by rcases b with _|_;rfl;exact ak h
theorem wd (op:CD)(a b:IE)(A:EM D prog w i' n cl a)(B:EM D prog w i' n cl b):EM D prog w i' n cl (.cmp op a b):=⟨λhc hr t he h=>by
 obtain⟨y,rfl,hc⟩:=hc
 exact G9 A.ev B.ev (wc (aM hc)) ⟨_,rfl,aM (aC hc)⟩ ⟨_,rfl,aC (aC hc)⟩ hr t he h,λhc hr t he hb h=>by
 obtain⟨y,rfl,hc⟩:=hc
 exact Hd A.ev B.ev (wc (aM hc)) ⟨_,rfl,aM (aC hc)⟩ ⟨_,rfl,aC (aC hc)⟩ hr t he hb h⟩
theorem we (no:Bool)(a:IE)(A:EM D prog w i' n cl a):EM D prog w i' n cl (.isn no a):=⟨λhc hr t he h=>by
 obtain⟨y,rfl,hc⟩:=hc
 exact Hf A.ev ⟨_,rfl,hc⟩ hr t he h,λhc hr t he hb h=>by
 obtain⟨y,rfl,hc⟩:=hc
 exact Hg A.ev ⟨_,rfl,hc⟩ hr t he hb h⟩
theorem wf (a:IE)(A:EM D prog w i' n cl a):EM D prog w i' n cl (.not a):=⟨λhc hr t he h=>by
 obtain⟨y,rfl,hc⟩:=hc
 exact Hj A.ev ⟨_,rfl,hc⟩ hr t he h,λhc hr t he hb h=>by
 obtain⟨y,rfl,hc⟩:=hc
 exact Hk A.ts ⟨_,rfl,hc⟩ hr t he hb h⟩
theorem wg (a:IE)(A:EM D prog w i' n cl a):EM D prog w i' n cl (.neg a):= .plain (λhc hr t he h=>by
 obtain⟨y,rfl,hc⟩:=hc
 exact Hm A.ev ⟨_,rfl,hc⟩ hr t he h) λ_ _=>rfl
theorem rL (es:List IE)(H:LM D prog w i' n cl es):EM D prog w i' n cl (.τ es):=⟨λhc hr t he h=>by
 obtain⟨y,rfl,hc⟩:=hc
 exact H.τ ⟨_,rfl,hc⟩ hr t he h,λhc hr t he hb h=>by
 obtain⟨y,rfl,hc⟩:=hc
 exact H.acf ⟨_,rfl,hc⟩ hr t he hb h⟩
theorem rM (es:List IE)(H:LM D prog w i' n cl es):EM D prog w i' n cl (.ω es):=⟨λhc hr t he h=>by
 obtain⟨y,rfl,hc⟩:=hc
 exact H.ω ⟨_,rfl,hc⟩ hr t he h,λhc hr t he hb h=>by
 obtain⟨y,rfl,hc⟩:=hc
 exact H.ace ⟨_,rfl,hc⟩ hr t he hb h⟩
theorem wi (c a b:IE)(T:EM D prog w i' n cl c)(A:EM D prog w i' n cl a)(B:EM D prog w i' n cl b):EM D prog w i' n cl (.ite c a b):=⟨λhc hr t he h=>by
 obtain⟨y,rfl,hc⟩:=hc
 exact Hn T.ts A.ev B.ev ⟨_,rfl,aM hc⟩ ⟨_,rfl,aM (aC hc)⟩ ⟨_,rfl,aC (aC hc)⟩ hr t he h,λhc hr t he hb h=>by
 obtain⟨y,rfl,hc⟩:=hc
 exact Hp T.ts A.ts B.ts ⟨_,rfl,aM hc⟩ ⟨_,rfl,aM (aC hc)⟩ ⟨_,rfl,aC (aC hc)⟩ hr t he hb h⟩
theorem wj (a b:IE)(A:EM D prog w i' n cl a)(B:EM D prog w i' n cl b):EM D prog w i' n cl (.sub a b):= .plain (λhc hr t he h=>by
 obtain⟨y,rfl,hc⟩:=hc
 exact Hq A.ev B.ev ⟨_,rfl,aM hc⟩ ⟨_,rfl,aC hc⟩ hr t he h) λ_ _=>rfl
theorem nW (a:IE)(lo hi:Option IE)(A:EM D prog w i' n cl a)(L:ki D prog w i' n cl lo)(H:ki D prog w i' n cl hi):EM D prog w i' n cl (.slice a lo hi):= .plain (λhc hr t he h=>by
 obtain⟨y,rfl,hc⟩:=hc
 exact Ab A.ev L H ⟨_,rfl,aM hc⟩ ⟨_,rfl,aM (aC hc)⟩ ⟨_,rfl,aC (aC hc)⟩ hr t he h) λ_ _=>rfl
theorem rN (F:bS D w i')(a:IE)(f:Nat)(A:EM D prog w i' n cl a):EM D prog w i' n cl (.attr a f):= .plain (λhc hr t he h=>by
 obtain⟨y,rfl,hc⟩:=hc
 exact Dz F A.ev (aM hc) ⟨_,rfl,aC hc⟩ hr t he h) λ_ _=>rfl
section
variable (F:bS D w i')(L0:eC D prog w i' n cl)
include F L0
theorem rO (f:Nat)(es:List IE)(H:LM D prog w i' n cl es):EM D prog w i' n cl (.call f es):= .plain (λhc hr t he h=>by
 obtain⟨y,rfl,hc⟩:=hc;refine ax he λvs Li e1 he=>?_
 exact GX F L0 H.evs (aM hc) ⟨_,rfl,aM (aC hc)⟩ hr t e1 he h) λ_ _=>rfl
theorem rP (f:Nat)(es:List IE)(H:LM D prog w i' n cl es):EM D prog w i' n cl (.make f es):= .plain (λhc hr t he h=>by
 obtain⟨y,rfl,hc⟩:=hc;refine ax he λvs Li e1 he=>?_
 exact GY F L0 H.evs (aM hc) ⟨_,rfl,aM (aC hc)⟩ hr t e1 he h) λ_ _=>rfl
omit L0 in
theorem Ac (f:BI)(es:List IE)(H:LM D prog w i' n cl es):EM D prog w i' n cl (.bi f es):= .plain (λhc hr t he h=>by
 obtain⟨y,rfl,hc⟩:=hc;refine ax he λvs Li e1 he=>?_;refine a7 he λv e2 he=>?_;have h:=h.at he
 exact KE F H.evs (aM hc) ⟨_,rfl,aM (aC hc)⟩ hr t e1 e2 h) λ_ _=>rfl
set_option tactic.hygienic true in
theorem rQ (o:IE)(mm:Nat)(es:List IE)(O:EM D prog w i' n cl o)(H:LM D prog w i' n cl es):EM D prog w i' n cl (.π o mm es):= .plain (λhc hr t he h=>by
 obtain⟨y,rfl,hc⟩:=hc;have h2:=aC (aC hc);refine ax he λov Li e1 he=>?_;refine ax he λvs Lq e2 he=>?_;dsimp only at he
 split at he
 ·rename_i hk;exact G0 F L0 O.ev H.evs rfl (aM hc) (of_decide_eq_true (aM (aC hc))) (of_decide_eq_true (aM h2)) ⟨_,rfl,aM (aC h2)⟩ ⟨_,rfl,aC (aC h2)⟩ hr t e1 e2 hk he h
 ·exact au he) λ_ _=>rfl
end
theorem rR (e:IE)(tg:ff)(it:IE)(cs:List IE)(E:EM D prog w i' n cl e)(I:EM D prog w i' n cl it)(H:LM D prog w i' n cl cs):EM D prog w i' n cl (.comp e tg it cs):= .plain (λhc hr t he h=>by
 obtain⟨y,rfl,hc⟩:=hc;have h2:=aC (aC hc)
 exact Dt I.ev E.ev H.tests (aM hc) ⟨_,rfl,aM (aC hc)⟩ ⟨_,rfl,aM h2⟩ ⟨_,rfl,aC h2⟩ hr t he h) λ_ _=>rfl
theorem nX:EM D prog w i' n cl .abort:=⟨fun {C x A E P φ σ s env m ρ v' σ' Q} hc hr t he h=>(nomatch (show none=some (v',σ')from he)),fun {C x A E P φ σ s env m ρ v' σ' b Q} hc hr t he hb h=>(nomatch (show none=some (v',σ')from he))⟩
theorem rS:ki D prog w i' n cl none:=fun {C x A E P φ σ s env m ρ v σ' Q} hc hr t he h=>by
 refine ag hc λy Xf hc=>?_;refine aR Xf ?_
 cases (show some (none,σ)=some (v,σ')from he)
 show ZB _ _ (evalPart none env) _ _ _;rw[evalPart_none];exact XV (h φ s _ (aw.refl t.sr) rfl)
theorem rT (e:IE)(A:EM D prog w i' n cl e):ki D prog w i' n cl (some e):=λhc hr t he h=>by
 obtain⟨y,rfl,hc⟩:=hc;refine ax he λv Li e1 he=>?_;rcases he with _|_;show ZB _ _ (evalPart (some _) _) _ _ _;rw[evalPart_some];exact A.ev ⟨_,rfl,hc⟩ hr t e1 λLm Lj vc F' Lz=>h Lm Lj vc F' Lz
theorem wl:LM D prog w i' n cl []:=by
 refine⟨fun {C xs pos A E P φ σ s env m ρ vs σ' Q} hc hr t he h=>?_,fun {C xs pos A E P φ σ s env m ρ v σ' Q} hc hr t he h=>(nomatch (show none=some (v,σ')from he)),fun {C xs pos A E P φ σ s env m ρ v σ' Q} hc hr t he h=>(nomatch (show none=some (v,σ')from he)),
  fun {C xs pos A E P φ σ s env m ρ v σ' b whole Q} hc hr t he hb h=>(nomatch (show none=some (v,σ')from he)),fun {C xs pos A E P φ σ s env m ρ v σ' b whole Q} hc hr t he hb h=>(nomatch (show none=some (v,σ')from he)),fun {C xs A E P φ σ s env m ρ b σ' Q} hc hr t he h=>?_⟩
 ·refine ad hc.nil ?_
  cases (show some ([],σ)=some (vs,σ')from he)
  exact XV (h φ s [] (aw.refl t.sr) rfl)
 ·refine ad hc.nil ?_
  cases (show some (true,σ)=some (b,σ')from he)
  exact XV (h φ s (aw.refl t.sr))
theorem uC {A:ψ}{E:WP->W1->Prop}{Q:Bool->W1->Prop}{env:Env}{s:W1}(h:Q false s):∀(xs:List Expr),ZB (η prog w) A (forIn xs false λc r=>if r=true then do let ok <- isTrue c env (eval c env);pure (ForInStep.yield ok)else pure (ForInStep.yield r)) Q E s:=by
 intro xs
 induction xs with
 |nil=>exact XV h
 |cons y xs ih=>
  rw[Ui];refine WF ?_;refine ad (if_neg Nd) ?_;exact XV ih
theorem rU (e:IE)(es:List IE)(A:EM D prog w i' n cl e)(H:LM D prog w i' n cl es):LM D prog w i' n cl (e::es):=by
 refine⟨λhc hr t he h=>?_,λhc hr t he h=>?_,λhc hr t he h=>?_,fun {C xs pos A' E P φ σ s env m ρ v σ' b whole Q} hc hr t he hb h=>?_,fun {C xs pos A' E P φ σ s env m ρ v σ' b whole Q} hc hr t he hb h=>?_,λhc hr t he h=>?_⟩
 ·refine cS hc.cons λx xs e1 c1 c2 c3=>?_;refine ad e1 ?_;refine ax he λv Li e1 he=>?_;refine ax he λZw Lq e2 he=>?_;rcases he with _|_
  (refine ad (jN c1) ?_;refine ad jO ?_)
  refine WF (A.ev c2 hr t e1 λLm Lj vc F' Lz=>?_);refine WF (XV (WF (Zb ?_)));exact H.evs c3 hr (t.step F') e2 λLJ Lp cs Ln Mb=>XV (h LJ Lp (vc::cs) (F'.trans Ln) ⟨vc,cs,rfl,Ln.vr Lz,Mb⟩)
 ·refine cS hc.cons λx xs Nt c1 c2 c3=>?_;subst Nt;rcases es with _|⟨e2,es⟩
  ·(refine ad c3.nil ?_);exact BoolOp_one (A.ev c2 hr t he h)
  ·
   obtain⟨x2,xs,rfl,-⟩:=c3.cons;refine ax he λv1 Li e1 he=>?_;refine a7 he λb e3 he=>?_;refine BoolOp_and (A.ev c2 hr t e1 λLm Lj vc F' Lz=>eu F'.sr Lz e3 λLJ Lp Ln=>?_)
   cases b with
   |true=>exact H.τ c3 hr ((t.step F').step Ln) he ((h.then F').then Ln)
   |false=>
    have h:=h.at he;exact h LJ Lp vc (F'.trans Ln) (Ln.vr Lz)
 ·refine cS hc.cons λx xs Nt c1 c2 c3=>?_;subst Nt;rcases es with _|⟨e2,es⟩
  ·(refine ad c3.nil ?_);exact BoolOp_one (A.ev c2 hr t he h)
  ·
   obtain⟨x2,xs,rfl,-⟩:=c3.cons;refine ax he λv1 Li e1 he=>?_;refine a7 he λb e3 he=>?_;refine BoolOp_or (A.ev c2 hr t e1 λLm Lj vc F' Lz=>eu F'.sr Lz e3 λLJ Lp Ln=>?_)
   cases b with
   |false=>exact H.ω c3 hr ((t.step F').step Ln) he ((h.then F').then Ln)
   |true=>
    have h:=h.at he;exact h LJ Lp vc (F'.trans Ln) (Ln.vr Lz)
 ·refine cS hc.cons λx xs Nt c1 c2 c3=>?_;subst Nt;rcases es with _|⟨e2,es⟩
  ·
   refine ad c3.nil ?_;refine isTrue_and (A.ts c2 hr t he hb λLm Lj F'=>?_);rcases b with _|_
   ·exact h Lm Lj F'
   ·exact isTrue_and_nil (h Lm Lj F')
  ·
   obtain⟨x2,xs,rfl,-⟩:=c3.cons;refine ax he λv1 Li e1 he=>?_;refine a7 he λb' e3 he=>?_;refine isTrue_and (A.ts c2 hr t e1 e3 λLm Lj F'=>?_)
   cases b' with
   |true=>exact H.acf c3 hr (t.step F') he hb (h.then F')
   |false=>
    rcases he with _|_;exact(congrArg (Q · Lj) (Option.some.inj (e3.symm.trans hb))).mpr (h Lm Lj F')
 ·refine cS hc.cons λx xs Nt c1 c2 c3=>?_;subst Nt;rcases es with _|⟨e2,es⟩
  ·
   refine ad c3.nil ?_;refine isTrue_or (A.ts c2 hr t he hb λLm Lj F'=>?_);rcases b with _|_
   ·exact isTrue_or_nil (h Lm Lj F')
   ·exact h Lm Lj F'
  ·
   obtain⟨x2,xs,rfl,-⟩:=c3.cons;refine ax he λv1 Li e1 he=>?_;refine a7 he λb' e3 he=>?_;refine isTrue_or (A.ts c2 hr t e1 e3 λLm Lj F'=>?_)
   cases b' with
   |false=>exact H.ace c3 hr (t.step F') he hb (h.then F')
   |true=>
    rcases he with _|_;exact(congrArg (Q · Lj) (Option.some.inj (e3.symm.trans hb))).mpr (h Lm Lj F')
 ·refine cS hc.cons λx xs Nt c1 c2 c3=>?_;subst Nt;refine ax he λv1 Li e1 he=>?_;refine a7 he λb' e3 he=>?_;rw[Ui];refine WF ?_;refine ad (if_pos rfl) ?_;refine WF (A.ts c2 hr t e1 e3 λLm Lj F'=>XV ?_)
  induction b' with
  |true=>exact H.tests c3 hr (t.step F') he (h.then F')
  |false=>
   rcases he with _|_;exact uC (h Lm Lj F') xs
section
variable (F:bS D w i')(L0:eC D prog w i' n cl)
include F L0
theorem de (e:IE):EM D prog w i' n cl e:=IE.rec (motive_1:=EM D prog w i' n cl) (motive_2:=LM D prog w i' n cl) (motive_3:=ki D prog w i' n cl) nV (rH F) v6 v7 v8 rI rJ v9 wd we wf wg rL rM wi wj nW (rN F) (rO F L0) (rP F L0) (Ac F) (rQ F L0) rR nX wl rU rS rT e
theorem Hr (es:List IE):LM D prog w i' n cl es:=IE.rec_1 (motive_1:=EM D prog w i' n cl) (motive_2:=LM D prog w i' n cl) (motive_3:=ki D prog w i' n cl) nV (rH F) v6 v7 v8 rI rJ v9 wd we wf wg rL rM wi wj nW (rN F) (rO F L0) (rP F L0) (Ac F) (rQ F L0) rR nX wl rU rS rT es
end
end
noncomputable def IJ (w:μ)(h:θ)(X:Nat->Prop)(φ:bm)(n:Nat):Fl->Flow->Prop
 |.next,f=>f=.next
 |.brk,f=>f=.brk
 |.ret v,f=>∃vc,f=.ret vc/\VR w h X φ n v vc
section
variable {w:μ}{D:Wd}{i':θ}{P P' N H W W':Nat->Prop}{φ φ':bm}{σ σ':St}{h h' h₀:θ}{s s':W1}{C:cA}{env:Env}{m:ζ->Option WP}{ρ:Loc}
theorem fi.abZ (nw:fG h₀ h N)(x:fi W' σ φ h σ' φ' h')(h1:∀a,W' a->W a\/N a)(h2:∀a,W a->W' a):fi W σ φ h₀ σ' φ' h' where
 abh:=x.abh
 agree:=x.agree
 keep:=λa o hm hw e=>x.keep a o hm (λq=>(h1 a q).elim hw λq=>aB (nw.new a q).1 (ba e)) (nw.keep a o e)
 abq:=λa q=>(x.abq a q).imp_right λq=>by
  rcases e:h₀.get? a with _|o
  ·rfl
  ·replace q:=(nw.keep a o e)▸q;exact za q
 wk:=λa hw e=>x.wk a (h2 a hw) (aP (λo q=>nw.keep a o q) e)
theorem aE.abd (t:aE D w i' P φ σ s C env m ρ){a:Nat}(o:i7 env a):P a:=t.fr.abd o
theorem jb {x:ζ}{a:Nat}(h:rD env x a):i7 env a:=h.elim (λh=> .inl h.2) λh=>h.2
theorem aE.hole (t:aE D w i' P φ σ s C env m ρ)(hk:∀b o,¬H b->s.heap.get? b=some o->s'.heap.get? b=some o)(hH:∀a,H a->P a)(hP:∀a,P' a->P a)(hn:∀a,P' a->¬H a)(own:∀a,i7 env a->P' a):aE D w i' P' φ σ s' C env m ρ:=by
 have F:=t.fr;have no:∀a,i7 env a->¬H a:=λa o=>hn a (own a o);refine⟨⟨F.kind,F.glob,F.blt,i6 F.ns λo e=>hk _ o (no _ (.inl rfl)) e,own _ (.inl rfl),λx c q=>own _ (.inr ⟨x,q⟩),F.apart,F.abk,λx hx hl=>?_,λx i v hl hr=>?_⟩,t.sc,t.sr.hole hk hH hP hn⟩
 ·refine bv (F.cell x hx hl) λc LZ a b=>?_;exact⟨c,LZ,a,dd b λo e=>hk _ o (no _ (.inr ⟨x,mem_of_lookup a⟩)) e⟩
 ·refine ag (F.var x i v hl hr) λvc a b=>?_;refine⟨vc,a.hole hk hH hP,?_⟩;refine Lr b (λb=>?_) λo21=>?_
  ·exact .inl b
  ·obtain⟨b,c,b1,b2⟩:=o21;exact .inr ⟨b,c,b1,dd b2 λo e=>hk _ o (no _ (.inr ⟨x,mem_of_lookup b1⟩)) e⟩
theorem aE.more (t:aE D w i' P φ σ s C env m ρ)(n:fG s.heap s'.heap N):aE D w i' (ee P N) φ σ s' C env m ρ:=⟨t.fr.acp n,t.sc,t.sr.more n⟩
theorem IJ.hole {fl:Fl}{f:Flow}{n:Nat}(r:IJ w h (XF σ φ P) φ n fl f)(hk:∀b o,¬H b->h.get? b=some o->h'.get? b=some o)(hH:∀a,H a->P a)(hP:∀a,P' a->P a):IJ w h' (XF σ φ P') φ n fl f:=by
 induction fl with
 |next=>exact r
 |brk=>exact r
 |ret v=>
  refine ag r λvc e q=>?_;exact⟨vc,e,q.hole hk hH hP⟩
end
section
variable (D:Wd)(prog:Θ)(w:μ)(i':θ)(n:Nat)(cl:Call)
def ct (P:Nat->Prop)(C:cA)(env:Env)(φ:bm)(σ:St)(s:W1)(fl:Fl)(J':Loc)(σ':St)(Q:Flow->W1->Prop):Prop:=∀φ' s' m' f,aw w D.T i' P (i7 env) φ σ s φ' σ' s'->aE D w i' P φ' σ' s' C env m' J'->IJ w s'.heap (XF σ' φ' P) φ' σ'.n fl f->Q f s'
def K3 (C:cA)(i:IS)(x:χ):Prop:=∀{A:ψ} {E:WP->W1->Prop} {P:Nat->Prop} {φ:bm} {σ:St} {s:W1} {env:Env} {m:ζ->Option WP} {ρ J':Loc} {fl:Fl} {σ':St} {Q:Flow->W1->Prop},
 bE C.κ->aV A (2*n+1)->aE D w i' P φ σ s C env m ρ->nx D.P cl i ρ σ=some (fl,J',σ')->ct D w i' P C env φ σ s fl J' σ' Q->ZB (η prog w) A (exec x env) Q E s
def jc (C:cA)(is:List IS)(xs:List χ):Prop:=∀{A:ψ} {E:WP->W1->Prop} {P:Nat->Prop} {φ:bm} {σ:St} {s:W1} {env:Env} {m:ζ->Option WP} {ρ J':Loc} {fl:Fl} {σ':St} {Q:Flow->W1->Prop},
 bE C.κ->aV A (2*n+1)->aE D w i' P φ σ s C env m ρ->iE D.P cl is ρ σ=some (fl,J',σ')->ct D w i' P C env φ σ s fl J' σ' Q->ZB (η prog w) A (execs xs env) Q E s
end
section
variable {prog:Θ}{w:μ}{D:Wd}{i':θ}{n:Nat}{cl:Call}{A:ψ}{E:WP->W1->Prop}{P:Nat->Prop}{φ φ':bm}{σ:St}{s s':W1}{C:cA}{env:Env}{m:ζ->Option WP}{ρ J':Loc}{fl:Fl}{σ' Ls:St}{Q:Flow->W1->Prop}
theorem aw.abl (t:aE D w i' P φ σ s C env m ρ)(x:aw w D.T i' P (λ_=>False) φ σ s φ' σ' s'):aw w D.T i' P (i7 env) φ σ s φ' σ' s':=x.weaken (λ_ z=>z.elim) λ_ o=>t.abd o
theorem ct.at {f:Fl}{LK:Loc}{Li:St}(h:ct D w i' P C env φ σ s fl J' σ' Q)(e:some (f,LK,Li)=some (fl,J',σ')):ct D w i' P C env φ σ s f LK Li Q:=kD (P:=λfl J' σ'=>ct D w i' P C env φ σ s fl J' σ' Q->_) e id h
theorem ct.then (h:ct D w i' P C env φ σ s fl J' Ls Q)(x:aw w D.T i' P (i7 env) φ σ s φ' σ' s'):ct D w i' P C env φ' σ' s' fl J' Ls Q:=λMD MQ VE f y t r=>h MD MQ VE f (x.trans y) t r
theorem lS {value:Expr}{t:Option Expr}{l:Nat}(h:gX value=true):EQ value t l env=pure false:=by
 rcases value with _|_|_|_|_|_|_|_|_|_|_|_|_|_|_|_|_|_|_|_|_|_|_|_|_|_|_<;>first|rfl|exact ak h
theorem kl {value:Expr}{t:Expr}{l:Nat}(h:∀x p,t≠.Name x p):EQ value (some t) l env=pure false:=by
 rcases value with _|_|_|_|_|_|_|_|_|_|_|_|_|_|_|_|_|_|_|_|_|_|_|_|_|_|_<;>first|rfl|(rcases t with _|_|_|_|_|_|_|_|_|_|_|_|_|_|_|_|_|_|_|_|_|_|_|_|_|_|_<;>first|rfl|exact absurd rfl (h _ _))
theorem uD {x:ζ}{p:Pos}{l:Nat}{e:Expr}{gs:List GW}{sc:K6}{pos:Pos}:∃b,EQ (.ListComp e gs sc pos) (some (.Name x p)) l env=pure b:=⟨_,rfl⟩
theorem nY {x:ζ}{i:Nat}{v:V}{vc:WP}(t:aE D w i' P φ σ s C env m ρ)(Lo:bE C.κ)(hx:m4 C x i=true)(hk:fb C x=true)(hv:VR w s.heap (XF σ φ P) φ σ.n v vc)
  (h:ct D w i' P C env φ σ s .next (ρ.set i v) σ Q):ZB (η prog w) A (storeName env x vc) (λ_=>Q .next) E s:=pJ (W:=i7 env) t Lo (fI hx).1 hk hv (λa q=>jb q) (λa o=>t.abd o) λs' m' st t'=>h φ s' m' .next st t' rfl
theorem nZ {e:IE}{i:Nat}{x:ζ}{p pos:Pos}{value:Expr}(He:bW D prog w i' n cl e)(hs:EQ value (some (.Name x p)) pos.line env=pure false)(hx:m4 C x i=true)(hk:fb C x=true)(hc:dS D C e value)
  (Lo:bE C.κ) (hr:aV A (2*n+1)) (t:aE D w i' P φ σ s C env m ρ) (he:nx D.P cl (.assign (.loc i) e) ρ σ=some (fl,J',σ')) (h:ct D w i' P C env φ σ s fl J' σ' Q) :
  ZB (η prog w) A (exec (.Assign [.Name x p] value pos) env) Q E s:=by
 refine ax he λv Li e1 he=>?_
 revert h
 refine kD (show some (Fl.next,ρ.set i v,Li)=some (fl,J',σ')from he) λh=>?_
 refine wpAny_Assign_Name ?_ hs
 exact He hc hr t e1 λLm Lj vc F' Lz=>nY (t.step F') Lo hx hk Lz (h.then (aw.abl t F'))
theorem ym {elt it:IE}{cs:List IE}{i:Nat}{tg:ff}{g:GW}{sc:K6}{y:ζ}{p pos RN:Pos}{x:Expr}(Hi:bW D prog w i' n cl it)(He:bW D prog w i' n cl elt)(Hc:gY D prog w i' n cl cs)
  (hs:EQ (.ListComp x [g] sc RN) (some (.Name y p)) pos.line env=pure true) (hx:m4 C y i=true) (hk:fb C y=true)
  (Np:jL C tg g sc=true) (hit:dS D C it g.iter) (Ol:dS D (b9 C sc tg g.target) elt x) (Oa:dz D (b9 C sc tg g.target) cs g.ifs)
  (Lo:bE C.κ) (hr:aV A (2*n+1)) (t:aE D w i' P φ σ s C env m ρ) (he:nx D.P cl (.assign (.loc i) (.comp elt tg it cs)) ρ σ=some (fl,J',σ')) (h:ct D w i' P C env φ σ s fl J' σ' Q) :
  ZB (η prog w) A (exec (.Assign [.Name y p] (.ListComp x [g] sc RN) pos) env) Q E s:=by
 refine ax he λv Li e1 he=>?_
 revert h
 refine kD (show some (Fl.next,ρ.set i v,Li)=some (fl,J',σ')from he) λh=>?_
 obtain⟨target,iter,ifs,as⟩:=g;have hg:=Np;unfold jL at hg;simp only[MW,decide_eq_true_eq]at hg;obtain⟨⟨⟨⟨⟨rfl,υ⟩,Po⟩,-⟩,-⟩,-⟩:=hg;have so:=iJ Po;refine ax e1 λxv Lq e2 e1=>?_;refine ax e1 λall src e3 e1=>?_;refine ax e1 λvs MP e4 e1=>?_;rcases e1 with _|_;refine ad (exec_Assign_Name_used _ _ _ _ hs) ?_;refine WF (yA (WF ?_))
 refine WF (ye (wpAny_comprehension_free (use:=some (assign (.Name y p) env)) (Q:=λ_ s'=>Q .next s') rfl (pG υ) (nT t so) so.kind so.locs ?_) (λ_ s' hq=>XV (XV hq)) λ_ _ e=>e)
 refine Hi hit hr t e2 λLm Lj xc F' rx=>?_;have Ly:=t.step F'
 have h:=h.then (aw.abl t F')
 refine nS (it:=it) (RR:=λacc L=>compPost (η prog w) A E (some (assign (.Name y p) env)) (λ_ s'=>Q .next s') acc L) He Hc Np Ol Oa hr Ly rx e3 e4 λφ' s' acc L m' S xx g o d hL hn hv MT=>?_
 have pL:∀a,P a->a≠L:=λa pa e=>by cases e;exact aB hL (Ly.sr.Ψ _ pa).2
 have oL:∀a,i7 env a->a≠L:=λa q=>pL a (Ly.abd q)
 have Ma:aE D w i' (ee P λa=>a=L) φ' _ s' C env _ ρ:=Ly.carry (W:=λ_=>False) S (λa q=> .inl q) xx λv vc r=>
  r.mono (λa o hX e=>⟨(xx.kept (P:=P) (λ_ z=>z.elim) a o hX e).1,λq=>q.elim (λq=>(xx.kept (P:=P) (λ_ z=>z.elim) a o hX e).2 (.inl q)) λq=>q.elim (λq=>hX (.inr q)) λq=>by cases q;replace e:=hL▸e;exact au e⟩) xx.abh λr hr=>(xx.agree r hr).1
 refine PyProof.Rows.assign_Name (pJ (W:=i7 env) Ma Lo (fI hx).1 hk hv (λa q=>jb q) (λa o=>Ma.abd o) λLw NA LA Mx=>?_);have x3:fi (i7 env) _ Lm Lj.heap _ φ' Lw.heap:=(xx.weaken (W':=i7 env) (λ_ z=>z.elim) λa q _ _=>aP (λo e=>xx.keep a o (dn Ly.sr (Ly.abd q)) (λz=>z) e) (Ly.sr.Ψ a (Ly.abd q)).2).trans LA.ext;refine⟨_,i6 hn λo e=>LA.aaZ Ma.sr (.inr rfl) (λq=>oL _ q rfl) e,λh' M3=>?_⟩;have hk:∀b ob,¬b=L->Lw.heap.get? b=some ob->h'.get? b=some ob:=λb ob q e=>M3.extBut b ob q e;have OI:aE D w i' P φ' _ {Lw with heap:=h'} C env NA _:=Mx.hole (H:=λa=>a=L) hk (λa e=> .inr e) (λa q=> .inl q) (λa q=>pL a q) λa q=>Ly.abd q
 exact h φ' {Lw with heap:=h'} NA .next ⟨OI.sr,x3.hole (H:=λa=>a=L) hk (λa e=>e▸hL),LA.gens.trans g,LA.os.trans o,LA.drawn.trans d⟩ OI rfl
theorem yn {e:IE}{is:List Nat}{xs:List Expr}{k:Nat}{p pos:Pos}{value:Expr}(He:bW D prog w i' n cl e)(hx:nL C is xs=true)(hc:dS D C e value)(h1:rq value=true)(h2:gX value=true)
  (Lo:bE C.κ) (hr:aV A (2*n+1)) (t:aE D w i' P φ σ s C env m ρ) (he:nx D.P cl (.assign (.tup is) e) ρ σ=some (fl,J',σ')) (h:ct D w i' P C env φ σ s fl J' σ' Q) :
  ZB (η prog w) A (exec (.Assign [.Tuple xs k p] value pos) env) Q E s:=by
 refine ax he λv Li e1 he=>?_;refine a7 he λLK e2 he=>?_;have h:=h.at he
 refine Assign_Tuple ?_ (show EQ value (some (.Tuple xs k p)) pos.line env=pure false from lS h2) (by rcases value with _|_<;>first|rfl|exact ak h1)
 refine He hc hr t e1 λLm Lj vc F' Lz=>?_;have Ly:=t.step F'
 exact jQ (W:=i7 env) (t:= .tup is) Ly Lo hx e2 Lz hr.handled (λy i hy a q=>jb q) (λa o=>Ly.abd o) λs' m' st t'=>(h.then (aw.abl t F')) Lm s' m' .next st t' rfl
theorem Ad {o i e:IE}{ox ix value:Expr}{p pos:Pos}(He:bW D prog w i' n cl e)(Ho:bW D prog w i' n cl o)(Hi:bW D prog w i' n cl i)(hc:dS D C e value)(ho:dS D C o ox)(hi:dS D C i ix)
  (hr:aV A (2*n+1)) (t:aE D w i' P φ σ s C env m ρ) (he:nx D.P cl (.Ξ o i e) ρ σ=some (fl,J',σ')) (h:ct D w i' P C env φ σ s fl J' σ' Q) :
  ZB (η prog w) A (exec (.Assign [.Subscript ox ix p] value pos) env) Q E s:=by
 refine ax he λv Li e1 he=>?_;refine ax he λov Lq e2 he=>?_;refine ax he λiv MP e3 he=>?_;refine a7 he λPF e4 he=>?_;have h:=h.at he
 refine wpAny_Assign_Subscript ?_ (kl (by intro x p e;contradiction))
 refine He hc hr t e1 λLm Lj vc F' Lz=>?_;have Ly:=t.step F';refine Ho ho hr Ly e2 λLJ Lp oc Ln Mb=>?_;have Ma:=Ly.step Ln;refine Hi hi hr Ma e3 λLX Lw ic LA Qm=>?_;have Mx:=Ma.step LA;refine xQ Mx.sr (LA.vr Mb) Qm (LA.vr (Ln.vr Lz)) hr.u e4 λs' st=>?_
 exact h LX s' m .next (aw.abl t (((F'.trans Ln).trans LA).trans st)) (Mx.step st) rfl
theorem yo {o e:IE}{f:Nat}{ox value:Expr}{p pos:Pos}(F:bS D w i')(He:bW D prog w i' n cl e)(Ho:bW D prog w i' n cl o)(hf:f<D.T.nf)(hc:dS D C e value)(ho:dS D C o ox)
  (hr:aV A (2*n+1)) (t:aE D w i' P φ σ s C env m ρ) (he:nx D.P cl (.setAttr o f e) ρ σ=some (fl,J',σ')) (h:ct D w i' P C env φ σ s fl J' σ' Q) :
  ZB (η prog w) A (exec (.Assign [.Attribute ox (D.T.abg f) p] value pos) env) Q E s:=by
 refine ax he λv Li e1 he=>?_;refine ax he λov Lq e2 he=>?_;refine a7 he λPF e4 he=>?_;have h:=h.at he
 refine plainObj_wpAny_Assign_Attribute ?_ (kl (by intro x p e;contradiction))
 refine He hc hr t e1 λLm Lj vc F' Lz=>?_;have Ly:=t.step F';refine Ho ho hr Ly e2 λLJ Lp oc Ln Mb=>?_;have Ma:=Ly.step Ln;refine lC F Ma.sr Mb (Ln.vr Lz) hf e4 λs' st=>?_
 exact h LJ s' m .next (aw.abl t ((F'.trans Ln).trans st)) (Ma.step st) rfl
theorem rV {x:V}{G:V->Prop}(h:bk x=true)(k:∀i,G (.int i)):G x:=by
 rcases x with _|_|i|_|_|_|_|_|_<;>first|exact ak h|exact k i
theorem Ae {op:qy}{x y z:V}{a b:WP}{QV:WP->W1->Prop}(Se:rz op=true)(hi:(bk x&&bk y)=true)(hx:VR w s.heap (XF σ φ P) φ σ.n x a)(hy:VR w s.heap (XF σ φ P) φ σ.n y b)(e:dP op x y=some z)(h:qW w P φ σ s z QV):ZB (η prog w) A (inplaceOp (qU op) a b) QV E s:=by
 refine rV (G:=λx=>VR w s.heap (XF σ φ P) φ σ.n x a->dP op x y=some z->_) (bj hi).1 (λi hx e=>?_) hx e;refine rV (G:=λy=>VR w s.heap (XF σ φ P) φ σ.n y b->dP op (.int i) y=some z->_) (bj hi).2 (λj hy e=>?_) hy e
 rcases op with _|_|_|_|_<;>first|exact ak Se|skip
 ·exact aT (P:=λz=>qW w P φ σ s z QV->_) e (λh=>hx.abi hy λu v=>PySem.P.iadd_int (h _ _ (aF.toks s _) ⟨_,rfl⟩)) h
 ·exact aT (P:=λz=>qW w P φ σ s z QV->_) e (λh=>hx.abi hy λu v=>PySem.P.isub_int (h _ _ (aF.toks s _) ⟨_,rfl⟩)) h
 ·exact dy e λhc e=>aT (P:=λz=>qW w P φ σ s z QV->_) e (λh=>hx.abi hy λu v=>PyProof.Rows.ior_int (h _ _ (aF.toks s _) ⟨s.toks,congrArg (Value.int · _) (nD (qA hc).1 (qA hc).2)⟩)) h
theorem Jo {i:Nat}{op:qy}{e:IE}{x:ζ}{p pos:Pos}{value:Expr}(He:bW D prog w i' n cl e)(Se:rz op=true)(hx:m4 C x i=true)(hk:fb C x=true)(hc:dS D C e value)
  (Lo:bE C.κ) (hr:aV A (2*n+1)) (t:aE D w i' P φ σ s C env m ρ) (he:nx D.P cl (.aug i op e) ρ σ=some (fl,J',σ')) (h:ct D w i' P C env φ σ s fl J' σ' Q) :
  ZB (η prog w) A (exec (.AugAssign (.Name x p) (qU op) value pos) env) Q E s:=by
 refine a7 he λa e1 he=>?_;refine ax he λb Li e2 he=>?_;refine a7 he λv e3 he=>?_;have h:=h.at he;refine dy e3 λhi e3=>wpAny_AugAssign_Name (vP t.fr (fI hx).1 e1 (fI hx).2.2 λac ra=>?_);refine He hc hr t e2 λLm Lj bc F' rb=>?_;refine Ae Se hi (F'.vr ra) rb e3 λvc s' g rv=>?_
 exact nY ((t.step F').grow g) Lo hx hk rv (h.then (aw.abl t (F'.trans (aw.grow F'.sr g))))
theorem yp {o e:IE}{f:Nat}{op:qy}{ox value:Expr}{p pos:Pos}(F:bS D w i')(He:bW D prog w i' n cl e)(Ho:bW D prog w i' n cl o)(Se:rz op=true)(hf:f<D.T.nf)(hc:dS D C e value)(ho:dS D C o ox)
  (hr:aV A (2*n+1)) (t:aE D w i' P φ σ s C env m ρ) (he:nx D.P cl (.abw o f op e) ρ σ=some (fl,J',σ')) (h:ct D w i' P C env φ σ s fl J' σ' Q) :
  ZB (η prog w) A (exec (.AugAssign (.Attribute ox (D.T.abg f) p) (qU op) value pos) env) Q E s:=by
 refine ax he λov Li e1 he=>?_;refine a7 he λa e2 he=>?_;refine ax he λb Lq e3 he=>?_;refine a7 he λv e4 he=>?_;refine a7 he λMP e5 he=>?_;have h:=h.at he;refine dy e4 λhi e4=>wpAny_AugAssign_AttributeAny (Ho ho hr t e1 λLm Lj oc F' ro=>?_);have Ly:=t.step F';refine nK (G:=λov=>VR w Lj.heap (XF Li Lm P) Lm Li.n ov oc->dc ov f v Lq=some MP->_) e2 (λr c fs hg e2 ro e5=>ro.abn λL6=>?_) ro e5;have Oy:VR w Lj.heap (XF Li Lm P) Lm Li.n (.ref r) (.ref (Lm.a r)):=⟨L6,rfl⟩;refine vU F F'.sr L6 hg e2 λac Lp g ra=>?_;have Ma:=Ly.grow g;refine He hc hr Ma e3 λLX Lw bc LA rb=>?_;have Mx:=Ma.step LA;refine Ae Se hi (LA.vr ra) rb e4 λvc Mg QE rv=>?_;have OI:=Mx.grow QE;refine lC F OI.sr (VR.up (LA.vr (VR.up Oy g)) QE) rv hf e5 λs' st=>?_
 exact h LX s' m .next (aw.abl t ((((F'.trans (aw.grow F'.sr g)).trans LA).trans (aw.grow LA.sr QE)).trans st)) (OI.step st) rfl
theorem Hs {e:IE}{value:Expr}{pos:Pos}(He:bW D prog w i' n cl e)(hc:dS D C e value)(h2:gX value=true)
  (hr:aV A (2*n+1)) (t:aE D w i' P φ σ s C env m ρ) (he:nx D.P cl (.expr e) ρ σ=some (fl,J',σ')) (h:ct D w i' P C env φ σ s fl J' σ' Q) :
  ZB (η prog w) A (exec (.Expr value pos) env) Q E s:=by
 refine ax he λv Li e1 he=>?_
 have OC:some (Fl.next,ρ,Li)=some (fl,J',σ'):=by
  rcases v with _|_<;>simp only[reduceCtorEq]at he<;>exact he
 rcases OC with _|_
 refine wpAny_Expr_any ?_ (by unfold interactive;(refine ad t.fr.kind ?_);rfl) (lS h2)
 exact He hc hr t e1 λLm Lj vc F' Lz=>h Lm Lj m .next (aw.abl t F') (t.step F') rfl
theorem Jp {e:IE}{value:Expr}{pos:Pos}(He:bW D prog w i' n cl e)(hc:dS D C e value)
  (hr:aV A (2*n+1)) (t:aE D w i' P φ σ s C env m ρ) (he:nx D.P cl (.ret e) ρ σ=some (fl,J',σ')) (h:ct D w i' P C env φ σ s fl J' σ' Q) :
  ZB (η prog w) A (exec (.Return (some value) pos) env) Q E s:=by
 refine ax he λv Li e1 he=>?_;have h:=h.at he;exact wpAny_Return_some (He hc hr t e1 λLm Lj vc F' Lz=>h Lm Lj m (.ret vc) (aw.abl t F') (t.step F') ⟨vc,rfl,Lz⟩)
theorem Jq {o i:IE}{ox ix:Expr}{p pos:Pos}(Ho:bW D prog w i' n cl o)(Hi:bW D prog w i' n cl i)(ho:dS D C o ox)(hi:dS D C i ix)
  (hr:aV A (2*n+1)) (t:aE D w i' P φ σ s C env m ρ) (he:nx D.P cl (.del o i) ρ σ=some (fl,J',σ')) (h:ct D w i' P C env φ σ s fl J' σ' Q) :
  ZB (η prog w) A (exec (.Delete [.Subscript ox ix p] pos) env) Q E s:=by
 refine ax he λov Li e1 he=>?_;refine ax he λiv Lq e2 he=>?_;refine a7 he λMP e3 he=>?_;have h:=h.at he;refine wpAny_Delete (wpAny_deleteEach_cons (delete_Subscript (Ho ho hr t e1 λLm Lj oc F' Lz=>?_)));have Ly:=t.step F';refine Hi hi hr Ly e2 λLJ Lp ic Ln Mb=>?_;have Ma:=Ly.step Ln;refine xR Ma.sr (Ln.vr Lz) Mb hr.u e3 λs' st=>wpAny_deleteEach_nil ?_
 exact h LJ s' m .next (aw.abl t ((F'.trans Ln).trans st)) (Ma.step st) rfl
theorem uE {o lo:IE}{ox l:Expr}{p p2 pos:Pos}(Ho:bW D prog w i' n cl o)(Hl:bW D prog w i' n cl lo)(ho:dS D C o ox)(hl:dS D C lo l)
  (hr:aV A (2*n+1)) (t:aE D w i' P φ σ s C env m ρ) (he:nx D.P cl (.abA o lo) ρ σ=some (fl,J',σ')) (h:ct D w i' P C env φ σ s fl J' σ' Q) :
  ZB (η prog w) A (exec (.Delete [.Subscript ox (.Slice (some l) none none p2) p] pos) env) Q E s:=by
 refine ax he λov Li e1 he=>?_;refine ax he λiv Lq e2 he=>?_;refine a7 he λMP e3 he=>?_;have h:=h.at he;refine wpAny_Delete (wpAny_deleteEach_cons (delete_Subscript (Ho ho hr t e1 λLm Lj oc F' Lz=>wpAny_Slice ?_)));have Ly:=t.step F';rw[evalPart_some];refine Hl hl hr Ly e2 λLJ Lp ic Ln Mb=>?_;have Ma:=Ly.step Ln;rw[evalPart_none];refine XV (XV ?_);have g:=aF.push Lp {cls:= .type "slice",data:= .fields #[ic,.none,.none]};have Mx:=Ma.grow g;refine ui Mx.sr (VR.up (Ln.vr Lz) g) (VR.up Mb g) ⟨_,Heap.get?_push_size _ rfl,rfl,rfl⟩ e3 λs' st=>wpAny_deleteEach_nil ?_
 exact h LJ s' m .next (aw.abl t (((F'.trans Ln).trans (aw.grow Ln.sr g)).trans st)) (Mx.step st) rfl
end
def WI (I:Nat)(env:Env)(a:Nat):Prop:=a=I\/i7 env a
section
variable {prog:Θ}{w:μ}{D:Wd}{i':θ}{n:Nat}{cl:Call}{A:ψ}{E:WP->W1->Prop}{P:Nat->Prop}{φ φ':bm}{σ:St}{s s':W1}{C:cA}{env:Env}{m:ζ->Option WP}{ρ J':Loc}{fl:Fl}{σ' Ls:St}{Q:Flow->W1->Prop}
theorem aE.acg (t:aE D w i' P φ σ s C env m ρ){W:Nat->Prop}(x:aw w D.T i' P W φ σ s φ' σ' s')(hW:∀a,W a->P a)(hl:∀a,i7 env a->¬W a):aE D w i' P φ' σ' s' C env m ρ:=⟨t.fr.abO t.sr x hW (hl _ (.inl rfl)) λy c h=>hl _ (.inr ⟨y,h⟩),t.sc,x.sr⟩
noncomputable def LR (D:Wd)(cl:Call)(b:List IS)(tg:ff)(src:Option Nat)(all r:List V)(ρ:Loc)(σ:St):RS:=vE tg src all (λρ σ=>iE D.P cl b ρ σ) r ρ σ
def LC (D:Wd)(cl:Call)(b:List IS)(tg:ff)(src:Option Nat)(all r:List V)(f:Fl)(ρ:Loc)(σ:St)(o:Fl×Loc×St):Prop:=match f with
 |.next=>LR D cl b tg src all r ρ σ=some o
 |.brk=>o=(.next,ρ,σ)
 |.ret v=>o=(.ret v,ρ,σ)
section
variable {b:List IS}{tg:ff}{src:Option Nat}{all r:List V}{o:Fl×Loc×St}
theorem lT (h:LR D cl b tg src all r ρ σ=some o):guard src all σ=true:=by
 cases hg:Mine.Internal.guard src all σ
 ·have e:LR D cl b tg src all r ρ σ=none:=by
   rcases r with _|_
   ·exact if_neg (by(refine ad hg ?_);exact Nd)
   ·exact if_neg (by(refine ad hg ?_);exact Nd)
  replace h:=e▸h;exact au h
 ·rfl
theorem Hu (h:LR D cl b tg src all [] ρ σ=some o):o=(.next,ρ,σ):=(Option.some.inj ((if_pos (lT h)).symm.trans h)).symm
theorem DA {v:V}(h:LR D cl b tg src all (v::r) ρ σ=some o):∃LK f L2 Lq,j6 tg v ρ=some LK/\iE D.P cl b LK σ=some (f,L2,Lq)/\LC D cl b tg src all r f L2 Lq o:=by
 refine a7 ((if_pos (lT h)).symm.trans h) λLK hb hc=>lM hc λf L2 Lq hx hc=>⟨LK,f,L2,Lq,hb,hx,?_⟩;rcases f with _|_
 ·exact hc
 ·exact(Option.some.inj hc).symm
 ·exact(Option.some.inj hc).symm
end
structure FS (w:μ)(D:Wd)(i':θ)(P:Nat->Prop)(C:cA)(env:Env)(I:Nat)(src:Option Nat)(all:List V)(LD:bm)(LF:St)(LQ:W1)(i:Nat)(m:ζ->Option WP)(ρ:Loc)(φ:bm)(σ:St)(s:W1):Prop where
 st:aw w D.T i' P (WI I env) LD LF LQ φ σ s
 site:aE D w i' P φ σ s C env m ρ
 it:fZ w s.heap (XF σ φ P) φ σ.n src all I i
section
variable {I:Nat}{src:Option Nat}{all:List V}{LD:bm}{LF:St}{LQ:W1}{i:Nat}
theorem FS.wP (c:FS w D i' P C env I src all LD LF LQ i m ρ φ σ s)(pI:P I):∀a,WI I env a->P a:=by
 rintro a (rfl|o)
 ·exact pI
 ·exact c.site.abd o
theorem Af {b:List IS}{target:Expr}{body:List χ}{tg:ff}{o:Fl×Loc×St}{NX:W1->Prop}(Hb:jc D prog w i' n cl C b body)(Om:m5 C tg target=true)(Lo:bE C.κ)(hr:aV A (2*n+1))(pI:P I)(oI:¬i7 env I)
  (c:FS w D i' P C env I src all LD LF LQ i m ρ φ σ s) (hc:LR D cl b tg src all (all.drop i) ρ σ=some o)
  (hR:∀φ' s' m' f h',aw w D.T i' P (WI I env) LD LF LQ φ' o.2.2 s'->aE D w i' P φ' o.2.2 s' C env m' o.2.1->IJ w s'.heap (XF o.2.2 φ' P) φ' o.2.2.n o.1 f->Heap.ExtBut I s'.heap h'->Q f {s' with heap:=h'})
  (hN:∀φ' σ' s' m' J',i<all.length->FS w D i' P C env I src all LD LF LQ (i+1) m' J' φ' σ' s'->LR D cl b tg src all (all.drop (i+1)) J' σ'=some o->NX s') :
  ZB (η prog w) A (pyNext (.ref I)) (λr Lj=>match r with
   |none=>ZB (η prog w) A (execs [] env) (λf Lw=>Q f Lw) E Lj
   |some v=>ZB (η prog w) A (Hy target (.ref I) v) (λ_ Ni=>ZB (η prog w) A (assign target env v) (λ_ Lp=>ZB (η prog w) A (execs body env) (λf Lw=>match f with
      |.next|.cont=>NX Lw
      |.brk=>Q .next Lw
      |.ret v=>Q (.ret v) Lw) E Lp) E Ni) E Lj) E s:=by
 refine vQ c.site.sr pI (lT hc) c.it hr.handled (λv vc s' hv st Tx rv=>?_) λhn h' eb=>?_
 ·refine(v5 hv).elim λMy hd=>?_;replace hc:=hd▸hc;refine IP (DA hc) λLK f L2 Lq hbn hx hk=>?_;have N5:aE D w i' P φ σ s' C env m ρ:=c.site.acg st (λa e=>e▸pI) λa o e=>oI (e▸o);have Ox:=c.st.trans (st.weaken (λa e=> .inl e) (c.wP pI));refine aL Tx.cls λo' ty e1 e2 e3=>?_;refine Fb e1 e2 e3 (jQ (W:=i7 env) N5 Lo Om hbn rv hr.handled (λy j hy a ha=>jb ha) (λa o=>c.site.abd o) λLp m₂ Ln N4=>?_);have it₂:=Ln.it N5.sr (λa o=>c.site.abd o) pI oI Tx;have Mv:=Ox.trans (Ln.weaken (λa e=> .inr e) (c.wP pI));refine Hb Lo hr N4 hx λLX Lw NA fc LA Nm rf=>?_;have M7:=Mv.trans (LA.weaken (λa e=> .inr e) (c.wP pI))
  induction f with
  |next=>
   obtain rfl:=rf;exact hN _ _ _ _ _ My ⟨M7,Nm,LA.it N4.sr (λa o=>c.site.abd o) pI oI it₂⟩ hk
  |brk=>
   obtain rfl:=rf;obtain rfl:o=_:=hk
   exact hR LX Lw NA .next Lw.heap M7 Nm rfl λb o _ e=>e
  |ret v'=>
   obtain rfl:o=_:=hk;refine ag (id rf) λUx Td ZF=>?_;subst Td;exact hR LX Lw NA (.ret Ux) Lw.heap M7 Nm rf λb o _ e=>e
 ·rw[YG (Rq.mp hn)]at hc;obtain rfl:=Hu hc
  exact wpAny_execs_nil (hR φ s m .next h' c.st c.site rfl eb)
theorem DB {b:List IS}{target:Expr}{body:List χ}{tg:ff}{o:Fl×Loc×St}{R:Dd->W1->Prop}(Hb:jc D prog w i' n cl C b body)(Om:m5 C tg target=true)(Lo:bE C.κ)(hr:aV A (2*n+1))(pI:P I)(oI:¬i7 env I)
  (hR:∀φ' s' m' f h',aw w D.T i' P (WI I env) LD LF LQ φ' o.2.2 s'->aE D w i' P φ' o.2.2 s' C env m' o.2.1->IJ w s'.heap (XF o.2.2 φ' P) φ' o.2.2.n o.1 f->Heap.ExtBut I s'.heap h'->R (.ok f) {s' with heap:=h'})
  (c:FS w D i' P C env I src all LD LF LQ 0 m ρ φ σ s) (hc:LR D cl b tg src all all ρ σ=some o):U6 (η prog w) A (.forLoop target (.ref I) body [] env) R s:=by
 refine codeAny_forLoop_any (I:=λk s=>∃i φ σ m ρ,k=all.length+1-i/\FS w D i' P C env I src all LD LF LQ i m ρ φ σ s/\LR D cl b tg src all (all.drop i) ρ σ=some o) (λk s=>?_) (all.length+1) ⟨0,φ,σ,m,ρ,rfl,c,hc⟩;rintro⟨i,φ,σ,m,ρ,rfl,c,hc⟩;exact Af (Q:=λf s=>R (.ok f) s) Hb Om Lo hr pI oI c hc hR λφ' σ' s' m' J' My c' V'=>⟨all.length+1-(i+1),(Ll [_,_,_,_] 1 (.a M2 On) No [(1,.a NE On,.a No Op),(1,.a M2 (.a Op On),.a NE On)] rfl nu (mL (Ll [_,_] 1 (.a M2 On) (.a No On) [(1,.a M2 On,No)] rfl My))),i+1,φ',σ',m',J',rfl,c',V'⟩
end
theorem Hv {e:IE}{b:List IS}{tg:ff}{target iter:Expr}{body:List χ}{pos:Pos}(He:bW D prog w i' n cl e)(Hb:jc D prog w i' n cl C b body)(Om:m5 C tg target=true)(υ:lF iter=true)(hc:dS D C e iter)
  (Lo:bE C.κ) (hr:aV A (2*n+1)) (t:aE D w i' P φ σ s C env m ρ) (he:nx D.P cl (.loop tg e b) ρ σ=some (fl,J',σ')) (h:ct D w i' P C env φ σ s fl J' σ' Q) :
  ZB (η prog w) A (exec (.For target iter body [] pos) env) Q E s:=by
 refine ax he λxv Li e1 he=>?_;refine ax he λall src e2 he=>?_;dsimp only at he;refine wpAny_For (He hc hr t e1 λLm Lj xc F' rx=>?_) (pG υ);have Ly:=t.step F'
 have h:=h.then (aw.abl t F')
 refine vT Ly.sr rx e2 λLp Nn Nc it₂=>?_;have hIn:Lj.heap.get? Lj.heap.objs.size=none:=aW _;have Ma:aE D w i' (ee P λa=>a=Lj.heap.objs.size) Lm Li Lp C env m ρ:=Ly.more Nn
 have pI:∀a,P a->a≠Lj.heap.objs.size:=λa pa e=>by subst e;exact aB hIn (Ly.sr.Ψ _ pa).2
 refine DB Hb Om Lo hr (.inr rfl) (λo=>pI _ (Ly.abd o) rfl) (λφ' s' m' f h' st t' rf eb=>?_) ⟨aw.refl Ma.sr,Ma,it₂ _ Lp.heap Nn λo e=>e⟩ he;have hk:∀b ob,¬b=Lj.heap.objs.size->s'.heap.get? b=some ob->h'.get? b=some ob:=λb ob q e=>eb b ob q e;have Mx:aE D w i' P φ' σ' {s' with heap:=h'} C env m' J':=t'.hole (H:=λa=>a=Lj.heap.objs.size) hk (λa e=> .inr e) (λa q=> .inl q) (λa q=>pI a q) λa q=>Ly.abd q;have x1:fi (i7 env) Li Lm Lj.heap σ' φ' s'.heap:=st.ext.abZ Nn (λa q=>q.elim .inr .inl) λa q=> .inr q;refine h φ' {s' with heap:=h'} m' f ⟨Mx.sr,x1.hole (H:=λa=>a=Lj.heap.objs.size) hk (λa e=>e▸hIn),st.gens.trans Nc.1,st.os.trans Nc.2.1,st.drawn.trans Nc.2.2.1⟩ Mx ?_;exact rf.hole (H:=λa=>a=Lj.heap.objs.size) hk (λa e=> .inr e) (λa q=> .inl q)
noncomputable def WR (D:Wd)(cl:Call)(t:IE)(b:List IS)(k:Nat)(ρ:Loc)(σ:St):RS:=oN (λρ σ=>(cm D.P cl t ρ σ).bind fun (x,σ)=>(cQ σ x).bind λc=>some (c,σ)) (λρ σ=>iE D.P cl b ρ σ) k ρ σ
def WC (D:Wd)(cl:Call)(t:IE)(b:List IS)(k:Nat)(f:Fl)(ρ:Loc)(σ:St)(r:Fl×Loc×St):Prop:=match f with
 |.next=>WR D cl t b k ρ σ=some r
 |.brk=>r=(.next,ρ,σ)
 |.ret v=>r=(.ret v,ρ,σ)
theorem DC {t:IE}{b:List IS}{k:Nat}{r:Fl×Loc×St}{G:Prop}(h:WR D cl t b (k+1) ρ σ=some r)(K:∀v Li c,cm D.P cl t ρ σ=some (v,Li)->cQ Li v=some c->(c=false->r=(.next,ρ,Li))->(c=true->∃f L2 Lq,iE D.P cl b ρ Li=some (f,L2,Lq)/\WC D cl t b k f L2 Lq r)->G):G:=by
 refine ax h λbb MP R6 hw=>ax R6 λtv PF ht R6=>a7 R6 λc OU R6=>?_;rcases R6 with _|_;refine K tv MP bb ht OU (λe=>?_) λe=>?_
 ·subst e;exact(Option.some.inj hw).symm
 ·subst e;refine lM hw λf L2 Lq hx hw=>⟨f,L2,Lq,hx,?_⟩;rcases f with _|_
  ·exact hw
  ·exact(Option.some.inj hw).symm
  ·exact(Option.some.inj hw).symm
structure WS (w:μ)(D:Wd)(i':θ)(P:Nat->Prop)(C:cA)(env:Env)(φ:bm)(σ:St)(s:W1)(m:ζ->Option WP)(ρ:Loc)(φ':bm)(σ':St)(s':W1):Prop where
 st:aw w D.T i' P (i7 env) φ σ s φ' σ' s'
 site:aE D w i' P φ' σ' s' C env m ρ
theorem uF {t:IE}{b:List IS}{k:Nat}{r:Fl×Loc×St}{x:Expr}{body:List χ}{NX:W1->Prop}(Ht:pH D prog w i' n cl t)(Hb:jc D prog w i' n cl C b body)(hc:dS D C t x)(Lo:bE C.κ)(hr:aV A (2*n+1))
  (W:WS w D i' P C env φ σ s m ρ φ' σ' s') (hw:WR D cl t b (k+1) ρ σ'=some r) (hN:∀LJ Lq Lp m₂ L2,WS w D i' P C env φ σ s m₂ L2 LJ Lq Lp->WR D cl t b k L2 Lq=some r->NX Lp) (h:ct D w i' P C env φ σ s r.1 r.2.1 r.2.2 Q) :
  ZB (η prog w) A (isTrue x env (eval x env)) (λb Lp=>if b then ZB (η prog w) A (execs body env) (λf Lw=>match f with
      |.next|.cont=>NX Lw
      |.brk=>Q .next Lw
      |.ret v=>Q (.ret v) Lw) E Lp
    else ZB (η prog w) A (execs [] env) (λf Lw=>Q f Lw) E Lp) E s':=by
 refine DC hw λv Li c ht OU h1 h2=>Ht hc hr W.site ht OU λLJ Lp Ln=>?_;have W2:WS w D i' P C env φ σ s m ρ LJ Li Lp:=⟨W.st.trans (aw.abl W.site Ln),W.site.step Ln⟩
 induction c with
 |false=>
  obtain rfl:=h1 rfl
  exact wpAny_execs_nil (h LJ Lp m .next W2.st W2.site rfl)
 |true=>
  refine fh (h2 rfl) λf L2 Lq hx hk=>?_;refine Hb Lo hr W2.site hx λLX Lw NA fc LA Mx rf=>?_;have M7:=W2.st.trans LA
  induction f with
  |next=>
   obtain rfl:=rf;exact hN _ _ _ _ _ ⟨M7,Mx⟩ hk
  |brk=>
   obtain rfl:=rf;obtain rfl:r=_:=hk
   exact h LX Lw NA .next M7 Mx rfl
  |ret v'=>
   obtain rfl:r=_:=hk;refine ag (id rf) λUx Xi ZF=>?_;subst Xi;exact h LX Lw NA (.ret Ux) M7 Mx rf
theorem DE {k t:IE}{b:List IS}{x:Expr}{body:List χ}{pos:Pos}(Ht:pH D prog w i' n cl t)(Hb:jc D prog w i' n cl C b body)(hc:dS D C t x)
  (Lo:bE C.κ) (hr:aV A (2*n+1)) (site:aE D w i' P φ σ s C env m ρ) (he:nx D.P cl (.abD k t b) ρ σ=some (fl,J',σ')) (h:ct D w i' P C env φ σ s fl J' σ' Q) :
  ZB (η prog w) A (exec (.While x body [] pos) env) Q E s:=by
 refine ax he λxv Li e1 he=>?_
 have he:∃num:Nat,WR D cl t b (num+1) ρ σ=some (fl,J',σ'):=by
  rcases xv with _|_<;>first|exact⟨_,he⟩|exact au he
 refine he.elim λnum he=>?_;refine wpAny_While (codeAny_whileLoop (I:=λk Lj=>∃Lm Li m ρ,WS w D i' P C env φ σ s m ρ Lm Li Lj/\WR D cl t b k ρ Li=some (fl,J',σ')) (λk Lj=>?_) (num+1) ⟨φ,σ,m,ρ,⟨aw.refl site.sr,site⟩,he⟩);intro ZR;refine Kv ZR λLm Lq m₁ LK W hw=>?_
 induction k with
 |zero=>cases (show none=some (fl,J',σ')from hw)
 |succ k=>
  refine uF (Q:=Q) Ht Hb hc Lo hr W hw ?_ h;exact λLJ Lq Lp m₂ L2 W2 h2=>⟨k,Oe _,LJ,Lq,m₂,L2,W2,h2⟩
theorem Hw {c:IE}{a b:List IS}{x:Expr}{y z:List χ}{pos:Pos}(Hc:pH D prog w i' n cl c)(Ha:jc D prog w i' n cl C a y)(Hb:jc D prog w i' n cl C b z)(hx:dS D C c x)
  (Lo:bE C.κ) (hr:aV A (2*n+1)) (t:aE D w i' P φ σ s C env m ρ) (he:nx D.P cl (.cond c a b) ρ σ=some (fl,J',σ')) (h:ct D w i' P C env φ σ s fl J' σ' Q) :
  ZB (η prog w) A (exec (.If x y z pos) env) Q E s:=by
 refine ax he λu Li e1 he=>?_;refine a7 he λbb e2 he=>?_;refine wpAny_If (Hc hx hr t e1 e2 λLm Lj F'=>?_)
 have h:=h.then (aw.abl t F')
 rcases bb with _|_
 ·rw[if_neg Nd]at he⊢;exact Hb Lo hr (t.step F') he h
 ·rw[if_pos rfl]at he⊢;exact Ha Lo hr (t.step F') he h
theorem Ag {i:Nat}(t:aE D w i' P φ σ s C env m ρ)(Lo:bE C.κ)(hv:(C.κ.any λp=>p.2==i&&C.κ.lookup p.1==some i)=true)(he:nx D.P cl (.freeze i) ρ σ=some (fl,J',σ')) :
  fl=.next/\aw w D.T i' P (i7 env) φ σ s φ σ' s/\aE D w i' P φ σ' s C env m J':=by
 refine a7 he λv e1 he=>?_;refine ax he λv' Li e2 he=>?_;refine kD he ?_;refine ag (Qf.mp hv) λp _ hp=>?_;simp only[MW,beq_iff_eq]at hp;refine ag (t.fr.var _ _ _ hp.2 e1) λvc r va=>?_;refine(aaD (W:=i7 env) t.sr r e2 λa o=>t.abd o).elim λst r'=>?_;have F:=t.fr;refine⟨rfl,st,⟨F.kind,F.glob,F.blt,F.ns,F.pl,F.pc,F.apart,F.abk,F.cell,λy j u hl hr=>?_⟩,t.sc,st.sr⟩
 by_cases e:j=i
 ·cases e
  refine ad (Lo _ _ _ hl hp.2) ?_;simp only[Loc.set,if_true,Option.some.injEq]at hr;subst hr;exact⟨vc,r',va⟩
 ·simp only[Loc.set,if_neg e]at hr;refine ag (F.var y j u hl hr) λuc a b=>?_;exact⟨uc,st.vrW (λa o=>t.abd o) a,b⟩
end
section
variable {prog:Θ}{w:μ}{D:Wd}{i':θ}{n:Nat}{cl:Call}
end
section
variable (D:Wd)(prog:Θ)(w:μ)(i':θ)(n:Nat)(cl:Call)
def S1 (i:IS):Prop:=∀(is:List IS) (C:cA) (xs:List χ) (r:KD),(∀ys,(r ys).2=true->jc D prog w i' n cl C is (r ys).1)->(TS D i C xs r).2=true->jc D prog w i' n cl C (i::is) (TS D i C xs r).1
def S2 (is:List IS):Prop:=∀(C:cA) (xs:List χ),(II D is C xs).2=true->jc D prog w i' n cl C is (II D is C xs).1
end
section
variable {prog:Θ}{w:μ}{D:Wd}{i':θ}{n:Nat}{cl:Call}
theorem Hx {C:cA}{i:IS}{is:List IS}{x:χ}{xs:List χ}(H1:K3 D prog w i' n cl C i x)(H2:jc D prog w i' n cl C is xs):jc D prog w i' n cl C (i::is) (x::xs):=fun {A E P φ σ s env m ρ J' fl σ' Q} Lo hr site he h=>by
 refine lM he λf LK Li e1 he=>?_;refine wpAny_execs_cons (H1 Lo hr site e1 λLm Lj m₁ fc F' Ly rf=>?_)
 induction f with
 |next=>
  refine ad rf ?_
  exact H2 Lo hr Ly he (h.then F')
 |brk=>
  refine ad rf ?_;have h:=h.at he;exact h Lm Lj m₁ .brk F' Ly rfl
 |ret v=>
  have h:=h.at he;have ZH:=rf;refine ag rf λvc Xg rv=>?_;subst Xg;exact h Lm Lj m₁ (.ret vc) F' Ly ZH
theorem fq {i:IS}{f:cA->χ->χ×Bool}(e:TS D i=one f)(H:∀C x,(f C x).2=true->K3 D prog w i' n cl C i (f C x).1):S1 D prog w i' n cl i:=λis C xs r hr h=>by
 rw[e]at h⊢;exact Hx (H C _ (aM h)) (hr _ (aC h))
theorem DF (e:IE):(∀C y,(TE D e C y).2=true->gX (TE D e C y).1=true)\/(∃a t i c,e=.comp a t i c)\/e=.abort:=by
 rcases e with _|_<;>first|exact .inl λ_ _ _=>rfl|exact .inr (.inl ⟨_,_,_,_,rfl⟩)|exact .inr (.inr rfl)
section
variable (F:bS D w i')(L0:eC D prog w i' n cl)
include F L0
set_option tactic.hygienic true in
theorem Ah (t:ff)(e:IE):S1 D prog w i' n cl (.assign t e):=fq rfl λC x h {A E P φ σ s env m ρ J' fl σ' Q} Lo hr site he hq=>by
 have E:=de F L0 e;have c1:=aM h;have c2:=aM (aC h);have c3:=aC (aC h);unfold pE
 generalize (sw x).t=tx at c1⊢
 induction t with
 |tup is=>
  rcases tx with _|_<;>try (exact ak c1)
  exact yn E.ev c1 ⟨_,rfl,c2⟩ (aM c3) (aC c3) Lo hr site he hq
 |loc i=>
  rcases tx with _|_<;>try (exact ak c1)
  refine fY (DF (D:=D) e) (λhn=>?_) (λo5=>?_) λo6=>?_
  ·exact nZ E.ev (lS (hn _ _ c2)) (aM c1) (aC c1) ⟨_,rfl,c2⟩ Lo hr site he hq
  ·refine CN o5 λelt tg it cs e7=>?_;subst e7;rename_i y p;obtain⟨b,hb⟩:∃b,EQ (TE D (.comp elt tg it cs) C (sw x).v).1 (some (.Name y p)) x.pos.line env=pure b:=uD
   induction b with
   |false=>exact nZ E.ev hb (aM c1) (aC c1) ⟨_,rfl,c2⟩ Lo hr site he hq
   |true=>
    have h2:=aC (aC c2);exact ym (de F L0 it).ev (de F L0 elt).ev (Hr F L0 cs).tests hb (aM c1) (aC c1) (aM c2) ⟨_,rfl,aM (aC c2)⟩ ⟨_,rfl,aM h2⟩ ⟨_,rfl,aC h2⟩ Lo hr site he hq
  ·subst o6;exact nomatch (show none=some (fl,J',σ')from he)
theorem Ai (o i e:IE):S1 D prog w i' n cl (.Ξ o i e):=fq rfl λC x h=>λLo hr site he hq=>
 Ad (de F L0 e).ev (de F L0 o).ev (de F L0 i).ev ⟨_,rfl,aM h⟩ ⟨_,rfl,aM (aC h)⟩ ⟨_,rfl,aC (aC h)⟩ hr site he hq
theorem yq (o:IE)(f:Nat)(e:IE):S1 D prog w i' n cl (.setAttr o f e):=fq rfl λC x h=>λLo hr site he hq=>
 yo F (de F L0 e).ev (de F L0 o).ev (of_decide_eq_true (aM h)) ⟨_,rfl,aM (aC h)⟩ ⟨_,rfl,aC (aC h)⟩ hr site he hq
theorem Jr (i:Nat)(op:qy)(e:IE):S1 D prog w i' n cl (.aug i op e):=fq rfl λC x h=>λLo hr site he hq=>
 Jo (de F L0 e).ev (aM h) (aM (aC h)) (aM (aC (aC h))) ⟨_,rfl,aC (aC (aC h))⟩ Lo hr site he hq
theorem yr (o:IE)(f:Nat)(op:qy)(e:IE):S1 D prog w i' n cl (.abw o f op e):=fq rfl λC x h=>λLo hr site he hq=>
 yp F (de F L0 e).ev (de F L0 o).ev (aM h) (of_decide_eq_true (aM (aC h))) ⟨_,rfl,aM (aC (aC h))⟩ ⟨_,rfl,aC (aC (aC h))⟩ hr site he hq
theorem aaz (e:IE):S1 D prog w i' n cl (.expr e):=fq rfl λC x h=>λLo hr site he hq=>
 Hs (de F L0 e).ev ⟨_,rfl,aC h⟩ (aM h) hr site he hq
theorem Js (e:IE):S1 D prog w i' n cl (.ret e):=fq rfl λC x h {A E P φ σ s env m ρ J' fl σ' Q} Lo hr site he hq=>by
 revert h
 unfold GR
 split
 ·exact λh=>by
   cases zU h
   cases (show some (Fl.ret .none,ρ,σ)=some (fl,J',σ')from he)
   exact wpAny_Return_none (hq φ s m (.ret .none) (aw.refl site.sr) site ⟨_,rfl,rfl⟩)
 ·exact λh=>Jp (de F L0 e).ev ⟨_,rfl,h⟩ hr site he hq
omit F L0 in
theorem Jt:S1 D prog w i' n cl .brk:=fq rfl λC x h {A E P φ σ s env m ρ J' fl σ' Q} Lo hr site he hq=>by
 cases (show some (Fl.brk,ρ,σ)=some (fl,J',σ')from he)
 exact wpAny_Break (hq φ s m .brk (aw.refl site.sr) site rfl)
theorem Hz (t:IE)(a b:List IS)(Ha:S2 D prog w i' n cl a)(Hb:S2 D prog w i' n cl b):S1 D prog w i' n cl (.cond t a b):=fq rfl λC x h=>λLo hr site he hq=>
 Hw (de F L0 t).ts (Ha C _ (aM (aC h))) (Hb C _ (aC (aC h))) ⟨_,rfl,aM h⟩ Lo hr site he hq
theorem HA (t:ff)(e:IE)(b:List IS)(Hb:S2 D prog w i' n cl b):S1 D prog w i' n cl (.loop t e b):=fq rfl λC x h=>λLo hr site he hq=>
 Hv (de F L0 e).ev (Hb C _ (aC (aC (aC h)))) (aM h) (aM (aC h)) ⟨_,rfl,aM (aC (aC h))⟩ Lo hr site he hq
theorem DG (k t:IE)(b:List IS)(Hb:S2 D prog w i' n cl b):S1 D prog w i' n cl (.abD k t b):=fq rfl λC x h=>λLo hr site he hq=>
 DE (de F L0 t).ts (Hb C _ (aC h)) ⟨_,rfl,aM h⟩ Lo hr site he hq
theorem Ju (o i:IE):S1 D prog w i' n cl (.del o i):=fq rfl λC x h=>λLo hr site he hq=>
 Jq (de F L0 o).ev (de F L0 i).ev ⟨_,rfl,aM h⟩ ⟨_,rfl,aC h⟩ hr site he hq
theorem uG (o l:IE):S1 D prog w i' n cl (.abA o l):=fq rfl λC x h=>λLo hr site he hq=>
 uE (de F L0 o).ev (de F L0 l).ev ⟨_,rfl,aM h⟩ ⟨_,rfl,aC h⟩ hr site he hq
omit F L0 in
theorem Aj (i:Nat):S1 D prog w i' n cl (.freeze i):=λis C xs r hr h {A E P φ σ s env m ρ J' fl σ' Q} Lo X2 site he hq=>by
 refine lM he λf LK Li e1 he=>?_;refine vA (Ag site Lo (aM h) e1) λe36 st Ly=>?_;subst e36
 exact hr xs (aC h) Lo X2 Ly he (hq.then st)
omit F L0 in
theorem DH:S1 D prog w i' n cl .abort:=λis C xs r hr h {A E P φ σ s env m ρ J' fl σ' Q} Lo X2 site he hq=>nomatch (show none=some (fl,J',σ')from he)
omit F L0 in
theorem Jv:S2 D prog w i' n cl []:=λC xs h {A E P φ σ s env m ρ J' fl σ' Q} Lo hr site he hq=>by
 cases (show some (Fl.next,ρ,σ)=some (fl,J',σ')from he)
 exact wpAny_execs_nil (hq φ s m .next (aw.refl site.sr) site rfl)
omit F L0 in
theorem HB (i:IS)(is:List IS)(H1:S1 D prog w i' n cl i)(H2:S2 D prog w i' n cl is):S2 D prog w i' n cl (i::is):=λC xs h=>H1 is C xs (II D is C) (H2 C) h
theorem Jw (is:List IS):S2 D prog w i' n cl is:=IS.rec_1 (motive_1:=S1 D prog w i' n cl) (motive_2:=S2 D prog w i' n cl) (Ah F L0) (Ai F L0) (yq F L0) (Jr F L0) (yr F L0) (aaz F L0) (Js F L0) Jt (Hz F L0) (HA F L0) (DG F L0) (Ju F L0) (uG F L0) Aj DH Jv HB is
end
end
noncomputable def rW (slots:List (ζ×WP))(p:ζ×WP):List (ζ×WP):=if(slots.lookup p.1).isNone then slots++[p]else slots
set_option tactic.hygienic true in
theorem rX (slots:List (ζ×WP))(p:ζ×WP)(n:ζ):(rW slots p).lookup n=(slots.lookup n).or (if n==p.1 then some p.2 else none):=by
 unfold rW;obtain⟨a,b⟩:=p
 split
 ·rename_i h;rw[fe];simp only[Oc,List.lookup_nil]
  cases n==a<;>rfl
 ·rename_i h
  by_cases e:n=a
  ·subst e;rcases q:QJ n slots with _|v
   ·rw[q]at h;contradiction
   ·rfl
  ·have:(n==a)=false:=by simpa using e
   (refine ad this ?_);simp
theorem jd:∀(ps slots:List (ζ×WP)) (n:ζ),(ps.foldl rW slots).lookup n=(slots.lookup n).or (ps.lookup n)
 |[],slots,n=>by simp
 |p::ps,slots,n=>by
  rw[QN,jd ps,rX,Oc]
  cases slots.lookup n<;>cases n==p.1<;>simp
theorem yt (ps:List (ζ×WP)):∀slots:List (ζ×WP),(forIn ps slots λx r=>if(QJ x.fst r).isNone=true then pure (ForInStep.yield (r++[(x.fst,x.snd)]))else pure (ForInStep.yield r):Sem (List (ζ×WP)))=pure (ps.foldl rW slots):=by
 induction ps with
 |nil=>intro slots;rfl
 |cons p ps ih=>
  intro slots;rw[Ui,QN,<- ih];unfold rW
  split<;>rfl
theorem fJ:∀{names:List ζ} {vs:List WP} {i:Nat} {n:ζ},names.Nodup->names[i]?=some n->(names.zip vs).lookup n=vs[i]?
 |[],vs,i,n,_,h=>by exact au h
 |a::names,[],i,n,_,h=>rfl
 |a::names,v::vs,0,n,_,h=>by
  simp at h
  subst h
  simp[WG,Oc]
 |a::names,v::vs,i+1,n,hn,h=>by
  rw[Ny]at hn;simp only[List.getElem?_cons_succ]at h⊢
  have:(n==a)=false:=by
   rw[beq_eq_false_iff_ne];rintro rfl;exact hn.1 (MI h)
  (refine ad WG ?_;refine ad Oc ?_;refine ad this ?_)
  exact fJ hn.2 h
theorem rY:∀{names:List ζ} {vs:List WP} {f:ζ->Option WP},names.length=vs.length->(∀(i:Nat) (n:ζ),names[i]?=some n->f n=vs[i]?)->names.filterMap (λn=>(f n).map (n,·))=names.zip vs
 |[],[],f,_,_=>rfl
 |[],_::_,f,h,_=>by contradiction
 |_::_,[],f,h,_=>by contradiction
 |a::names,v::vs,f,h,hf=>by
  have h0:=hf 0 a rfl
  simp at h0
  (refine ad YM ?_;refine ad h0 ?_;refine ad WG ?_)
  simp only[SU]
  have ih:=rY (names:=names) (vs:=vs) (f:=f) (by simpa using h) λi n hi=>by have:=hf (i+1) n (by exact hi);simpa using this
  (refine ad ih ?_;rfl)
theorem Ak {α:Type}{M:XI}{A:ψ}{E:WP->W1->Prop}{s:W1}{c:Prop}[Decidable c]{a b:Sem α}{Q:α->W1->Prop}(hc:¬c)(h:ZB M A b Q E s):ZB M A (if c then a else b) Q E s:=by
 (refine ad (if_neg hc) ?_);exact h
theorem uH {β:Type}{M:XI}{A:ψ}{E:WP->W1->Prop}{s:W1}{Q:β->W1->Prop}{k:List (ζ×WP)->Sem β}{ps slots:List (ζ×WP)}(h:ZB M A (k (ps.foldl rW slots)) Q E s) :
  ZB M A ((forIn ps slots λx r=>if(QJ x.fst r).isNone=true then pure (ForInStep.yield (r++[(x.fst,x.snd)]))else pure (ForInStep.yield r):Sem (List (ζ×WP))) >>= k) Q E s:=by
 rw[yt];exact h
theorem KF {n c d:Nat}(h1:c<=n)(h2:n<=c+d):n=c+(d-(c+d-n)):=by
 obtain⟨k,rfl⟩:=Nat.le.dest h1;rw[Nat.add_sub_add_left,Nat.sub_sub_self (Xb h2)]
theorem KG {i n d c:Nat}(h1:d<=n)(h2:n<=c+d)(h3:c<=i):i-(n-d)=c+d-n+(i-c):=by
 obtain⟨k,rfl⟩:=Nat.le.dest h1;obtain⟨m,rfl⟩:=Nat.le.dest (Xb (Lk h2 (LU (PX c d))));obtain⟨j,rfl⟩:=Nat.le.dest h3;rw[QI,PX d k,Xd k m d,QI,QI,Ov,QI]
theorem Al {names:List ζ}{cs dv:List WP}(hn:names.Nodup)(O6:names.length<=cs.length+dv.length)(O5:dv.length<=names.length)(hl:cs.length<=names.length) :
  names.filterMap (λn=>((((names.drop (names.length-dv.length)).zip dv).foldl rW (names.zip cs)).lookup n).map (n,·))=names.zip (cs++dv.drop (cs.length+dv.length-names.length)):=by
 refine rY (by(refine ad LH ?_;refine ad Ro ?_);exact KF hl O6) λi n hi=>?_
 have My:i<names.length:=(Mt.mp hi).1;rw[jd,fJ hn hi]
 by_cases hc:i<cs.length
 ·(refine ad (OY hc) ?_;refine ad (MU hc) ?_);rfl
 ·have hc:cs.length<=i:=Uo hc
  (refine ad (Rn hc) ?_;refine ad (WE hc) ?_;refine ad YH ?_)
  have Rg:(names.drop (names.length-dv.length))[i-(names.length-dv.length)]?=some n:=by
   (refine ad YF ?_;refine ad (show names.length-dv.length+(i-(names.length-dv.length))=i by exact Ms (Ll [_,_,_] 1 (.a M2 No) NE [(1,.a No M2,NE)] rfl (mL (Ll [_,_,_,_,_] 1 M2 No [(1,NE,.a Op Os),(1,Op,No),(1,.a M2 Os,NE)] rfl O6 hc (mL O5)))) (Ll [_,_,_] 1 M2 (.a No NE) [(1,M2,.a NE No)] rfl nu)) ?_)
   exact hi
  (refine ad (fJ (hn.sublist (List.drop_sublist _ _)) Rg) ?_;refine ad YF ?_)
  exact congrArg (λk=>dv[k]?) (KG O5 O6 hc)
theorem yu {names:List ζ}{cs dv:List WP}(hn:names.Nodup)(O6:names.length<=cs.length+dv.length):List.filter (λn=>(QJ n (names.zip cs)).isNone) (W8 (names.length-dv.length) names)=[]:=by
 rw[YE];intro n Qw;obtain⟨i,hi,e⟩:=List.mem_take_iff_getElem.mp Qw;have Pq:i<cs.length:=L1 hi (Lk (Um _ _) (Nat.sub_le_of_le_add O6))
 have TJ:names[i]?=some n:=by(refine aR e ?_);exact MU _
 (refine ad (fJ hn TJ) ?_;refine ad (MU Pq) ?_)
 exact Nd
theorem uI {s:W1}{fd:A1}{cs dv:List WP}(h1:fd.params.posonlyargs=[])(h3:fd.params.kwonlyargs=[])(h4:fd.params.vararg=none)(h5:fd.params.kwarg=none)
  (hd:(fd.defaults=.none/\dv=[])\/∃T items k,fd.defaults=.ref T/\s.heap.get? T=some (ce items k)/\items.toList=dv) (hn:(fd.params.args.map (·.arg)).Nodup) (hl:cs.length<=(fd.params.args.map (·.arg)).length) (O6:(fd.params.args.map (·.arg)).length<=cs.length+dv.length) (O5:dv.length<=(fd.params.args.map (·.arg)).length) :
  BindsTo s fd ⟨cs,[]⟩ ((fd.params.args.map (·.arg)).zip (cs++dv.drop (cs.length+dv.length-(fd.params.args.map (·.arg)).length))):=by
 intro M A E Q hq
 have VV:ZB M A (seqItems? fd.defaults) (λr s'=>(r.getD #[]).toList=dv/\s'=s) E s:=by
  rcases hd with⟨e1,rfl⟩|⟨T,items,k,e1,e2,e3⟩
  ·refine ad e1 ?_;exact WF (XV (XV ⟨rfl,rfl⟩))
  ·refine ad e1 ?_;exact wpAny_seqItems e2 rfl ⟨e3,rfl⟩
 clear hd;obtain⟨f1,f2,⟨p1,p2,p3,p4,p5,p6,p7⟩,f4,f5,f6,f7,f8,f9,f10,f11,f12,f13,f14,f15⟩:=fd;dsimp only at *;subst h1 h3 h4 h5;rw[<- Al hn O6 O5 hl]at hq;have hm:=yu hn O6;refine(WF (ye VV (λr s' hr=>?_) λ_ _ e=>e):ZB M A (seqItems? f8 >>= _) Q E s);obtain⟨hr,rfl⟩:=hr
 have hz:dv.drop (dv.length-(p2.map Arg.arg).length)=dv:=by(refine ad (Rv O5) ?_);rfl
 refine Ak (λe=>absurd hl (Nat.not_le_of_lt (of_decide_eq_true (aM (show(decide ((p2.map Arg.arg).length<cs.length)&&true)=true from e))))) ?_
 generalize (r.getD #[]).toList=dl at hr⊢
 subst hr;refine Ak ?_ (uH ?_)
 ·show ¬(!(List.filter (λn=>(QJ n ((p2.map Arg.arg).zip cs)).isNone) (W8 ((p2.map Arg.arg).length-(dl.drop (dl.length-(p2.map Arg.arg).length)).length) (p2.map Arg.arg))).isEmpty)=true
  (refine ad hz ?_;refine ad hm ?_)
  exact Nd
 ·show ZB M A (Sem.pure ((p2.map Arg.arg++[]).filterMap λn=>(((((p2.map Arg.arg).drop ((p2.map Arg.arg).length-(dl.drop (dl.length-(p2.map Arg.arg).length)).length)).zip (dl.drop (dl.length-(p2.map Arg.arg).length))).foldl rW ((p2.map Arg.arg).zip cs)).lookup n).map (n,·))) Q E s';rw[hz,Mz];exact XV hq
theorem uJ {kindOf:ζ->Option Zk}{n:ζ}{binds:List (ζ×WP)}:∀{m:ζ->Option WP},n∉binds.map (·.1)->bindL kindOf binds m n=m n:=by
 induction binds with
 |nil=>exact λ_=>rfl
 |cons q r ih=>
  intro m h
  refine(ih (m:=if kindOf q.1=some .local then λy=>if y=q.1 then some q.2 else m y else m) λk=>h (L8 _ k)).trans ?_
  exact if c:kindOf q.1=some .local then(congrFun (if_pos c) n).trans (if_neg λe:n=q.1=>h (L7.mpr (.inl e)))else congrFun (if_neg c) n
theorem yv {kindOf:ζ->Option Zk}{n:ζ}{v:WP}(hk:kindOf n=some .local){binds:List (ζ×WP)}:∀{m:ζ->Option WP},(binds.map (·.1)).Nodup->(n,v)∈binds->bindL kindOf binds m n=some v:=by
 induction binds with
 |nil=>exact λ_ h=>nomatch h
 |cons q r ih=>
  intro m hn h;have hn:=Ny.mp hn;refine(L7.mp h).elim (λe=>?_) (ih hn.2);subst e;exact(uJ hn.1).trans ((congrFun (if_pos hk) n).trans (if_pos rfl))
theorem uK {kindOf:ζ->Option Zk}{n:ζ}{binds:List (ζ×WP)}:∀{m:ζ->Option WP},n∉binds.map (·.1)->bindC kindOf binds m n=m n:=by
 induction binds with
 |nil=>exact λ_=>rfl
 |cons q r ih=>
  intro m h
  refine(ih (m:=if kindOf q.1=some .local then m else λy=>if y=q.1 then some q.2 else m y) λk=>h (L8 _ k)).trans ?_
  exact if c:kindOf q.1=some .local then congrFun (if_pos c) n else(congrFun (if_neg c) n).trans (if_neg λe:n=q.1=>h (L7.mpr (.inl e)))
theorem yw {kindOf:ζ->Option Zk}{n:ζ}{v:WP}(hk:kindOf n≠some .local){binds:List (ζ×WP)}:∀{m:ζ->Option WP},(binds.map (·.1)).Nodup->(n,v)∈binds->bindC kindOf binds m n=some v:=by
 induction binds with
 |nil=>exact λ_ h=>nomatch h
 |cons q r ih=>
  intro m hn h;have hn:=Ny.mp hn;refine(L7.mp h).elim (λe=>?_) (ih hn.2);subst e;exact(uK hn.1).trans ((congrFun (if_neg hk) n).trans (if_pos rfl))
theorem pP {n:Nat}{q:ζ×Zk}{r:List (ζ×Zk)}{acc:List (ζ×Nat)}{P:List (ζ×Nat)->Prop}(h1:P (Le (n+1) r ((q.1,n)::acc)))(h2:P (Le n r acc)):P (Le n (q::r) acc):=if h:(q.2==NameKind.cell)=true then ad (show Le n (q::r) acc=_ from if_pos h) h1 else ad (show Le n (q::r) acc=_ from if_neg h) h2
theorem uL {x:ζ}{names:List (ζ×Zk)}:∀{n:Nat} {acc:List (ζ×Nat)},(acc.lookup x).isSome=true->((Le n names acc).lookup x).isSome=true:=by
 induction names with
 |nil=>exact id
 |cons q r ih=>
  intro n acc h;refine pP (P:=λl=>(l.lookup x).isSome=true) (ih ?_) (ih h);refine(congrArg Rp Oc).trans ?_;rcases x==q.1 with _|_
  ·exact h
  ·rfl
theorem lU {x:ζ}{names:List (ζ×Zk)}:∀{n:Nat} {acc:List (ζ×Nat)},(x,NameKind.cell)∈names->((Le n names acc).lookup x).isSome=true:=by
 induction names with
 |nil=>exact λh=>nomatch h
 |cons q r ih=>
  intro n acc h;refine(L7.mp h).elim (λe=>?_) λh=>pP (P:=λl=>(l.lookup x).isSome=true) (ih h) (ih h);subst e;refine uL (n:=n+1) (acc:=(x,n)::acc) ?_;rw[Oc,beq_self_eq_true];rfl
theorem rZ {names:List (ζ×Zk)}:∀{n:Nat} {acc:List (ζ×Nat)},(names.map (·.1)).Nodup->(acc.map (·.1)).Nodup->(∀x∈names.map (·.1),x∉acc.map (·.1))->((Le n names acc).map (·.1)).Nodup:=by
 induction names with
 |nil=>exact λ_ h _=>h
 |cons q r ih=>
  intro n acc hn ha hd;have hn:=Ny.mp hn;exact pP (P:=λl=>(l.map (·.1)).Nodup) (ih (acc:=(q.1,n)::acc) hn.2 (Ny.mpr ⟨hd q.1 LI,ha⟩) λy hy k=>(L7.mp k).elim (λo=>hn.1 ((congrArg (·∈r.map (·.1)) o).mp hy)) (hd y (L8 _ hy))) (ih hn.2 ha λy hy=>hd y (L8 _ hy))
structure DI (D:Wd)(w:μ)(i':θ)(f:Nat)(F:Fn)(o:Obj)(fd:A1)(body:List χ)(κ:tH)(dv:List WP):Prop where
 ho:i'.get? (D.abu f)=some o
 hd:o.data=.func fd
 co:fd.scope.isCoroutine=false
 gen:fd.scope.isGenerator=false
 kind:fd.scope.kind=.function
 abR:fd.body=.stmts body
 code:i'.CodeRec fd.code fd.qualname
 glob:fd.globals=HJ
 acB:fd.closure=[]
 blt:fd.builtins=builtinsNs
 p1:fd.params.posonlyargs=[]
 p3:fd.params.kwonlyargs=[]
 p4:fd.params.vararg=none
 p5:fd.params.kwarg=none
 dflt:(fd.defaults=.none/\dv=[])\/∃T items k,fd.defaults=.ref T/\i'.get? T=some (ce items k)/\items.toList=dv
 dvr:∀φ,aZ w i' (λ_=>False) φ 0 F.abj dv
 nodup:(fd.params.args.map (·.arg)).Nodup
 len:(fd.params.args.map (·.arg)).length=F.abc+F.abj.length
 chk:(II D F.body ⟨fd.scope,κ⟩ body).1=body/\(II D F.body ⟨fd.scope,κ⟩ body).2=true
 vok:vZ κ=true
 at_:∀i x,(fd.params.args.map (·.arg))[i]?=some x->κ.lookup x=some i
 loc:∀x∈fd.params.args.map (·.arg),fd.scope.names.lookup x=some .local\/fd.scope.names.lookup x=some .cell
 acn:∀p∈fd.scope.names,p.2≠.free
 ach:(fd.scope.names.map (·.1)).Nodup
def DJ (D:Wd)(w:μ)(i':θ)(f:Nat)(F:Fn):Prop:=∃o fd body κ dv,DI D w i' f F o fd body κ dv
section
variable {prog:Θ}{w:μ}{D:Wd}{i':θ}
theorem yx {P:Nat->Prop}{φ:bm}{σ:St}{h:θ}{v:List V}{vc:List WP}(S:SR w D.T i' P φ σ h)(r:∀φ,aZ w i' (λ_=>False) φ 0 v vc):aZ w h (XF σ φ P) φ σ.n v vc:=(r φ).mono (λa o _ e=>⟨S.old a o e,λq=>q.elim (λq2=>a6 q2 λr hr _ q=>q.elim (λz=>aB (S.above r hr).1 (z▸ba e)) λz=>aB (S.above r hr).2.1 (z▸ba e)) λq=>aB (S.Ψ a q).1 (ba e)⟩) (LP _) λr hr=>absurd hr (NM _)
noncomputable def KH (σ:St):Fl->Option (V×St)
 |.next=>some (.none,σ)
 |.ret v=>some (v,σ)
 |.brk=>none
noncomputable def lV (fd:A1):List ζ:=fd.params.args.map (·.arg)
section
variable {f:Nat}{Fn:Fn}{o:Obj}{fd:A1}{body:List χ}{κ:tH}{dv:List WP}{P:Nat->Prop}{φ:bm}{σ:St}{s Lp:W1}{env:Env}{all:List V}{Ng:List WP}{mm mc:ζ->Option WP}
theorem aav (HM:(env.cells.map (·.1)).Nodup)(ic:InCallC s env.locals mm env.cells mc Lp):fG s.heap Lp.heap (i7 env):=by
 refine⟨ic.toInCall.keep,λa q=>Lr q (λe=>?_) λq3=>q3.elim λx hx=>?_⟩
 ·exact ad e ⟨Heap.get?_none_of_le ic.toInCall.fresh,kH ic.toInCall.ns⟩
 ·exact⟨Heap.get?_none_of_le (Lk ic.toInCall.fresh (NN (ic.above x a hx))),fk (ic.cell x a (iI HM hx))⟩
theorem n0 (ME:env.cells=Le (s.heap.objs.size+1) fd.scope.names [])(ic:InCallC s env.locals mm env.cells mc Lp){x:ζ}(h:fd.scope.names.lookup x=some .cell):∃c,env.cells.lookup x=some c/\Lp.heap.IsCell c (mc x):=(OZ.mp (ME▸lU (mem_of_lookup h))).elim λc hc=>⟨c,hc,ic.cell x c hc⟩
theorem Am (X:DI D w i' f Fn o fd body κ dv)(OB:∀x,env.kindOf x=fd.scope.names.lookup x)(ME:env.cells=Le (s.heap.objs.size+1) fd.scope.names [])(abb:aZ w s.heap (XF σ φ P) φ σ.n all Ng)(hlen:all.length=(lV fd).length)
  (ic:InCallC s env.locals (bindL env.kindOf ((lV fd).zip Ng) λ_=>none) env.cells (bindC env.kindOf ((lV fd).zip Ng) λ_=>none) Lp) {x:ζ} {i:Nat} {v:V} (hv:κ.lookup x=some i) (hr:all[i]?=some v) :
  ∃vc,VR w s.heap (XF σ φ P) φ σ.n v vc/\E9 Lp.heap env (bindL env.kindOf ((lV fd).zip Ng) λ_=>none) x vc:=by
 refine(abb.get hr).elim λvc q=>⟨vc,q.2,?_⟩;have hi:i<(lV fd).length:=hlen▸(Mt.mp hr).1;have TJ:(lV fd)[i]?=some (lV fd)[i]:=MU hi;refine ad (jP X.vok _ _ _ hv (X.at_ i _ TJ)) ?_;have NS:((lV fd)[i],vc)∈(lV fd).zip Ng:=MI (List.getElem?_zip_eq_some.mpr ⟨TJ,q.1⟩);have X9:(((lV fd).zip Ng).map (·.1)).Nodup:=(List.map_fst_zip (LU (hlen.symm.trans abb.length.symm))).symm▸X.nodup;refine(X.loc _ (List.getElem_mem hi)).elim (λhl=>?_) λhl=>?_
 ·have hk:=(OB (lV fd)[i]).trans hl;exact .inl ⟨hk,yv hk X9 NS⟩
 ·have hk:=(OB (lV fd)[i]).trans hl;exact .inr ⟨.inl hk,(n0 ME ic hl).elim λc hc=>⟨c,hc.1,yw (λe=>absurd (hk.symm.trans e) nofun) X9 NS▸hc.2⟩⟩
theorem uM (X:DI D w i' f Fn o fd body κ dv)(Po:env.scope=fd.scope)(hgl:env.globals=fd.globals)(hbl:env.builtins=fd.builtins)(ME:env.cells=Le (s.heap.objs.size+1) fd.scope.names [])(S:SR w D.T i' P φ σ s.heap)
  (abb:aZ w s.heap (XF σ φ P) φ σ.n all Ng) (hlen:all.length=(lV fd).length) (ic:InCallC s env.locals (bindL env.kindOf ((lV fd).zip Ng) λ_=>none) env.cells (bindC env.kindOf ((lV fd).zip Ng) λ_=>none) Lp) :
  fG s.heap Lp.heap (i7 env)/\aE D w i' (ee P (i7 env)) φ σ Lp ⟨fd.scope,κ⟩ env (bindL env.kindOf ((lV fd).zip Ng) λ_=>none) (λi=>all[i]?):=by
 have OB:∀x,env.kindOf x=fd.scope.names.lookup x:=λx=>congrArg (λsc:K6=>sc.names.lookup x) Po;have Nn:fG s.heap Lp.heap (i7 env):=aav (ME▸rZ X.ach List.Pairwise.nil (λ_ _=>QM)) ic;refine⟨Nn,⟨Po▸X.kind,hgl.trans X.glob,hbl.trans X.blt,ic.toInCall.ns,.inr (.inl rfl),λx c h=> .inr (.inr ⟨x,h⟩),ic.apart,λx c h e=>Xc _ (Uk (ic.above x c h) e),λx hk hv=>?_,λx i v hv hr=>?_⟩,Po,S.more Nn⟩
 ·refine hk.elim (λhk=>?_) λhk=>absurd rfl (X.acn _ (mem_of_lookup ((OB x).symm.trans hk)));exact(n0 ME ic ((OB x).symm.trans hk)).elim λc hc=>⟨c,_,hc⟩
 ·exact(Am X OB ME abb hlen ic hv hr).elim λvc q=>⟨vc,q.1.more Nn,q.2⟩
theorem An (X:DI D w i' f Fn o fd body κ dv){args:List V}{cs:List WP}(hv:cs.length=args.length)(hd:dv.length=Fn.abj.length)(h:Fn.abc<=args.length/\args.length<=Fn.abc+Fn.abj.length) :
  (args++Fn.abj.drop (args.length-Fn.abc)).length=(lV fd).length/\cs.length<=(lV fd).length/\(lV fd).length<=cs.length+dv.length/\dv.length<=(lV fd).length/\cs.length+dv.length-(lV fd).length=args.length-Fn.abc:=by
 have hn:(lV fd).length=Fn.abc+Fn.abj.length:=X.len;rw[LH,Ro,hn,hv,hd]
 exact⟨by lia,h.2,Qc h.1 _,MF _ _,(Ms (Ll [_,_,_,_,_] 1 M2 No [(1,NE,.a No Op),(1,.a M2 (.a Op Os),.a NE Os)] rfl nu (mL (Ll [_,_,_] 1 (.a M2 No) (.a NE No) [(1,M2,NE)] rfl h.1))) (Ll [_,_,_,_,_] 1 M2 No [(1,.a NE Op,.a No (.a Os Op)),(1,.a M2 Os,NE)] rfl nu (mL h.1)))⟩
theorem yy {n:Nat}{cl:Call}(F:bS D w i')(H:DJ D w i' f Fn)(Hc:eC D prog w i' n cl){args:List V}{v:V}{σ':St}{A:ψ}{cs:List WP}{R:Dd->W1->Prop}{fl:Fl}{J':Loc}{Li:St}
  (hlen:Fn.abc<=args.length/\args.length<=Fn.abc+Fn.abj.length) (hx:iE D.P cl Fn.body (λi=>(args++Fn.abj.drop (args.length-Fn.abc))[i]?) σ=some (fl,J',Li)) (Mq:KH Li fl=some (v,σ')) (hr:aV A (2*(n+1))) (S:SR w D.T i' P φ σ s.heap)
  (hv:aZ w s.heap (XF σ φ P) φ σ.n args cs) (hR:∀φ' s' vc,aw w D.T i' P (λ_=>False) φ σ s φ' σ' s'->VR w s'.heap (XF σ' φ' P) φ' σ'.n v vc->R (.ok (.ret vc)) s'):U6 (η prog w) A (.call (.ref (D.abu f)) ⟨cs,[]⟩) R s:=by
 obtain⟨o,fd,body,κ,dv,X⟩:=H;have L:=An X hv.length (X.dvr φ).length hlen;have abb:aZ w s.heap (XF σ φ P) φ σ.n (args++Fn.abj.drop (args.length-Fn.abc)) (cs++dv.drop (args.length-Fn.abc)):=hv.append ((yx S X.dvr).drop _);have hb:=uI (s:=s) (cs:=cs) (dv:=dv) X.p1 X.p3 X.p4 X.p5 (X.dflt.imp_right λq=>ik q λT items k a b c=>⟨T,items,k,a,S.old _ _ b,c⟩) X.nodup L.2.1 L.2.2.1 L.2.2.2.1;have hb:=aR (P:=λk=>BindsTo s fd ⟨cs,[]⟩ ((lV fd).zip (cs++dv.drop k))) L.2.2.2.2 hb
 refine codeAny_call_function (by have:=hr.depth;exact Ll [_,_,_] 1 (.a M2 On) No [(1,.a (.a (.a M2 (.m 2 (.m 2 (.a NE On)))) Re) On,No)] rfl this) (S.old _ _ X.ho) X.hd X.co X.gen X.abR (X.code.keeps S.old) (hb _ _ _ _ ?_)
 refine ad X.acB ?_;refine wpAny_newFunctionEnv_cells X.kind (λx hx=>(X.loc x.1 (List.of_mem_zip hx).1).imp_right λh=>⟨h,lU (mem_of_lookup h)⟩) λenv Pt Lp ic=>?_;have st:=uM X (congrArg Env.scope Pt) (congrArg Env.globals Pt) (congrArg Env.builtins Pt) (congrArg Env.cells Pt) S abb L.1 ic;refine CN F.top λ_ _ _ _ T=>⟨(T.nolimit.keeps S.old).keeps ic.toInCall.keep,codeAny_func ?_⟩;have hb:jc D prog w i' n cl ⟨fd.scope,κ⟩ Fn.body body:=@Eq.subst _ (λb=>jc D prog w i' n cl ⟨fd.scope,κ⟩ Fn.body b) _ _ X.chk.1 (Jw F Hc Fn.body ⟨fd.scope,κ⟩ body X.chk.2);refine hb (jP X.vok) (aV.deeper (n:=2*n+1) hr env) st.2 hx λφ' s' m' fc N2 t' rf=>gf ic.toInCall.same λhp tk Nk=>?_;have fin:aw w D.T i' P (λ_=>False) φ σ s φ' Li s':=⟨N2.sr.less λa pa=> .inl pa,N2.ext.abZ st.1 (λa q=> .inr q) (λ_ z=>z.elim),N2.gens.trans (Nk▸rfl),N2.os.trans (Nk▸rfl),N2.drawn.trans (Nk▸rfl)⟩;rcases fl with _|_|v'
 ·exact ad (show fc=.next from rf) (bF (P:=λv σ'=>(∀φ' s' vc,aw w D.T i' P (λ_=>False) φ σ s φ' σ' s'->VR w s'.heap (XF σ' φ' P) φ' σ'.n v vc->R (.ok (.ret vc)) s')->_) Mq (λhR=>hR φ' s' .none fin (show VR w s'.heap (XF Li φ' P) φ' Li.n .none .none from rfl)) hR)
 ·exact au Mq
 ·exact ag rf λvc e rv=>ad e (bF (P:=λv σ'=>(∀φ' s' vc,aw w D.T i' P (λ_=>False) φ σ s φ' σ' s'->VR w s'.heap (XF σ' φ' P) φ' σ'.n v vc->R (.ok (.ret vc)) s')->_) Mq (λhR=>hR φ' s' vc fin (rv.less λa pa=> .inl pa)) hR)
end
theorem DL (F:bS D w i')(H:∀f Fn,D.P.fn f=some Fn->DJ D w i' f Fn)(n:Nat):eC D prog w i' n (aI D.P n):=by
 induction n with
 |zero=>exact λf args σ v σ' Mq=>au Mq
 |succ n ih=>
  intro f args σ v σ' Mq _ A P φ s cs R hr S hv hR
  exact mN Mq λFn hF Mq=>if h:Fn.abc<=args.length/\args.length<=Fn.abc+Fn.abj.length then lM ((if_pos h).symm.trans Mq) λfl J' Li hx Mq=>yy F (H f Fn hF) ih h hx Mq hr S hv hR else au ((if_neg h).symm.trans Mq)
end
end Mine.Internal
namespace Mine.Internal
open PySem PySem.W
noncomputable def jR:List ζ:=[⟨#[114,111,119,115]⟩,⟨#[105,110,100,101,120]⟩,⟨#[100,101,99,108,115]⟩,⟨#[98,111,117,110,100,115]⟩,⟨#[100,101,102,97,117,108,116,115]⟩,⟨#[110,97,109,101,115]⟩,⟨#[111,114,105,103,105,110,115]⟩,⟨#[114,101,110,97,109,101,100]⟩,⟨#[115,104,97,112,105,110,103]⟩,⟨#[116,97,98]⟩,⟨#[100,101,101,112]⟩,⟨#[109,111,115,116,95,114,111,117,110,100,115]⟩,⟨#[104,111,115,116]⟩,⟨#[109,111,100,101]⟩,⟨#[114,117,108,101,115]⟩,⟨#[97,115,115,117,109,101,100]⟩,⟨#[107,110,111,119,110]⟩,⟨#[116,114,97,105,108]⟩,⟨#[114,111,97,100]⟩,⟨#[110,111,116,101,115]⟩,⟨#[116,101,108,108,105,110,103]⟩,⟨#[116,119,105,110]⟩,⟨#[109,105,115,115,105,110,103]⟩,⟨#[97,116]⟩]
noncomputable def gC:List ζ:=[⟨#[97,112,112,101,110,100]⟩,⟨#[112,111,112]⟩,⟨#[103,101,116]⟩,⟨#[112,117,116]⟩,⟨#[97,115,107]⟩,⟨#[104,111,108,100,115]⟩,⟨#[102,111,114,99,101]⟩,⟨#[109,97,114,107]⟩,⟨#[115,97,109,101]⟩,⟨#[110,111,116,101]⟩,⟨#[98,97,99,107]⟩,⟨#[99,111,100,101,115]⟩]
noncomputable def uN:List Nat:=[180,433,551,120,809]
noncomputable def CH:List Nat:=[96,103,110,163,177,192,200,208,216,223,230,237,243,250,257,264,271,278,285,290,297,304,311,318,332,339,444,506,513,520,527,534,541,562,569,576,583,590,597,604,611,618,625,632,639,646,653,660,667,674,681,688,695,702,709,716,721,728,735,742,747,752,759,766,778,785,792,806,818,826,833,838,845,852,859,866,871,876,883,890,897,904,909,914,921,928,933]
noncomputable def sa:List (ζ×GV):=[
(⟨#[85,95,65,78,89]⟩,.val (.int 1)),
(⟨#[85,95,80,82,79,80]⟩,.val (.int 3)),
(⟨#[85,95,69,78,85,77]⟩,.val (.int 10)),
(⟨#[85,95,86,65,82]⟩,.val (.int 15)),
(⟨#[89,95,75,69,89]⟩,.val (.int 1)),
(⟨#[89,95,66,79,79,76]⟩,.val (.int 2)),
(⟨#[89,95,83,84,82]⟩,.val (.int 3)),
(⟨#[89,95,78,85,77]⟩,.val (.int 4)),
(⟨#[89,95,69,78,85,77]⟩,.val (.int 5)),
(⟨#[89,95,85,78,73,79,78]⟩,.val (.int 6)),
(⟨#[89,95,73,78,84,69,82]⟩,.val (.int 7)),
(⟨#[89,95,79,66,74]⟩,.val (.int 8)),
(⟨#[89,95,82,69,70]⟩,.val (.int 9)),
(⟨#[89,95,80,65,82,65,77]⟩,.val (.int 10)),
(⟨#[89,95,65,82,82,65,89]⟩,.val (.int 11)),
(⟨#[89,95,84,85,80,76,69]⟩,.val (.int 12)),
(⟨#[89,95,83,73,71]⟩,.val (.int 13)),
(⟨#[89,95,75,69,89,79,70]⟩,.val (.int 14)),
(⟨#[89,95,73,78,68,69,88]⟩,.val (.int 15)),
(⟨#[89,95,67,79,78,68]⟩,.val (.int 16)),
(⟨#[89,95,77,65,80,80,69,68]⟩,.val (.int 17)),
(⟨#[89,95,84,80,76]⟩,.val (.int 18)),
(⟨#[89,95,65,76,73,65,83]⟩,.val (.int 19)),
(⟨#[65,78,89]⟩,.val (.int 0)),
(⟨#[85,78,75,78,79,87,78]⟩,.val (.int 1)),
(⟨#[78,69,86,69,82]⟩,.val (.int 2)),
(⟨#[86,79,73,68]⟩,.val (.int 3)),
(⟨#[85,78,68,69,70]⟩,.val (.int 4)),
(⟨#[78,85,76,76,84]⟩,.val (.int 5)),
(⟨#[83,84,82,73,78,71]⟩,.val (.int 6)),
(⟨#[78,85,77,66,69,82]⟩,.val (.int 7)),
(⟨#[70,65,76,83,69,95,84]⟩,.val (.int 8)),
(⟨#[84,82,85,69,95,84]⟩,.val (.int 9)),
(⟨#[79,66,74,69,67,84,84]⟩,.val (.int 10)),
(⟨#[69,77,80,84,89]⟩,.val (.int 11)),
(⟨#[69,82,82]⟩,.val (.int 13)),
(⟨#[70,82,69,83,72,95,70]⟩,.val (.int 14)),
(⟨#[70,82,69,83,72,95,84]⟩,.val (.int 15)),
(⟨#[69,95,78,69,69,68]⟩,.val (.int 0)),
(⟨#[69,95,79,80,84]⟩,.val (.int 1)),
(⟨#[69,95,82,69,83,84]⟩,.val (.int 2)),
(⟨#[69,95,83,80,82,69,65,68]⟩,.val (.int 3)),
(⟨#[77,65,88,95,85,78,73,79,78]⟩,.val (.int 400)),
(⟨#[70,73,82,83,84,95,82,79,87,83]⟩,.val (.tup [(.tup [(.int 1),(.str [97,110,121])]),(.tup [(.int 1),(.str [117,110,107,110,111,119,110])]),(.tup [(.int 1),(.str [110,101,118,101,114])]),(.tup [(.int 1),(.str [118,111,105,100])]),(.tup [(.int 1),(.str [117,110,100,101,102,105,110,101,100])]),(.tup [(.int 1),(.str [110,117,108,108])]),(.tup [(.int 1),(.str [115,116,114,105,110,103])]),(.tup [(.int 1),(.str [110,117,109,98,101,114])]),(.tup [(.int 2),(.int 0),(.int 0)]),(.tup [(.int 2),(.int 1),(.int 0)]),(.tup [(.int 1),(.str [111,98,106,101,99,116])]),(.tup [(.int 8),(.tup []),(.tup []),(.tup []),(.tup []),(.tup []),(.int 0)]),(.tup [(.int 6),(.tup [(.int 8),(.int 9)])]),(.tup [(.int 1),(.str [101,114,114,111,114])]),(.tup [(.int 2),(.int 0),(.int 1)]),(.tup [(.int 2),(.int 1),(.int 1)])])),
(⟨#[76,73,84,69,82,65,76,95,82,79,87,83]⟩,.val (.tup [(.int 2),(.int 3),(.int 4),(.int 5)])),
(⟨#[77,65,82,75,69,68,95,82,79,87,83]⟩,.val (.tup [(.int 2),(.int 3),(.int 4),(.int 5),(.int 8)])),
(⟨#[77,79,83,84,95,82,79,85,78,68,83]⟩,.val (.int 200)),
(⟨#[82,95,65,83,83,73,71,78]⟩,.val (.int 1)),
(⟨#[82,95,67,79,77,80,65,82,69]⟩,.val (.int 2)),
(⟨#[82,95,73,68,69,78,84]⟩,.val (.int 3)),
(⟨#[82,95,83,85,66,84,89,80,69]⟩,.val (.int 4)),
(⟨#[82,85,76,69,95,77,69,69,84]⟩,.val (.int 1)),
(⟨#[82,85,76,69,95,68,69,70,69,82,82,69,68]⟩,.val (.int 2)),
(⟨#[82,85,76,69,95,83,73,71]⟩,.val (.int 3)),
(⟨#[82,85,76,69,95,76,73,83,84]⟩,.val (.int 4)),
(⟨#[82,85,76,69,95,79,66,74,69,67,84]⟩,.val (.int 5)),
(⟨#[82,85,76,69,95,67,72,79,73,67,69]⟩,.val (.int 6)),
(⟨#[82,85,76,69,95,80,76,65,67,69,83]⟩,.val (.int 12)),
(⟨#[86,65,76,85,69,95,82,79,87,83]⟩,.val (.tup [(.int 1),(.int 2),(.int 3),(.int 4),(.int 5)])),
(⟨#[76,73,83,84,95,82,79,87,83]⟩,.val (.tup [(.int 11),(.int 12)])),
(⟨#[83,72,65,80,69,68,95,82,79,87,83]⟩,.val (.tup [(.int 8),(.int 9)])),
(⟨#[68,69,70,69,82,82,69,68,95,82,79,87,83]⟩,.val (.tup [(.int 10),(.int 14),(.int 15),(.int 16),(.int 17),(.int 18),(.int 19)])),
(⟨#[79,80,69,78,95,82,79,87,83]⟩,.val (.tup [(.int 6),(.int 7),(.int 10),(.int 14),(.int 15),(.int 16),(.int 17),(.int 18),(.int 19)])),
(⟨#[77,65,88,95,79,80,69,78]⟩,.val (.int 60)),
(⟨#[95,108,97,119,95,112,111,105,110,116,115]⟩,.val (.tup [(.int 1),(.int 2),(.int 4),(.int 8),(.int 16),(.int 32),(.int 64),(.int 128),(.int 448),(.int 560),(.int 8191)])),
(⟨#[115,116,114,95,116,121,112,101]⟩,.fn 5),
(⟨#[110,117,109,95,116,121,112,101]⟩,.fn 6),
(⟨#[98,111,111,108,95,116,121,112,101]⟩,.fn 7),
(⟨#[97,114,114,97,121,95,116,121,112,101]⟩,.fn 8),
(⟨#[108,97,115,116,95,109,97,114,107]⟩,.fn 9),
(⟨#[110,101,101,100,101,100,95,116,111,95,108,97,115,116]⟩,.fn 10),
(⟨#[111,110,101,95,114,101,115,116]⟩,.fn 11),
(⟨#[116,117,112,108,101,95,116,121,112,101]⟩,.fn 12),
(⟨#[112,97,114,116,115,95,111,102]⟩,.fn 13),
(⟨#[119,104,111,108,101,95,111,102,95,114,111,119]⟩,.fn 14),
(⟨#[114,101,103,117,108,97,114,95,116,119,105,110]⟩,.fn 15),
(⟨#[106,111,105,110,95,98,111,111,108,115]⟩,.fn 16),
(⟨#[115,116,97,121,115,95,98,101,115,105,100,101]⟩,.fn 17),
(⟨#[116,111,112,95,111,102]⟩,.fn 18),
(⟨#[117,110,105,111,110]⟩,.fn 19),
(⟨#[97,100,100,95,117,110,100,101,102]⟩,.fn 20),
(⟨#[105,115,95,108,105,116,101,114,97,108]⟩,.fn 21),
(⟨#[105,115,95,102,114,101,115,104]⟩,.fn 22),
(⟨#[114,101,103,117,108,97,114,95,111,110,101]⟩,.fn 23),
(⟨#[101,108,101,109,95,114,101,97,100]⟩,.fn 26),
(⟨#[98,121,95,114,117,108,101]⟩,.fn 33),
(⟨#[115,105,108,101,110,116,95,119,105,116,104]⟩,.fn 34),
(⟨#[116,119,105,110,95,111,102]⟩,.fn 35),
(⟨#[99,117,116,95,98,97,99,107]⟩,.fn 36),
(⟨#[115,101,116,116,108,101,100]⟩,.fn 37),
(⟨#[97,115,107,95,107,105,110,100,115]⟩,.fn 38),
(⟨#[107,101,112,116]⟩,.fn 39),
(⟨#[99,108,111,115,101,95,116,114,97,105,108]⟩,.fn 40),
(⟨#[116,101,108,108,115]⟩,.fn 41),
(⟨#[116,97,107,101,110,95,119,105,100,101,114]⟩,.fn 42),
(⟨#[115,105,109,112,108,101,95,114,101,108,97,116,101,100]⟩,.fn 43),
(⟨#[116,111,112,115,95,114,101,108,97,116,101,100]⟩,.fn 44),
(⟨#[117,110,107,110,111,119,110,95,116,111,108,100]⟩,.fn 45),
(⟨#[105,115,95,110,117,109,101,114,105,99,95,101,110,117,109]⟩,.fn 46),
(⟨#[118,97,108,117,101,115,95,114,101,108,97,116,101,100]⟩,.fn 47),
(⟨#[110,117,109,98,101,114,95,116,111,95,101,110,117,109]⟩,.fn 48),
(⟨#[115,116,114,117,99,116,117,114,101,100]⟩,.fn 49),
(⟨#[114,117,108,101,95,102,111,114]⟩,.fn 50),
(⟨#[102,114,111,109,95,117,110,105,111,110]⟩,.fn 51),
(⟨#[115,111,109,101,95,112,97,114,116]⟩,.fn 52),
(⟨#[116,111,95,117,110,105,111,110]⟩,.fn 53),
(⟨#[115,97,109,101,95,107,105,110,100]⟩,.fn 54),
(⟨#[101,97,99,104,95,105,110]⟩,.fn 55),
(⟨#[108,101,97,115,116,95,108,101,110,103,116,104]⟩,.fn 56),
(⟨#[111,112,101,110,95,112,108,97,99,101]⟩,.fn 57),
(⟨#[101,108,101,109,95,102,111,114]⟩,.fn 58),
(⟨#[108,101,110,103,116,104,115,95,102,105,116]⟩,.fn 59),
(⟨#[112,108,97,99,101,95,112,97,105,114,115]⟩,.fn 60),
(⟨#[105,115,95,117,110,115,101,116,116,108,101,100]⟩,.fn 61),
(⟨#[98,121,95,109,97,114,107,115]⟩,.fn 62),
(⟨#[112,97,105,114,115,95,104,111,108,100]⟩,.fn 63),
(⟨#[116,117,112,108,101,115,95,104,111,108,100]⟩,.fn 64),
(⟨#[105,110,116,111,95,97,114,114,97,121]⟩,.fn 65),
(⟨#[116,117,112,108,101,95,114,101,108,97,116,101,100]⟩,.fn 66),
(⟨#[105,110,115,116,97,108,108,95,114,101,108,95,108,105,115,116,115]⟩,.fn 68),
(⟨#[95,108,97,119,95,116,97,107,101]⟩,.fn 69),
(⟨#[95,108,97,119,95,112,105,99,107]⟩,.fn 70),
(⟨#[95,108,97,119,95,100,114,97,119]⟩,.fn 71),
(⟨#[95,108,97,119,95,97,108,108]⟩,.fn 72),
(⟨#[95,108,97,119,95,119,105,100,101,114]⟩,.fn 73),
(⟨#[95,108,97,119,95,116,117,114,110]⟩,.fn 74),
(⟨#[95,108,97,119,95,109,97,115,107]⟩,.fn 75),
(⟨#[95,108,97,119,95,119,105,116,104,105,110]⟩,.fn 76),
(⟨#[95,108,97,119,95,108,101,110,103,116,104,115]⟩,.fn 77),
(⟨#[95,108,97,119,95,98,111,116,104]⟩,.fn 78),
(⟨#[95,108,97,119,95,108,101,116,115]⟩,.fn 79),
(⟨#[95,108,97,119,95,108,97,120]⟩,.fn 80),
(⟨#[95,108,97,119,95,97,116,111,109]⟩,.fn 81),
(⟨#[95,108,97,119,95,107,105,110,100]⟩,.fn 82),
(⟨#[95,108,97,119,95,108,105,115,116]⟩,.fn 83),
(⟨#[95,108,97,119,95,114,101,108]⟩,.fn 84),
(⟨#[95,108,97,119,95,116,111,108,100]⟩,.fn 85),
(⟨#[108,97,119]⟩,.fn 86),
(⟨#[84,121,112,101,84,97,98,108,101]⟩,.cls 0),
(⟨#[84,104,105,110]⟩,.cls 1),
(⟨#[82,101,108]⟩,.cls 2),
(⟨#[78,111,116,101,115]⟩,.cls 3),
(⟨#[76,105,115,116,82,117,108,101]⟩,.cls 4),
(⟨#[108,101,110]⟩,.bi .len),
(⟨#[114,97,110,103,101]⟩,.bi .range),
(⟨#[115,111,114,116,101,100]⟩,.bi .sorted),
(⟨#[116,117,112,108,101]⟩,.bi .tuple),
(⟨#[109,97,120]⟩,.bi .max)]
noncomputable def Ao:List tH:=[
[(⟨#[115,101,108,102]⟩,0)],
[(⟨#[115,101,108,102]⟩,0),(⟨#[99,111,100,101]⟩,1),(⟨#[97,116]⟩,2)],
[(⟨#[115,101,108,102]⟩,0),(⟨#[102,111,117,110,100]⟩,1),(⟨#[99,111,100,101]⟩,2),(⟨#[97,116]⟩,3)],
[(⟨#[115,101,108,102]⟩,0),(⟨#[114,111,119]⟩,1)],
[(⟨#[115,101,108,102]⟩,0),(⟨#[114,111,119]⟩,1),(⟨#[116]⟩,2)],
[(⟨#[116,97,98]⟩,0),(⟨#[116,101,120,116]⟩,1),(⟨#[102,114,101,115,104]⟩,2)],
[(⟨#[116,97,98]⟩,0),(⟨#[110]⟩,1),(⟨#[102,114,101,115,104]⟩,2)],
[(⟨#[116,97,98]⟩,0),(⟨#[98]⟩,1),(⟨#[102,114,101,115,104]⟩,2)],
[(⟨#[116,97,98]⟩,0),(⟨#[101,108,101,109]⟩,1),(⟨#[114,111]⟩,2)],
[(⟨#[101,108,101,109,115]⟩,0),(⟨#[109,97,114,107,115]⟩,1),(⟨#[102,111,117,110,100]⟩,2),(⟨#[112,108,97,99,101]⟩,3)],
[(⟨#[116,97,98]⟩,0),(⟨#[101,108,101,109,115]⟩,1),(⟨#[108,97,115,116]⟩,2),(⟨#[111,117,116]⟩,3),(⟨#[112,108,97,99,101]⟩,4),(⟨#[103,105,118,101,110]⟩,5),(⟨#[109,97,114,107]⟩,6)],
[(⟨#[116,97,98]⟩,0),(⟨#[101,108,101,109,115]⟩,1),(⟨#[102,105,114,115,116]⟩,2),(⟨#[112,108,97,99,101]⟩,3),(⟨#[108,97,115,116]⟩,4)],
[(⟨#[116,97,98]⟩,0),(⟨#[101,108,101,109,115]⟩,1),(⟨#[114,111]⟩,2),(⟨#[114,111,119,115]⟩,5)],
[(⟨#[116,97,98]⟩,0),(⟨#[116]⟩,1),(⟨#[114,111,119]⟩,2)],
[(⟨#[114,111,119]⟩,0),(⟨#[107,105,110,100]⟩,1)],
[(⟨#[116,97,98]⟩,0),(⟨#[116]⟩,1),(⟨#[114,111,119]⟩,2)],
[(⟨#[103,111,116]⟩,0)],
[(⟨#[116,97,98]⟩,0),(⟨#[103,111,116]⟩,1),(⟨#[116]⟩,2)],
[(⟨#[103,111,116]⟩,0),(⟨#[116]⟩,1)],
[(⟨#[116,97,98]⟩,0),(⟨#[112,97,114,116,115]⟩,1),(⟨#[103,111,116]⟩,2),(⟨#[116]⟩,3),(⟨#[112,97,114,116]⟩,4),(⟨#[116,111,112]⟩,5),(⟨#[107,101,112,116]⟩,7)],
[(⟨#[116,97,98]⟩,0),(⟨#[116]⟩,1)],
[(⟨#[116,97,98]⟩,0),(⟨#[116]⟩,1)],
[(⟨#[116,97,98]⟩,0),(⟨#[116]⟩,1),(⟨#[114,111,119]⟩,2)],
[(⟨#[116,97,98]⟩,0),(⟨#[116]⟩,1)],
[(⟨#[115,101,108,102]⟩,0),(⟨#[116,97,98]⟩,1)],
[(⟨#[115,101,108,102]⟩,0),(⟨#[116]⟩,1)],
[(⟨#[116,97,98]⟩,0),(⟨#[101,108,101,109]⟩,1)],
[(⟨#[115,101,108,102]⟩,0),(⟨#[104,111,115,116]⟩,1),(⟨#[109,111,100,101]⟩,2)],
[(⟨#[115,101,108,102]⟩,0),(⟨#[115]⟩,1),(⟨#[116]⟩,2)],
[(⟨#[115,101,108,102]⟩,0),(⟨#[99,111,100,101]⟩,1)],
[(⟨#[115,101,108,102]⟩,0),(⟨#[115]⟩,1),(⟨#[116]⟩,2)],
[(⟨#[115,101,108,102]⟩,0)],
[(⟨#[115,101,108,102]⟩,0),(⟨#[115,112,111,116]⟩,1)],
[(⟨#[114,101,108]⟩,0),(⟨#[110,117,109,98,101,114]⟩,1),(⟨#[115]⟩,2),(⟨#[116]⟩,3),(⟨#[114,117,108,101]⟩,4)],
[(⟨#[114,101,108]⟩,0),(⟨#[109,111,100,101]⟩,1),(⟨#[109,97,100,101]⟩,2)],
[(⟨#[114,101,108]⟩,0)],
[(⟨#[114,101,108]⟩,0),(⟨#[115,112,111,116]⟩,1)],
[(⟨#[104,111,115,116]⟩,0),(⟨#[116]⟩,1)],
[(⟨#[114,101,108]⟩,0),(⟨#[115]⟩,1),(⟨#[116]⟩,2),(⟨#[114,111,119,115]⟩,3),(⟨#[116,111,108,100]⟩,4)],
[(⟨#[114,101,108]⟩,0),(⟨#[115]⟩,1),(⟨#[116]⟩,2),(⟨#[107,101,121]⟩,3),(⟨#[115,112,111,116]⟩,4),(⟨#[97,110,115,119,101,114]⟩,5)],
[(⟨#[114,101,108]⟩,0),(⟨#[99,108,101,97,110]⟩,1),(⟨#[107,101,121]⟩,2)],
[(⟨#[114,101,108]⟩,0)],
[(⟨#[114,101,108]⟩,0),(⟨#[115]⟩,1),(⟨#[116]⟩,2)],
[(⟨#[114,101,108]⟩,0),(⟨#[115]⟩,1),(⟨#[116]⟩,2),(⟨#[116,111,108,100]⟩,3),(⟨#[114,111,119,115]⟩,4),(⟨#[97]⟩,5),(⟨#[98]⟩,6)],
[(⟨#[114,101,108]⟩,0),(⟨#[115]⟩,1),(⟨#[116]⟩,2)],
[(⟨#[114,101,108]⟩,0),(⟨#[116]⟩,1),(⟨#[112,97,114,116,115]⟩,2)],
[(⟨#[114,111,119]⟩,0)],
[(⟨#[114,101,108]⟩,0),(⟨#[115]⟩,1),(⟨#[116]⟩,2),(⟨#[97]⟩,3),(⟨#[98]⟩,4)],
[(⟨#[114,101,108]⟩,0),(⟨#[115]⟩,1),(⟨#[97]⟩,2),(⟨#[98]⟩,3)],
[(⟨#[114,101,108]⟩,0),(⟨#[115]⟩,1),(⟨#[116]⟩,2),(⟨#[114,111,119,115]⟩,3),(⟨#[97]⟩,4),(⟨#[98]⟩,5)],
[(⟨#[97]⟩,0),(⟨#[98]⟩,1)],
[(⟨#[114,101,108]⟩,0),(⟨#[115]⟩,1),(⟨#[116]⟩,2),(⟨#[112,97,114,116]⟩,3)],
[(⟨#[114,101,108]⟩,0),(⟨#[115]⟩,1),(⟨#[112,97,114,116,115]⟩,2),(⟨#[108,97,120]⟩,3),(⟨#[112,97,114,116]⟩,4),(⟨#[115,112,111,116]⟩,5)],
[(⟨#[114,101,108]⟩,0),(⟨#[115]⟩,1),(⟨#[116]⟩,2),(⟨#[116,97,98]⟩,3),(⟨#[112,97,114,116,115]⟩,4),(⟨#[107,105,110,100]⟩,5)],
[(⟨#[114,101,108]⟩,0),(⟨#[115]⟩,1),(⟨#[116]⟩,2),(⟨#[114,111,119,115]⟩,3),(⟨#[97]⟩,4),(⟨#[98]⟩,5)],
[(⟨#[114,101,108]⟩,0),(⟨#[115,115]⟩,1),(⟨#[116,115]⟩,2),(⟨#[115]⟩,3)],
[(⟨#[101,108,101,109,115]⟩,0)],
[(⟨#[101,108,101,109,115]⟩,0),(⟨#[112,108,97,99,101]⟩,1)],
[(⟨#[101,108,101,109,115]⟩,0),(⟨#[108,101,110,103,116,104]⟩,1),(⟨#[112,108,97,99,101]⟩,2),(⟨#[114,101,115,116]⟩,3),(⟨#[116,97,105,108]⟩,4)],
[(⟨#[97]⟩,0),(⟨#[98]⟩,1)],
[(⟨#[116,97,98]⟩,0),(⟨#[97]⟩,1),(⟨#[98]⟩,2),(⟨#[116,111,112]⟩,3),(⟨#[102,111,117,110,100]⟩,4),(⟨#[108,101,110,103,116,104]⟩,5),(⟨#[112,108,97,99,101]⟩,6),(⟨#[115]⟩,7)],
[(⟨#[101,108,101,109,115]⟩,0)],
[(⟨#[114,101,108]⟩,0),(⟨#[97]⟩,1),(⟨#[98]⟩,2),(⟨#[112,108,97,99,101]⟩,3)],
[(⟨#[114,101,108]⟩,0),(⟨#[112,97,105,114,115]⟩,1),(⟨#[116,95,114,111]⟩,2),(⟨#[115]⟩,3),(⟨#[116]⟩,4)],
[(⟨#[114,101,108]⟩,0),(⟨#[97]⟩,1),(⟨#[98]⟩,2),(⟨#[116,95,114,111]⟩,3)],
[(⟨#[114,101,108]⟩,0),(⟨#[101,108,101,109,115]⟩,1),(⟨#[116]⟩,2),(⟨#[116,95,114,111]⟩,3),(⟨#[116,97,98]⟩,4),(⟨#[119,104,111,108,101]⟩,5),(⟨#[112,97,105,114,115]⟩,6),(⟨#[101,108,101,109]⟩,7)],
[(⟨#[114,101,108]⟩,0),(⟨#[115]⟩,1),(⟨#[116]⟩,2),(⟨#[97]⟩,3),(⟨#[98]⟩,4)],
[(⟨#[115,101,108,102]⟩,0),(⟨#[114,101,108]⟩,1),(⟨#[115]⟩,2),(⟨#[116]⟩,3)],
[(⟨#[114,101,108]⟩,0)],
[(⟨#[100]⟩,0),(⟨#[110]⟩,1),(⟨#[97,116]⟩,2),(⟨#[120]⟩,3)],
[(⟨#[100]⟩,0),(⟨#[100,101,101,112]⟩,1),(⟨#[97,116,111,109,115]⟩,2),(⟨#[109,111,114,101]⟩,3)],
[(⟨#[100]⟩,0),(⟨#[100,101,101,112]⟩,1),(⟨#[114,111]⟩,2),(⟨#[104,101,97,100,115]⟩,4),(⟨#[104,111,119]⟩,5),(⟨#[111,112,116,115]⟩,7),(⟨#[114,101,115,116]⟩,8),(⟨#[116,97,105,108,115]⟩,9)],
[(⟨#[114,111,119]⟩,0)],
[(⟨#[100]⟩,0),(⟨#[114,111,119]⟩,1),(⟨#[101,118,101,114,121]⟩,2),(⟨#[107,105,110,100]⟩,3),(⟨#[115,112,111,116]⟩,4),(⟨#[103,114,111,117,112,115]⟩,5),(⟨#[97,116]⟩,6),(⟨#[103,114,111,117,112]⟩,7),(⟨#[109,97,100,101]⟩,8),(⟨#[111,110,101]⟩,9)],
[(⟨#[100]⟩,0),(⟨#[114,111,119]⟩,1),(⟨#[104,101,97,100,115]⟩,2),(⟨#[111,112,116,115]⟩,3),(⟨#[114,101,115,116]⟩,4),(⟨#[116,97,105,108,115]⟩,5),(⟨#[114,111]⟩,6),(⟨#[104,111,119]⟩,7),(⟨#[97,116,111,109,115]⟩,8),(⟨#[100,101,101,112,101,114]⟩,9),(⟨#[111,110,101]⟩,10)],
[(⟨#[97,116,111,109,115]⟩,0),(⟨#[104,101,108,100]⟩,1),(⟨#[97,116,111,109]⟩,2)],
[(⟨#[115,109,97,108,108]⟩,0),(⟨#[98,105,103]⟩,1),(⟨#[104,101,108,100]⟩,2),(⟨#[111,110,101]⟩,3)],
[(⟨#[114,111,119]⟩,0),(⟨#[116,111,112]⟩,1),(⟨#[104,101,97,100,115]⟩,2),(⟨#[111,112,116,115]⟩,3),(⟨#[114,101,115,116]⟩,4),(⟨#[116,97,105,108,115]⟩,5),(⟨#[114,111]⟩,6),(⟨#[116,111,108,100]⟩,7),(⟨#[109,111,114,101]⟩,8),(⟨#[109,105,100,100,108,101]⟩,9)],
[(⟨#[115,109,97,108,108]⟩,0),(⟨#[98,105,103]⟩,1),(⟨#[116,111,112]⟩,2),(⟨#[114,111,119]⟩,3)],
[(⟨#[115,109,97,108,108]⟩,0),(⟨#[98,105,103]⟩,1),(⟨#[109,105,110,101]⟩,2),(⟨#[116,104,101,105,114,115]⟩,3),(⟨#[108,101,110,103,116,104]⟩,4),(⟨#[112,108,97,99,101]⟩,5)],
[(⟨#[115,109,97,108,108]⟩,0),(⟨#[98,105,103]⟩,1),(⟨#[97,116]⟩,2),(⟨#[109,105,110,101]⟩,3),(⟨#[116,104,101,105,114,115]⟩,4),(⟨#[108,101,110,103,116,104]⟩,5),(⟨#[112,108,97,99,101]⟩,6)],
[(⟨#[116,97,98]⟩,0),(⟨#[97,116,111,109]⟩,1)],
[(⟨#[116,97,98]⟩,0),(⟨#[107,105,110,100]⟩,1),(⟨#[109,97,100,101]⟩,3)],
[(⟨#[116,97,98]⟩,0),(⟨#[114,111,119]⟩,1),(⟨#[104,101,97,100,115]⟩,2),(⟨#[111,112,116,115]⟩,3),(⟨#[114,101,115,116]⟩,4),(⟨#[116,97,105,108,115]⟩,5),(⟨#[114,111]⟩,6),(⟨#[101,108,101,109,115]⟩,8)],
[(⟨#[116,97,98]⟩,0),(⟨#[109,111,100,101]⟩,1),(⟨#[114,101,108]⟩,2)],
[(⟨#[116,97,98]⟩,0),(⟨#[115,109,97,108,108]⟩,1),(⟨#[98,105,103]⟩,2),(⟨#[102,108,97,116]⟩,3),(⟨#[115]⟩,4),(⟨#[116]⟩,5),(⟨#[114,105,103,104,116]⟩,6),(⟨#[114,101,108]⟩,7)],
[(⟨#[115,99,114,105,112,116]⟩,0),(⟨#[110,117,109,115]⟩,2),(⟨#[100]⟩,3),(⟨#[100,101,101,112]⟩,4),(⟨#[115,109,97,108,108]⟩,5),(⟨#[98,105,103]⟩,6),(⟨#[103,111]⟩,7),(⟨#[116,97,98]⟩,8),(⟨#[115]⟩,9),(⟨#[116]⟩,10),(⟨#[114,101,108]⟩,11),(⟨#[102,108,97,116]⟩,12)]]
end Mine.Internal
namespace Mine.Internal
open PySem PySem.W PySem.Calls PyProof.Rows
open PySem.MeetsSeq PySem.SeqRoads2
noncomputable def Ap (i:Int):WP->Bool
 |.int j _=>decide (i=j)
 |_=>false
noncomputable def Aq (s:List Nat):WP->Bool
 |.str x _=>decide (x.cps.toList=s)
 |_=>false
noncomputable def wm (H:List WP->Bool):Option Obj->Bool
 |some ⟨c,none,.seq items _,s⟩=>decide (c=.type "tuple")&&(s.isEmpty&&(decide (items.size<=aq)&&H items.toList))
 |_=>false
noncomputable def Ar (K:Y')(H:List WP->Bool):WP->Bool
 |.ref a=>wm H (K.lookup a)
 |_=>false
noncomputable def As (A:WP->Bool)(H:List WP->Bool):List WP->Bool
 |v::vs=>A v&&H vs
 |[]=>false
noncomputable def kA (K:Y'):V->WP->Bool:=V.rec (motive_1:=λ_=>WP->Bool) (motive_2:=λ_=>List WP->Bool) (λv=>decide (v=.none)) (λb v=>decide (v=.bool b)) Ap Aq (λ_ H=>Ar K H) (λ_ _ _=>false) (λ_ _ _ _ _=>false) (λ_ _=>false) (λ_ _ _=>false) List.isEmpty (λ_ _ A H=>As A H)
noncomputable def lW (K:Y'):List V->List WP->Bool:=V.rec_1 (motive_1:=λ_=>WP->Bool) (motive_2:=λ_=>List WP->Bool) (λv=>decide (v=.none)) (λb v=>decide (v=.bool b)) Ap Aq (λ_ H=>Ar K H) (λ_ _ _=>false) (λ_ _ _ _ _=>false) (λ_ _=>false) (λ_ _ _=>false) List.isEmpty (λ_ _ A H=>As A H)
theorem At {i:Int}{v:WP}(h:Ap i v=true):∃t,v=.int i t:=by
 rcases v with _|_<;>first|exact⟨_,by(refine ad (of_decide_eq_true h) ?_;rfl)⟩|exact ak h
theorem Au {s:List Nat}{v:WP}(h:Aq s v=true):∃x t,v=.str x t/\x.cps.toList=s:=by
 rcases v with _|_<;>first|exact⟨_,_,rfl,of_decide_eq_true h⟩|exact ak h
theorem sb {H:List WP->Bool}{o:Option Obj}(h:wm H o=true):∃items k,o=some (ce items k)/\items.size<=aq/\H items.toList=true:=by
 rcases o with _|⟨c,d,data,s⟩
 ·exact ak h
 rcases d with _|_<;>rcases data with _|_<;>try exact ak h
 have h:(decide (c=.type "tuple")&&(s.isEmpty&&_))=true:=h;refine ad (of_decide_eq_true (aM h)) ?_;refine ad (Array.isEmpty_iff.mp (aM (aC h))) ?_;exact⟨_,_,rfl,of_decide_eq_true (aM (aC (aC h))),aC (aC (aC h))⟩
theorem Av {K:Y'}{H:List WP->Bool}{v:WP}(h:Ar K H v=true):∃a,v=.ref a/\wm H (K.lookup a)=true:=by
 rcases v with _|_<;>first|exact⟨_,rfl,h⟩|exact ak h
section
variable {K:Y'}{w:μ}{h:θ}{φ:bm}(X:K.In h)
include X
theorem Aw (l:List V)(H:∀vs,lW K l vs=true->aZ w h (λ_=>False) φ 0 l vs)(v:WP)(e:kA K (.tup l) v=true):VR w h (λ_=>False) φ 0 (.tup l) v:=by
 refine ag (Av e) λa e8 e=>?_;refine ad e8 ?_;refine aL (sb e) λitems k ho hz e=>?_;exact⟨a,items,k,rfl,id,X _ _ ho,H _ e,hz⟩
omit X in
theorem wn (x:V)(l:List V)(A:∀v,kA K x v=true->VR w h (λ_=>False) φ 0 x v)(H:∀vs,lW K l vs=true->aZ w h (λ_=>False) φ 0 l vs)(vs:List WP)(e:lW K (x::l) vs=true):aZ w h (λ_=>False) φ 0 (x::l) vs:=by
 induction vs using List.cs with
 |nil=>exact ak e
 |cons v vs=>exact⟨_,_,rfl,A _ (aM e),H _ (aC e)⟩
omit X in
theorem wp (v:WP)(e:kA K .none v=true):VR w h (λ_=>False) φ 0 .none v:=of_decide_eq_true (p:=v=.none) e
omit X in
theorem wq (b:Bool)(v:WP)(e:kA K (.bool b) v=true):VR w h (λ_=>False) φ 0 (.bool b) v:=of_decide_eq_true (p:=v=.bool b) e
omit X in
theorem Ax (i:Int)(v:WP)(e:kA K (.int i) v=true):VR w h (λ_=>False) φ 0 (.int i) v:=At e
omit X in
theorem Ay (s:List Nat)(v:WP)(e:kA K (.str s) v=true):VR w h (λ_=>False) φ 0 (.str s) v:=Au e
theorem DM {x:V}{v:WP}(e:kA K x v=true):VR w h (λ_=>False) φ 0 x v:=V.rec (motive_1:=λx=>∀v,kA K x v=true->VR w h (λ_=>False) φ 0 x v) (motive_2:=λl=>∀vs,lW K l vs=true->aZ w h (λ_=>False) φ 0 l vs) wp wq Ax Ay (Aw X) (λ_ _ _ e=>ak e) (λ_ _ _ _ _ e=>ak e) (λ_ _ e=>ak e) (λ_ _ _ e=>ak e) (λ_ e=>Rm.mp e) wn x v e
theorem Az {x:List V}{v:List WP}(e:lW K x v=true):aZ w h (λ_=>False) φ 0 x v:=V.rec_1 (motive_1:=λx=>∀v,kA K x v=true->VR w h (λ_=>False) φ 0 x v) (motive_2:=λl=>∀vs,lW K l vs=true->aZ w h (λ_=>False) φ 0 l vs) wp wq Ax Ay (Aw X) (λ_ _ _ e=>ak e) (λ_ _ _ _ _ e=>ak e) (λ_ _ e=>ak e) (λ_ _ _ e=>ak e) (λ_ e=>Rm.mp e) wn x v e
end
noncomputable def Dw (K:Y'):Wd:=⟨⟨λc=>uN.getD c 0,λf=>jR.getD f PySem.Str.empty,λc=>decide (c<5),24⟩,K,prog,λf=>CH.getD f 0,λx=>sa.lookup x,λm=>gC.getD m PySem.Str.empty⟩
theorem DN {c m f:Nat}(h:prog.π c m=some f):(c,m,f)∈zj:=by
 refine ag (Ry.mp h) λq9 hp Td=>?_;obtain⟨a,b,d⟩:=q9;refine aR Td ?_;have h1:(a==c&&b==m)=true:=YD (p:=λp:Nat×Nat×Nat=>p.1==c&&p.2.1==m) hp
 (refine aR (eq_of_beq (aM h1)) ?_;refine aR (eq_of_beq (aC h1)) ?_)
 exact Y9 hp
theorem Fj {f:Nat}{F:Fn}(h:prog.fn f=some F):f<87:=(Mt.mp h).1
noncomputable def AA:List (Nat×Option Nat):=[(0,some 3),(1,some 24),(2,some 27),(3,some 0),(4,none)]
theorem pQ {c:Nat}{o:Option Nat}(h:prog.init c=some o):(c,o)∈AA:=by
 have hc:c<5:=(Mt.mp h).1
 match c,hc,h with
 |0,_,h=>refine aT h ?_;decide
 |1,_,h=>refine aT h ?_;decide
 |2,_,h=>refine aT h ?_;decide
 |3,_,h=>refine aT h ?_;decide
 |4,_,h=>refine aT h ?_;decide
noncomputable def Jx (K:Y')(p:ζ×GV):Bool:=match p.2 with
 |.val v=>(match Ke K HJ p.1 with|some (some vc)=>kA K v vc|_=>false)
 |.fn f=>decide (Ke K HJ p.1=some (some (.ref (CH.getD f 0))))
 |.cls c=>decide (Ke K HJ p.1=some (some (.ref (uN.getD c 0))))
 |.bi b=>decide (Ke K HJ p.1=some none)&&decide (bootBuiltins p.1=some (CG b))&&decide (p.1≠"__name__")
theorem KI {K:Y'}{v:V}{o:Option (Option WP)}(h:(match o with|some (some vc)=>kA K v vc|_=>false)=true):∃vc,o=some (some vc)/\kA K v vc=true:=by
 rcases o with _|_|vc
 ·exact ak h
 ·exact ak h
 ·exact⟨vc,rfl,h⟩
noncomputable def AB (K:Y')(C:Nat):Bool:=keepIn K (.ref C)&&plainGet K C PySem.Str.empty&&hasDictIn K C&&decide (uV K (.ref C) "__setattr__"=some (some (.builtin "object.__setattr__")))&&plainOver K C&&makesIn K C &&
 (Mo 24).all λf=>decide (uV K (.ref C) (jR.getD f PySem.Str.empty)=some none)
noncomputable def AC (K:Y')(p:Nat×Nat×Nat):Bool:=decide (uV K (.ref (uN.getD p.1 0)) (gC.getD p.2.1 PySem.Str.empty)=some (some (.ref (CH.getD p.2.2 0))))&&isFn K (.ref (CH.getD p.2.2 0))&&(prog.fn p.2.2).isSome
noncomputable def uO (K:Y')(p:Nat×Option Nat):Bool:=match p.2 with
 |some f=>decide (uV K (.ref (uN.getD p.1 0)) "__init__"=some (some (.ref (CH.getD f 0))))&&decide (typeIn K (.ref (CH.getD f 0))=some (.type "function"))&&(prog.fn f).isSome
 |none=>decide (uV K (.ref (uN.getD p.1 0)) "__init__"=some (some (.builtin "object.__init__")))
structure K4 (K:Y'):Prop where
 glob:sa.all (Jx K)=true
 fns:(Mo 87).all (λf=>keepIn K (.ref (CH.getD f 0)))=true
 cls:(Mo 5).all (λc=>AB K (uN.getD c 0))=true
 π:zj.all (AC K)=true
 ini:AA.all (uO K)=true
theorem lX {x:ζ}{g:GV}(h:sa.lookup x=some g):(x,g)∈sa:=by
 have key:∀l:List (ζ×GV),l.lookup x=some g->(x,g)∈l:=by
  intro l
  induction l with
  |nil=>intro h;exact au h
  |cons p l ih=>
   intro h;obtain⟨y,z⟩:=p;rw[Oc]at h;rcases q:x==y with _|_
   ·replace h:=q▸h;exact L8 _ (ih h)
   ·replace h:=q▸h;refine aT h ?_
    (refine ad (beq_iff_eq.mp q) ?_);exact LI
 exact key _ h
theorem AD {K:Y'}{w:μ}{i':θ}(X:K.In i')(T:∃p loose mg mb,TopRead p loose mg mb i')(c:K4 K):bS (Dw K) w i':=by
 have hg:∀x g,sa.lookup x=some g->Jx K (x,g)=true:=λx g e=>MV.mp c.glob _ (lX e);have hc:∀k,decide (k<5)=true->AB K (uN.getD k 0)=true:=λk hk=>MV.mp c.cls k (Oq.mpr (of_decide_eq_true hk))
 have OU:=λk hk=>by
  have:=hc k hk
  unfold AB at this;simp only[MW,decide_eq_true_eq,MV,Oq]at this;exact this
 refine⟨X,T,λx v e=>?_,λx f e=>?_,λx k e=>?_,λx b e=>?_,λf F e=>?_,λk hk=>(OU k hk).1.1.1.1.1.1,λk hk=>(OU k hk).1.1.1.1.1.2,λk hk=>(OU k hk).1.1.1.1.2,λk f hk hf=>(OU k hk).2 f hf,λk hk=>⟨(OU k hk).1.1.1.2,(OU k hk).1.1.2⟩,λk m f hk e=>?_,λm f hf=>?_,λf g hf hg=>?_,λk e=>?_,λk hk=>(OU k hk).1.2,λk f e=>?_,λk e=>?_,⟨(by decide +kernel:gC.getD 0 PySem.Str.empty="append"),(by decide +kernel:gC.getD 1 PySem.Str.empty="pop"),(by decide +kernel:gC.getD 2 PySem.Str.empty="get")⟩⟩
 ·exact ag (KI (hg x _ e)) λvc hv h=>⟨vc,hv,λφ=>DM X h⟩
 ·exact of_decide_eq_true (hg x _ e)
 ·exact of_decide_eq_true (hg x _ e)
 ·have this:=E4 (hg x _ e);exact⟨this.1.1,this.1.2,this.2⟩
 ·exact MV.mp c.fns f (Oq.mpr (Fj e))
 ·have:=MV.mp c.π _ (DN e)
  unfold AC at this;simp only[MW,decide_eq_true_eq]at this;exact⟨this.1.1,this.1.2,this.2⟩
 ·have hm:m<12\/12<=m:=Nat.lt_or_ge m 12
  have key:∀m,m<12->∀f,f<24->gC.getD m PySem.Str.empty≠jR.getD f PySem.Str.empty:=by decide +kernel
  have VH:∀f,f<24->PySem.Str.empty≠jR.getD f PySem.Str.empty:=by decide +kernel
  rcases hm with hm|hm
  ·exact key m hm f hf
  ·show gC.getD m PySem.Str.empty≠_
   (refine ad WD ?_;refine ad (WE (show gC.length<=m from hm)) ?_)
   exact VH f hf
 ·have key:∀f,f<24->∀g,g<24->jR.getD f PySem.Str.empty=jR.getD g PySem.Str.empty->f=g:=by decide +kernel
  exact key f hf g hg
 ·rcases e':prog.init k with _|o
  ·rw[show(Dw K).P.init k=prog.init k from rfl,e']at e;exact ak e
  ·have:=pQ e'
   have key:∀p∈AA,decide (p.1<5)=true:=by decide
   exact key _ this
 ·have:=MV.mp c.ini _ (pQ e)
  unfold uO at this;simp only[MW,decide_eq_true_eq]at this;exact⟨this.1.1,this.1.2,this.2⟩
 ·have:=MV.mp c.ini _ (pQ e)
  unfold uO at this;exact of_decide_eq_true this
noncomputable def Jy (q:ζ):WP->Bool
 |.str x _=>decide (x=q)
 |_=>false
noncomputable def Fk (q:ζ):Data->Bool
 |.fields vs=>(vs[1]?).any (Jy q)
 |_=>false
noncomputable def AE (K:Y')(cd:WP)(q:ζ):Bool:=match cd with
 |.ref c=>(K.lookup c).any λo=>Fk q o.data
 |_=>false
theorem DO {q:ζ}{v:WP}(e:Jy q v=true):∃t,v=.str q t:=by
 rcases v with _|_|_|_|_|_|⟨x,t⟩|_|_|_|_<;>first|exact ak e|exact⟨t,of_decide_eq_true e▸rfl⟩
theorem AF {q:ζ}{d:Data}(e:Fk q d=true):∃vs t,d=.fields vs/\vs[1]?=some (.str q t):=by
 rcases d with _|_|_|_|_|_|_|_|_|vs|_<;>first|exact ak e|exact lH e λv hv e=>(DO e).elim λt e=>⟨vs,t,rfl,e▸hv⟩
theorem yz {K:Y'}{h:θ}(X:K.In h){cd:WP}{q:ζ}(e:AE K cd q=true):h.CodeRec cd q:=by
 rcases cd with _|_|_|_|_|_|_|_|_|_|c<;>first|exact ak e|skip
 exact lH e λo ho e=>bv (AF e) λvs t e1 e2=>⟨c,o,vs,t,rfl,X _ _ ho,e1,e2⟩
noncomputable def AG (K:Y')(dv:WP)(l:List V):Bool:=match dv with
 |.none=>l.isEmpty
 |.ref a=>wm (lW K l) (K.lookup a)
 |_=>false
theorem aaE {K:Y'}{w:μ}{h:θ}(X:K.In h){dv:WP}{l:List V}(e:AG K dv l=true):∃vs,((dv=.none/\vs=[])\/∃T items k,dv=.ref T/\h.get? T=some (ce items k)/\items.toList=vs)/\∀φ,aZ w h (λ_=>False) φ 0 l vs:=by
 rcases dv with _|_|_|_|_|_|_|_|_|_|a<;>first|exact ak e|skip
 ·exact⟨[],.inl ⟨rfl,rfl⟩,λφ=>ad (Rm.mp e) rfl⟩
 ·exact aL (sb e) λitems k ho _ e=>⟨items.toList,.inr ⟨a,items,k,rfl,X _ _ ho,rfl⟩,λφ=>Az X e⟩
noncomputable def HC (κ:tH):Nat->List ζ->Bool
 |_,[]=>true
 |i,x::l=>decide (κ.lookup x=some i)&&HC κ (i+1) l
theorem aaO {κ:tH}{l:List ζ}:∀{k i:Nat} {x:ζ},HC κ k l=true->l[i]?=some x->κ.lookup x=some (k+i):=by
 induction l with
 |nil=>exact λ_ e=>au e
 |cons y l ih=>
  intro k i x h e;rcases i with _|i
  ·exact Option.some.inj e▸of_decide_eq_true (bj h).1
  ·exact(ih (bj h).2 e).trans (congrArg some (Nat.succ_add k i))
noncomputable def Jz (K:Y')(fd:A1)(F:Fn)(κ:tH):Bool:=!fd.scope.isCoroutine&&(!fd.scope.isGenerator&&(decide (fd.scope.kind=.function)&&(AE K fd.code fd.qualname&&(decide (fd.globals=HJ)&&(fd.closure.isEmpty&&(decide (fd.builtins=builtinsNs) &&
 (fd.params.posonlyargs.isEmpty&&(fd.params.kwonlyargs.isEmpty&&(fd.params.vararg.isNone&&(fd.params.kwarg.isNone&&(AG K fd.defaults F.abj&&(decide (fd.params.args.map (·.arg)).Nodup&&(decide ((fd.params.args.map (·.arg)).length=F.abc+F.abj.length) &&
 (vZ κ&&(HC κ 0 (fd.params.args.map (·.arg))&&((fd.params.args.map (·.arg)).all (λx=>decide (fd.scope.names.lookup x=some .local)||decide (fd.scope.names.lookup x=some .cell)) &&
 (fd.scope.names.all (λp=>decide (p.2≠.free))&&decide (fd.scope.names.map (·.1)).Nodup)))))))))))))))))
noncomputable def K5:Data->Option A1
 |.func fd=>some fd
 |_=>none
theorem HD {d:Data}{fd:A1}(e:K5 d=some fd):d=.func fd:=by
 rcases d with _|_|_|_|_|_|_|_|_|_|_<;>first|exact au e|exact congrArg Data.func (Option.some.inj e)
noncomputable def HE (K:Y')(f:Nat):Option A1:=(K.lookup (CH.getD f 0)).bind λo=>K5 o.data
noncomputable def se:FuncBody->List χ
 |.stmts b=>b
 |.expr _=>[]
noncomputable def ws:FuncBody->Bool
 |.stmts _=>true
 |.expr _=>false
theorem uP {b:FuncBody}(h:ws b=true):b=.stmts (se b):=by rcases b with _|_;rfl;exact ak h
noncomputable def jS (K:Y')(f:Nat):List χ:=((HE K f).map λfd=>se fd.body).getD []
noncomputable def Fm (K:Y')(f:Nat):cA:=⟨((HE K f).map (·.scope)).getD default,Ao.getD f []⟩
noncomputable def jT (K:Y')(f:Nat)(F:Fn):List χ×Bool:=II (Dw K) F.body (Fm K f) (jS K f)
noncomputable def wu (K:Y')(f:Nat)(F:Fn):Bool:=(HE K f).any λfd=>Jz K fd F (Ao.getD f [])&&(ws fd.body&&(jT K f F).2)
theorem HF {p q:Prop}[Decidable p][Decidable q](h:(decide p||decide q)=true):p\/q:=((OH _ _).mp h).imp of_decide_eq_true of_decide_eq_true
theorem JA {K:Y'}{w:μ}{i':θ}(X:K.In i'){f:Nat}{F:Fn}(e:wu K f F=true)(et:(jT K f F).1=jS K f):DJ (Dw K) w i' f F:=by
 refine lH e λfd hf e=>mN hf λo ho hd=>?_;have e4:=aC (aC e);have V8:Fm K f=⟨fd.scope,Ao.getD f []⟩:=congrArg (λo:Option A1=>(⟨(o.map FuncData.scope).getD default,Ao.getD f []⟩:cA)) hf;have abR:jS K f=se fd.body:=congrArg (λo:Option A1=>(o.map λfd:A1=>se fd.body).getD []) hf;unfold jT at e4 et;rw[V8,abR]at e4 et;have hb:=uP (aM (aC e));have e:=aM e;have c1:=wc (aM e);have e:=aC e;have c2:=wc (aM e);have e:=aC e;have c3:=of_decide_eq_true (aM e);have e:=aC e;have c4:=yz X (aM e);have e:=aC e;have c5:=of_decide_eq_true (aM e);have e:=aC e;have c6:=Rm.mp (aM e);have e:=aC e;have c7:=of_decide_eq_true (aM e);have e:=aC e;have c8:=Rm.mp (aM e);have e:=aC e;have c9:=Rm.mp (aM e);have e:=aC e;have c10:=WB.mp (aM e);have e:=aC e;have c11:=WB.mp (aM e);have e:=aC e;refine(aaE (w:=w) X (aM e)).elim λdv d=>?_;have e:=aC e;have XD:=of_decide_eq_true (aM e);have e:=aC e;have c14:=of_decide_eq_true (aM e);have e:=aC e;have c15:=aM e;have e:=aC e;have c16:=aM e;have e:=aC e;exact⟨o,fd,se fd.body,Ao.getD f [],dv,⟨X _ _ ho,HD hd,c1,c2,c3,hb,c4,c5,c6,c7,c8,c9,c10,c11,d.1,d.2,XD,c14,⟨et,e4⟩,c15,λi x hx=>(aaO (k:=0) c16 hx).trans (congrArg some (Nf i)),λx hx=>HF (MV.mp (aM e) x hx),λp hp=>of_decide_eq_true (MV.mp (aM (aC e)) p hp),of_decide_eq_true (aC (aC e))⟩⟩
set_option tactic.hygienic true in
theorem DQ {K:Y'}{h:θ}(X:K.In h){ns:Nat}{x:ζ}{v:WP}{m:ζ->Option WP}(N:h.Ns ns m)(e:Ke K ns x=some (some v)):m x=some v:=by
 refine ag (i8 N) λo ho hl=>?_;unfold Ke at e
 split at e
 ·rename_i c d es n s hk
  have:=X _ _ hk
  replace this:=ho▸this;obtain rfl:=Option.some.inj this
  have:=hl x
  unfold lookIn at this;dsimp only at this;exact Option.some.inj (this.symm.trans e)
 ·exact au e
theorem DR {R:WRecords}{t:WTm}{e:WCtx}(h:t.value R e=some (.bool true)):t.holds R e=true:=(congrArg (λv=>match v with|some (.bool true)=>true|_=>false) h:_)
theorem DT {R:WRecords}{t:WTm}{e:WCtx}(h:t.value R e=some (.bool false)):t.holds R e=false:=(congrArg (λv=>match v with|some (.bool true)=>true|_=>false) h:_)
theorem AH {l:OpenLaw}(hm:l.most=some 63)(hb:l.bound=none){args:List WData}(h:l.row.toRowW.claim.pre args=true):∃ds,args=[.list ds]/\ds.length<=63/\∀d∈ds,∃i,d=.int i:=by
 refine(pre_splitW h).elim λh1 h2=>?_;refine aL (hasAllW_cons (es:=[]) h1) λd r e57 h3 h4=>?_;subst e57;refine ad (hasAllW_nil h4) ?_;refine ag (hasW_list h3) λds e61 h6=>?_;subst e61;refine⟨ds,rfl,?_,?_⟩
 ·have h7:=(holds_andW (show(WTm.and _ _).holds _ _=true from h2)).1;replace h7:=hm▸h7;refine Uo λq=>ak ((DT ?_).symm.trans h7);have e:less? (.int ((63:Nat):Int)) (.int (ds.length:Int))=some (decide ((63:Int)<ds.length)):=rfl;simp only[WTm.value,List.getElem?_cons_zero,e,SU];exact congrArg (λb=>some (WData.bool (!b))) (decide_eq_true (Ot.mpr q))
 ·clear h h1 h2 h3 h4
  induction ds with
  |nil=>intro d hd;contradiction
  |cons a ds ih=>
   have h6:(WShape.has _ a .int&&WShape.hasItems _ ds .int)=true:=h6;intro d hd;refine Lr (L7.mp hd) (λo3=>?_) λhd=>?_
   ·refine ad o3 ?_;exact hasW_int (aM h6)
   ·exact ih (aC h6) d hd
theorem JB {P:Dg}{h:θ}{v:WP}{i:Int}(a:Well P h v (.int i)):∃t,v=.int i t:=by cases a;exact⟨_,rfl⟩
theorem Fo {P:Dg}{h:θ}{vs:List WP}(a:C3 P h vs []):vs=[]:=by cases a;rfl
theorem AI {P:Dg}{h:θ}{vs:List WP}{d:WData}{ds:List WData}(a:C3 P h vs (d::ds)):∃v r,vs=v::r/\Well P h v d/\C3 P h r ds:=by
 cases a with
 |cons x y=>exact⟨_,_,rfl,x,y⟩
theorem JC {P:Dg}{h:θ}{v:WP}{ds:List WData}(a:Well P h v (.list ds)):∃L vs,v=.ref L/\h.get? L=some (cG vs.toArray 0)/\C3 P h vs ds:=by
 cases a with
 |list ho hw=>exact⟨_,_,rfl,ho,hw⟩
theorem DU {w:μ}{P:Dg}{h:θ}{X:Nat->Prop}{φ:bm}{ds:List WData}:∀{vs:List WP},C3 P h vs ds->(∀d∈ds,∃i,d=.int i)->∃l:List Int,l.length=ds.length/\aZ w h X φ 0 (l.map .int) vs:=by
 induction ds with
 |nil=>exact λa _=>⟨[],rfl,Fo a⟩
 |cons d ds ih=>
  intro vs a hi;refine aL (AI a) λv r e a k=>?_;refine ag (ih k λd hd=>hi d (L8 _ hd)) λl h1 h3=>?_;refine(hi d LI).elim λi ei=>?_;exact⟨i::l,congrArg Nat.succ h1,v,r,e,JB (ei▸a),h3⟩
noncomputable def HG (K:Y')(a:Nat):Bool:=(SO a 15).all λi=>match prog.fn i with
 |some F=>wu K i F
 |none=>true
noncomputable def HH (K:Y')(a:Nat):List (List χ):=(SO a 15).map λi=>match prog.fn i with
 |some F=>(jT K i F).1
 |none=>[]
noncomputable def HI (K:Y')(a:Nat):List (List χ):=(SO a 15).map λi=>match prog.fn i with
 |some _=>jS K i
 |none=>[]
theorem aao {K:Y'}(c:∀a,a<6->HG K (a*15)=true)(t:∀a,a<6->HH K (a*15)=HI K (a*15))(i:Nat)(F:Fn)(h:prog.fn i=some F):wu K i F=true/\(jT K i F).1=jS K i:=by
 have hi:=Fj h
 have hm:i∈SO (i / 15*15) 15:=by rw[List.mem_range'_1];omega
 have h1:=MV.mp (c (i / 15) (by omega)) i hm
 have h2:=List.map_inj_left.mp (t (i / 15) (by omega)) i hm
 rw[h]at h1 h2;exact⟨h1,h2⟩
theorem aau {P:Nat->Prop}(h0:P 0)(h1:P 1)(h2:P 2)(h3:P 3)(h4:P 4)(h5:P 5)(a:Nat)(h:a<6):P a:=by
 rcases a with _|_|_|_|_|_|a
 ·exact h0
 ·exact h1
 ·exact h2
 ·exact h3
 ·exact h4
 ·exact h5
 ·exact absurd h (Qe.mpr (MF 6 a))
theorem AJ {l:OpenLaw}{args:List WData}:l.row.toRowW.claim.post args (.bool true) args=true:=by
 refine PY.mpr ⟨show WShape.has l.row.records (.bool true) .bool=true from rfl,?_⟩;refine DR (t:=WTm.eq .res (.lit (.bool true))) ?_
 simp[WTm.value,same]
theorem aai {l:OpenLaw}(hm:l.most=some 63)(hb:l.bound=none){K:Dg->Y'}{as:List Addr}{e:∀P,as=(K P).map (·.1)}{q:Θ}{loose:List ζ}{XP:(ζ->Option WP)->θ->Prop}{d:DefRec}{kwd:List (ζ×Expr)}
  (c:∀P,K4 (K P)) (f:∀P i F,prog.fn i=some F->wu (K P) i F=true/\(jT (K P) i F).1=jS (K P) i) (hd0:∀P,Ke (K P) HJ d.name=some (some (.ref (CH.getD 86 0))))
  (law:∀(l:List Int) (σ:St),∃σ',aI prog 150 86 [.lst (l.map .int)] σ=some (.bool true,σ')) :
  WalkO q loose XP (kHook K as e).says l.row.toRowW d kwd (λf vs=>PySem.call f vs):=by
 intro w LQ Lj mg mb G Y a o pm cd doc dV kV ho hd hcd hD hmg hg args vals as' Mn aac hrd hwl O4;have X:(K w.params).In Lj.heap:=kIn_of Y
 have ha:a=CH.getD 86 0:=by
  have:=DQ X G.T.g (hd0 w.params)
  replace this:=hmg▸this;rcases this with _|_;rfl
 refine ad ha ?_;refine a6 (AH hm hb Mn) λds QT hlen hint=>?_;subst QT
 have hv:∃L vs,vals=[.ref L]/\Lj.heap.get? L=some (cG vs.toArray 0)/\C3 w.params Lj.heap vs ds:=by
  refine aL (AI hwl) λv r e a k=>?_;refine aL (JC a) λL vs e2 ho hw=>⟨L,vs,e.trans (congr (congrArg List.cons e2) (Fo k)),ho,hw⟩
 refine aL hv λL vs Xi hL hw=>?_;refine ad Xi ?_
 let RH:St:=⟨0,λ_=> .dead⟩
 let Tq:bm:=⟨λ_=>0,λ_=>0⟩
 refine ag (DU (w:=w) (X:=XF RH Tq λ_=>False) (φ:=Tq) hw hint) λlv l1 l3=>?_;refine(law lv RH).elim λσ' VW=>?_;have F:bS (Dw (K w.params)) w Lj.heap:=AD X ⟨_,_,_,_,topRead_of G.T⟩ (c w.params);have H:∀i Fn,(Dw (K w.params)).P.fn i=some Fn->DJ (Dw (K w.params)) w Lj.heap i Fn:=λi Fn hi=>JA X (f w.params i Fn hi).1 (f w.params i Fn hi).2
 have S:SR w (Dw (K w.params)).T Lj.heap (λ_=>False) Tq RH Lj.heap:=⟨λr hr=>absurd hr (NM _),λr hr=>absurd hr (NM _),λr hr=>absurd hr (NM _),λr r' hr=>absurd hr (NM _),λr hr=>absurd hr (NM _),λa h=>h.elim,by
  refine ag (i8 G.T.g) λo h1 _=>?_
  have:Lj.heap.get? 3=some o:=h1
  (refine ad this ?_);rfl,λb o e=>e⟩
 have Zv:vs.length=lv.length:=l3.length.trans (LN ..)
 have key:=DL (prog:=l.row.toRowW.prog) F H 150 86 [.lst (lv.map .int)] RH (.bool true) σ' VW rfl (A:=callerA) (P:=λ_=>False) (φ:=Tq) (s:=Lj) (cs:=[.ref L]) (R:=GoodWG l.row.toRowW.claim (classAt LQ.heap) (ExcName.means LQ.heap) [.list ds] Lj)
  ⟨rfl,by decide,by decide⟩ S ⟨_,_,rfl,⟨L,vs.toArray,0,rfl,(λq=>q.elim (λUK=>ag UK λr hr _=>NM _ hr) id),hL,l3,by
   show vs.length<=aq
   have:aq=8388608:=rfl
   exact Ll [_,_,_,_] 8388608 M2 No [(8388608,NE,.k 63),(8388608,Op,NE),(8388608,M2,Op),(63,.k 8388608,No)] rfl hlen (LU l1) (LU Zv) (iU this)⟩,rfl⟩ (λφ' s' vc st rv=>by
   refine ad rv ?_
   exact⟨.inl ⟨.bool true,.bool true,[],rfl,λcls=>rfl,.bool true,AJ,λ_=>⟨Pz,λa h=>by contradiction⟩⟩,.of_keep (λb o e=>st.ext.keep b o (λZX=>ag ZX λr hr _=>NM _ hr) id e),st.os,.of_eq (by(refine ad st.gens ?_);exact hg)⟩)
 exact enter_call key
end Mine.Internal
namespace Mine.Internal
noncomputable section
def XS (n:Nat)(ss:List IS)(ρ:Loc)(σ:St)(K:Fl->Loc->St->Prop):Prop:=∃fl J' σ',iE prog (aI prog n) ss ρ σ=some (fl,J',σ')/\K fl J' σ'
def XE (n:Nat)(e:IE)(ρ:Loc)(σ:St)(K:V->St->Prop):Prop:=∃v σ',cm prog (aI prog n) e ρ σ=some (v,σ')/\K v σ'
def XL (n:Nat)(es:List IE)(ρ:Loc)(σ:St)(K:List V->St->Prop):Prop:=∃vs σ',eP prog (aI prog n) es ρ σ=some (vs,σ')/\K vs σ'
def XT (n:Nat)(e:IE)(ρ:Loc)(σ:St)(K:Bool->St->Prop):Prop:=∃v σ' b,cm prog (aI prog n) e ρ σ=some (v,σ')/\cQ σ' v=some b/\K b σ'
def XC (n f:Nat)(vs:List V)(σ:St)(K:V->St->Prop):Prop:=∃v σ',aI prog n f vs σ=some (v,σ')/\K v σ'
def Ev (n:Nat)(e:IE)(ρ:Loc)(σ:St)(v:V):Prop:=cm prog (aI prog n) e ρ σ=some (v,σ)
def si (n:Nat)(es:List IE)(ρ:Loc)(σ:St)(vs:List V):Prop:=eP prog (aI prog n) es ρ σ=some (vs,σ)
def Tp (n:Nat)(e:IE)(ρ:Loc)(σ:St)(p:Prop):Prop:=∃v b,cm prog (aI prog n) e ρ σ=some (v,σ)/\cQ σ v=some b/\(b=true↔p)
noncomputable def m7 (vs:List V):Loc:=λi=>vs[i]?
noncomputable def FK (Q:V->St->Prop):Fl->Loc->St->Prop
 |.next,_,σ=>Q .none σ
 |.ret v,_,σ=>Q v σ
 |.brk,_,_=>False
noncomputable def sK (n:Nat)(ss:List IS)(K:Fl->Loc->St->Prop):Fl->Loc->St->Prop
 |.next,ρ,σ=>XS n ss ρ σ K
 |.ret v,ρ,σ=>K (.ret v) ρ σ
 |.brk,ρ,σ=>K .brk ρ σ
def aK (n i:Nat)(ss:List IS)(ρ:Loc)(K:Fl->Loc->St->Prop)(v:V)(σ:St):Prop:=XS n ss (ρ.set i v) σ K
def rK (ρ:Loc)(K:Fl->Loc->St->Prop)(v:V)(σ:St):Prop:=K (.ret v) ρ σ
noncomputable def bK (n:Nat)(a b ss:List IS)(ρ:Loc)(K:Fl->Loc->St->Prop):Bool->St->Prop
 |true,σ=>XS n a ρ σ (sK n ss K)
 |false,σ=>XS n b ρ σ (sK n ss K)
section
variable {n f i m c r:Nat}{ρ J':Loc}{σ σ':St}{K:Fl->Loc->St->Prop}{Q:V->St->Prop}{ss a b:List IS}{e e1 e2 it:IE}{es cs:List IE}{v x y z:V}{vs l:List V}{op:qy}{cp:CD}{p q:Prop}
theorem fK {F:Fn}(hF:prog.fn f=some F)(hl:F.abc<=vs.length/\vs.length<=F.abc+F.abj.length)(h:XS n F.body (m7 (vs++F.abj.drop (vs.length-F.abc))) σ (FK Q)):XC (n+1) f vs σ Q:=by
 refine fh h λfl J' σ' e h=>?_
 induction fl with
 |next=>exact⟨_,_,(congrArg (SN · _) hF).trans ((if_pos hl).trans (congrArg (SN · _) e)),h⟩
 |ret v=>exact⟨_,_,(congrArg (SN · _) hF).trans ((if_pos hl).trans (congrArg (SN · _) e)),h⟩
 |brk=>exact h.elim
theorem ay {F:Fn}(hF:prog.fn f=some F)(hl:vs.length=F.abc+F.abj.length)(h:XS n F.body (m7 vs) σ (FK Q)):XC (n+1) f vs σ Q:=fK hF ⟨hl▸Me _ _,LU hl⟩ (by
  rw[YO (by rw[hl,QI];exact Lv _),Mz];exact h)
theorem XC.eq (h:XC n f vs σ λw s=>w=v/\s=σ):aI prog n f vs σ=some (v,σ):=by
 refine aL h λw s e Xh e31=>?_;refine aR Xh ?_;subst e31;exact e
theorem XC.ex {γ:Type}{g:γ->V}{P:γ->Prop}(h:XC n f vs σ λw s=>∃v,w=g v/\s=σ/\P v):∃v,aI prog n f vs σ=some (g v,σ)/\P v:=by
 obtain⟨w,s,e,v,rfl,rfl,p⟩:=h;exact⟨v,e,p⟩
section
variable {α β:Type}{s:α}{o:Option α}{g:α->Option β}{r:Option β}
theorem bs (h:o=some s)(k:g s=r):o.bind g=r:=by(refine ad h ?_);exact k
end
theorem aj (h:ρ i=some v):Ev n (.loc i) ρ σ v:=bs h rfl
theorem bX (h1:Ev n e1 ρ σ x)(h2:Ev n e2 ρ σ y)(h:dP op x y=some z):Ev n (.bin op e1 e2) ρ σ z:=bs h1 (bs h2 (bs h rfl))
theorem cu {b:Bool}(h1:Ev n e1 ρ σ x)(h2:Ev n e2 ρ σ y)(h:dQ cp σ x y=some b):Ev n (.cmp cp e1 e2) ρ σ (.bool b):=bs h1 (bs h2 (bs h rfl))
theorem ai (h1:Ev n e1 ρ σ x)(h2:Ev n e2 ρ σ y)(h:cb σ x y=some z):Ev n (.sub e1 e2) ρ σ z:=bs h1 (bs h2 (bs h rfl))
theorem wv (h1:Ev n e1 ρ σ x)(h2:Ev n e2 ρ σ y)(h:eR x none (some y)=some z):Ev n (.slice e1 none (some e2)) ρ σ z:=bs h1 (bs rfl (bs (bs h2 rfl) (bs h rfl)))
theorem Fp (h1:Ev n e1 ρ σ x)(h2:Ev n e2 ρ σ y)(h:eR x (some y) none=some z):Ev n (.slice e1 (some e2) none) ρ σ z:=bs h1 (bs (bs h2 rfl) (bs rfl (bs h rfl)))
theorem io {r:Nat}{o:AO}{α:Type}{f:AO->α}{z:α}(hg:σ.g r=o)(h:f o=z):f (σ.g r)=z:=hg▸h
theorem AM {r:Nat}{o p:AO}{f:AO->Option AO}(hg:σ.g r=o)(h:f o=some p):nv f σ (.ref r)=some (σ.set r p):=congrArg (Option.map (σ.set r)) (io hg h)
theorem am {fs:List (Nat×V)}(h:Ev n e ρ σ (.ref r))(hg:σ.g r=.inst c fs)(hf:cC fs i=some v):Ev n (.attr e i) ρ σ v:=bs h (bs ((io (f:=CP i) hg hf:getAttr (.ref r) i σ=some v)) rfl)
theorem av:si n [] ρ σ []:=rfl
theorem ae (h:Ev n e ρ σ v)(h2:si n es ρ σ vs):si n (e::es) ρ σ (v::vs):=bs h (bs h2 rfl)
theorem eD (h:si n es ρ σ vs):Ev n (.tup es) ρ σ (.tup vs):=bs h rfl
theorem AN (h:si n es ρ σ vs):Ev n (.lst es) ρ σ (.lst vs):=bs h rfl
theorem cU {b:BI}(h:si n es ρ σ vs)(hb:builtin b σ vs=some v):Ev n (.bi b es) ρ σ v:=bs h (bs hb rfl)
theorem aH (h:si n es ρ σ vs)(hc:aI prog n f vs σ=some (v,σ)):Ev n (.call f es) ρ σ v:=bs h hc
theorem Ev.tp {b:Bool}(h:Ev n e ρ σ (.bool b)):Tp n e ρ σ (b=true):=⟨_,b,h,rfl,NW⟩
theorem Tp.iff (h:Tp n e ρ σ p)(k:p↔q):Tp n e ρ σ q:=aL h λv b h1 h2 h3=>⟨v,b,h1,h2,h3.trans k⟩
theorem JD {b:Bool}{α:Type}{A B o:α}(h:b=true)(k:A=o):(if b then A else B)=o:=by(refine ad h ?_);exact k
theorem JE {b:Bool}{α:Type}{A B o:α}(h:b=false)(k:B=o):(if b then A else B)=o:=by(refine ad h ?_);exact k
theorem bf {b:Bool}(h:b=true↔p)(hp:¬p):b=false:=by rcases b with _|_;rfl;exact absurd (h.mp rfl) hp
theorem lY (h:Tp n e ρ σ p)(hp:p)(k:Ev n e1 ρ σ v):Ev n (.ite e e1 e2) ρ σ v:=aL h λ_ _ h1 h2 h3=>bs h1 (bs h2 (JD (h3.mpr hp) k))
theorem iK (h:Tp n e ρ σ p)(hp:¬p)(k:Ev n e2 ρ σ v):Ev n (.ite e e1 e2) ρ σ v:=aL h λ_ _ h1 h2 h3=>bs h1 (bs h2 (JE (bf h3 hp) k))
section
variable {j k:Int}
theorem aA (h1:Ev n e1 ρ σ (.int j))(h2:Ev n e2 ρ σ (.int k)):Tp n (.cmp .eq e1 e2) ρ σ (j=k):=(cu (cp:= .eq) h1 h2 rfl).tp.iff decide_eq_true_iff
theorem lZ (h1:Ev n e1 ρ σ (.int j))(h2:Ev n e2 ρ σ (.int k)):Tp n (.cmp .ne e1 e2) ρ σ (j≠k):=(cu (cp:= .ne) h1 h2 rfl).tp.iff decide_eq_true_iff
theorem ip (h1:Ev n e1 ρ σ (.int j))(h2:Ev n e2 ρ σ (.int k)):Tp n (.cmp .lt e1 e2) ρ σ (j<k):=(cu (cp:= .lt) h1 h2 rfl).tp.iff decide_eq_true_iff
theorem JF (h1:Ev n e1 ρ σ (.int j))(h2:Ev n e2 ρ σ (.int k)):Tp n (.cmp .le e1 e2) ρ σ (j<=k):=(cu (cp:= .le) h1 h2 rfl).tp.iff decide_eq_true_iff
theorem jU (h1:Ev n e1 ρ σ (.int j))(h2:Ev n e2 ρ σ (.int k)):Tp n (.cmp .gt e1 e2) ρ σ (k<j):=(cu (cp:= .gt) h1 h2 rfl).tp.iff decide_eq_true_iff
theorem l4 (h1:Ev n e1 ρ σ (.int j))(h2:Ev n e2 ρ σ (.int k)):Tp n (.cmp .ge e1 e2) ρ σ (k<=j):=(cu (cp:= .ge) h1 h2 rfl).tp.iff decide_eq_true_iff
end
theorem gD {b:Bool}(h1:Ev n e1 ρ σ x)(h2:Ev n e2 ρ σ y)(h:dQ cp σ x y=some b)(k:b=true↔p):Tp n (.cmp cp e1 e2) ρ σ p:=⟨_,b,cu h1 h2 h,rfl,k⟩
theorem bJ (h:Tp n e ρ σ p):Tp n (.τ [e]) ρ σ p:=h
theorem bL (h:Tp n e ρ σ p):Tp n (.ω [e]) ρ σ p:=h
theorem cY (h:Tp n e ρ σ p)(k:p->Tp n (.τ (e1::es)) ρ σ q):Tp n (.τ (e::e1::es)) ρ σ (p/\q):=by
 refine aL h λv b h1 h2 h3=>?_;rcases b with _|_
 ·exact⟨v,false,bs h1 (bs h2 rfl),h2,⟨Bool.noConfusion,λg=>h3.mpr g.1⟩⟩
 ·refine aL (k (h3.mp rfl)) λw c k1 k2 k3=>?_;exact⟨w,c,bs h1 (bs h2 k1),k2,k3.trans ⟨λg=>⟨h3.mp rfl,g⟩,λg=>g.2⟩⟩
theorem cF (h:Tp n e ρ σ p)(k:Tp n (.τ (e1::es)) ρ σ q):Tp n (.τ (e::e1::es)) ρ σ (p/\q):=cY h λ_=>k
theorem Fq (h:Tp n e ρ σ p)(k:¬p->Tp n (.ω (e1::es)) ρ σ q):Tp n (.ω (e::e1::es)) ρ σ (p\/q):=by
 refine aL h λv b h1 h2 h3=>?_;rcases b with _|_
 ·have hp:¬p:=λq=>Bool.noConfusion (h3.mpr q);refine aL (k hp) λw c k1 k2 k3=>?_;exact⟨w,c,bs h1 (bs h2 k1),k2,k3.trans ⟨.inr,λg=>g.resolve_left hp⟩⟩
 ·exact⟨v,true,bs h1 (bs h2 rfl),h2,⟨λ_=> .inl (h3.mp rfl),λ_=>rfl⟩⟩
theorem cK (h:Tp n e ρ σ p)(k:Tp n (.ω (e1::es)) ρ σ q):Tp n (.ω (e::e1::es)) ρ σ (p\/q):=Fq h λ_=>k
theorem je (h:Tp n e ρ σ p):Tp n (.not e) ρ σ (¬p):=by
 refine aL h λv b h1 h2 h3=>?_
 exact⟨.bool !b,!b,bs h1 (bs h2 rfl),rfl,by rw[<- h3];rcases b with _|_<;>simp⟩
theorem HK (h:Ev n e ρ σ (.bool true)):Ev n (.ω (e::e1::es)) ρ σ (.bool true):=by exact bs h rfl
theorem uQ (h:Ev n e ρ σ (.bool false)):Ev n (.τ (e::e1::es)) ρ σ (.bool false):=by exact bs h rfl
theorem Fr {no:Bool}(h:Ev n e ρ σ .none):Ev n (.isn no e) ρ σ (.bool !no):=by exact bs h rfl
theorem Fs {no:Bool}(h:Ev n e ρ σ (.ref r)):Ev n (.isn no e) ρ σ (.bool no):=by exact bs h rfl
theorem AP {c d:Bool}(h:Ev n e ρ σ (.bool c))(k:Ev n (.τ (e1::es)) ρ σ (.bool d)):Ev n (.τ (e::e1::es)) ρ σ (.bool (c&&d)):=by
 rcases c with _|_
 ·exact bs h rfl
 ·exact bs h k
section
variable {K:V->St->Prop}{L:List V->St->Prop}
theorem dD (h:Ev n e ρ σ v)(k:K v σ):XE n e ρ σ K:=⟨v,σ,h,k⟩
theorem az (h:si n es ρ σ vs)(k:XC n f vs σ K):XE n (.call f es) ρ σ K:=bv k λv σ' e k=>⟨v,σ',bs h e,k⟩
theorem jf (h:XL n es ρ σ λvs σ=>XC n f vs σ K):XE n (.call f es) ρ σ K:=bv h λ_ _ h UH=>bv UH λv σ' e k=>⟨v,σ',bs h e,k⟩
theorem iu (k:L [] σ):XL n [] ρ σ L:=⟨[],σ,rfl,k⟩
theorem bM (h:XE n e ρ σ λv σ=>XL n es ρ σ λvs σ=>L (v::vs) σ):XL n (e::es) ρ σ L:=bv h λ_ _ h UJ=>bv UJ λ_ _ h2 k=>⟨_,_,bs h (bs h2 rfl),k⟩
theorem dC (h:XE n e ρ σ λv σ=>L [v] σ):XL n [e] ρ σ L:=bv h λ_ _ h k=>⟨_,_,bs h rfl,k⟩
theorem m8 (h:si n es ρ σ vs)(k:L vs σ):XL n es ρ σ L:=⟨vs,σ,h,k⟩
theorem km (h:XL n es ρ σ λvs σ=>K (.tup vs) σ):XE n (.tup es) ρ σ K:=bv h λ_ _ h k=>⟨_,_,bs h rfl,k⟩
theorem n4 (h:XL n es ρ σ λvs σ=>K (.lst vs) σ):XE n (.lst es) ρ σ K:=bv h λ_ _ h k=>⟨_,_,bs h rfl,k⟩
theorem dE (h:XL n es ρ σ λvs σ=>K (.ref σ.n) (σ.new (.list vs))):XE n (.abe es) ρ σ K:=bv h λ_ _ h k=>⟨_,_,bs h rfl,k⟩
theorem gE (k:K (.ref σ.n) (σ.new (.dict []))):XE n .abm ρ σ K:=⟨_,_,rfl,k⟩
theorem sj (h:XE n e1 ρ σ λx σ=>XE n e2 ρ σ λy σ=>∃z,dP op x y=some z/\K z σ):XE n (.bin op e1 e2) ρ σ K:=bv h λ_ _ h1 q=>bv q λ_ _ h2 q=>ag q λ_ h3 k=>⟨_,_,bs h1 (bs h2 (bs h3 rfl)),k⟩
theorem HL (h:Tp n e ρ σ p)(hp:p)(k:XE n e1 ρ σ K):XE n (.ite e e1 e2) ρ σ K:=aL h λ_ _ h1 h2 h3=>bv k λ_ _ h k=>⟨_,_,bs h1 (bs h2 (JD (h3.mpr hp) h)),k⟩
theorem AQ (h:Tp n e ρ σ p)(hp:¬p)(k:XE n e2 ρ σ K):XE n (.ite e e1 e2) ρ σ K:=aL h λ_ _ h1 h2 h3=>bv k λ_ _ h k=>⟨_,_,bs h1 (bs h2 (JE (bf h3 hp) h)),k⟩
theorem n5 (h:Tp n e ρ σ p)(k1:p->XE n e1 ρ σ K)(k2:¬p->XE n e2 ρ σ K):XE n (.ite e e1 e2) ρ σ K:=(PC p).elim (λhp=>HL h hp (k1 hp)) λhp=>AQ h hp (k2 hp)
theorem AR (h:XT n e ρ σ λb σ=>XE n (cond b e1 e2) ρ σ K):XE n (.ite e e1 e2) ρ σ K:=by
 obtain⟨_,_,b,h1,h2,_,_,h3,k⟩:=h;rcases b with _|_
 ·exact⟨_,_,bs h1 (bs h2 h3),k⟩
 ·exact⟨_,_,bs h1 (bs h2 h3),k⟩
theorem bp {fs:List (Nat×V)}(ho:Ev n e ρ σ (.ref r))(h:si n es ρ σ vs)(hg:σ.g r=.inst c fs)(hm:prog.π c m=some f)(k:XC n f (.ref r::vs) σ K):XE n (.π e m es) ρ σ K:=by
 refine bv k λv σ' h1 k=>?_;refine⟨v,σ',bs ho (bs h ((if_pos rfl).trans ?_)),k⟩;exact io (f:=j7 prog (aI prog n) m r vs σ) hg (bs hm h1)
theorem ww {es:List IE}(h:XE n e ρ σ λo σ=>∃r c fs vs g,o=.ref r/\si n es ρ σ vs/\σ.g r=.inst c fs/\prog.π c m=some g/\XC n g (.ref r::vs) σ K):XE n (.π e m es) ρ σ K:=by
 obtain⟨_,s,h,r,c,fs,vs,g,rfl,h1,hg,hm,v,σ',h2,k⟩:=h;refine⟨v,σ',bs h (bs h1 ((if_pos rfl).trans ?_)),k⟩;exact io (f:=j7 prog (aI prog n) m r vs s) hg (bs hm h2)
theorem JG (h:Ev n e ρ σ (.bool false))(k:XE n e1 ρ σ K):XE n (.ω [e,e1]) ρ σ K:=by
 refine bv k λv s h1 k=>?_;exact⟨v,s,bs h h1,k⟩
theorem AS (h:Ev n e ρ σ (.bool true))(k:XE n e1 ρ σ K):XE n (.τ [e,e1]) ρ σ K:=by
 refine bv k λv s h1 k=>?_;exact⟨v,s,bs h h1,k⟩
theorem pR (h:si n es ρ σ vs)(hi:prog.init c=some (some f))(k:XC n f (.ref σ.n::vs) (σ.new (.inst c [])) λv σ'=>v=.none/\K (.ref σ.n) σ'):XE n (.make c es) ρ σ K:=by
 refine aL k λv σ' h1 e25 k=>?_;subst e25;refine⟨_,σ',bs h ?_,k⟩;exact bs hi (show Kh (aI prog n) c vs σ (some f)=_ from bs h1 rfl)
theorem DV (hi:prog.init c=some none)(k:K (.ref σ.n) (σ.new (.inst c []))):XE n (.make c []) ρ σ K:=by
 refine⟨_,_,bs (s:=([],σ)) rfl ?_,k⟩;exact bs hi (show Kh (aI prog n) c [] σ none=_ from rfl)
theorem JH (ho:Ev n e ρ σ (.ref r))(hg:σ.g r=.list l)(hs:l.getLast? = some v)(k:K v (σ.set r (.list l.dropLast))):XE n (.π e 1 []) ρ σ K:=by
 refine⟨_,_,bs ho (bs (s:=([],σ)) rfl ((if_pos rfl).trans ?_)),k⟩;exact io (f:=j7 prog (aI prog n) 1 r [] σ) hg (bs hs rfl)
theorem Ft {es:List (V×V)}(ho:Ev n e ρ σ (.ref r))(h:Ev n e1 ρ σ y)(hg:σ.g r=.dict es)(h1:a8 y=true)(h2:bl es y=true)(hv:(cB es y).getD .none=v):Ev n (.π e 2 [e1]) ρ σ v:=by
 refine bs ho (bs (s:=([y],σ)) (bs h rfl) ((if_pos rfl).trans ?_));exact io (f:=j7 prog (aI prog n) 2 r [y] σ) hg ((if_pos (dB h1 h2)).trans (congrArg (λv=>some (v,σ)) hv))
theorem l5 (ho:Ev n e ρ σ (.ref r))(h:Ev n e1 ρ σ v)(hg:σ.g r=.list l)(hs:l.length<aq)(k:K .none (σ.set r (.list (l++[v])))):XE n (.π e 0 [e1]) ρ σ K:=by
 refine⟨_,_,bs ho (bs (bs h rfl) ((if_pos rfl).trans ?_)),k⟩;exact io (f:=j7 prog (aI prog n) 0 r [v] σ) hg (if_pos hs)
theorem AT {l0:List V}(ho:Ev n e ρ σ (.ref r))(hg0:σ.g r=.list l0)(h:XE n e1 ρ σ λv σ'=>∃l,σ'.g r=.list l/\l.length<aq/\K .none (σ'.set r (.list (l++[v])))):XE n (.π e 0 [e1]) ρ σ K:=by
 obtain⟨v,σ',h,l,hg,hs,k⟩:=h;refine⟨_,_,bs ho (bs (bs h rfl) ((if_pos ?_).trans ?_)),k⟩
 ·exact(congrArg Ge hg0).trans (congrArg Ge hg).symm
 ·exact io (f:=j7 prog (aI prog n) 0 r [v] σ') hg (if_pos hs)
theorem AU {b:BI}(h:XL n es ρ σ λvs σ=>∃v,builtin b σ vs=some v/\K v σ):XE n (.bi b es) ρ σ K:=bv h λ_ _ h UG=>ag UG λ_ hb k=>⟨_,_,bs h (bs hb rfl),k⟩
theorem sk {γ:Type}(f:γ->V)(P:γ->St->Prop)(h:∀K':V->St->Prop,(∀c σ',P c σ'->K' (f c) σ')->XE n e ρ σ K')(k:∀c σ',P c σ'->K (f c) σ'):XE n e ρ σ K:=h K k
section
variable {M:Bool->St->Prop}
theorem JI (h:Tp n e ρ σ p)(k1:p->M true σ)(k2:¬p->M false σ):XT n e ρ σ M:=aL h λv b h1 h2 h3=>⟨v,σ,b,h1,h2,Bool.rec (motive:=λb=>(b=true↔p)->M b σ) (λh3=>k2 λq=>ak (h3.mpr q)) (λh3=>k1 (h3.mp rfl)) b h3⟩
theorem l6 (h:XE n e ρ σ λv σ=>∃b,cQ σ v=some b/\M b σ):XT n e ρ σ M:=bv h λv s h RM=>ag RM λb h2 k=>⟨v,s,b,h,h2,k⟩
theorem iL (h:XE n e1 ρ σ λx σ=>XE n e2 ρ σ λy σ=>∃b,dQ cp σ x y=some b/\M b σ):XT n (.cmp cp e1 e2) ρ σ M:=bv h λ_ _ h1 q=>bv q λ_ s h2 q=>ag q λb h3 k=>⟨_,s,b,bs h1 (bs h2 (bs h3 rfl)),rfl,k⟩
theorem AV (h:XE n e1 ρ σ λx σ=>∃j k,x=.int j/\Ev n e2 ρ σ (.int k)/\(j=k->M true σ)/\(j≠k->M false σ)):XT n (.cmp .eq e1 e2) ρ σ M:=by
 obtain⟨_,s,h1,j,k,rfl,h2,k1,k2⟩:=h;refine⟨_,s,decide (j=k),bs h1 (bs h2 rfl),rfl,?_⟩
 by_cases q:j=k
 ·(refine ad (decide_eq_true q) ?_);exact k1 q
 ·(refine ad (decide_eq_false q) ?_);exact k2 q
theorem l7 (h:XT n e ρ σ λb σ=>M (!b) σ):XT n (.not e) ρ σ M:=ik h λ_ s b h1 h2 k=>⟨.bool !b,s,!b,bs h1 (bs h2 rfl),rfl,k⟩
theorem g0 (h:XT n e ρ σ M):XT n (.τ [e]) ρ σ M:=h
theorem gF (h:Tp n e ρ σ p)(k1:p->XT n (.τ (e1::es)) ρ σ M)(k2:¬p->M false σ):XT n (.τ (e::e1::es)) ρ σ M:=by
 refine aL h λv b h1 h2 h3=>?_;rcases b with _|_
 ·exact⟨v,σ,false,bs h1 (bs h2 rfl),h2,k2 λq=>Bool.noConfusion (h3.mpr q)⟩
 ·exact ik (k1 (h3.mp rfl)) λw s c k1 k2 k3=>⟨w,s,c,bs h1 (bs h2 k1),k2,k3⟩
end
def XM (n:Nat)(e:IE)(j:Nat)(cs:List IE)(ρ:Loc)(K:V->St->Prop)(x:V)(σ:St):Prop:=∃l vs σ',bV σ x=some (l,none)/\iV (.loc j) none l (λρ σ=>dk prog (aI prog n) cs ρ σ) (λρ σ=>cm prog (aI prog n) e ρ σ) l [] ((ff.loc j).clear ρ) σ=some (vs,σ')/\K (.lst vs) σ'
theorem dX {j:Nat}(h:XE n it ρ σ (XM n e j cs ρ K)):XE n (.comp e (.loc j) it cs) ρ σ K:=bv h λ_ _ h q=>ik q λ_ _ _ h1 h2 k=>⟨_,_,bs h (bs h1 (bs h2 rfl)),k⟩
theorem wx {j:Nat}{v:V}(h:∀i,i≠j->J' i=ρ i):J'.set j v=ρ.set j v:=funext λi=>by
 unfold Loc.set
 by_cases e:i=j
 ·(refine ad (if_pos e) ?_;refine ad (if_pos e) ?_;rfl)
 ·(refine ad (if_neg e) ?_;refine ad (if_neg e) ?_;refine ad (h i e) ?_;rfl)
theorem wy {α β:Type}{f:α->V}{g:β->V}{j:Nat}{c:IE}(xs:List α)(I:List α->List β->St->Prop)(hi:bV σ x=some (xs.map f,none))(hl:xs.length<aq)(h0:I xs [] σ)
  (step:∀x rest ys σ,I (x::rest) ys σ->XT n c (ρ.set j (f x)) σ λb σ=>Bool.rec (I rest ys σ) (XE n e (ρ.set j (f x)) σ λw σ=>∃y,w=g y/\I rest (ys++[y]) σ) b)
  (fin:∀ys σ,I [] ys σ->K (.lst (ys.map g)) σ):XM n e j [c] ρ K x σ:=by
 have key:∀(r:List α) (ys:List β) (J':Loc) (σ:St),ys.length+r.length<=xs.length->(∀i,i≠j->J' i=ρ i)->I r ys σ->∃zs σ',iV (.loc j) none (xs.map f) (λρ σ=>dk prog (aI prog n) [c] ρ σ) (λρ σ=>cm prog (aI prog n) e ρ σ) (r.map f) (ys.map g) J' σ=some (zs,σ')/\K (.lst zs) σ':=by
  intro r
  induction r with
  |nil=>exact λys J' σ _ _ h=>⟨_,_,rfl,fin ys σ h⟩
  |cons a r ih=>
   intro ys J' σ hle hρ h;refine ik (step a r ys σ h) λv s1 b h1 h2 h3=>?_;have es:=wx (v:=f a) hρ;have R5:∀i,i≠j->(ρ.set j (f a)) i=ρ i:=λi hi=>if_neg hi
   have tt:dk prog (aI prog n) [c] (ρ.set j (f a)) σ=some (b,s1):=bs h1 (bs h2 (by rcases b with _|_<;>rfl))
   induction b with
   |false=>
    refine bv (ih ys (ρ.set j (f a)) s1 (Lk (M9 (Mf _) _) hle) R5 h3) λzs σ' e1 k=>?_;refine⟨zs,σ',?_,k⟩;refine(if_pos rfl).trans (bs (s:=ρ.set j (f a)) (congrArg some es) ?_);exact bs tt e1
   |true=>
    obtain⟨w,s2,h4,y,rfl,h5⟩:=h3
    have V2:(ys++[y]).length+r.length<=xs.length:=by rw[LH,Ov,PX [y].length];exact hle
    refine bv (ih (ys++[y]) (ρ.set j (f a)) s2 V2 R5 h5) λzs σ' e1 k=>?_;rw[Mj]at e1;refine⟨zs,σ',?_,k⟩;refine(if_pos rfl).trans (bs (s:=ρ.set j (f a)) (congrArg some es) ?_);refine bs tt (bs h4 ((if_pos ?_).trans e1));rw[LN];exact Mp (Lk (Me _ _) hle) hl
 refine bv (key xs [] ((ff.loc j).clear ρ) σ (by rw[Ug,Nf];exact Lv _) (λi hi=>if_neg hi) h0) λzs σ' e1 k=>?_
 exact⟨_,_,_,hi,e1,k⟩
theorem AW {j:Nat}(h:XM n e j [.const (.bool true)] ρ K x σ):XM n e j [] ρ K x σ:=h
theorem AX {α β:Type}{f:α->V}{g:β->V}{j:Nat}(xs:List α)(I:List α->List β->St->Prop)(hi:bV σ x=some (xs.map f,none))(hl:xs.length<aq)(h0:I xs [] σ)
  (step:∀x rest ys σ,I (x::rest) ys σ->XE n e (ρ.set j (f x)) σ λw σ=>∃y,w=g y/\I rest (ys++[y]) σ)
  (fin:∀ys σ,I [] ys σ->K (.lst (ys.map g)) σ):XM n e j [] ρ K x σ:=AW (wy (c:= .const (.bool true)) xs I hi hl h0 (λx rest ys σ h=>⟨_,σ,true,rfl,rfl,step x rest ys σ h⟩) fin)
theorem AY {α β:Type}{f:α->V}{g:β->V}{j:Nat}(xs:List α)(I:List α->List β->St->Prop)(hi:bV σ x=some (xs.map f,none))(hl:xs.length<aq)(h0:I [] [] σ)
  (step:∀p x r ys σ,xs=p++x::r->I p ys σ->XE n e (ρ.set j (f x)) σ λw σ=>∃y,w=g y/\I (p++[x]) (ys++[y]) σ)
  (fin:∀ys σ,I xs ys σ->K (.lst (ys.map g)) σ):XM n e j [] ρ K x σ:=AX xs (λr ys σ=>∃p,xs=p++r/\I p ys σ) hi hl ⟨[],rfl,h0⟩ (λx r ys σ Zu=>ag Zu λp e h=>bv (step p x r ys σ e h) λw s h1 Z1=>ag Z1 λy h2 h3=>⟨w,s,h1,y,h2,p++[x],by rw[e,Mh];rfl,h3⟩) λys σ Zr=>ag Zr λp e h=>fin ys σ (e.trans (Mz p)▸h)
end
section
variable {t:IE}
theorem bn {s:IS}{fl:Fl}(h:nx prog (aI prog n) s ρ σ=some (fl,J',σ'))(k:sK n ss K fl J' σ'):XS n (s::ss) ρ σ K:=by
 induction fl with
 |next=>exact fh k λ_ _ _ e1 k=>⟨_,_,_,bs h e1,k⟩
 |brk=>exact⟨_,_,_,bs h rfl,k⟩
 |ret v=>exact⟨_,_,_,bs h rfl,k⟩
theorem nil (k:K .next ρ σ):XS n [] ρ σ K:=⟨_,_,_,rfl,k⟩
theorem bY (k:XE n e ρ σ (aK n i ss ρ K)):XS n (.assign (.loc i) e::ss) ρ σ K:=bv k λ_ _ h k=>bn (fl:= .next) (bs h rfl) k
theorem cV (h:Ev n e ρ σ v)(k:XS n ss (ρ.set i v) σ K):XS n (.assign (.loc i) e::ss) ρ σ K:=bn (fl:= .next) (bs h rfl) k
theorem AZ (h:si n es ρ σ vs)(k:XC n f vs σ (aK n i ss ρ K)):XS n (.assign (.loc i) (.call f es)::ss) ρ σ K:=bY (az h k)
theorem DW {is:List Nat}(h:Ev n e ρ σ (.tup vs))(hb:iD is vs ρ=some J')(k:XS n ss J' σ K):XS n (.assign (.tup is) e::ss) ρ σ K:=bn (fl:= .next) (bs h (bs hb rfl)) k
theorem Fu {is:List Nat}(h:XE n e ρ σ λv σ=>∃vs J',v=.tup vs/\iD is vs ρ=some J'/\XS n ss J' σ K):XS n (.assign (.tup is) e::ss) ρ σ K:=bv h λ_ _ h q=>aL q λ_ _ hv hb k=>bn (fl:= .next) (bs h (by refine ad hv ?_;exact bs hb rfl)) k
theorem dF (k:XE n e ρ σ (rK ρ K)):XS n (.ret e::ss) ρ σ K:=bv k λ_ _ h k=>bn (fl:= .ret _) (bs h rfl) k
theorem ret (h:Ev n e ρ σ v)(k:K (.ret v) ρ σ):XS n (.ret e::ss) ρ σ K:=bn (fl:= .ret _) (bs h rfl) k
theorem dG (h:si n es ρ σ vs)(k:XC n f vs σ (rK ρ K)):XS n (.ret (.call f es)::ss) ρ σ K:=dF (az h k)
theorem brk (k:K .brk ρ σ):XS n (.brk::ss) ρ σ K:=bn (fl:= .brk) rfl k
theorem jg (h:XT n t ρ σ (bK n a b ss ρ K)):XS n (.cond t a b::ss) ρ σ K:=by
 refine ik h λv LG c h1 h2 k=>?_;rcases c with _|_
 ·exact fh k λ_ _ _ e1 k=>bn (bs h1 (bs h2 e1)) k
 ·exact fh k λ_ _ _ e1 k=>bn (bs h1 (bs h2 e1)) k
theorem dH (h:Tp n t ρ σ p)(hp:p)(k:XS n a ρ σ (sK n ss K)):XS n (.cond t a b::ss) ρ σ K:=aL h λ_ _ h1 h2 h3=>jg ⟨_,_,true,h1,h2.trans (congrArg some (h3.mpr hp)),k⟩
theorem bq (h:Tp n t ρ σ p)(hp:¬p)(k:XS n b ρ σ (sK n ss K)):XS n (.cond t a b::ss) ρ σ K:=aL h λ_ _ h1 h2 h3=>jg ⟨_,_,false,h1,h2.trans (congrArg some (bf h3 hp)),k⟩
theorem HM (h:Tp n t ρ σ p)(k1:p->XS n a ρ σ (sK n ss K))(k2:¬p->XS n b ρ σ (sK n ss K)):XS n (.cond t a b::ss) ρ σ K:=(PC p).elim (λhp=>dH h hp (k1 hp)) λhp=>bq h hp (k2 hp)
theorem a9 (h:Tp n t ρ σ p)(k1:p->XS n a ρ σ (sK n ss K))(k2:¬p->XS n ss ρ σ K):XS n (.cond t a []::ss) ρ σ K:=HM h k1 λhp=>nil (k2 hp)
theorem expr (k:XE n e ρ σ λv σ=>v=.none/\XS n ss ρ σ K):XS n (.expr e::ss) ρ σ K:=aL k λ_ _ h hv k=>bn (fl:= .next) (bs h (by refine ad hv ?_;rfl)) k
theorem Ξ {o j:IE}(h:Ev n e ρ σ v)(ho:Ev n o ρ σ x)(hk:Ev n j ρ σ y)(hs:eA x y v σ=some σ')(k:XS n ss ρ σ' K):XS n (.Ξ o j e::ss) ρ σ K:=bn (fl:= .next) (bs h (bs ho (bs hk (bs hs rfl)))) k
theorem DX {o j:IE}(h:Ev n e ρ σ v)(ho:∀σ,Ev n o ρ σ x)(hk:XE n j ρ σ λy σ=>∃σ',eA x y v σ=some σ'/\XS n ss ρ σ' K):XS n (.Ξ o j e::ss) ρ σ K:=by
 obtain⟨y,s,h1,σ',hs,k⟩:=hk
 exact bn (fl:= .next) (bs h (bs (ho σ) (bs h1 (bs hs rfl)))) k
theorem freeze (h:ρ i=some v)(hf:kY v σ=some (x,σ'))(k:XS n ss (ρ.set i x) σ' K):XS n (.freeze i::ss) ρ σ K:=bn (fl:= .next) (bs h (bs hf rfl)) k
theorem aug {j k:Int}(h:ρ i=some (.int j))(he:Ev n e ρ σ (.int k))(hb:dP op (.int j) (.int k)=some v)(k:XS n ss (ρ.set i v) σ K):XS n (.aug i op e::ss) ρ σ K:=bn (fl:= .next) (bs h (bs he (bs ((if_pos rfl).trans hb) rfl))) k
theorem eE {o:IE}(h:XE n e ρ σ λv σ=>∃x σ',Ev n o ρ σ x/\dc x i v σ=some σ'/\XS n ss ρ σ' K):XS n (.setAttr o i e::ss) ρ σ K:=bv h λ_ _ h q=>aL q λ_ _ ho hs k=>bn (fl:= .next) (bs h (bs ho (bs hs rfl))) k
theorem setAttr {o:IE}(h:Ev n e ρ σ v)(ho:Ev n o ρ σ x)(hs:dc x i v σ=some σ')(k:XS n ss ρ σ' K):XS n (.setAttr o i e::ss) ρ σ K:=eE ⟨v,σ,h,x,σ',ho,hs,k⟩
theorem abw {o:IE}{j k:Int}(ho:Ev n o ρ σ x)(hg:getAttr x i σ=some (.int j))(he:Ev n e ρ σ (.int k))(hb:dP op (.int j) (.int k)=some v)(hs:dc x i v σ=some σ')(k:XS n ss ρ σ' K):XS n (.abw o i op e::ss) ρ σ K:=bn (fl:= .next) (bs ho (bs hg (bs he (bs ((if_pos rfl).trans hb) (bs hs rfl))))) k
theorem del {o j:IE}(ho:Ev n o ρ σ x)(h:XE n j ρ σ λy σ=>∃σ',oO x y σ=some σ'/\XS n ss ρ σ' K):XS n (.del o j::ss) ρ σ K:=bv h λ_ _ h UI=>ag UI λ_ hs k=>bn (fl:= .next) (bs ho (bs h (bs hs rfl))) k
theorem abA {o j:IE}(ho:Ev n o ρ σ x)(h:Ev n j ρ σ y)(hs:kE x y σ=some σ')(k:XS n ss ρ σ' K):XS n (.abA o j::ss) ρ σ K:=bn (fl:= .next) (bs ho (bs h (bs hs rfl))) k
noncomputable def lK (J:Loc->St->Prop)(n:Nat)(ss:List IS)(K:Fl->Loc->St->Prop):Fl->Loc->St->Prop
 |.next,ρ,σ=>J ρ σ
 |.brk,ρ,σ=>XS n ss ρ σ K
 |.ret v,ρ,σ=>K (.ret v) ρ σ
theorem wz {α:Type}{f:α->V}{tg:ff}{src:Option Nat}(xs:List α)(I:List α->Loc->St->Prop)(h:Ev n it ρ σ x)(hi:bV σ x=some (xs.map f,src))(hg:∀p ρ σ,I p ρ σ->guard src (xs.map f) σ=true)(h0:I [] ρ σ)
  (step:∀p c r J' σ',xs=p++c::r->I p J' σ'->∃MK,j6 tg (f c) J'=some MK/\XS n a MK σ' (lK (I (p++[c])) n ss K)) (fin:∀J' σ',I xs J' σ'->XS n ss J' σ' K):XS n (.loop tg it a::ss) ρ σ K:=by
 have key:∀(r p:List α) (J':Loc) (σ':St),xs=p++r->I p J' σ'->∃fl MK Lu,vE tg src (xs.map f) (λρ σ=>iE prog (aI prog n) a ρ σ) (r.map f) J' σ'=some (fl,MK,Lu)/\sK n ss K fl MK Lu:=by
  intro r
  induction r with
  |nil=>exact λp J' σ' e h=>⟨_,_,_,if_pos (hg _ _ _ h),fin J' σ' (e.trans (Mz p)▸h)⟩
  |cons c r ih=>
   intro p J' σ' e h;obtain⟨MK,hb,fl,NZ,LY,h1,h2⟩:=step p c r J' σ' e h
   induction fl with
   |next=>
    refine fh (ih (p++[c]) NZ LY (by rw[e,Mh];rfl) h2) λfl Uu NJ h3 k=>?_
    refine⟨fl,Uu,NJ,?_,k⟩;refine(if_pos (hg _ _ _ h)).trans (bs hb ?_);exact bs h1 h3
   |brk=>
    refine⟨.next,NZ,LY,?_,h2⟩
    refine(if_pos (hg _ _ _ h)).trans (bs hb ?_);exact bs h1 rfl
   |ret v=>
    refine⟨.ret v,NZ,LY,?_,h2⟩;refine(if_pos (hg _ _ _ h)).trans (bs hb ?_);exact bs h1 rfl
 refine fh (key xs [] ρ σ rfl h0) λfl MK Lu h1 k=>?_;exact bn (bs h (bs hi h1)) k
theorem fu {α:Type}{f:α->V}{j:Nat}(xs:List α)(I:List α->Loc->St->Prop)(h:Ev n it ρ σ x)(hi:bV σ x=some (xs.map f,none))(h0:I [] ρ σ)
  (step:∀p c r J' σ',xs=p++c::r->I p J' σ'->XS n a (J'.set j (f c)) σ' (lK (I (p++[c])) n ss K)) (fin:∀J' σ',I xs J' σ'->XS n ss J' σ' K):XS n (.loop (.loc j) it a::ss) ρ σ K:=wz xs I h hi (λ_ _ _ _=>rfl) h0 (λp c r J' σ' e h=>⟨_,rfl,step p c r J' σ' e h⟩) fin
theorem aaT {t k:IE}{N:Nat}(I:Nat->Loc->St->Prop)(hk:Ev n k ρ σ (.int N))(h0:I N ρ σ)(step:∀j ρ σ,I j ρ σ->XT n t ρ σ λb σ=>Bool.rec (XS n ss ρ σ K) (∃i,j=i+1/\XS n a ρ σ (lK (I i) n ss K)) b):XS n (.abD k t a::ss) ρ σ K:=by
 have key:∀(j:Nat) (ρ:Loc) (σ:St),I j ρ σ->∃fl MK Lu,oN (λρ σ=>(cm prog (aI prog n) t ρ σ).bind fun (x,σ)=>(cQ σ x).bind λc=>some (c,σ)) (λρ σ=>iE prog (aI prog n) a ρ σ) (j+1) ρ σ=some (fl,MK,Lu)/\sK n ss K fl MK Lu:=by
  intro j
  induction j with
  |zero=>
   intro ρ σ h;refine ik (step 0 ρ σ h) λv s b h1 h2 h3=>?_
   induction b with
   |false=>exact⟨.next,ρ,s,bs (s:=(false,s)) (bs h1 (bs h2 rfl)) rfl,h3⟩
   |true=>obtain⟨i,e,-⟩:=h3;contradiction
  |succ j ih=>
   intro ρ σ h;refine ik (step (j+1) ρ σ h) λv s b h1 h2 h3=>?_
   induction b with
   |false=>exact⟨.next,ρ,s,bs (s:=(false,s)) (bs h1 (bs h2 rfl)) rfl,h3⟩
   |true=>
    obtain⟨i,e,fl,NZ,LY,h4,h5⟩:=h3;rcases e with _|_
    induction fl with
    |next=>
     refine fh (ih NZ LY h5) λfl Uu NJ h6 k=>?_
     exact⟨fl,Uu,NJ,bs (s:=(true,s)) (bs h1 (bs h2 rfl)) (bs (s:=(Fl.next,NZ,LY)) h4 h6),k⟩
    |brk=>exact⟨.next,NZ,LY,bs (s:=(true,s)) (bs h1 (bs h2 rfl)) (bs (s:=(Fl.brk,NZ,LY)) h4 rfl),h5⟩
    |ret v=>exact⟨.ret v,NZ,LY,bs (s:=(true,s)) (bs h1 (bs h2 rfl)) (bs (s:=(Fl.ret v,NZ,LY)) h4 rfl),h5⟩
 refine fh (key N ρ σ h0) λfl MK Lu h1 k=>?_;exact bn (bs hk h1) k
noncomputable def _root_.Mine.Internal.Loc.opt (ρ:Loc)(j:Nat)(o:Option V):Loc:=λi=>if i=j then o else ρ i
set_option tactic.hygienic true in
theorem A0 {j:Nat}:ρ=ρ.opt j (ρ j):=funext λi=>by
 unfold Loc.opt;split
 ·rename_i h;(refine ad h ?_;rfl)
 ·rfl
theorem DY {j:Nat}{o:Option V}{v:V}:(ρ.opt j o).set j v=ρ.set j v:=wx λ_ hi=>if_neg hi
noncomputable def K7 (ρ:Loc)(J:St->Prop)(n:Nat)(ss:List IS)(K:Fl->Loc->St->Prop):Fl->Loc->St->Prop
 |.next,J',σ=>J'=ρ/\J σ
 |.brk,ρ,σ=>XS n ss ρ σ K
 |.ret v,ρ,σ=>K (.ret v) ρ σ
theorem wA {α:Type}{f:α->V}{j:Nat}(xs:List α)(I:List α->St->Prop)(h:Ev n it ρ σ x)(hi:bV σ x=some (xs.map f,none))(h0:I [] σ)
  (step:∀p c r σ',xs=p++c::r->I p σ'->XS n a (ρ.set j (f c)) σ' (K7 (ρ.set j (f c)) (I (p++[c])) n ss K)) (fin:∀o σ',I xs σ'->XS n ss (ρ.opt j o) σ' K):XS n (.loop (.loc j) it a::ss) ρ σ K:=by
 refine fu xs (λp J' σ'=>(∃o,J'=ρ.opt j o)/\I p σ') h hi ⟨⟨_,A0⟩,h0⟩ ?_ ?_
 ·rintro p c r J' σ' e ⟨⟨o,rfl⟩,h⟩;refine ad DY ?_;refine fh (step p c r σ' e h) λfl MK Lu h1 k=>?_;refine⟨fl,MK,Lu,h1,?_⟩
  induction fl with
  |next=>exact⟨⟨_,k.1⟩,k.2⟩
  |brk=>exact k
  |ret v=>exact k
 ·rintro J' σ' ⟨⟨o,rfl⟩,h⟩;exact fin o σ' h
end
end
end
noncomputable section
structure aN (X:Nat->Prop)(σ σ':St):Prop where
 le:σ.n<=σ'.n
 keep:∀r,r<σ.n->¬X r->σ'.g r=σ.g r
theorem aN.refl {X:Nat->Prop}{σ:St}:aN X σ σ:=⟨Lv _,λ_ _ _=>rfl⟩
theorem aN.trans {X:Nat->Prop}{σ σ' Ls:St}(a:aN X σ σ')(b:aN X σ' Ls):aN X σ Ls:=⟨Lk a.le b.le,λr h x=>(b.keep r (L1 h a.le) x).trans (a.keep r h x)⟩
theorem aN.mono {X Y:Nat->Prop}{σ σ':St}(a:aN X σ σ')(h:∀r,X r->Y r):aN Y σ σ':=⟨a.le,λr hr n=>a.keep r hr λq=>n (h r q)⟩
theorem aN.set {X:Nat->Prop}{σ:St}{r:Nat}{o:AO}(h:X r):aN X σ (σ.set r o):=⟨Lv _,λq _ n=>if_neg fun (e:q=r)=>n (by(refine ad e ?_);exact h)⟩
theorem aN.new {X:Nat->Prop}{σ:St}{o:AO}:aN X σ (σ.new o):=⟨Mf _,λq h _=>if_neg (MC h)⟩
theorem aN.abt {X:Nat->Prop}{σ σ':St}{r:Nat}{o:AO}(s:aN X σ σ')(h:σ.n<=r):aN X σ (σ'.set r o):=⟨s.le,λq hq n=>(if_neg (MC (L1 hq h))).trans (s.keep q hq n)⟩
theorem aN.fresh {X:Nat->Prop}{σ σ' LY:St}{o:AO}(a:aN X σ σ')(b:aN (λq=>q=σ'.n) (σ'.new o) LY):aN X σ LY:=⟨Lk a.le (Lk (Mf _) b.le),λr hr hx=>have h:=L1 hr a.le;(b.keep r (PD h) (MC h)).trans ((if_neg (MC h)).trans (a.keep r hr hx))⟩
section
variable {σ:St}{r q:Nat}{o:AO}{l:List V}{i:Int}{v:V}
theorem d8:(σ.set r o).g r=o:=if_pos rfl
theorem uS (h:q≠r):(σ.set r o).g q=σ.g q:=if_neg h
theorem iw:(σ.new o).g σ.n=o:=if_pos rfl
theorem sn (hg:σ.g r=.list l)(h:(if 0<=i then l[i.toNat]? else none)=some v):cb σ (.ref r) (.int i)=some v:=io (f:=ze (.int i)) hg h
theorem JJ (hg:σ.g r=.list l)(h:0<=i/\i.toNat<l.length):eA (.ref r) (.int i) v σ=some (σ.set r (.list (l.set i.toNat v))):=AM (f:=CQ (.int i) v) hg (if_pos h)
theorem hJ (hg:σ.g r=.list l):kY (.ref r) σ=some (.lst l,σ.set r .dead):=congrArg (λo=>(Gf o).map λx=>(x,σ.set r .dead)) hg
theorem HO {n:Nat}:gj l (n:Int)=l[n]?:=if_pos (Nq n)
end
structure su (σ:St)(d:Nat):Prop where
 lt:d<σ.n
 ex:∃(a:Nat) (ns:List Int),σ.g d=.list [.int a,.lst (ns.map .int)]
structure DS (d:Nat)(σ σ':St):Prop where
 at_:su σ' d
 same:aN (λq=>q=d) σ σ'
theorem DS.trans {d:Nat}{σ σ' Ls:St}(a:DS d σ σ')(b:DS d σ' Ls):DS d σ Ls:=⟨b.at_,a.same.trans b.same⟩
theorem su.refl {d:Nat}{σ:St}(D:su σ d):DS d σ σ:=⟨D,aN.refl⟩
theorem su.new {σ:St}{d:Nat}{o:AO}(h:su σ d):DS d σ (σ.new o):=⟨⟨PD h.lt,gf h.ex λa ns h1=>⟨a,ns,(if_neg (MC h.lt)).trans h1⟩⟩,aN.new⟩
theorem DS.abt {σ σ':St}{d r:Nat}{o:AO}(s:DS d σ σ')(h:σ.n<=r)(hd:d<σ.n):DS d σ (σ'.set r o):=⟨⟨s.at_.lt,gf s.at_.ex λa ns h1=>⟨a,ns,(if_neg (MC (L1 hd h))).trans h1⟩⟩,s.same.abt h⟩
section
variable {n d m:Nat}{σ:St}{Q:V->St->Prop}
theorem aay {a:Nat}{ns:List Int}{x:Int}(hm:0<m)(lt:d<σ.n)(H:∀(x:Nat) σ',x<m->DS d σ σ'->Q (.int x) σ'):Q (.int (x % (m:Int))) (σ.set d (.list [.int ((a:Int)+1),.lst (ns.map .int)])):=by
 have h0:=Int.emod_nonneg x (Int.natCast_ne_zero.mpr (O0 hm))
 have:=H (x % (m:Int)).toNat (σ.set d (.list [.int ((a:Int)+1),.lst (ns.map .int)])) ((Uj h0).mpr (Int.emod_lt_of_pos x (WN.mpr hm))) ⟨⟨lt,a+1,ns,d8⟩,aN.set rfl⟩
 rwa [YK h0]at this
theorem dY (hm:0<m)(D:su σ d)(H:∀(x:Nat) σ',x<m->DS d σ σ'->Q (.int x) σ'):XC (n+1) 69 [.ref d,.int m] σ Q:=by
 obtain⟨lt,a,ns,h2⟩:=D;refine ay rfl rfl (cV (ai rfl rfl (sn h2 rfl)) (Ξ rfl rfl rfl (JJ h2 ⟨WA 0,Nat.zero_lt_succ 1⟩) ?_));have hlen:Ev n (.bi .len [.sub (.loc 0) (.const (.int 1))]) ((m7 [.ref d,.int m]).set 2 (.int a)) (σ.set d (.list [.int ((a:Int)+1),.lst (ns.map .int)])) (.int (ns.map V.int).length):=cU (ae (ai rfl rfl (sn d8 rfl)) av) rfl
 have fin:∀x:Int,XS n [.ret (.bin .mod (.loc 3) (.loc 1))] (((m7 [.ref d,.int m]).set 2 (.int a)).set 3 (.int x)) (σ.set d (.list [.int ((a:Int)+1),.lst (ns.map .int)])) (FK Q):=λx=>
  ret (bX rfl rfl (if_pos (decide_eq_true (WN.mpr hm)))) (aay hm lt H)
 by_cases h:(a:Int)<(ns.map V.int).length
 ·exact cV (lY (ip rfl hlen) h (ai (ai rfl rfl (sn d8 rfl)) rfl (HO.trans ((MU (Ot.mp h)).trans (congrArg some (List.getElem_map _)))))) (fin _)
 ·exact cV (iK (ip rfl hlen) h rfl) (fin _)
end
theorem DS.keep {d r:Nat}{σ σ':St}(s:DS d σ σ')(h:r<σ.n)(ne:r≠d):σ'.g r=σ.g r:=s.same.keep r h ne
end
noncomputable section
structure Kd (α:Type) where
 at_:List Nat
 subs:List α
structure Rw (α:Type) where
 h:List (Kd α)
 o:List (Kd α)
 r:List (Kd α)
 t:List (Kd α)
 ro:Bool
noncomputable abbrev R0:=Rw Empty
noncomputable abbrev R1:=Rw R0
section
variable {α:Type}(e:α->V)
noncomputable def yB (l:List Nat):List V:=l.map fun (a:Nat)=>V.int (a:Int)
noncomputable def be (k:Kd α):V:= .tup [.lst (yB k.at_),.lst (k.subs.map e)]
noncomputable def jV (b:Bool):V:= .int (if b then 1 else 0)
noncomputable def eg (r:Rw α):V:= .tup [.lst (r.h.map (be e)),.lst (r.o.map (be e)),.lst (r.r.map (be e)),.lst (r.t.map (be e)),jV r.ro]
end
noncomputable def Ki:Empty->V:=λx=>x.elim
noncomputable def A4:R0->V:=eg Ki
noncomputable def m9:R1->V:=eg A4
structure eW {α:Type}(ok:α->Prop)(na:Nat)(k:Kd α):Prop where
 ne:k.at_≠[]
 small:∀a∈k.at_,a<=10
 na:k.at_.length<=na
 sub:∀s∈k.subs,ok s
theorem eW.mono {α:Type}{ok:α->Prop}{na RZ:Nat}{k:Kd α}(h:eW ok na k)(h1:na<=RZ):eW ok RZ k:=⟨h.ne,h.small,Lk h.na h1,h.sub⟩
section
variable {α:Type}{e:α->V}{ok:α->Prop}{n d deep:Nat}{σ:St}{Q:V->St->Prop}
def uT (e:α->V)(ok:α->Prop)(n:Nat):Prop:=∀(σ:St) (d:Nat) (Q:V->St->Prop),su σ d->(∀x σ',ok x->DS d σ σ'->Q (e x) σ')->XC n 71 [.ref d,.int 0] σ Q
theorem KJ {l:List Nat}{s:List α}{x:Nat}(hx:x<10)(hl:∀a∈l,a<11)(h2:l.length<=1)(hs:∀y∈s,ok y):eW ok 2 ⟨x::l,s⟩:=⟨Ue _ _,Qb.mpr ⟨NN hx,λa h=>Rl (hl a h)⟩,Ou h2,hs⟩
theorem cv {β:Type}{p:β->Prop}{a:β}(h:p a):∀x∈[a],p x:=λ_ m=>LV.mp m▸h
theorem cw {β:Type}{p:β->Prop}:∀x∈([]:List β),p x:=λ_ m=>nomatch m
theorem l8 (hd:deep=0\/(deep=1/\uT e ok (n+1)))(D:su σ d)(H:∀(x:Kd α) σ',eW ok 2 x->x.subs.length<=deep->DS d σ σ'->Q (be e x) σ'):XC (n+2) 70 [.ref d,.int deep] σ Q:=by
 refine ay rfl rfl (bY (dE (dC (az rfl (dY (m:=10) (by decide) D λx1 LG h1 s1=>?_)))))
 have hn:LG.n≠d:=O0 s1.at_.lt;have s2:=s1.at_.new (o:= .list [.int x1]);have l2:LG.n<(LG.new (.list [.int x1])).n:=Oe _
 refine AZ rfl (dY (m:=4) (by decide) s2.at_ λx2 LY h2 s3=>?_)
 have g3:LY.g LG.n=.list [.int x1]:=(s3.keep l2 hn).trans iw;have l3:=L1 l2 s3.same.le;have S3:=(s1.trans s2).trans s3;refine HM (aA rfl rfl) (λ_=>?_) λ_=>?_
 ·refine expr (AT rfl g3 (az rfl (dY (m:=11) (by decide) s3.at_ λx4 NJ h4 s4=>?_)))
  have g4:NJ.g LG.n=.list [.int x1]:=(s4.keep l3 hn).trans g3;refine⟨_,g4,LL rfl,rfl,nil (freeze rfl (hJ d8) (ret rfl ?_))⟩;exact H ⟨[x1,x4],[]⟩ _ (KJ h1 (cv h4) (Lv 1) cw) (LP _) (((S3.trans s4).abt s1.same.le D.lt).abt s1.same.le D.lt)
 ·refine a9 (cF (aA rfl rfl) (bJ (jU rfl rfl))) (λh=>?_) λ_=>?_
  ·refine(hd.resolve_left λq=>absurd h.2 (q▸Wz 0)).elim λe4 Rc=>?_;subst e4;refine freeze rfl (hJ g3) (dF (km (bM (dD rfl (dC (n4 (dC (az rfl (Rc _ d _ (S3.abt s1.same.le D.lt).at_ λx5 Nu h5 s5=>?_)))))))));exact H ⟨[x1],[x5]⟩ Nu (KJ h1 cw (LP _) (cv h5)) (Lv 1) ((S3.abt s1.same.le D.lt).trans s5)
  ·refine nil (freeze rfl (hJ g3) (ret rfl ?_));exact H ⟨[x1],[]⟩ _ (KJ h1 cw (LP _) cw) (LP _) (S3.abt s1.same.le D.lt)
theorem KK (c:Bool):cond c (V.int 1) (V.int 0)=jV c:=by rcases c with _|_<;>rfl
theorem JK {t:IE}{ρ:Loc}{n:Nat}(h:XT n t ρ σ λb σ=>Q (jV b) σ):XE n (.ite t (.const (.int 1)) (.const (.int 0))) ρ σ Q:=by
 obtain⟨v,s,b,h1,h2,k⟩:=h;rw[<- KK]at k;rcases b with _|_
 ·exact⟨_,s,bs h1 (bs h2 rfl),k⟩
 ·exact⟨_,s,bs h1 (bs h2 rfl),k⟩
theorem HP {m:Nat}:bV σ (.rng 0 m)=some ((Mo m).map fun (k:Nat)=>V.int (0+k),none):=rfl
theorem KL {m:Nat}(h:m<=100000):d0 (m:Int)=true:=by
 unfold d0;rw[MW];exact⟨decide_eq_true (Nq m),decide_eq_true (M1.mpr h)⟩
theorem iy {m:Nat}(h:m<=100000):builtin .range σ [.int m]=some (.rng 0 m):=if_pos (KL h)
structure PK (ok:α->Prop)(deep m:Nat)(l:List (Kd α)):Prop where
 len:l.length<=m
 all:∀x∈l,eW ok 2 x/\x.subs.length<=deep
theorem PK.nil {m:Nat}:PK ok deep m ([]:List (Kd α)):=⟨LP _,cw⟩
theorem PK.one {x:Kd α}(h:eW ok 2 x)(h2:x.subs.length<=deep):PK ok deep 1 [x]:=⟨Lv 1,cv ⟨h,h2⟩⟩
theorem PK.snoc {m:Nat}{l:List (Kd α)}{x:Kd α}(p:PK ok deep m l)(h:eW ok 2 x)(h2:x.subs.length<=deep):PK ok deep (m+1) (l++[x]):=⟨by(refine ad LH ?_);exact Ou p.len,λy hy=>(M0.mp hy).elim (p.all y) λq=>LV.mp q▸⟨h,h2⟩⟩
theorem wB {ρ:Loc}{j m:Nat}(hd:deep=0\/(deep=1/\uT e ok (n+1)))(hm:m<=2)(h0:∀v σ,si (n+2) [.loc 0,.loc 1] (ρ.set j v) σ [.ref d,.int deep])(D:su σ d)
  (H:∀ks σ',PK ok deep m ks->DS d σ σ'->Q (.lst (ks.map (be e))) σ'):XM (n+2) (.call 70 [.loc 0,.loc 1]) j [] ρ Q (.rng 0 m) σ:=by
 refine AX (g:=be e) (Mo m) (λr ks σ'=>ks.length+r.length=m/\PK ok deep ks.length ks/\DS d σ σ') HP (by(refine ad O' ?_);exact Mp hm (LL rfl)) ⟨by(refine ad O' ?_);exact Nf m,PK.nil,D.refl⟩ ?_ ?_
 ·rintro x r ks σ' ⟨hl,p,S⟩
  exact az (h0 _ _) (l8 hd S.at_ λy Lu hy hy2 s2=>⟨y,rfl,by rw[LH,Ov,PX [y].length];exact hl,by(refine ad LH ?_);exact p.snoc hy hy2,S.trans s2⟩)
 ·rintro ks σ' ⟨hl,p,S⟩;exact H ks σ' ((show ks.length=m from hl)▸p) S
noncomputable def dI (l:List (Kd α)):Nat:=(l.map λk=>k.subs.length).sum
noncomputable def Rw.all (r:Rw α):List (Kd α):=r.h++r.o++r.r++r.t
structure fg (ok:α->Prop)(nk na nl:Nat)(r:Rw α):Prop where
 rl:r.r.length<=1
 tl:r.t≠[]->r.r≠[]/\r.o=[]
 nk:r.all.length<=nk
 ks:∀k∈r.all,eW ok na k
 nl:dI r.all<=nl
theorem bZ (a b:List (Kd α)):dI (a++b)=dI a+dI b:=by unfold dI;(refine ad Mj ?_;refine ad Wy ?_;rfl)
theorem wC {c:Nat}:∀{l:List (Kd α)},(∀k∈l,k.subs.length<=c)->dI l<=c*l.length
 |[],_=>LP _
 |k::l,h=>Lk (Nl (h k LI) (wC λk hk=>h k (L8 _ hk))) (LU (PX _ _))
theorem A5 {h o r t:List (Kd α)}{ro:Bool}(ph:PK ok deep 2 h)(po:PK ok deep 2 o)(pr:PK ok deep 1 r)(pt:PK ok deep 1 t)(ht:t≠[]->r≠[]/\o=[]):fg ok 6 2 (deep*6) ⟨h,o,r,t,ro⟩:=by
 have abb:∀k∈h++o++r++t,eW ok 2 k/\k.subs.length<=deep:=λk hk=>
  (M0.mp hk).elim (λhk=>(M0.mp hk).elim (λhk=>(M0.mp hk).elim (ph.all k) (po.all k)) (pr.all k)) (pt.all k)
 have hlen:(h++o++r++t).length<=6:=by
  (refine ad LH ?_;refine ad LH ?_;refine ad LH ?_)
  exact Nl (Nl (Nl ph.len po.len) pr.len) pt.len
 exact⟨pr.len,ht,hlen,λk hk=>(abb k hk).1,Lk (wC λk hk=>(abb k hk).2) (RD _ hlen)⟩
theorem JL:∀x:Nat,x<4->∃m:Nat,m<=2/\(x=3->m=0)/\∀σ,cb σ (.lst [.int 0,.int 1,.int 2,.int 0]) (.int x)=some (.int m)
 |0,_=>⟨0,by decide,λ_=>rfl,λ_=>rfl⟩
 |1,_=>⟨1,by decide,by decide,λ_=>rfl⟩
 |2,_=>⟨2,by decide,by decide,λ_=>rfl⟩
 |3,_=>⟨0,by decide,λ_=>rfl,λ_=>rfl⟩
theorem A6 (hd:deep=0\/(deep=1/\uT e ok (n+1)))(D:su σ d)(H:∀(x:Rw α) σ',fg ok 6 2 (deep*6) x->DS d σ σ'->Q (eg e x) σ'):XC (n+3) 71 [.ref d,.int deep] σ Q:=by
 have n2:∀{m:Nat},m<=2->m<=100000:=λh=>Lk h (LL rfl)
 refine ay rfl rfl (bY (JK (iL (az rfl (dY (m:=3) (by decide) D λx1 LG h1 s1=>dD rfl ⟨_,rfl,?_⟩)))))
 generalize decide ((x1:Int)=2)=ro
 refine bY (dX (AU (dC (az rfl (dY (m:=3) (by decide) s1.at_ λx2 Lu h2 s2=>⟨_,iy (n2 (Rl h2)),wB hd (Rl h2) (λ_ _=>rfl) s2.at_ λhs LY p3 s3=>?_⟩)))))
 refine AZ rfl (dY (m:=4) (by decide) s3.at_ λx5 Nu h5 s5=>?_)
 refine a6 (JL x5 h5) λm hm MY Qt=>?_;refine bY (dX (dD (cU (ae (ai rfl rfl (Qt _)) av) (iy (n2 hm))) (wB hd hm (λ_ _=>rfl) s5.at_ λos Nz p6 s6=>?_)));have S6:=(((s1.trans s2).trans s3).trans s5).trans s6;refine bY (sk (λrs:List (Kd α)=>V.lst (rs.map (be e))) (λrs σ'=>PK ok deep 1 rs/\(1<x5->rs≠[])/\DS d σ σ') (λK' k=>?_) λrs Ow h7=>?_)
 ·exact n5 (jU rfl rfl) (λh=>n4 (dC (az rfl (l8 hd s6.at_ λx Ow hx VS s7=>k [x] Ow ⟨PK.one hx VS,λ_=>Ue _ _,S6.trans s7⟩)))) λh=>dD rfl (k [] Nz ⟨PK.nil,λq=>absurd (Ot.mpr q) h,S6⟩)
 refine vA h7 λp7 r7 S7=>?_;refine bY (sk (λrs:List (Kd α)=>V.lst (rs.map (be e))) (λrs σ'=>PK ok deep 1 rs/\(rs≠[]->x5=3)/\DS d σ σ') (λK' k=>?_) λts Pf h9=>?_)
 ·refine AR (gF (aA rfl rfl) (λh=>g0 (iL (az rfl (dY (m:=2) (by decide) S7.at_ λx8 O2 h8 s8=>dD rfl ⟨_,rfl,?_⟩)))) λh=>dD rfl (k [] Ow ⟨PK.nil,λq=>absurd rfl q,S7⟩))
  cases decide ((x8:Int)=1)
  ·exact dD rfl (k [] O2 ⟨PK.nil,λq=>absurd rfl q,S7.trans s8⟩)
  ·exact n4 (dC (az rfl (l8 hd s8.at_ λx Pf hx VS s9=>k [x] Pf ⟨PK.one hx VS,λ_=>L9.mp h,(S7.trans s8).trans s9⟩)))
 refine vA h9 λp9 r9 S9=>?_;refine ret rfl (H ⟨hs,os,rs,ts,ro⟩ Pf (A5 ⟨Lk p3.len (Rl h2),p3.all⟩ ⟨Lk p6.len hm,p6.all⟩ p7 p9 λq=>?_) S9);have q3:=r9 q
 exact⟨r7 (by(refine ad q3 ?_);decide),Pc (Ud.mp (MY q3▸p6.len))⟩
end
end
noncomputable section
noncomputable def F2 {β γ:Type}(R:β->γ->Prop):List β->List γ->Prop
 |[],[]=>True
 |a::l,b::k=>R a b/\F2 R l k
 |_,_=>False
theorem F2.snoc {β γ:Type}{R:β->γ->Prop}{x:β}{y:γ}(r:R x y):∀{l:List β} {k:List γ},F2 R l k->F2 R (l++[x]) (k++[y])
 |[],[],_=>⟨r,trivial⟩
 |_::_,_::_,h=>⟨h.1,F2.snoc r h.2⟩
 |[],_::_,h=>h.elim
 |_::_,[],h=>h.elim
theorem F2.len {β γ:Type}{R:β->γ->Prop}:∀{l:List β} {k:List γ},F2 R l k->l.length=k.length
 |[],[],_=>rfl
 |_::_,_::_,h=>congrArg Nat.succ (F2.len h.2)
 |[],_::_,h=>h.elim
 |_::_,[],h=>h.elim
theorem F2.cons {β γ:Type}{R:β->γ->Prop}{a:β}{l:List β}{k:List γ}(h:F2 R (a::l) k):∃b k',k=b::k'/\R a b/\F2 R l k':=by
 induction k using List.cs with
 |nil=>exact h.elim
 |cons b k=>exact⟨b,k,rfl,h⟩
theorem F2.nil {β γ:Type}{R:β->γ->Prop}{k:List γ}(h:F2 R ([]:List β) k):k=[]:=by
 induction k using List.cs with
 |nil=>rfl
 |cons b k=>exact h.elim
section
variable {α:Type}{e:α->V}{ok:α->Prop}{n d nk na nl:Nat}{σ:St}{Q:V->St->Prop}
theorem fv {β γ:Type}(f:β->γ)(l:List β)(x:β):l.map f++[f x]=(l++[x]).map f:=(Mj (l₂:=[x])).symm
theorem Fv {a b:List V}(h:a.length+b.length<=8388608):dP .add (.lst a) (.lst b)=some (.lst (a++b)):=if_pos h
theorem dT {β:Type}{f:β->V}{a b:List β}(h:a.length+b.length<=8388608):dP .add (.lst (a.map f)) (.lst (b.map f))=some (.lst ((a++b).map f)):=by
 (refine ad Mj ?_);exact Fv (by rw[LN,LN];exact h)
theorem gG (r:Rw α):r.all.length=r.h.length+r.o.length+r.r.length+r.t.length:=by unfold Rw.all;(refine ad LH ?_;refine ad LH ?_;refine ad LH ?_;rfl)
theorem Fw {r:Rw α}(h:r.all.length<=1000):aI prog (n+1) 72 [eg e r] σ=some (.lst (r.all.map (be e)),σ):=by
 have h0:=gG r▸h;have h1:r.h.length+r.o.length+r.r.length<=1000:=Lk (Me _ _) h0;have up:∀{m:Nat},m<=1000->m<=8388608:=λh=>Lk h (LL rfl);refine XC.eq (ay rfl rfl (ret (bX (bX (bX rfl rfl (dT (up (Lk (Me _ _) h1)))) rfl (dT ?_)) rfl (dT ?_)) ⟨rfl,rfl⟩))
 ·(refine ad LH ?_);exact up h1
 ·(refine ad LH ?_;refine ad LH ?_);exact up h0
structure yC (na:Nat)(ok:α->Prop)(ks Mw:List (Kd α)):Prop where
 len:Mw.length=ks.length
 ok:∀k∈Mw,eW ok na k
 sub:dI Mw=dI ks
theorem yC.snoc {ks Mw:List (Kd α)}{k x:Kd α}(w:yC na ok ks Mw)(h:eW ok na x)(hs:x.subs=k.subs):yC na ok (ks++[k]) (Mw++[x]) where
 len:=by(refine ad LH ?_;refine ad LH ?_;refine ad w.len ?_);rfl
 ok:=Mr.mpr ⟨w.ok,cv h⟩
 sub:=by rw[bZ,bZ,w.sub];exact congrArg (dI ks+·) (congrArg (λl=>l.length+0) hs)
noncomputable def JM:List IS:=[.expr (.π (.loc 8) 0 [.ite (.ω [.loc 2,.cmp .eq (.loc 6) (.loc 4)]) (.tup [.bin .add (.sub (.loc 9) (.const (.int 0))) (.sub (.loc 3) (.const (.int 0))),.sub (.loc 9) (.const (.int 1))]) (.loc 9)]),.aug 6 .add (.const (.int 1))]
theorem DZ {ks:List (Kd α)}{kd:Kd α}{b:Bool}{ρ:Loc}{ss:List IS}{K:Fl->Loc->St->Prop}{l:Nat}{a0 RK:Int}(hk:∀k∈ks,eW ok na k)(OB:eW ok 2 kd)(hlen:ks.length<=100)(MX:na<=100000)
  (h2:ρ 2=some (.bool b)) (h3:ρ 3=some (be e kd)) (h4:ρ 4=some (.int RK)) (h6:ρ 6=some (.int a0)) (h7:ρ 7=some (.lst (ks.map (be e)))) (h8:ρ 8=some (.ref l)) (hg:σ.g l=.list [])
  (H:∀Mw J' σ' a,yC (na+2) ok ks Mw->(∀j,j≠6->j≠9->J' j=ρ j)->J' 6=some (.int a)->σ'.g l=.list (Mw.map (be e))->aN (λq=>q=l) σ σ'->XS n ss J' σ' K):XS n (.loop (.loc 9) (.loc 7) JM::ss) ρ σ K:=by
 refine fu ks (λp J' σ'=>∃Mw a,yC (na+2) ok p Mw/\(∀j,j≠6->j≠9->J' j=ρ j)/\J' 6=some (.int a)/\σ'.g l=.list (Mw.map (be e))/\aN (λq=>q=l) σ σ') (aj h7) rfl ⟨[],a0,⟨rfl,cw,rfl⟩,λ_ _ _=>rfl,h6,hg,aN.refl⟩ ?_
  λJ' σ' z1=>CM z1 λMw a w r q6 g s=>H Mw J' σ' a w r q6 g s
 rintro p k r J' σ' e1 ⟨Mw,a,w,rr,q6,g,s⟩;have kk:=hk k (e1▸MB p LI)
 have q2:=(rr 2 (by decide) (by decide)).trans h2
 have q3:=(rr 3 (by decide) (by decide)).trans h3
 have q4:=(rr 4 (by decide) (by decide)).trans h4
 have q8:=(rr 8 (by decide) (by decide)).trans h8
 have hl:(Mw.map (be e)).length<aq:=by
  rw[LN,w.len];refine Mp (Lk ?_ hlen) (LL rfl)
  (refine ad e1 ?_;refine ad LH ?_);exact Me _ _
 have wid:eW ok (na+2) ⟨k.at_++kd.at_,k.subs⟩:=⟨λq=>kk.ne (Y8.mp q).1,Mr.mpr ⟨kk.small,OB.small⟩,by(refine ad LH ?_);exact Nl kk.na OB.na,kk.sub⟩
 have Ω:k.at_.length+kd.at_.length<=8388608:=Lk (Nl (Lk kk.na MX) OB.na) (LL rfl)
 have fin:∀x:Kd α,eW ok (na+2) x->x.subs=k.subs->XS n [.aug 6 .add (.const (.int 1))] (J'.set 9 (be e k)) (σ'.set l (.list (Mw.map (be e)++[be e x]))) (lK (λJ' σ'=>∃Mw a,yC (na+2) ok (p++[k]) Mw/\(∀j,j≠6->j≠9->J' j=ρ j)/\J' 6=some (.int a)/\σ'.g l=.list (Mw.map (be e))/\aN (λq=>q=l) σ σ') n ss K):=λx hx hs=>
  aug q6 rfl rfl (nil ⟨Mw++[x],a+1,w.snoc hx hs,λj h h'=>((if_neg h).trans (if_neg h')).trans (rr j h h'),rfl,d8.trans (congrArg AO.list (fv _ _ _)),s.trans (aN.set rfl)⟩)
 rcases PC (b=true\/a=RK)with h|h
 ·exact expr (l5 (v:=be e ⟨k.at_++kd.at_,k.subs⟩) (aj q8) (lY (cK (Ev.tp (aj q2)) (bL (aA (aj q6) (aj q4)))) h (eD (ae (bX rfl (ai (aj q3) rfl rfl) (dT Ω)) rfl))) g hl ⟨rfl,fin _ wid rfl⟩)
 ·exact expr (l5 (v:=be e k) (aj q8) (iK (cK (Ev.tp (aj q2)) (bL (aA (aj q6) (aj q4)))) h rfl) g hl ⟨rfl,fin _ (kk.mono (Me _ _)) rfl⟩)
theorem df (a b c d:List (Kd α)):dI (a++b++c++d)=dI a+dI b+dI c+dI d:=by rw[bZ,bZ,bZ]
theorem yC.aby {ks Mw:List (Kd α)}(w:yC na ok ks Mw):Mw=[]↔ks=[]:=by rw[<- Uc,w.len,Uc]
theorem nc {a b c d:List (Kd α)}{p:Kd α->Prop}:(∀k∈a++b++c++d,p k)↔(((∀k∈a,p k)/\∀k∈b,p k)/\∀k∈c,p k)/\∀k∈d,p k:=by rw[Mr,Mr,Mr]
theorem fg.wid {h o rs t h' o' r' t':List (Kd α)}{ro:Bool}(hr:fg ok nk na nl ⟨h,o,rs,t,ro⟩)(wh:yC (na+2) ok h h')(wo:yC (na+2) ok o o')(wr:yC (na+2) ok rs r')(wt:yC (na+2) ok t t'):fg ok nk (na+2) nl ⟨h',o',r',t',ro⟩ where
 rl:=Lk (LU wr.len) hr.rl
 tl:=λht=>have b:=hr.tl λq=>ht (wt.aby.mpr q);⟨λq=>b.1 (wr.aby.mp q),wo.aby.mpr b.2⟩
 nk:=by have:=hr.nk;rw[gG]at this⊢;dsimp only at this⊢;(refine ad wh.len ?_;refine ad wo.len ?_;refine ad wr.len ?_;refine ad wt.len ?_);exact this
 ks:=nc.mpr ⟨⟨⟨wh.ok,wo.ok⟩,wr.ok⟩,wt.ok⟩
 nl:=by have:=hr.nl;unfold Rw.all at this⊢;rw[df]at this⊢;dsimp only at this⊢;(refine ad wh.sub ?_;refine ad wo.sub ?_;refine ad wr.sub ?_;refine ad wt.sub ?_);exact this
theorem HQ {a b c d:List (Kd α)}{ro:Bool}(hr:fg ok nk na nl ⟨a,b,c,d,ro⟩):∀g∈[a,b,c,d],(∀k∈g,eW ok na k)/\g.length<=nk:=by
 have hk:=nc.mp hr.ks;have hl:=hr.nk;rw[gG]at hl;have l3:=Lk (Me _ _) hl;have l2:=Lk (Me _ _) l3;exact Qb.mpr ⟨⟨hk.1.1.1,Lk (Me _ _) l2⟩,Qb.mpr ⟨⟨hk.1.1.2,Lk (MF _ _) l2⟩,Qb.mpr ⟨⟨hk.1.2,Lk (MF _ _) l3⟩,cv ⟨hk.2,Lk (MF _ _) hl⟩⟩⟩⟩
noncomputable def D2 (e:α->V)(g:List (Kd α)):V:= .lst (g.map (be e))
theorem D3 {b:Bool}{r:Rw α}(hr:fg ok nk na nl r)(MN:nk<=100)(MX:na<=100000)(D:su σ d)(H:∀r' σ',fg ok nk (na+2) nl r'->DS d σ σ'->Q (eg e r') σ'):XC (n+3) 73 [.ref d,eg e r,.bool b] σ Q:=by
 obtain⟨h,o,rs,t,ro⟩:=r;have hks:=HQ hr
 refine ay rfl rfl (AZ rfl (l8 (e:=e) (ok:=ok) (deep:=0) (n:=n) (.inl rfl) D λkd LG OB _ s1=>AZ rfl (dY (m:=5) (by decide) s1.at_ λx2 Lu h2 s2=>bY (dE (iu (cV rfl ?_))))))
 have hd:=s2.at_.lt
 refine fu (f:=D2 e) [h,o,rs,t] (λp J' σ'=>∃G,F2 (yC (na+2) ok) p G/\σ'.g Lu.n=.list (G.map (D2 e))/\aN (λq=>q=Lu.n) (Lu.new (.list [])) σ'/\(∃a,J' 6=some (.int a))/\J' 1=some (eg e ⟨h,o,rs,t,ro⟩)/\J' 2=some (.bool b)/\J' 3=some (be e kd)/\J' 4=some (.int x2)/\J' 5=some (.ref Lu.n))
  (wv rfl rfl rfl) rfl ⟨[],trivial,iw,aN.refl,⟨0,rfl⟩,rfl,rfl,rfl,rfl,rfl⟩ ?_ ?_
 ·rintro p g r J' σ' e1 ⟨G,w,g1,s',⟨a,q6⟩,q1,q2,q3,q4,q5⟩;have hg:=hks g (e1▸MB p LI);have MT:σ'.n≠Lu.n:=O0 (L1 (Oe _) s'.le);refine bY (dE (iu (DZ hg.1 OB (Lk hg.2 MN) MX q2 q3 q4 q6 rfl rfl iw λMw NZ LY a3 w3 r3 ZV g3 s3=>?_)));have Tg:=λj (h6:j≠6) (h9:j≠9) (h8:j≠8) (h7:j≠7)=>(r3 j h6 h9).trans ((if_neg h8).trans (if_neg h7));have G3:LY.g Lu.n=.list (G.map (D2 e)):=(s3.keep _ (OD (L1 (Oe _) s'.le) (Oe _)) (Ne.symm MT)).trans ((if_neg (Ne.symm MT)).trans g1)
  refine freeze (r3 8 (by decide) (by decide)) (hJ g3) (expr (l5 (v:=D2 e Mw) (aj ((r3 5 (by decide) (by decide)).trans q5)) rfl ((uS (Ne.symm MT)).trans G3) ?_ ⟨rfl,nil ⟨G++[Mw],F2.snoc w3 w,d8.trans (congrArg AO.list (fv _ _ _)),((s'.fresh s3).abt s'.le).trans (aN.set rfl),⟨a3,ZV⟩,?_,?_,?_,?_,?_⟩⟩))
  ·rw[LN,<- w.len]
   exact Mp (by(refine ad (show 4=(p++g::r).length from congrArg Nr e1) ?_;refine ad LH ?_);exact Me _ _) (LL (n:=5) rfl)
  ·exact Tg 1 (by decide) (by decide) (by decide) (by decide) |>.trans q1
  ·exact Tg 2 (by decide) (by decide) (by decide) (by decide) |>.trans q2
  ·exact Tg 3 (by decide) (by decide) (by decide) (by decide) |>.trans q3
  ·exact Tg 4 (by decide) (by decide) (by decide) (by decide) |>.trans q4
  ·exact Tg 5 (by decide) (by decide) (by decide) (by decide) |>.trans q5
 ·rintro J' σ' ⟨G,w,g1,s',-,q1,q2,q3,q4,q5⟩;obtain⟨h',G,rfl,wh,w⟩:=w.cons;obtain⟨o',G,rfl,wo,w⟩:=w.cons;obtain⟨r',G,rfl,wr,w⟩:=w.cons;obtain⟨t',G,rfl,wt,w⟩:=w.cons;refine ad w.nil ?_;have Rg:=MC hd;have gi:=λi v (h:_=some v)=>ai (n:=n+2) (aj q5) (rfl:Ev (n+2) (.const (.int i)) J' σ' (.int i)) (sn g1 h);exact ret (eD (ae (gi 0 _ rfl) (ae (gi 1 _ rfl) (ae (gi 2 _ rfl) (ae (gi 3 _ rfl) (ae (ai (aj q1) rfl rfl) av)))))) (H ⟨h',o',r',t',ro⟩ σ' (hr.wid wh wo wr wt) ((s1.trans s2).trans ⟨⟨L1 (PD hd) s'.le,gf s2.at_.ex λa ns h1=>⟨a,ns,((s'.keep d (PD hd) Rg).trans (if_neg Rg)).trans h1⟩⟩,aN.refl.fresh s'⟩))
end
end
noncomputable section
theorem n6 {n m:Nat}:bound n (m:Int)=min m n:=by
 unfold bound;rw[if_neg (Od.mpr (Nq m))];refine Lr (Nat.le_total m n) (λh=>?_) λh=>?_
 ·rw[WO (M1.mpr h),QK h,Wx (Nq _)];rfl
 ·rw[Int.min_eq_right (M1.mpr h),Y7 h,Wx (Nq _)];rfl
theorem sv:∀n:Nat,bound n (-1)=n-1
 |0=>rfl
 |k+1=>by
  have e:(-1:Int)+((k+1:Nat):Int)=(k:Int):=(Int.add_comm _ _).trans (Int.add_neg_cancel_right k 1);unfold bound
  rw[if_pos (by decide),e,WO (M1.mpr (Mf k)),Wx (Nq _)]
  rfl
theorem D4 (n:Nat):bound n 1=min 1 n:=n6 (m:=1)
theorem D5 {l:List V}:eR (.lst l) none (some (.int (-1)))=some (.lst l.dropLast):=by
 show some (V.lst ((l.drop 0).take (bound l.length (-1)-0)))=_;rw[sv,WM,WL];rfl
theorem D6 {l:List V}:eR (.lst l) (some (.int (-1))) none=some (.lst (l.drop (l.length-1))):=by
 show some (V.lst ((l.drop (bound l.length (-1))).take (l.length-bound l.length (-1))))=_;rw[sv,<- Ro,QH]
theorem JN {l:List V}:eR (.lst l) (some (.int 1)) none=some (.lst (l.drop 1)):=by
 show some (V.lst ((l.drop (bound l.length 1)).take (l.length-bound l.length 1)))=_;rw[<- Ro,QH,D4];rcases l with _|⟨a,l⟩
 ·rfl
 ·show some (V.lst (List.drop (min 1 (l.length+1)) (a::l)))=_;rw[QK (MF 1 _)]
section
variable {α:Type}{e:α->V}{ok:α->Prop}{n d nk na nl:Nat}{σ:St}{Q:V->St->Prop}
theorem gH {k:Kd α}:dI [k]=k.subs.length:=Nat.add_zero _
theorem yD (h:List (Kd α)):h.dropLast++h.drop (h.length-1)=h:=by(refine ad WL ?_);exact List.take_append_drop _ _
def Fx (ok:α->Prop)(nk na nl:Nat)(r':Rw α):Prop:=fg ok (nk+1) (1+nk*na+na+2) nl r'
theorem fg.of (ok:α->Prop){r r':Rw α}(hr:fg ok nk na nl r)(rl:r'.r.length<=1)(tl:r'.t≠[]->r'.r≠[]/\r'.o=[])(hn:r'.all.length<=r.all.length+1)(hk:∀k∈r'.all,k∈r.all\/eW ok 2 k)(hs:dI r'.all<=dI r.all):Fx ok nk na nl r':=⟨rl,tl,Lk hn (Ou hr.nk),λk h=>(hk k h).elim (λh=>(hr.ks k h).mono (Lk (MF _ _) (Me _ 2))) λh=>h.mono (MF _ _),Lk hs hr.nl⟩
section
variable {h o rs t:List (Kd α)}{ro Oy:Bool}(hr:fg ok nk na nl ⟨h,o,rs,t,ro⟩)
include hr
theorem HR (ht:t=[]):Fx ok nk na nl ⟨h.dropLast,h.drop (h.length-1)++o,rs,t,ro⟩:=by
 subst ht
 have e:(⟨h.dropLast,h.drop (h.length-1)++o,rs,[],ro⟩:Rw α).all=(⟨h,o,rs,[],ro⟩:Rw α).all:=by
  unfold Rw.all;dsimp only;rw[<- Mh,yD]
 exact hr.of ok hr.rl (λq=>absurd rfl q) (e▸Mf _) (λk hk=> .inl (e▸hk)) (e▸Lv _)
theorem JO {k:Kd α}(hk:eW ok 2 k)(hk0:k.subs.length<=0)(ht:t=[]):Fx ok nk na nl ⟨h,o++[k],rs,t,ro⟩:=by
 subst ht
 refine hr.of ok hr.rl (λq=>absurd rfl q) (by rw[gG,gG];dsimp only;(refine ad LH ?_;refine ad Ub ?_);exact Ll [_,_,_,_] 1 (.a (.a (.a M2 (.a No On)) NE) Op) (.a (.a (.a (.a M2 No) NE) Op) On) [] rfl) (nc.mpr ?_) (by unfold Rw.all;dsimp only;rw[df,df,bZ,gH];exact Ll [_,_,_,_,_] 1 (.a (.a (.a M2 (.a No NE)) Op) Os) (.a (.a (.a M2 No) Op) Os) [(1,NE,Pv)] rfl hk0)
 have m:=nc.mp λk (h:k∈(⟨h,o,rs,[],ro⟩:Rw α).all)=>Or.inl (b:=eW ok 2 k) h;exact⟨⟨⟨m.1.1.1,Mr.mpr ⟨m.1.1.2,cv (.inr hk)⟩⟩,m.1.2⟩,m.2⟩
theorem A7 {Q3:List (Kd α)}(L6:Q3=[]\/∃k,Q3=[k]/\eW ok 2 k/\k.subs.length<=0):Fx ok nk na nl ⟨h++t,o,Q3,[],ro⟩:=by
 have hs:Q3.length<=1/\dI Q3=0/\∀k∈Q3,eW ok 2 k:=by
  rcases L6 with rfl|⟨k,rfl,h1,h2⟩
  ·exact⟨LP _,rfl,cw⟩
  ·exact⟨Lv _,gH.trans (Ud.mp h2),cv h1⟩
 have m:=nc.mp λk (h:k∈(⟨h,o,rs,t,ro⟩:Rw α).all)=>Or.inl (b:=eW ok 2 k) h
 refine hr.of ok hs.1 (λq=>absurd rfl q) (by rw[gG,gG];dsimp only;(refine ad LH ?_;refine ad Ug ?_);have:=hs.1;exact Ll [_,_,_,_,_] 1 (.a (.a (.a (.a M2 No) NE) Op) Pv) (.a (.a (.a (.a M2 NE) Os) No) On) [(1,Op,On)] rfl hs.1) (nc.mpr ⟨⟨⟨Mr.mpr ⟨m.1.1.1,m.2⟩,m.1.1.2⟩,λk h=> .inr (hs.2.2 k h)⟩,cw⟩) ?_
 unfold Rw.all;dsimp only;rw[df,df,bZ,hs.2.1,show dI ([]:List (Kd α))=0 from rfl];exact Ll [_,_,_,_] 1 (.a (.a (.a (.a M2 No) NE) Pv) Pv) (.a (.a (.a M2 NE) Op) No) [] rfl
theorem A8 {t':List (Kd α)}(TC:rs≠[])(ho:o=[])(ht':t'=t.drop 1\/∃k,t'=[k]/\eW ok 2 k/\k.subs.length<=0):Fx ok nk na nl ⟨h,o,rs,t',ro⟩:=by
 have hs:t'.length<=t.length+1/\dI t'<=dI t/\∀k∈t',k∈t\/eW ok 2 k:=by
  rcases ht' with rfl|⟨k,rfl,h1,h2⟩
  ·refine⟨by(refine ad Ro ?_);exact Ll [_,_] 1 M2 (.a No On) [(1,M2,No)] rfl (Qa _ _),?_,λk hk=> .inl (List.mem_of_mem_drop hk)⟩
   induction t using List.cs with
   |nil=>exact Lv _
   |cons a t=>exact MF _ _
  ·exact⟨MF _ _,Lk (LU (gH.trans (Ud.mp h2))) (LP _),cv (.inr h1)⟩
 have m:=nc.mp λk (h:k∈(⟨h,o,rs,t,ro⟩:Rw α).all)=>Or.inl (b:=eW ok 2 k) h
 refine hr.of ok hr.rl (λ_=>⟨TC,ho⟩) (by rw[gG,gG];exact M9 hs.1 _) (nc.mpr ⟨m.1,λk hk=>(hs.2.2 k hk).elim (m.2 k) .inr⟩) ?_
 unfold Rw.all;dsimp only;rw[df,df];exact M9 hs.2.1 _
theorem HT:Fx ok nk na nl ⟨h,o,rs,t,Oy⟩:=hr.of ok (r':=⟨h,o,rs,t,Oy⟩) hr.rl hr.tl (Mf _) (λk hk=> .inl hk) (Lv _)
end
theorem l9:∀{l:List (Kd α)},(∀k∈l,eW ok na k)->(l.flatMap (·.at_)).length<=na*l.length
 |[],_=>LP _
 |k::l,hk=>by
  (refine ad QG ?_;refine ad LH ?_)
  exact Lk (Nl (hk k LI).na (l9 λx hx=>hk x (L8 _ hx))) (LU (PX _ _))
theorem HU {r:Rw α}(hr:fg ok nk na nl r){a0:List Nat}(ha:a0.length<=1)(Wc:∀a∈a0,a<=10)(MT:r.all≠[]) :
  Fx ok nk na nl ⟨[],[],[⟨a0++r.all.flatMap (·.at_),r.all.flatMap (·.subs)⟩],[],r.ro⟩:=by
 have l1:=l9 hr.ks
 have l2:na*r.all.length<=nk*na:=by rw[Nat.mul_comm nk];exact RD na hr.nk
 refine⟨Lv _,λq=>absurd rfl q,MF _ _,cv ⟨λq=>?_,Mr.mpr ⟨Wc,λa h=>?_⟩,?_,λs hs=>?_⟩,?_⟩
 ·obtain⟨k,hk⟩:=List.exists_mem_of_ne_nil _ MT;exact(hr.ks k hk).ne (List.flatMap_eq_nil_iff.mp (Y8.mp q).2 k hk)
 ·refine ag (Ua.mp h) λk hk V4=>?_;exact(hr.ks k hk).small a V4
 ·refine ad LH ?_;exact Lk (Nl ha (Lk l1 l2)) (Lk (Me _ na) (Me _ 2))
 ·refine ag (Ua.mp hs) λk hk V4=>?_;exact(hr.ks k hk).sub s V4
 ·refine Lk (LU (gH.trans Ww)) hr.nl
noncomputable def JP:List IS:=[.assign (.loc 8) (.bin .add (.loc 8) (.sub (.loc 10) (.const (.int 0)))),.assign (.loc 9) (.bin .add (.loc 9) (.sub (.loc 10) (.const (.int 1))))]
theorem yE (l:List (Kd α)):(l.flatMap (·.subs)).length=dI l:=Ww
theorem HV {ρ:Loc}{ss:List IS}{K:Fl->Loc->St->Prop}{l:List (Kd α)}{a0:List Nat}{it:IE}{c:V}(hk:∀k∈l,eW ok na k)(hn:na*l.length<=1000000)(hl:dI l<=1000000)(ha:a0.length<=1)(hi:Ev n it ρ σ (.lst (l.map (be e))))(h8:ρ 8=some (.lst (yB a0)))(h9:ρ 9=some (.lst []))(h6:ρ 6=some c)
  (H:∀J',J' 6=some c->J' 8=some (.lst (yB (a0++l.flatMap (·.at_))))->J' 9=some (.lst ((l.flatMap (·.subs)).map e))->XS n ss J' σ K):XS n (.loop (.loc 10) it JP::ss) ρ σ K:=by
 refine fu l (λp J' σ'=>σ'=σ/\J' 6=some c/\J' 8=some (.lst (yB (a0++p.flatMap (·.at_))))/\J' 9=some (.lst ((p.flatMap (·.subs)).map e))) hi rfl ⟨rfl,h6,by rw[T9,Mz];exact h8,h9⟩ ?_ ?_
 ·rintro p k r J' σ' e1 ⟨rfl,q6,q8,q9⟩
  have e2:p++k::r=(p++[k])++r:=by rw[Mh];rfl
  have hp:∀x∈p++[k],eW ok na x:=λx hx=>hk x (e1▸e2▸MZ r hx)
  have TF:na*(p++[k]).length<=1000000:=Lk (RD na (by(refine ad e1 ?_;refine ad e2 ?_;refine ad (LH (as:=p++[k])) ?_);exact Me _ _)) hn
  have NL:dI (p++[k])<=1000000:=Lk (by rw[e1,e2,bZ (p++[k])];exact Me _ _) hl
  have f1:((p++[k]).flatMap (·.at_))=p.flatMap (·.at_)++k.at_:=by rw[TZ,QG,T9,Mz]
  have f2:((p++[k]).flatMap (·.subs))=p.flatMap (·.subs)++k.subs:=by rw[TZ,QG,T9,Mz]
  have g1:=Lk (l9 hp) TF;have g2:=yE (p++[k])▸NL;refine cV (bX (aj q8) (ai rfl rfl rfl) (dT ?_)) (cV (bX (aj q9) (ai rfl rfl rfl) (dT ?_)) (nil ⟨rfl,q6,?_,?_⟩))
  ·rw[LH,Ov,<- LH,<- f1];exact Lk (Nl ha g1) (LL rfl)
  ·(refine aR LH ?_;refine aR f2 ?_)
   exact Lk g2 (LL rfl)
  ·rw[f1,<- Mh];rfl
  ·(refine ad f2 ?_);rfl
 ·rintro J' σ' ⟨rfl,q6,q8,q9⟩;exact H J' q6 q8 q9
theorem D7 (b:Bool):dP .sub (.int 1) (jV b)=some (jV !b):=by rcases b with _|_<;>rfl
theorem uU {β:Type}{f:β->V}{l:List β}(h:((l.map f).length:Int)=0):l=[]:=by
 rw[LN]at h;exact Pc (L9.mp h)
theorem pS {β:Type}{f:β->V}{l:List β}(h:(0:Int)<(l.map f).length):l≠[]:=λq=>by
 rw[q]at h;exact absurd h (Wz 0)
theorem HW {r:Rw α}(hr:fg ok nk na nl r)(MN:nk<=100)(MX:na<=10000)(MS:nl<=1000)(D:su σ d)(H:∀r' σ',Fx ok nk na nl r'->DS d σ σ'->Q (eg e r') σ'):XC (n+4) 74 [.ref d,eg e r] σ Q:=by
 have L3:∀σ,aI prog (n+3) 72 [eg e r] σ=_:=λσ=>Fw (n:=n+2) (Lk (Lk hr.nk MN) (LL rfl));obtain⟨h,o,rs,t,ro⟩:=r;have hl:=gG (⟨h,o,rs,t,ro⟩:Rw α)▸hr.nk;have up:∀{m:Nat},m<=nk->m+1<=8388608:=λh=>Lk (Ou (Lk h MN)) (LL rfl)
 refine ay rfl rfl (DW rfl rfl (AZ rfl (dY (m:=8) (by decide) D λx LG hx s1=>?_)))
 have pk:∀{P:V->St->Prop},(∀(x:Kd α) σ',eW ok 2 x->x.subs.length<=0->DS d σ σ'->P (be e x) σ')->XC (n+3) 70 [.ref d,.int 0] LG P:=λk=>l8 (e:=e) (ok:=ok) (deep:=0) (n:=n+1) (.inl rfl) s1.at_ λy Lu hy Qs s2=>k y Lu hy Qs (s1.trans s2);refine a9 (cF (aA rfl rfl) (cF (jU rfl rfl) (bJ (aA rfl rfl)))) (λq=>?_) λ_=>?_
 ·refine ret (eD (ae (wv rfl rfl D5) (ae (bX (Fp rfl rfl D6) rfl (Fv ?_)) rfl))) ?_
  ·rw[Ro,LN,LN];exact P9 (up (Ll [_,_,_,_,_,_] 1 (.a M2 No) NE [(1,.a (.a (.a Op No) Os) Pi,NE),(1,M2,Op)] rfl hl (Qa _ _)))
  ·have:=H _ LG (HR hr (uU q.2.2)) s1
   rw[eg,List.map_dropLast,Mj,List.map_drop]at this;rw[LN];exact this
 refine a9 (cF (aA rfl rfl) (cF (aA rfl rfl) (bJ (ip rfl rfl)))) (λq=>?_) λ_=>?_
 ·refine dF (km (bM (dD rfl (bM (sj (dD rfl (n4 (dC (az rfl (pk λy Lu hy Qs s2=>⟨_,dT (b:=[y]) (up (Ll [_,_,_,_,_] 1 M2 No [(1,.a (.a (.a NE M2) Op) Os,No)] rfl hl)),m8 rfl ?_⟩))))))))));exact H _ Lu (JO hr hy Qs (uU q.2.1)) s2
 refine a9 (aA rfl rfl) (λq=>?_) λ_=>?_
 ·refine dF (km (bM (dD (bX rfl rfl (dT (P9 (up (Ll [_,_,_,_,_] 1 (.a M2 No) NE [(1,.a (.a (.a M2 Op) Os) No,NE)] rfl hl))))) (bM (dD rfl (bM (n5 (jU rfl rfl) (λ_=>dD rfl (m8 rfl ?_)) λ_=>n4 (dC (az rfl (pk λy Lu hy Qs s2=>m8 rfl ?_))))))))))
  ·exact H ⟨h++t,o,[],[],ro⟩ LG (A7 hr (.inl rfl)) s1
  ·exact H ⟨h++t,o,[y],[],ro⟩ Lu (A7 hr (.inr ⟨y,rfl,hy,Qs⟩)) s2
 refine a9 (cF (aA rfl rfl) (cF (jU rfl rfl) (bJ (aA rfl rfl)))) (λq=>?_) λ_=>?_
 ·have TC:=pS q.2.1;have ho:=uU q.2.2;refine dF (km (bM (dD rfl (bM (dD rfl (bM (dD rfl (bM (n5 (jU rfl rfl) (λ_=>dD (Fp rfl rfl JN) (m8 rfl ?_)) λ_=>n4 (dC (az rfl (pk λy Lu hy Qs s2=>m8 rfl ?_))))))))))))
  ·have:=H _ LG (A8 hr TC ho (.inl rfl)) s1
   rw[eg,List.map_drop]at this;exact this
  ·exact H ⟨h,o,rs,[y],ro⟩ Lu (A8 hr TC ho (.inr ⟨y,rfl,hy,Qs⟩)) s2
 refine a9 (cF (aA rfl rfl) (bJ (jU (cU (ae (aH rfl (L3 LG)) av) rfl) rfl))) (λq=>?_) λ_=>?_
 ·have MT:=pS q.2;have hn:na*(⟨h,o,rs,t,ro⟩:Rw α).all.length<=1000000:=Nat.mul_le_mul MX (Lk hr.nk MN);have υ:=Lk hr.nl (Lk MS (LL (rfl:RE 1000 1000000=true)));refine bY (sk (λa0:List Nat=>V.lst (yB a0)) (λa0 σ'=>σ'=LG/\a0.length<=1/\∀a∈a0,a<=10) (λK' k=>n5 (jU rfl rfl) (λ_=>dD rfl (k [0] LG ⟨rfl,Lv 1,cv (LP _)⟩)) λ_=>dD rfl (k [] LG ⟨rfl,LP _,cw⟩)) ?_);rintro a0 σ' ⟨rfl,ha,Wc⟩;exact cV rfl (HV hr.ks hn υ ha (aH rfl (L3 _)) rfl rfl rfl λJ' q6 q8 q9=>ret (eD (ae rfl (ae rfl (ae (AN (ae (eD (ae (aj q8) (ae (aj q9) av))) av)) (ae rfl (ae (aj q6) av)))))) (H _ _ (HU hr ha Wc MT) s1))
 refine a9 (cK (aA rfl rfl) (bL (aA rfl rfl))) (λq=>?_) λ_=>?_
 ·refine dG rfl (D3 (n:=n) hr MN (Lk MX (LL rfl)) s1.at_ λr' Lu L6 s2=>H r' Lu ?_ (s1.trans s2));exact⟨L6.rl,L6.tl,Ru L6.nk,λk hk=>(L6.ks k hk).mono (Qc (MF _ _) 2),L6.nl⟩
 exact ret (eD (ae rfl (ae rfl (ae rfl (ae rfl (ae (bX rfl rfl (D7 ro)) av)))))) (H ⟨h,o,rs,t,!ro⟩ LG (HT hr) s1)
end
end
noncomputable section
def jw (σ σ':St):Prop:=aN (λ_=>False) σ σ'
theorem jw.refl {σ:St}:jw σ σ:=aN.refl
theorem jw.trans {σ σ' Ls:St}(a:jw σ σ')(b:jw σ' Ls):jw σ Ls:=aN.trans a b
noncomputable def ma:List Nat:=[1,2,4,8,16,32,64,128,448,560,8191]
noncomputable def pt (a:Nat):Nat:=ma.getD a 0
noncomputable def bw (l:List Nat):Nat:=l.foldl (λh a=>h ||| pt a) 0
theorem aaL (l:List Nat)(a:Nat):bw (l++[a])=bw l ||| pt a:=P8
noncomputable def af (n:Nat):V:= .int (n:Int)
noncomputable def KM:V:= .tup (ma.map af)
theorem HX {a:Nat}(h:a<=10){σ:St}:cb σ KM (.int a)=some (af (pt a)):=by
 show gj (ma.map af) a=_
 have:=MU (l:=ma) (NI h)
 rw[HO,M8,this,pt,WD,this];rfl
theorem Fy {a b:Nat}:dP .bor (.int a) (.int b)=some (.int ((a ||| b:Nat):Int)):=if_pos (e:=none) (c:=(decide (0<=(a:Int))&&decide (0<=(b:Int)))=true) (by(refine ad (decide_eq_true (Nq a)) ?_;refine ad (decide_eq_true (Nq b)) ?_);rfl)
section
variable {α:Type}{e:α->V}{ok:α->Prop}{n nk na nl:Nat}{σ:St}{Q:V->St->Prop}{rel:α->α->Prop}
theorem pT {l:List Nat}(h:∀a∈l,a<=10):aI prog (n+1) 75 [.lst (yB l)] σ=some (.int (bw l),σ):=XC.eq (ay rfl rfl (cV rfl (fu l (λp J' σ'=>σ'=σ/\J' 1=some (.int (bw p))) rfl rfl ⟨rfl,rfl⟩ (λp a r J' σ' e z1=>z1.elim λNj q1=>
  aug q1 (ai rfl rfl (HX (h a (e▸MB p LI)))) Fy (nil ⟨Nj,by rw[aaL];rfl⟩)) λJ' σ' z3=>z3.elim λNj q1=>ret (aj q1) ⟨rfl,Nj⟩)))
def eF (e:α->V)(ok:α->Prop)(rel:α->α->Prop)(n:Nat):Prop:=∀x y σ (Q:V->St->Prop),ok x->ok y->(∀b σ',(b=true↔rel x y)->jw σ σ'->Q (.bool b) σ')->XC n 79 [e x,e y] σ Q
def pU (rel:α->α->Prop)(k1 k2:Kd α):Prop:=bw k2.at_ ||| bw k1.at_=bw k2.at_/\∀s∈k1.subs,8191<=bw k2.at_\/∃y∈k2.subs,rel s y
theorem A9 {ρ:Loc}{x:α}{l:List α}{lv:V}(hs:eF e ok rel n)(hx:ok x)(hl:∀y∈l,ok y)(hll:l.length<=1000)(h3:∀v σ,si n [.loc 3,.loc 4] (ρ.set 4 v) σ [e x,v])(hi:bV σ lv=some (l.map e,none))
  (H:∀(ys:List α) σ',(ys=[]↔¬∃y∈l,rel x y)->jw σ σ'->Q (.lst (ys.map e)) σ'):XM n (.loc 4) 4 [.call 79 [.loc 3,.loc 4]] ρ Q lv σ:=by
 refine wy (f:=e) (g:=e) l (λr ys σ'=>(∀y∈r,ok y)/\jw σ σ'/\((ys≠[]\/∃y∈r,rel x y)↔∃y∈l,rel x y)) hi (Mp hll (LL rfl)) ⟨hl,jw.refl,by simp⟩ ?_ ?_
 ·rintro y r ys σ' ⟨hr,s',hh⟩;have L6:=Qb.mp hr;refine l6 (az (h3 _ _) (hs x y σ' _ hx L6.1 λb Lu hb s2=>⟨b,rfl,?_⟩));rw[<- hh]
  induction b with
  |false=>exact⟨L6.2,s'.trans s2,by simp[<- hb]⟩
  |true=>exact dD rfl ⟨y,rfl,L6.2,s'.trans s2,by simp[<- hb]⟩
 ·rintro ys σ' ⟨-,s',hh⟩
  exact H ys σ' (by rw[<- hh];simp) s'
theorem Ba {k1 k2:Kd α}(hs:eF e ok rel (n+1))(h1:eW ok na k1)(h2:eW ok na k2)(hl:k2.subs.length<=1000)(H:∀b σ',(b=true↔pU rel k1 k2)->jw σ σ'->Q (.bool b) σ') :
  XC (n+2) 76 [be e k1,be e k2] σ Q:=by
 refine ay rfl rfl (cV (aH rfl (pT h2.small)) (a9 (lZ (bX rfl (aH rfl (pT h1.small)) Fy) rfl) (λq=>ret rfl (H false σ ⟨Bool.noConfusion,λw=>absurd (congrArg Mi w.1) q⟩ jw.refl)) λq=>?_));have hm:=L9.mp (Decidable.not_not.mp q);refine wA k1.subs (λp σ'=>jw σ σ'/\∀s∈p,8191<=bw k2.at_\/∃y∈k2.subs,rel s y) (ai rfl rfl rfl) rfl ⟨jw.refl,cw⟩ ?_ λo σ' h=>ret rfl (H true σ' ⟨λ_=>⟨hm,h.2⟩,λ_=>rfl⟩ h.1);rintro p s r σ' e1 ⟨s',hp⟩;have NS:s∈k1.subs:=e1▸MB p LI;have fin:∀{Lu},jw σ' Lu->(8191<=bw k2.at_\/∃y∈k2.subs,rel s y)->jw σ Lu/\∀x∈p++[s],8191<=bw k2.at_\/∃y∈k2.subs,rel x y:=λs2 h=>⟨s'.trans s2,Mr.mpr ⟨hp,cv h⟩⟩;refine jg (gF (ip rfl rfl) (λMy=>g0 (AV (AU (dC (dX (dD (ai rfl rfl rfl) (A9 hs (h1.sub s NS) h2.sub hl (λ_ _=>rfl) rfl λys Lu hy s2=>⟨_,rfl,_,_,rfl,rfl,λhz=>ret rfl (H false Lu ⟨Bool.noConfusion,λw=>?_⟩ (s'.trans s2)),λhz=>nil (nil ⟨rfl,fin s2 (.inr ?_)⟩)⟩))))))) λhge=>nil (nil ⟨rfl,fin jw.refl (.inl (M1.mp (Od.mp hge)))⟩))
 ·rw[LN]at hz;exact absurd ((w.2 s NS).resolve_left λq=>absurd My (Od.mpr (M1.mpr q))) (hy.mp (Pc (L9.mp hz)))
 ·rw[LN]at hz
  exact O9 λq=>hz (by(refine ad (hy.mpr q) ?_);rfl)
end
end
noncomputable section
section
variable {n j m i r:Nat}{ρ:Loc}{σ:St}{K:Fl->Loc->St->Prop}{Q:V->St->Prop}{ss a:List IS}{e it:IE}{x v:V}{l:List (V×V)}
theorem dZ:bV σ (.rng 0 m)=some ((Mo m).map af,none):=congrArg (λl=>some (l,none)) (Qh λk _=>congrArg V.int (Int.zero_add (k:Int)))
theorem sx {p r:List Nat}{c:Nat}(h:Mo m=p++c::r):c=p.length/\c<m:=by
 have hl:p.length<m:=by
  have:=congrArg Nr h
  rw[O',LH]at this;exact this▸WZ (Up _)
 have h1:(Mo m)[p.length]?=some c:=by rw[h,Rn (Lv _),Nat.sub_self];rfl
 replace h1:=(List.getElem?_range hl)▸h1;refine aT h1 ?_;exact⟨rfl,hl⟩
theorem gI {f:Nat->V}(m:Nat)(I:Nat->Loc->St->Prop)(h:Ev n it ρ σ x)(hx:bV σ x=some ((Mo m).map f,none))(h0:I 0 ρ σ)(step:∀i J' σ',i<m->I i J' σ'->XS n a (J'.set j (f i)) σ' (lK (I (i+1)) n ss K))(fin:∀J' σ',I m J' σ'->XS n ss J' σ' K):XS n (.loop (.loc j) it a::ss) ρ σ K:=by
 refine fu (Mo m) (λp=>I p.length) h hx h0 (λp c r J' σ' e hI=>?_) (by(refine ad O' ?_);exact fin)
 refine(sx e).elim λQT hc=>?_;subst QT;refine ad LH ?_;exact step _ J' σ' hc hI
theorem uW {f:Nat->V}(m:Nat)(I:Nat->St->Prop)(h:Ev n it ρ σ x)(hx:bV σ x=some ((Mo m).map f,none))(h0:I 0 σ)(step:∀i σ',i<m->I i σ'->XS n a (ρ.set j (f i)) σ' (K7 (ρ.set j (f i)) (I (i+1)) n ss K))(fin:∀o σ',I m σ'->XS n ss (ρ.opt j o) σ' K):XS n (.loop (.loc j) it a::ss) ρ σ K:=by
 refine wA (Mo m) (λp=>I p.length) h hx h0 (λp c r σ' e hI=>?_) (by(refine ad O' ?_);exact fin)
 refine(sx e).elim λXy hc=>?_;subst Xy;refine ad LH ?_;exact step _ σ' hc hI
theorem F2.range {β:Type}{R:Nat->β->Prop}:∀{l:List β} {k:Nat},(∀i y,l[i]?=some y->R (k+i) y)->F2 R (SO k l.length) l
 |[],_,_=>trivial
 |a::l,k,h=>⟨h 0 a rfl,F2.range λi y hi=>YZ k i▸h (i+1) y hi⟩
theorem pV {α β:Type}{f:α->V}{g:β->V}{xs:List α}{ys:List β}(hi:Ev n it ρ σ x)(hx:bV σ x=some (xs.map f,none))(hl:xs.length<aq)(h:F2 (λx y=>Ev n e (ρ.set j (f x)) σ (g y)) xs ys):Ev n (.comp e (.loc j) it []) ρ σ (.lst (ys.map g)):=by
 refine aL (dX (e:=e) (j:=j) (K:=λv s=>v=.lst (ys.map g)/\σ=s) (dD hi (AX (g:=g) xs (λr zs s=>σ=s/\∃t,F2 (λx y=>Ev n e (ρ.set j (f x)) σ (g y)) r t/\zs++t=ys) hx hl ⟨rfl,ys,h,rfl⟩ (λx r zs s ⟨hs,t,ht,q⟩=>by
  obtain⟨y,t,rfl,hy,ht⟩:=ht.cons
  exact hs▸dD hy ⟨y,rfl,rfl,t,ht,by rw[Mh];exact q⟩) λzs s ⟨hs,t,ht,q⟩=>by
  obtain rfl:=ht.nil;rw[Mz]at q
  exact⟨q▸rfl,hs⟩))) λv s h1 h2 h3=>?_
 rw[h2,<- h3]at h1;exact h1
theorem eG {k:V}(hg:σ.g r=.dict l)(h1:a8 k=true)(h2:bl l k=true)(h3:l.length<aq):eA (.ref r) k v σ=some (σ.set r (.dict (dj l k v))):=AM (f:=CQ k v) hg (if_pos (dB (dB h1 h2) (decide_eq_true h3)))
theorem wD (hg:σ.g r=.dict l):kY (.ref r) σ=some (.dct (l.map (·.1)) (l.map (·.2)),σ.set r .dead):=congrArg (λo=>(Gf o).map λx=>(x,σ.set r .dead)) hg
theorem sy {k:V}(h:cB l k=none):dj l k v=l++[(k,v)]:=by
 unfold dj;(refine ad h ?_);rfl
end
section
variable {α:Type}{e:α->V}{ok:α->Prop}{n nk na nl:Nat}{σ:St}{Q:V->St->Prop}
noncomputable def opt (k:Kd α):Kd α:=⟨k.at_++[0],k.subs⟩
noncomputable def cR (r:Rw α)(m:Nat):List (Kd α):=(Mu (m-r.o.length) r.r).flatten
noncomputable def jh (r:Rw α)(m:Nat):List (Kd α):=r.h++((r.o.take m).map opt++cR r m)++r.t
noncomputable def eQ (r:Rw α)(top:Nat):Nat:=if r.r=[]then min (top+1-r.h.length-r.t.length) (r.o.length+1)else top+1-r.h.length-r.t.length
noncomputable def iM (r:Rw α)(m:Nat):V:=af (r.h.length+m+r.t.length)
noncomputable def yF (e:α->V)(r:Rw α)(m:Nat):V:= .lst ((jh r m).map (be e))
noncomputable def fw (e:α->V)(r:Rw α)(c:Nat):V:= .dct ((Mo c).map (iM r)) ((Mo c).map (yF e r))
noncomputable def iz (e:α->V)(r:Rw α)(c:Nat):List (V×V):=(Mo c).map λm=>(iM r m,yF e r m)
theorem Fz {l:List V}{m:Nat}:eR (.lst l) none (some (.int m))=some (.lst (l.take m)):=by
 show some (V.lst ((l.drop 0).take (bound l.length m-0)))=_
 rw[n6,WM,Nat.sub_zero,List.take_eq_take_iff.mpr (show min (min m l.length) l.length=min m l.length by rw[Nat.min_assoc,Nat.min_self])]
theorem sz {r:Rw α}{m:Nat}(h:r.r.length=1\/m<=r.o.length):(cR r m).length=m-r.o.length:=by
 unfold cR
 (refine ad List.length_flatten ?_;refine ad SM ?_;refine ad Y6 ?_)
 refine Lr h (λh=>?_) λh=>?_
 ·rw[h,W0]
 ·rw[Rv h,SV]
theorem D8 {r:Rw α}{m:Nat}(h:r.r.length=1\/m<=r.o.length):(r.o.take m++cR r m).length=m:=by
 (refine ad LH ?_;refine ad (sz h) ?_;refine ad Qg ?_);lia
theorem wE {r:Rw α}{m:Nat}(h:r.r.length=1\/m<=r.o.length):((r.o.take m).map opt++cR r m).length=m:=by
 rw[LH,LN,<- LH,D8 h]
theorem D9 {r:Rw α}{m i:Nat}{y:Kd α}(h:((r.o.take m).map opt++cR r m)[i]?=some y):∃k,(r.o.take m++cR r m)[i]?=some k/\((i<r.o.length/\y=opt k)\/(¬i<r.o.length/\y=k)):=by
 by_cases hi:i<(r.o.take m).length
 ·rw[OY (by rw[LN];exact hi),M8]at h
  refine ag (Ry.mp h) λk hk e9=>?_;refine aR e9 ?_
  refine⟨k,by(refine ad (OY hi) ?_);exact hk,.inl ⟨?_,rfl⟩⟩
  exact L1 hi (SQ _ _)
 ·have Pq:=Qe.mp hi
  rw[Rn (by rw[LN];exact Pq),LN]at h
  refine⟨y,by(refine ad (Rn Pq) ?_);exact h,.inr ⟨λq=>?_,rfl⟩⟩
  have:m-r.o.length=0:=by rw[Qg]at Pq;lia
  unfold cR at h;replace h:=this▸h;exact au h
theorem yG {l:List (V×V)}{k:V}(h:∀p∈l,p.1≠k):cB l k=none:=by
 unfold cB
 (refine ad (Wv.mpr λp hp=>by rw[decide_eq_true_iff];exact h p hp) ?_);rfl
theorem Bb {r:Rw α}{c:Nat}:cB (iz e r c) (iM r c)=none:=by
 refine yG λp hp q=>?_;refine ag (MH.mp hp) λm hm Xv=>?_;subst Xv;have hm:=Oq.mp hm
 have:=L9.mp (V.int.inj q)
 exact absurd (Rk (Qd this)) (MC hm)
theorem yH {r:Rw α}{c x:Nat}:bl (iz e r c) (af x)=true:=by
 refine(if_pos rfl).trans (MV.mpr λp hp=>?_);refine ag (MH.mp hp) λm hm e15=>?_;refine aR e15 ?_
 rfl
theorem yI {r:Rw α}{c:Nat}:iz e r (c+1)=iz e r c++[(iM r c,yF e r c)]:=by unfold iz;(refine ad List.range_succ ?_;refine ad Mj ?_);rfl
theorem aaF {r:Rw α}{c:Nat}:V.dct ((iz e r c).map (·.1)) ((iz e r c).map (·.2))=fw e r c:=by unfold iz fw;(refine ad Ml ?_;refine ad Ml ?_);rfl
theorem pW {r:Rw α}{m:Nat}{k:Kd α}(h:k∈r.o.take m++cR r m):k∈r.all:=by
 refine Lr (M0.mp h) (λh=>?_) λh=>?_
 ·exact MZ _ (MZ _ (MB _ (Y5 h)))
 ·refine ag (Wu.mp h) λl h1 h2=>?_;rw[(TY.mp h1).2]at h2;exact MZ _ (MB _ h2)
theorem n7 {a b:Nat}:dP .add (af a) (af b)=some (af (a+b)):=rfl
noncomputable def Bc:IE:= .tup [.bin .add (.sub (.sub (.loc 9) (.loc 10)) (.const (.int 0))) (.ite (.cmp .lt (.loc 10) (.bi .len [.loc 3])) (.lst [.const (.int 0)]) (.lst [])),.sub (.sub (.loc 9) (.loc 10)) (.const (.int 1))]
noncomputable def HY:List IS:=[.assign (.loc 9) (.comp Bc (.loc 10) (.bi .range [.loc 8]) []),.Ξ (.loc 7) (.bin .add (.bin .add (.bi .len [.loc 2]) (.loc 8)) (.bi .len [.loc 5])) (.bin .add (.bin .add (.loc 2) (.loc 9)) (.loc 5))]
structure Eb (e:α->V)(r:Rw α)(σ:St)(i:Nat)(J':Loc)(σ':St):Prop where
 g:σ'.g σ.n=.dict (iz e r i)
 s:aN (λq=>q=σ.n) (σ.new (.dict [])) σ'
 b:r.r=[]->i<=r.o.length+1
 q2:J' 2=some (.lst (r.h.map (be e)))
 q3:J' 3=some (.lst (r.o.map (be e)))
 q4:J' 4=some (.lst (r.r.map (be e)))
 q5:J' 5=some (.lst (r.t.map (be e)))
 q7:J' 7=some (.ref σ.n)
theorem dq (l:List (Kd α)):(l.map (be e)).length=l.length:=LN ..
theorem Ec {MK:Loc}{r:Rw α}{m j:Nat}{y:Kd α}(hk:∀k∈r.all,k.at_.length<=100000)(q3:MK 3=some (.lst (r.o.map (be e))))(q9:MK 9=some (.lst ((r.o.take m++cR r m).map (be e))))(hj:((r.o.take m).map opt++cR r m)[j]?=some y):Ev n Bc (MK.set 10 (af j)) σ (be e y):=by
 refine ag (D9 hj) λk Ra hy=>?_;have OA:k.at_.length+1<=8388608:=Lk (Ou (hk k (pW (MI Ra)))) (LL rfl)
 have hs:Ev n (.sub (.loc 9) (.loc 10)) (MK.set 10 (af j)) σ (be e k):=ai (aj q9) rfl (HO.trans (by(refine ad M8 ?_;refine ad Ra ?_);rfl))
 have hc:Tp n (.cmp .lt (.loc 10) (.bi .len [.loc 3])) (MK.set 10 (af j)) σ ((j:Int)<(r.o.map (be e)).length):=ip rfl (cU (ae (aj q3) av) rfl);rw[dq]at hc;rcases hy with⟨V5,rfl⟩|⟨V5,rfl⟩
 ·exact eD (ae (bX (ai hs rfl rfl) (lY hc (Ot.mpr V5) rfl) (dT (b:=[0]) OA)) (ae (ai hs rfl rfl) av))
 ·have:=dT (f:=λa:Nat=>V.int a) (a:=y.at_) (b:=[]) (P9 OA)
  rw[Mz]at this;exact eD (ae (bX (ai hs rfl rfl) (iK hc (λq=>V5 (Ot.mp q)) rfl) this) (ae (ai hs rfl rfl) av))
theorem sA {MK:Loc}{σ':St}{r:Rw α}{i:Nat}{K:Fl->Loc->St->Prop}(hk:∀k∈r.all,k.at_.length<=100000)(hl:r.h.length+r.o.length+r.r.length+r.t.length<=100)(hi:i<=1001)(q8:MK 8=some (af i))(q9:MK 9=some (.lst ((r.o.take i++cR r i).map (be e))))(X6:r.r.length=1\/i<=r.o.length)(I:Eb e r σ i MK σ')
  (H:∀NZ LY,Eb e r σ (i+1) NZ LY->K .next NZ LY):XS n HY MK σ' K:=by
 have hm:=wE X6
 have z4:r.h.length+((r.o.take i).map opt++cR r i).length<=8388608:=by(refine ad hm ?_);exact Ll [_,_,_,_,_] 1 (.a M2 No) (.k 8388608) [(1,.a (.a (.a M2 NE) Op) Os,TI),(1,No,.k 1001)] rfl hl hi
 have z5:(r.h++((r.o.take i).map opt++cR r i)).length+r.t.length<=8388608:=by(refine ad LH ?_;refine ad hm ?_);exact Ll [_,_,_,_,_] 1 (.a (.a M2 No) NE) (.k 8388608) [(1,.a (.a (.a M2 Op) Os) NE,TI),(1,No,.k 1001)] rfl hl hi
 have LW:∀v,Ev n (.bin .add (.bin .add (.bi .len [.loc 2]) (.loc 8)) (.bi .len [.loc 5])) (MK.set 9 v) σ' (af ((r.h.map (be e)).length+i+(r.t.map (be e)).length)):=λv=>
  bX (bX (cU (ae (aj I.q2) av) rfl) (aj q8) n7) (cU (ae (aj I.q5) av) rfl) n7
 rw[dq,dq]at LW
 refine cV (pV (cU (ae (aj q8) av) (iy (Lk hi (LL rfl)))) dZ (by rw[O'];exact Mp hi (LL rfl)) (g:=be e) (ys:=(r.o.take i).map opt++cR r i) ?_) ?_
 ·refine ad List.range_eq_range' ?_
  have:=F2.range (k:=0) (l:=(r.o.take i).map opt++cR r i) (R:=λx y=>Ev n Bc (MK.set 10 (af x)) σ' (be e y)) λj y hj=>(Nf j).symm▸Ec hk I.q3 q9 hj
  rwa [hm]at this
 ·refine Ξ (bX (bX (aj I.q2) rfl (dT z4)) (aj I.q5) (dT z5)) (aj I.q7) (LW _) (eG I.g rfl yH ?_) (nil (H _ _ ⟨?_,I.s.trans (aN.set rfl),λSd=>?_,I.q2,I.q3,I.q4,I.q5,I.q7⟩))
  ·unfold iz;rw[LN,O'];exact Mp hi (LL rfl)
  ·(refine ad d8 ?_);exact congrArg AO.dict ((sy Bb).trans yI.symm)
  ·exact X6.elim (λq=>by replace q:=Sd▸q;contradiction) Ou
theorem n8 {top:Nat}{r:Rw α}(hr:fg ok nk na nl r)(MN:nk<=100)(MX:na<=100000)(ht:top<=1000)(hh:r.h.length+r.t.length<=top)(H:∀σ',jw σ σ'->Q (fw e r (eQ r top)) σ') :
  XC (n+1) 77 [eg e r,.int top] σ Q:=by
 have hl:=Lk (gG r▸hr.nk) MN;have VX:=hr.rl;have hk:=λk hk=>Lk (hr.ks k hk).na MX;refine ay rfl rfl (DW rfl rfl (bY (gE ?_)))
 have eT:(top:Int)-(r.h.map (be e)).length-(r.t.map (be e)).length+1=((top+1-r.h.length-r.t.length:Nat):Int):=by rw[dq,dq];lia
 have Yh:top+1-r.h.length-r.t.length<=1001:=(Ll [_,_,_] 1 M2 (.k 1001) [(1,No,.k 1000),(1,M2,NE),(1,NE,.a No On)] rfl ht (Qa _ _) (Qa _ _))
 have fin:∀{J':Loc} {σ':St} {c:Nat},Eb e r σ c J' σ'->c=eQ r top->XS n [.freeze 7,.ret (.loc 7)] J' σ' (FK Q):=fun {J' σ' c} I hc=>
  freeze I.q7 (wD I.g) (ret rfl (by(refine ad aaF ?_;refine ad hc ?_);exact H _ ((aN.fresh aN.refl I.s).abt (Lv _))))
 refine gI _ (Eb e r σ) (cU (ae rfl av) ((congrArg (λi=>builtin .range _ [.int i]) eT).trans (iy (Lk Yh (LL rfl))))) dZ ⟨iw,aN.refl,λ_=>LP _,rfl,rfl,rfl,rfl,rfl⟩ ?_ λJ' σ' I=>fin I ?_
 ·intro i J' σ' hi I;have Rf:=Lk (NN hi) Yh;refine HM (JF rfl (cU (ae (aj I.q3) av) rfl)) (λc1=>?_) λc1=>?_
  ·rw[dq]at c1;have c1:=M1.mp c1
   have:cR r i=[]:=by unfold cR;(refine ad (Rv c1) ?_);rfl
   refine cV (wv (aj I.q3) rfl Fz) (nil (sA hk hl Rf rfl ?_ (.inr c1) ⟨I.g,I.s,I.b,I.q2,I.q3,I.q4,I.q5,I.q7⟩ λ_ _ h=>h));rw[this,Mz,List.map_take];rfl
  ·rw[dq]at c1;have c1:=Rt λq=>c1 (M1.mpr q);refine HM (jU (cU (ae (aj I.q4) av) rfl) rfl) (λc2=>?_) λc2=>?_
   ·have h1:r.r.length=1:=Ms VX (P7.mpr (pS c2));refine cV (v:= .lst ((r.o.take i++cR r i).map (be e))) (bX (aj I.q3) (bX (aj I.q4) (bX rfl (cU (ae (aj I.q3) av) rfl) rfl) (if_pos ?_)) ?_) (nil (nil (sA hk hl Rf rfl rfl (.inl h1) ⟨I.g,I.s,I.b,I.q2,I.q3,I.q4,I.q5,I.q7⟩ λ_ _ h=>h)))
    ·rw[dq,dq,h1,MW,MW]
     exact⟨⟨decide_eq_true (by lia),decide_eq_true (by lia)⟩,rfl⟩
    ·have e5:((i:Int)-(r.o.map (be e)).length).toNat=i-r.o.length:=by rw[dq];lia
     have e6:(Mu (i-r.o.length) (r.r.map (be e))).flatten=(cR r i).map (be e):=by unfold cR;(refine ad List.map_flatten ?_;refine ad SM ?_;rfl)
     (refine ad e5 ?_;refine ad e6 ?_;refine ad (Wt (NN c1)) ?_)
     exact dT (by(refine ad (sz (.inl h1)) ?_);exact Ll [_,_,_] 1 (.a M2 No) (.k 8388608) [(1,NE,.k 1001),(1,.a No M2,NE)] rfl Rf (mL (Ll [_,_,_,_,_] 101 M2 No [(1,.a (.a (.a NE M2) Op) Os,TI),(100,.a M2 On,No)] rfl hl c1)))
   ·have Sy:r.r=[]:=O9 λq=>c2 (by rw[dq];exact Ot.mpr (P7.mpr q))
    refine brk (fin (c:=i) ⟨I.g,I.s,I.b,I.q2,I.q3,I.q4,I.q5,I.q7⟩ ?_)
    have:=Ms (I.b Sy) c1
    unfold eQ
    (refine ad (if_pos Sy) ?_;refine ad this ?_)
    exact(Y7 (this▸NN hi)).symm
 ·unfold eQ
  by_cases Sd:r.r=[]
  ·(refine ad (if_pos Sd) ?_;refine ad (QK (I.b Sd)) ?_;rfl)
  ·(refine ad (if_neg Sd) ?_;rfl)
end
end
noncomputable section
theorem mx {a b:Nat}{σ:St}:builtin .max σ [af a,af b]=some (af (max a b)):=by
 show some (V.int (if(b:Int) > a then(b:Int)else a))=_
 by_cases h:(b:Int) > a
 ·(refine ad (if_pos h) ?_;refine ad (Nat.max_eq_right (NN (Ot.mp h))) ?_);rfl
 ·(refine ad (if_neg h) ?_;refine ad (Nat.max_eq_left (M1.mp (Od.mp h))) ?_);rfl
theorem md:∀{l:List Nat} {x:Nat},x∈l->x<=l.sum
 |a::l,x,h=>(L7.mp h).elim (λh=>h▸Me _ _) λh=>Lk (md h) (MF _ _)
theorem uX {β:Type}{f g:β->V}(hf:∀x y,f x=f y->x=y){l:List β}{x:β}(h:x∈l):jA (l.map f) (l.map g) (f x)=some (g x):=by
 induction l with
 |nil=>exact nomatch h
 |cons a l ih=>
  exact if e:f a=f x then(if_pos e).trans (congrArg (λx=>some (g x)) (hf _ _ e))else(if_neg e).trans (ih ((L7.mp h).resolve_left λq=>e (q▸rfl)))
section
variable {α:Type}{e:α->V}{ok:α->Prop}{n nk na nl:Nat}{σ:St}{Q:V->St->Prop}{rel:α->α->Prop}
theorem fU {β:Type}{f:β->V}{l:List β}{e1:IE}{ρ:Loc}(h:Ev n e1 ρ σ (.lst (l.map f))):Ev n (.bi .len [e1]) ρ σ (af l.length):=cU (ae h av) (congrArg (λk=>some (af k)) (LN ..))
noncomputable def fy (a b:Rw α):Nat:=max (max 1 (a.h.length+a.o.length+1)) (b.h.length+b.o.length+1)+max a.t.length b.t.length
theorem wF (a b:Rw α):(a.h.length+a.o.length+1+a.t.length<=fy a b/\b.h.length+b.o.length+1+b.t.length<=fy a b):=⟨Nl (Lk (QF _ _) (SK _ _)) (SK _ _),Nl (QF _ _) (QF _ _)⟩
theorem jW {h o t T:Nat}(k:h+o+1+t<=T):h+t<=T:=Lk (Qc (Lk (Me _ _) (Mf _)) _) k
theorem pX {a b:Rw α}(ha:a.all.length<=100)(hb:b.all.length<=100):fy a b<=1000:=by
 rw[gG]at ha hb;unfold fy;lia
theorem n9 {r:Rw α}{c:Nat}:aS ((Mo c).map (iM r))=true:=MV.mpr λv hv=>by
  refine ag (MH.mp hv) λm _ e9=>?_;refine aR e9 ?_
  rfl
theorem Bd {r:Rw α}(x y:Nat)(h:iM r x=iM r y):x=y:=Rk (Qd (L9.mp (V.int.inj h)))
theorem ji {r:Rw α}{c m:Nat}(h:m<c):cb σ (fw e r c) (iM r m)=some (yF e r m):=(if_pos n9).trans (uX Bd (Oq.mpr h))
theorem Ed {r:Rw α}{c L:Nat}{e1 e2:IE}{ρ:Loc}(h1:Ev n e1 ρ σ (af L))(h2:Ev n e2 ρ σ (fw e r c)):Tp n (.cmp .abz e1 e2) ρ σ ¬∃m,m<c/\L=r.h.length+m+r.t.length:=by
 refine(cu (b:=!((Mo c).map (iM r)).contains (af L)) h1 h2 ?_).tp.iff ?_
 ·show(if(bk (af L)&&aS ((Mo c).map (iM r)))=true then some (((Mo c).map (iM r)).contains (af L))else none).map (!·)=_
  (refine ad n9 ?_);rfl
 ·rw[Rr,<- SJ,PB,MH];refine not_congr ⟨λq5=>ag q5 λm hm q=>⟨m,Oq.mp hm,(L9.mp (V.int.inj q)).symm⟩,λq7=>ag q7 λm hm q=>⟨m,Oq.mpr hm,q▸rfl⟩⟩
theorem Be {a b:Rw α}(ha:fg ok nk na nl a)(hb:fg ok nk na nl b)(MN:nk<=100)(MX:na<=100000)(H:∀σ',jw σ σ'->Q (.tup [fw e a (eQ a (fy a b)),fw e b (eQ b (fy a b))]) σ'):XC (n+2) 78 [eg e a,eg e b] σ Q:=by
 have tl:=pX (Lk ha.nk MN) (Lk hb.nk MN);have tg:=wF a b;refine ay rfl rfl (cV rfl (fu (f:=eg e) [a,b] (λp J' σ'=>σ'=σ/\J' 0=some (eg e a)/\J' 1=some (eg e b)/\J' 2=some (af (p.foldl (λm r=>max m (r.h.length+r.o.length+1)) 1))) rfl rfl ⟨rfl,rfl,rfl,rfl⟩ ?_ ?_))
 ·rintro p c r J' σ'-⟨Nj,q0,q1,q2⟩;refine cV (cU (ae (aj q2) (ae (bX (bX (fU (f:=be e) (l:=c.h) (ai rfl rfl rfl)) (fU (f:=be e) (l:=c.o) (ai rfl rfl rfl)) n7) rfl n7) av)) mx) (nil ⟨Nj,q0,q1,?_⟩)
  (refine ad P8 ?_);rfl
 ·rintro J' σ' ⟨rfl,q0,q1,q2⟩;refine aug q2 (cU (ae (fU (f:=be e) (l:=a.t) (ai (aj q0) rfl rfl)) (ae (fU (f:=be e) (l:=b.t) (ai (aj q1) rfl rfl)) av)) mx) n7 ?_;refine dF (km (bM (az (ae (aj q0) (ae rfl av)) (n8 (top:=fy a b) ha MN MX tl (jW tg.1) λLG s1=>dC (az (ae (aj q1) (ae rfl av)) (n8 (top:=fy a b) hb MN MX tl (jW tg.2) λLu s2=>H Lu (s1.trans s2)))))))
theorem kJ {r:Rw α}{top m:Nat}(hr:fg ok nk na nl r)(hm:m<eQ r top):r.r.length=1\/(r.r=[]/\m<=r.o.length):=by
 unfold eQ at hm
 by_cases h:r.r=[]
 ·rw[if_pos h]at hm;exact .inr ⟨h,Rl (L1 hm (WT _ _))⟩
 ·exact .inl (Ms hr.rl (P7.mpr h))
theorem kK {r:Rw α}{m:Nat}(h:r.r.length=1\/m<=r.o.length):(jh r m).length=r.h.length+m+r.t.length:=by
 unfold jh;(refine ad LH ?_;refine ad LH ?_;refine ad (wE h) ?_;rfl)
theorem sub_le {l:List (Kd α)}{k:Kd α}(h:k∈l):k.subs.length<=dI l:=md (MH.mpr ⟨k,h,rfl⟩)
theorem kL {r:Rw α}{m:Nat}(hr:fg ok nk na nl r):∀k∈jh r m,eW ok (na+1) k/\k.subs.length<=nl:=by
 have old:∀k∈r.all,eW ok (na+1) k/\k.subs.length<=nl:=λk hk=>⟨(hr.ks k hk).mono (Mf _),Lk (sub_le hk) hr.nl⟩;have o4:=nc.mp old;refine Mr.mpr ⟨Mr.mpr ⟨o4.1.1.1,Mr.mpr ⟨λk hk=>?_,λk hk=>old k (pW (MB _ hk))⟩⟩,o4.2⟩;refine ag (MH.mp hk) λx hx e8=>?_;refine aR e8 ?_;have hx:=pW (m:=m) (MZ _ hx);have h1:=old x hx
 exact⟨⟨Y4 h1.1.ne _,Mr.mpr ⟨h1.1.small,cv (LP _)⟩,by show(x.at_++[0]).length<=_;(refine ad LH ?_);exact Ou (hr.ks x hx).na,h1.1.sub⟩,h1.2⟩
def Ee (R:Kd α->Kd α->Prop)(a b:Rw α)(m:Nat):Prop:=∃m',m'<eQ b (fy a b)/\a.h.length+m+a.t.length=b.h.length+m'+b.t.length/\∀(p:Nat) x y,(jh a m)[p]?=some x->(jh b m')[p]?=some y->R x y
def Ef (R:Kd α->Kd α->Prop)(a b:Rw α):Prop:=∀m,m<eQ a (fy a b)->Ee R a b m
def sB (rel:α->α->Prop)(a b:Rw α):Prop:=(a.ro=true->b.ro=true)/\Ef (pU rel) a b
theorem FA {a b:Bool}:((if b=true then(1:Int)else 0)<if a=true then 1 else 0)↔¬(a=true->b=true):=by rcases a with _|_<;>rcases b with _|_<;>decide
theorem Bf {r:Rw α}{top:Nat}:eQ r top<=top+1:=by
 have h:top+1-r.h.length-r.t.length<=top+1:=Lk (Qa _ _) (Qa _ _);unfold eQ
 by_cases q:r.r=[]
 ·(refine ad (if_pos q) ?_);exact Lk (Um _ _) h
 ·(refine ad (if_neg q) ?_);exact h
theorem pY {r:Rw α}{m p:Nat}{x:Kd α}(h:(jh r m)[p]?=some x):gj ((jh r m).map (be e)) (p:Int)=some (be e x):=by(refine ad HO ?_;refine ad M8 ?_;refine ad h ?_);rfl
theorem Bg (hs:eF e ok rel (n+1))(MN:nk<=100)(MX:na<=100000)(MS:nl<=1000):eF (eg e) (fg ok nk na nl) (sB rel) (n+3):=by
 intro a b σ Q ha hb H;have tl:=pX (Lk ha.nk MN) (Lk hb.nk MN);have L3:=gG a▸Lk ha.nk MN;refine ay rfl rfl (a9 (jU (ai rfl rfl rfl) (ai rfl rfl rfl)) (λq=>ret rfl (H false σ ⟨Bool.noConfusion,λw=>absurd w.1 (FA.mp q)⟩ jw.refl)) λq=>?_);have Oz:=NV.mp λw=>q (FA.mpr w);refine Fu (az rfl (Be (n:=n) ha hb MN MX λLG s1=>⟨_,_,rfl,rfl,?_⟩))
 refine gI (f:=iM a) (eQ a (fy a b)) (λi J' σ'=>jw σ σ'/\J' 2=some (fw e a (eQ a (fy a b)))/\J' 3=some (fw e b (eQ b (fy a b)))/\∀m,m<i->Ee (pU rel) a b m)
  rfl rfl ⟨s1,rfl,rfl,λm hm=>absurd hm (NM _)⟩ ?_ λJ' σ' z3=>y9 z3 λs' _ _ h=>ret rfl (H true σ' ⟨λ_=>⟨Oz,h⟩,λ_=>rfl⟩ s')
 rintro i J' σ' hi ⟨s',q2,q3,abb⟩;refine a9 (Ed rfl (aj q3)) (λq=>ret rfl (H false σ' ⟨Bool.noConfusion,λw=>absurd (a6 (w.2 i hi) λm' h1 h2 _=>⟨m',h1,h2⟩) q⟩ s')) λq=>?_;refine ag (NV.mp q) λm' NC hL=>?_
 have Wg:a.h.length+i+a.t.length<=100000:=by have:=L1 hi Bf;exact Ll [_,_,_,_,_,_] 1 (.a (.a M2 No) NE) (.k 100000) [(1,Op,.k 1000),(1,.a (.a (.a M2 Os) Pi) NE,TI),(1,.a No On,.a Op On)] rfl tl L3 this
 have la:=kK ((kJ ha hi).imp_right P6);have lb:=kK ((kJ hb NC).imp_right P6);refine uW (f:=af) (a.h.length+i+a.t.length) (λj σ'=>jw σ σ'/\∀p,p<j->∀x y,(jh a i)[p]?=some x->(jh b m')[p]?=some y->pU rel x y) (cU (ae rfl av) (iy Wg)) dZ ⟨s',λp hp=>absurd hp (NM _)⟩ ?_ ?_
 ·rintro j Lu hj ⟨s2,MA⟩;have xa:=MU (la.symm▸hj);have xb:=MU (lb.symm▸hL▸hj);have ka:=kL ha _ (MI xa);have kb:=kL hb _ (MI xb);have Ri:cb Lu (fw e b (eQ b (fy a b))) (iM a i)=some (yF e b m'):=(congrArg (cb Lu _) (congrArg af hL)).trans (ji NC);refine jg (l7 (l6 (az (ae (ai (ai (aj q2) rfl (ji hi)) rfl (pY xa)) (ae (ai (ai (aj q3) rfl Ri) rfl (pY xb)) av)) (Ba (n:=n) hs ka.1 kb.1 (Lk kb.2 MS) λw LY hw s3=>⟨w,rfl,?_⟩))))
  induction w with
  |false=>
   refine ret rfl (H false LY ⟨Bool.noConfusion,λw=>?_⟩ (s2.trans s3));refine a6 (w.2 i hi) λm2 _ h2 h3=>?_;obtain rfl:m'=m2:=Rk (Qd (hL.symm.trans h2));exact hw.mpr (h3 j _ _ xa xb)
  |true=>
   refine nil (nil ⟨rfl,s2.trans s3,λp hp x y hx hy=>?_⟩);refine Lr (SI.mp hp) (λh=>?_) λo3=>?_
   ·exact MA p h x y hx hy
   ·cases o3
    refine aR (Option.some.inj (xa.symm.trans hx)) ?_;refine aR (Option.some.inj (xb.symm.trans hy)) ?_;exact hw.mp rfl
 ·rintro o Lu ⟨s2,MA⟩;refine nil ⟨s2,q2,q3,λm hm=>?_⟩;refine Lr (SI.mp hm) (λh=>?_) λo6=>?_
  ·exact abb m h
  ·refine ad o6 ?_;exact⟨m',NC,hL,λp x y hx=>MA p (la▸(Mt.mp hx).1) x y hx⟩
end
end
noncomputable section
section
variable {α:Type}{e:α->V}{ok:α->Prop}{n nk na nl:Nat}{σ:St}{Q:V->St->Prop}
noncomputable def JQ (r:Rw α):Nat->List (Kd α)
 |0=>r.h
 |1=>r.o
 |2=>r.r
 |_=>r.t
theorem Bh {r:Rw α}:∀{i:Nat},i<4->cb σ (eg e r) (af i)=some (.lst ((JQ r i).map (be e)))
 |0,_=>rfl
 |1,_=>rfl
 |2,_=>rfl
 |3,_=>rfl
def Eg (a b:Rw α):Prop:=b.ro=true\/((∀i,i<4->(JQ a i).length=(JQ b i).length)/\Ef (λx y=>bw x.at_=bw y.at_) a b)
theorem HZ {b:Bool}(h:(if b=true then(1:Int)else 0)=1):b=true:=by rcases b with _|_;exact absurd h (by decide);rfl
theorem JR {a b:Rw α}(ha:fg ok nk na nl a)(hb:fg ok nk na nl b)(MN:nk<=100)(MX:na<=100000)(Rc:Ef (λ_ _=>True) a b)(H:∀w σ',(w=true↔¬Eg a b)->jw σ σ'->Q (.bool w) σ'):XC (n+3) 80 [eg e a,eg e b] σ Q:=by
 have L3:=gG a▸Lk ha.nk MN;have tl:=pX (Lk ha.nk MN) (Lk hb.nk MN);refine ay rfl rfl (a9 (aA (ai rfl rfl rfl) rfl) (λq=>ret rfl (H false σ ⟨Bool.noConfusion,λw=>absurd (.inl (HZ q)) w⟩ jw.refl)) λq=>?_)
 have Oz:¬b.ro=true:=λw=>q (by(refine ad w ?_);rfl)
 refine uW (f:=af) 4 (λi σ'=>σ'=σ/\∀j,j<i->(JQ a j).length=(JQ b j).length) (cU (ae rfl av) (iy (m:=4) (by decide))) dZ ⟨rfl,λj hj=>absurd hj (NM _)⟩ ?_ ?_
 ·rintro i σ' hi ⟨rfl,hs⟩;refine a9 (lZ (fU (ai rfl rfl (Bh hi))) (fU (ai rfl rfl (Bh hi)))) (λq=>ret rfl (H true σ' ⟨λ_ w=>?_,λ_=>rfl⟩ jw.refl)) λq=>nil ⟨rfl,rfl,λj hj=>?_⟩
  ·exact q (congrArg Mi ((w.resolve_left Oz).1 i hi))
  ·refine Lr (SI.mp hj) (λh=>?_) λo1=>?_
   ·exact hs j h
   ·refine ad o1 ?_;exact L9.mp (NV.mp q)
 rintro o σ' ⟨rfl,hs⟩;refine Fu (az rfl (Be (n:=n) ha hb MN MX λLG s1=>⟨_,_,rfl,rfl,?_⟩))
 refine gI (f:=iM a) (eQ a (fy a b)) (λi J' Lu=>jw σ' Lu/\J' 3=some (fw e a (eQ a (fy a b)))/\J' 4=some (fw e b (eQ b (fy a b)))/\∀m,m<i->Ee (λx y=>bw x.at_=bw y.at_) a b m)
  rfl rfl ⟨s1,rfl,rfl,λm hm=>absurd hm (NM _)⟩ ?_ λJ' Lu z1=>y9 z1 λs' _ _ h=>ret rfl (H false Lu ⟨Bool.noConfusion,λw=>absurd (.inr ⟨hs,h⟩) w⟩ s')
 rintro i J' Lu hi ⟨s',q2,q3,abb⟩;refine a6 (Rc i hi) λm' NC hL _=>?_
 have Wg:a.h.length+i+a.t.length<=100000:=by have:=L1 hi Bf;exact Ll [_,_,_,_,_,_] 1 (.a (.a M2 No) NE) (.k 100000) [(1,.a (.a (.a M2 Op) Os) NE,TI),(1,Pi,.k 1000),(1,.a No On,.a Pi On)] rfl L3 tl this
 have la:=kK ((kJ ha hi).imp_right P6);have lb:=kK ((kJ hb NC).imp_right P6);refine uW (f:=af) (a.h.length+i+a.t.length) (λj LY=>jw σ' LY/\∀p,p<j->∀x y,(jh a i)[p]?=some x->(jh b m')[p]?=some y->bw x.at_=bw y.at_) (cU (ae rfl av) (iy Wg)) dZ ⟨s',λp hp=>absurd hp (NM _)⟩ ?_ ?_
 ·rintro j LY hj ⟨s2,MA⟩;have xa:=MU (la.symm▸hj);have xb:=MU (lb.symm▸hL▸hj);have ka:=kL ha _ (MI xa);have kb:=kL hb _ (MI xb);have Ri:cb LY (fw e b (eQ b (fy a b))) (iM a i)=some (yF e b m'):=(congrArg (cb LY _) (congrArg af hL)).trans (ji NC)
  refine a9 (lZ (aH (ae (ai (ai (ai (aj q2) rfl (ji hi)) rfl (pY xa)) rfl rfl) av) (pT (n:=n+1) ka.1.small)) (aH (ae (ai (ai (ai (aj q3) rfl Ri) rfl (pY xb)) rfl rfl) av) (pT (n:=n+1) kb.1.small)))
   (λq=>ret rfl (H true LY ⟨λ_ w=>q (congrArg Mi ?_),λ_=>rfl⟩ s2)) λq=>nil ⟨rfl,s2,λp hp x y hx hy=>?_⟩
  ·refine a6 ((w.resolve_left Oz).2 i hi) λm2 _ h2 h3=>?_;obtain rfl:m'=m2:=Rk (Qd (hL.symm.trans h2));exact h3 j _ _ xa xb
  ·refine Lr (SI.mp hp) (λh=>?_) λo8=>?_
   ·exact MA p h x y hx hy
   ·cases o8
    refine aR (Option.some.inj (xa.symm.trans hx)) ?_;refine aR (Option.some.inj (xb.symm.trans hy)) ?_;exact L9.mp (NV.mp q)
 ·rintro o LY ⟨s2,MA⟩;refine nil ⟨s2,q2,q3,λm hm=>?_⟩;refine Lr (SI.mp hm) (λh=>?_) λRY=>?_
  ·exact abb m h
  ·refine ad RY ?_;exact⟨m',NC,hL,λp x y hx=>MA p (la▸(Mt.mp hx).1) x y hx⟩
end
end
noncomputable section
set_option genInjectivity true in
inductive TR where
 |Δ (i:Nat)
 |atom (a:Nat)
 |ο (ps:List Nat)
 |arr (e:Nat) (ro:Bool)
 |tup (es:List (Nat×Nat)) (ro:Bool)
 deriving DecidableEq
noncomputable def bB (p:Nat×Nat):V:= .tup [af p.1,af p.2]
noncomputable def b3:TR->V
 |.Δ 0=> .tup [.int 1,.str [97,110,121]]
 |.Δ 2=> .tup [.int 1,.str [110,101,118,101,114]]
 |.Δ 3=> .tup [.int 1,.str [118,111,105,100]]
 |.Δ 10=> .tup [.int 1,.str [111,98,106,101,99,116]]
 |.Δ 11=> .tup [.int 8,.tup [],.tup [],.tup [],.tup [],.tup [],.int 0]
 |.Δ 13=> .tup [.int 1,.str [101,114,114,111,114]]
 |.Δ 14=> .tup [.int 2,.int 0,.int 1]
 |.Δ 15=> .tup [.int 2,.int 1,.int 1]
 |.Δ i=> .tup [.int 2000,af i]
 |.atom 0=> .tup [.int 1,.str [117,110,100,101,102,105,110,101,100]]
 |.atom 1=> .tup [.int 1,.str [110,117,108,108]]
 |.atom 2=> .tup [.int 2,.int 0,.int 0]
 |.atom 3=> .tup [.int 2,.int 1,.int 0]
 |.atom 4=> .tup [.int 4,.int 0,.int 0]
 |.atom 5=> .tup [.int 4,.int 1,.int 0]
 |.atom 6=> .tup [.int 3,.str [97],.int 0]
 |.atom 7=> .tup [.int 3,.str [98],.int 0]
 |.atom 8=> .tup [.int 1,.str [115,116,114,105,110,103]]
 |.atom 9=> .tup [.int 1,.str [110,117,109,98,101,114]]
 |.atom 10=> .tup [.int 1,.str [117,110,107,110,111,119,110]]
 |.atom a=> .tup [.int 1000,af a]
 |.ο ps=> .tup [.int 6,.tup (ps.map af)]
 |.arr e ro=> .tup [.int 11,af e,jV ro]
 |.tup es ro=> .tup [.int 12,.tup (es.map bB),jV ro]
noncomputable def b6:List TR:=[.Δ 0,.atom 10,.Δ 2,.Δ 3,.atom 0,.atom 1,.atom 8,.atom 9,.atom 2,.atom 3,.Δ 10,.Δ 11,.ο [8,9],.Δ 13,.Δ 14,.Δ 15]
theorem jj {a b:Nat}(h:af a=af b):a=b:=Mi.inj (V.int.inj h)
theorem wG {a b:Bool}(h:jV a=jV b):a=b:=by rcases a with _|_<;>rcases b with _|_<;>first|rfl|exact absurd (V.int.inj h) (by decide)
theorem wH {α β:Type}{f:α->β}(hf:∀a b,f a=f b->a=b){l k:List α}(h:l.map f=k.map f):l=k:=(List.map_inj_right hf).mp h
theorem Eh {a b c d:V}(h:V.tup [a,b]=V.tup [c,d]):a=c/\b=d:=⟨(List.cons.inj (V.tup.inj h)).1,(List.cons.inj (List.cons.inj (V.tup.inj h)).2).1⟩
theorem Ei {k:Int}{a b c d:V}(h:V.tup [.int k,a,b]=V.tup [.int k,c,d]):a=c/\b=d:=Eh (congrArg V.tup (List.cons.inj (V.tup.inj h)).2)
theorem pZ {a b:Nat×Nat}(h:bB a=bB b):a=b:=Prod.ext (jj (Eh h).1) (jj (Eh h).2)
noncomputable def bQ:List TR:=[.Δ 0,.Δ 2,.Δ 3,.Δ 10,.Δ 11,.Δ 13,.Δ 14,.Δ 15,.atom 0,.atom 1,.atom 2,.atom 3,.atom 4,.atom 5,.atom 6,.atom 7,.atom 8,.atom 9,.atom 10]
noncomputable def od:V->Int
 |.tup (.int i::_)=>i
 |_=>0
noncomputable def Φ:TR->Bool
 |.Δ i=>bQ.contains (.Δ i)
 |.atom a=>bQ.contains (.atom a)
 |_=>true
theorem sC:∀x∈bQ,od (b3 x)<6\/od (b3 x)=8:=by decide
theorem uY:∀x∈bQ,∀y∈bQ,b3 x=b3 y->x=y:=by decide
theorem dh {x:TR}(h:Φ x=true):x∈bQ\/(∃ps,x=.ο ps)\/(∃e ro,x=.arr e ro)\/∃es ro,x=.tup es ro:=by
 induction x with
 |Δ i=>exact .inl (PB.mp (show bQ.contains (.Δ i)=true from h))
 |atom a=>exact .inl (PB.mp (show bQ.contains (.atom a)=true from h))
 |ο ps=>exact .inr (.inl ⟨ps,rfl⟩)
 |arr e ro=>exact .inr (.inr (.inl ⟨e,ro,rfl⟩))
 |tup es ro=>exact .inr (.inr (.inr ⟨es,ro,rfl⟩))
theorem hO {x:TR}{k:Int}{P:Prop}(h:x∈bQ)(e:od (b3 x)=k)(hk:¬(k<6\/k=8)):P:=absurd (e▸sC x h) hk
theorem Bi {x y:TR}(hx:Φ x=true)(hy:Φ y=true)(h:b3 x=b3 y):x=y:=by
 have hh:=congrArg od h
 rcases dh hx with h1|⟨ps,rfl⟩|⟨e,ro,rfl⟩|⟨es,ro,rfl⟩<;>rcases dh hy with h2|⟨ps',rfl⟩|⟨e',Oy,rfl⟩|⟨Of,Oy,rfl⟩
 ·exact uY _ h1 _ h2 h
 ·exact hO (k:=6) h1 hh (by decide)
 ·exact hO (k:=11) h1 hh (by decide)
 ·exact hO (k:=12) h1 hh (by decide)
 ·exact hO (k:=6) h2 hh.symm (by decide)
 ·exact congrArg TR.ο (wH (λa b=>jj) (V.tup.inj (Eh h).2))
 ·exact absurd (show(6:Int)=11 from hh) (by decide)
 ·exact absurd (show(6:Int)=12 from hh) (by decide)
 ·exact hO (k:=11) h2 hh.symm (by decide)
 ·exact absurd (show(11:Int)=6 from hh) (by decide)
 ·exact jj (Ei h).1▸wG (Ei h).2▸rfl
 ·exact absurd (show(11:Int)=12 from hh) (by decide)
 ·exact hO (k:=12) h2 hh.symm (by decide)
 ·exact absurd (show(12:Int)=6 from hh) (by decide)
 ·exact absurd (show(12:Int)=11 from hh) (by decide)
 ·exact wH (λa b=>pZ) (V.tup.inj (Ei h).1)▸wG (Ei h).2▸rfl
theorem Bj {n:Nat}{l:List Nat}:ck n (l.map af)=true:=by
 induction l with
 |nil=>rfl
 |cons a l ih=>exact ih
theorem Ej {l:List (Nat×Nat)}:ck 2 (l.map bB)=true:=by
 induction l with
 |nil=>rfl
 |cons a l ih=>exact ih
theorem me:∀x∈bQ,a8 (b3 x)=true/\eY (b3 x)=true:=by decide
theorem sD {x:TR}(h:Φ x=true):eY (b3 x)=true:=by
 refine mM (dh h) (λh1=>?_) (λVD=>?_) (λVC=>?_) λVB=>?_
 ·exact(me _ h1).2
 ·obtain⟨ps,rfl⟩:=VD
  rfl
 ·refine gf VC λe ro QU=>?_;refine ad QU ?_
  rfl
 ·refine gf VB λes ro Xx=>?_;refine ad Xx ?_
  rfl
theorem Bk {x:TR}(h:Φ x=true):a8 (b3 x)=true:=by
 refine mM (dh h) (λh1=>?_) (λZ8=>?_) (λUU=>?_) λUT=>?_
 ·exact(me _ h1).1
 ·obtain⟨ps,rfl⟩:=Z8;show(false||(true&&(true&&(ck 2 (ps.map af)&&true))))=true
  (refine ad Bj ?_);rfl
 ·obtain⟨e,ro,rfl⟩:=UU
  rcases ro with _|_<;>rfl
 ·obtain⟨es,ro,rfl⟩:=UT;show(false||(true&&(true&&(ck 2 (es.map bB)&&(db 3 (jV ro)&&true)))))=true
  (refine ad Ej ?_);rcases ro with _|_<;>rfl
structure TB where
 t:Nat
 r:Nat
 i:Nat
def TB.own (b:TB)(q:Nat):Prop:=q=b.r\/q=b.i
noncomputable def yJ (T:List TR):List (V×V):=T.zipIdx.map λp=>(b3 p.1,af p.2)
structure bu (T:List TR):Prop where
 nodup:T.Nodup
 Φ:∀x∈T,Φ x=true
 first:∃X,T=b6++X
structure Bl (P:List TR->Prop)(σ:St)(b:TB)(T:List TR):Prop where
 lt:b.t<σ.n/\b.r<σ.n/\b.i<σ.n
 ne:b.t≠b.r/\b.t≠b.i/\b.r≠b.i
 inst:∃fs,σ.g b.t=.inst 0 fs/\cC fs 0=some (.ref b.r)/\cC fs 1=some (.ref b.i)
 rows:σ.g b.r=.list (T.map b3)
 idx:σ.g b.i=.dict (yJ T)
 ok:P T
noncomputable abbrev aY:=Bl bu
theorem aY.same {σ σ':St}{b:TB}{T:List TR}{X:Nat->Prop}(h:aY σ b T)(s:aN X σ σ')(h1:¬X b.t)(h2:¬X b.r)(h3:¬X b.i):aY σ' b T:=by
 obtain⟨⟨l1,l2,l3⟩,ne,⟨fs,a1,a2,a3⟩,r,i,ok⟩:=h;have le:=s.le
 exact⟨⟨(L1 (by assumption) (by assumption)),(L1 (by assumption) (by assumption)),(L1 (by assumption) (by assumption))⟩,ne,⟨fs,by(refine ad (s.keep _ l1 h1) ?_);exact a1,a2,a3⟩,by(refine ad (s.keep _ l2 h2) ?_);exact r,by(refine ad (s.keep _ l3 h3) ?_);exact i,ok⟩
noncomputable def b7 (T:List TR)(x:TR):List TR:=if x∈T then T else T++[x]
noncomputable def dr (T:List TR)(x:TR):Nat:=T.idxOf x
theorem Bm (T:List TR)(x:TR):∃X,b7 T x=T++X:=by
 unfold b7;split
 ·exact⟨[],by simp⟩
 ·exact⟨[x],rfl⟩
set_option tactic.hygienic true in
theorem jk {T:List TR}{x:TR}:(b7 T x)[dr T x]?=some x:=by
 unfold b7 dr
 split
 ·rename_i h;rw[MU (Y3 h),Y2]
 ·rename_i h
  (refine ad (Ws h) ?_);simp
set_option tactic.hygienic true in
theorem wI {T:List TR}{x:TR}(h:bu T)(hx:Φ x=true):bu (b7 T x):=by
 refine h.first.elim λX hX=>?_
 unfold b7
 split
 ·exact h
 ·rename_i hn
  refine⟨?_,λy hy=>?_,X++[x],by rw[hX,Mh]⟩
  ·rw[Pa]
   refine⟨h.nodup,by simp,λa ha b hb=>?_⟩
   refine ad (LV.mp hb) ?_;rintro rfl;exact hn ha
  ·refine Lr (M0.mp hy) (λhy=>?_) λhy=>?_
   ·exact h.Φ y hy
   ·(refine ad (LV.mp hy) ?_);exact hx
theorem Bn {T:List TR}(hT:∀x∈T,Φ x=true){x:TR}(hx:Φ x=true):∀(k:Nat),cB ((T.zipIdx k).map λp=>(b3 p.1,af p.2)) (b3 x)=if x∈T then some (af (k+T.idxOf x))else none:=by
 induction T with
 |nil=>intro k;rfl
 |cons y T ih=>
  intro k
  (refine ad YN ?_;refine ad M6 ?_)
  unfold cB;refine ad RB ?_
  by_cases e:y=x
  ·refine aR e ?_
   simp
  ·have MT:¬b3 y=b3 x:=λh=>e (Bi (hT y LI) hx h);simp only[MT,decide_false,PA,if_false]
   have:=ih (λz hz=>hT z (L8 _ hz)) (k+1)
   unfold cB at this;refine ad this ?_
   have hb:(y==x)=false:=by simpa using e
   have e':¬x=y:=λh=>e h.symm
   by_cases hm:x∈T
   ·(refine ad (if_pos hm) ?_;refine ad (if_pos (L8 _ hm)) ?_;refine ad List.idxOf_cons ?_;refine ad hb ?_)
    simp only[cond_false]
    congr 2
    exact Ms (Ll [_,_] 1 (.a (.a M2 On) No) (.a M2 (.a No On)) [] rfl) (Ll [_,_] 1 (.a M2 (.a No On)) (.a (.a M2 On) No) [] rfl)
   ·(refine ad (if_neg hm) ?_;refine ad (if_neg (by simp[e',hm])) ?_;rfl)
theorem Ek {T:List TR}(h:∀x∈T,Φ x=true){x:TR}(hx:Φ x=true):cB (yJ T) (b3 x)=if x∈T then some (af (dr T x))else none:=by
 have:=Bn h hx 0
 rw[Nf]at this;exact this
theorem Bo {T:List TR}(h:∀x∈T,Φ x=true){x:TR}(hx:Φ x=true):bl (yJ T) (b3 x)=true:=by
 unfold bl
 have:bk (b3 x)=false:=by
  have:=sD hx
  cases e:b3 x<;>rw[e]at this<;>simp[eY]at this<;>rfl
 rw[this,if_neg (Nd),MV];intro p hp;refine ag (MH.mp hp) λq hq e53=>?_;refine aR e53 ?_
 have hm:q.1∈T:=by
  obtain⟨y,i⟩:=q;exact MI (List.mk_mem_zipIdx_iff_getElem?.mp hq)
 exact sD (h _ hm)
section
variable {n r t:Nat}{σ:St}{b:TB}{T:List TR}{x:TR}{Q:V->St->Prop}{l:List (V×V)}{k v:V}
theorem p8 (hg:σ.g r=.dict l)(h1:a8 k=true)(h2:bl l k=true):dQ .isin σ k (.ref r)=some (cB l k).isSome:=io (f:=F8 k) hg (if_pos (dB h1 h2))
theorem sE (hg:σ.g r=.dict l)(h1:a8 k=true)(h2:bl l k=true)(h:cB l k=some v):cb σ (.ref r) k=some v:=io (f:=ze k) hg ((if_pos (dB h1 h2)).trans h)
theorem fL {l:List V}(hg:σ.g r=.list l):builtin .len σ [.ref r]=some (af l.length):=by
 show F9 (σ.g r)=_;(refine ad hg ?_);rfl
theorem Bp {P:List TR->Prop}(h:Bl P σ b T)(ok:∀x∈T,Φ x=true)(hP:P (b7 T x))(hx:Φ x=true)(hl:T.length<1000000)(H:∀σ',Bl P σ' b (b7 T x)->aN b.own σ σ'->Q (af (dr T x)) σ'):XC (n+1) 4 [.ref b.t,b3 x] σ Q:=by
 obtain⟨lt,⟨n1,n2,n3⟩,⟨fs,a1,a2,a3⟩,hr,hi,-⟩:=id h;have k1:=Bk hx;have k2:=Bo ok hx;have k3:=Ek ok hx;refine ay rfl rfl (a9 (p:=x∈T) (gD rfl (am rfl a1 a3) (p8 hi k1 k2) ?_) (λhm=>?_) λhm=>?_)
 ·refine ad k3 ?_
  by_cases hm:x∈T
  ·(refine ad (if_pos hm) ?_);exact⟨λ_=>hm,λ_=>rfl⟩
  ·(refine ad (if_neg hm) ?_);exact⟨λq=>Bool.noConfusion q,λq=>absurd q hm⟩
 ·rw[if_pos hm]at k3;refine ret (ai (am rfl a1 a3) rfl (sE hi k1 k2 k3)) (H σ ?_ aN.refl);unfold b7
  (refine ad (if_pos hm) ?_);exact h
 ·replace k3:=(if_neg hm)▸k3
  have o1:(T.map b3).length<aq:=by rw[LN];exact OD hl (LL rfl)
  have o2:(yJ T).length<aq:=by unfold yJ;rw[LN,List.length_zipIdx];exact OD hl (LL rfl)
  have hp:b7 T x=T++[x]:=if_neg hm;have hq:dr T x=T.length:=Ws hm;have b1:=(uS (o:= .list (T.map b3++[b3 x])) n1).trans a1;refine cV (cU (ae (am rfl a1 a2) av) (fL hr)) (expr (l5 (am rfl a1 a2) rfl hr o1 ⟨rfl,Ξ rfl (am rfl b1 a3) rfl (eG ((uS (Ne.symm n3)).trans hi) k1 k2 o2) (ret rfl ?_)⟩))
  (refine ad (show af (T.map b3).length=af (dr T x) by rw[LN,hq]) ?_)
  refine H _ ⟨lt,⟨n1,n2,n3⟩,⟨fs,(uS n2).trans b1,a2,a3⟩,(uS n3).trans (d8.trans ?_),d8.trans ?_,hP⟩ ((aN.set (.inl rfl)).trans (aN.set (.inr rfl)))
  ·(refine ad hp ?_;refine ad Mj ?_);rfl
  ·(refine ad (sy k3) ?_;refine ad hp ?_)
   unfold yJ;rw[Y1,Mj,Nf,hq];rfl
theorem jl (h:aY σ b T)(hx:Φ x=true)(hl:T.length<1000000)(H:∀σ',aY σ' b (b7 T x)->aN b.own σ σ'->Q (af (dr T x)) σ'):XC (n+1) 4 [.ref b.t,b3 x] σ Q:=Bp h h.ok.Φ (wI h.ok hx) hx hl H
noncomputable def hd (x:TR):Int:=od (b3 x)
theorem sF:∀x∈bQ,(match b3 x with|.tup l=>gj l 0|_=>none)=some (.int (od (b3 x))):=by decide
theorem gJ {x:TR}(h:Φ x=true){σ:St}:cb σ (b3 x) (.int 0)=some (.int (hd x)):=by
 refine mM (dh h) (λh1=>?_) (λo65=>?_) (λo66=>?_) λo67=>?_
 ·have:=sF x h1
  unfold hd
  cases e:b3 x<;>replace this:=e▸this<;>first|exact this|exact au this
 ·obtain⟨ps,rfl⟩:=o65
  rfl
 ·obtain⟨e,ro,rfl⟩:=o66
  rfl
 ·obtain⟨es,ro,rfl⟩:=o67
  rfl
noncomputable def fM (i:Int):Bool:=([2,3,4,5,8]:List Int).contains i
noncomputable def aba (x:TR):Bool:=Φ x&&!decide (x=.Δ 14)&&!decide (x=.Δ 15)
noncomputable def FB:V->Option V
 |.tup l=>gj l (-1)
 |_=>none
theorem Bq {v z:V}{σ:St}(h:FB v=some z):cb σ v (.int (-1))=some z:=by
 rcases v with _|_|_|_|l|_|_|_|_<;>first|exact h|exact au h
theorem sG:∀x∈bQ,x≠.Δ 14->x≠.Δ 15->fM (hd x)=true->FB (b3 x)=some (.int 0):=by decide
theorem wJ {x:TR}(h:aba x=true)(hm:fM (hd x)=true){σ:St}:cb σ (b3 x) (.int (-1))=some (.int 0):=by
 have h:=oF h;refine mM (dh h.1.1) (λh1=>Bq (sG x h1 (of_decide_eq_false ((Rr _).mp h.1.2)) (of_decide_eq_false ((Rr _).mp h.2)) hm)) (λo=>o.elim λps e=>?_) (λo=>gf o λy ro e=>?_) λo=>gf o λes ro e=>?_
 ·subst e;exact absurd (show fM 6=true from hm) (by decide)
 ·subst e;exact absurd (show fM 11=true from hm) (by decide)
 ·subst e;exact absurd (show fM 12=true from hm) (by decide)
theorem bx {x:TR}(h:aba x=true):Φ x=true:=by
 simp only[aba,MW]at h;exact h.1.1
theorem mf {l:List Int}{i:Int}{σ:St}:dQ .isin σ (.int i) (.tup (l.map .int))=some (l.contains i):=by
 show(if(bk (.int i)&&aS (l.map V.int))=true then some ((l.map V.int).contains (.int i))else none)=_
 have h1:aS (l.map V.int)=true:=by
  unfold aS;rw[MV];intro v hv;refine ag (MH.mp hv) λj _ XA=>?_;refine aR XA ?_
  rfl
 (refine ad h1 ?_;refine ad (show(bk (V.int i)&&true)=true from rfl) ?_;refine ad (if_pos rfl) ?_)
 congr 1
 induction l with
 |nil=>rfl
 |cons a l ih=>
  have:aS (l.map V.int)=true:=by
   unfold aS at h1⊢;rw[M6,List.all_cons,MW]at h1;exact h1.2
  (refine ad M6 ?_;refine ad WU ?_;refine ad WU ?_;refine ad (ih this) ?_)
  congr 1
  by_cases e:i=a
  ·refine aR e ?_;simp
  ·have:(V.int i==V.int a)=false:=by simpa using e
   (refine ad this ?_);symm;simpa using e
theorem Em {σ:St}{b:TB}{T:List TR}(h:aY σ b T){t:Nat}{x:TR}(ht:T[t]?=some x):(T.map b3)[t]?=some (b3 x):=by(refine ad M8 ?_;refine ad ht ?_);rfl
noncomputable def parts (T:List TR)(t:Nat):List Nat:=if t=2 then[]else match T[t]? with
 |some (.ο ps)=>ps
 |_=>[t]
theorem H0 {x:TR}(h:Φ x=true):hd x=6↔∃ps,x=.ο ps:=by
 refine mM (dh h) (λh1=>?_) (λUX=>?_) (λUW=>?_) λo49=>?_
 ·have key:∀x∈bQ,hd x≠6/\∀ps,x≠.ο ps:=by
   intro x hx;refine⟨?_,λps=>?_⟩
   ·have:∀x∈bQ,hd x≠6:=by decide
    exact this x hx
   ·rintro rfl
    simp[bQ]at hx
  constructor
  ·intro h;exact absurd h (key x h1).1
  ·rintro⟨ps,h⟩;exact absurd h ((key x h1).2 ps)
 ·obtain⟨ps,rfl⟩:=UX;exact⟨λ_=>⟨ps,rfl⟩,λ_=>rfl⟩
 ·obtain⟨e,ro,rfl⟩:=UW
  exact⟨λh=>absurd (show(11:Int)=6 from h) (by decide),λZU=>ZU.elim λps h=>by contradiction⟩
 ·obtain⟨es,ro,rfl⟩:=o49
  exact⟨λh=>absurd (show(12:Int)=6 from h) (by decide),λZT=>ZT.elim λps h=>by contradiction⟩
theorem cZ (h:aY σ b T)(hx:T[t]?=some x):cb σ (.ref b.r) (af t)=some (b3 x):=sn h.rows ((if_pos (Nq t)).trans (Em h hx))
theorem kM (h:aY σ b T)(ht:t<T.length):aI prog (n+1) 13 [.ref b.t,af t] σ=some (.tup ((parts T t).map af),σ):=by
 obtain⟨-,-,⟨fs,a1,a2,a3⟩,-⟩:=id h;have hx:T[t]?=some T[t]:=MU ht
 generalize T[t]=x at hx
 have X3:Φ x=true:=h.ok.Φ x (MI hx);have Qu:=cZ h hx;refine XC.eq (ay rfl rfl (a9 (aA rfl rfl) (λq=>ret rfl ⟨?_,rfl⟩) λq=>?_))
 ·unfold parts;(refine ad (if_pos (L9.mp q)) ?_);rfl
 have hp:parts T t=(match some x with|some (.ο ps)=>ps|_=>[t]):=by
  unfold parts;(refine ad (if_neg λe=>q (congrArg Mi e)) ?_;refine ad hx ?_;rfl)
 refine cV (ai (am rfl a1 a2) rfl Qu) (a9 (aA (ai rfl rfl (gJ X3)) rfl) (λq=>?_) λq=>?_)
 ·refine((H0 X3).mp q).elim λps e65=>?_;subst e65
  exact ret rfl ⟨by(refine ad hp ?_;rfl),rfl⟩
 ·refine ret rfl ⟨?_,rfl⟩;refine ad hp ?_
  induction x with
  |ο ps=>exact absurd rfl q
  |_=>rfl
noncomputable def b8 (x:TR):Int:=if hd x=3 then 6 else if hd x=4 then 7 else -1
theorem qa:∀i∈([6,11,12]:List Int),i≠5/\i≠18/\i≠10/\i≠7/\i≠9/\¬(13<=i):=by decide
theorem uZ {x:TR}(h:Φ x=true):hd x≠5/\hd x≠18/\hd x≠10/\hd x≠7/\hd x≠9/\¬(13<=hd x):=by
 rcases dh h with h1|⟨ps,rfl⟩|⟨e,ro,rfl⟩|⟨es,ro,rfl⟩
 ·have:∀x∈bQ,hd x≠5/\hd x≠18/\hd x≠10/\hd x≠7/\hd x≠9/\¬(13<=hd x):=by decide
  exact this x h1
 ·exact qa 6 (.head _)
 ·exact qa 11 (.tail _ (.head _))
 ·exact qa 12 (.tail _ (.tail _ (.head _)))
theorem qb (h:Φ x=true):aI prog (n+1) 14 [b3 x] σ=some (.int (b8 x),σ):=by
 refine vA (uZ h) λh5 O8 _=>?_;refine XC.eq (ay rfl rfl (cV (ai rfl rfl (gJ h)) (a9 (cK (aA rfl rfl) (bL (aA rfl rfl))) (λq=>ret rfl ⟨?_,rfl⟩) λq=>a9 (aA rfl rfl) (λq4=>ret rfl ⟨?_,rfl⟩) λq4=>a9 (aA rfl rfl) (λq5=>absurd q5 h5) λ_=>ret rfl ⟨?_,rfl⟩)))
 ·unfold b8;(refine ad (if_pos (q.resolve_right O8)) ?_;rfl)
 ·unfold b8;(refine ad (if_neg λe=>q (.inl e)) ?_;refine ad (if_pos q4) ?_;rfl)
 ·unfold b8;(refine ad (if_neg λe=>q (.inl e)) ?_;refine ad (if_neg q4) ?_;rfl)
theorem oe {i:Int}{σ:St}:dQ .isin σ (.int i) (.tup [.int 2,.int 3,.int 4,.int 5,.int 8])=some (fM i):=mf (l:=[2,3,4,5,8])
theorem Br {e1:IE}{ρ:Loc}{j:Int}(h1:Ev n e1 ρ σ (.int j)):Tp n (.cmp .isin e1 (.glob (.tup [.int 2,.int 3,.int 4,.int 5,.int 8]))) ρ σ (fM j=true):=gD h1 rfl oe NW
theorem H3 (h:aY σ b T)(hx:T[t]?=some x)(hf:aba x=true):aI prog (n+1) 15 [.ref b.t,af t] σ=some (.int (-1),σ):=by
 obtain⟨-,-,⟨fs,a1,a2,a3⟩,-⟩:=id h
 refine XC.eq (ay rfl rfl (cV (ai (am rfl a1 a2) rfl (cZ h hx)) (a9 (cY (Br (ai rfl rfl (gJ (bx hf)))) λhm=>bJ (aA (ai rfl rfl (wJ hf hm)) rfl)) (λq=>absurd q.2 (by decide)) λ_=>ret rfl ⟨rfl,rfl⟩)))
theorem En (h:aY σ b T)(hx:T[t]?=some x)(hf:aba x=true):aI prog (n+1) 22 [.ref b.t,af t] σ=some (.bool false,σ):=by
 obtain⟨-,-,⟨fs,a1,a2,a3⟩,-⟩:=id h;refine XC.eq (ay rfl rfl (cV (ai (am rfl a1 a2) rfl (cZ h hx)) (ret ?_ ⟨rfl,rfl⟩)));have e1:∀ρ:Loc,ρ 2=some (b3 x)->Ev n (.cmp .isin (.sub (.loc 2) (.const (.int 0))) (.glob (.tup [.int 2,.int 3,.int 4,.int 5,.int 8]))) ρ σ (.bool (fM (hd x))):=λρ h2=>cu (ai (aj h2) rfl (gJ (bx hf))) rfl oe;rcases hm:fM (hd x)with _|_
 ·exact bs (e1 _ rfl) (by(refine ad hm ?_);rfl)
 ·exact bs (e1 _ rfl) (by(refine ad hm ?_);exact cu (ai rfl rfl (wJ hf hm)) rfl rfl)
theorem JS (h:aY σ b T)(hx:T[t]?=some x)(hf:Φ x=true):∃c,aI prog (n+1) 21 [.ref b.t,af t] σ=some (.bool c,σ):=by
 obtain⟨-,-,⟨fs,a1,a2,a3⟩,-⟩:=id h;exact⟨([2,3,4,5]:List Int).contains (hd x),XC.eq (ay rfl rfl (ret (cu (ai (ai (am rfl a1 a2) rfl (cZ h hx)) rfl (gJ hf)) rfl (mf (l:=[2,3,4,5]))) ⟨rfl,rfl⟩))⟩
theorem yK (h:aY σ b T)(hx:T[t]?=some x)(hf:aba x=true):aI prog (n+2) 23 [.ref b.t,af t] σ=some (af t,σ):=XC.eq (ay rfl rfl (a9 (Ev.tp (aH rfl (En h hx hf))) (λq=>Bool.noConfusion q) λ_=>ret rfl ⟨rfl,rfl⟩))
end
end
noncomputable section
noncomputable def cW (l:List Nat):List (V×V):=l.map λp=>(af p,V.int 1)
noncomputable def jX (l:List Nat)(i:Int):Bool:=l.any λp=>decide ((p:Int)=i)
theorem sH {l:List Nat}{k:Nat}:jX l (k:Int)=decide (k∈l):=by
 unfold jX;rw[QL,Qf,decide_eq_true_eq]
 constructor
 ·intro ZK;refine ag ZK λp hp h=>?_;rw[decide_eq_true_eq]at h
  have:p=k:=by lia
  exact this▸hp
 ·intro h
  exact⟨k,h,by simp⟩
theorem Bs {l:List Nat}{i:Int}(h:i<0):jX l i=false:=by
 unfold jX;rw[Y0];intro p hp;refine ad decide_eq_true_eq ?_
 lia
theorem mh {l:List Nat}{i:Int}:(cB (cW l) (.int i)).isSome=jX l i:=by
 unfold cB jX cW
 (refine ad QS ?_;refine ad List.find?_map ?_;refine ad QS ?_)
 induction l with
 |nil=>rfl
 |cons a l ih=>
  (refine ad RB ?_;refine ad List.any_cons ?_)
  simp only[Function.comp,af,V.int.injEq]
  by_cases e:(a:Int)=i
  ·simp[e]
  ·simp only[e,decide_false,Bool.false_or];exact ih
theorem gK {l:List Nat}{i:Int}:bl (cW l) (.int i)=true:=by
 unfold bl;rw[if_pos (show bk (.int i)=true from rfl),MV];intro x hx;unfold cW at hx;refine ag (MH.mp hx) λp _ e45=>?_;refine aR e45 ?_
 rfl
theorem H4 {σ:St}{g:Nat}{l:List Nat}{i:Int}(h:σ.g g=.dict (cW l)):dQ .isin σ (.int i) (.ref g)=some (jX l i):=by
 show(match σ.g g with|.dict l=>if a8 (.int i)&&bl l (.int i)then some (cB l (.int i)).isSome else none|_=>none)=_
 refine ad h ?_;dsimp only
 (refine ad gK ?_;refine ad mh ?_);rfl
theorem yL {σ:St}{g:Nat}{l:List Nat}{i:Int}(h:σ.g g=.dict (cW l)):dQ .abz σ (.int i) (.ref g)=some (!jX l i):=by
 show((match σ.g g with|.dict l=>if a8 (.int i)&&bl l (.int i)then some (cB l (.int i)).isSome else none|_=>none):Option Bool).map (!·)=_
 refine ad h ?_;dsimp only
 (refine ad gK ?_;refine ad mh ?_);rfl
noncomputable def cq (l:List Nat)(p:Nat):List Nat:=if p∈l then l else l++[p]
theorem wK {l:List Nat}{p:Nat}:dj (cW l) (af p) (.int 1)=cW (cq l p):=by
 unfold dj cq
 have:(cB (cW l) (af p)).isSome=decide (p∈l):=by
  show(cB (cW l) (.int (p:Int))).isSome=_
  (refine ad mh ?_;refine ad sH ?_;rfl)
 refine ad this ?_
 by_cases h:p∈l
 ·(refine ad (decide_eq_true h) ?_;refine ad (if_pos rfl) ?_;refine ad (if_pos h) ?_)
  unfold cW;refine ad Ml ?_
  apply Qh
  intro a ha;simp only[Function.comp]
  split
  ·rfl
  ·rfl
 ·(refine ad (decide_eq_false h) ?_;refine ad (if_neg (Nd)) ?_;refine ad (if_neg h) ?_)
  simp[cW]
noncomputable def bd (ps:List Nat):List Nat:=ps.foldl cq []
set_option tactic.hygienic true in
theorem u0 {l:List Nat}{p q:Nat}:q∈cq l p↔q∈l\/q=p:=by
 unfold cq
 split
 ·rename_i h
  constructor
  ·exact .inl
  ·rintro(h1|rfl)<;>assumption
 ·simp
set_option tactic.hygienic true in
theorem qc {l:List Nat}{p:Nat}(h:l.Nodup):(cq l p).Nodup:=by
 unfold cq
 split
 ·exact h
 ·rename_i hn;rw[Pa]
  refine⟨h,by simp,λa ha b hb=>?_⟩
  refine ad (LV.mp hb) ?_;rintro rfl;exact hn ha
theorem ko:∀{ps l:List Nat} {q:Nat},q∈ps.foldl cq l↔q∈l\/q∈ps
 |[],l,q=>by simp
 |p::ps,l,q=>by
  rw[QN,ko,u0,L7,or_assoc]
theorem bN {ps:List Nat}{q:Nat}:q∈bd ps↔q∈ps:=by unfold bd;rw[ko];simp
theorem iA:∀{ps l:List Nat},l.Nodup->(ps.foldl cq l).Nodup
 |[],l,h=>h
 |p::ps,l,h=>by(refine ad QN ?_);exact iA (qc h)
theorem fN {ps:List Nat}:(bd ps).Nodup:=iA (by simp)
theorem aas {l:List Nat}{p:Nat}:l.length<=(cq l p).length:=by unfold cq;split<;>simp
theorem gL:∀{ps l:List Nat},l.length<=(ps.foldl cq l).length
 |[],l=>Lv _
 |p::ps,l=>by(refine ad QN ?_);exact Lk aas gL
theorem ng {ps qs:List Nat}:(bd ps).length<=(bd (ps++qs)).length:=by
 unfold bd;(refine ad P8 ?_);exact gL
noncomputable def kB (x:Nat):List Nat->List Nat
 |[]=>[x]
 |y::l=>if x<=y then x::y::l else y::kB x l
noncomputable def gM (l:List Nat):List Nat:=l.foldr kB []
theorem qd {x y:Nat}{l:List Nat}{P:List Nat->Prop}(h1:x<=y->P (x::y::l))(h2:¬x<=y->P (y::kB x l)):P (kB x (y::l)):=if h:x<=y then ad (show kB x (y::l)=_ from if_pos h) (h1 h)else ad (show kB x (y::l)=_ from if_neg h) (h2 h)
theorem Bt {x:Nat}{l:List Nat}:ez (x:Int) (l.map Mi)=(kB x l).map Mi:=by
 induction l with
 |nil=>rfl
 |cons y l ih=>
  exact qd (P:=λz=>ez (x:Int) ((y::l).map Mi)=z.map Mi) (λh=>if_pos (M1.mpr h)) λh=>(if_neg λq=>h (M1.mp q)).trans (congrArg (Mi y::·) ih)
theorem og:∀{l:List Nat},cT (l.map Mi)=(gM l).map Mi
 |[]=>rfl
 |x::l=>by
  show ez (x:Int) (cT (l.map Mi))=_
  (refine ad og ?_;refine ad Bt ?_);rfl
theorem sI {x y:Nat}{l:List Nat}:y∈kB x l↔y=x\/y∈l:=by
 induction l with
 |nil=>exact L7
 |cons z l ih=>
  exact qd (P:=λq=>y∈q↔y=x\/y∈z::l) (λ_=>L7) λ_=>(L7.trans (or_congr_right ih)).trans (or_left_comm.trans (or_congr_right L7.symm))
theorem fz {y:Nat}:∀{l:List Nat},y∈gM l↔y∈l
 |[]=>by simp[gM]
 |x::l=>by
  show y∈kB x (gM l)↔_;rw[sI,fz,L7]
theorem Bu {x:Nat}{l:List Nat}:(kB x l).length=l.length+1:=by
 induction l with
 |nil=>rfl
 |cons z l ih=>exact qd (P:=λq=>q.length=l.length+2) (λ_=>rfl) λ_=>congrArg (·+1) ih
theorem jY:∀{l:List Nat},(gM l).length=l.length
 |[]=>rfl
 |x::l=>by show(kB x (gM l)).length=_;(refine ad Bu ?_;refine ad jY ?_);rfl
theorem sJ {x:Nat}{l:List Nat}:l.Pairwise (·<·)->x∉l->(kB x l).Pairwise (·<·):=by
 induction l with
 |nil=>exact λ_ _=>SP _ _
 |cons z l ih=>
  intro h hx;have h':=OG.mp h
  exact qd (P:=λq=>q.Pairwise (·<·)) (λhle=>have My:=Nat.lt_of_le_of_ne hle λe=>hx (e▸LI);OG.mpr ⟨λa ha=>(L7.mp ha).elim (λo=>ad o My) λha=>OD My (h'.1 a ha),h⟩)
   λhle=>OG.mpr ⟨λa ha=>(sI.mp ha).elim (λo=>ad o (Rt hle)) (h'.1 a),ih h'.2 λq=>hx (L8 _ q)⟩
theorem jm:∀{l:List Nat},l.Nodup->(gM l).Pairwise (·<·)
 |[],_=>by simp[gM]
 |x::l,h=>by
  rw[Ny]at h;exact sJ (jm h.2) λq=>h.1 (fz.mp q)
theorem u2 {l:List Nat}:iC ((cW l).map λx=>x.1)=some (l.map Mi):=by
 unfold cW
 induction l with
 |nil=>rfl
 |cons a l ih=>
  (refine ad M6 ?_;refine ad M6 ?_)
  show(iC _).map _=_
  (refine ad ih ?_);rfl
theorem u3 {σ:St}{g:Nat}{l:List Nat}(h:σ.g g=.dict (cW l))(hl:l.length<64):builtin .sorted σ [.ref g]=some (.lst ((gM l).map af)):=by
 show(match σ.g g with
  |.dict l=>if l.length<64 then(iC (l.map fun (q:V×V)=>q.1)).map λx=>V.lst ((cT x).map .int)else none
  |_=>none)=_
 refine ad h ?_;dsimp only;have ht:=u2 (l:=l)
 rw[if_pos (by simp[cW];exact hl),ht,SU,og,Ml]
 rfl
def di (T:List TR)(p:Nat):Prop:=∃x,T[p]?=some x/\aba x=true/\((∃a,x=.atom a)\/(∃e ro,x=.arr e ro)\/∃es ro,x=.tup es ro)
theorem di.lt {T:List TR}{p:Nat}(h:di T p):p<T.length:=by
 refine ag h λx h1 _=>?_;exact(Mt.mp h1).1
noncomputable def fV (T:List TR)(ps:List Nat)(p:Nat):Bool:=match T[p]? with
 |some x=>!jX ps (b8 x)
 |none=>false
noncomputable def bC (T:List TR)(ps:List Nat):List Nat:=(gM (bd ps)).filter (fV T (bd ps))
noncomputable def aU (T:List TR)(ps:List Nat):List TR×Nat:=if 1∈ps then(T,1)else match bC T ps with
 |[]=>(T,2)
 |[x]=>(T,x)
 |K=>(b7 T (.ο K),dr T (.ο K))
section
variable {n g p:Nat}{σ:St}{b:TB}{T:List TR}{l ps ts:List Nat}{Q:V->St->Prop}
theorem oh {e1 e2:IE}{ρ:Loc}{i:Int}(h1:Ev n e1 ρ σ (.int i))(h2:Ev n e2 ρ σ (.ref g))(hg:σ.g g=.dict (cW l)):Tp n (.cmp .isin e1 e2) ρ σ (jX l i=true):=gD h1 h2 (H4 hg) NW
theorem Eo (h:aY σ b T)(hg:σ.g g=.dict (cW l))(hp:di T p):aI prog (n+2) 17 [.ref b.t,.ref g,af p] σ=some (.bool (fV T l p),σ):=by
 refine a6 hp λx hx hf _=>?_;obtain⟨-,-,⟨fs,a1,a2,a3⟩,-⟩:=id h
 have hs:fV T l p=!jX l (b8 x):=by unfold fV;(refine ad hx ?_;rfl)
 refine XC.eq (ay rfl rfl (a9 (oh (aH rfl (H3 (n:=n) h hx hf)) rfl hg) (λq=>absurd q (by(refine ad (Bs (by decide)) ?_);decide)) λ_=>ret (cu (aH (ae (ai (am rfl a1 a2) rfl (cZ h hx)) av) (qb (n:=n) (bx hf))) rfl (yL hg)) ⟨by(refine ad hs ?_;rfl),rfl⟩))
theorem fA {k:Nat}:jX l k=true↔k∈l:=by rw[sH,decide_eq_true_iff]
theorem JT (hg:σ.g g=.dict (cW l))(h0:0∉l)(SF:13∉l):aI prog (n+1) 18 [.ref g] σ=some (.int (if 1∈l then 1 else -1),σ):=by
 refine XC.eq (ay rfl rfl (wA (f:=af) [0,13,1] (λp σ'=>σ'=σ/\(1∈p->1∉l)) rfl rfl ⟨rfl,λh=>nomatch h⟩ ?_ λo σ' z1=>z1.elim λhs h=>ret rfl ⟨by(refine ad (if_neg (h (by decide))) ?_;rfl),hs⟩))
 rintro p c r σ' e ⟨rfl,h⟩;refine a9 (oh rfl rfl hg) (λq=>ret rfl ⟨?_,rfl⟩) λq=>nil ⟨rfl,rfl,λm hm=>(M0.mp m).elim (λm=>h m hm) λm=>q (fA.mpr (LV.mp m▸hm))⟩;have hc:c∈[0,13,1]:=e▸MB p LI;have Mq:=fA.mp q;rcases L7.mp hc with rfl|hc
 ·exact absurd Mq h0
 refine Lr (L7.mp hc) (λo5=>?_) λhc=>?_
 ·subst o5;exact absurd Mq SF
 ·obtain rfl:=LV.mp hc
  (refine ad (if_pos Mq) ?_);rfl
theorem wL:(cW l).length=l.length:=LN ..
theorem wM {k:Nat}(hk:k∈l):dj (cW l) (af k) (.int 1)=cW l:=wK.trans (congrArg cW (if_pos hk))
theorem H5 (hg:σ.g g=.dict (cW l))(SE:14∉l)(h15:15∉l)(hl:l.length<100)(H:∀σ',σ'.g g=.dict (cW l)->aN (λq=>q=g) σ σ'->Q .none σ'):XC (n+1) 16 [.ref g] σ Q:=by
 have Ω:(cW l).length<aq:=by(refine ad wL ?_);exact OD hl (LL rfl)
 refine ay rfl rfl (a9 (cF (cK (oh rfl rfl hg) (bL (oh rfl rfl hg))) (bJ (cK (oh rfl rfl hg) (bL (oh rfl rfl hg))))) (λq=>?_) λ_=>nil (H σ hg aN.refl));have h8:8∈l:=fA.mp (q.1.resolve_right λq=>SE (fA.mp q));have h9:9∈l:=fA.mp (q.2.resolve_right λq=>h15 (fA.mp q))
 refine Ξ rfl rfl rfl (eG hg rfl gK Ω) (Ξ rfl rfl rfl (eG d8 rfl ?_ ?_) (nil (nil (H _ ?_ ((aN.set (X:=λq=>q=g) rfl).trans (aN.set rfl))))))<;>(refine ad (show dj (cW l) (.int 8) (.int 1)=cW l from wM h8) ?_)
 ·exact gK
 ·exact Ω
 ·exact d8.trans (congrArg AO.dict (wM h9))
def sL (T:List TR)(t:Nat):Prop:=t<T.length/\∀p∈parts T t,di T p
theorem ew {T:List TR}(h:bu T){p:Nat}(hp:di T p):p≠0/\p≠13/\p≠14/\p≠15/\p≠2:=by
 refine h.first.elim λX Xh=>?_
 subst Xh;refine a6 hp λx hx hf hk=>?_
 refine⟨?_,?_,?_,?_,?_⟩<;>rintro rfl<;>rw[OY (by decide)]at hx<;>simp[b6]at hx<;>subst hx<;>simp at hk
theorem Ep {ρ:Loc}{it:IE}{ss:List IS}{K:Fl->Loc->St->Prop}(hg:σ.g g=.dict (cW l))(h2:ρ 2=some (.ref g))(hi:Ev n it ρ σ (.tup (ps.map af)))(hl:(ps.foldl cq l).length<1000)(H:∀o σ',σ'.g g=.dict (cW (ps.foldl cq l))->aN (λq=>q=g) σ σ'->XS n ss (ρ.opt 4 o) σ' K) :
  XS n (.loop (.loc 4) it [.Ξ (.loc 2) (.loc 4) (.const (.int 1))]::ss) ρ σ K:=by
 refine wA ps (λp σ'=>σ'.g g=.dict (cW (p.foldl cq l))/\aN (λq=>q=g) σ σ') hi rfl ⟨hg,aN.refl⟩ ?_ λo σ' h=>H o σ' h.1 h.2;rintro p c r σ' e ⟨g',s'⟩
 have hle:(p.foldl cq l).length<=(ps.foldl cq l).length:=by(refine ad e ?_;refine ad P8 ?_);exact gL
 refine Ξ rfl (aj h2) rfl (eG g' rfl gK (by(refine ad wL ?_);exact Mp hle (OD hl (LL rfl)))) (nil ⟨rfl,d8.trans ?_,s'.trans (aN.set rfl)⟩)
 (refine ad P8 ?_);exact congrArg AO.dict wK
theorem yM (h:1∉ps):aU T ps=match bC T ps with
  |[]=>(T,2)
  |[x]=>(T,x)
  |K=>(b7 T (.ο K),dr T (.ο K)):=if_neg h
theorem Er (h:(bd ps).length<64):(bC T ps).length<=64:=by
 exact Lk (Wr _ _) (by(refine ad jY ?_);exact NN h)
theorem wN {X:V}(h:aY σ b T)(hX:∀σ,bV σ X=some (ts.map af,none))(ht:∀t∈ts,sL T t)(hk:(bd (ts.flatMap (parts T))).length<64)(hl:T.length<1000000)
  (H:∀σ',aY σ' b (aU T (ts.flatMap (parts T))).1->aN b.own σ σ'->Q (af (aU T (ts.flatMap (parts T))).2) σ'):XC (n+3) 19 [.ref b.t,X] σ Q:=by
 obtain⟨lt,-,-,-,-,ok⟩:=id h;have nb:b.t≠σ.n/\b.r≠σ.n/\b.i≠σ.n:=⟨MC lt.1,MC lt.2.1,MC lt.2.2⟩;have tab:∀{σ'},aN (λq=>q=σ.n) (σ.new (.dict [])) σ'->aY σ' b T:=λs=>(h.same (X:=λ_=>False) aN.new id id id).same s nb.1 nb.2.1 nb.2.2;refine ay rfl rfl (bY (gE (fu ts (λp J' σ'=>J' 0=some (.ref b.t)/\J' 2=some (.ref σ.n)/\σ'.g σ.n=.dict (cW (bd (p.flatMap (parts T))))/\aN (λq=>q=σ.n) (σ.new (.dict [])) σ') rfl (hX _) ⟨rfl,rfl,iw,aN.refl⟩ ?_ ?_)))
 ·rintro p t r J' σ' e ⟨q0,q2,g',s'⟩
  have ek:bd ((p++[t]).flatMap (parts T))=(parts T t).foldl cq (bd (p.flatMap (parts T))):=by
   unfold bd;rw[TZ,P8,QG,T9,Mz]
  have hle:((parts T t).foldl cq (bd (p.flatMap (parts T)))).length<1000:=by
   have e2:ts=(p++[t])++r:=by rw[e,Mh];rfl
   refine aR ek ?_;rw[e2,TZ]at hk
   exact OD (Mp ng hk) (by decide)
  exact Ep g' q2 (aH (ae (aj q0) (ae rfl av)) (kM (n:=n+1) (tab s') (ht t (e▸MB p LI)).1)) hle λo Lu g2 s2=>nil ⟨q0,q2,ek▸g2,s'.trans s2⟩
 rintro J' σ' ⟨q0,q2,g',s'⟩
 generalize NL:ts.flatMap (parts T)=ps at *
 have PR:∀p∈ps,di T p:=λp hp=>by
  rw[<- NL]at hp;refine ag (Ua.mp hp) λt h1 h2=>?_;exact(ht t h1).2 p h2
 have bad:∀q,(∀p,di T p->p≠q)->q∉bd ps:=λq hq hm=>hq q (PR q (bN.mp hm)) rfl;have pre:∀{Ls},aN (λq=>q=σ.n) (σ.new (.dict [])) Ls->aN b.own σ Ls:=λs=>(aN.refl.fresh s).mono λ_ z=>False.elim z;refine cV (aH (ae (aj q2) av) (JT (n:=n+1) g' (bad 0 λp hp=>(ew ok hp).1) (bad 13 λp hp=>(ew ok hp).2.1))) ?_
 by_cases h1:1∈bd ps
 ·refine ad (if_pos h1) ?_
  refine dH (l4 rfl rfl) (by decide) (ret rfl ?_)
  have:=H σ'
  unfold aU at this;replace this:=(if_pos (bN.mp h1))▸this;exact this (tab s') (pre s')
 refine ad (if_neg h1) ?_;have hR:=yM (T:=T) λq=>h1 (bN.mpr q)
 refine bq (l4 rfl rfl) (by decide) (nil (expr (az (ae (aj q2) av) (H5 (n:=n+1) g' (bad 14 λp hp=>(ew ok hp).2.2.1) (bad 15 λp hp=>(ew ok hp).2.2.2.1) (OD hk (by decide)) λLu g2 s2=>⟨rfl,?_⟩))))
 have s3:=s'.trans s2;have T2:=tab s3;have S2:=pre s3
 refine bY (dX (dD (cU (ae (aj q2) av) (u3 g2 hk)) (wy (f:=af) (g:=af) (gM (bd ps)) (λr ys σ'=>σ'=Lu/\(∀p∈r,di T p)/\ys++r.filter (fV T (bd ps))=bC T ps) rfl (by(refine ad jY ?_);exact OD hk (LL rfl)) ⟨rfl,λp hp=>PR p (bN.mp (fz.mp hp)),rfl⟩ ?_ ?_)))
 ·rintro p r ys σ' ⟨rfl,hr,e⟩;have hr:=Qb.mp hr;refine l6 (dD (aH (ae (aj q0) (ae (aj q2) (ae rfl av))) (Eo (n:=n) T2 g2 hr.1)) ⟨_,rfl,?_⟩);rw[OE]at e;rcases hs:fV T (bd ps) p with _|_
  ·rw[hs]at e;exact⟨rfl,hr.2,e⟩
  ·rw[hs]at e;exact dD rfl ⟨p,rfl,rfl,hr.2,by rw[Mh];exact e⟩
 rintro ys σ' ⟨rfl,-,e⟩;refine ad ((Mz ys).symm.trans e) ?_;have Yl:=Er (T:=T) hk
 generalize bC T ps=K at hR Yl
 have res:=H;rw[hR]at res
 match K with
 |[]=>exact dH (p:=True) ⟨_,true,rfl,rfl,by simp⟩ trivial (ret rfl (res σ' T2 S2))
 |[x]=>exact bq (p:=False) ⟨_,false,rfl,rfl,by simp⟩ id (nil (dH (aA rfl rfl) rfl (ret rfl (res σ' T2 S2))))
 |x::y::K=>
  refine bq (p:=False) ⟨_,false,rfl,rfl,by simp⟩ id (nil (a9 (aA (fU (f:=af) (l:=x::y::K) rfl) rfl) (λq=>?_) λ_=>a9 (jU (fU (f:=af) (l:=x::y::K) rfl) rfl) (λq=>?_) λ_=>?_))
  ·exact absurd (L9.mp q) (by(refine ad P5 ?_;refine ad P5 ?_);exact λh=>nomatch Nat.succ.inj h)
  ·exact absurd (L1 (Ot.mp q) Yl) (by decide)
  ·obtain⟨-,-,⟨fs,a1,-⟩,-⟩:=id T2;exact dF (bp (aj q0) rfl a1 rfl (jl (n:=n+1) (x:= .ο (x::y::K)) T2 rfl hl λLY T3 s3=>res LY T3 (S2.trans s3)))
end
end
noncomputable section
noncomputable def yN:List TR:=[.atom 4,.atom 5,.atom 6,.atom 7]
noncomputable def sM (T:List TR):Nat:=(yN.filter λx=>decide (x∉T)).length
noncomputable def ν (T:List TR):Nat:=T.length+sM T
theorem Es (T X:List TR):sM (T++X)<=sM T:=by
 have:∀l:List TR,(l.filter λx=>decide (x∉T++X)).length<=(l.filter λx=>decide (x∉T)).length:=by
  intro l
  induction l with
  |nil=>exact Lv _
  |cons a l ih=>
   (refine ad OE ?_;refine ad OE ?_)
   by_cases h1:a∈T
   ·have h2:a∈T++X:=by simp[h1]
    simp only[h1,h2,not_true_eq_false,decide_false,PA,if_false];exact ih
   ·by_cases h2:a∈X
    ·have h3:a∈T++X:=by simp[h2]
     simp only[h1,h3,not_true_eq_false,not_false_eq_true,decide_false,decide_true,PA,if_false,if_true,P5];exact Lk (by assumption) (Mf _)
    ·have h3:a∉T++X:=by simp[h1,h2]
     simp only[h1,h3,not_false_eq_true,decide_true,if_true,P5];exact NI (by assumption)
 exact this yN
theorem Bv {T:List TR}{x:TR}(hx:x∈yN)(hn:x∉T):sM (T++[x])+1<=sM T:=by
 have:∀l:List TR,l.Nodup->x∈l->(l.filter λy=>decide (y∉T++[x])).length+1<=(l.filter λy=>decide (y∉T)).length:=by
  intro l
  induction l with
  |nil=>intro _ h;contradiction
  |cons a l ih=>
   intro hd h;rw[Ny]at hd
   (refine ad OE ?_;refine ad OE ?_)
   by_cases e:a=x
   ·subst e
    have h3:a∈T++[a]:=by simp
    simp only[hn,h3,not_true_eq_false,not_false_eq_true,decide_false,decide_true,PA,if_false,if_true,P5]
    have:(l.filter λy=>decide (y∉T++[a]))=l.filter λy=>decide (y∉T):=by
     apply Wq
     intro y hy
     have:y≠a:=λq=>hd.1 (q▸hy)
     simp[this]
    (refine ad this ?_);exact Lv _
   ·have hm:=ih hd.2 ((L7.mp h).resolve_left λq=>e q.symm)
    by_cases h1:a∈T
    ·have h2:a∈T++[x]:=by simp[h1]
     simp only[h1,h2,not_true_eq_false,decide_false,PA,if_false];exact hm
    ·have h2:a∉T++[x]:=by simp[h1,e]
     simp only[h1,h2,not_false_eq_true,decide_true,if_true,P5];exact NI (by assumption)
 exact this yN (by decide) hx
theorem wO {T:List TR}{x:TR}:ν (b7 T x)<=ν T+1:=by
 unfold ν b7
 split
 ·exact Mf _
 ·have:=Es T [x]
  simp only[LH,Ub];exact Ll [_,_,_] 1 (.a (.a M2 On) No) (.a (.a M2 NE) On) [(1,No,NE)] rfl this
theorem oi {T:List TR}(h:bu T){x:TR}(hx:x∈b6):x∈T:=by
 refine h.first.elim λX Xg=>?_
 refine ad Xg ?_
 simp[hx]
set_option tactic.hygienic true in
theorem Bw {T:List TR}(h:bu T){a:Nat}(ha:a<=10):ν (b7 T (.atom a))<=ν T:=by
 unfold ν b7
 split
 ·exact Lv _
 ·rename_i hn
  have hx:TR.atom a∈yN:=by
   have:∀a,a<11->TR.atom a∈b6\/TR.atom a∈yN:=by decide
   exact(this a (NI (by assumption))).resolve_left λq=>hn (oi h q)
  have:=Bv hx hn
  simp only[LH,Ub];exact Ll [_,_,_] 1 (.a (.a M2 On) No) (.a M2 NE) [(1,.a No On,NE)] rfl this
theorem yO {T:List TR}(h:bu T){x:TR}(hx:x∈b6):b7 T x=T/\dr T x=b6.idxOf x:=by
 have hm:=oi h hx
 refine h.first.elim λX e34=>?_
 subst e34
 refine⟨by unfold b7;(refine ad (if_pos hm) ?_;rfl),?_⟩
 unfold dr
 (refine ad List.idxOf_append ?_;refine ad (if_pos hx) ?_;rfl)
section
variable {n a:Nat}{σ:St}{b:TB}{T:List TR}{Q:V->St->Prop}
theorem two {a:Nat}(h:a<=1):a=0\/a=1:=by lia
theorem Bx (h:aY σ b T)(ha:a<=1)(hl:T.length<1000000)(H:∀σ',aY σ' b (b7 T (.atom (a+2)))->aN b.own σ σ'->Q (af (dr T (.atom (a+2)))) σ'):XC (n+2) 7 [.ref b.t,af a] σ Q:=by
 obtain⟨-,-,⟨fs,a1,-⟩,-⟩:=id h;refine Lr (two ha) (λRV=>?_) λRU=>?_
 ·subst RV;exact fK rfl ⟨Lv 2,Mf 2⟩ (dF (bp rfl rfl a1 rfl (jl (x:= .atom 2) h rfl hl H)))
 ·subst RU;exact fK rfl ⟨Lv 2,Mf 2⟩ (dF (bp rfl rfl a1 rfl (jl (x:= .atom 3) h rfl hl H)))
theorem FC (h:aY σ b T)(ha:a<=1)(hl:T.length<1000000)(H:∀σ',aY σ' b (b7 T (.atom (a+4)))->aN b.own σ σ'->Q (af (dr T (.atom (a+4)))) σ'):XC (n+2) 6 [.ref b.t,af a] σ Q:=by
 obtain⟨-,-,⟨fs,a1,-⟩,-⟩:=id h;refine Lr (two ha) (λRQ=>?_) λVc=>?_
 ·subst RQ;exact fK rfl ⟨Lv 2,Mf 2⟩ (dF (bp rfl rfl a1 rfl (jl (x:= .atom 4) h rfl hl H)))
 ·subst Vc;exact fK rfl ⟨Lv 2,Mf 2⟩ (dF (bp rfl rfl a1 rfl (jl (x:= .atom 5) h rfl hl H)))
theorem FD (h:aY σ b T)(ha:a<=1)(hl:T.length<1000000)(H:∀σ',aY σ' b (b7 T (.atom (a+6)))->aN b.own σ σ'->Q (af (dr T (.atom (a+6)))) σ'):XC (n+2) 5 [.ref b.t,.str [97+a]] σ Q:=by
 obtain⟨-,-,⟨fs,a1,-⟩,-⟩:=id h;refine Lr (two ha) (λo8=>?_) λo9=>?_
 ·subst o8;exact fK rfl ⟨Lv 2,Mf 2⟩ (dF (bp rfl rfl a1 rfl (jl (x:= .atom 6) h rfl hl H)))
 ·subst o9;exact fK rfl ⟨Lv 2,Mf 2⟩ (dF (bp rfl rfl a1 rfl (jl (x:= .atom 7) h rfl hl H)))
theorem wQ {e:Nat}{ro:Bool}(h:aY σ b T)(hl:T.length<1000000)(H:∀σ',aY σ' b (b7 T (.arr e ro))->aN b.own σ σ'->Q (af (dr T (.arr e ro))) σ'):XC (n+2) 8 [.ref b.t,af e,jV ro] σ Q:=by
 obtain⟨-,-,⟨fs,a1,-⟩,-⟩:=id h;exact fK rfl ⟨Mf 2,Lv 3⟩ (dF (bp rfl rfl a1 rfl (jl (x:= .arr e ro) h rfl hl H)))
noncomputable def H6:List V:=[.int 4,.int 5,.int 0,.int 0,.int 0,.int 0,.int 0,.int 0,.int 6,.int 7,.int 1]
noncomputable def By (a:Nat):Bool:=decide (TR.atom a∈b6)&&decide (H6[a]?=some (af (b6.idxOf (.atom a))))
theorem Bz:∀a,a<11->(decide (2<=a)&&decide (a<=7)||By a)=true:=by decide +kernel
theorem yP {a b:Nat}(h:¬((a:Int)=(b:Int))):a≠b:=λq=>h (congrArg Mi q)
theorem H7 (h:aY σ b T)(ha:a<=10)(hl:T.length<1000000)(H:∀σ',aY σ' b (b7 T (.atom a))->aN b.own σ σ'->Q (af (dr T (.atom a))) σ'):XC (n+3) 81 [.ref b.t,af a] σ Q:=by
 refine ay rfl rfl (a9 (cK (aA rfl rfl) (bL (aA rfl rfl))) (λq=>?_) λq2=>a9 (cK (aA rfl rfl) (bL (aA rfl rfl))) (λq=>?_) λq4=>a9 (cK (aA rfl rfl) (bL (aA rfl rfl))) (λq=>?_) λq6=>?_)
 ·rcases q with q|q
  ·obtain rfl:=L9.mp q;exact dG rfl (Bx (a:=0) h (by decide) hl H)
  ·obtain rfl:=L9.mp q;exact dG rfl (Bx (a:=1) h (by decide) hl H)
 ·refine Lr q (λq=>?_) λq=>?_
  ·obtain rfl:=L9.mp q;exact dG rfl (FC (a:=0) h (by decide) hl H)
  ·obtain rfl:=L9.mp q;exact dG rfl (FC (a:=1) h (by decide) hl H)
 ·rcases q with q|q
  ·obtain rfl:=L9.mp q;exact dG rfl (FD (a:=0) h (by decide) hl H)
  ·obtain rfl:=L9.mp q;exact dG rfl (FD (a:=1) h (by decide) hl H)
 ·rw[not_or]at q2 q4 q6
  have:=(OH _ _).mp (Bz a (NI ha))
  rw[MW,decide_eq_true_eq,decide_eq_true_eq]at this
  have:=this.resolve_left λq=>by
   have:=yP q2.1;have:=yP q2.2;have:=yP q4.1;have:=yP q4.2;have:=yP q6.1;have:=yP q6.2
   lia
  rw[By,MW,decide_eq_true_eq,decide_eq_true_eq]at this;refine this.elim λm at_=>?_;obtain⟨p1,p2⟩:=yO h.ok m;rw[p1,p2]at H;exact ret (ai rfl rfl (HO.trans at_)) (H σ h aN.refl)
end
noncomputable abbrev El:=Nat×Nat
noncomputable def fB (ms:List Nat)(E:List El):Int:=(E.zipIdx.foldl (λacc p=>if p.1.2∈ms then((p.2:Nat):Int)else acc) (-1))
theorem mi {ms:List Nat}{E:List El}{p:El}:fB ms (E++[p])=if p.2∈ms then((E.length:Nat):Int)else fB ms E:=by
 unfold fB
 (refine ad Y1 ?_;refine ad P8 ?_)
 simp
theorem hU {α:Type}{l:List α}{i:Nat}{a:α}(h:l[i]?=some a):l.take (i+1)=l.take i++[a]:=by(refine ad List.take_add_one ?_;refine ad h ?_);rfl
set_option tactic.hygienic true in
theorem kr {ms:List Nat}{E:List El}:∀i,i<=E.length->-1<=fB ms (E.take i)/\fB ms (E.take i)<i/\∀k:Int,(-1<=k)->(∀(j:Nat) (p:El),j<i->E[j]?=some p->p.2∈ms->(j:Int)<=k)->fB ms (E.take i)<=k
 |0,_=>by
  (refine ad WY ?_;refine ad (show fB ms []=-1 from rfl) ?_)
  exact⟨WA _,by decide,λk hk _=>hk⟩
 |i+1,h=>by
  refine vA (kr (ms:=ms) (E:=E) i (NN (by assumption))) λh1 h2 h3=>?_
  have hi:E[i]?=some (E[i]'(by assumption)):=MU (by assumption)
  have My:(E.take i).length=i:=by(refine ad Qg ?_);lia
  (refine ad (hU hi) ?_;refine ad mi ?_;refine ad My ?_)
  split
  ·rename_i hm
   refine⟨(Int.ofNat_nonneg _),by lia,λk hk hj=>?_⟩
   have:=hj i _ (Oe _) hi hm
   exact by assumption
  ·refine⟨(by assumption),by lia,λk hk hj=>h3 k hk λj p Rb=>hj j p (PD (by assumption))⟩
theorem mj {ms:List Nat}{E:List El}{k:Int}(hk:-1<=k)(h:∀(j:Nat) (p:El),E[j]?=some p->p.2∈ms->(j:Int)<=k):fB ms E<=k:=by
 have:=(kr (ms:=ms) (E:=E) E.length (Lv _)).2.2 k hk λj p _=>h j p
 rwa [QH]at this
noncomputable def Kj (ms:List Nat):V:= .tup (ms.map af)
theorem FE {ms:List Nat}{m:Nat}{σ:St}:dQ .isin σ (.int m) (Kj ms)=some (decide (m∈ms)):=by
 have:=mf (l:=ms.map Mi) (i:=(m:Int)) (σ:=σ)
 rw[Ml]at this;unfold Kj
 (refine ad (show ms.map af=ms.map (V.int∘Mi)from rfl) ?_;refine ad this ?_)
 congr 1
 rw[QL,PB,decide_eq_true_eq,MH]
 constructor
 ·intro ZL;refine ag ZL λa ha e=>?_
  have:a=m:=Mi.inj e
  exact this▸ha
 ·intro h;exact⟨m,h,rfl⟩
theorem FF {E:List El}{i:Nat}{p:El}(h:E[i]?=some p):(E.map bB)[i]?=some (bB p):=by(refine ad M8 ?_;refine ad h ?_);rfl
def eH (X:V)(E:List El):Prop:=X=.lst (E.map bB)\/X=.tup (E.map bB)
section
variable {n i:Nat}{σ:St}{b:TB}{T:List TR}{E:List El}{ms:List Nat}{X t:V}{p:El}{ρ:Loc}{e1 e2:IE}{Q:V->St->Prop}
theorem eI (h:eH X E)(h1:Ev n e1 ρ σ X):Ev n (.bi .len [e1]) ρ σ (af E.length):=by
 rcases h with rfl|rfl
 ·exact fU h1
 ·exact cU (ae h1 av) (congrArg (λk=>some (af k)) (LN ..))
theorem ml (h:eH X E)(hl:E.length<=1000)(h1:Ev n e1 ρ σ X):Ev n (.bi .range [.bi .len [e1]]) ρ σ (.rng 0 (E.length:Int)):=cU (ae (eI h h1) av) (iy (Lk hl (LL rfl)))
theorem fW (h:eH X E)(hi:E[i]?=some p)(h1:Ev n e1 ρ σ X)(h2:Ev n e2 ρ σ (af i)):Ev n (.sub e1 e2) ρ σ (bB p):=by
 rcases h with rfl|rfl
 ·exact ai h1 h2 (HO.trans (FF hi))
 ·exact ai h1 h2 (HO.trans (FF hi))
theorem u4 (h:eH X E):bV σ X=some (E.map bB,none):=by rcases h with rfl|rfl<;>rfl
theorem jn {i:Nat}(hi:i<E.length):∃p,E[i]?=some p/\E.take (i+1)=E.take i++[p]:=⟨_,MU hi,hU (MU hi)⟩
theorem u5 (hX:eH X E)(hl:E.length<=1000):aI prog (n+1) 9 [X,Kj ms] σ=some (.int (fB ms E),σ):=by
 refine XC.eq (ay rfl rfl (cV rfl (gI E.length (λi J' σ'=>σ'=σ/\J' 0=some X/\J' 1=some (Kj ms)/\J' 2=some (.int (fB ms (E.take i)))) (ml hX hl rfl) dZ ⟨rfl,rfl,rfl,rfl⟩ ?_ ?_)))
 ·rintro i J' σ' hi ⟨Nj,q0,q1,q2⟩;refine ag (jn hi) λp hp tk=>?_;have ls:=mi (ms:=ms) (E:=E.take i) (p:=p);rw[<- tk,Qg,QK (NN hi)]at ls;refine a9 (p:=p.2∈ms) (gD (ai (fW hX hp (aj q0) rfl) rfl rfl) (aj q1) FE decide_eq_true_iff) (λhm=>?_) λhm=>?_
  ·exact cV rfl (nil (nil ⟨Nj,q0,q1,by(refine ad ls ?_;refine ad (if_pos hm) ?_);rfl⟩))
  ·exact nil ⟨Nj,q0,q1,by(refine ad ls ?_;refine ad (if_neg hm) ?_);exact q2⟩
 ·rintro J' σ' ⟨Nj,q0,q1,q2⟩;replace q2:=QH▸q2;exact ret (aj q2) ⟨rfl,Nj⟩
def Et (E:List El):Prop:=∀(i:Nat) (p:El),E[i]?=some p->p.2=1->∀(j:Nat) (q:El),E[j]?=some q->q.2=0->j<=i
def Eu (E:List El):Prop:=∀(i:Nat) (p:El),E[i]?=some p->p.2=2->∀(j:Nat) (q:El),E[j]?=some q->(q.2=2\/q.2=1)->j<=i
theorem BA {k:Nat}:(-1:Int)<=k:=Rx (by decide) (Nq k)
theorem BB (hl:E.length<=1000)(hn:Et E)(H:∀σ',jw σ σ'->Q (.lst (E.map bB)) σ'):XC (n+2) 10 [t,.lst (E.map bB)] σ Q:=by
 have hX:eH (.lst (E.map bB)) E:= .inl rfl;refine ay rfl rfl (cV (aH rfl (u5 (n:=n) (ms:=[0]) hX hl)) (bY (dE (iu (gI E.length (λi J' σ'=>J' 1=some (.lst (E.map bB))/\J' 2=some (.int (fB [0] E))/\J' 3=some (.ref σ.n)/\σ'.g σ.n=.list ((E.take i).map bB)/\aN (λq=>q=σ.n) (σ.new (.list [])) σ') (ml hX hl rfl) dZ ⟨rfl,rfl,rfl,iw,aN.refl⟩ ?_ ?_)))))
 ·rintro i J' σ' hi ⟨q1,q2,q3,g',s'⟩;refine ag (jn hi) λp hp tk=>?_;refine DW (fW hX hp (aj q1) rfl) rfl (HM (cF (aA rfl rfl) (bJ (ip rfl (aj q2)))) (λq=>?_) λ_=>expr (l5 (v:=bB p) (aj q3) rfl g' ?_ ⟨rfl,nil (nil ⟨q1,q2,q3,d8.trans ?_,s'.trans (aN.set rfl)⟩)⟩))
  ·refine absurd q.2 (Od.mpr (mj BA λj r hj hr=>M1.mpr (hn i p hp (L9.mp q.1) j r hj (LV.mp hr))))
  ·rw[LN,Qg];exact Mp (Lk (WT _ _) hl) (LL rfl)
  ·rw[tk,fv]
 ·rintro J' σ' ⟨q1,q2,q3,g',s'⟩;rw[QH]at g';exact freeze q3 (hJ g') (ret rfl (H _ ((aN.refl.fresh s').abt (Lv _))))
theorem H8 (hl:E.length<=1000)(hr:Eu E):aI prog (n+2) 11 [t,.lst (E.map bB)] σ=some (.lst (E.map bB),σ):=by
 have hX:eH (.lst (E.map bB)) E:= .inl rfl
 refine XC.eq (ay rfl rfl (cV rfl (gI E.length (λi J' σ'=>σ'=σ/\J' 1=some (.lst (E.map bB))/\∃f:Int,J' 2=some (.int f)/\(f<0\/fB [2,1] E<=f)) (ml hX hl rfl) dZ ⟨rfl,rfl,-1,rfl,.inl (by decide)⟩ ?_ ?_)))
 ·rintro i J' σ' hi ⟨Nj,q1,f,q2,hf⟩;refine ag (jn hi) λp hp tk=>?_;refine a9 (cF (ip (aj q2) rfl) (bJ (aA (ai (fW hX hp (aj q1) rfl) rfl rfl) rfl))) (λq=>cV rfl (nil (nil ⟨Nj,q1,_,rfl,.inr ?_⟩))) λ_=>nil ⟨Nj,q1,f,q2,hf⟩
  exact mj BA λj r hj L6=>M1.mpr (hr i p hp (L9.mp q.2) j r hj (by simpa using L6))
 ·rintro J' σ' ⟨Nj,q1,f,q2,hf⟩;refine cV (aH (ae (aj q1) (ae (eD rfl) av)) (u5 (n:=n) (ms:=[2,1]) hX hl)) (dH (cK (ip (aj q2) rfl) (bL (JF rfl (aj q2)))) hf (ret (aj q1) ⟨rfl,Nj⟩))
theorem Ew (hi:Ev n e1 ρ σ (.lst (E.map bB)))(hl:E.length<=1000):Ev n (.comp (.tup [.loc 3,.loc 4]) (.tup [3,4]) e1 []) ρ σ (.lst (E.map bB)):=by
 have key:∀(all:List V) (r ys:List El) (J':Loc),ys.length+r.length<=1000->iV (.tup [3,4]) none all (λρ σ=>dk prog (aI prog n) [] ρ σ) (λρ σ=>cm prog (aI prog n) (.tup [.loc 3,.loc 4]) ρ σ) (r.map bB) (ys.map bB) J' σ=some ((ys++r).map bB,σ):=by
  intro all r
  induction r with
  |nil=>intro ys J' _;rw[Mz];rfl
  |cons p r ih=>
   intro ys J' h
   have h':(ys++[p]).length+r.length<=1000:=by rw[LH,Ov,PX [p].length];exact h
   have:=ih (ys++[p]) ((J'.set 3 (af p.1)).set 4 (af p.2)) h'
   rw[Mh,<- fv]at this;refine(if_pos rfl).trans (bs (s:=(J'.set 3 (af p.1)).set 4 (af p.2)) rfl ?_);refine bs (s:=(true,σ)) rfl ?_;refine(if_pos rfl).trans ((if_pos ?_).trans this);rw[LN];exact Mp (Lk (Me _ _) h) (LL rfl)
 exact bs hi (bs (s:=(E.map bB,none)) rfl (bs (key _ E [] _ (by rw[Ug,Nf];exact hl)) rfl))
theorem Ex {ro:Bool}(h:aY σ b T)(hl:E.length<=1000)(hT:T.length<1000000)(hs:∀p∈E,p.2<=2)(hn:Et E)(hr:Eu E)(h1:∀x,E≠[(x,2)])(H:∀σ',aY σ' b (b7 T (.tup E ro))->aN b.own σ σ'->Q (af (dr T (.tup E ro))) σ') :
  XC (n+3) 12 [.ref b.t,.lst (E.map bB),jV ro] σ Q:=by
 have hX:eH (.lst (E.map bB)) E:= .inl rfl
 have O5:fB [3] E<0:=WV (mj (k:=-1) (by decide) λj q hj hq=>absurd (hs q (MI hj)) (by(refine ad (LV.mp hq) ?_);decide)) (by decide)
 refine fK rfl ⟨Mf 2,Lv 3⟩ (cV (Ew rfl hl) (dH (ip (aH rfl (u5 (n:=n+1) (ms:=[3]) hX hl)) rfl) O5 (bY (jf (bM (dD rfl (dC (az rfl (BB (n:=n) hl hn λLG s1=>⟨_,_,H8 (n:=n) hl hr,a9 (p:=(E.length:Int)=1/\∃p,E=[p]/\(p.2:Int)=2) (cY (aA (eI hX rfl) rfl) λq1=>bJ ?_) (λq=>?_) λ_=>nil ?_⟩)))))))))
 ·refine(P0.mp (L9.mp q1)).elim λp Td=>?_;subst Td
  exact Tp.iff (aA (j:=(p.2:Int)) (ai (fW hX (i:=0) rfl rfl rfl) rfl rfl) rfl) ⟨λq=>⟨p,rfl,q⟩,λZ3=>ag Z3 λp' e q=>by rcases e with _|_;exact q⟩
 ·obtain⟨-,p,e,q⟩:=q;have q2:p.2=2:=L9.mp q;exact absurd (q2▸(show E=[(p.1,p.2)]from e)) (h1 p.1)
 ·have T1:aY LG b T:=h.same s1 id id id;obtain⟨-,-,⟨fs,a1,-⟩,-⟩:=id T1;exact dF (bp rfl (ae (eD (ae rfl (ae (cU rfl rfl) (ae rfl av)))) av) a1 rfl (jl (n:=n+1) (x:= .tup E ro) T1 rfl hT λLu T2 s2=>H Lu T2 ((s1.mono λ_ z=>False.elim z).trans s2)))
end
end
noncomputable section
section
variable {β γ:Type}{R R':β->γ->Prop}
theorem F2.ind {P:List β->List γ->Prop}(h0:P [] [])(h1:∀a b l k,R a b->F2 R l k->P l k->P (a::l) (b::k)):∀{l:List β} {k:List γ},F2 R l k->P l k
 |[],[],_=>h0
 |a::l,b::k,h=>h1 a b l k h.1 h.2 (F2.ind h0 h1 h.2)
 |[],_::_,h=>h.elim
 |_::_,[],h=>h.elim
theorem F2.mono {l:List β}{k:List γ}(h:F2 R l k)(f:∀x y,R x y->R' x y):F2 R' l k:=F2.ind (P:=F2 R') trivial (λa b l k r _ ih=>⟨f a b r,ih⟩) h
theorem F2.left {l:List β}{k:List γ}(h:F2 R l k){x:β}:x∈l->∃y∈k,R x y:=F2.ind (P:=λl k=>x∈l->∃y∈k,R x y) (λh=>nomatch h) (λa b l k r _ ih m=>(L7.mp m).elim (λe=>⟨b,LI,e▸r⟩) λm=>ag (ih m) λy hy ry=>⟨y,L8 _ hy,ry⟩) h
theorem F2.right {l:List β}{k:List γ}(h:F2 R l k){y:γ}:y∈k->∃x∈l,R x y:=F2.ind (P:=λl k=>y∈k->∃x∈l,R x y) (λh=>nomatch h) (λa b l k r _ ih m=>(L7.mp m).elim (λe=>⟨a,LI,e▸r⟩) λm=>ag (ih m) λy hy ry=>⟨y,L8 _ hy,ry⟩) h
theorem F2.aby {l:List β}{k:List γ}(h:F2 R l k):l=[]↔k=[]:=by
 rw[<- Uc,<- Uc,h.len]
end
def pre (T T':List TR):Prop:=∃X,T'=T++X
theorem pre.refl (T:List TR):pre T T:=⟨[],by simp⟩
theorem pre.trans {T T' Ti:List TR}(a:pre T T')(b:pre T' Ti):pre T Ti:=by
 obtain⟨X,rfl⟩:=a;obtain⟨Y,rfl⟩:=b;exact⟨X++Y,by simp⟩
theorem pre.get {T T':List TR}(h:pre T T'){i:Nat}{x:TR}(e:T[i]?=some x):T'[i]?=some x:=by
 obtain⟨X,rfl⟩:=h
 (refine ad (OY (Mt.mp e).1) ?_);exact e
theorem pre.len {T T':List TR}(h:pre T T'):T.length<=T'.length:=by obtain⟨X,rfl⟩:=h;simp
theorem pre.get' {T T':List TR}(h:pre T T'){i:Nat}(hi:i<T.length):T'[i]?=T[i]?:=by
 (refine ad (MU hi) ?_);exact h.get (MU hi)
theorem eX (T:List TR)(x:TR):pre T (b7 T x):=Bm T x
theorem pre.parts {T T':List TR}(h:pre T T'){e:Nat}(he:e<T.length):parts T' e=parts T e:=by
 unfold Mine.Internal.parts;(refine ad (h.get' he) ?_;rfl)
set_option genInjectivity true in
structure Sq where
 h:List Nat
 o:List Nat
 r:List Nat
 t:List Nat
 ro:Bool
noncomputable def Sq.all (a:Sq):List Nat:=a.h++a.o++a.r++a.t
noncomputable def Sq.ι (a:Sq):List El:=a.h.map (λe=>(e,0))++a.o.map (λe=>(e,1))++a.r.map (λe=>(e,2))++a.t.map (λe=>(e,0))
noncomputable def Sq.row (a:Sq):TR:=match a.h,a.o,a.r,a.t with
 |[],[],[x],[]=> .arr x a.ro
 |_,_,_,_=> .tup a.ι a.ro
structure Sq.Ok (a:Sq):Prop where
 rl:a.r.length<=1
 tl:a.t≠[]->a.r≠[]/\a.o=[]
 short:a.all.length<=9
def ξ (T:List TR)(p:Nat)(a:Sq):Prop:=T[p]?=some a.row/\a.Ok
theorem Sq.abE (a:Sq):(∃x,a=⟨[],[],[x],[],a.ro⟩/\a.row=.arr x a.ro)\/(a.row=.tup a.ι a.ro/\∀x,a.ι≠[(x,2)]):=by
 obtain⟨h,o,r,t,ro⟩:=a
 match h,o,r,t with
 |[],[],[x],[]=>exact .inl ⟨x,rfl,rfl⟩
 |[],[],[],[]=>exact .inr ⟨rfl,λx h=>by contradiction⟩
 |[],[],[],_::_=>exact .inr ⟨rfl,λx h=>by simp[Sq.ι]at h⟩
 |[],[],[_],_::_=>exact .inr ⟨rfl,λx h=>by simp[Sq.ι]at h⟩
 |[],[],_::_::_,t=>exact .inr ⟨by rcases t with _|_<;>rfl,λx h=>by simp[Sq.ι]at h⟩
 |[],_::_,r,t=>exact .inr ⟨rfl,λx h=>by simp[Sq.ι]at h⟩
 |_::_,o,r,t=>exact .inr ⟨rfl,λx h=>by simp[Sq.ι]at h⟩
theorem bO (a:Sq):aba a.row=true/\((∃e ro,a.row=.arr e ro)\/∃es ro,a.row=.tup es ro):=by
 refine Lr a.abE (λVj=>?_) λVi=>?_
 ·refine ag Vj λx _ h=>?_
  (refine ad h ?_);exact⟨rfl,.inl ⟨_,_,rfl⟩⟩
 ·refine Vi.elim λh _=>?_
  (refine ad h ?_);exact⟨rfl,.inr ⟨_,_,rfl⟩⟩
theorem ξ.good {T:List TR}{p:Nat}{a:Sq}(h:ξ T p a):di T p:=⟨a.row,h.1,(bO a).1,.inr (bO a).2⟩
theorem ξ.mono {T T':List TR}{p:Nat}{a:Sq}(h:ξ T p a)(hp:pre T T'):ξ T' p a:=⟨hp.get h.1,h.2⟩
theorem fC {α:Type}[DecidableEq α]:∀{l B:List α},l.Nodup->(∀x∈l,x∈B)->l.length<=B.length
 |[],B,_,_=>LP _
 |a::l,B,hn,h=>by
  rw[Ny]at hn;have ha:=h a LI
  have:=fC (l:=l) (B:=B.erase a) hn.2 λx hx=>(List.mem_erase_of_ne (λe=>hn.1 (by(refine aR e ?_);exact hx))).mpr (h x (L8 _ hx))
  rw[List.length_erase_of_mem ha]at this;have hp:=YC ha
  (refine ad P5 ?_);exact Ll [_,_,_] 1 (.a M2 On) No [(1,M2,NE),(1,.a NE On,No)] rfl this (mL (Ll [_] 1 On M2 [(1,.a Pv On,M2)] rfl hp))
theorem oj {α:Type}(q:α->Bool):∀l:List α,l.length=(l.filter q).length+(l.filter λx=>!q x).length
 |[]=>rfl
 |a::l=>by
  (refine ad OE ?_;refine ad OE ?_;refine ad P5 ?_;refine ad (oj q l) ?_)
  cases q a<;>simp<;>lia
def LB (T:List TR)(ps:List Nat)(c:Nat):Prop:=∀l:List Nat,l.Nodup->(∀p∈l,p∈ps/\∃a,ξ T p a)->l.length<=c
structure bU (T:List TR)(e:Nat):Prop where
 good:sL T e
 ο:∀ps,T[e]?=some (.ο ps)->2<=ps.length/\ps.Pairwise (·<·)
 ne2:e≠2
 abs:∀p∈parts T e,∀x,T[p]?=some x->∀w∈parts T e,((w:Nat):Int)≠b8 x
 unk:1∈parts T e->parts T e=[1]
 few:LB T (parts T e) 40
 atm:∃p∈parts T e,∃a,a<=10/\T[p]?=some (.atom a)
theorem di.mono {T T':List TR}{p:Nat}(h:di T p)(hp:pre T T'):di T' p:=by
 refine ag h λx h1 h2=>?_;exact⟨x,hp.get h1,h2⟩
theorem sL.mono {T T':List TR}{e:Nat}(h:sL T e)(hp:pre T T'):sL T' e:=by
 refine⟨L1 h.1 hp.len,λp hm=>?_⟩;rw[hp.parts h.1]at hm;exact(h.2 p hm).mono hp
theorem bU.mono {T T':List TR}{e:Nat}(h:bU T e)(hp:pre T T'):bU T' e:=by
 have he:=h.good.1
 refine⟨h.good.mono hp,λps NL=>h.ο ps (by rw[hp.get' he]at NL;exact NL),h.ne2,λp hm x hx w hw=>?_,λhm=>?_,λl hn hl=>?_,by obtain⟨p,h1,a,h2,h3⟩:=h.atm;exact⟨p,by(refine ad (hp.parts he) ?_);exact h1,a,h2,hp.get h3⟩⟩
 ·rw[hp.parts he]at hm hw;have hg:=h.good.2 p hm;replace hx:=(hp.get' hg.lt)▸hx;exact h.abs p hm x hx w hw
 ·rw[hp.parts he]at hm⊢;exact h.unk hm
 ·replace hl:=(hp.parts he)▸hl;refine h.few l hn λp hm=>⟨(hl p hm).1,?_⟩;refine ag ((hl p hm).2) λa h1 h2=>?_;rw[hp.get' (h.good.2 p (hl p hm).1).lt]at h1;exact⟨a,h1,h2⟩
section
variable {α:Type}
noncomputable def bI (a' a:Nat):Bool:=decide (a'=a)||decide (a'=10)||(decide (a'=8)&&(decide (a=6)||decide (a=7)))||(decide (a'=9)&&(decide (a=4)||decide (a=5)))
structure kC (T:List TR)(RA:Nat->α->Prop)(P:List Nat)(k:Kd α):Prop where
 part:∀p∈P,(∃a∈k.at_,a<=10/\T[p]?=some (.atom a))\/∃s∈k.subs,RA p s
 atom:∀a∈k.at_,∃p∈P,∃a',T[p]?=some (.atom a')/\bI a' a=true
 sub:∀s∈k.subs,(∃p∈P,T[p]?=some (.atom 10))\/∃p∈P,RA p s
theorem kC.mono {T T':List TR}{RA Tj:Nat->α->Prop}{P:List Nat}{k:Kd α}(h:kC T RA P k)(hp:pre T T')(hr:∀p s,RA p s->Tj p s):kC T' Tj P k where
 part:=λp hm=>(h.part p hm).imp (λq1=>a6 q1 λa h1 h2 h3=>⟨a,h1,h2,hp.get h3⟩) λq5=>ag q5 λs h1 h2=>⟨s,h1,hr p s h2⟩
 atom:=λa ha=>by obtain⟨p,h1,a',h2,h3⟩:=h.atom a ha;exact⟨p,h1,a',hp.get h2,h3⟩
 sub:=λs hs=>(h.sub s hs).imp (λq8=>ag q8 λp h1 h2=>⟨p,h1,hp.get h2⟩) λZ5=>ag Z5 λp h1 h2=>⟨p,h1,hr p s h2⟩
structure dJ (T:List TR)(RA:Nat->α->Prop)(e:Nat)(k:Kd α):Prop where
 canon:bU T e
 rep:kC T RA (parts T e) k
theorem dJ.mono {T T':List TR}{RA Tj:Nat->α->Prop}{e:Nat}{k:Kd α}(h:dJ T RA e k)(hp:pre T T')(hr:∀p s,RA p s->Tj p s):dJ T' Tj e k:=⟨h.canon.mono hp,by(refine ad (hp.parts h.canon.good.1) ?_);exact h.rep.mono hp hr⟩
def iq (RA:List TR->Nat->α->Prop)(T:List TR)(p:Nat)(r:Rw α):Prop:=∃a:Sq,ξ T p a/\a.ro=r.ro/\F2 (dJ T (RA T)) a.h r.h/\F2 (dJ T (RA T)) a.o r.o/\F2 (dJ T (RA T)) a.r r.r/\F2 (dJ T (RA T)) a.t r.t
def iB (RA:List TR->Nat->α->Prop):Prop:=∀T T' p s,pre T T'->RA T p s->RA T' p s
def fD (RA:List TR->Nat->α->Prop):Prop:=∀T p s,RA T p s->∃a,ξ T p a
theorem iq.mono {RA:List TR->Nat->α->Prop}(h:iB RA):iB (iq RA):=by
 rintro T T' p s hp ⟨a,h1,h2,h3,h4,h5,h6⟩;have f:=λe k (q:dJ T (RA T) e k)=>q.mono hp λp s=>h T T' p s hp;exact⟨a,h1.mono hp,h2,h3.mono f,h4.mono f,h5.mono f,h6.mono f⟩
theorem iq.list {RA:List TR->Nat->α->Prop}:fD (iq RA):=λT p s z1=>ag z1 λa h _=>⟨a,h⟩
theorem bR {T:List TR}(h:bu T){p q:Nat}{x:TR}(hp:T[p]?=some x)(hq:T[q]?=some x):p=q:=by
 refine(Mt.mp hp).elim λh1 e1=>?_;refine(Mt.mp hq).elim λh2 e2=>?_;have hn:=List.pairwise_iff_getElem.mp h.nodup;refine fY (Nat.lt_trichotomy p q) (λhl=>?_) (λhl=>?_) λhl=>?_
 ·exact absurd (e1.trans e2.symm) (hn p q h1 h2 hl)
 ·exact hl
 ·exact absurd (e2.trans e1.symm) (hn q p h2 h1 hl)
theorem aG {T:List TR}(h:bu T){i:Nat}{x:TR}(hx:b6[i]?=some x):T[i]?=some x:=by
 refine h.first.elim λX Xy=>?_
 refine ad Xy ?_
 (refine ad (OY (Mt.mp hx).1) ?_);exact hx
theorem eJ:∀a,a<11->b8 (.atom a)=if a=6\/a=7 then 6 else if a=4\/a=5 then 7 else -1:=by decide
theorem ol (a:Sq):b8 a.row=-1:=by
 rcases(bO a).2 with⟨e,ro,h⟩|⟨es,ro,h⟩<;>(refine ad h ?_;rfl)
theorem eK {T:List TR}(h:bu T){p:Nat}(hp:di T p):parts T p=[p]:=by
 refine a6 (id hp) λx h1 h2 h3=>?_;unfold Mine.Internal.parts
 (refine ad (if_neg (ew h hp).2.2.2.2) ?_;refine ad h1 ?_)
 rcases h3 with⟨a,rfl⟩|⟨e,ro,rfl⟩|⟨es,ro,rfl⟩<;>rfl
theorem cz {T:List TR}{ps:List Nat}{p:Nat}:p∈bC T ps↔p∈ps/\fV T (bd ps) p=true:=by
 unfold bC;rw[QR,fz,bN]
theorem hV {T:List TR}{ps:List Nat}{p:Nat}{x:TR}(hx:T[p]?=some x):fV T (bd ps) p=true↔∀w∈ps,((w:Nat):Int)≠b8 x:=by
 unfold fV;refine ad hx ?_;simp only[Rr,jX,Y0,decide_eq_true_eq]
 constructor
 ·intro h w hw;exact h w (bN.mpr hw)
 ·intro h w hw;exact h w (bN.mp hw)
theorem sN {T:List TR}{ps:List Nat}:(bC T ps).Pairwise (·<·):=(jm fN).sublist WX
theorem Ey:∀a,a<11->b8 (.atom a)=-1\/(b8 (.atom a)=6/\bI 8 a=true)\/(b8 (.atom a)=7/\bI 9 a=true):=by decide
theorem sO {T:List TR}{ps:List Nat}{p:Nat}{x:TR}(hx:T[p]?=some x)(h:b8 x=-1):fV T (bd ps) p=true:=(hV hx).mpr λw _ q=>nomatch (q.trans h:Mi w=TX 0)
theorem H9 {a' a:Nat}(h:a'≠10)(hc:bI a' a=true)(l:a'<=10):a<=10:=by
 simp only[bI,OH,MW,decide_eq_true_eq]at hc;rcases hc with((q|q)|⟨_,q|q⟩)|⟨_,q|q⟩
 ·exact q▸l
 ·exact absurd q h
 all_goals exact q▸LL rfl
theorem Ez:∀x∈bQ,(TR.casesOn (motive:=λ_=>Bool) x (λ_=>true) (λa=>RE a 10) (λ_=>true) (λ_ _=>true) λ_ _=>true)=true:=by decide
theorem wR {RA:List TR->Nat->α->Prop}(hM:iB RA)(hL:fD RA){T:List TR}(hT:bu T){ps:List Nat}{k:Kd α}(h:kC T (RA T) ps k)(MT:k.at_≠[])(PR:∀p∈ps,di T p)(OS:LB T ps 40) :
  dJ (aU T ps).1 (RA (aU T ps).1) (aU T ps).2 k/\pre T (aU T ps).1/\ν (aU T ps).1<=ν T+1/\bu (aU T ps).1:=by
 have t1:T[1]?=some (.atom 10):=aG hT rfl;have t6:T[6]?=some (.atom 8):=aG hT rfl;have t7:T[7]?=some (.atom 9):=aG hT rfl;have g1:di T 1:=⟨_,t1,rfl,.inl ⟨_,rfl⟩⟩
 by_cases h1:1∈ps
 ·have hR:aU T ps=(T,1):=by unfold aU;(refine ad (if_pos h1) ?_;rfl)
  refine ad hR ?_;have Q9:=eK hT g1
  refine⟨⟨⟨⟨g1.lt,λp hp=>?_⟩,λq hq=>?_,show(1:Nat)≠2 from by decide,λp hp x hx w hw=>?_,λ_=>Q9,λl hn hl=>?_,⟨1,by(refine ad Q9 ?_);simp,10,Lv _,t1⟩⟩,?_⟩,pre.refl T,Mf _,hT⟩
  ·rw[Q9,LV]at hp;subst hp;exact g1
  ·replace hq:=t1▸hq;rcases hq with _|_
  ·rw[Q9,LV]at hp hw;subst hp;refine ad hw ?_;replace hx:=t1▸hx;refine aT hx ?_
   (refine ad (eJ 10 (by decide)) ?_);decide
  ·refine OS l hn λp hp=>⟨?_,(hl p hp).2⟩
   have:=(hl p hp).1
   rw[Q9,LV]at this
   (refine ad this ?_);exact h1
  ·dsimp only;refine ad Q9 ?_
   refine⟨λp hp=>?_,λa ha=>⟨1,by simp,10,t1,by simp[bI]⟩,λs hs=> .inl ⟨1,by simp,t1⟩⟩
   rw[LV]at hp;subst hp;exact h.part 1 h1
 have V9:∀p∈ps,∃q∈bC T ps,p=q\/∃a a',T[p]?=some (.atom a)/\a<=10/\T[q]?=some (.atom a')/\bI a' a=true:=by
  intro p hp;refine a6 (PR p hp) λx hx hf hk=>?_
  by_cases hs:fV T (bd ps) p=true
  ·exact⟨p,cz.mpr ⟨hp,hs⟩,.inl rfl⟩
  ·have M3:=hs;rw[hV hx]at M3;obtain⟨w,hw⟩:=Classical.not_forall.mp M3;refine(Classical.not_imp.mp hw).elim λXZ Pm=>?_;have Pm:((w:Nat):Int)=b8 x:=NV.mp Pm;refine hk.elim (λe7=>e7.elim λa e7=>?_) λe7=>?_
   ·have hx:=e7▸hx
    have ha:a<=10:=by
     refine Lr (h.part p hp) (λo58=>?_) λo59=>?_
     ·refine a6 o58 λa' h2 h3 h4=>?_;replace h4:=hx▸h4;rcases h4 with _|_;exact h3
     ·refine ag o59 λs h2 h3=>?_;refine(hL T p s h3).elim λsq Sa=>?_
      have:=Sa.1
      replace this:=hx▸this
      rcases(bO sq).2 with⟨e,ro,q⟩|⟨es,ro,q⟩<;>replace this:=q▸this<;>rcases this with _|_
    have Pm:=e7▸Pm;refine(Ey a (NI ha)).elim (λo=>nomatch (Pm.trans o:Mi w=TX 0)) λo=>o.elim (λo=>?_) λo=>?_
    ·have q:=L9.mp (Pm.trans o.1:Mi w=Mi 6);exact⟨6,cz.mpr ⟨q▸XZ,sO t6 rfl⟩,.inr ⟨a,8,hx,ha,t6,o.2⟩⟩
    ·have q:=L9.mp (Pm.trans o.1:Mi w=Mi 7);exact⟨7,cz.mpr ⟨q▸XZ,sO t7 rfl⟩,.inr ⟨a,9,hx,ha,t7,o.2⟩⟩
   ·exact e7.elim (λo=>gf o λ_ _ e7=>nomatch (Pm.trans (e7▸rfl):Mi w=TX 0)) λo=>gf o λ_ _ e7=>nomatch (Pm.trans (e7▸rfl):Mi w=TX 0)
 have Te:∀a,a<11->∀b,b<11->∀c,c<11->bI a b=true->bI b c=true->bI a c=true:=by decide
 have NY:∀p∈ps,∀a,T[p]?=some (.atom a)->a<=10:=by
  intro p hp a ha;refine a6 (PR p hp) λx hx hf _=>?_;replace hx:=ha▸hx;obtain rfl:=Option.some.inj hx;have hr:=bx hf;exact LL (Ez _ (PB.mp (show bQ.contains (.atom a)=true from hr)))
 have Na:kC T (RA T) (bC T ps) k:=by
  refine⟨λp hp=>h.part p (cz.mp hp).1,λa ha=>?_,λs hs=>?_⟩
  ·obtain⟨p,hp,a',h2,h3⟩:=h.atom a ha;have XX:=NY p hp a' h2;refine ag (V9 p hp) λq hq e=>?_;rcases e with rfl|⟨a1,a2,e1,e2,e3,e4⟩
   ·exact⟨p,hq,a',h2,h3⟩
   ·replace e1:=h2▸e1;rcases e1 with _|_;have la2:=NY q (cz.mp hq).1 a2 e3;have la:a<=10:=H9 (a':=a') (λq=>h1 (bR hT (q▸h2) t1▸hp)) h3 XX;exact⟨q,hq,a2,e3,Te a2 (NI la2) a' (NI XX) a (NI la) e4 h3⟩
  ·refine Lr (h.sub s hs) (λVq=>?_) λQo=>?_
   ·refine ag Vq λp hp h2=>?_;exact absurd (bR hT h2 t1▸hp) h1
   ·refine ag Qo λp hp h2=>?_;refine .inr ⟨p,cz.mpr ⟨hp,?_⟩,h2⟩;refine(hL T p s h2).elim λsq Sa=>?_;rw[hV Sa.1,ol];intro w _;lia
 have Wh:bC T ps≠[]:=by
  rcases hk:k.at_ with _|⟨a,l⟩
  ·exact absurd hk MT
  ·refine ag (Na.atom a (by(refine ad hk ?_);simp)) λp hp _=>?_
   exact YB hp
 have Pu:∃p∈bC T ps,∃a,a<=10/\T[p]?=some (.atom a):=by
  rcases hk:k.at_ with _|⟨a,l⟩
  ·exact absurd hk MT
  ·obtain⟨p,hp,a',h2,-⟩:=Na.atom a (by(refine ad hk ?_);simp)
   exact⟨p,hp,a',NY p (cz.mp hp).1 a' h2,h2⟩
 have Ss:∀p∈bC T ps,di T p:=λp hp=>PR p (cz.mp hp).1
 have hR:aU T ps=match bC T ps with
   |[]=>(T,2)
   |[x]=>(T,x)
   |K=>(b7 T (.ο K),dr T (.ο K)):=by exact if_neg h1
 have Pw:∀T',pre T T'->∀p∈bC T ps,∀x,T'[p]?=some x->∀w∈bC T ps,((w:Nat):Int)≠b8 x:=by
  intro T' Mn p hp x hx w hw;replace hx:=(Mn.get' (Ss p hp).lt)▸hx;refine(cz.mp hp).elim λh2 h3=>?_;rw[hV hx]at h3;exact h3 w (cz.mp hw).1
 have Pn:1∉bC T ps:=λq=>h1 (cz.mp q).1
 have Pr:∀T',pre T T'->LB T' (bC T ps) 40:=by
  intro T' Mn l hn hl;refine OS l hn λp hp=>⟨(cz.mp (hl p hp).1).1,?_⟩;refine ag ((hl p hp).2) λa h2 h3=>?_;rw[Mn.get' (Ss p (hl p hp).1).lt]at h2;exact⟨a,h2,h3⟩
 match hK:bC T ps with
 |[]=>exact absurd hK Wh
 |[x]=>
  replace hR:=hK▸hR;refine ad hR ?_
  have gx:=Ss x (by(refine ad hK ?_);simp)
  have px:=eK hT gx;rw[hK]at Na Pw Pn Pr Pu
  refine⟨⟨⟨⟨gx.lt,λp hp=>?_⟩,λq hq=>?_,(ew hT gx).2.2.2.2,?_,?_,?_,by(refine ad px ?_);exact Pu⟩,?_⟩,pre.refl T,Mf _,hT⟩
  ·rw[px,LV]at hp;refine ad hp ?_;exact gx
  ·refine a6 gx λy h2 _ h3=>?_;replace hq:=h2▸hq;obtain rfl:=Option.some.inj hq
   rcases h3 with⟨_,h⟩|⟨_,_,h⟩|⟨_,_,h⟩<;>contradiction
  ·(refine ad px ?_);exact Pw T (pre.refl T)
  ·(refine ad px ?_);exact λq=>absurd q Pn
  ·(refine ad px ?_);exact Pr T (pre.refl T)
  ·(refine ad px ?_);exact Na
 |x::y::K=>
  rw[hK]at hR;refine ad hR ?_;have NB:(b7 T (.ο (x::y::K)))[dr T (.ο (x::y::K))]?=some (.ο (x::y::K)):=jk;have Mn:=eX T (.ο (x::y::K));have NH:=wI hT (x:= .ο (x::y::K)) rfl
  have Sk:dr T (.ο (x::y::K))≠2:=λq=>by
   replace NB:=q▸NB
   have:=aG NH (i:=2) (x:= .Δ 2) rfl
   replace NB:=this▸NB;rcases NB with _|_
  have MM:parts (b7 T (.ο (x::y::K))) (dr T (.ο (x::y::K)))=x::y::K:=by
   unfold Mine.Internal.parts;(refine ad (if_neg Sk) ?_;refine ad NB ?_;rfl)
  have R9:=sN (T:=T) (ps:=ps);rw[hK]at Na Pw Pn R9 Ss Pr Pu
  refine⟨⟨⟨⟨(Mt.mp NB).1,λp hp=>?_⟩,λq hq=>?_,Sk,?_,?_,?_,by dsimp only;(refine ad MM ?_);obtain⟨p,h1,a,h2,h3⟩:=Pu;exact⟨p,h1,a,h2,Mn.get h3⟩⟩,?_⟩,Mn,wO,NH⟩
  ·dsimp only at hp;rw[MM]at hp;exact(Ss p hp).mono Mn
  ·dsimp only at hq;replace hq:=NB▸hq;rcases hq with _|_
   exact⟨by simp,R9⟩
  ·dsimp only
   (refine ad MM ?_);exact Pw _ Mn
  ·dsimp only
   (refine ad MM ?_);exact λq=>absurd q Pn
  ·dsimp only
   (refine ad MM ?_);exact Pr _ Mn
  ·dsimp only
   (refine ad MM ?_);exact Na.mono Mn λp s=>hM _ _ p s Mn
noncomputable def BC (T:List TR)(p:Nat):Bool:=match T[p]? with
 |some (.atom _)=>true
 |_=>false
theorem Ia {T:List TR}(h:bu T){p:Nat}{x:TR}(hx:T[p]?=some x):dr T x=p:=by
 have hm:x∈T:=MI hx
 have:T[dr T x]?=some x:=by
  unfold dr;rw[MU (Y3 hm),Y2]
 exact bR h this hx
theorem sP {T:List TR}(h:bu T){ps:List Nat}(hp:∀p∈ps,(∃a,a<=10/\T[p]?=some (.atom a))\/∃a,ξ T p a)(OS:LB T ps 40):(bd ps).length<64:=by
 rw[oj (BC T)]
 have h1:((bd ps).filter (BC T)).length<=((Mo 11).map λa=>dr T (.atom a)).length:=by
  refine fC (fN.sublist WX) λp hm=>?_;rw[QR,bN]at hm;refine Lr (hp p hm.1) (λVm=>?_) λVl=>?_
  ·refine ag Vm λa ha hx=>?_;rw[MH];exact⟨a,Oq.mpr (Ll [_] 1 (.a M2 On) Tl [(1,M2,Re)] rfl ha),Ia h hx⟩
  ·refine ag Vl λa hx _=>?_
   have:=hm.2
   unfold BC at this;rw[hx]at this
   rcases(bO a).2 with⟨e,ro,q⟩|⟨es,ro,q⟩<;>rw[q]at this<;>exact ak this
 have h2:((bd ps).filter λp=>!BC T p).length<=40:=by
  refine OS _ (fN.sublist WX) λp hm=>?_;rw[QR,bN]at hm;refine⟨hm.1,?_⟩;refine Lr (hp p hm.1) (λVk=>?_) λhl=>?_
  ·refine ag Vk λa ha hx=>?_
   have:=hm.2
   unfold BC at this;rw[hx]at this;exact ak this
  ·exact hl
 simp only[LN,O']at h1;exact Ll [_,_] 1 (.a (.a M2 No) On) SZ [(1,No,.k 40),(1,M2,Tl)] rfl h2 h1
end
end
noncomputable section
structure kN (b:TB)(T T':List TR)(σ σ':St)(c:Nat):Prop where
 tab:aY σ' b T'
 pre:pre T T'
 ν:ν T'<=ν T+c
 same:aN b.own σ σ'
theorem kN.refl {b:TB}{T:List TR}{σ:St}(h:aY σ b T):kN b T T σ σ 0:=⟨h,pre.refl T,Lv _,aN.refl⟩
theorem kN.trans {b:TB}{T T' Ti:List TR}{σ σ' Ls:St}{c c':Nat}(a:kN b T T' σ σ' c)(d:kN b T' Ti σ' Ls c'):kN b T Ti σ Ls (c+c'):=⟨d.tab,a.pre.trans d.pre,Lk d.ν (Ov _ c c'▸Qc a.ν c'),a.same.trans d.same⟩
theorem kN.mono {b:TB}{T T':List TR}{σ σ':St}{c c':Nat}(a:kN b T T' σ σ' c)(h:c<=c'):kN b T T' σ σ' c':=⟨a.tab,a.pre,Lk a.ν (M9 h _),a.same⟩
theorem kN.put {b:TB}{T:List TR}{x:TR}{σ σ':St}(h:aY σ' b (b7 T x))(s:aN b.own σ σ'):kN b T (b7 T x) σ σ' 1:=⟨h,eX T x,wO,s⟩
theorem kN.room {b:TB}{T T':List TR}{σ σ':St}{x y z B:Nat}(a:kN b T T' σ σ' x)(h:x+y<=z)(hp:Mine.Internal.ν T+z<=B):Mine.Internal.ν T'+y<=B:=Lk (Qc a.ν y) (Lk (LU (Ov _ x y)) (Lk (M9 h _) hp))
theorem EA {T:List TR}{y:Nat}(h:ν T+y<=900000):T.length<1000000:=Mp (Lk (Me _ _) (Lk (Me _ y) h)) (by decide)
theorem fE {a:Nat}(h:a<=10):aba (.atom a)=true:=by
 have:∀a,a<11->aba (.atom a)=true:=by decide
 exact this a (NI h)
section
variable {α:Type}{e:α->V}{ok:α->Prop}{n c nk na nl:Nat}{σ:St}{b:TB}{T:List TR}{Q:V->St->Prop}{RA:List TR->Nat->α->Prop}
def dU (e:α->V)(ok:α->Prop)(RA:List TR->Nat->α->Prop)(n c:Nat):Prop:=∀(σ:St) (b:TB) (T:List TR) (x:α) (Q:V->St->Prop),ok x->aY σ b T->ν T+c<=900000->(∀p T' σ',kN b T T' σ σ' c->RA T' p x->Q (af p) σ')->XC n 83 [.ref b.t,e x] σ Q
noncomputable def cj (c:Nat)(ks:List (Kd α)):Nat:=dI ks*c+ks.length
theorem cL (a d:List (Kd α)):cj c (a++d)=cj c a+cj c d:=by
 unfold cj;rw[bZ,Pd,LH];exact SX _ _ _ _
theorem u6 {ks p r:List (Kd α)}{k:Kd α}(h:ks=p++k::r):cj c p+cj c [k]<=cj c ks:=by
 rw[h,show p++k::r=(p++[k])++r by rw[Mh];rfl,cL (p++[k]),cL];exact Me _ _
theorem mn (hT:bu T):∀{l:List Nat},(∀p∈l,di T p)->l.flatMap (parts T)=l
 |[],_=>rfl
 |a::l,h=>by(refine ad QG ?_;refine ad (eK hT (h a LI)) ?_;refine ad (mn hT λp hp=>h p (L8 _ hp)) ?_);rfl
theorem laid {ids ML:List Nat}{k:Kd α}(hL:fD RA)(hT:bu T)(hk:eW ok na k)(hl:k.subs.length<=40)(F1:F2 (λid a=>T[id]?=some (.atom a)) ids k.at_)(F3:F2 (RA T) ML k.subs) :
  (∀p∈ids++ML,di T p)/\LB T (ids++ML) 40/\kC T (RA T) (ids++ML) k/\(bd (ids++ML)).length<64:=by
 have Ob:∀p∈ids,∃a∈k.at_,a<=10/\T[p]?=some (.atom a):=λp hp=>ag (F1.left hp) λa ha hx=>⟨a,ha,hk.small a ha,hx⟩;have V1:∀p∈ML,∃s∈k.subs,RA T p s:=λp hp=>F3.left hp
 have OS:LB T (ids++ML) 40:=λl hn N9=>by
  refine Lk (fC hn λp hp=>?_) (Lk (LU F3.len) hl);obtain⟨q1,a,q2,-⟩:=N9 p hp;refine(M0.mp q1).resolve_left λq=>?_;refine a6 (Ob p q) λa' _ _ hx=>?_;replace q2:=hx▸q2
  rcases(bO a).2 with⟨e,ro,q⟩|⟨es,ro,q⟩<;>replace q2:=q▸q2<;>rcases q2 with _|_
 refine⟨Mr.mpr ⟨λp hp=>?_,λp hp=>?_⟩,OS,⟨Mr.mpr ⟨λp hp=> .inl (Ob p hp),λp hp=> .inr (V1 p hp)⟩,λa ha=>?_,λs hs=>?_⟩,sP hT (Mr.mpr ⟨λp hp=>?_,λp hp=>?_⟩) OS⟩
 ·refine a6 (Ob p hp) λa _ ha hx=>?_;exact⟨_,hx,fE ha,.inl ⟨a,rfl⟩⟩
 ·refine ag (V1 p hp) λs _ hr=>?_;obtain⟨a,ha⟩:=hL _ _ _ hr;exact ha.good
 ·refine ag (F1.right ha) λp hp hx=>?_
  exact⟨p,MZ _ hp,a,hx,by unfold bI;(refine ad (decide_eq_true rfl) ?_);rfl⟩
 ·refine ag (F3.right hs) λp hp hx=>?_;exact .inr ⟨p,MB _ hp,hx⟩
 ·refine ag (Ob p hp) λa _ h=>?_;exact .inl ⟨a,h⟩
 ·refine ag (V1 p hp) λs _ hr=>?_;exact .inr (hL _ _ _ hr)
theorem gN {β:Type}{l p r:List β}{x:β}(h:l=p++x::r):p.length+1<=l.length:=by(refine ad h ?_;refine ad LH ?_);exact M9 (MF 1 _) _
theorem BD {k:Kd α}(hM:iB RA)(hL:fD RA)(hs:dU e ok RA (n+3) c)(hk:eW ok na k)(MX:na<=100000)(hl:k.subs.length<=40)(h:aY σ b T)(hp:ν T+cj c [k]<=900000)
  (H:∀u T' σ',kN b T T' σ σ' (cj c [k])->dJ T' (RA T') u k->Q (af u) σ'):XC (n+4) 82 [.ref b.t,be e k] σ Q:=by
 have hc:cj c [k]=k.subs.length*c+1:=by unfold cj;(refine ad gH ?_);rfl
 have L3:=Lk hk.na MX;refine ay rfl rfl (bY (dX (dD (ai rfl rfl rfl) (AY (f:=af) (g:=af) k.at_ (λp ids σ'=>∃T',kN b T T' σ σ' 0/\F2 (λid a=>T'[id]?=some (.atom a)) ids p) rfl (Mp L3 (LL rfl)) ⟨T,kN.refl h,trivial⟩ ?_ ?_))))
 ·rintro p a r ids σ' e1 ⟨T',S,F⟩;have ha:=hk.small a (e1▸MB p LI);refine az rfl (H7 (n:=n) S.tab ha (EA (S.room (LU (Nf _)) hp)) λLu T2 s2=>⟨dr T' (.atom a),rfl,_,S.trans (c':=0) ⟨T2,eX T' _,Bw S.tab.ok ha,s2⟩,F2.snoc (R:=λid a=>(b7 T' (.atom _))[id]?=some (.atom a)) jk (F.mono λx y q=>(eX T' (.atom a)).get q)⟩)
 rintro ids LG ⟨T1,S1,F1⟩
 refine dF (jf (bM (dD rfl (dC (sj (dD rfl (dX (dD (ai rfl rfl rfl) (AY (f:=e) (g:=af) k.subs (λp ML σ'=>∃T',kN b T1 T' LG σ' (p.length*c)/\F2 (RA T') ML p) rfl (Mp hl (LL rfl)) ⟨T1,by rw[Ug,SV];exact kN.refl S1.tab,trivial⟩ ?_ ?_)))))))))
 ·rintro p s r ML σ' e1 ⟨T',S,F⟩;have hm:p.length*c+c<=k.subs.length*c:=Nat.succ_mul p.length c▸Oo c (gN e1);refine az rfl (hs σ' b T' s _ (hk.sub s (e1▸MB p LI)) S.tab (S.room hm (S1.room (Lk (LU (Nf _)) (hc▸Mf _)) hp)) λq T2 Lu S2 hr=>⟨q,rfl,T2,?_,F2.snoc hr (F.mono λx y q=>hM _ _ _ _ S2.pre q)⟩);rw[LH,Pd,show[s].length*c=c from PZ c];exact S.trans S2
 rintro ML Lu ⟨T2,S2,QW⟩;refine y9 (laid hL S2.tab.ok hk hl (F1.mono λx y q=>S2.pre.get q) QW) λNF OS Na OA=>?_;refine y9 (wR hM hL S2.tab.ok Na hk.ne NF OS) λr1 r2 r3 r4=>?_;have hf:=mn S2.tab.ok NF;refine⟨_,dT (f:=af) (a:=ids) (b:=ML) ?_,wN (n:=n) (ts:=ids++ML) S2.tab (λ_=>rfl) (λt ht=>⟨(NF t ht).lt,λp hp=>?_⟩) (hf.symm▸OA) (EA (S2.room (Lv _) (S1.room (LU ((Nf _).trans hc.symm)) hp))) λLY T3 s3=>?_⟩
 ·(refine ad F1.len ?_;refine ad QW.len ?_);exact Lk (Nl L3 hl) (LL rfl)
 ·rw[eK S2.tab.ok (NF t ht),LV]at hp;exact hp▸NF t ht
 ·rw[hf]at T3⊢;refine H _ _ LY (((S1.trans S2).trans ⟨T3,r2,r3,s3⟩).mono ?_) r1;rw[Nf,hc];exact Lv _
theorem kO {j m:Nat}{ks:List (Kd α)}{ρ:Loc}{x:V}(hM:iB RA)(hL:fD RA)(hs:dU e ok RA (n+3) c)(hk:∀k∈ks,eW ok na k)(MX:na<=100000)(hl:dI ks<=40)(OA:ks.length<=1000)
  (h:aY σ b T) (hp:ν T+cj c ks<=900000) (h0:∀v σ,si (n+4) [.loc 0,.loc j] (ρ.set j v) σ [.ref b.t,v]) (hx:bV σ x=some (ks.map (be e),none))
  (H:∀us T' σ',kN b T T' σ σ' (cj c ks)->F2 (dJ T' (RA T')) us ks->Q (.lst ((us.map λu=>((u,m):El)).map bB)) σ'):XM (n+4) (.tup [.call 82 [.loc 0,.loc j],.glob (af m)]) j [] ρ Q x σ:=by
 refine AY (f:=be e) (g:=λu=>bB (u,m)) ks (λp us σ'=>∃T',kN b T T' σ σ' (cj c p)/\F2 (dJ T' (RA T')) us p) hx (Mp OA (LL rfl)) ⟨T,(kN.refl h).mono (LP _),trivial⟩ ?_ λus σ' z1=>ag z1 λT' S F=>Ml (g:=bB) (f:=λu=>((u,m):El)) (l:=us)▸H us T' σ' S F;rintro p k r us σ' e1 ⟨T',S,F⟩;have hm:k∈ks:=e1▸MB p LI;refine km (bM (az (h0 _ _) (BD hM hL hs (hk k hm) MX (Lk (sub_le hm) hl) S.tab (S.room (u6 e1) hp) λu T2 Lu S2 hr=>m8 rfl ⟨u,rfl,T2,?_,F2.snoc hr (F.mono λx y q=>q.mono S2.pre λp s=>hM _ _ p s S2.pre)⟩)));rw[cL];exact S.trans S2
end
end
noncomputable section
theorem cM {β:Type}{A B:List β}{j:Nat}{q:β}(h:(A++B)[j]?=some q):(j<A.length/\q∈A)\/(A.length<=j/\B[j-A.length]?=some q):=by
 by_cases hj:j<A.length
 ·rw[OY hj]at h;exact .inl ⟨hj,MI h⟩
 ·rw[Rn (Qe.mp hj)]at h;exact .inr ⟨Qe.mp hj,h⟩
theorem mo {A B:List El}(ha:∀p∈A,p.2≠1)(hb:∀p∈B,p.2≠0):Et (A++B):=λi p hi hp j q hj hq=>
 match cM hi,cM hj with
 |.inl h,_=>absurd hp (ha p h.2)
 |.inr h,.inl k=>Lk (NN k.1) h.1
 |.inr _,.inr k=>absurd hq (hb q (MI k.2))
theorem u7 {A B:List El}(ha:∀p∈A,p.2≠2)(hb:∀(j:Nat) p,B[j]?=some p->j≠0->p.2=0):Eu (A++B):=λi p hi hp j q hj hq=>
 match cM hi,cM hj with
 |.inl h,_=>absurd hp (ha p h.2)
 |.inr h,.inl k=>Lk (NN k.1) h.1
 |.inr h,.inr k=>Lk (Nat.le_of_sub_eq_zero (O9 λn=>by
   have:=hb _ _ k.2 n
   refine Lr hq (λq=>?_) λq=>?_<;>replace q:=this▸q<;>contradiction)) h.1
theorem b4 {l:List Nat}{m:Nat}{P:El->Prop}(h:∀e,P (e,m)):∀p∈l.map λe=>((e,m):El),P p:=λp hp=>by
 refine ag (MH.mp hp) λe _ e1=>?_;refine aR e1 ?_;exact h e
theorem om {a:Sq}:∀p∈a.ι,p.2<=2:=Mr.mpr ⟨Mr.mpr ⟨Mr.mpr ⟨b4 λ_=>LP 2,b4 λ_=>Mf 1⟩,b4 λ_=>Lv 2⟩,b4 λ_=>LP 2⟩
theorem BE {a:Sq}(ho:a.Ok):Et a.ι:=by
 unfold Sq.ι
 by_cases hp:a.o=[]
 ·refine ad hp ?_
  have:=mo (A:=a.h.map (λe=>((e,0):El))++(a.r.map (λe=>(e,2))++a.t.map (λe=>(e,0)))) (B:=[]) (Mr.mpr ⟨b4 λ_=>(by decide:0≠1),Mr.mpr ⟨b4 λ_=>(by decide:2≠1),b4 λ_=>(by decide:0≠1)⟩⟩) cw
  rw[Mz,<- Mh]at this;rw[TV,Mz];exact this
 ·have ht:a.t=[]:=O9 λq=>hp (ho.tl q).2;rw[ht,TV,Mz,Mh]
  exact mo (b4 λ_=>(by decide:0≠1)) (Mr.mpr ⟨b4 λ_=>(by decide:1≠0),b4 λ_=>(by decide:2≠0)⟩)
theorem BF {a:Sq}(ho:a.Ok):Eu a.ι:=by
 unfold Sq.ι;rw[Mh]
 refine u7 (Mr.mpr ⟨b4 λ_=>(by decide:0≠2),b4 λ_=>(by decide:1≠2)⟩) λj p hj h0=>?_
 refine Lr (cM hj) (λh=>?_) λh=>?_
 ·exact absurd (Nat.lt_one_iff.mp (L1 h.1 (by rw[LN];exact ho.rl))) h0
 ·refine ag (MH.mp (MI h.2)) λe _ he=>?_;exact he▸rfl
theorem eh {a:Sq}:a.ι.length=a.h.length+a.o.length+a.r.length+a.t.length:=by
 unfold Sq.ι;rw[LH,LH,LH,LN,LN,LN,LN]
section
variable {α:Type}{e:α->V}{ok:α->Prop}{n c nk na nl:Nat}{σ:St}{b:TB}{T:List TR}{Q:V->St->Prop}{RA:List TR->Nat->α->Prop}
theorem yQ (r:Rw α):cj c r.all=cj c r.h+cj c r.o+cj c r.r+cj c r.t:=by unfold Rw.all;rw[cL,cL,cL]
theorem BG (hM:iB RA)(hL:fD RA)(hs:dU e ok RA (n+3) c)(MN:nk<=9)(MX:na<=100000)(MS:nl<=40):dU (eg e) (fg ok nk na nl) (iq RA) (n+5) (nl*c+nk+1):=by
 intro σ b T r Q hr h hp H;have L3:aI prog (n+4) 72 [eg e r] σ=_:=Fw (n:=n+3) (Lk (Lk hr.nk MN) (LL rfl));have NG:cj c r.all+1<=nl*c+nk+1:=Ou (Nl (Oo c hr.nl) hr.nk);have Sp:=nc.mp hr.ks;have Ya:=df r.h r.o r.r r.t▸hr.nl;have So:=gG r▸hr.nk;have ca:=yQ (c:=c) r;have n3:=Lk (Me _ _) Ya;have n2:=Lk (Me _ _) n3;have l3:=Lk (Me _ _) So;have l2:=Lk (Me _ _) l3;have up:∀{m:Nat},m<=nk->m<=1000:=λh=>Lk h (Lk MN (LL rfl));have Uy:∀{m:Nat},m<=nk->m<=8388608:=λh=>Lk (up h) (LL rfl);have A2:∀{a b c d:Nat},a=b->c=d->a+c=b+d:=λp q=>p▸q▸rfl;have c4:cj c r.h+cj c r.o+cj c r.r+cj c r.t<=nl*c+nk+1:=ca▸Lk (Mf _) NG;have c3:=Lk (Me _ _) c4;have c2:=Lk (Me _ _) c3;have c1:=Lk (Me _ _) c2;refine ay rfl rfl (DW rfl rfl (a9 (cF (aA (fU rfl) rfl) (bJ (aA (fU (aH rfl L3)) rfl))) (λq=>?_) λq=>?_))
 ·have o2:=gG r▸L9.mp q.2;obtain⟨x,hx⟩:=P0.mp (L9.mp q.1);rw[hx,show[x].length=1 from rfl]at o2;have o3:=YA.mp (Nat.succ.inj ((Xd _ 1 _).symm.trans o2):r.h.length+r.o.length+r.t.length=0);have o4:=YA.mp o3.1;have hh:r.h=[]:=Pc o4.1;have TG:r.o=[]:=Pc o4.2;have X0:r.t=[]:=Pc o3.2;rw[hh,TG,X0,hx]at ca
  have Ol:cj c [x]+1<=nl*c+nk+1:=by
   have e0:cj c ([]:List (Kd α))=0:=by exact SV c
   rw[ca,e0,Nf]at NG;exact NG
  refine dF (jf (bM (dD rfl (bM (az (ae rfl (ae (ai (z:=be e x) rfl rfl (by(refine ad hx ?_);rfl)) av)) (BD (n:=n) hM hL hs (Sp.1.2 x (by rw[hx];exact LI)) MX (Lk (sub_le (l:=r.r) (by rw[hx];exact LI)) (Lk (Lk (MF _ _) n3) MS)) h (Lk (M9 (Lk (Mf _) Ol) _) hp) λu T2 Lu S2 hrp=>m8 rfl ?_))))))
  refine wQ (n:=n+2) S2.tab (EA (S2.room Ol hp)) λLY T3 s3=>?_;have S3:=S2.trans (kN.put T3 s3);refine H _ _ LY (S3.mono Ol) ⟨⟨[],[],[u],[],r.ro⟩,⟨jk,Lv 1,λq=>absurd rfl q,LL rfl⟩,rfl,?_,?_,?_,?_⟩
  ·(refine ad hh ?_);trivial
  ·(refine ad TG ?_);trivial
  ·(refine ad hx ?_);exact⟨hrp.mono (eX T2 _) λp s=>hM _ _ p s (eX T2 _),trivial⟩
  ·(refine ad X0 ?_);trivial
 refine bY (dX (dD rfl (kO (n:=n) (m:=0) hM hL hs Sp.1.1.1 MX (Lk (Lk (Me _ _) n2) MS) (up (Lk (Me _ _) l2)) h (Lk (M9 c1 _) hp) (λ_ _=>rfl) rfl λQ2 T1 LG S1 F1=>?_)));have e1:=F1.len;refine bY (sj (dD rfl (dX (dD rfl (kO (n:=n) (m:=1) hM hL hs Sp.1.1.2 MX (Lk (Lk (MF _ _) n2) MS) (up (Lk (MF _ _) l2)) S1.tab (S1.room c2 hp) (λ_ _=>rfl) rfl λQ1 T2 Lu P2 QW=>⟨_,dT ?_,?_⟩)))))
 ·exact Lk (LU (A2 ((LN _).trans e1) ((LN _).trans QW.len))) (Uy l2)
 have e2:=QW.len;have S2:=S1.trans P2;refine bY (sj (dD rfl (dX (dD rfl (kO (n:=n) (m:=2) hM hL hs Sp.1.2 MX (Lk (Lk (MF _ _) n3) MS) (up (Lk (MF _ _) l3)) S2.tab (S2.room c3 hp) (λ_ _=>rfl) rfl λQ0 T3 LY P3 Us=>⟨_,dT ?_,?_⟩)))))
 ·exact Lk (LU (A2 (LH.trans (A2 ((LN _).trans e1) ((LN _).trans e2))) ((LN _).trans Us.len))) (Uy l3)
 have e3:=Us.len;have S3:=S2.trans P3;refine dF (jf (bM (dD rfl (bM (sj (dD rfl (dX (dD rfl (kO (n:=n) (m:=0) hM hL hs Sp.2 MX (Lk (Lk (MF _ _) Ya) MS) (up (Lk (MF _ _) So)) S3.tab (S3.room c4 hp) (λ_ _=>rfl) rfl λQZ T4 NJ P4 Ur=>⟨_,dT ?_,m8 rfl ?_⟩)))))))))
 ·exact Lk (LU (A2 (LH.trans (A2 (LH.trans (A2 ((LN _).trans e1) ((LN _).trans e2))) ((LN _).trans e3))) ((LN _).trans Ur.len))) (Uy So)
 have e4:=Ur.len;have S4:=S3.trans P4
 have Uq:(⟨Q2,Q1,Q0,QZ,r.ro⟩:Sq).Ok:=by
  refine⟨Lk (LU e3) hr.rl,λht=>?_,?_⟩
  ·refine(hr.tl λq=>ht (Ur.aby.mpr q)).elim λq1 q2=>?_;exact⟨λq=>q1 (Us.aby.mp q),QW.aby.mpr q2⟩
  ·unfold Sq.all;(refine ad LH ?_;refine ad LH ?_;refine ad LH ?_;refine ad e1 ?_;refine ad e2 ?_;refine ad e3 ?_;refine ad e4 ?_);exact Lk So MN
 have Sv:(⟨Q2,Q1,Q0,QZ,r.ro⟩:Sq).ι.length<=1000:=by
  (refine ad eh ?_;refine ad e1 ?_;refine ad e2 ?_;refine ad e3 ?_;refine ad e4 ?_);exact up So
 have Sf:∀x,(⟨Q2,Q1,Q0,QZ,r.ro⟩:Sq)≠⟨[],[],[x],[],r.ro⟩:=λx e=>by
  injection e with z1 z2 z3 z4
  replace e1:=z1▸e1;rw[z2]at e2;rw[z3]at e3;rw[z4]at e4;refine q ⟨congrArg Mi e3.symm,congrArg Mi ?_⟩;rw[gG,<- e1,<- e2,<- e3,<- e4];rfl
 generalize ha:(⟨Q2,Q1,Q0,QZ,r.ro⟩:Sq)=a at Uq Sv Sf
 obtain⟨Qu,hr2⟩:a.row=.tup a.ι r.ro/\∀x,a.ι≠[(x,2)]:=by
  have Oz:a.ro=r.ro:=ha▸rfl;refine Lr a.abE (λo9=>?_) λQq=>?_
  ·refine ag o9 λx q _=>?_;exact absurd (Oz▸q) (Sf x)
  ·refine Qq.elim λq1 q2=>?_;exact⟨Oz▸q1,q2⟩
 (refine ad (show(Q2.map λu=>((u,0):El))++(Q1.map λu=>(u,1))++(Q0.map λu=>(u,2))++(QZ.map λu=>(u,0))=a.ι from ha▸rfl) ?_)
 refine Ex (n:=n+1) (E:=a.ι) (ro:=r.ro) S4.tab Sv (EA (S4.room (ca▸NG) hp)) om (BE Uq) (BF Uq) hr2 λNu T5 s5=>?_;have p5:=eX T4 (.tup a.ι r.ro);have lift:∀{T':List TR} {us:List Nat} {ks:List (Kd α)},pre T' (b7 T4 (.tup a.ι r.ro))->F2 (dJ T' (RA T')) us ks->F2 (dJ (b7 T4 (.tup a.ι r.ro)) (RA (b7 T4 (.tup a.ι r.ro)))) us ks:=λX4 hF=>hF.mono λid k q=>q.mono X4 λp s=>hM _ _ p s X4;refine H _ _ Nu ((S4.trans (kN.put T5 s5)).mono (ca▸NG)) ⟨a,⟨Qu▸jk,Uq⟩,ha▸rfl,?_,?_,?_,?_⟩
 ·(refine ad (show a.h=Q2 from ha▸rfl) ?_);exact lift (P2.pre.trans (P3.pre.trans (P4.pre.trans p5))) F1
 ·(refine ad (show a.o=Q1 from ha▸rfl) ?_);exact lift (P3.pre.trans (P4.pre.trans p5)) QW
 ·(refine ad (show a.r=Q0 from ha▸rfl) ?_);exact lift (P4.pre.trans p5) Us
 ·(refine ad (show a.t=QZ from ha▸rfl) ?_);exact lift p5 Ur
end
end
noncomputable section
section
variable {β γ δ ε:Type}{R:β->γ->Prop}
theorem F2.get {l:List β}{k:List γ}(h:F2 R l k):∀{i:Nat} {x:β} {y:γ},l[i]?=some x->k[i]?=some y->R x y:=F2.ind (P:=λl k=>∀{i:Nat} {x:β} {y:γ},l[i]?=some x->k[i]?=some y->R x y) (λh=>nomatch h) (λa b l k r _ ih {i} _ _ hx hy=>match i with
  |0=>Option.some.inj hx▸Option.some.inj hy▸r
  |i+1=>ih (i:=i) hx hy) h
theorem F2.of:∀{l:List β} {k:List γ},l.length=k.length->(∀(i:Nat) x y,l[i]?=some x->k[i]?=some y->R x y)->F2 R l k
 |[],[],_,_=>trivial
 |a::l,b::k,e,h=>⟨h 0 a b rfl rfl,F2.of (Nat.succ.inj e) λi x y hx hy=>h (i+1) x y hx hy⟩
theorem F2.app {l':List β}{k':List γ}(h':F2 R l' k'):∀{l:List β} {k:List γ},F2 R l k->F2 R (l++l') (k++k')
 |[],[],_=>h'
 |_::_,_::_,h=>⟨h.1,F2.app h' h.2⟩
 |[],_::_,h=>h.elim
 |_::_,[],h=>h.elim
theorem F2.split:∀{l l':List β} {k k':List γ},l.length=k.length->F2 R (l++l') (k++k')->F2 R l k/\F2 R l' k'
 |[],_,[],_,_,h=>⟨trivial,h⟩
 |_::_,_,_::_,_,e,h=>(F2.split (Nat.succ.inj e) h.2).elim λa b=>⟨⟨h.1,a⟩,b⟩
theorem F2.map {R:δ->ε->Prop}{f:β->δ}{g:γ->ε}:∀{l:List β} {k:List γ},F2 R (l.map f) (k.map g)↔F2 (λx y=>R (f x) (g y)) l k
 |[],[]=>NW
 |_::_,_::_=>and_congr_right λ_=>F2.map
 |[],_::_=>NW
 |_::_,[]=>NW
end
structure Sg (β:Type) where
 h:List β
 o:List β
 r:List β
 t:List β
section
variable {β γ:Type}
structure Sg.Ok (a:Sg β):Prop where
 rl:a.r.length<=1
 tl:a.t≠[]->a.r≠[]/\a.o=[]
noncomputable def sQ (l:List β):List (β×Bool):=l.map λx=>(x,false)
noncomputable def on (l:List β):List (β×Bool):=l.map λx=>(x,true)
noncomputable def dA (a:Sg β)(m:Nat):List (β×Bool):=sQ a.h++(on (a.o.take m)++sQ (Mu (m-a.o.length) a.r).flatten)++sQ a.t
def jx (a:Sg β)(m:Nat):Prop:=a.r.length=1\/(a.r=[]/\m<=a.o.length)
theorem hZ {l:List β}:(sQ l).length=l.length:=LN ..
theorem u8 {l:List β}:(on l).length=l.length:=LN ..
theorem mq {x:β}:∀{k:Nat},(Mu k [x]).flatten=Mu k x
 |0=>rfl
 |k+1=>by(refine ad QO ?_;refine ad RC ?_;refine ad mq ?_);rfl
theorem b5 {a:Sg β}{m:Nat}(h:jx a m):(dA a m).length=a.h.length+m+a.t.length:=by
 unfold dA
 (refine ad LH ?_;refine ad LH ?_;refine ad LH ?_;refine ad hZ ?_;refine ad hZ ?_;refine ad hZ ?_;refine ad u8 ?_;refine ad Qg ?_)
 rcases h with h|⟨h,h2⟩
 ·refine(P0.mp h).elim λx hx=>?_
  (refine ad hx ?_;refine ad mq ?_;refine ad Py ?_);lia
 ·(refine ad h ?_;refine ad (Rv h2) ?_;refine ad (QK h2) ?_);rfl
theorem mr {a:Sg β}{m:Nat}{x:β}(hr:a.r=[x])(hm:a.o.length<=m):dA a m=sQ a.h++on a.o++(Mu (m-a.o.length) (x,false)++sQ a.t):=by
 unfold dA;rw[Wt hm,hr,mq,show sQ (Mu (m-a.o.length) x)=_ from SM,Mh,Mh,Mh]
theorem wS {a:Sg β}{m c:Nat}(h:a.r.length=1)(h1:a.h.length+a.o.length<=c)(h2:c<a.h.length+m):∃A B x,A.length=c/\dA a m=A++([x]++B)/\dA a (m+1)=A++([x]++([x]++B)):=by
 refine(P0.mp h).elim λx hx=>?_;refine(Yz h1).elim λc' e2=>?_;subst e2
 obtain⟨k,e⟩:=Yz (show a.o.length+c'+1<=m by exact Ll [_,_,_,_] 1 (.a (.a M2 No) On) NE [(1,.a (.a (.a Op M2) No) On,.a Op NE)] rfl h2)
 have ek:m-a.o.length=c'+(k+1):=(Ms (Ll [_,_,_,_,_] 1 M2 (.a No (.a NE On)) [(1,Op,.a (.a (.a Os No) On) NE),(1,.a M2 Os,Op)] rfl (LU e) (mL (Ll [_,_,_,_] 1 M2 No [(1,.a (.a (.a NE M2) Op) On,.a NE No)] rfl h2))) (Ll [_,_,_,_,_] 1 (.a M2 (.a No On)) NE [(1,.a (.a (.a Op M2) On) No,Os),(1,Os,.a NE Op)] rfl (iU e) nu));refine⟨sQ a.h++on a.o++Mu c' (x,false),Mu k (x,false)++sQ a.t,(x,false),?_,?_,?_⟩
 ·(refine ad LH ?_;refine ad LH ?_;refine ad hZ ?_;refine ad u8 ?_;refine ad Py ?_;rfl)
 ·rw[mr hx (by exact Ll [_,_,_,_] 1 M2 No [(1,.a (.a (.a NE M2) Op) On,.a NE No)] rfl h2),ek,<- Yy,Mh,Mh,Mh,Mh];rfl
 ·rw[mr hx (by exact Ll [_,_,_,_] 1 M2 (.a No On) [(1,.a (.a (.a NE M2) Op) On,.a NE No)] rfl h2),show m+1-a.o.length=c'+(k+1+1) by exact Ms (Ll [_,_,_,_,_] 1 M2 (.a No (.a (.a NE On) On)) [(1,Op,.a (.a (.a Os No) On) NE),(1,.a M2 Os,.a Op On)] rfl (LU e) (mL (Ll [_,_,_,_] 1 M2 (.a No On) [(1,.a (.a (.a NE M2) Op) On,.a NE No)] rfl h2))) (Ll [_,_,_,_,_] 1 (.a M2 (.a (.a No On) On)) NE [(1,.a (.a (.a Op M2) On) No,Os),(1,.a Os On,.a NE Op)] rfl (iU e) nu),<- Yy,Mh,Mh,Mh,Mh];rfl
def JU (R:β×Bool->γ×Bool->Prop)(a:Sg β)(b:Sg γ)(m:Nat):Prop:=∃m',jx b m'/\F2 R (dA a m) (dA b m')
def cN (R:β×Bool->γ×Bool->Prop)(a:Sg β)(b:Sg γ):Prop:=∀m,jx a m->JU R a b m
theorem wT {a:Sg β}{m L:Nat}(wa:a.Ok)(h:jx a m)(hl:L<a.h.length+m+a.t.length)(hL:a.h.length+a.o.length<=L):a.r.length=1:=h.elim id λq8=>q8.elim λhr hm=>by
 have ht:a.t=[]:=O9 λq=>(wa.tl q).1 hr;rw[ht,show([]:List β).length=0 from rfl]at hl;lia
theorem wV {R:β×Bool->γ×Bool->Prop}{a:Sg β}{b:Sg γ}{top:Nat}(wa:a.Ok)(wb:b.Ok)(ha:a.h.length+a.o.length+1+b.t.length<=top)(Nx:a.h.length+a.o.length+1+a.t.length<=top)(hb:b.h.length+b.o.length+1+b.t.length<=top)(Ri:b.h.length+b.o.length+1+a.t.length<=top)
  (H:∀m,jx a m->a.h.length+m+a.t.length<=top->JU R a b m):cN R a b:=by
 have key:∀d m,jx a m->a.h.length+m+a.t.length<=top+d->JU R a b m:=by
  intro d
  induction d with
  |zero=>exact H
  |succ d ih=>
   intro m hm hl
   by_cases N9:a.h.length+m+a.t.length<=top+d
   ·exact ih m hm N9
   have hr:=wT wa hm (L:=top) (Ll [_,_,_,_,_] 1 (.a M2 On) (.a (.a No NE) Op) [(1,.a (.a M2 Os) On,.a (.a No NE) Op)] rfl (Rt N9)) (Ll [_,_,_,_] 1 (.a M2 No) NE [(1,.a (.a (.a M2 No) On) Op,NE)] rfl ha);obtain⟨m,rfl⟩:∃k,m=k+1:=⟨m-1,(Ms (Ll [_,_] 1 M2 (.a No On) [(1,M2,.a No On)] rfl nu) (Ll [_,_] 1 (.a M2 On) No [(1,.a M2 On,No)] rfl (mL (Ll [_,_,_,_,_,_] 2 On M2 [(1,.a (.a (.a No NE) On) Op,Os),(1,.a (.a Os Pi) On,.a (.a No M2) Op)] rfl Nx (Rt N9)))))⟩;refine ag (ih m (.inl hr) (Ll [_,_,_,_,_] 1 (.a (.a M2 No) NE) (.a Op Os) [(1,.a (.a M2 (.a No On)) NE,.a Op (.a Os On))] rfl hl)) λm' PG f=>?_;have e:=f.len;rw[b5 (.inl hr),b5 PG]at e;have L6:=wT wb PG (L:=top-1) (Ll [_,_,_,_,_,_,_,_,_] 1 (.a M2 On) (.a (.a No NE) Op) [(1,.a (.a Os Pi) On,.a (.a SB (.a (.v 7) On)) TT),(1,.a (.a SB (.v 7)) TT,.a (.a No NE) Op),(1,.a M2 On,Os)] rfl (Rt N9) (LU e) (mL (Ll [_,_,_,_] 1 On M2 [(1,.a (.a (.a No NE) On) Op,M2)] rfl ha))) (Ll [_,_,_,_,_] 1 (.a M2 No) NE [(1,.a (.a (.a M2 No) On) Op,Os),(1,Os,.a NE On)] rfl hb nu)
   refine ik (wS (c:=max (a.h.length+a.o.length) (b.h.length+b.o.length)) hr (SK _ _) (m:=m) (by lia)) λA B x e1 e2 e3=>?_
   refine ik (wS (c:=max (a.h.length+a.o.length) (b.h.length+b.o.length)) L6 (QF _ _) (m:=m') (by lia)) λA' B' y d1 d2 d3=>?_
   rw[e2,d2]at f;refine(F2.split (e1.trans d1.symm) f).elim λf1 f2=>?_;refine⟨m'+1,.inl L6,?_⟩
   (refine ad e3 ?_;refine ad d3 ?_)
   exact F2.app (l':=[x]++([x]++B)) (k':=[y]++([y]++B')) ⟨f2.1,f2⟩ f1
 exact λm hm=>key (a.h.length+m+a.t.length) m hm (MF _ _)
end
section
variable {α:Type}{ok:α->Prop}{nk na nl:Nat}
noncomputable def Rw.sg (r:Rw α):Sg (Kd α):=⟨r.h,r.o,r.r,r.t⟩
noncomputable def mk (p:Kd α×Bool):Kd α:=cond p.2 (opt p.1) p.1
theorem qe (l:List (Kd α)):(sQ l).map mk=l:=by unfold sQ;(refine ad Ml ?_);exact Rj l
theorem ib {r:Rw α}{m:Nat}:jh r m=(dA r.sg m).map mk:=by
 unfold jh dA cR Rw.sg;rw[Mj,Mj,Mj,qe,qe,qe]
 congr 3
 unfold on;(refine ad Ml ?_);rfl
theorem FG {r:Rw α}(hr:fg ok nk na nl r):r.sg.Ok:=⟨hr.rl,hr.tl⟩
theorem kP {r:Rw α}{top m:Nat}(hr:fg ok nk na nl r)(hh:r.h.length+r.t.length<=top):m<eQ r top↔jx r.sg m/\r.h.length+m+r.t.length<=top:=by
 have e:m<top+1-r.h.length-r.t.length↔r.h.length+m+r.t.length<=top:=⟨λh=>(Ll [_,_,_,_,_,_] 1 (.a (.a M2 No) NE) Op [(1,.a No On,Os),(1,.a Os NE,Pi),(1,.a Pi M2,.a Op On)] rfl h (mL (Ll [_,_,_,_] 1 M2 No [(1,.a NE M2,Op),(1,.a Op On,.a No NE)] rfl hh nu)) (mL (Ll [_,_,_] 1 M2 (.a No On) [(1,.a M2 NE,No)] rfl hh))),λh=>(Ll [_,_,_,_,_,_] 1 (.a M2 On) No [(1,.a (.a NE M2) Op,Os),(1,Pi,.a No Op),(1,.a Os On,.a Pi NE)] rfl h nu nu)⟩;have VX:=hr.rl;unfold eQ jx Rw.sg;dsimp only
 by_cases h:r.r=[]
 ·rw[if_pos h,Nat.lt_min,e,Nat.lt_succ_iff,and_comm]
  exact and_congr_left λ_=>⟨λq=> .inr ⟨h,q⟩,λq=>(q.resolve_left λq=>by replace q:=h▸q;contradiction).2⟩
 ·rw[if_neg h,e];exact⟨λq=>⟨.inl (Ms VX (P7.mpr h)),q⟩,λq=>q.2⟩
theorem wW {R:Kd α->Kd α->Prop}{s b:Rw α}(hs:fg ok nk na nl s)(hb:fg ok nk na nl b):Ef R s b↔cN (λx y=>R (mk x) (mk y)) s.sg b.sg:=by
 have ht:=wF s b
 have fit:∀m,jx s.sg m->s.h.length+m+s.t.length<=fy s b->(Ee R s b m↔JU (λx y=>R (mk x) (mk y)) s.sg b.sg m):=λm hm hl=>by
  have e1:(dA s.sg m).length=s.h.length+m+s.t.length:=b5 hm
  constructor
  ·intro r3;refine a6 r3 λm' h1 h2 h3=>?_;have PG:=((kP hb (jW ht.2)).mp h1).1;refine⟨m',PG,F2.map.mp ?_⟩
   (refine aR ib ?_;refine aR ib ?_)
   refine F2.of ?_ h3;rw[ib,ib,LN,LN,e1,b5 PG];exact h2
  ·intro r7;refine ag r7 λm' PG f=>?_;have e:=f.len;rw[e1,b5 PG]at e;have f:=F2.map.mpr f;rw[<- ib,<- ib]at f;exact⟨m',(kP hb (jW ht.2)).mpr ⟨PG,Lk (LU e.symm) hl⟩,e,λp x y=>f.get⟩
 constructor
 ·intro H;refine wV (FG hs) (FG hb) (top:=fy s b) ?_ ?_ ?_ ?_ λm hm hl=>(fit m hm hl).mp (H m ((kP hs (jW ht.1)).mpr ⟨hm,hl⟩))
  ·exact Nl (Lk (QF _ _) (SK _ _)) (QF _ _)
  ·exact ht.1
  ·exact ht.2
  ·exact Nl (QF _ _) (SK _ _)
 ·intro H m hm;refine((kP hs (jW ht.1)).mp hm).elim λh1 h2=>?_;exact(fit m h1 h2).mpr (H m h1)
def JV (rel:α->α->Prop)(s b:Rw α):Prop:=(s.ro=true->b.ro=true)/\cN (λx y=>pU rel (mk x) (mk y)) s.sg b.sg
theorem BH {rel:α->α->Prop}{s b:Rw α}(hs:fg ok nk na nl s)(hb:fg ok nk na nl b):sB rel s b↔JV rel s b:=and_congr_right λ_=>wW hs hb
end
end
noncomputable section
theorem FH (a:Nat):pt a<2 ^ 13:=by
 unfold pt
 by_cases h:a<11
 ·have:∀a,a<11->ma.getD a 0<2 ^ 13:=by decide
  exact this a h
 ·(refine ad WD ?_;refine ad (WE (Qe.mp h)) ?_)
  decide
theorem mt:∀(l:List Nat) (h:Nat),h<2 ^ 13->l.foldl (λh a=>h ||| pt a) h<2 ^ 13
 |[],h,hh=>hh
 |a::l,h,hh=>mt l _ (Nat.or_lt_two_pow hh (FH a))
theorem BJ (l:List Nat):bw l<8192:=mt l 0 (by decide)
theorem sR {i:Nat}:∀(l:List Nat) (h:Nat),(l.foldl (λh a=>h ||| pt a) h).testBit i=(h.testBit i||l.any λa=>(pt a).testBit i)
 |[],h=>by simp
 |a::l,h=>by
  rw[QN,sR l,WW,List.any_cons,Bool.or_assoc]
theorem gO {i:Nat}{l:List Nat}:(bw l).testBit i=l.any λa=>(pt a).testBit i:=by
 unfold bw;rw[sR];simp
noncomputable def qf (a:Nat):Nat:=match a with
 |0=>0|1=>1|2=>2|3=>3|4=>4|5=>5|6=>6|7=>7|8=>8|9=>9|_=>10
theorem EB:∀a,a<11->∀b,b<11->(pt b).testBit (qf a)=bI b a:=by decide
theorem EC:∀a,a<11->(pt a).testBit (qf a)=true:=by decide
theorem ED:∀a,a<11->∀b,b<11->bI b a=true->∀i,i<13->(pt a).testBit i=true->(pt b).testBit i=true:=by decide
theorem EE {a i:Nat}(h:13<=i):(pt a).testBit i=false:=Nat.testBit_lt_two_pow (L1 (FH a) (Nat.pow_le_pow_right (by decide) h))
theorem sS {l k:List Nat}(hl:∀a∈l,a<=10)(hk:∀a∈k,a<=10):bw k ||| bw l=bw k↔∀a∈l,∃a'∈k,bI a' a=true:=by
 constructor
 ·intro h a ha
  have h1:(bw l).testBit (qf a)=true:=by
   rw[gO,Qf]
   exact⟨a,ha,EC a (by have:=hl a ha;exact Ll [_] 1 (.a M2 On) Tl [(1,M2,Re)] rfl this)⟩
  have h2:(bw k).testBit (qf a)=true:=by
   rw[<- h,WW,h1];simp
  rw[gO,Qf]at h2;refine ag h2 λa' Nx hb=>?_;refine⟨a',Nx,?_⟩
  rw[EB a (by have:=hl a ha;exact Ll [_] 1 (.a M2 On) Tl [(1,M2,Re)] rfl this) a' (by have:=hk a' Nx;exact Ll [_] 1 (.a M2 On) Tl [(1,M2,Re)] rfl this)]at hb
  exact hb
 ·intro h
  apply Nat.eq_of_testBit_eq
  intro i;rw[WW];rcases hb:(bw l).testBit i with _|_
  ·simp
  ·rw[gO,Qf]at hb;refine ag hb λa ha hb=>?_;refine ag (h a ha) λa' Nx hc=>?_
   have:(bw k).testBit i=true:=by
    rw[gO,Qf];refine⟨a',Nx,?_⟩
    by_cases hi:i<13
    ·exact ED a (by have:=hl a ha;exact Ll [_] 1 (.a M2 On) Tl [(1,M2,Re)] rfl this) a' (by have:=hk a' Nx;exact Ll [_] 1 (.a M2 On) Tl [(1,M2,Re)] rfl this) hc i hi hb
    ·rw[EE (Uo (by assumption))]at hb;exact ak hb
   (refine ad this ?_);rfl
theorem yR {k:List Nat}(hk:∀a∈k,a<=10):8191<=bw k↔10∈k:=by
 constructor
 ·intro h;have h1:=BJ k
  have h2:(bw k).testBit 12=true:=by
   have:∀m,8191<=m->m<8192->m.testBit 12=true:=by
    intro m a b
    have:m=8191:=(Ms (Ll [_] 1 M2 (.k 8191) [(1,.a M2 On,.k 8192)] rfl b) (Ll [_] 1 (.k 8191) M2 [(1,.k 8191,M2)] rfl a))
    refine ad this ?_;decide
   exact this _ h h1
  rw[gO,Qf]at h2;refine ag h2 λa ha hb=>?_
  have:∀a,a<11->(pt a).testBit 12=true->a=10:=by decide
  have:=this a (by have:=hk a ha;lia) hb
  exact this▸ha
 ·intro h
  have h2:=(sS (l:=[10]) (k:=k) (by simp) hk).mpr λa ha=>⟨10,h,by(refine ad (LV.mp ha) ?_);decide⟩
  have h3:bw [10]=8191:=rfl
  (refine aR h2 ?_;refine ad h3 ?_)
  exact Nat.right_le_or
theorem u9:∀a,a<11->∀b,b<11->∀c,c<11->bI a b=true->bI b c=true->bI a c=true:=by decide
noncomputable def Sq.sg (a:Sq):Sg Nat:=⟨a.h,a.o,a.r,a.t⟩
def cov (T:List TR)(p q:Nat):Prop:=p=q\/q=1\/∃x,T[p]?=some x/\((q:Nat):Int)=b8 x
def KS (T:List TR)(L:Nat->Nat->Prop)(P Q:List Nat):Prop:=∀p∈P,∃q∈Q,cov T p q\/L p q
noncomputable def rd (T:List TR)(e:Nat)(f:Bool):List Nat:=parts T e++if f then[4]else[]
def cg (T:List TR)(L:Nat->Nat->Prop)(x y:Nat×Bool):Prop:=KS T L (rd T x.1 x.2) (rd T y.1 y.2)
noncomputable def vb (T:List TR):Nat->Nat->Nat->Prop
 |0,_,_=>False
 |f+1,p,q=>∃a b,ξ T p a/\ξ T q b/\(a.ro=true->b.ro=true)/\cN (cg T (vb T f)) a.sg b.sg
def aD (T:List TR)(p:Nat):Prop:=∃a,a<=10/\T[p]?=some (.atom a)
noncomputable def GL (T:List TR):Nat->Nat->Prop
 |0,_=>False
 |f+1,p=>∃a,ξ T p a/\∀e∈a.all,bU T e/\∀p'∈parts T e,aD T p'\/GL T f p'
def GK (T:List TR)(f:Nat)(e:Nat):Prop:=bU T e/\∀p∈parts T e,aD T p\/GL T f p
theorem BK {T:List TR}{p:Nat}{a b:Sq}(h1:ξ T p a)(h2:ξ T p b):a.row=b.row:=by
 have:=h1.1.symm.trans h2.1
 exact Option.some.inj this
theorem aJ {T:List TR}{p:Nat}{a:Sq}(h1:aD T p)(h2:ξ T p a):False:=by
 refine ag h1 λx _ hx=>?_
 have:=h2.1
 replace this:=hx▸this
 rcases(bO a).2 with⟨e,ro,q⟩|⟨es,ro,q⟩<;>replace this:=q▸this<;>rcases this with _|_
theorem GL.abF {T:List TR}:∀{f p:Nat},GL T f p->GL T (f+1) p
 |0,p,h=>h.elim
 |f+1,p,⟨a,h1,h2⟩=>⟨a,h1,λe he=>⟨(h2 e he).1,λp' hp=>((h2 e he).2 p' hp).imp_right GL.abF⟩⟩
theorem GL.mono {T:List TR}{f g p:Nat}(h:GL T f p)(hg:f<=g):GL T g p:=by
 induction hg with
 |refl=>exact h
 |step _ ih=>exact ih.abF
theorem GL.ξ {T:List TR}{f p:Nat}(h:GL T f p):∃a,Mine.Internal.ξ T p a:=by
 induction f with
 |zero=>exact h.elim
 |succ f=>exact⟨h.choose,h.choose_spec.1⟩
theorem GL.ext {T T':List TR}(hp:pre T T'):∀{f p:Nat},GL T f p->GL T' f p
 |0,p,h=>h.elim
 |f+1,p,⟨a,h1,h2⟩=>⟨a,h1.mono hp,λe he=>by
   refine(h2 e he).elim λc d=>?_;refine⟨c.mono hp,λp' MJ=>?_⟩;rw[hp.parts c.good.1]at MJ
   exact(d p' MJ).imp (λZW=>ag ZW λa q1 q2=>⟨a,q1,hp.get q2⟩) λq=>GL.ext hp q⟩
theorem GK.ext {T T':List TR}(hp:pre T T'){f e:Nat}(h:GK T f e):GK T' f e:=by
 refine⟨h.1.mono hp,λp hm=>?_⟩;rw[hp.parts h.1.good.1]at hm;exact(h.2 p hm).imp (λq7=>ag q7 λa q1 q2=>⟨a,q1,hp.get q2⟩) λq=>q.ext hp
theorem dM {β:Type}{a:Sg β}{m:Nat}{x:β×Bool}(h:x∈dA a m):x.1∈a.h++a.o++a.r++a.t:=by
 have of:∀{l:List β} {f:Bool},x∈l.map (λy=>(y,f))->x.1∈l:=λh=>by
  refine ag (MH.mp h) λy hy e50=>?_;refine aR e50 ?_;exact hy
 rcases M0.mp h with h|h
 ·refine Lr (M0.mp h) (λh=>?_) λh=>?_
  ·exact MZ _ (MZ _ (MZ _ (of h)))
  ·refine Lr (M0.mp h) (λh=>?_) λh=>?_
   ·exact MZ _ (MZ _ (MB _ (Y5 (of h))))
   ·refine ag (Wu.mp (of h)) λl h1 h2=>?_;exact MZ _ (MB _ ((TY.mp h1).2▸h2))
 ·exact MB _ (of h)
theorem F2.abX {β γ:Type}{R R':β->γ->Prop}{l:List β}{k:List γ}(h:F2 R l k):(∀x∈l,∀y∈k,R x y->R' x y)->F2 R' l k:=F2.ind (P:=λl k=>(∀x∈l,∀y∈k,R x y->R' x y)->F2 R' l k) (λ_=>trivial) (λa b l k r _ ih f=>And.intro (f a LI b LI r) (ih λx hx y hy=>f x (L8 _ hx) y (L8 _ hy))) h
theorem F2.refl {β:Type}{R:β->β->Prop}(h:∀x,R x x):∀l:List β,F2 R l l
 |[]=>trivial
 |a::l=>⟨h a,F2.refl h l⟩
theorem cN.mono {β γ:Type}{R R':β×Bool->γ×Bool->Prop}{a:Sg β}{b:Sg γ}(h:∀x y,x.1∈a.h++a.o++a.r++a.t->y.1∈b.h++b.o++b.r++b.t->R x y->R' x y)(H:cN R a b):cN R' a b:=λm hm=>
 ag (H m hm) λm' h1 f=>⟨m',h1,f.abX λx hx y hy=>h x y (dM hx) (dM hy)⟩
theorem cN.congr {β γ:Type}{R R':β×Bool->γ×Bool->Prop}{a:Sg β}{b:Sg γ}(h:∀x y,x.1∈a.h++a.o++a.r++a.t->y.1∈b.h++b.o++b.r++b.t->(R x y↔R' x y)):cN R a b↔cN R' a b:=⟨cN.mono λx y hx hy=>(h x y hx hy).mp,cN.mono λx y hx hy=>(h x y hx hy).mpr⟩
theorem KS.congr {T:List TR}{L L':Nat->Nat->Prop}{P Q:List Nat}(h:∀p∈P,∀q∈Q,(L p q↔L' p q)):KS T L P Q↔KS T L' P Q:=by
 constructor
 ·intro H p hp;refine ag (H p hp) λq hq c=>?_;exact⟨q,hq,c.imp_right (h p hp q hq).mp⟩
 ·intro H p hp;refine ag (H p hp) λq hq c=>?_;exact⟨q,hq,c.imp_right (h p hp q hq).mpr⟩
theorem du {T:List TR}{f p q:Nat}(h:vb T f p q):(∃a,ξ T p a)/\∃b,ξ T q b:=by
 induction f with
 |zero=>exact h.elim
 |succ f=>obtain⟨a,b,h1,h2,-⟩:=h;exact⟨⟨a,h1⟩,b,h2⟩
theorem JW {l:List Nat}{m k:Nat}:((l.map λe=>((e,m):El)).filter λp=>decide (p.2=k)).map (λp=>p.1)=if m=k then l else[]:=by
 induction l with
 |nil=>simp
 |cons a l ih=>
  (refine ad M6 ?_;refine ad OE ?_)
  by_cases h:m=k
  ·simp only[h,decide_true,if_true,M6];rw[h]at ih;simp only[if_true]at ih
   (refine ad ih ?_;rfl)
  ·simp only[h,decide_false,PA,if_false]at ih⊢;exact ih
theorem BL {l:List Nat}{m:Nat}(h:m≠2)(k:List El):((l.map λe=>((e,m):El))++k).takeWhile (λp=>decide (p.2≠2))=(l.map λe=>(e,m))++k.takeWhile (λp=>decide (p.2≠2)):=by
 induction l with
 |nil=>rfl
 |cons a l ih=>(refine ad M6 ?_;refine ad Uh ?_;refine ad Yx ?_;refine ad (if_pos (by simpa using h)) ?_;refine ad ih ?_);rfl
theorem BM {l:List Nat}{m:Nat}(h:m≠2)(k:List El):((l.map λe=>((e,m):El))++k).dropWhile (λp=>decide (p.2≠2))=k.dropWhile (λp=>decide (p.2≠2)):=by
 induction l with
 |nil=>rfl
 |cons a l ih=>(refine ad M6 ?_;refine ad Uh ?_;refine ad Yw ?_;refine ad (if_pos (by simpa using h)) ?_;refine ad ih ?_;rfl)
noncomputable def dO (E:List El)(k:Nat):List Nat:=(E.filter λp=>decide (p.2=k)).map (λp=>p.1)
theorem cO (E E':List El)(k:Nat):dO (E++E') k=dO E k++dO E' k:=by simp[dO]
theorem dw (l:List Nat)(m k:Nat):dO (l.map λe=>((e,m):El)) k=if m=k then l else[]:=JW
theorem wX {a b:Sq}(ha:a.Ok)(hb:b.Ok)(h:a.ι=b.ι)(Oz:a.ro=b.ro):a=b:=by
 have o:∀a:Sq,dO a.ι 1=a.o:=λa=>by
  unfold Sq.ι;rw[cO,cO,cO,dw,dw,dw,dw];simp
 have r:∀a:Sq,dO a.ι 2=a.r:=λa=>by
  unfold Sq.ι;rw[cO,cO,cO,dw,dw,dw,dw];simp
 have tw:∀a:Sq,a.Ok->dO (a.ι.takeWhile λp=>decide (p.2≠2)) 0=a.h/\dO (a.ι.dropWhile λp=>decide (p.2≠2)) 0=a.t:=λa ha=>by
  unfold Sq.ι
  rw[Mh,Mh,BL (by decide),BL (by decide),BM (by decide),BM (by decide)]
  rcases hr:a.r with _|⟨x,l⟩
  ·have ht:a.t=[]:=O9 λq=>(ha.tl q).1 hr;refine ad ht ?_;simp only[TV,Mz,List.takeWhile_nil,List.dropWhile_nil];rw[cO,dw,dw]
   exact⟨by simp,rfl⟩
  ·(refine ad M6 ?_;refine ad Uh ?_;refine ad Yx ?_;refine ad Yw ?_)
   simp only[ne_eq,not_true_eq_false,decide_false,PA,if_false,Mz];rw[cO,dw,dw]
   refine⟨by simp,?_⟩
   have:∀(x:El) (l:List El),x.2≠0->dO (x::l) 0=dO l 0:=λx l hx=>by simp[dO,hx]
   rw[this _ _ (show(2:Nat)≠0 by decide),cO,dw,dw];simp
 refine(tw a ha).elim λh1 h2=>?_;refine(tw b hb).elim λh3 h4=>?_;have eo:=o a;have er:=r a;rw[h]at h1 h2 eo er;obtain⟨bh,bo,br,bt,Zh⟩:=b;obtain⟨ah,ao,ar,at',aro⟩:=a;dsimp only at h1 h2 h3 h4 eo er Oz;have Zc:=o ⟨bh,bo,br,bt,Zh⟩;have Za:=r ⟨bh,bo,br,bt,Zh⟩;dsimp only at Zc Za
 (refine aR h1 ?_;refine aR h2 ?_;refine aR eo ?_;refine aR er ?_;refine ad h3 ?_;refine ad h4 ?_;refine ad Zc ?_;refine ad Za ?_;refine ad Oz ?_;rfl)
theorem qg {a b:Sq}(ha:a.Ok)(hb:b.Ok)(h:a.row=b.row):a=b:=by
 rcases a.abE with⟨x,e1,r1⟩|⟨r1,n1⟩<;>rcases b.abE with⟨y,e2,r2⟩|⟨r2,n2⟩<;>rw[r1,r2]at h
 ·have h1:x=y:=TR.arr.inj h |>.1;have h2:a.ro=b.ro:=TR.arr.inj h |>.2
  (refine ad e1 ?_;refine ad e2 ?_;refine ad h1 ?_;refine ad h2 ?_;rfl)
 ·contradiction
 ·contradiction
 ·have h1:=(TR.tup.inj h).1;have h2:=(TR.tup.inj h).2;exact wX ha hb h1 h2
theorem da {T:List TR}{p:Nat}{a b:Sq}(h1:ξ T p a)(h2:ξ T p b):a=b:=qg h1.2 h2.2 (BK h1 h2)
theorem qh {T:List TR}(hT:bu T){e p:Nat}{f:Bool}(h:p∈rd T e f):p∈parts T e\/aD T p:=by
 refine Lr (M0.mp h) (λh=>?_) λh=>?_
 ·exact .inl h
 ·split at h
  ·rw[LV]at h;refine ad h ?_
   exact .inr ⟨0,by decide,aG hT rfl⟩
  ·contradiction
theorem sT {T:List TR}(hT:bu T):∀{f p q:Nat},GL T f p->(vb T (f+1) p q↔vb T f p q)
 |0,p,q,h=>h.elim
 |f+1,p,q,⟨a0,h1,h2⟩=>by
  have key:∀a b:Sq,a=a0->(cN (cg T (vb T (f+1))) a.sg b.sg↔cN (cg T (vb T f)) a.sg b.sg):=by
   rintro a b rfl;refine cN.congr λx y hx hy=>KS.congr λp' hp q' hq=>?_;refine(h2 x.1 hx).elim λhc hg=>?_;rcases qh hT hp with h|h
   ·refine Lr (hg p' h) (λh=>?_) λh=>?_
    ·exact⟨λq=>(aJ h (du q).1.choose_spec).elim,λq=>(aJ h (du q).1.choose_spec).elim⟩
    ·exact sT hT h
   ·exact⟨λq=>(aJ h (du q).1.choose_spec).elim,λq=>(aJ h (du q).1.choose_spec).elim⟩
  constructor
  ·intro ZN;refine cS ZN λa b g1 g2 g3 g4=>?_;exact⟨a,b,g1,g2,g3,(key a b (da g1 h1)).mp g4⟩
  ·intro ZM;refine cS ZM λa b g1 g2 g3 g4=>?_;exact⟨a,b,g1,g2,g3,(key a b (da g1 h1)).mpr g4⟩
theorem wY {T:List TR}(hT:bu T){f g p q:Nat}(h:GL T f p)(hg:f<=g):vb T g p q↔vb T f p q:=by
 induction hg with
 |refl=>exact NW
 |@step m hm ih=>exact(sT hT (h.mono hm)).trans ih
def LT (T:List TR):Nat->Nat->Prop:=vb T 5
theorem vd {T:List TR}(hT:bu T){f p q:Nat}(h:GL T f p)(hf:f<=4):LT T p q↔∃a b,ξ T p a/\ξ T q b/\(a.ro=true->b.ro=true)/\cN (cg T (LT T)) a.sg b.sg:=by
 have h4:=h.mono hf;refine ag (h.mono (show f<=3+1 from hf)) λa0 h1 h2=>?_
 have key:∀a b:Sq,a=a0->(cN (cg T (vb T 4)) a.sg b.sg↔cN (cg T (LT T)) a.sg b.sg):=by
  rintro a b rfl;refine cN.congr λx y hx hy=>KS.congr λp' hp q' hq=>?_;refine(h2 x.1 hx).elim λhc hg=>?_;have no:aD T p'->(vb T 4 p' q'↔LT T p' q'):=λh=>⟨λq=>(aJ h (du q).1.choose_spec).elim,λq=>(aJ h (du q).1.choose_spec).elim⟩;refine Lr (qh hT hp) (λh=>?_) λh=>?_
  ·refine Lr (hg p' h) (λh=>?_) λh=>?_
   ·exact no h
   ·exact(wY hT h (show 3<=4 by decide)).trans (wY hT h (show 3<=5 by decide)).symm
  ·exact no h
 constructor
 ·intro ZJ;refine cS ZJ λa b g1 g2 g3 g4=>?_;exact⟨a,b,g1,g2,g3,(key a b (da g1 h1)).mp g4⟩
 ·intro ZI;refine cS ZI λa b g1 g2 g3 g4=>?_;exact⟨a,b,g1,g2,g3,(key a b (da g1 h1)).mpr g4⟩
theorem KS.refl {T:List TR}{L:Nat->Nat->Prop}{P:List Nat}:KS T L P P:=λp hp=>⟨p,hp,.inl (.inl rfl)⟩
theorem cN.refl {T:List TR}{L:Nat->Nat->Prop}{a:Sg Nat}:cN (cg T L) a a:=λm hm=>⟨m,hm,F2.refl (R:=cg T L) (λ_=>KS.refl) _⟩
theorem LT.refl {T:List TR}(hT:bu T){f p:Nat}(h:GL T f p)(hf:f<=4):LT T p p:=by
 refine h.ξ.elim λa ha=>?_;exact(vd hT h hf).mpr ⟨a,a,ha,ha,λq=>q,cN.refl⟩
theorem BN {T T':List TR}(hp:pre T T'){p:Nat}{a:Sq}(hl:p<T.length)(h:ξ T' p a):ξ T p a:=⟨by(refine aR (hp.get' hl) ?_);exact h.1,h.2⟩
theorem ie {T T':List TR}(hp:pre T T'){p q:Nat}(hl:p<T.length):cov T' p q↔cov T p q:=by unfold cov;(refine ad (hp.get' hl) ?_;rfl)
def gQ (T:List TR)(f q:Nat):Prop:=aD T q\/GL T f q
theorem gQ.lt {T:List TR}{f q:Nat}(h:gQ T f q):q<T.length:=by
 refine Lr h (λo8=>?_) λh=>?_
 ·refine ag o8 λa _ h=>?_;exact(Mt.mp h).1
 ·refine ag h.ξ λa h _=>?_;exact(Mt.mp h).1
theorem qi {T T':List TR}(hT:bu T)(hp:pre T T'):∀{f p q:Nat},gQ T f p->gQ T f q->(vb T' f p q↔vb T f p q)
 |0,p,q,_,_=>NW
 |f+1,p,q,gp,gq=>by
  have back:∀{x:Nat} {a:Sq},gQ T (f+1) x->ξ T' x a->ξ T x a:=λgx h=>BN hp gx.lt h
  have key:∀a b:Sq,ξ T p a->ξ T q b->(cN (cg T' (vb T' f)) a.sg b.sg↔cN (cg T (vb T f)) a.sg b.sg):=by
   intro a b ha hb
   have ga:∀e∈a.all,bU T e/\∀p'∈parts T e,gQ T f p':=by
    refine Lr gp (λg=>?_) λo1=>?_
    ·exact(aJ g ha).elim
    ·refine ag o1 λa' g1 g2=>?_
     (refine ad (da ha g1) ?_);exact g2
   have gb:∀e∈b.all,bU T e/\∀p'∈parts T e,gQ T f p':=by
    refine Lr gq (λg=>?_) λo4=>?_
    ·exact(aJ g hb).elim
    ·refine ag o4 λa' g1 g2=>?_
     (refine ad (da hb g1) ?_);exact g2
   have XN:∀e fl,bU T e->rd T' e fl=rd T e fl:=λe fl hc=>by unfold rd;(refine ad (hp.parts hc.good.1) ?_;rfl)
   refine cN.congr λx y hx hy=>?_;refine(ga x.1 hx).elim λcx gx=>?_;refine(gb y.1 hy).elim λcy gy=>?_;unfold cg
   (refine ad (XN _ _ cx) ?_;refine ad (XN _ _ cy) ?_)
   have gr:∀e fl,(∀p'∈parts T e,gQ T f p')->∀p'∈rd T e fl,gQ T f p':=λe fl h p' MJ=>(qh hT MJ).elim (h p') .inl
   constructor
   ·intro H p' MJ;obtain⟨q',NK,c⟩:=H p' MJ;have g1:=gr _ _ gx p' MJ;have g2:=gr _ _ gy q' NK;exact⟨q',NK,c.imp (ie hp g1.lt).mp (qi hT hp g1 g2).mp⟩
   ·intro H p' MJ;obtain⟨q',NK,c⟩:=H p' MJ;have g1:=gr _ _ gx p' MJ;have g2:=gr _ _ gy q' NK;exact⟨q',NK,c.imp (ie hp g1.lt).mpr (qi hT hp g1 g2).mpr⟩
  constructor
  ·intro ZP;refine cS ZP λa b g1 g2 g3 g4=>?_;have ha:=back gp g1;have hb:=back gq g2;exact⟨a,b,ha,hb,g3,(key a b ha hb).mp g4⟩
  ·intro ZO;refine cS ZO λa b g1 g2 g3 g4=>?_;exact⟨a,b,g1.mono hp,g2.mono hp,g3,(key a b g1 g2).mpr g4⟩
theorem BO {T T':List TR}(hT:bu T)(hp:pre T T'){p q:Nat}(gp:gQ T 5 p)(gq:gQ T 5 q):LT T' p q↔LT T p q:=qi hT hp gp gq
def KT (T:List TR)(s t:Nat):Prop:=KS T (LT T) (parts T s) (parts T t)
end
noncomputable section
theorem BP {T:List TR}{p:Nat}{x:TR}(h:T[p]?=some x):p<T.length:=(Mt.mp h).1
theorem ve {T:List TR}(hT:bu T){p q a a':Nat}(ha:a<=10)(hp:T[p]?=some (.atom a))(hq:T[q]?=some (.atom a'))(hc:bI a' a=true):cov T p q:=by
 simp only[bI,OH,MW,decide_eq_true_eq]at hc;rcases hc with((h|h)|⟨h,h2⟩)|⟨h,h2⟩
 ·subst h;exact .inl (bR hT hp hq)
 ·subst h;exact .inr (.inl (bR hT hq (aG hT (i:=1) rfl)))
 ·subst h;have hq6:=bR hT hq (aG hT (i:=6) (x:= .atom 8) rfl);refine .inr (.inr ⟨_,hp,?_⟩)
  (refine ad (eJ a (Ll [_] 1 (.a M2 On) Tl [(1,M2,Re)] rfl ha)) ?_;refine ad (if_pos h2) ?_;refine ad hq6 ?_);rfl
 ·subst h;have hq7:=bR hT hq (aG hT (i:=7) (x:= .atom 9) rfl);refine .inr (.inr ⟨_,hp,?_⟩)
  (refine ad (eJ a (Ll [_] 1 (.a M2 On) Tl [(1,M2,Re)] rfl ha)) ?_;refine ad (if_neg (by lia)) ?_;refine ad (if_pos h2) ?_;refine ad hq7 ?_);rfl
set_option tactic.hygienic true in
theorem eL {T:List TR}(hT:bu T){p q a:Nat}(ha:a<=10)(hp:T[p]?=some (.atom a))(hc:cov T p q):∃a',a'<=10/\T[q]?=some (.atom a')/\bI a' a=true:=by
 refine fY hc (λU7=>?_) (λaaP=>?_) λU5=>?_
 ·subst U7
  exact⟨a,ha,hp,by simp[bI]⟩
 ·subst aaP
  exact⟨10,Lv _,aG hT rfl,by simp[bI]⟩
 ·refine ag U5 λx hx hw=>?_;replace hx:=hp▸hx;obtain rfl:=Option.some.inj hx
  rw[eJ a (by lia)]at hw
  split at hw
  ·rename_i h
   have:q=6:=by lia
   refine ad this ?_
   exact⟨8,by decide,aG hT rfl,by rcases h with rfl|rfl<;>decide⟩
  ·split at hw
   ·rename_i h
    have:q=7:=by lia
    refine ad this ?_
    exact⟨9,by decide,aG hT rfl,by rcases h with rfl|rfl<;>decide⟩
   ·lia
theorem eM {T:List TR}{p q:Nat}{a:Sq}(hp:ξ T p a)(hc:cov T p q):q=p\/q=1:=by
 refine fY hc (λU0=>?_) (λh=>?_) λUZ=>?_
 ·refine ad U0 ?_;exact .inl rfl
 ·exact .inr h
 ·refine ag UZ λx hx hw=>?_;replace hx:=hp.1▸hx;obtain rfl:=Option.some.inj hx;rw[ol]at hw;lia
theorem gP {T:List TR}(hT:bu T):aD T 1:=⟨10,Lv _,aG hT rfl⟩
theorem sU {T:List TR}{p:Nat}:cov T p p:= .inl rfl
theorem aD.cov {T:List TR}(hT:bu T){p q:Nat}(h:aD T p)(hc:cov T p q):aD T q:=by
 refine ag h λa ha hp=>?_;refine a6 (eL hT ha hp hc) λa' h1 h2 _=>?_;exact⟨a',h1,h2⟩
theorem jZ {T:List TR}(hT:bu T){p q r:Nat}(hp:aD T p\/∃a,ξ T p a)(h1:cov T p q)(h2:cov T q r):cov T p r:=by
 rcases hp with⟨a,ha,hp⟩|⟨a,hp⟩
 ·refine a6 (eL hT ha hp h1) λb hb hq c1=>?_;refine a6 (eL hT hb hq h2) λc hc hr c2=>?_
  exact ve hT ha hp hr (u9 c (by lia) b (by lia) a (by lia) c2 c1)
 ·refine Lr (eM hp h1) (λU3=>?_) λU2=>?_
  ·refine aR U3 ?_;exact h2
  ·subst U2;refine a6 (eL hT (Lv 10) (aG hT (i:=1) rfl) h2) λb hb hr c2=>?_
   have:∀b,b<11->bI b 10=true->b=10:=by decide
   have:=this b (by lia) c2
   subst this;exact .inr (.inl (bR hT hr (aG hT rfl)))
section
variable {α:Type}{ok:α->Prop}{na nk nl:Nat}{RA:List TR->Nat->α->Prop}
theorem mw {T:List TR}(hT:bu T)(hL:fD RA){rel:α->α->Prop}{P Q:List Nat}{k k':Kd α}(hP:kC T (RA T) P k)(hQ:kC T (RA T) Q k')(hk:eW ok na k)(Qx:eW ok na k')
  (Pp:∀p q s s',s∈k.subs->s'∈k'.subs->RA T p s->RA T q s'->(LT T p q↔rel s s')) (MR:∀p s,RA T p s->LT T p p) :
  KS T (LT T) P Q↔pU rel k k':=by
 have t1:T[1]?=some (.atom 10):=aG hT rfl
 have unk:∀q∈Q,T[q]?=some (.atom 10)->10∈k'.at_:=λq hq h=>by
  refine Lr (hQ.part q hq) (λo1=>?_) λo2=>?_
  ·refine a6 o1 λa h1 h2 h3=>?_;replace h3:=h▸h3;rcases h3 with _|_;exact h1
  ·refine ag o2 λs h1 h2=>?_;refine(hL T q s h2).elim λsq hs=>?_;exact(aJ ⟨10,Lv _,h⟩ hs).elim
 unfold pU;rw[sS hk.small Qx.small];simp only[yR Qx.small]
 constructor
 ·intro H;refine⟨λa ha=>?_,λs hs=>?_⟩
  ·obtain⟨p,hp,a1,h1,h2⟩:=hP.atom a ha
   have Yg:a1<=10:=by
    refine Lr (hP.part p hp) (λo63=>?_) λo64=>?_
    ·obtain⟨b,-,h3,h4⟩:=o63;replace h4:=h1▸h4;rcases h4 with _|_;exact h3
    ·refine ag o64 λs _ h3=>?_;refine(hL T p s h3).elim λsq hs=>?_
     have:=hs.1
     replace this:=h1▸this
     rcases(bO sq).2 with⟨e,ro,q⟩|⟨es,ro,q⟩<;>replace this:=q▸this<;>rcases this with _|_
   refine ag (H p hp) λq hq c=>?_;rcases c with c|c
   ·refine a6 (eL hT Yg h1 c) λa2 h3 h4 h5=>?_;refine Lr (hQ.part q hq) (λQp=>?_) λVu=>?_
    ·obtain⟨b,g1,g2,g3⟩:=Qp;replace g3:=h4▸g3;rcases g3 with _|_
     exact⟨a2,g1,u9 a2 (by lia) a1 (by lia) a (by have:=hk.small a ha;exact NI (by assumption)) h5 h2⟩
    ·refine ag Vu λs g1 g2=>?_;refine(hL T q s g2).elim λsq hs=>?_;exact(aJ ⟨a2,h3,h4⟩ hs).elim
   ·exact(aJ ⟨a1,Yg,h1⟩ (du c).1.choose_spec).elim
  ·refine Lr (hP.sub s hs) (λaar=>?_) λVn=>?_
   ·refine ag aar λp hp h1=>?_;refine ag (H p hp) λq hq c=>?_;refine Lr c (λc=>?_) λc=>?_
    ·refine a6 (eL hT (Lv 10) h1 c) λa2 h3 h4 h5=>?_
     have:∀b,b<11->bI b 10=true->b=10:=by decide
     have:=this a2 (by lia) h5
     subst this;exact .inl (unk q hq h4)
    ·exact(aJ ⟨10,Lv _,h1⟩ (du c).1.choose_spec).elim
   ·refine ag Vn λp hp h1=>?_;refine(hL T p s h1).elim λsq Sa=>?_;refine ag (H p hp) λq hq c=>?_
    have lst:∀q∈Q,LT T p q->∃x∈k'.subs,rel s x:=λq hq hl=>by
     refine((du hl).2).elim λb hb=>?_;refine Lr (hQ.part q hq) (λVh=>?_) λVg=>?_
     ·refine a6 Vh λa g1 g2 g3=>?_;exact(aJ ⟨a,g2,g3⟩ hb).elim
     ·refine ag Vg λs' g1 g2=>?_;exact⟨s',g1,(Pp p q s s' hs g1 h1 g2).mp hl⟩
    rcases c with c|c
    ·refine Lr (eM Sa c) (λVf=>?_) λVe=>?_
     ·subst Vf;exact .inr (lst q hq (MR q s h1))
     ·subst Ve;exact .inl (unk 1 hq t1)
    ·exact .inr (lst q hq c)
 ·rintro⟨H1,H2⟩ p hp
  have aQ:10∈k'.at_->∃q∈Q,cov T p q:=λh=>by
   obtain⟨q,hq,a2,g1,g2⟩:=hQ.atom 10 h
   have Px:a2<=10:=by
    simp only[bI,OH,MW,decide_eq_true_eq]at g2;lia
   have:∀b,b<11->bI b 10=true->b=10:=by decide
   have:=this a2 (by lia) g2
   subst this;exact⟨q,hq,.inr (.inl (bR hT g1 t1))⟩
  refine Lr (hP.part p hp) (λVb=>?_) λVa=>?_
  ·obtain⟨a,h1,h2,h3⟩:=Vb;refine ag (H1 a h1) λa1 g1 g2=>?_;obtain⟨q,hq,a2,g3,g4⟩:=hQ.atom a1 g1;have l1:=Qx.small a1 g1
   have Px:a2<=10:=by
    simp only[bI,OH,MW,decide_eq_true_eq]at g4;lia
   exact⟨q,hq,.inl (ve hT h2 h3 g3 (u9 a2 (by lia) a1 (by lia) a (by lia) g4 g2))⟩
  ·refine ag Va λs h1 h2=>?_;refine Lr (H2 s h1) (λh=>?_) λU'=>?_
   ·refine ag (aQ h) λq hq c=>?_;exact⟨q,hq,.inl c⟩
   ·obtain⟨s',g1,g2⟩:=U';refine Lr (hQ.sub s' g1) (λU9=>?_) λU8=>?_
    ·obtain⟨q,hq,g3⟩:=U9;exact⟨q,hq,.inl (.inr (.inl (bR hT g3 t1)))⟩
    ·obtain⟨q,hq,g3⟩:=U8;exact⟨q,hq,.inr ((Pp p q s s' h1 g1 h2 g3).mpr g2)⟩
theorem qj {T:List TR}(hT:bu T){e:Nat}{k:Kd α}(h:kC T (RA T) (parts T e) k):∀f:Bool,kC T (RA T) (rd T e f) (mk (k,f))
 |false=>by(refine ad (show rd T e false=parts T e from Mz _) ?_);exact h
 |true=>by
  have t4:T[4]?=some (.atom 0):=aG hT rfl;refine⟨λp hp=>?_,λa ha=>?_,λs hs=>?_⟩
  ·rcases M0.mp hp with hp|hp
   ·exact(h.part p hp).imp_left λZ2=>ag Z2 λa h1 h2=>⟨a,MZ _ h1,h2⟩
   ·refine ad (LV.mp hp) ?_;exact .inl ⟨0,MB _ LI,LP _,t4⟩
  ·rcases M0.mp ha with ha|ha
   ·refine ag (h.atom a ha) λp h1 h2=>?_;exact⟨p,MZ _ h1,h2⟩
   ·refine ad (LV.mp ha) ?_;exact⟨4,MB _ LI,0,t4,rfl⟩
  ·exact(h.sub s hs).imp (λZ0=>ag Z0 λp h1 h2=>⟨p,MZ _ h1,h2⟩) λZZ=>ag ZZ λp h1 h2=>⟨p,MZ _ h1,h2⟩
theorem ql {k:Kd α}(h:eW ok na k):∀f:Bool,eW ok (na+1) (mk (k,f))
 |false=>h.mono (Mf _)
 |true=>⟨Y4 h.ne _,Mr.mpr ⟨h.small,cv (LP _)⟩,Lk (LU LH) (Ou h.na),h.sub⟩
theorem qm (k:Kd α)(f:Bool):(mk (k,f)).subs=k.subs:=by rcases f with _|_<;>rfl
section
variable {β γ QY QX:Type}{R:β->γ->Prop}{R':QY->QX->Prop}
theorem F2.flip {l:List β}{k:List γ}(h:F2 R l k):F2 (λy x=>R x y) k l:=F2.ind (P:=λl k=>F2 (λy x=>R x y) k l) trivial (λ_ _ _ _ r _ ih=>And.intro r ih) h
theorem F2.take:∀{l:List β} {k:List γ} (n:Nat),F2 R l k->F2 R (l.take n) (k.take n)
 |l,k,0,_=>by(refine ad WY ?_;refine ad WY ?_);trivial
 |[],[],_+1,_=>trivial
 |_::_,_::_,n+1,h=>⟨h.1,F2.take n h.2⟩
 |[],_::_,_+1,h=>h.elim
 |_::_,[],_+1,h=>h.elim
theorem F2.rep {l:List β}{k:List γ}(h:F2 R l k):∀n:Nat,F2 R (Mu n l).flatten (Mu n k).flatten
 |0=>trivial
 |n+1=>by(refine ad QO ?_;refine ad QO ?_;refine ad RC ?_;refine ad RC ?_);exact F2.app (F2.rep h n) h
theorem F2.tri {S:β->QY->Prop}{S':γ->QX->Prop}{l:List β}{k:List γ}(h:F2 R l k):∀{l':List QY} {k':List QX},F2 R' l' k'->F2 S l l'->(∀x∈l,∀y∈k,∀x'∈l',∀y'∈k',R x y->R' x' y'->S x x'->S' y y')->F2 S' k k':=F2.ind (P:=λl k=>∀{l':List QY} {k':List QX},F2 R' l' k'->F2 S l l'->(∀x∈l,∀y∈k,∀x'∈l',∀y'∈k',R x y->R' x' y'->S x x'->S' y y')->F2 S' k k') (λh1 h2 _=>by
  obtain rfl:=h2.nil;refine ad h1.nil ?_
  trivial) (λa b l k r _ ih l' k' h1 h2 f=>by
  obtain⟨a',l',rfl,s,h2⟩:=h2.cons;obtain⟨b',k',rfl,r',h1⟩:=h1.cons
  exact And.intro (f a LI b LI a' LI b' LI r r' s) (ih h1 h2 λx hx y hy x' N7 y' VQ=>f x (L8 _ hx) y (L8 _ hy) x' (L8 _ N7) y' (L8 _ VQ))) h
noncomputable def Sg.all (a:Sg β):List β:=a.h++a.o++a.r++a.t
structure G2 (R:β->γ->Prop)(a:Sg β)(b:Sg γ):Prop where
 h:F2 R a.h b.h
 o:F2 R a.o b.o
 r:F2 R a.r b.r
 t:F2 R a.t b.t
theorem G2.flip {a:Sg β}{b:Sg γ}(g:G2 R a b):G2 (λy x=>R x y) b a:=⟨g.h.flip,g.o.flip,g.r.flip,g.t.flip⟩
def CJ (R:β->γ->Prop)(x:β×Bool)(y:γ×Bool):Prop:=R x.1 y.1/\x.2=y.2
theorem F2.fl {l:List β}{k:List γ}(h:F2 R l k)(f:Bool):F2 (CJ R) (l.map λx=>(x,f)) (k.map λx=>(x,f)):=F2.map.mpr (h.mono λ_ _ r=>⟨r,rfl⟩)
theorem G2.lay {a:Sg β}{b:Sg γ}(g:G2 R a b)(m:Nat):F2 (CJ R) (dA a m) (dA b m):=by
 unfold dA;refine ad g.o.len ?_;exact F2.app (g.t.fl false) (F2.app (F2.app ((g.r.rep _).fl false) ((g.o.take m).fl true)) (g.h.fl false))
theorem G2.oks {a:Sg β}{b:Sg γ}(g:G2 R a b){m:Nat}:jx a m↔jx b m:=by
 unfold jx;rw[g.r.len,g.r.aby,g.o.len]
theorem G2.abG {a:Sg β}{b:Sg γ}{a':Sg QY}{b':Sg QX}(g:G2 R a b)(g':G2 R' a' b'){S:β×Bool->QY×Bool->Prop}{S':γ×Bool->QX×Bool->Prop}
  (hS:∀x y x' y',CJ R x y->CJ R' x' y'->x.1∈a.all->y.1∈b.all->x'.1∈a'.all->y'.1∈b'.all->S x x'->S' y y') (H:cN S a a'):cN S' b b':=λm hm=>
 ag (H m (g.oks.mpr hm)) λm' h1 f=>
 ⟨m',g'.oks.mp h1,(g.lay m).tri (g'.lay m') f λx hx y hy x' N7 y' VQ r r'=>hS x y x' y' r r' (dM hx) (dM hy) (dM N7) (dM VQ)⟩
end
theorem BQ {T:List TR}{f:Nat}(hG:∀p s,ok s->RA T p s->GL T f p){e:Nat}{k:Kd α}(hk:eW ok na k)(h:dJ T (RA T) e k):GK T f e:=⟨h.canon,λp hp=>(h.rep.part p hp).imp (λUK=>a6 UK λa h1 h2 h3=>⟨a,h2,h3⟩) λZY=>ag ZY λs h1 h2=>hG p s (hk.sub s h1) h2⟩
theorem sV {T:List TR}{a:Sq}{r:Rw α}(g:G2 (dJ T (RA T)) a.sg r.sg):F2 (dJ T (RA T)) a.all r.all:=F2.app g.t (F2.app g.r (F2.app g.o g.h))
theorem oo {T:List TR}{f:Nat}(hG:∀p s,ok s->RA T p s->GL T f p){p:Nat}{r:Rw α}(hr:fg ok nk na nl r)(h:iq RA T p r):GL T (f+1) p:=by
 refine tJ h λa h1 h2 h3 h4 h5 h6=>?_;refine⟨a,h1,λe he=>?_⟩;refine ag ((sV ⟨h3,h4,h5,h6⟩).left he) λk hk hR=>?_;exact BQ hG (hr.ks k hk) hR
theorem wZ {T:List TR}(hT:bu T)(hL:fD RA){rel:α->α->Prop}{f:Nat}(hf:f+1<=4){p q:Nat}{r r':Rw α}(hG:∀p s,ok s->RA T p s->GL T f p)(hr:fg ok nk na nl r)(L6:fg ok nk na nl r')
  (Pp:∀p q s s',ok s->ok s'->RA T p s->RA T q s'->(LT T p q↔rel s s')) (MR:∀p s,RA T p s->LT T p p)
  (hp:iq RA T p r) (hq:iq RA T q r'):LT T p q↔sB rel r r':=by
 rw[vd hT (oo hG hr hp) hf,BH hr L6];refine tJ hp λa h1 h2 h3 h4 h5 h6=>?_;refine tJ hq λb g1 g2 g3 g4 g5 g6=>?_;have hA:G2 (dJ T (RA T)) a.sg r.sg:=⟨h3,h4,h5,h6⟩;have hB:G2 (dJ T (RA T)) b.sg r'.sg:=⟨g3,g4,g5,g6⟩
 have XJ:∀x y x' y',CJ (dJ T (RA T)) x y->CJ (dJ T (RA T)) x' y'->y.1∈r.all->y'.1∈r'.all->(cg T (LT T) x x'↔pU rel (mk y) (mk y')):=λx y x' y' e1 e2 m1 m2=>by
  have k1:=hr.ks y.1 m1;have k2:=L6.ks y'.1 m2;unfold cg
  (refine ad e1.2 ?_;refine ad e2.2 ?_)
  exact mw hT hL (qj hT e1.1.rep y.2) (qj hT e2.1.rep y'.2) (ql k1 _) (ql k2 _) (λp q s s' hs M3=>Pp p q s s' (k1.sub s (qm y.1 y.2▸hs)) (k2.sub s' (qm y'.1 y'.2▸M3))) MR
 have key:cN (cg T (LT T)) a.sg b.sg↔cN (λx y=>pU rel (mk x) (mk y)) r.sg r'.sg:=⟨hA.abG hB λx y x' y' e1 e2 _ m1 _ m2=>(XJ x y x' y' e1 e2 m1 m2).mp,hA.flip.abG hB.flip λy x y' x' e1 e2 m1 _ m2 _=>(XJ x y x' y' ⟨e1.1,e1.2.symm⟩ ⟨e2.1,e2.2.symm⟩ m1 m2).mpr⟩
 constructor
 ·intro ZS;refine cS ZS λa' b' e1 e2 e3 e4=>?_;rw[da e1 h1,da e2 g1]at e3 e4;exact⟨h2▸g2▸e3,key.mp e4⟩
 ·intro ZQ;refine ZQ.elim λe3 e4=>?_;exact⟨a,b,h1,g1,h2.symm▸g2.symm▸e3,key.mpr e4⟩
end
end
noncomputable section
theorem my:∀{l k:List Nat},l.Pairwise (·<·)->k.Pairwise (·<·)->(∀p,p∈l↔p∈k)->l=k
 |[],[],_,_,_=>rfl
 |[],b::k,_,_,h=>absurd ((h b).mpr LI) (by simp)
 |a::l,[],_,_,h=>absurd ((h a).mp LI) (by simp)
 |a::l,b::k,h1,h2,h=>by
  rw[OG]at h1 h2
  have hab:a=b:=by
   have ha:=(h a).mp LI;have hb:=(h b).mpr LI;refine Lr (L7.mp ha) (λe=>?_) λha=>?_
   ·exact e
   ·refine Lr (L7.mp hb) (λe=>?_) λhb=>?_
    ·exact e.symm
    ·have:=h2.1 a ha
     have:=h1.1 b hb
     lia
  subst hab
  congr 1
  refine my h1.2 h2.2 λp=>?_
  constructor
  ·intro hp
   have:=(h p).mp (L8 _ hp)
   refine Lr (L7.mp this) (λe=>?_) λe=>?_
   ·have:=h1.1 p hp;lia
   ·exact e
  ·intro hp
   have:=(h p).mpr (L8 _ hp)
   refine Lr (L7.mp this) (λe=>?_) λe=>?_
   ·have:=h2.1 p hp;lia
   ·exact e
theorem dW {T:List TR}{e:Nat}(h:e≠2):(∃ps,T[e]?=some (.ο ps)/\parts T e=ps)\/parts T e=[e]:=by
 unfold Mine.Internal.parts;refine ad (if_neg h) ?_;rcases hx:T[e]? with _|x
 ·exact .inr rfl
 ·rcases x with _|_<;>first|exact .inr rfl|exact .inl ⟨_,rfl,rfl⟩
theorem mz {T:List TR}(hT:bu T){e e':Nat}(h:bU T e)(h':bU T e')(hp:∀p,p∈parts T e↔p∈parts T e'):e=e':=by
 rcases dW (T:=T) h.ne2 with⟨ps,h1,h2⟩|h2<;>rcases dW (T:=T) h'.ne2 with⟨qs,h3,h4⟩|h4
 ·rw[h2,h4]at hp
  have:=my (h.ο ps h1).2 (h'.ο qs h3).2 hp
  subst this;exact bR hT h1 h3
 ·rw[h2,h4]at hp;refine(h.ο ps h1).elim λl2 Qk=>?_
  match ps,l2,Qk with
  |a::b::l,_,Qk=>
   have ha:=(hp a).mp (by simp)
   have hb:=(hp b).mp (by simp)
   rw[LV]at ha hb
   have:=(OG.mp Qk).1 b (by simp)
   lia
 ·rw[h2,h4]at hp;refine(h'.ο qs h3).elim λl2 Qk=>?_
  match qs,l2,Qk with
  |a::b::l,_,Qk=>
   have ha:=(hp a).mpr (by simp)
   have hb:=(hp b).mpr (by simp)
   rw[LV]at ha hb
   have:=(OG.mp Qk).1 b (by simp)
   lia
 ·rw[h2,h4]at hp
  exact LV.mp ((hp e).mp (by simp))
def AL (T:List TR)(p:Nat):Prop:=aD T p\/∃a,ξ T p a
theorem AL.mono {T T':List TR}(hp:pre T T'){p:Nat}(h:AL T p):AL T' p:=h.imp (λq2=>ag q2 λa h1 h2=>⟨a,h1,hp.get h2⟩) λq4=>q4.elim λa h=>⟨a,h.mono hp⟩
theorem aD.mono {T T':List TR}(hp:pre T T'){p:Nat}(h:aD T p):aD T' p:=by obtain⟨a,h1,h2⟩:=h;exact⟨a,h1,hp.get h2⟩
theorem BR {T:List TR}(hT:bu T){p q:Nat}(hp:AL T p)(h1:cov T p q)(h2:cov T q p):p=q:=by
 rcases hp with⟨a,ha,hp⟩|⟨a,hp⟩
 ·refine a6 (eL hT ha hp h1) λb hb hq c1=>?_;refine a6 (eL hT hb hq h2) λc hc hr c2=>?_;replace hr:=hp▸hr;rcases hr with _|_
  have:∀a,a<11->∀b,b<11->bI b a=true->bI a b=true->a=b:=by decide
  have:=this a (Ll [_] 1 (.a M2 On) Tl [(1,M2,Re)] rfl ha) b (Ll [_] 1 (.a M2 On) Tl [(1,M2,Re)] rfl hb) c1 c2
  subst this;exact bR hT hp hq
 ·refine Lr (eM hp h1) (λVt=>?_) λVs=>?_
  ·refine ad Vt ?_
   rfl
  ·subst Vs;refine a6 (eL hT (Lv 10) (aG hT (i:=1) rfl) h2) λa' h3 h4 _=>?_;exact(aJ ⟨a',h3,h4⟩ hp).elim
theorem yS {T:List TR}{e p q:Nat}(h:bU T e)(hp:p∈parts T e)(hq:q∈parts T e)(hc:cov T p q):p=q:=by
 refine fY hc (λh1=>?_) (λh1=>?_) λVp=>?_
 ·exact h1
 ·subst h1
  have:=h.unk hq
  rw[this]at hp;exact LV.mp hp
 ·refine ag Vp λx hx hw=>?_;exact absurd hw (h.abs p hp x hx q hq)
theorem sW {T:List TR}(hT:bu T){e e':Nat}(h:bU T e)(h':bU T e')(g:∀p∈parts T e,AL T p)(g':∀p∈parts T e',AL T p)
  (c:∀p∈parts T e,∃q∈parts T e',cov T p q) (c':∀p∈parts T e',∃q∈parts T e,cov T p q):e=e':=by
 have half:∀{e e'},bU T e->(∀p∈parts T e,AL T p)->(∀p∈parts T e,∃q∈parts T e',cov T p q)->(∀p∈parts T e',∃q∈parts T e,cov T p q)->∀p,p∈parts T e->p∈parts T e':=by
  intro e e' h g c c' p hp;refine ag (c p hp) λq hq c1=>?_;refine ag (c' q hq) λr hr c2=>?_
  have:=yS h hp hr (jZ hT (g p hp) c1 c2)
  subst this;exact(BR hT (g p hp) c1 c2)▸hq
 exact mz hT h h' λp=>⟨half h g c c' p,half h' g' c' c p⟩
theorem jo (T:List TR)(ps:List Nat):(aU T ps).1=T\/(TR.ο (bC T ps)∉T/\aU T ps=(T++[.ο (bC T ps)],T.length)):=by
 unfold aU
 split
 ·exact .inl rfl
 ·rcases hK:bC T ps with _|⟨x,K⟩
  ·exact .inl rfl
  ·induction K using List.cs with
   |nil=>exact .inl rfl
   |cons y K=>
    by_cases hm:TR.ο (x::y::K)∈T
    ·left
     show b7 T _=T;unfold b7;(refine ad (if_pos hm) ?_;rfl)
    ·right
     refine⟨hm,?_⟩;show(b7 T _,dr T _)=_;unfold b7 dr
     (refine ad (if_neg hm) ?_;refine ad (Ws hm) ?_;rfl)
noncomputable def iN (T:List TR)(p:Nat):Option Nat:=match T[p]? with
 |some (.atom a)=>some a
 |_=>none
theorem iO {T:List TR}(hT:bu T){e:Nat}(c:bU T e)(g:∀p∈parts T e,AL T p) :
  bU (aU T (parts T e++[4])).1 (aU T (parts T e++[4])).2/\pre T (aU T (parts T e++[4])).1/\bu (aU T (parts T e++[4])).1/\
  (∀p∈parts (aU T (parts T e++[4])).1 (aU T (parts T e++[4])).2,p∈parts T e++[4])/\
  (∀p∈parts T e++[4],∃q∈parts (aU T (parts T e++[4])).1 (aU T (parts T e++[4])).2,cov (aU T (parts T e++[4])).1 p q):=by
 have t4:T[4]?=some (.atom 0):=aG hT rfl
 have g':∀p∈parts T e++[4],AL T p:=λp hp=>by
  refine Lr (M0.mp hp) (λh=>?_) λh=>?_
  ·exact g p h
  ·(refine ad (LV.mp h) ?_);exact .inl ⟨0,by decide,t4⟩
 generalize NL:parts T e++[4]=ps at *
 let RA:List TR->Nat->Nat->Prop:=λT p s=>p=s/\∃a,ξ T p a
 let k:Kd Nat:=⟨ps.filterMap (iN T),ps⟩
 have hM:iB RA:=λT T' p s hp ⟨h1,a,h2⟩=>⟨h1,a,h2.mono hp⟩;have hL:fD RA:=λT p s h=>h.2
 let k2:Kd Nat:=⟨ps.filterMap (iN T),ps.filter λp=>(iN T p).isNone⟩
 have Qi:∀p a,iN T p=some a↔T[p]?=some (.atom a):=λp a=>by
  unfold iN;rcases hx:T[p]? with _|x
  ·simp
  ·rcases x with _|_<;>simp
 have Na:kC T (RA T) ps k2:=by
  refine⟨λp hp=>?_,λa ha=>?_,λs hs=>?_⟩
  ·refine Lr (g' p hp) (λRX=>?_) λRW=>?_
   ·refine ag RX λa h1 h2=>?_;exact .inl ⟨a,SH.mpr ⟨p,hp,(Qi p a).mpr h2⟩,h1,h2⟩
   ·refine RW.elim λa h1=>?_;refine .inr ⟨p,QR.mpr ⟨hp,?_⟩,rfl,a,h1⟩
    cases hq:iN T p with
    |none=>rfl
    |some b=>
     have:=(Qi p b).mp hq
     rw[h1.1]at this
     rcases(bO a).2 with⟨e,ro,q⟩|⟨es,ro,q⟩<;>rw[q]at this<;>rcases this with _|_
  ·refine ag (SH.mp ha) λp hp h1=>?_
   exact⟨p,hp,a,(Qi p a).mp h1,by simp[bI]⟩
  ·refine(QR.mp hs).elim λh1 h2=>?_;rcases g' s h1 with⟨a,h3,h4⟩|h3
   ·replace h2:=((Qi s a).mpr h4)▸h2;exact ak h2
   ·exact .inr ⟨s,h1,rfl,h3⟩
 have MT:k2.at_≠[]:=by
  have:0∈k2.at_:=SH.mpr ⟨4,by(refine aR NL ?_);simp,(Qi 4 0).mpr t4⟩
  exact YB this
 have PR:∀p∈ps,di T p:=λp hp=>by
  refine Lr (g' p hp) (λo60=>?_) λo61=>?_
  ·refine ag o60 λa h1 h2=>?_;exact⟨_,h2,fE h1,.inl ⟨a,rfl⟩⟩
  ·refine o61.elim λa h1=>?_;exact h1.good
 have OS:LB T ps 40:=λl hn hl=>by
  refine c.few l hn λp hp=>⟨?_,(hl p hp).2⟩;have h1:=(hl p hp).1;rw[<- NL]at h1;refine Lr (M0.mp h1) (λh=>?_) λh=>?_
  ·exact h
  ·obtain⟨a,ha⟩:=(hl p hp).2;rw[LV.mp h]at ha
   exact(aJ ⟨0,by decide,t4⟩ ha).elim
 refine y9 (wR hM hL hT Na MT PR OS) λhR Mn _ NH=>?_;have t4':=Mn.get t4;refine⟨hR.canon,Mn,NH,λp hp=>?_,λp hp=>?_⟩
 ·refine Lr (hR.rep.part p hp) (λUU=>?_) λUT=>?_
  ·refine a6 UU λa h1 h2 h3=>?_;refine ag (SH.mp h1) λq hq h4=>?_
   have:=Mn.get ((Qi q a).mp h4)
   (refine ad (bR NH h3 this) ?_);exact hq
  ·refine a6 UT λs h1 h2 h3=>?_
   (refine ad h2 ?_);exact(QR.mp h1).1
 ·refine Lr (g' p hp) (λVA=>?_) λVz=>?_
  ·obtain⟨a,h1,h2⟩:=VA;obtain⟨q,hq,a',h3,h4⟩:=hR.rep.atom a (SH.mpr ⟨p,hp,(Qi p a).mpr h2⟩);exact⟨q,hq,ve NH h1 (Mn.get h2) h3 h4⟩
  ·obtain⟨a,h1⟩:=Vz
   have hs:p∈k2.subs:=by
    refine QR.mpr ⟨hp,?_⟩
    cases hq:iN T p with
    |none=>rfl
    |some b=>
     have:=(Qi p b).mp hq
     rw[h1.1]at this
     rcases(bO a).2 with⟨e,ro,q⟩|⟨es,ro,q⟩<;>rw[q]at this<;>rcases this with _|_
   refine Lr (hR.rep.sub p hs) (λVy=>?_) λVx=>?_
   ·refine ag Vy λq hq h3=>?_;exact⟨q,hq,.inr (.inl (bR NH h3 (aG NH rfl)))⟩
   ·refine a6 Vx λq hq h3 _=>?_;exact⟨q,hq,.inl h3.symm⟩
theorem vf {T:List TR}(hT:bu T){e:Nat}(c:bU T e)(g:∀p∈parts T e,AL T p)(h4:4∈parts T e):(aU T (parts T e++[4])).1=T/\(aU T (parts T e++[4])).2=e:=by
 refine IG (iO hT c g) λh1 hp h2 h3 h5=>?_;have pe:=hp.parts c.good.1
 have sub:∀p,p∈parts T e++[4]->p∈parts T e:=λp h=>by
  refine Lr (M0.mp h) (λh=>?_) λh=>?_
  ·exact h
  ·(refine ad (LV.mp h) ?_);exact h4
 have he:(aU T (parts T e++[4])).2=e:=by
  refine sW h2 h1 (c.mono hp) (λp hm=>(g p (sub p (h3 p hm))).mono hp) (λp hm=>(g p (by rw[pe]at hm;exact hm)).mono hp) (λp hm=>⟨p,by(refine ad pe ?_);exact sub p (h3 p hm),sU⟩) λp hm=>h5 p (by rw[pe]at hm;exact MZ _ hm)
 refine⟨?_,he⟩;refine Lr (jo T (parts T e++[4])) (λh=>?_) λVr=>?_
 ·exact h
 ·refine Vr.elim λ_ h=>?_;rw[h]at he
  have:=c.good.1
  lia
noncomputable def j0 (T:List TR)(e:Nat):Bool:=match T[e]? with
 |some (.arr _ _)=>true
 |some (.tup _ _)=>true
 |_=>false
noncomputable def uR (T:List TR)(e:Nat):TR:= .ο (bC T (parts T e++[4]))
open Classical in
noncomputable def wU (T:List TR)(e:Nat):Nat:=if bU T e/\(4∈parts T e\/uR T e∈T)then 0 else 2
noncomputable def wt (T:List TR)(e:Nat):Nat:=if j0 T e=true then 0 else wU T e+if TR.arr e true∈T then 0 else 1
theorem FI (T:List TR)(e:Nat):wU T e<=2:=by unfold wU;split<;>exact MF _ _
theorem EF {T:List TR}{e:Nat}(h:bU T e/\(4∈parts T e\/uR T e∈T)):wU T e=0:=if_pos h
theorem JX {T:List TR}{e:Nat}(h:¬(bU T e/\(4∈parts T e\/uR T e∈T))):wU T e=2:=if_neg h
noncomputable def bz (T:List TR):Nat:=T.length+((Mo T.length).map (wt T)).sum
theorem FJ (T:List TR)(e:Nat):wt T e<=3:=by have:=FI T e;unfold wt;split<;>(try split)<;>lia
theorem BS {T T':List TR}(hp:pre T T'){ps:List Nat}(h:∀p∈ps,p<T.length):bC T' ps=bC T ps:=by
 refine Wq λp hm=>?_
 have:p<T.length:=h p (bN.mp (fz.mp hm))
 unfold fV
 (refine ad (hp.get' this) ?_;rfl)
theorem BT {T T':List TR}(hT:bu T)(hp:pre T T'){e:Nat}(c:bU T e):uR T' e=uR T e:=by
 unfold uR
 rewrite [hp.parts c.good.1,BS hp λp hm=>?_]
 ·rfl
 refine Lr (M0.mp hm) (λh=>?_) λh=>?_
 ·exact(c.good.2 p h).lt
 ·(refine ad (LV.mp h) ?_);exact BP (aG hT (i:=4) rfl)
theorem pre.mem {T T':List TR}(hp:pre T T'){x:TR}(h:x∈T):x∈T':=by obtain⟨X,rfl⟩:=hp;exact MZ _ h
theorem w0 {T T':List TR}(hT:bu T)(hp:pre T T'){e:Nat}(he:e<T.length):wU T' e<=wU T e:=by
 refine Lr (PC (bU T e/\(4∈parts T e\/uR T e∈T))) (λh=>?_) λh=>?_
 ·rw[EF h,EF]
  ·exact Lv _
  ·refine⟨h.1.mono hp,?_⟩
   (refine ad (hp.parts he) ?_;refine ad (BT hT hp h.1) ?_)
   exact h.2.imp_right hp.mem
 ·(refine ad (JX h) ?_);exact FI _ _
theorem w4 {T T':List TR}(hT:bu T)(hp:pre T T'){e:Nat}(he:e<T.length):wt T' e<=wt T e:=by
 have hl:j0 T' e=j0 T e:=by unfold j0;(refine ad (hp.get' he) ?_;rfl)
 unfold wt;refine ad hl ?_
 split
 ·exact Lv _
 ·refine Nl ?_ ?_
  ·exact w0 hT hp he
  ·by_cases h:TR.arr e true∈T
   ·(refine ad (if_pos h) ?_;refine ad (if_pos (hp.mem h)) ?_);exact Lv _
   ·(refine ad (if_neg h) ?_);split<;>exact MF _ _
theorem mA {f g:Nat->Nat}:∀{l:List Nat},(∀x∈l,f x<=g x)->(l.map f).sum<=(l.map g).sum
 |[],_=>Lv _
 |a::l,h=>by
  (refine ad M6 ?_;refine ad M6 ?_;refine ad TU ?_;refine ad TU ?_)
  exact Nl (h a LI) (mA λx hx=>h x (L8 _ hx))
theorem ot {f g:Nat->Nat}{a d:Nat}:∀{l:List Nat},(∀x∈l,f x<=g x)->a∈l->f a+d<=g a->(l.map f).sum+d<=(l.map g).sum
 |b::l,h,ha,hd=>by
  (refine ad M6 ?_;refine ad M6 ?_;refine ad TU ?_;refine ad TU ?_)
  have h1:=h b LI;have h2:∀x∈l,f x<=g x:=λx hx=>h x (L8 _ hx);rcases L7.mp ha with rfl|ha
  ·have:=mA h2;exact Ll [_,_,_,_,_] 1 (.a (.a M2 No) NE) (.a Op Os) [(1,.a M2 NE,Op),(1,No,Os)] rfl hd this
  ·have:=ot h2 ha hd;exact Ll [_,_,_,_,_] 1 (.a (.a M2 No) NE) (.a Op Os) [(1,M2,Op),(1,.a No NE,Os)] rfl h1 this
theorem kQ {T:List TR}:T.length<=bz T:=Me _ _
theorem BU {T:List TR}(hT:bu T)(X:List TR):bz (T++X)<=bz T+4*X.length:=by
 have hp:pre T (T++X):=⟨X,rfl⟩;unfold bz
 (refine ad LH ?_;refine ad Yv ?_;refine ad Mj ?_;refine ad Wy ?_;refine ad Ml ?_)
 have h1:=mA (l:=Mo T.length) (f:=wt (T++X)) (g:=wt T) λx hx=>w4 hT hp (Oq.mp hx);have h2:((Mo X.length).map (wt (T++X)∘λx=>T.length+x)).sum<=((Mo X.length).map λ_=>3).sum:=mA (f:=λx=>(wt (T++X)∘λx=>T.length+x) x) λx _=>FJ _ _
 have h3:((Mo X.length).map λ_=>3).sum=3*X.length:=by
  (refine ad TQ ?_;refine ad Y6 ?_;refine ad O' ?_);exact Ms (Ll [_] 1 (.w M2 3) (.m 3 M2) [] rfl) (Ll [_] 1 (.m 3 M2) (.w M2 3) [] rfl)
 exact Ll [_,_,_,_,_,_] 1 (.a (.a M2 No) (.a NE Op)) (.a (.a M2 Os) (.m 4 No)) [(1,NE,Os),(1,Op,Pi),(1,Pi,.m 3 No)] rfl h1 h2 (LU h3)
theorem BV {T T':List TR}(hT:bu T)(hp:pre T T'):bz T'<=bz T+4*(T'.length-T.length):=by
 refine hp.elim λX e1=>?_;refine ad e1 ?_
 have:=BU hT X
 refine ad LH ?_
 (refine ad (show T.length+X.length-T.length=X.length by exact Ms (Ll [_,_,_] 1 M2 No [(1,.a M2 NE,.a NE No)] rfl (mL (Ll [_,_] 1 M2 (.a M2 No) [] rfl))) (Ll [_,_,_] 1 M2 No [(1,.a NE M2,.a No NE)] rfl nu)) ?_);exact this
theorem vg:bz b6<=64:=by
 unfold bz;have h2:((Mo b6.length).map (wt b6)).sum<=((Mo b6.length).map λ_=>3).sum:=mA λx _=>FJ _ _;have h3:((Mo b6.length).map λ_=>3).sum=48:=rfl;have h4:b6.length=16:=rfl
 exact M9 (by assumption) _
theorem sX {T:List TR}(hT:bu T){x:TR}{e d:Nat}(he:e<T.length)(h1:wt (T++[x]) e+d<=wt T e)(h2:wt (T++[x]) T.length+1<=d):bz (T++[x])<=bz T:=by
 have hp:pre T (T++[x]):=⟨[x],rfl⟩;unfold bz
 (refine ad LH ?_;refine ad Yv ?_;refine ad Mj ?_;refine ad Wy ?_;refine ad Ml ?_)
 have h3:=ot (l:=Mo T.length) (f:=wt (T++[x])) (g:=wt T) (λx hx=>w4 hT hp (Oq.mp hx)) (Oq.mpr he) h1;have h4:((Mo [x].length).map (wt (T++[x])∘λx=>T.length+x)).sum=wt (T++[x]) T.length:=rfl;refine ad h4 ?_;simp only[Ub];exact Ll [_,_,_,_,_] 1 (.a (.a M2 On) (.a No NE)) (.a M2 Op) [(1,.a NE On,Os),(1,.a No Os,Op)] rfl h2 h3
theorem dN {T:List TR}{e:Nat}(hT:bu T)(c:bU T e):j0 T e=false:=by
 obtain⟨p,hp,a,h1,h2⟩:=c.atm;refine Lr (dW (T:=T) c.ne2) (λQo=>?_) λh3=>?_
 ·refine ag Qo λps h3 _=>?_;unfold j0;(refine ad h3 ?_;rfl)
 ·rw[h3,LV]at hp;refine aR hp ?_;unfold j0;(refine ad h2 ?_;rfl)
theorem yT {T:List TR}(hT:bu T){e:Nat}(c:bU T e)(g:∀p∈parts T e,AL T p):bz (aU T (parts T e++[4])).1<=bz T:=by
 by_cases h4:4∈parts T e
 ·(refine ad ((vf hT c g h4).1) ?_);exact Lv _
 rcases jo T (parts T e++[4])with h|⟨hn,h⟩
 ·(refine ad h ?_);exact Lv _
 refine IG (iO hT c g) λk1 hp k2 k3 k5=>?_;rw[h]at k1 k2 k3 k5 hp⊢;dsimp only at k1 k2 k3 k5 hp⊢;have hl:=dN hT c;have hu:uR T e=.ο (bC T (parts T e++[4])):=rfl
 have hE:wt (T++[.ο (bC T (parts T e++[4]))]) e+2<=wt T e:=by
  have N9:j0 (T++[.ο (bC T (parts T e++[4]))]) e=false:=by unfold j0 at hl⊢;(refine ad (hp.get' c.good.1) ?_);exact hl
  unfold wt
  (refine ad hl ?_;refine ad N9 ?_)
  have w1:bU (T++[.ο (bC T (parts T e++[4]))]) e/\(4∈parts (T++[.ο (bC T (parts T e++[4]))]) e\/uR (T++[.ο (bC T (parts T e++[4]))]) e∈T++[.ο (bC T (parts T e++[4]))]):=⟨c.mono hp,.inr (by(refine ad (BT hT hp c) ?_;refine ad hu ?_);simp)⟩
  have w2:¬(bU T e/\(4∈parts T e\/uR T e∈T)):=λq=>by
   refine Lr q.2 (λq=>?_) λq=>?_
   ·exact h4 q
   ·exact hn (hu▸q)
  have w3:(if TR.arr e true∈T++[.ο (bC T (parts T e++[4]))]then 0 else 1)<=(if TR.arr e true∈T then 0 else 1):=by
   by_cases ha:TR.arr e true∈T
   ·(refine ad (if_pos ha) ?_;refine ad (if_pos (hp.mem ha)) ?_);exact Lv _
   ·(refine ad (if_neg ha) ?_);split<;>lia
  (refine ad (EF w1) ?_;refine ad (JX w2) ?_)
  lia
 refine sX hT c.good.1 hE ?_
 have h44:4∈parts (T++[TR.ο (bC T (parts T e++[4]))]) T.length:=by
  refine ag (k5 4 (by simp)) λq hq hc=>?_
  have t4:T[4]?=some (.atom 0):=aG hT rfl
  refine a6 (eL k2 (by decide) (hp.get t4) hc) λa' g1 g2 g3=>?_
  have:∀b,b<11->bI b 0=true->b=0\/b=10:=by decide
  refine Lr (this a' (by lia) g3) (λVv=>?_) λQp=>?_
  ·subst Vv;have e1:=bR k2 (hp.get t4) g2;exact e1.symm▸hq
  ·subst Qp;have e1:=bR k2 g2 (aG k2 (i:=1) rfl);rw[e1]at hq
   have:=k3 1 hq
   rcases M0.mp this with hh|hh
   ·-- the whole is then unknown alone
    exfalso
    have hu1:aU T (parts T e++[4])=(T,1):=by unfold aU;(refine ad (if_pos (MZ _ hh)) ?_;rfl)
    have h9:=hu1.symm.trans h
    have:=congrArg Nr (Prod.mk.inj h9).1
    simp at this
   ·contradiction
 unfold wt
 (refine ad (if_neg (by(refine ad (dN k2 k1) ?_);decide)) ?_;refine ad (EF ⟨k1,.inl h44⟩) ?_)
 split<;>exact MF _ _
set_option tactic.hygienic true in
theorem EG {T:List TR}(hT:bu T){e:Nat}(c:bU T e):bz (b7 T (.arr e true))<=bz T:=by
 unfold b7
 split
 ·exact Lv _
 ·rename_i hn;have hp:pre T (T++[.arr e true]):=⟨_,rfl⟩;have hl:=dN hT c
  have N9:j0 (T++[.arr e true]) e=false:=by unfold j0 at hl⊢;(refine ad (hp.get' c.good.1) ?_);exact hl
  refine sX (d:=1) hT c.good.1 ?_ ?_
  ·have hm:=w0 hT hp c.good.1;unfold wt
   (refine ad hl ?_;refine ad N9 ?_;refine ad (if_neg hn) ?_;refine ad (if_pos (show TR.arr e true∈T++[.arr e true] by simp)) ?_)
   exact NI (by assumption)
  ·unfold wt;rw[if_pos]
   ·exact Lv _
   ·unfold j0;simp
end
noncomputable section
noncomputable def jp (a:Sq):Int:=if a.r=[]then -1 else((a.h.length+a.o.length:Nat):Int)
theorem sY {a:Sq}:(a.ι.filter λp=>decide (p.2=0)).length=a.h.length+a.t.length/\(a.ι.filter λp=>decide (p.2=3)).length=0:=by
 have f:∀(l:List Nat) (m k:Nat),((l.map λe=>((e,m):El)).filter λp=>decide (p.2=k)).length=if m=k then l.length else 0:=by
  intro l m k;rw[Yu,LN]
  by_cases h:m=k
  ·(refine ad (if_pos h) ?_);exact congrArg Nr (W4.mpr λ_ _=>decide_eq_true h)
  ·(refine ad (if_neg h) ?_);exact congrArg Nr (YE.mpr λ_ _ q=>h (of_decide_eq_true q))
 unfold Sq.ι;rw[QQ,QQ,QQ,LH,LH,LH,f,f,f,f,QQ,QQ,QQ,LH,LH,LH,f,f,f,f];exact⟨rfl,rfl⟩
theorem BW (a:Sq):a.ι=(a.h.map (λe=>((e,0):El))++a.o.map λe=>(e,1))++(a.r.map (λe=>(e,2))++a.t.map λe=>(e,0)):=by unfold Sq.ι;rw[Mh]
theorem BX (a:Sq):(a.h.map (λe=>((e,0):El))++a.o.map λe=>(e,1)).length=a.h.length+a.o.length:=by rw[LH,LN,LN]
section
variable {n i:Nat}{σ:St}{X Y:V}{a b:Sq}{Q:V->St->Prop}{ρ:Loc}{e1:IE}
theorem w5 {E:List El}{k:Nat}(hX:eH X E)(h:E.length<=1000)(h0:Ev n (.loc 0) ρ σ X)(he:Ev n e1 ρ σ (af k))(hr:∀v,Ev n e1 (ρ.set 1 v) σ (af k)):Ev n (.bi .len [.comp (.loc 1) (.loc 1) (.loc 0) [.cmp .eq (.sub (.loc 1) (.const (.int 1))) e1]]) ρ σ (af (E.filter λp=>decide (p.2=k)).length):=by
 refine aL (dX (e:= .loc 1) (j:=1) (K:=λv s=>v=.lst ((E.filter λp=>decide (p.2=k)).map bB)/\σ=s) (dD h0 (wy (c:= .cmp .eq (.sub (.loc 1) (.const (.int 1))) e1) (f:=bB) (g:=bB) E (λr ys s=>σ=s/\ys++r.filter (λp=>decide (p.2=k))=E.filter λp=>decide (p.2=k)) (u4 hX) (Mp h (LL rfl)) ⟨rfl,rfl⟩ (λp r ys s z1=>z1.elim λhs q=>by
  refine aR hs ?_;rw[OE]at q;refine JI (aA (ai rfl rfl rfl) (hr _)) (λhk=>?_) λhk=>?_
  ·rw[decide_eq_true (L9.mp hk)]at q
   exact dD rfl ⟨p,rfl,rfl,by rw[Mh];exact q⟩
  ·rw[decide_eq_false λe=>hk (congrArg Mi e)]at q
   exact⟨rfl,q⟩) λys s z3=>z3.elim λhs q=>⟨by(refine aR q ?_);exact congrArg (λl=>V.lst (l.map bB)) (Mz ys).symm,hs⟩))) λv s h1 h2 h3=>?_
 rw[h2,<- h3]at h1;exact fU h1
theorem qn (hX:eH X a.ι)(h:a.ι.length<=1000):aI prog (n+1) 56 [X] σ=some (af (a.h.length+a.t.length),σ):=by
 refine aR sY.1 ?_;exact XC.eq (ay rfl rfl (ret (w5 hX h rfl rfl λ_=>rfl) ⟨rfl,rfl⟩))
theorem gR (hX:eH X a.ι)(h:a.ι.length<=1000):aI prog (n+1) 61 [X] σ=some (.bool false,σ):=by
 refine XC.eq (ay rfl rfl (ret (cu (w5 (k:=3) hX h rfl rfl λ_=>rfl) rfl rfl) ⟨?_,rfl⟩))
 (refine ad sY.2 ?_);rfl
theorem kR (hX:eH X a.ι)(h:a.ι.length<=1000)(ho:a.Ok):aI prog (n+1) 57 [X] σ=some (.int (jp a),σ):=by
 refine XC.eq (ay rfl rfl (gI a.ι.length (λi J' σ'=>σ'=σ/\J' 0=some X/\(a.r≠[]->i<=a.h.length+a.o.length)) (ml hX h rfl) dZ ⟨rfl,rfl,λ_=>LP _⟩ ?_ ?_))
 ·rintro i J' σ' hi ⟨Nj,q0,q1⟩;refine ag (jn hi) λp hp _=>?_;have X5:=hp;rw[BW]at X5;have at_:=cM X5;rw[BX]at at_;refine a9 (l4 (ai (fW hX hp (aj q0) rfl) rfl rfl) rfl) (λq=>ret rfl ⟨?_,Nj⟩) λq=>nil ⟨Nj,q0,λhr=>?_⟩
  ·have q:=M1.mp q
   have h1:=(at_.resolve_left λk=>absurd q (by
    have:=Mr.mpr ⟨b4 (l:=a.h) (m:=0) (P:=λp=>¬2<=p.2) λ_=>(by decide:¬2<=0),b4 (l:=a.o) (m:=1) (P:=λp=>¬2<=p.2) λ_=>(by decide:¬2<=1)⟩
    exact this p k.2))
   have hr:a.r≠[]:=λe=>by
    have h2:=h1.2;rw[e,RI ho e]at h2;exact au h2
   unfold jp
   (refine ad (if_neg hr) ?_;refine ad (Ms h1.1 (q1 hr)) ?_);rfl
  ·refine Lr at_ (λk=>?_) λk=>?_
   ·exact k.1
   ·refine absurd ?_ q;rw[Ms (q1 hr) k.1,Nat.sub_self]at k;rcases L6:a.r with _|⟨x,l⟩
    ·exact absurd L6 hr
    ·replace k:=L6▸k;refine aT k.2 ?_;exact WA _
 ·rintro J' σ' ⟨Nj,q0,q1⟩;refine ret rfl ⟨?_,Nj⟩
  have e:a.r=[]:=O9 λhr=>by
   have:=q1 hr
   rw[eh]at this
   have:=P7.mpr hr
   lia
  unfold jp
  (refine ad (if_pos e) ?_;rfl)
where
 RI {a:Sq} (ho:a.Ok) (h:a.r=[]):a.t=[]:=O9 λq=>(ho.tl q).1 h
def nh (a b:Sq):Prop:=b.h.length+b.t.length<=a.h.length+a.t.length/\(b.r≠[]\/(a.r=[]/\a.ι.length<=b.ι.length))
theorem dK:jp a<0↔a.r=[]:=by
 unfold jp
 by_cases h:a.r=[]
 ·(refine ad (if_pos h) ?_);exact⟨λ_=>h,λ_=>by decide⟩
 ·(refine ad (if_neg h) ?_);exact⟨λq=>absurd q (Od.mpr (Nq _)),λq=>absurd q h⟩
theorem JY (hX:eH X a.ι)(hY:eH Y b.ι)(ha:a.ι.length<=1000)(hb:b.ι.length<=1000)(oa:a.Ok)(ob:b.Ok):∃w,(w=true↔nh a b)/\aI prog (n+2) 59 [X,Y] σ=some (.bool w,σ):=by
 obtain⟨v,s,h1,w,h2,h3,rfl⟩:=ay (n:=n+1) (f:=59) (vs:=[X,Y]) (σ:=σ) (Q:=λv s=>∃w,v=.bool w/\(w=true↔nh a b)/\σ=s) rfl rfl (a9 (ip (aH rfl (qn (n:=n) hX ha)) (aH rfl (qn (n:=n) hY hb))) (λq=>ret rfl ⟨false,rfl,⟨Bool.noConfusion,λf=>absurd (M1.mpr f.1) (SS.mpr q)⟩,rfl⟩) λq=>a9 (l4 (aH rfl (kR (n:=n) hY hb ob)) rfl) (λq1=>ret rfl ⟨true,rfl,⟨λ_=>⟨M1.mp (Od.mp q),.inl λe=>absurd q1 (SS.mpr (dK.mpr e))⟩,λ_=>rfl⟩,rfl⟩) λq1=>by
  have hbr:b.r=[]:=dK.mp (SS.mp q1);have c1:Ev (n+1) (.cmp .lt (.call 57 [.loc 0]) (.const (.int 0))) (m7 [X,Y]) σ (.bool (decide (jp a<0))):=cu (aH rfl (kR (n:=n) hX ha oa)) rfl rfl;have c2:Ev (n+1) (.cmp .le (.bi .len [.loc 0]) (.bi .len [.loc 1])) (m7 [X,Y]) σ (.bool (decide ((a.ι.length:Int)<=(b.ι.length:Int)))):=cu (eI hX rfl) (eI hY rfl) rfl;have fin:∀w:Bool,(w=true↔a.r=[]/\a.ι.length<=b.ι.length)->∃w',V.bool w=.bool w'/\(w'=true↔nh a b)/\σ=σ:=λw hw=>⟨w,rfl,hw.trans ⟨λk=>⟨M1.mp (Od.mp q),.inr k⟩,λk=>k.2.resolve_left λn=>n hbr⟩,rfl⟩
  by_cases hn:jp a<0
  ·rw[decide_eq_true hn]at c1
   exact ret (bs c1 c2) (fin _ (by rw[decide_eq_true_iff,M1];exact⟨λk=>⟨dK.mp hn,k⟩,λk=>k.2⟩))
  ·rw[decide_eq_false hn]at c1
   exact ret (bs c1 rfl) (fin false ⟨Bool.noConfusion,λk=>absurd (dK.mpr k.1) hn⟩))
 exact⟨w,h3,h2▸h1⟩
theorem qo {l:List Nat}{f:Bool}{j x:Nat}{fl:Bool}(h:(l.map λy=>(y,f))[j]?=some (x,fl)):l[j]?=some x/\fl=f:=by
 replace h:=M8▸h;refine ag (Ry.mp h) λy hy e=>?_;rcases e with _|_;exact⟨hy,rfl⟩
theorem qp {l:List Nat}{k j x:Nat}(h:l[j]?=some x):(l.map λe=>((e,k):El))[j]?=some (x,k):=by(refine ad M8 ?_;refine ad h ?_);rfl
theorem w6 {β:Type}{A B:List β}{j k:Nat}{x:β}(h:B[k]?=some x)(e:j=A.length+k):(A++B)[j]?=some x:=by
 rw[e,Rn (Me _ _),QI];exact h
theorem BY {β:Type}{A B:List β}{j:Nat}{x:β}(h:A[j]?=some x):(A++B)[j]?=some x:=by
 (refine ad (OY (Mt.mp h).1) ?_);exact h
def BZ (a:Sq)(m i x k:Nat):Prop:=((a.r=[]\/i<a.h.length+a.o.length)/\a.ι[i]?=some (x,k))\/(a.r≠[]/\a.h.length+a.o.length<=i/\((a.h.length+m<=i/\a.ι[a.h.length+a.o.length+1+(i-(a.h.length+m))]?=some (x,k))\/(i<a.h.length+m/\a.ι[a.h.length+a.o.length]?=some (x,k))))
theorem j1 (ho:a.Ok){m x:Nat}{fl:Bool}(hm:jx a.sg m)(h:(dA a.sg m)[i]?=some (x,fl)):∃k,k<=2/\(k=1↔fl=true)/\BZ a m i x k:=by
 have hlen:(sQ a.sg.h++(on (a.sg.o.take m)++sQ (Mu (m-a.sg.o.length) a.sg.r).flatten)).length=a.h.length+m:=by
  have:=b5 hm
  unfold dA at this;rw[LH,hZ]at this;exact Qd this
 unfold BZ;rw[BW];refine Lr (cM h) (λo1=>?_) λo2=>?_
 ·obtain⟨h0,-⟩:=o1;have h:=h;unfold dA at h;rw[OY h0]at h;rw[hlen]at h0;rcases cM h with⟨h1,-⟩|⟨h1,h2⟩
  ·rw[OY h1]at h;obtain⟨hx,rfl⟩:=qo h;have hl:=(Mt.mp hx).1
   exact⟨0,LP _,by decide,.inl ⟨.inr (L1 hl (Me _ _)),BY (BY (qp hx))⟩⟩
  ·have e1:(sQ a.sg.h).length=a.h.length:=hZ;rw[e1]at h1 h2;refine Lr (cM h2) (λU1=>?_) λUY=>?_
   ·obtain⟨h4,-⟩:=U1;rw[OY h4]at h2;obtain⟨hx,rfl⟩:=qo h2;have hl:=(Mt.mp hx).1;rw[List.getElem?_take_of_lt (L1 hl (Yt _ _))]at hx;have hl:=(Mt.mp hx).1;have N9:i-a.h.length<a.o.length:=hl
    exact⟨1,by decide,by decide,.inl ⟨.inr (Ll [_,_,_,_] 1 (.a M2 On) (.a No NE) [(1,.a Op On,NE),(1,M2,.a Op No)] rfl N9 nu),BY (w6 (qp hx) (by rw[LN];exact Ms (Ll [_,_,_] 1 M2 (.a No NE) [(1,M2,.a NE No)] rfl nu) (Ll [_,_,_] 1 (.a M2 No) NE [(1,.a No M2,NE)] rfl (mL h1))))⟩⟩
   ·obtain⟨h4,h5⟩:=UY;obtain⟨hx,rfl⟩:=qo h5;have e2:(on (a.sg.o.take m)).length=min m a.o.length:=u8.trans Qg;rw[e2]at h4 hx;refine ag (Wu.mp (MI hx)) λl m1 m2=>?_;refine(TY.mp m1).elim λm3 Xz=>?_;subst Xz;have m3:m-a.o.length≠0:=m3;have m2:x∈a.r:=m2;refine(P0.mp (Ms ho.rl (YC m2))).elim λy hy=>?_
    have hr:a.r=[x]:=by rw[hy]at m2⊢;(refine ad (LV.mp m2) ?_;rfl)
    refine⟨2,Lv _,by decide,.inr ⟨by(refine ad hr ?_);exact Ue _ _,by lia,.inr ⟨h0,?_⟩⟩⟩
    exact w6 (k:=0) (by(refine ad hr ?_);rfl) (BX a).symm
 ·obtain⟨h0,h3⟩:=o2;rw[hlen]at h0 h3;refine(qo h3).elim λhx Xt=>?_;refine ad Xt ?_
  have ht:a.t≠[]:=λe=>by
   have hx:a.t[i-(a.h.length+m)]?=some x:=hx;replace hx:=e▸hx;exact au hx
  refine(ho.tl ht).elim λhr TG=>?_;refine(P0.mp (Ms ho.rl (P7.mpr hr))).elim λy hy=>?_
  refine⟨0,LP _,by decide,.inr ⟨hr,by(refine ad TG ?_);exact Lk (Me a.h.length m) h0,.inl ⟨h0,?_⟩⟩⟩
  exact w6 (w6 (qp hx) rfl) (by rw[BX,LN,hy];exact Ov _ 1 _)
theorem B0 (hX:eH X a.ι)(h:a.ι.length<=1000)(ho:a.Ok){m x k:Nat}(hi:i<a.h.length+m+a.t.length)(hp:BZ a m i x k):aI prog (n+2) 58 [X,af (a.h.length+m+a.t.length),af i] σ=some (bB (x,k),σ):=by
 refine XC.eq (ay rfl rfl (cV (aH rfl (kR (n:=n) hX h ho)) ?_));refine Lr hp (λo73=>?_) λo74=>?_
 ·obtain⟨c,e⟩:=o73;refine dH (cK (ip rfl rfl) (bL (ip rfl rfl))) ?_ (ret (fW hX e rfl rfl) ⟨rfl,rfl⟩)
  by_cases hr:a.r=[]
  ·exact .inl (dK.mpr hr)
  ·refine .inr ?_;unfold jp;refine ad (if_neg hr) ?_;exact Ot.mpr (c.resolve_left hr)
 ·refine vA o74 λc c1 hp=>?_;have eo:jp a=((a.h.length+a.o.length:Nat):Int):=if_neg c;refine ad eo ?_;have hr1:=Ms ho.rl (P7.mpr c);have el:=eh (a:=a)
  have et:(a.ι.length:Int)-((a.h.length+a.o.length:Nat):Int)-1=(a.t.length:Int):=by lia
  refine bq (cK (ip rfl rfl) (bL (ip rfl rfl))) (λq=>q.elim (λq=>absurd q (Od.mpr (Nq _))) λq=>absurd (Ot.mp q) (Qe.mpr c1)) (nil (cV (v:=af a.t.length) (bX (bX (eI hX rfl) rfl rfl) rfl (congrArg (λj=>some (V.int j)) et)) ?_));refine Lr hp (λZ'=>?_) λZ9=>?_
  ·obtain⟨c2,e⟩:=Z'
   refine dH (l4 rfl (bX rfl rfl rfl)) (by lia) (ret (fW hX e rfl (bX (eI hX rfl) (bX rfl rfl rfl) (congrArg (λj=>some (V.int j)) ?_))) ⟨rfl,rfl⟩)
   lia
  ·obtain⟨c2,e⟩:=Z9
   exact bq (l4 rfl (bX rfl rfl rfl)) (by lia) (nil (ret (fW hX e rfl rfl) ⟨rfl,rfl⟩))
end
end
noncomputable section
theorem gQ.mono {T:List TR}{f g p:Nat}(h:gQ T f p)(hg:f<=g):gQ T g p:=h.imp_right λq=>q.mono hg
theorem gQ.ext {T T':List TR}(hp:pre T T'){f p:Nat}(h:gQ T f p):gQ T' f p:=h.imp (λq=>q.mono hp) λq=>q.ext hp
theorem gQ.good {T:List TR}{f p:Nat}(h:gQ T f p):di T p:=by
 refine Lr h (λQq=>?_) λh=>?_
 ·refine ag Qq λa h1 h2=>?_;exact⟨_,h2,fE h1,.inl ⟨a,rfl⟩⟩
 ·refine h.ξ.elim λa ha=>?_;exact ha.good
theorem gQ.parts {T:List TR}(hT:bu T){f p:Nat}(h:gQ T f p):parts T p=[p]:=eK hT h.good
theorem gQ.AL {T:List TR}{f p:Nat}(h:gQ T f p):AL T p:=h.imp_right λq=>q.ξ
theorem GK.part {T:List TR}{f e p:Nat}(h:GK T f e)(hp:p∈Mine.Internal.parts T e):gQ T f p:=h.2 p hp
theorem aD.canon {T:List TR}(hT:bu T){p:Nat}(h:aD T p):bU T p:=by
 have gq:gQ T 0 p:= .inl h;have NL:=gq.parts hT;obtain⟨a,ha,hx⟩:=h
 refine⟨⟨BP hx,λq hq=>?_⟩,λps h=>?_,λe=>?_,λq hq x N7 w hw=>?_,λh1=>?_,λl hn hl=>?_,⟨p,by(refine ad NL ?_);simp,a,ha,hx⟩⟩
 ·rw[NL,LV]at hq;refine ad hq ?_;exact gq.good
 ·replace h:=hx▸h;rcases h with _|_
 ·subst e
  have:=aG hT (i:=2) (x:= .Δ 2) rfl
  replace this:=hx▸this;contradiction
 ·rw[NL,LV]at hq hw;subst hq;subst hw;replace N7:=hx▸N7;refine aT N7 ?_
  (refine ad (eJ a (NI (by assumption))) ?_)
  split
  ·intro e
   have:w=6:=by lia
   subst this
   have:=aG hT (i:=6) (x:= .atom 8) rfl
   replace this:=hx▸this;injection this
   lia
  ·split
   ·intro e
    have:w=7:=by lia
    subst this
    have:=aG hT (i:=7) (x:= .atom 9) rfl
    replace this:=hx▸this;injection this
    lia
   ·lia
 ·rw[NL,LV]at h1
  (refine ad NL ?_;refine ad h1 ?_;rfl)
 ·match l,hl with
  |[],_=>exact LP _
  |q::l,hl=>
   obtain⟨h1,s,h2⟩:=hl q LI;rw[NL,LV]at h1;subst h1;exact(aJ ⟨a,ha,hx⟩ h2).elim
theorem aD.GK {T:List TR}(hT:bu T){p:Nat}(h:aD T p)(f:Nat):GK T f p:=by
 refine⟨h.canon hT,λq hq=>?_⟩;have gq:gQ T 0 p:= .inl h;rw[gq.parts hT,LV]at hq;refine ad hq ?_;exact .inl h
def GP (T:List TR)(f e:Nat):Prop:=e<T.length/\∀p∈parts T e,gQ T f p
theorem gQ.GP {T:List TR}(hT:bu T){f p:Nat}(h:gQ T f p):GP T f p:=⟨h.lt,λq hq=>by rw[h.parts hT,LV]at hq;refine ad hq ?_;exact h⟩
theorem GK.GP {T:List TR}{f e:Nat}(h:GK T f e):GP T f e:=⟨h.1.good.1,h.2⟩
theorem GP.mono {T:List TR}{f g e:Nat}(h:GP T f e)(hg:f<=g):GP T g e:=⟨h.1,λp hp=>(h.2 p hp).mono hg⟩
theorem B1 {T T':List TR}(hT:bu T)(hp:pre T T'){P Q:List Nat}(gs:∀p∈P,gQ T 5 p)(gt:∀p∈Q,gQ T 5 p):KS T' (LT T') P Q↔KS T (LT T) P Q:=by
 constructor
 ·intro H p' MJ;refine ag (H p' MJ) λq' NK c=>?_;exact⟨q',NK,c.imp (ie hp (gs p' MJ).lt).mp (BO hT hp (gs p' MJ) (gt q' NK)).mp⟩
 ·intro H p' MJ;refine ag (H p' MJ) λq' NK c=>?_;exact⟨q',NK,c.imp (ie hp (gs p' MJ).lt).mpr (BO hT hp (gs p' MJ) (gt q' NK)).mpr⟩
theorem Ib {T T':List TR}(hT:bu T)(hp:pre T T'){f s t:Nat}(gs:GP T f s)(gt:GP T f t)(hf:f<=5):KT T' s t↔KT T s t:=by
 unfold KT
 (refine ad (hp.parts gs.1) ?_;refine ad (hp.parts gt.1) ?_)
 exact B1 hT hp (λp h=>(gs.2 p h).mono hf) λp h=>(gt.2 p h).mono hf
theorem KT.refl {T:List TR}{s:Nat}:KT T s s:=KS.refl
def CC (T:List TR)(j s t:Nat):Prop:=∃f,(3*f<=j/\gQ T f s/\gQ T f t)\/(3*f+1<=j/\gQ T f s/\GK T f t)\/(3*f+2<=j/\GK T f s/\GK T f t)
theorem CC.mono {T:List TR}{j k s t:Nat}(h:CC T j s t)(hk:j<=k):CC T k s t:=by
 obtain⟨f,h|h|h⟩:=h
 ·exact⟨f,.inl ⟨(Ll [_,_,_] 1 (.m 3 M2) No [(1,NE,No),(1,.m 3 M2,NE)] rfl hk h.1),h.2⟩⟩
 ·exact⟨f,.inr (.inl ⟨(Ll [_,_,_] 1 (.a (.m 3 M2) On) No [(1,NE,No),(1,.a (.m 3 M2) On,NE)] rfl hk h.1),h.2⟩)⟩
 ·exact⟨f,.inr (.inr ⟨(Ll [_,_,_] 1 (.a (.m 3 M2) Rs) No [(1,NE,No),(1,.a (.m 3 M2) Rs,NE)] rfl hk h.1),h.2⟩)⟩
theorem CC.ext {T T':List TR}(hp:pre T T'){j s t:Nat}(h:CC T j s t):CC T' j s t:=by
 obtain⟨f,⟨h,h1,h2⟩|⟨h,h1,h2⟩|⟨h,h1,h2⟩⟩:=h
 ·exact⟨f,.inl ⟨h,h1.ext hp,h2.ext hp⟩⟩
 ·exact⟨f,.inr (.inl ⟨h,h1.ext hp,h2.ext hp⟩)⟩
 ·exact⟨f,.inr (.inr ⟨h,h1.ext hp,h2.ext hp⟩)⟩
theorem CC.gp {T:List TR}(hT:bu T){s t:Nat}(h:CC T 8 s t):GP T 2 s/\GP T 2 t:=by
 obtain⟨f,⟨h,h1,h2⟩|⟨h,h1,h2⟩|⟨h,h1,h2⟩⟩:=h
 ·exact⟨(h1.GP hT).mono (Ll [_] 3 M2 Rs [(1,.m 3 M2,SC)] rfl h),(h2.GP hT).mono (Ll [_] 3 M2 Rs [(1,.m 3 M2,SC)] rfl h)⟩
 ·exact⟨(h1.GP hT).mono (Ll [_] 6 M2 Rs [(2,.a (.m 3 M2) On,SC)] rfl h),h2.GP.mono (Ll [_] 6 M2 Rs [(2,.a (.m 3 M2) On,SC)] rfl h)⟩
 ·exact⟨h1.GP.mono (Ll [_] 3 M2 Rs [(1,.a (.m 3 M2) Rs,SC)] rfl h),h2.GP.mono (Ll [_] 3 M2 Rs [(1,.a (.m 3 M2) Rs,SC)] rfl h)⟩
theorem GL.back {T T':List TR}(hT:bu T)(M5:bu T')(hp:pre T T'):∀{f g p:Nat},GL T' f p->GL T g p->GL T f p
 |0,_,_,h,_=>h.elim
 |f+1,0,_,_,h=>h.elim
 |f+1,g+1,p,⟨a,h1,h2⟩,⟨a',h3,h4⟩=>by
  have:=da h1 (h3.mono hp)
  subst this;refine⟨a,h3,λe he=>?_⟩;refine(h4 e he).elim λc d=>?_;refine(h2 e he).elim λc' d'=>?_;refine⟨c,λp' MJ=>?_⟩;refine Lr (d p' MJ) (λh=>?_) λh=>?_
  ·exact .inl h
  ·refine Lr (d' p' (by(refine ad (hp.parts c.good.1) ?_);exact MJ)) (λh'=>?_) λh'=>?_
   ·refine h.ξ.elim λb hb=>?_;exact(aJ h' (hb.mono hp)).elim
   ·exact .inr (GL.back hT M5 hp h' h)
theorem iP {T:List TR}{e:Nat}(hT:bu T)(c:bU T e){a:Sq}(h:ξ T e a):False:=by
 have:=dN hT c
 unfold j0 at this;replace this:=h.1▸this
 rcases(bO a).2 with⟨x,ro,q⟩|⟨es,ro,q⟩<;>replace this:=q▸this<;>exact vz this
theorem gQ.back {T T':List TR}(hT:bu T)(M5:bu T')(hp:pre T T'){f g s:Nat}(h:gQ T' f s)(k:gQ T g s\/GK T g s):gQ T f s:=by
 have lt:s<T.length:=k.elim (λq=>q.lt) λq=>q.1.good.1;refine Lr h (λo3=>?_) λh=>?_
 ·refine ag o3 λa h1 h2=>?_
  exact .inl ⟨a,h1,by(refine aR (hp.get' lt) ?_);exact h2⟩
 ·refine h.ξ.elim λa ha=>?_;rcases k with(k|k)|k
  ·exact(aJ (k.mono hp) ha).elim
  ·exact .inr (GL.back hT M5 hp h k)
  ·exact(iP M5 (k.1.mono hp) ha).elim
theorem GK.back {T T':List TR}(hT:bu T)(M5:bu T')(hp:pre T T'){f g s:Nat}(h:GK T' f s)(k:gQ T g s\/GK T g s):GK T f s:=by
 rcases k with(k|k)|k
 ·exact k.GK hT f
 ·refine k.ξ.elim λa ha=>?_;exact(iP M5 h.1 (ha.mono hp)).elim
 ·refine⟨k.1,λp hm=>?_⟩
  have:=h.2 p (by(refine ad (hp.parts k.1.good.1) ?_);exact hm)
  exact gQ.back hT M5 hp this (.inl (k.2 p hm))
theorem CC.back {T T':List TR}(hT:bu T)(M5:bu T')(hp:pre T T'){i j s t:Nat}(h:CC T' j s t)(k:CC T i s t):CC T j s t:=by
 have ks:∃g,(gQ T g s\/GK T g s)/\(gQ T g t\/GK T g t):=by
  obtain⟨f,⟨-,h1,h2⟩|⟨-,h1,h2⟩|⟨-,h1,h2⟩⟩:=k
  ·exact⟨f,.inl h1,.inl h2⟩
  ·exact⟨f,.inl h1,.inr h2⟩
  ·exact⟨f,.inr h1,.inr h2⟩
 refine ag ks λg k1 k2=>?_;obtain⟨f,⟨h,h1,h2⟩|⟨h,h1,h2⟩|⟨h,h1,h2⟩⟩:=h
 ·exact⟨f,.inl ⟨h,h1.back hT M5 hp k1,h2.back hT M5 hp k2⟩⟩
 ·exact⟨f,.inr (.inl ⟨h,h1.back hT M5 hp k1,h2.back hT M5 hp k2⟩)⟩
 ·exact⟨f,.inr (.inr ⟨h,h1.back hT M5 hp k1,h2.back hT M5 hp k2⟩)⟩
def cr (T:List TR)(m s t:Nat):Prop:=if m=3 then s=t else KT T s t
theorem cr.refl {T:List TR}{m s:Nat}:cr T m s s:=by
 unfold cr;split
 ·rfl
 ·exact KT.refl
theorem cr.three {T:List TR}{s t:Nat}:cr T 3 s t↔s=t:=by unfold cr;(refine ad (if_pos rfl) ?_;rfl)
theorem cr.abp {T:List TR}{m s t:Nat}(h:m≠3):cr T m s t↔KT T s t:=by unfold cr;(refine ad (if_neg h) ?_;rfl)
theorem cr.ext {T T':List TR}(hT:bu T)(hp:pre T T'){m s t:Nat}(h:CC T 8 s t):cr T' m s t↔cr T m s t:=by
 unfold cr
 split
 ·exact NW
 ·refine(h.gp hT).elim λh1 h2=>?_
  exact Ib hT hp h1 h2 (by decide)
theorem gS {T:List TR}{p q:Nat}(h:LT T p q):(∃a,ξ T p a)/\∃b,ξ T q b:=du h
theorem sZ {T:List TR}(hT:bu T){f s t:Nat}(hs:∀p∈parts T s,gQ T f p):KT T s t↔∀p∈parts T s,KT T p t:=by
 constructor
 ·intro H p hp p' MJ;rw[(hs p hp).parts hT,LV]at MJ;subst MJ;exact H p' hp
 ·intro H p hp
  exact H p hp p (by(refine ad ((hs p hp).parts hT) ?_);simp)
theorem EH {T:List TR}(hT:bu T){f s t:Nat}(hs:gQ T f s)(ht:∀q∈parts T t,gQ T f q):KT T s t↔∃q∈parts T t,KT T s q:=by
 unfold KT;refine ad (hs.parts hT) ?_
 constructor
 ·intro H
  refine ag (H s (by simp)) λq hq c=>?_
  refine⟨q,hq,λp hp=>⟨q,by(refine ad ((ht q hq).parts hT) ?_);simp,?_⟩⟩
  (refine ad (LV.mp hp) ?_);exact c
 ·rintro⟨q,hq,H⟩ p hp;refine ag (H p hp) λq' NK c=>?_;rw[(ht q hq).parts hT,LV]at NK;subst NK;exact⟨q',hq,c⟩
theorem qr {T:List TR}(hT:bu T){f s t:Nat}(hs:gQ T f s)(ht:gQ T f t):KT T s t↔cov T s t\/LT T s t:=by
 unfold KT
 (refine ad (hs.parts hT) ?_;refine ad (ht.parts hT) ?_)
 constructor
 ·intro H
  refine ag (H s (by simp)) λq hq c=>?_
  rw[LV.mp hq]at c;exact c
 ·intro c p hp;refine ad (LV.mp hp) ?_
  exact⟨t,by simp,c⟩
theorem JZ {T:List TR}(hT:bu T){s t:Nat}(hs:aD T s)(ht:aD T t):KT T s t↔cov T s t:=by
 rw[qr (f:=0) hT (.inl hs) (.inl ht)];exact⟨λh=>h.resolve_right λq=>(aJ hs (gS q).1.choose_spec),.inl⟩
theorem FL {T:List TR}(hT:bu T){f s t:Nat}(hs:aD T s)(ht:GL T f t):¬KT T s t:=by
 rw[qr (f:=f) hT (.inl hs) (.inr ht)];refine ht.ξ.elim λb hb=>?_;rintro(h|h)
 ·exact aJ (hs.cov hT h) hb
 ·exact aJ hs (gS h).1.choose_spec
theorem J0 {T:List TR}(hT:bu T){f s t:Nat}(hs:GL T f s)(ht:aD T t):KT T s t↔t=1:=by
 rw[qr (f:=f) hT (.inr hs) (.inl ht)];refine hs.ξ.elim λb hb=>?_
 constructor
 ·rintro(h|h)
  ·refine Lr (eM hb h) (λe=>?_) λe=>?_
   ·subst e;exact(aJ ht hb).elim
   ·exact e
  ·exact(aJ ht (gS h).2.choose_spec).elim
 ·rintro rfl;exact .inl (.inr (.inl rfl))
theorem B2 {T:List TR}(hT:bu T){f s t:Nat}(hs:GL T f s)(ht:GL T f t)(hf:f<=4):KT T s t↔LT T s t:=by
 rw[qr (f:=f) hT (.inr hs) (.inr ht)];refine hs.ξ.elim λa ha=>?_;refine ht.ξ.elim λb hb=>?_;refine⟨λh=>h.elim (λh=>?_) id,.inr⟩;refine Lr (eM ha h) (λe=>?_) λe=>?_
 ·refine ad e ?_;exact LT.refl hT hs hf
 ·subst e;exact(aJ (gP hT) hb).elim
structure jy (T:List TR)(f e:Nat)(fl:Bool)(u:Nat):Prop where
 k:GK T f u
 sub:∀p∈parts T u,p∈rd T e fl
 cov:∀p∈rd T e fl,∃q∈parts T u,cov T p q
theorem iQ {T T':List TR}(hp:pre T T'){e:Nat}(he:e<T.length)(fl:Bool):rd T' e fl=rd T e fl:=by unfold rd;(refine ad (hp.parts he) ?_;rfl)
theorem mB {T:List TR}(hT:bu T){f e p:Nat}{fl:Bool}(h:GK T f e)(hp:p∈rd T e fl):gQ T f p:=(qh hT hp).elim (h.2 p) .inl
theorem jy.ext {T T':List TR}(hT:bu T)(hp:pre T T'){f e:Nat}{fl:Bool}{u:Nat}(he:GK T f e)(h:jy T f e fl u):jy T' f e fl u:=by
 have l:=he.1.good.1;refine⟨h.k.ext hp,?_,?_⟩
 ·rw[iQ hp l,hp.parts h.k.1.good.1];exact h.sub
 ·rw[iQ hp l,hp.parts h.k.1.good.1];intro p hm;refine ag (h.cov p hm) λq hq c=>?_;exact⟨q,hq,(ie hp (mB hT he hm).lt).mpr c⟩
theorem jy.self {T:List TR}{f e:Nat}(he:GK T f e):jy T f e false e:=by
 have:rd T e false=parts T e:=by simp[rd]
 exact⟨he,λp hp=>by(refine ad this ?_);exact hp,λp hp=>⟨p,by rw[this]at hp;exact hp,sU⟩⟩
theorem jy.undef {T:List TR}(hT:bu T){f e:Nat}(he:GK T f e):pre T (aU T (parts T e++[4])).1/\bu (aU T (parts T e++[4])).1/\bz (aU T (parts T e++[4])).1<=bz T/\jy (aU T (parts T e++[4])).1 f e true (aU T (parts T e++[4])).2:=by
 have g:∀p∈parts T e,AL T p:=λp hp=>(he.part hp).AL;refine IG (iO hT he.1 g) λh1 h2 h3 h4 h5=>?_;have l:=he.1.good.1
 have er:rd (aU T (parts T e++[4])).1 e true=parts T e++[4]:=by rw[iQ h2 l];simp[rd]
 refine⟨h2,h3,yT hT he.1 g,⟨⟨h1,λp hp=>?_⟩,by(refine ad er ?_);exact h4,by(refine ad er ?_);exact h5⟩⟩
 have hm:=h4 p hp;rcases M0.mp hm with hm|hm
 ·exact(he.part hm).ext h2
 ·refine ad (LV.mp hm) ?_
  exact .inl ⟨0,by decide,aG h3 rfl⟩
theorem vh {T:List TR}(hT:bu T){L:Nat->Nat->Prop}(hL:∀p q,L p q->(∃a,ξ T p a)/\∃b,ξ T q b){f g s t u v:Nat}{fs ft:Bool}(gs:GK T f s)(gt:GK T g t)(hu:jy T f s fs u)(hv:jy T g t ft v) :
  KS T L (parts T u) (parts T v)↔KS T L (rd T s fs) (rd T t ft):=by
 constructor
 ·intro H p hp;refine ag (hu.cov p hp) λp' MJ c=>?_;refine ag (H p' MJ) λq hq c2=>?_;refine⟨q,hv.sub q hq,?_⟩;rcases c2 with c2|c2
  ·exact .inl (jZ hT (mB hT gs hp).AL c c2)
  ·right
   have hl:=(hL _ _ c2).1
   have:p=p':=by
    refine Lr ((mB hT gs hp).AL) (λh=>?_) λo2=>?_
    ·exact(aJ (h.cov hT c) hl.choose_spec).elim
    ·refine o2.elim λa h=>?_;refine Lr (eM h c) (λe=>?_) λe=>?_
     ·exact e.symm
     ·subst e;exact(aJ (gP hT) hl.choose_spec).elim
   (refine ad this ?_);exact c2
 ·intro H p hp;refine ag (H p (hu.sub p hp)) λq hq c=>?_;refine ag (hv.cov q hq) λq' NK c2=>?_;refine⟨q',NK,?_⟩;refine Lr c (λc=>?_) λc=>?_
  ·exact .inl (jZ hT (mB hT gs (hu.sub p hp)).AL c c2)
  ·refine((hL _ _ c).2).elim λb hb=>?_;refine Lr (eM hb c2) (λe=>?_) λe=>?_
   ·refine ad e ?_;exact .inr c
   ·refine ad e ?_;exact .inl (.inr (.inl rfl))
theorem B3 {T:List TR}(hT:bu T){f g s t u v:Nat}{fs ft:Bool}(gs:GK T f s)(gt:GK T g t)(hu:jy T f s fs u)(hv:jy T g t ft v):KT T u v↔cg T (LT T) (s,fs) (t,ft):=vh hT (λ_ _=>gS) gs gt hu hv
def ou:Nat->Nat->Prop:=λ_ _=>False
theorem Ic {T:List TR}(hT:bu T){f g s t u v:Nat}{fs ft:Bool}(gs:GK T f s)(gt:GK T g t)(hu:jy T f s fs u)(hv:jy T g t ft v):u=v↔cg T ou (s,fs) (t,ft)/\cg T ou (t,ft) (s,fs):=by
 have h1:=vh hT (L:=ou) (λ_ _ h=>h.elim) gs gt hu hv;have h2:=vh hT (L:=ou) (λ_ _ h=>h.elim) gt gs hv hu;unfold cg;rw[<- h1,<- h2]
 constructor
 ·rintro rfl;exact⟨KS.refl,KS.refl⟩
 ·intro r3;refine r3.elim λa b=>?_;refine sW hT hu.k.1 hv.k.1 (λp hp=>(hu.k.part hp).AL) (λp hp=>(hv.k.part hp).AL) (λp hp=>?_) λp hp=>?_
  ·refine ag (a p hp) λq hq c=>?_;exact⟨q,hq,c.resolve_right id⟩
  ·refine ag (b p hp) λq hq c=>?_;exact⟨q,hq,c.resolve_right id⟩
theorem EI {a:Sq}(ho:a.Ok)(h:a.r≠[]):a.r.length=1:=Ms ho.rl (P7.mpr h)
theorem KN {a:Sq}(ho:a.Ok)(h:a.r=[]):a.t=[]:=O9 λq=>(ho.tl q).1 h
theorem iR {a:Sq}{m:Nat}(ho:a.Ok):jx a.sg m↔(a.r=[]->m<=a.o.length):=by
 unfold jx Sq.sg;dsimp only
 constructor
 ·rintro(h|⟨-,h⟩) hr
  ·replace h:=hr▸h;contradiction
  ·exact h
 ·intro h
  by_cases hr:a.r=[]
  ·exact .inr ⟨hr,h hr⟩
  ·exact .inl (EI ho hr)
theorem ig {a:Sq}(ho:a.Ok)(h:a.r=[]):a.ι.length=a.h.length+a.o.length/\a.t.length=0:=by
 have:=KN ho h
 (refine ad eh ?_;refine ad h ?_;refine ad this ?_);exact⟨rfl,rfl⟩
theorem w7 {R:Nat×Bool->Nat×Bool->Prop}{a b:Sq}(oa:a.Ok)(ob:b.Ok)(h:cN R a.sg b.sg):nh a b:=by
 have len:∀m,(a.r=[]->m<=a.o.length)->∃m',(b.r=[]->m'<=b.o.length)/\a.h.length+m+a.t.length=b.h.length+m'+b.t.length:=λm hm=>by
  have hm:=(iR oa).mpr hm;refine ag (h m hm) λm' h1 f=>?_
  have:=f.len
  rw[b5 hm,b5 h1]at this;exact⟨m',(iR ob).mp h1,this⟩
 refine ag (len 0 λ_=>LP _) λm' _ h2=>?_;refine⟨(Ll [_,_,_,_,_] 1 (.a M2 No) (.a NE Op) [(1,.a (.a M2 Os) No,.a (.a NE Pv) Op)] rfl (iU h2)),?_⟩
 by_cases hb:b.r=[]
 ·refine(ig ob hb).elim λb1 b2=>?_
  by_cases ha:a.r=[]
  ·refine(ig oa ha).elim λa1 a2=>?_;refine ag (len a.o.length λ_=>Lv _) λm2 h3 h4=>?_
   have:=h3 hb
   exact .inr ⟨ha,(Ll [_,_,_,_,_,_,_,_,_] 1 M2 No [(1,.a NE Op,No),(1,Os,Pv),(1,M2,.a Pi SB),(1,.a (.a Pi SB) (.v 7),.a (.a NE TT) Os),(1,TT,Op)] rfl (iU b1) (LU b2) (LU a1) (LU h4) this)⟩
  ·refine ag (len (b.h.length+b.o.length+1) λq=>absurd q ha) λm2 h3 h4=>?_
   have:=h3 hb
   lia
 ·exact .inl hb
theorem ta {a b:Sq}(oa:a.Ok)(ob:b.Ok)(h:nh a b){m:Nat}(hm:jx a.sg m):∃m',jx b.sg m'/\a.h.length+m+a.t.length=b.h.length+m'+b.t.length:=by
 have hm:=(iR oa).mp hm;obtain⟨h1,h2⟩:=h;refine⟨a.h.length+m+a.t.length-b.h.length-b.t.length,(iR ob).mpr λhb=>?_,(Ms (Ll [_,_,_,_,_,_,_] 1 (.a (.a M2 No) NE) (.a (.a Op Os) Pi) [(1,SB,.a Os Pi),(1,.a (.a M2 No) NE,.a SB Op)] rfl nu nu) (Ll [_,_,_,_,_,_,_] 1 (.a (.a M2 No) NE) (.a (.a Op Os) Pi) [(1,.a No NE,SB),(1,.a SB M2,.a (.a Op Os) Pi)] rfl (mL (Ll [_,_,_,_,_,_] 1 M2 No [(1,.a NE M2,.a Op Os),(1,.a (.a Op Pi) Os,.a No NE)] rfl h1 nu)) (mL (Ll [_,_,_,_,_] 1 M2 (.a (.a No NE) Op) [(1,.a M2 Os,.a No Op)] rfl h1))))⟩;refine(h2.resolve_left λq=>q hb).elim λha h3=>?_;refine(ig ob hb).elim λb1 b2=>?_;obtain⟨a1,a2⟩:=ig oa ha
 have:=hm ha
 exact Ll [_,_,_,_,_,_,_,_,_,_] 1 M2 No [(1,NE,Op),(1,Op,.a Os No),(1,.a Pi SB,NE),(1,.v 7,Pv),(1,TT,SB),(1,M2,.v 9),(1,.a (.v 9) Os,.a (.a Pi TT) (.v 7))] rfl h3 (LU b1) (iU a1) (LU a2) this (Qa _ _) (mL (Ll [_,_,_,_,_] 1 M2 (.a (.a No NE) Op) [(1,.a M2 Os,.a No Op)] rfl h1))
noncomputable def fO (a b:Sq):Nat:=if a.r=[]then a.ι.length else a.ι.length+b.ι.length
def w8 (a b:Sq)(x y:Nat×Bool):Prop:=∃m m' i:Nat,jx a.sg m/\a.h.length+m+a.t.length<=fO a b/\jx b.sg m'/\a.h.length+m+a.t.length=b.h.length+m'+b.t.length/\(dA a.sg m)[i]?=some x/\(dA b.sg m')[i]?=some y
theorem w9 {R:Nat×Bool->Nat×Bool->Prop}{a b:Sq}(oa:a.Ok)(ob:b.Ok)(h:nh a b):cN R a.sg b.sg↔∀x y,w8 a b x y->R x y:=by
 have la:=eh (a:=a);have lb:=eh (a:=b)
 constructor
 ·rintro H x y ⟨m,m',i,h1,-,h3,h4,h5,h6⟩;refine ag (H m h1) λm2 g1 f=>?_;have g2:=f.len;rw[b5 h1,b5 g1]at g2;obtain rfl:m'=m2:=Rk (Qd (h4.symm.trans g2));exact f.get h5 h6
 ·intro H
  have one:∀m,jx a.sg m->a.h.length+m+a.t.length<=fO a b->JU R a.sg b.sg m:=λm hm hl=>by
   refine ag (ta oa ob h hm) λm' g1 g2=>?_
   exact⟨m',g1,F2.of (by(refine ad (b5 hm) ?_;refine ad (b5 g1) ?_);exact g2) λi x y hx hy=>H x y ⟨m,m',i,hm,hl,g1,g2,hx,hy⟩⟩
  by_cases ha:a.r=[]
  ·intro m hm;refine one m hm ?_;refine(ig oa ha).elim λa1 a2=>?_
   have:=(iR oa).mp hm ha
   unfold fO;refine ad (if_pos ha) ?_;exact Ll [_,_,_,_,_,_] 1 (.a (.a M2 No) NE) Op [(1,.a (.a (.a M2 Os) Pi) NE,Op),(1,No,Os)] rfl (iU la) this
  ·have hb:b.r≠[]:=h.2.elim id λq=>absurd q.1 ha;have l1:=EI oa ha;have l2:=EI ob hb;have tp:fO a b=a.ι.length+b.ι.length:=if_neg ha
   refine wV (top:=fO a b) ⟨oa.rl,oa.tl⟩ ⟨ob.rl,ob.tl⟩ ?_ ?_ ?_ ?_ λm hm hl=>one m hm hl<;>(refine ad tp ?_)<;>unfold Sq.sg<;>dsimp only<;>lia
end
noncomputable section
structure HS (σ:St)(b:TB)(T:List TR)(l:List (Nat×AO)):Prop where
 tab:aY σ b T
 nd:(l.map (·.1)).Nodup
 sep:∀p∈l,p.1≠b.t/\p.1≠b.r/\p.1≠b.i
 at_:∀p∈l,p.1<σ.n/\σ.g p.1=p.2
section
variable {σ σ':St}{b:TB}{T T':List TR}{l l':List (Nat×AO)}{i r:Nat}{o o':AO}
theorem HS.get (h:HS σ b T l)(hi:l[i]?=some (r,o)):σ.g r=o:=(h.at_ _ (MI hi)).2
theorem FM (h:(l.map (·.1)).Nodup)(hi:l[i]?=some (r,o)){j:Nat}(hj:l[j]?=some (r,o')):i=j:=by
 have h1:(l.map (·.1))[i]?=some r:=by(refine ad M8 ?_;refine ad hi ?_);rfl
 have h2:(l.map (·.1))[j]?=some r:=by(refine ad M8 ?_;refine ad hj ?_);rfl
 refine(Mt.mp h1).elim λl1 e1=>?_;refine(Mt.mp h2).elim λl2 e2=>?_;exact(List.getElem_inj h).mp (e1.trans e2.symm)
set_option tactic.hygienic true in
theorem HS.set (h:HS σ b T l)(hi:l[i]?=some (r,o))(o':AO):HS (σ.set r o') b T (l.set i (r,o')):=by
 have hm:=MI hi;refine vA (h.sep _ hm) λs1 s2 s3=>?_;have hil:=(Mt.mp hi).1
 have key:∀p∈l.set i (r,o'),p=(r,o')\/(p∈l/\p.1≠r):=λp hp=>by
  obtain⟨j,hj,e⟩:=List.getElem_of_mem hp
  have Rb:(l.set i (r,o'))[j]?=some p:=by(refine ad (MU hj) ?_;refine ad e ?_;rfl)
  rw[W5]at Rb
  split at Rb
  ·exact .inl (Option.some.inj Rb).symm
  ·rename_i MT;refine .inr ⟨MI Rb,λe=>MT ?_⟩;obtain⟨p1,p2⟩:=p;dsimp only at e;subst e;exact FM h.nd hi Rb
 refine⟨h.tab.same (X:=λq=>q=r) (aN.set rfl) (Ne.symm s1) (Ne.symm s2) (Ne.symm s3),?_,λp hp=>?_,λp hp=>?_⟩
 ·have:(l.set i (r,o')).map (·.1)=l.map (·.1):=by
   refine ad List.map_set ?_
   apply W6
   intro j;refine ad W5 ?_
   split
   ·rename_i e;subst e;rw[LN,if_pos hil,M8,hi];rfl
   ·rfl
  (refine ad this ?_);exact h.nd
 ·refine Lr (key p hp) (λRV=>?_) λRU=>?_
  ·refine ad RV ?_;exact⟨s1,s2,s3⟩
  ·obtain⟨q,-⟩:=RU;exact h.sep p q
 ·refine Lr (key p hp) (λVd=>?_) λRQ=>?_
  ·refine ad Vd ?_
   exact⟨(h.at_ _ hm).1,by(refine ad d8 ?_;rfl)⟩
  ·obtain⟨q,e⟩:=RQ
   exact⟨(h.at_ p q).1,by(refine ad (uS e) ?_);exact(h.at_ p q).2⟩
theorem HS.new (h:HS σ b T l)(o:AO):HS (σ.new o) b T ((σ.n,o)::l):=by
 refine vA h.tab.lt λl1 l2 l3=>?_;refine⟨h.tab.same (X:=λ_=>False) aN.new id id id,?_,λp hp=>?_,λp hp=>?_⟩
 ·rw[M6,Ny];refine⟨λhm=>?_,h.nd⟩;refine ag (MH.mp hm) λp hp e=>?_
  have:=(h.at_ p hp).1
  dsimp only at e;exact W9 0 (Ll [_,_] 1 On Pv [(1,M2,No),(1,.a No On,M2)] rfl (iU e) this)
 ·refine Lr (L7.mp hp) (λVc=>?_) λhp=>?_
  ·subst Vc
   dsimp only;exact⟨(O0 (by assumption)),(O0 (by assumption)),(O0 (by assumption))⟩
  ·exact h.sep p hp
 ·refine Lr (L7.mp hp) (λo30=>?_) λhp=>?_
  ·refine ad o30 ?_
   exact⟨Oe _,by(refine ad iw ?_;rfl)⟩
  ·have:=h.at_ p hp
   exact⟨PD this.1,by(refine ad (show(σ.new o).g p.1=_ from if_neg (MC this.1)) ?_);exact this.2⟩
theorem HS.sub (h:HS σ b T l)(nd:(l'.map (·.1)).Nodup)(hs:∀p∈l',p∈l):HS σ b T l':=⟨h.tab,nd,λp hp=>h.sep p (hs p hp),λp hp=>h.at_ p (hs p hp)⟩
theorem HS.perm (h:HS σ b T l)(hp:l'.Perm l):HS σ b T l':=h.sub ((hp.map _).nodup_iff.mpr h.nd) λp hm=>hp.mem_iff.mp hm
theorem HS.drop (h:HS σ b T l)(hp:l'.Sublist l):HS σ b T l':=h.sub (h.nd.sublist (hp.map _)) λp hm=>hp.subset hm
theorem HS.table (h:HS σ b T l)(ht:aY σ' b T')(s:aN b.own σ σ'):HS σ' b T' l:=by
 refine⟨ht,h.nd,h.sep,λp hp=>?_⟩;refine vA (h.sep p hp) λs1 s2 s3=>?_;refine(h.at_ p hp).elim λa1 a2=>?_
 exact⟨L1 a1 s.le,by(refine ad (s.keep _ a1 (λq=>q.elim s2 s3)) ?_);exact a2⟩
theorem HS.same (h:HS σ b T l)(s:aN (λ_=>False) σ σ'):HS σ' b T l:=by
 refine⟨h.tab.same s id id id,h.nd,h.sep,λp hp=>?_⟩;refine(h.at_ p hp).elim λa1 a2=>?_
 exact⟨L1 a1 s.le,by(refine ad (s.keep _ a1 id) ?_);exact a2⟩
end
noncomputable def dx (l:List El):List (V×V):=l.map λk=>(bB k,V.int 1)
noncomputable def tI (l:List (El×Bool)):List (V×V):=l.map λe=>(bB e.1,V.bool e.2)
noncomputable def tb (l:List (El×Bool))(k:El):Option Bool:=(l.find? λe=>decide (e.1=k)).map (·.2)
noncomputable def j2 (l:List (El×Bool))(k:El)(v:Bool):List (El×Bool):=if(tb l k).isSome then l.map λe=>if e.1=k then(e.1,v)else e else l++[(k,v)]
theorem fP {k:El}:a8 (bB k)=true:=rfl
theorem gT {l:List El}{k:El}:bl (dx l) (bB k)=true:=by
 show(if false=true then _ else _)=true
 rw[if_neg (Nd),MV];intro p hp;refine ag (MH.mp hp) λq _ QT=>?_;refine aR QT ?_
 rfl
theorem kS {l:List (El×Bool)}{k:El}:bl (tI l) (bB k)=true:=by
 show(if false=true then _ else _)=true
 rw[if_neg (Nd),MV];intro p hp;refine ag (MH.mp hp) λq _ e9=>?_;refine aR e9 ?_
 rfl
theorem mC {α β:Type}{f:α->β}{p:β->Bool}{q:α->Bool}(h:∀x,p (f x)=q x):∀l:List α,(l.map f).find? p=(l.find? q).map f
 |[]=>rfl
 |a::l=>by
  (refine ad M6 ?_;refine ad RB ?_;refine ad RB ?_;refine ad (h a) ?_)
  cases q a
  ·exact mC h l
  ·rfl
theorem vi {k k':El}:decide (bB k=bB k')=decide (k=k'):=by
 by_cases h:k=k'
 ·(refine ad (decide_eq_true h) ?_;refine ad (decide_eq_true (by(refine ad h ?_;rfl))) ?_;rfl)
 ·(refine ad (decide_eq_false h) ?_;refine ad (decide_eq_false λe=>h (pZ e)) ?_;rfl)
theorem jq {l:List El}{k:El}:(cB (dx l) (bB k)).isSome=decide (k∈l):=by
 unfold cB dx;rw[mC (q:=λx=>decide (x=k)) (λx=>vi)]
 by_cases h:k∈l
 ·rw[decide_eq_true h,QS,QS,List.find?_isSome]
  exact⟨k,h,by simp⟩
 ·refine ad (decide_eq_false h) ?_
  have:l.find? (λx=>decide (x=k))=none:=by
   rw[Wv];intro x hx;simp only[decide_eq_true_eq];rintro rfl;exact h hx
  (refine ad this ?_);rfl
theorem xd {l:List El}{k:El}(h:k∉l):dj (dx l) (bB k) (.int 1)=dx (l++[k]):=by
 unfold dj
 (refine ad jq ?_;refine ad (decide_eq_false h) ?_;refine ad (if_neg (Nd)) ?_)
 unfold dx;(refine ad Mj ?_);rfl
theorem xe {l:List El}{k:El}:oG (dx l) (bB k)=dx (l.filter λx=>decide (x≠k)):=by
 unfold oG dx;refine ad Yu ?_
 congr 1
 refine Wq λx _=>?_;show decide (bB x≠bB k)=_
 (refine ad decide_not ?_;refine ad decide_not ?_;refine ad vi ?_;rfl)
theorem vj {l:List (El×Bool)}{k:El}:cB (tI l) (bB k)=(tb l k).map .bool:=by
 unfold cB tI tb;rw[mC (q:=λx=>decide (x.1=k)) (λx=>vi)]
 cases l.find? λx=>decide (x.1=k)<;>rfl
theorem B4 {l:List (El×Bool)}{k:El}{v:Bool}:dj (tI l) (bB k) (.bool v)=tI (j2 l k v):=by
 unfold dj j2
 (refine ad vj ?_;refine ad QS ?_)
 split
 ·unfold tI
  (refine ad Ml ?_;refine ad Ml ?_)
  refine Qh λe _=>?_
  show(if bB e.1=bB k then(bB e.1,V.bool v)else(bB e.1,V.bool e.2))=(bB (if e.1=k then(e.1,v)else e).1,V.bool (if e.1=k then(e.1,v)else e).2)
  by_cases h:e.1=k
  ·(refine ad (if_pos h) ?_;refine ad (if_pos (by(refine ad h ?_;rfl))) ?_;rfl)
  ·(refine ad (if_neg h) ?_;refine ad (if_neg λq=>h (pZ q)) ?_;rfl)
 ·unfold tI;(refine ad Mj ?_);rfl
theorem B5 {l:List (El×Bool)}{k:El}{v:Bool}(h:tb l k=some v):(k,v)∈l:=by
 refine ag (Ry.mp h) λe h1 e5=>?_;refine aR e5 ?_
 have:=YD h1
 replace this:=of_decide_eq_true this;refine aR this ?_;exact Y9 h1
theorem yU {l:List (El×Bool)}{k:El}(h:(tb l k).isSome=false):k∉l.map (·.1):=by
 intro hm;refine ag (MH.mp hm) λe he e3=>?_;subst e3;unfold tb at h;rw[QS,Option.isSome_eq_false_iff,WB,Wv]at h
 exact h e he (by simp)
theorem td {l:List (El×Bool)}{k:El}{v:Bool}{e:El×Bool}(h:e∈j2 l k v):e∈l\/e=(k,v):=by
 unfold j2 at h
 split at h
 ·refine ag (MH.mp h) λx hx e2=>?_;refine aR e2 ?_
  by_cases q:x.1=k
  ·(refine ad (if_pos q) ?_;refine ad q ?_);exact .inr rfl
  ·(refine ad (if_neg q) ?_);exact .inl hx
 ·exact(M0.mp h).imp_right LV.mp
set_option tactic.hygienic true in
theorem xf {l:List (El×Bool)}{k:El}{v:Bool}(h:(l.map (·.1)).Nodup):((j2 l k v).map (·.1)).Nodup:=by
 unfold j2
 split
 ·refine ad Ml ?_
  have:l.map ((λx=>x.1)∘λe=>if e.1=k then(e.1,v)else e)=l.map (·.1):=Qh λe _=>by
   show(if e.1=k then(e.1,v)else e).1=e.1
   split<;>rfl
  (refine ad this ?_);exact h
 ·rename_i hn;rw[SJ]at hn;rw[Mj,Pa]
  refine⟨h,by simp,λa ha c hc e=>?_⟩
  simp only[M6,TV,LV]at hc;subst e;subst hc;exact yU hn ha
structure RO where
 x:Nat
 a:Nat
 k:Nat
 w:Nat
 n:Nat
 h:Nat
 u:Nat
 l:Nat
 m:Nat
 tl:Bool
 rd:V
structure TW where
 R:RO
 tr:Nat
 kn:List (El×Bool)
structure RT where
 tr:Nat
 trail:List El
 kn:List (El×Bool)
 deep:Nat
 ns:Nat
 tw:Option TW
noncomputable def Kk:Option TW->V
 |none=> .none
 |some t=> .ref t.R.x
noncomputable def eN (R:RO)(S:RT):List (Nat×V):=[(12,.ref R.h),(13,af R.m),(14,.ref R.u),(15,.ref R.a),(16,.ref R.k),(17,.ref S.tr),(18,R.rd),(10,af S.deep),(19,.ref R.n),(20,.bool R.tl),(21,Kk S.tw),(22,.str []),(23,.int 0)]
noncomputable def gU:V:= .tup [.int 3,.int 0]
noncomputable def own (R:RO)(S:RT):List (Nat×AO):=[(R.x,.inst 2 (eN R S)),(R.a,.dict (dx S.trail)),(R.k,.dict (tI S.kn)),(S.tr,.list (S.trail.map bB)),(R.w,.list (Mu S.ns gU)),(R.n,.inst 3 [(0,.ref R.w)])]
noncomputable def CK (R:RO)(b:TB):List (Nat×AO):=[(R.h,.inst 1 [(9,.ref b.t),(10,.int 0),(11,.int 200)]),(R.u,.dict [(.int 4,.ref R.l)]),(R.l,.inst 4 [])]
noncomputable def B6 (t:TW):RT:=⟨t.tr,[],t.kn,0,0,none⟩
noncomputable def KO:Option TW->List (Nat×AO)
 |none=>[]
 |some t=>own t.R (B6 t)
noncomputable def aQ (R:RO)(b:TB)(S:RT)(Z:List (Nat×AO)):List (Nat×AO):=CK R b++(own R S++(KO S.tw++Z))
section
variable {σ:St}{b:TB}{T:List TR}{R:RO}{S:RT}{Z:List (Nat×AO)}{n:Nat}
theorem HS.gx (h:HS σ b T (aQ R b S Z)):σ.g R.x=.inst 2 (eN R S):=h.get (i:=3) rfl
theorem HS.ga (h:HS σ b T (aQ R b S Z)):σ.g R.a=.dict (dx S.trail):=h.get (i:=4) rfl
theorem HS.gk (h:HS σ b T (aQ R b S Z)):σ.g R.k=.dict (tI S.kn):=h.get (i:=5) rfl
theorem HS.gt (h:HS σ b T (aQ R b S Z)):σ.g S.tr=.list (S.trail.map bB):=h.get (i:=6) rfl
theorem HS.gw (h:HS σ b T (aQ R b S Z)):σ.g R.w=.list (Mu S.ns gU):=h.get (i:=7) rfl
theorem HS.gn (h:HS σ b T (aQ R b S Z)):σ.g R.n=.inst 3 [(0,.ref R.w)]:=h.get (i:=8) rfl
theorem HS.gh (h:HS σ b T (aQ R b S Z)):σ.g R.h=.inst 1 [(9,.ref b.t),(10,.int 0),(11,.int 200)]:=h.get (i:=0) rfl
theorem HS.gu (h:HS σ b T (aQ R b S Z)):σ.g R.u=.dict [(.int 4,.ref R.l)]:=h.get (i:=1) rfl
theorem HS.gl (h:HS σ b T (aQ R b S Z)):σ.g R.l=.inst 4 []:=h.get (i:=2) rfl
theorem te:cC (eN R S) 12=some (.ref R.h):=rfl
theorem gc:cC (eN R S) 13=some (af R.m):=rfl
theorem EJ:cC (eN R S) 14=some (.ref R.u):=rfl
theorem EK:cC (eN R S) 15=some (.ref R.a):=rfl
theorem EL:cC (eN R S) 16=some (.ref R.k):=rfl
theorem yV:cC (eN R S) 17=some (.ref S.tr):=rfl
theorem Ie:cC (eN R S) 10=some (af S.deep):=rfl
theorem yW:cC (eN R S) 19=some (.ref R.n):=rfl
theorem J1:cC (eN R S) 20=some (.bool R.tl):=rfl
theorem KP:cC (eN R S) 21=some (Kk S.tw):=rfl
theorem KQ:cC (eN R S) 23=some (.int 0):=rfl
theorem J2 {r:Nat}:cC [(9,V.ref r),(10,.int 0),(11,.int 200)] 9=some (.ref r):=rfl
theorem IK {r:Nat}:cC [(0,V.ref r)] 0=some (.ref r):=rfl
theorem cP {r f c:Nat}{fs:List (Nat×V)}{v:V}(h:σ.g r=.inst c fs)(hl:fs.length<100):dc (.ref r) f v σ=some (σ.set r (.inst c (eO fs f v))):=AM (f:=IY f v) h (if_pos hl)
theorem EO {r v:V}:aI prog (n+1) 25 [r,v] σ=some (v,σ):=XC.eq (ay rfl rfl (ret rfl ⟨rfl,rfl⟩))
theorem B7 (h:HS σ b T (aQ R b S Z)):aI prog (n+1) 31 [.ref R.x] σ=some (.tup [af S.ns,af S.trail.length],σ):=by
 have e1:=fL h.gw;have e2:=fL h.gt;rw[Py]at e1;rw[LN]at e2;exact XC.eq (ay rfl rfl (ret (eD (ae (cU (ae (am (am rfl h.gx yW) h.gn IK) av) e1) (ae (cU (ae (am rfl h.gx yV) av) e2) av))) ⟨rfl,rfl⟩))
theorem EP (h:HS σ b T (aQ R b S Z)):aI prog (n+1) 41 [.ref R.x] σ=some (.bool (R.tl&&decide ((R.m:Int)=1)),σ):=by
 refine XC.eq (ay rfl rfl (ret (AP (am rfl h.gx J1) (cu (am rfl h.gx gc) rfl rfl)) ⟨rfl,rfl⟩))
theorem B8 {Q:V->St->Prop}(h:HS σ b T (aQ R b S Z))(hs:S.ns<8388600)(H:∀σ',HS σ' b T (aQ R b {S with ns:=S.ns+if R.tl then 1 else 0} Z)->Q .none σ'):XC (n+2) 29 [.ref R.x,.int 3] σ Q:=by
 refine ay rfl rfl (a9 (Ev.tp (am rfl h.gx J1)) (λq=>?_) λq=>nil (H σ ?_))
 ·rw[q,if_pos rfl]at H;have h1:=h.set (i:=7) rfl (.list (Mu S.ns gU++[gU]))
  refine expr (bp (am rfl h.gx yW) (ae rfl (ae (am rfl h.gx KQ) av)) h.gn rfl (ay rfl rfl (expr (l5 (am rfl h.gn IK) rfl h.gw (by(refine ad Py ?_);exact OD hs (LL rfl)) ⟨rfl,nil ⟨rfl,nil (nil (H _ ?_))⟩⟩))))
  rw[<- Ys]at h1;show HS (σ.set R.w (.list (Mu S.ns gU++[gU]))) b T _;refine aR Ys ?_;exact h1
 ·rw[SJ]at q
  (refine ad q ?_);exact h
theorem ow {l:List El}{k:El}(h:k∉l):l.filter (λx=>decide (x≠k))=l:=W4.mpr λx hx=>decide_eq_true λe=>h (e▸hx)
theorem tf {l:List El}{k:El}(h:(l++[k]).Nodup):(l++[k]).filter (λx=>decide (x≠k))=l:=by
 rw[QQ,ow λhm=>(Pa.mp h).2.2 k hm k LI rfl,OE,if_neg (by simp),List.filter_nil,Mz]
theorem th {l:List El}{k:El}(h:(k::l).Nodup):(k::l).filter (λx=>decide (x≠k))=l:=by
 rw[Ny]at h
 (refine ad OE ?_;refine ad (if_neg (by simp)) ?_;refine ad (ow h.1) ?_;rfl)
theorem FN {r:Nat}{l:List (V×V)}{k:V}(hg:σ.g r=.dict l)(h1:a8 k=true)(h2:bl l k=true)(h3:(cB l k).isSome=true):oO (.ref r) k σ=some (σ.set r (.dict (oG l k))):=AM (f:=IZ k) hg (if_pos (dB (dB h1 h2) h3))
theorem FO {Q:V->St->Prop}{tr0 ks:List El}{ns0:Nat}(h:HS σ b T (aQ R b S Z))(ht:S.trail=tr0++ks)(hn:S.trail.Nodup)(hs:ns0<=S.ns)(H:∀σ',HS σ' b T (aQ R b {S with trail:=tr0,ns:=ns0} Z)->Q .none σ') :
  XC (n+1) 36 [.ref R.x,.tup [af ns0,af tr0.length]] σ Q:=by
 have h1:=h.set (i:=7) rfl (.list (Mu ns0 gU))
 have c1:kE (.ref R.w) (af ns0) σ=some (σ.set R.w (.list (Mu ns0 gU))):=by
  refine AM (f:=I0 (af ns0)) h.gw ((if_pos ⟨Nq _,by rw[Py];exact M1.mpr hs⟩).trans ?_)
  rw[List.take_replicate,Int.toNat_natCast,QK hs]
 refine ay rfl rfl (abA (am (am rfl h.gx yW) h.gn IK) rfl c1 ?_);have h2:HS (σ.set R.w (.list (Mu ns0 gU))) b T (aQ R b {S with ns:=ns0} Z):=h1
 refine aaT (N:=(S.trail.map bB).length) (λj J' σ'=>J'=m7 [.ref R.x,.tup [af ns0,af tr0.length]]/\∃ks,(tr0++ks).Nodup/\ks.length<=j/\HS σ' b T (aQ R b {S with trail:=tr0++ks,ns:=ns0} Z)) (cU (ae (am rfl h2.gx yV) av) (fL h2.gt)) ⟨rfl,ks,ht▸hn,by rw[LN,ht,LH];exact MF _ _,ht▸h2⟩ ?_
 rintro j J' σ' ⟨rfl,ks,hn,hl,h2⟩;refine JI (jU (cU (ae (am rfl h2.gx yV) av) (fL h2.gt)) rfl) (λq=>?_) λq=>?_
 ·rw[LN,LH]at q;rcases List.eq_nil_or_concat ks with e|⟨Mw,k,e⟩
  ·rw[e]at q;exact absurd q (Wz _)
  rw[List.concat_eq_append]at e;subst e;rw[LH]at hl;obtain⟨i,rfl⟩:∃i,j=i+1:=⟨j-1,(Un (Lk (MF 1 _) hl)).symm⟩;rw[<- Mh]at hn
  have Sn:((tr0++(Mw++[k])).map bB).getLast? = some (bB k):=by rw[<- Mh,Mj,Yr,List.getLast?_concat]
  have Yf:((tr0++(Mw++[k])).map bB).dropLast=(tr0++Mw).map bB:=by rw[<- Mh,Mj,Yr,List.dropLast_concat]
  have h3:=h2.set (i:=6) rfl (.list ((tr0++Mw).map bB));have h4:=h3.set (i:=4) rfl (.dict (dx (tr0++Mw)));refine⟨i,rfl,del (am rfl h2.gx EK) (JH (am rfl h2.gx yV) h2.gt Sn ⟨_,FN ((congrArg (λl=>St.g (σ'.set S.tr (.list l)) R.a) Yf).trans (h3.get (i:=4) rfl)) fP gT ?_,nil ⟨rfl,Mw,(Pa.mp hn).1,YW hl,?_⟩⟩)⟩
  ·rw[jq,<- Mh];exact decide_eq_true (MB _ LI)
  ·rw[Yf,xe,<- Mh,tf hn];exact h4
 ·have hk:ks=[]:=by
   rw[LN,LH]at q
   exact Pc (by lia)
  rw[hk,Mz]at h2;exact nil (H _ h2)
end
end
noncomputable section
section
variable {σ:St}{b:TB}{T:List TR}{R:RO}{S:RT}{Z:List (Nat×AO)}{n:Nat}{Q:V->St->Prop}
theorem B9 {A:List (Nat×AO)}(nd:(A.map (·.1)).Nodup):∀{is:List Nat} {A':List (Nat×AO)},is.Nodup->is.map (A[·]?)=A'.map some->(A'.map (·.1)).Nodup/\∀p∈A',∃i∈is,A[i]?=some p
 |[],[],_,_=>⟨Pz,cw⟩
 |i::is,p::A',hd,e=>by
  rw[M6,M6,List.cons.injEq]at e;rw[Ny]at hd;refine(B9 nd hd.2 e.2).elim λh1 h2=>?_;refine⟨?_,Qb.mpr ⟨⟨i,LI,e.1⟩,λq hq=>ag (h2 q hq) λj hj k=>⟨j,L8 _ hj,k⟩⟩⟩;rw[M6,Ny];refine⟨λhm=>?_,h1⟩;refine ag (MH.mp hm) λq4 hq eq=>?_;obtain⟨q1,q2⟩:=q4;refine ag (h2 _ hq) λj hj k=>?_;obtain⟨p1,p2⟩:=p
  cases (show q1=p1 from eq)
  exact hd.1 (FM nd e.1 k▸hj)
theorem HS.pick {A A' L:List (Nat×AO)}(h:HS σ b T (A++L))(is:List Nat)(hd:is.Nodup)(e:is.map (A[·]?)=A'.map some):HS σ b T (A'++L):=by
 have nd:=h.nd;rw[Mj,Pa]at nd;refine(B9 nd.1 hd e).elim λh1 h2=>?_;have sub:∀p∈A',p∈A:=λp hp=>ag (h2 p hp) λ_ _ k=>MI k;refine h.sub ?_ (Mr.mpr ⟨λp hp=>MZ _ (sub p hp),λp hp=>MB _ hp⟩);rw[Mj,Pa]
 exact⟨h1,nd.2.1,λx hx y hy=>by
  refine ag (MH.mp hx) λp hp e7=>?_;refine aR e7 ?_
  exact nd.2.2 _ (MH.mpr ⟨p,sub p hp,rfl⟩) y hy⟩
noncomputable def fX (kn:List (El×Bool))(l:List El):List (El×Bool):=l.foldl (λl k=>j2 l k true) kn
theorem vk {kn:List (El×Bool)}{l:List El}{k:El}:fX kn (l++[k])=j2 (fX kn l) k true:=by unfold fX;(refine ad P8 ?_);rfl
theorem oy {e:El×Bool}:∀{l:List El} {kn:List (El×Bool)},e∈fX kn l->e∈kn\/(e.1∈l/\e.2=true)
 |[],kn,h=> .inl h
 |k::l,kn,h=>by
  refine Lr (oy (l:=l) (kn:=j2 kn k true) h) (λh=>?_) λo1=>?_
  ·rcases td h with h|rfl
   ·exact .inl h
   ·exact .inr ⟨LI,rfl⟩
  ·obtain⟨h1,h2⟩:=o1;exact .inr ⟨L8 _ h1,h2⟩
theorem ti:∀{l:List El} {kn:List (El×Bool)},(kn.map (·.1)).Nodup->((fX kn l).map (·.1)).Nodup
 |[],kn,h=>h
 |k::l,kn,h=>ti (l:=l) (kn:=j2 kn k true) (xf h)
noncomputable def vm (R:RO)(b:TB)(S:RT)(Z:List (Nat×AO))(clean:Bool)(p r:List El):List (Nat×AO):=CK R b++((R.x,.inst 2 (eN R S))::(R.a,.dict (dx r))::(R.k,.dict (tI (if clean then fX S.kn p else S.kn)))::(S.tr,.list (S.trail.map bB))::(R.w,.list (Mu S.ns gU))::(R.n,.inst 3 [(0,.ref R.w)])::(KO S.tw++Z))
theorem aaH {clean:Bool}(h:HS σ b T (aQ R b S Z))(hn:S.trail.Nodup)(hk:∀p r,S.trail=p++r->(fX S.kn p).length<8388600)(H:∀σ' UA,HS σ' b T (aQ R b {S with tr:=UA,trail:=[],kn:=if clean then fX S.kn S.trail else S.kn} Z)->Q .none σ') :
  XC (n+1) 40 [.ref R.x,.bool clean] σ Q:=by
 refine ay rfl rfl (wz (f:=bB) S.trail (λp J' σ'=>J' 0=some (.ref R.x)/\J' 1=some (.bool clean)/\∃r,S.trail=p++r/\HS σ' b T (vm R b S Z clean p r)) (am rfl h.gx yV) (src:=some S.tr) ?_ (λp J' σ' hI=>?_) ⟨rfl,rfl,_,rfl,?_⟩ ?_ ?_)
 ·exact io (f:=Kg S.tr) h.gt rfl
 ·obtain⟨-,-,r,-,h1⟩:=hI;exact io (f:=vC _) (h1.get (i:=6) rfl) (decide_eq_true rfl)
 ·have:(if clean=true then fX S.kn []else S.kn)=S.kn:=by rcases clean with _|_<;>rfl
  unfold vm;(refine ad this ?_);exact h
 ·rintro p k r J' σ' e ⟨r0,r1,r',e',h1⟩;obtain rfl:k::r=r':=Yq (e.symm.trans e');refine⟨_,rfl,?_⟩
  have e2:S.trail=(p++[k])++r:=by rw[e,Mh];rfl
  have gx:=h1.get (i:=3) rfl
  have hd:oG (dx (k::r)) (bB k)=dx r:=by(refine ad xe ?_;refine ad (th (hn.sublist (e▸List.sublist_append_right _ _))) ?_;rfl)
  have h2:=h1.set (i:=4) rfl (.dict (oG (dx (k::r)) (bB k)))
  refine del (am (aj r0) gx EK) (dD rfl ⟨_,FN (h1.get (i:=4) rfl) fP gT (by(refine ad jq ?_);exact decide_eq_true LI),?_⟩)
  rw[hd]at h2⊢;refine a9 (Ev.tp (aj r1)) (λq=>?_) λq=>nil ⟨r0,r1,r,e2,?_⟩
  ·subst q;have h3:=h2.set (i:=5) rfl (.dict (tI (j2 (fX S.kn p) k true)));refine Ξ rfl (am (aj r0) (h2.get (i:=3) rfl) EL) rfl (eG (h2.get (i:=5) rfl) fP kS ?_) (nil (nil ⟨r0,r1,r,e2,?_⟩))
   ·unfold tI;rw[LN];exact OD (hk p _ e) (LL rfl)
   ·unfold vm
    (refine ad (if_pos rfl) ?_;refine ad vk ?_)
    exact B4▸h3
  ·rw[SJ]at q;subst q;exact h2
 ·rintro J' σ' ⟨r0,r1,r,e,h1⟩;obtain rfl:r=[]:=Yq ((Mz _).trans e).symm;have h2:=h1.new (.list []);have h3:=h2.set (i:=4) rfl (.inst 2 (eO (eN R S) 17 (.ref σ'.n)))
  exact eE (dE (iu ⟨_,_,aj r0,cP (h2.get (i:=4) rfl) (LL rfl),nil (H _ σ'.n (HS.pick (A:=[_,_,_,_,_,_,_,_,_,_]) (A':=[_,_,_,_,_,_,_,_,_]) h3 [1,2,3,4,5,6,0,8,9] (by decide) rfl))⟩))
noncomputable def S0 (tr:Nat):RT:=⟨tr,[],[],0,0,none⟩
section
variable {l:List (Nat×AO)}{i x f c:Nat}{fs:List (Nat×V)}{v:V}{e o:IE}{ρ:Loc}{ss:List IS}{K:Fl->Loc->St->Prop}
theorem nj (h:HS σ b T l)(hi:l[i]?=some (x,.inst c fs))(hl:fs.length<=13)(he:Ev n e ρ σ v)(ho:Ev n o ρ σ (.ref x))(k:∀σ',HS σ' b T (l.set i (x,.inst c (eO fs f v)))->XS n ss ρ σ' K):XS n (.setAttr o f e::ss) ρ σ K:=setAttr he ho (cP (h.get hi) (Mp hl (LL rfl))) (k _ (h.set hi _))
theorem Ig (h:HS σ b T l)(hi:l[i]?=some (x,.inst c fs))(hl:fs.length<=13)(ho:∀σ,Ev n o ρ σ (.ref x))(k:∀σ' r,HS σ' b T ((r,.dict [])::l.set i (x,.inst c (eO fs f (.ref r))))->XS n ss ρ σ' K):XS n (.setAttr o f .abm::ss) ρ σ K:=have h1:=h.new (.dict [])
 eE (gE ⟨_,_,ho _,cP (h1.get (i:=i+1) hi) (Mp hl (LL rfl)),k _ σ.n (h1.set (i:=i+1) hi _)⟩)
theorem Ih (h:HS σ b T l)(hi:l[i]?=some (x,.inst c fs))(hl:fs.length<=13)(ho:∀σ,Ev n o ρ σ (.ref x))(k:∀σ' r,HS σ' b T ((r,.list [])::l.set i (x,.inst c (eO fs f (.ref r))))->XS n ss ρ σ' K):XS n (.setAttr o f (.abe [])::ss) ρ σ K:=have h1:=h.new (.list [])
 eE (dE (iu ⟨_,_,ho _,cP (h1.get (i:=i+1) hi) (Mp hl (LL rfl)),k _ σ.n (h1.set (i:=i+1) hi _)⟩))
end
theorem Ca {x h m:Nat}{l:List (Nat×AO)}(I:HS σ b T ((x,.inst 2 [])::l))(H:∀σ' R tr,R.x=x->R.h=h->R.m=m->R.tl=true->HS σ' b T ((R.u,.dict [])::(own R (S0 tr)++l))->Q .none σ'):XC (n+2) 27 [.ref x,.ref h,af m] σ Q:=by
 have lt:∀{fs:List (Nat×V)},RE fs.length 13=true->fs.length<=13:=LL;refine ay rfl rfl (nj (i:=0) I rfl (lt rfl) rfl rfl λLG (h1:HS LG b T ((x,.inst 2 [(12,.ref h)])::l))=>?_);refine nj (i:=0) h1 rfl (lt rfl) rfl rfl λLu (h2:HS Lu b T ((x,.inst 2 [(12,.ref h),(13,af m)])::l))=>?_;refine Ig (i:=0) h2 rfl (lt rfl) (λ_=>rfl) λLY u (h3:HS LY b T ((u,.dict [])::(x,.inst 2 [(12,.ref h),(13,af m),(14,.ref u)])::l))=>?_;refine Ig (i:=1) h3 rfl (lt rfl) (λ_=>rfl) λNJ a (h4:HS NJ b T ((a,.dict [])::(u,.dict [])::(x,.inst 2 [(12,.ref h),(13,af m),(14,.ref u),(15,.ref a)])::l))=>?_;refine Ig (i:=2) h4 rfl (lt rfl) (λ_=>rfl) λNu k (h5:HS Nu b T ((k,.dict [])::(a,.dict [])::(u,.dict [])::(x,.inst 2 [(12,.ref h),(13,af m),(14,.ref u),(15,.ref a),(16,.ref k)])::l))=>?_;refine Ih (i:=3) h5 rfl (lt rfl) (λ_=>rfl) λNz tr (h6:HS Nz b T ((tr,.list [])::(k,.dict [])::(a,.dict [])::(u,.dict [])::(x,.inst 2 [(12,.ref h),(13,af m),(14,.ref u),(15,.ref a),(16,.ref k),(17,.ref tr)])::l))=>?_;refine Ih (i:=4) h6 rfl (lt rfl) (λ_=>rfl) λOw rd (h7:HS Ow b T ((rd,.list [])::(tr,.list [])::(k,.dict [])::(a,.dict [])::(u,.dict [])::(x,.inst 2 [(12,.ref h),(13,af m),(14,.ref u),(15,.ref a),(16,.ref k),(17,.ref tr),(18,.ref rd)])::l))=>?_;refine nj (i:=5) h7 rfl (lt rfl) rfl rfl λO2 (h8:HS O2 b T ((rd,.list [])::(tr,.list [])::(k,.dict [])::(a,.dict [])::(u,.dict [])::(x,.inst 2 [(12,.ref h),(13,af m),(14,.ref u),(15,.ref a),(16,.ref k),(17,.ref tr),(18,.ref rd),(10,.int 0)])::l))=>?_;refine eE (pR av rfl (ay rfl rfl (Ih (i:=0) (h8.new (.inst 3 [])) rfl (lt rfl) (λ_=>rfl) λPf w (h9:HS Pf b T ((w,.list [])::(O2.n,.inst 3 [(0,.ref w)])::(rd,.list [])::(tr,.list [])::(k,.dict [])::(a,.dict [])::(u,.dict [])::(x,.inst 2 [(12,.ref h),(13,af m),(14,.ref u),(15,.ref a),(16,.ref k),(17,.ref tr),(18,.ref rd),(10,.int 0)])::l))=>nil ⟨rfl,?_⟩)))
 generalize O2.n=nn at h9⊢
 refine⟨_,_,rfl,cP (h9.get (i:=7) rfl) (LL rfl),?_⟩;have Wm:HS _ b T ((w,.list [])::(nn,.inst 3 [(0,.ref w)])::(rd,.list [])::(tr,.list [])::(k,.dict [])::(a,.dict [])::(u,.dict [])::(x,.inst 2 [(12,.ref h),(13,af m),(14,.ref u),(15,.ref a),(16,.ref k),(17,.ref tr),(18,.ref rd),(10,.int 0),(19,.ref nn)])::l):=h9.set (i:=7) rfl (.inst 2 [(12,.ref h),(13,af m),(14,.ref u),(15,.ref a),(16,.ref k),(17,.ref tr),(18,.ref rd),(10,.int 0),(19,.ref nn)]);refine nj (i:=7) Wm rfl (lt rfl) rfl rfl λPh (Wl:HS Ph b T ((w,.list [])::(nn,.inst 3 [(0,.ref w)])::(rd,.list [])::(tr,.list [])::(k,.dict [])::(a,.dict [])::(u,.dict [])::(x,.inst 2 [(12,.ref h),(13,af m),(14,.ref u),(15,.ref a),(16,.ref k),(17,.ref tr),(18,.ref rd),(10,.int 0),(19,.ref nn),(20,.bool true)])::l))=>?_;refine nj (i:=7) Wl rfl (lt rfl) rfl rfl λRG (TM:HS RG b T ((w,.list [])::(nn,.inst 3 [(0,.ref w)])::(rd,.list [])::(tr,.list [])::(k,.dict [])::(a,.dict [])::(u,.dict [])::(x,.inst 2 [(12,.ref h),(13,af m),(14,.ref u),(15,.ref a),(16,.ref k),(17,.ref tr),(18,.ref rd),(10,.int 0),(19,.ref nn),(20,.bool true),(21,.none)])::l))=>?_;refine nj (i:=7) TM rfl (lt rfl) rfl rfl λRF (SF:HS RF b T ((w,.list [])::(nn,.inst 3 [(0,.ref w)])::(rd,.list [])::(tr,.list [])::(k,.dict [])::(a,.dict [])::(u,.dict [])::(x,.inst 2 [(12,.ref h),(13,af m),(14,.ref u),(15,.ref a),(16,.ref k),(17,.ref tr),(18,.ref rd),(10,.int 0),(19,.ref nn),(20,.bool true),(21,.none),(22,.str [])])::l))=>?_;refine nj (i:=7) SF rfl (lt rfl) rfl rfl λPg (SE:HS Pg b T ((w,.list [])::(nn,.inst 3 [(0,.ref w)])::(rd,.list [])::(tr,.list [])::(k,.dict [])::(a,.dict [])::(u,.dict [])::(x,.inst 2 [(12,.ref h),(13,af m),(14,.ref u),(15,.ref a),(16,.ref k),(17,.ref tr),(18,.ref rd),(10,.int 0),(19,.ref nn),(20,.bool true),(21,.none),(22,.str []),(23,.int 0)])::l))=>?_
 exact nil (H Pg ⟨x,a,k,w,nn,h,u,0,m,true,.ref rd⟩ tr rfl rfl rfl rfl (HS.pick (A:=[_,_,_,_,_,_,_,_]) (A':=[_,_,_,_,_,_,_]) SE [6,7,5,4,3,0,1] (by decide) rfl))
end
end
noncomputable section
def Sh (T:List TR)(f s:Nat):Prop:=aD T s\/GL T f s\/(∃ps,T[s]?=some (.ο ps)/\parts T s=ps/\GK T f s)
theorem gQ.sh {T:List TR}{f s:Nat}(h:gQ T f s):Sh T f s:=h.imp_right .inl
theorem GK.sh {T:List TR}(hT:bu T){f s:Nat}(h:GK T f s):Sh T f s:=by
 refine Lr (dW (T:=T) h.1.ne2) (λo14=>?_) λh1=>?_
 ·refine ag o14 λps h1 h2=>?_;exact .inr (.inr ⟨ps,h1,h2,h⟩)
 ·exact(h.part (p:=s) (by(refine ad h1 ?_);exact LI)).sh
theorem CC.sh {T:List TR}(hT:bu T){j s t:Nat}(h:CC T j s t):∃f,Sh T f s/\Sh T f t:=by
 obtain⟨f,⟨h,h1,h2⟩|⟨h,h1,h2⟩|⟨h,h1,h2⟩⟩:=h
 ·exact⟨f,h1.sh,h2.sh⟩
 ·exact⟨f,h1.sh,h2.sh hT⟩
 ·exact⟨f,h1.sh hT,h2.sh hT⟩
noncomputable def fQ:List Int:=[1,2,3,4,5]
noncomputable def jr:List Int:=[6,7,10,14,15,16,17,18,19]
noncomputable def nq:List Int:=[10,14,15,16,17,18,19]
noncomputable def iS:List Int:=[11,12]
theorem xg {a:Nat}(ha:a<=10):hd (.atom a)∈fQ/\hd (.atom a)∉jr/\hd (.atom a)∉nq/\hd (.atom a)∉iS:=by
 have:∀a,a<11->hd (.atom a)∈fQ/\hd (.atom a)∉jr/\hd (.atom a)∉nq/\hd (.atom a)∉iS:=by decide
 exact this a (NI ha)
theorem Cb (a:Sq):hd a.row=11\/hd a.row=12:=by
 rcases(bO a).2 with⟨x,ro,q⟩|⟨es,ro,q⟩<;>(refine ad q ?_)
 ·exact .inl rfl
 ·exact .inr rfl
structure js (T:List TR)(s:Nat)(x:TR):Prop where
 at_:T[s]?=some x
 aba:aba x=true
 bad:s≠0/\s≠13/\s≠2/\s≠10/\s≠3/\s≠11
theorem Sh.row {T:List TR}(hT:bu T){f s:Nat}(h:Sh T f s):∃x,js T s x:=by
 have no:∀(i:Nat) (k:Nat) x,T[s]?=some x->b6[i]?=some (.Δ k)->x≠.Δ k->s≠i:=λi k x h1 h2 h3 e=>by
  subst e
  have:=aG hT h2
  rw[h1]at this;exact h3 (Option.some.inj this)
 have go:∀x,T[s]?=some x->aba x=true->(∀k,x≠.Δ k)->∃x,js T s x:=λx h1 h2 h3=>
  ⟨x,h1,h2,no 0 0 x h1 rfl (h3 0),no 13 13 x h1 rfl (h3 13),no 2 2 x h1 rfl (h3 2),no 10 10 x h1 rfl (h3 10),no 3 3 x h1 rfl (h3 3),no 11 11 x h1 rfl (h3 11)⟩
 refine fY h (λo7=>?_) (λh=>?_) λo8=>?_
 ·refine ag o7 λa h1 h2=>?_
  exact go _ h2 (fE h1) λk e=>by contradiction
 ·refine h.ξ.elim λa ha=>?_;refine go _ ha.1 (bO a).1 λk e=>?_
  rcases(bO a).2 with⟨x,ro,q⟩|⟨es,ro,q⟩<;>replace e:=q▸e<;>contradiction
 ·refine ag o8 λps h1 _=>?_
  exact go _ h1 rfl λk e=>by contradiction
theorem yX {T:List TR}(hT:bu T){f t:Nat}(h:Sh T f t)(h1:1∈parts T t):t=1:=by
 refine fY h (λh=>?_) (λh=>?_) λRY=>?_
 ·replace h1:=((show gQ T f t from .inl h).parts hT)▸h1;exact(LV.mp h1).symm
 ·rw[(show gQ T f t from .inr h).parts hT]at h1;exact(LV.mp h1).symm
 ·refine a6 RY λps h2 h3 h4=>?_
  have:=h4.1.unk h1
  have l:=(h4.1.ο ps h2).1;rw[<- h3,this]at l
  exact absurd l (by decide)
theorem Ii {T:List TR}(hT:bu T){f t:Nat}(h:Sh T f t)(h1:t≠1):¬KT T 1 t:=by
 intro H;have u:=gP hT
 refine ag (H 1 (by(refine ad ((show gQ T 0 1 from .inl u).parts hT) ?_);exact LI)) λq hq c=>?_
 rcases c with c|c
 ·refine a6 (eL hT (Lv 10) (aG hT (i:=1) rfl) c) λa' h2 h3 h4=>?_
  have:∀b,b<11->bI b 10=true->b=10:=by decide
  obtain rfl:=this a' (NI h2) h4;obtain rfl:=bR hT h3 (aG hT (i:=1) rfl);exact h1 (yX hT h hq)
 ·exact aJ u (gS c).1.choose_spec
theorem yY {T:List TR}(hT:bu T){s:Nat}:KT T s 1:=λp _=>⟨1,by(refine ad ((show gQ T 0 1 from .inl (gP hT)).parts hT) ?_);exact LI,.inl (.inr (.inl rfl))⟩
theorem Sh.acm {T:List TR}(hT:bu T){f t:Nat}(h:Sh T f t):11∉parts T t:=by
 have key:∀{f p:Nat},gQ T f p->p≠11:=λg e=>by
  subst e;refine(Sh.row hT g.sh).elim λx hx=>?_;exact hx.bad.2.2.2.2.2 rfl
 intro hm;refine fY h (λh=>?_) (λh=>?_) λQq=>?_
 ·have g:gQ T f t:= .inl h;rw[g.parts hT,LV]at hm;exact key g hm.symm
 ·have g:gQ T f t:= .inr h;rw[g.parts hT,LV]at hm;exact key g hm.symm
 ·refine a6 Qq λps h2 h3 h4=>?_;exact key (h4.part hm) rfl
theorem Sh.hd {T:List TR}{f t:Nat}{x:TR}(h:Sh T f t)(hx:T[t]?=some x) :
  (aD T t/\hd x∈fQ/\hd x∉jr/\Mine.Internal.hd x∉nq/\Mine.Internal.hd x∉iS)\/(GL T f t/\(∃a,ξ T t a/\x=a.row)/\Mine.Internal.hd x∉fQ/\Mine.Internal.hd x∉jr/\Mine.Internal.hd x∉nq/\Mine.Internal.hd x∈iS)\/(GK T f t/\(∃ps,x=.ο ps/\parts T t=ps)/\Mine.Internal.hd x=6):=by
 refine fY h (λh=>?_) (λh=>?_) λo4=>?_
 ·refine ag (id h) λa ha N7=>?_;rw[hx]at N7;refine ad (Option.some.inj N7) ?_;exact .inl ⟨h,xg ha⟩
 ·refine h.ξ.elim λa ha=>?_
  have:=ha.1
  replace this:=hx▸this;refine cX this ?_;refine .inr (.inl ⟨h,⟨a,ha,rfl⟩,?_⟩)
  refine Lr (Cb a) (λe=>?_) λe=>?_<;>(refine ad e ?_)<;>decide
 ·refine a6 o4 λps h2 h3 h4=>?_;replace h2:=hx▸h2;refine cX h2 ?_;exact .inr (.inr ⟨h4,⟨ps,rfl,h3⟩,rfl⟩)
section
variable {σ:St}{b:TB}{T:List TR}{R:RO}{S:RT}{Z:List (Nat×AO)}{n s t f:Nat}{x y:TR}{ρ:Loc}{e1:IE}
theorem dL {a b:Nat}(h:a≠b):¬((a:Int)=(b:Int)):=λq=>h (L9.mp q)
theorem jt {l:List Int}{i:Int}(h1:Ev n e1 ρ σ (.int i)):Tp n (.cmp .isin e1 (.glob (.tup (l.map .int)))) ρ σ (i∈l):=gD h1 rfl mf PB
theorem xh (h:HS σ b T (aQ R b S Z))(r0:ρ 0=some (.ref R.x)):Ev n (.attr (.attr (.loc 0) 12) 9) ρ σ (.ref b.t):=am (am (aj r0) h.gx te) h.gh J2
theorem mD (h:HS σ b T (aQ R b S Z))(r0:ρ 0=some (.ref R.x)):Ev n (.attr (.attr (.attr (.loc 0) 12) 9) 0) ρ σ (.ref b.r):=by
 obtain⟨-,-,⟨fs,a1,a2,-⟩,-⟩:=h.tab;exact am (xh h r0) a1 a2
theorem mE (h:HS σ b T (aQ R b S Z))(r0:ρ 0=some (.ref R.x))(h1:Ev n e1 ρ σ (af s))(hx:T[s]?=some x):Ev n (.sub (.attr (.attr (.attr (.loc 0) 12) 9) 0) e1) ρ σ (b3 x):=ai (mD h r0) h1 (cZ h.tab hx)
theorem ii (h:HS σ b T (aQ R b S Z))(hs:js T s x):aI prog (n+3) 37 [.ref R.h,af s] σ=some (af s,σ):=by
 refine(JS (n:=n+1) h.tab hs.at_ (bx hs.aba)).elim λc hc=>?_;refine XC.eq (ay rfl rfl (bY (bp rfl rfl h.gh rfl ⟨_,_,EO (n:=n+1),a9 (Ev.tp (aH (ae (am rfl h.gh J2) (ae rfl av)) hc)) (λ_=>ret (aH (ae (am rfl h.gh J2) (ae rfl av)) (yK (n:=n) h.tab hs.at_ hs.aba)) ⟨rfl,rfl⟩) λ_=>ret rfl ⟨rfl,rfl⟩⟩)))
theorem Cc {l:List Nat}{k:Nat}:dQ .isin σ (af k) (.tup (l.map af))=some (decide (k∈l)):=FE
theorem yZ (h:HS σ b T (aQ R b S Z))(ht:js T t y)(hd1:hd y∉nq)(Wl:11∉parts T t):aI prog (n+2) 45 [.ref R.x,af t] σ=some (.int 0,σ):=by
 refine XC.eq (ay rfl rfl (bq (jt (l:=nq) (ai (mE h rfl rfl ht.at_) rfl (gJ (bx ht.aba)))) hd1 (nil (cV (aH (ae (xh h rfl) (ae rfl av)) (kM (n:=n) h.tab (BP ht.at_))) (a9 (aA (am rfl h.gx gc) rfl) (λ_=>ret rfl ⟨rfl,rfl⟩) λ_=>ret (iK (p:=11∈parts T t/\False) (cY (gD rfl rfl (Cc (k:=11)) decide_eq_true_iff) λq=>absurd q Wl) (λq=>q.2) rfl) ⟨rfl,rfl⟩)))))
theorem Cd (h:HS σ b T (aQ R b S Z))(hm:R.m≠2)(hs:js T s x)(ht:js T t y):aI prog (n+3) 47 [.ref R.x,af s,af t] σ=some (.int (if b8 x=(t:Int)then 1 else 0),σ):=by
 have rx:=bx hs.aba;have ry:=bx ht.aba
 refine XC.eq (ay rfl rfl (a9 (aA rfl rfl) (λq=>ret (iK (aA rfl rfl) (dL ht.bad.2.2.2.2.1) rfl) ⟨?_,rfl⟩) λ_=>cV (mE h rfl rfl hs.at_) (cV (mE h rfl rfl ht.at_) (a9 (cF (aA (aH rfl (qb (n:=n+1) rx)) rfl) (bJ (l4 (aH rfl (qb (n:=n+1) rx)) rfl))) (λq=>ret rfl ⟨by(refine ad (if_pos q.1) ?_;rfl),rfl⟩) λq=>?_))))
 ·obtain rfl:s=4:=L9.mp q;have hx:x=.atom 0:=Option.some.inj (hs.at_.symm.trans (aG h.tab.ok (i:=4) (x:= .atom 0) rfl));rw[hx,if_neg]
  (refine ad (show b8 (.atom 0)=-1 by decide) ?_)
  exact λq=>absurd (Nq t) (by(refine aR q ?_);decide)
 have hw:¬b8 x=(t:Int):=λe=>q ⟨e,e▸Nq t⟩;refine ad (if_neg hw) ?_;refine bq (p:=(R.m:Int)=2/\False) (cY (aA (am rfl h.gx gc) rfl) λq=>absurd q (dL hm)) (λq=>q.2) (nil (bq (aA (ai rfl rfl (gJ rx)) rfl) (uZ rx).1 (nil (dG rfl (ay (n:=n+1) rfl rfl ?_)))));refine dH (cK (aA (am rfl h.gx gc) rfl) (bL (je (p:=False) ?_))) (.inr id) (ret rfl ⟨rfl,rfl⟩);refine Tp.iff (Ev.tp (b:=false) (aH rfl (XC.eq (ay (n:=n) rfl rfl (ret ?_ ⟨rfl,rfl⟩))))) ⟨Bool.noConfusion,False.elim⟩;have e0:Ev n (.cmp .eq (.sub (.loc 0) (.const (.int 0))) (.glob (.int 5))) (m7 [b3 y]) σ (.bool (decide (hd y=5))):=cu (ai rfl rfl (gJ ry)) rfl rfl;rw[decide_eq_false (uZ ry).1]at e0;exact bs e0 rfl
theorem aaK (h:HS σ b T (aQ R b S Z))(hs:js T s x)(ht:js T t y)(Pl:Sh T f t):aI prog (n+3) 44 [.ref R.x,af s,af t] σ=some (.int (if t=1 then 1 else if s=1 then 0 else -1),σ):=by
 refine y9 hs.bad λb0 b13 b2 _=>?_;refine y9 ht.bad λc0 XD c2 _=>?_
 refine XC.eq (ay rfl rfl (bq (cK (aA rfl rfl) (cK (aA rfl rfl) (cK (aA rfl rfl) (bL (aA rfl rfl))))) (λq=>?_) (nil (bq (p:=(s:Int)=0/\False) (cY (aA rfl rfl) λq=>absurd q (dL b0)) (λq=>q.2) (nil (a9 (aA rfl rfl) (λq=>ret rfl ⟨by(refine ad (if_pos (L9.mp q)) ?_;rfl),rfl⟩) λq1=>bq (aA rfl rfl) (dL b0) (nil (a9 (aA rfl rfl) (λq=>dG rfl ⟨_,_,yZ (n:=n) h ht ?_ (Pl.acm h.tab.ok),?_,rfl⟩) λq2=>bq (p:=(t:Int)=2/\False) (cY (aA rfl rfl) λq=>absurd q (dL c2)) (λq=>q.2) (nil (ret rfl ⟨?_,rfl⟩))))))))))
 ·refine mM q (λq=>?_) (λq=>?_) (λq=>?_) λq=>?_
  ·exact dL c0 q
  ·exact dL XD q
  ·exact dL b2 q
  ·exact dL b13 q
 ·refine fY (Pl.hd ht.at_) (λq=>?_) (λq=>?_) λq=>?_
  ·exact q.2.2.2.1
  ·exact q.2.2.2.2.1
  ·(refine ad q.2.2 ?_);decide
 ·(refine ad (if_neg λe=>q1 (congrArg Mi e)) ?_;refine ad (if_pos (L9.mp q)) ?_;rfl)
 ·(refine ad (if_neg λe=>q1 (congrArg Mi e)) ?_;refine ad (if_neg λe=>q2 (congrArg Mi e)) ?_;rfl)
def KU (T:List TR)(f s t:Nat)(x y:TR)(v:Int):Prop:=(v=1/\KT T s t/\aD T t)\/(v=0/\¬KT T s t)\/(v=-1/\t≠1/\s≠1/\(hd x=6\/hd y=6\/(GL T f t/\(aD T s\/GL T f s))))
theorem Sh.abJ {T:List TR}{f t:Nat}{x:TR}(h:Sh T f t)(hx:T[t]?=some x):Mine.Internal.hd x∈jr↔Mine.Internal.hd x=6:=by
 refine fY (h.hd hx) (λq=>?_) (λq=>?_) λq=>?_
 ·exact⟨λk=>absurd k q.2.2.1,λk=>absurd (k▸(by decide:(6:Int)∈jr)) q.2.2.1⟩
 ·exact⟨λk=>absurd k q.2.2.2.1,λk=>absurd (k▸(by decide:(6:Int)∈jr)) q.2.2.2.1⟩
 ·(refine ad q.2.2 ?_);exact⟨λ_=>rfl,λ_=>by decide⟩
theorem Ce (h:HS σ b T (aQ R b S Z))(hm:R.m≠2)(hs:js T s x)(ht:js T t y)(Tt:Sh T f s)(Pl:Sh T f t)(Mm:s≠t) :
  ∃v:Int,aI prog (n+4) 43 [.ref R.x,af s,af t] σ=some (.int v,σ)/\KU T f s t x y v:=by
 have ok:=h.tab.ok;refine XC.ex (ay rfl rfl (cV (aH rfl (aaK (n:=n) h hs ht Pl)) ?_))
 by_cases t1:t=1
 ·refine ad (if_pos t1) ?_
  exact dH (l4 rfl rfl) (by decide) (ret rfl ⟨1,rfl,rfl,.inl ⟨rfl,t1▸yY ok,t1▸gP ok⟩⟩)
 refine ad (if_neg t1) ?_
 by_cases s1:s=1
 ·refine ad (if_pos s1) ?_
  exact dH (l4 rfl rfl) (by decide) (ret rfl ⟨0,rfl,rfl,.inr (.inl ⟨rfl,s1▸Ii ok Pl t1⟩)⟩)
 refine ad (if_neg s1) ?_;have rx:=bx hs.aba;have ry:=bx ht.aba
 refine bq (l4 rfl rfl) (by decide) (nil (cV (mD h rfl) (cV (ai (ai rfl rfl (cZ h.tab hs.at_)) rfl (gJ rx)) (cV (ai (ai rfl rfl (cZ h.tab ht.at_)) rfl (gJ ry)) (a9 (cK (jt (l:=jr) rfl) (bL (jt (l:=jr) rfl))) (λq=>ret rfl ⟨-1,rfl,rfl,.inr (.inr ⟨rfl,t1,s1,?_⟩)⟩) λq=>bq (aA rfl rfl) (dL ht.bad.2.2.2.1) (nil ?_))))))
 ·rw[Tt.abJ hs.at_,Pl.abJ ht.at_]at q;exact q.elim .inl λq=> .inr (.inl q)
 rw[Tt.abJ hs.at_,Pl.abJ ht.at_,not_or]at q;refine a9 (jt (l:=fQ) rfl) (λvt=>?_) λnt=>?_
 ·have at_:aD T t:=by
   rcases Pl.hd ht.at_ with k|k|k
   ·exact k.1
   ·exact absurd vt k.2.2.1
   ·exact absurd k.2.2 q.2
  rcases Tt.hd hs.at_ with qs|qs|qs
  ·refine ret (lY (jt (l:=fQ) rfl) qs.2.1 (aH rfl (Cd (n:=n) h hm hs ht))) ⟨_,rfl,rfl,?_⟩;have hk:=JZ ok qs.1 at_
   by_cases hw:b8 x=(t:Int)
   ·refine ad (if_pos hw) ?_;exact .inl ⟨rfl,hk.mpr (.inr (.inr ⟨x,hs.at_,hw.symm⟩)),at_⟩
   ·refine ad (if_neg hw) ?_;refine .inr (.inl ⟨rfl,λk=>?_⟩);refine fY (hk.mp k) (λe=>?_) (λe=>?_) λo3=>?_
    ·exact Mm e
    ·exact t1 e
    ·refine ag o3 λx' h1 h2=>?_;replace h1:=hs.at_▸h1;obtain rfl:=Option.some.inj h1;exact hw h2.symm
  ·exact ret (iK (jt (l:=fQ) rfl) qs.2.2.1 rfl) ⟨0,rfl,rfl,.inr (.inl ⟨rfl,λk=>t1 ((J0 ok qs.1 at_).mp k)⟩)⟩
  ·exact absurd qs.2.2 q.1
 ·have gt:GL T f t:=by
   rcases Pl.hd ht.at_ with k|k|k
   ·exact absurd k.2.1 nt
   ·exact k.1
   ·exact absurd k.2.2 q.2
  have as:aD T s\/GL T f s:=by
   rcases Tt.hd hs.at_ with k|k|k
   ·exact .inl k.1
   ·exact .inr k.1
   ·exact absurd k.2.2 q.1
  refine a9 (cK (aA rfl rfl) (cK (aA rfl rfl) (bL (aA rfl rfl)))) (λq=>ret rfl ⟨0,rfl,rfl,.inr (.inl ⟨rfl,FL ok ?_ gt⟩)⟩) λ_=>ret rfl ⟨-1,rfl,rfl,.inr (.inr ⟨rfl,t1,s1,.inr (.inr ⟨gt,as⟩)⟩)⟩;refine fY q (λq=>?_) (λq=>?_) λq=>?_
  ·refine ad (L9.mp q) ?_;exact⟨0,LP _,aG ok rfl⟩
  ·refine ad (L9.mp q) ?_;exact⟨1,by decide,aG ok rfl⟩
  ·exact absurd q (dL hs.bad.2.2.2.2.1)
end
end
noncomputable section
structure ir (T:List TR)(m:Nat)(kn:List (El×Bool)):Prop where
 nd:(kn.map (·.1)).Nodup
 ok:∀e∈kn,CC T 8 e.1.1 e.1.2/\(e.2=true↔cr T m e.1.1 e.1.2)
structure qu (T:List TR)(m j:Nat)(l:List El):Prop where
 nd:l.Nodup
 ok:∀k∈l,CC T 8 k.1 k.2/\(cr T m k.1 k.2\/¬CC T j k.1 k.2)
structure ER (R:RO)(t:TW):Prop where
 h:t.R.h=R.h
 u:t.R.u=R.u
 l:t.R.l=R.l
 m:t.R.m=3
 tl:t.R.tl=false
structure ju (T:List TR)(R:RO)(j:Nat)(S:RT):Prop where
 ν:bz T<=2800
 kn:ir T R.m S.kn
 tr:qu T R.m j S.trail
 tw:∀t,S.tw=some t->ER R t/\ir T 3 t.kn
section
variable {T T':List TR}(hT:bu T)(M5:bu T')(hp:pre T T')
include hT hp
theorem ir.ext {m:Nat}{kn:List (El×Bool)}(h:ir T m kn):ir T' m kn:=⟨h.nd,λe he=>⟨(h.ok e he).1.ext hp,(h.ok e he).2.trans (cr.ext hT hp (h.ok e he).1).symm⟩⟩
include M5
theorem qu.ext {m j:Nat}{l:List El}(h:qu T m j l):qu T' m j l:=⟨h.nd,λk hk=>⟨(h.ok k hk).1.ext hp,(h.ok k hk).2.imp (cr.ext hT hp (h.ok k hk).1).mpr λn c=>n (c.back hT M5 hp (h.ok k hk).1)⟩⟩
theorem ju.ext {R:RO}{j:Nat}{S:RT}(h:ju T R j S)(Mc:bz T'<=bz T):ju T' R j S:=⟨Lk Mc h.ν,h.kn.ext hT hp,h.tr.ext hT M5 hp,λt e=>⟨(h.tw t e).1,(h.tw t e).2.ext hT hp⟩⟩
end
theorem qu.mono {T:List TR}{m j k:Nat}{l:List El}(h:qu T m j l)(hk:k<=j):qu T m k l:=⟨h.nd,λx hx=>⟨(h.ok x hx).1,(h.ok x hx).2.imp_right λn c=>n (c.mono hk)⟩⟩
theorem ju.mono {T:List TR}{R:RO}{j k:Nat}{S:RT}(h:ju T R j S)(hk:k<=j):ju T R k S:=⟨h.ν,h.kn,h.tr.mono hk,h.tw⟩
theorem mF {P:Nat}{l:List El}(h:l.Nodup)(hl:∀k∈l,k.1<P/\k.2<P):l.length<=P*P:=by
 have:=fC (B:=(Mo P).flatMap λi=>(Mo P).map λj=>(i,j)) h λk hk=>by
  refine(hl k hk).elim λh1 h2=>?_;exact Ua.mpr ⟨k.1,Oq.mpr h1,MH.mpr ⟨k.2,Oq.mpr h2,rfl⟩⟩
 have e:((Mo P).flatMap λi=>(Mo P).map λj=>(i,j)).length=P*P:=by
  rw[Ww]
  simp[TQ]
 exact Ll [_,_,_] 1 M2 No [(1,M2,NE),(1,NE,No)] rfl this (LU e)
theorem CC.small {T:List TR}(hT:bu T)(hp:bz T<=2800){s t:Nat}(h:CC T 8 s t):s<2800/\t<2800:=by
 refine(h.gp hT).elim λh1 h2=>?_
 have:=kQ (T:=T)
 have:=h1.1
 have:=h2.1
 lia
theorem ir.len {T:List TR}(hT:bu T)(hp:bz T<=2800){m:Nat}{kn:List (El×Bool)}(h:ir T m kn):kn.length<=7840000:=by
 have:=mF (P:=2800) h.nd λk hk=>by
  refine ag (MH.mp hk) λe he e1=>?_;refine aR e1 ?_;exact(h.ok e he).1.small hT hp
 rw[LN]at this;exact this
theorem qu.len {T:List TR}(hT:bu T)(hp:bz T<=2800){m j:Nat}{l:List El}(h:qu T m j l):l.length<=7840000:=mF (P:=2800) h.nd λk hk=>(h.ok k hk).1.small hT hp
theorem ir.put {T:List TR}{m s t:Nat}{v:Bool}{kn:List (El×Bool)}(h:ir T m kn)(c:CC T 8 s t)(hv:v=true↔cr T m s t):ir T m (j2 kn (s,t) v):=⟨xf h.nd,λe he=>by
 refine Lr (td he) (λhe=>?_) λo3=>?_
 ·exact h.ok e he
 ·refine ad o3 ?_
  exact⟨c,hv⟩⟩
theorem ir.fold {T:List TR}{m:Nat}{l:List El}{kn:List (El×Bool)}(h:ir T m kn)(hl:∀k∈l,CC T 8 k.1 k.2/\cr T m k.1 k.2):ir T m (fX kn l):=⟨ti h.nd,λe he=>by
 refine Lr (oy he) (λhe=>?_) λo2=>?_
 ·exact h.ok e he
 ·refine o2.elim λh1 h2=>?_
  exact⟨(hl _ h1).1,by rw[h2];exact⟨λ_=>(hl _ h1).2,λ_=>rfl⟩⟩⟩
structure aO (R:RO)(T:List TR)(S:RT)(T':List TR)(S':RT)(c:Nat):Prop where
 pre:pre T T'
 ν:bz T'<=bz T
 deep:S'.deep=S.deep
 inv:∀j,ju T R j S->ju T' R j S'
 nil:S.trail=[]->S'.trail=[]
 ext:∃ks,S'.trail=S.trail++ks
 ns:S.ns<=S'.ns/\S'.ns<=S.ns+c
 sil:R.tl=false\/R.m=3->S'.ns=S.ns
 tw:R.tl=false\/R.m≠1->S'.tw=S.tw
theorem aO.refl {R:RO}{T:List TR}{S:RT}:aO R T S T S 0:=⟨pre.refl T,Lv _,rfl,λ_ h=>h,λh=>h,⟨[],(Mz _).symm⟩,⟨Lv _,Lv _⟩,λ_=>rfl,λ_=>rfl⟩
theorem aO.trans {R:RO}{T T1 T2:List TR}{S S1 S2:RT}{c d:Nat}(a:aO R T S T1 S1 c)(b:aO R T1 S1 T2 S2 d):aO R T S T2 S2 (c+d):=by
 refine a.ext.elim λk1 e1=>?_;refine b.ext.elim λk2 e2=>?_
 have:=a.ns
 have:=b.ns
 exact⟨a.pre.trans b.pre,Lk b.ν a.ν,b.deep.trans a.deep,λj h=>b.inv j (a.inv j h),λh=>b.nil (a.nil h),⟨k1++k2,by rw[e2,e1,Mh]⟩,⟨by lia,by lia⟩,λh=>(b.sil h).trans (a.sil h),λh=>(b.tw h).trans (a.tw h)⟩
theorem aO.mono {R:RO}{T T1:List TR}{S S1:RT}{c d:Nat}(a:aO R T S T1 S1 c)(h:c<=d):aO R T S T1 S1 d:=⟨a.pre,a.ν,a.deep,a.inv,a.nil,a.ext,⟨a.ns.1,by have:=a.ns;exact Ll [_,_,_,_] 1 M2 (.a No NE) [(1,Op,NE),(1,M2,.a No Op)] rfl h this.2⟩,a.sil,a.tw⟩
theorem aO.table {R:RO}{T T1:List TR}{S:RT}(hT:bu T)(QC:bu T1)(hp:Mine.Internal.pre T T1)(Mc:bz T1<=bz T):aO R T S T1 S 0:=⟨hp,Mc,rfl,λj h=>h.ext hT QC hp Mc,λh=>h,⟨[],(Mz _).symm⟩,⟨Lv _,Lv _⟩,λ_=>rfl,λ_=>rfl⟩
theorem aO.note {R:RO}{T:List TR}{S:RT}(hm:R.m≠3):aO R T S T {S with ns:=S.ns+if R.tl then 1 else 0} 1:=⟨pre.refl T,Lv _,rfl,λ_ h=>⟨h.ν,h.kn,h.tr,h.tw⟩,λh=>h,⟨[],(Mz _).symm⟩,by cases R.tl<;>simp,λh=>by rw[h.resolve_right hm];rfl,λ_=>rfl⟩
theorem aO.cut {R:RO}{T T1:List TR}{S S1:RT}{c:Nat}(hT:bu T)(QC:bu T1)(a:aO R T S T1 S1 c):aO R T S T1 {S1 with trail:=S.trail,ns:=S.ns} 0:=⟨a.pre,a.ν,a.deep,λj h=>⟨(a.inv j h).ν,(a.inv j h).kn,h.tr.ext hT QC a.pre,(a.inv j h).tw⟩,λh=>h,⟨[],(Mz _).symm⟩,⟨Lv _,Lv _⟩,λ_=>rfl,a.tw⟩
noncomputable def nb (j:Nat):Nat:=match j with
 |0=>0|1=>0|2=>0|3=>343|4=>343|5=>21609|_=>7390621
def kt (R:RO)(b:TB)(Z:List (Nat×AO))(T:List TR)(S:RT)(c:Nat)(A:Prop)(G:RT->Bool->Prop)(a:Bool)(σ':St):Prop:=∃T' S',HS σ' b T' (aQ R b S' Z)/\aO R T S T' S' c/\(a=true↔A)/\G S' a
def Lx (T:List TR)(s t:Nat):Prop:=∃a b:Sq,ξ T s a/\ξ T t b/\(b.ro=true\/(a.ι.map (·.2)=b.ι.map (·.2)/\∀x y,w8 a b x y->cg T ou x y/\cg T ou y x))
def Ik (T:List TR)(s t:Nat):Prop:=GL T 1 s/\GL T 1 t
def xi (R:RO)(T:List TR)(S:RT)(s t:Nat)(S':RT)(a:Bool):Prop:=R.tl=true->R.m=1->a=true->Ik T s t->(S'.ns=S.ns↔Lx T s t)
def y0 (R:RO)(T:List TR)(S:RT)(s t:Nat)(S':RT)(a:Bool):Prop:=(a=false->S'.trail=S.trail/\S'.ns=S.ns)/\(S.kn=[]->S.trail=[]->s≠t->xi R T S s t S' a)
def bg (m j c:Nat):Prop:=∀N,c<=N->∀(σ:St) (b:TB) (T:List TR) (R:RO) (S:RT) (Z:List (Nat×AO)) (s t:Nat) (Q:V->St->Prop),R.m=m->HS σ b T (aQ R b S Z)->ju T R j S->CC T j s t->S.deep+j<=50->S.ns+nb j<=8388000->
 (∀a σ',kt R b Z T S (nb j) (cr T m s t) (y0 R T S s t) a σ'->Q (.bool a) σ')->XC N 28 [.ref R.x,af s,af t] σ Q
section
variable {σ:St}{b:TB}{T:List TR}{R:RO}{S:RT}{Z:List (Nat×AO)}{n s t:Nat}{Q:V->St->Prop}
theorem Il {r:Nat}{l:List El}{k:El}(h:σ.g r=.dict (dx l)):dQ .isin σ (bB k) (.ref r)=some (decide (k∈l)):=(p8 h fP gT).trans (congrArg some jq)
theorem J3 {r:Nat}{l:List (El×Bool)}{k:El}(h:σ.g r=.dict (tI l)):dQ .isin σ (bB k) (.ref r)=some (tb l k).isSome:=(p8 h fP kS).trans (by rw[vj,QS])
theorem Im {r:Nat}{l:List (El×Bool)}{k:El}{v:Bool}(h:σ.g r=.dict (tI l))(hk:tb l k=some v):cb σ (.ref r) (bB k)=some (.bool v):=sE h fP kS (by rw[vj,hk];rfl)
theorem Cf {r f c:Nat}{fs:List (Nat×V)}{v:V}(h:σ.g r=.inst c fs)(hf:cC fs f=some v):getAttr (.ref r) f σ=some v:=io (f:=CP f) h hf
theorem gen {ss:List IS}{ρ:Loc}{K:Fl->Loc->St->Prop}{l:List (Nat×AO)}(h:HS σ b T l)(k:∀σ',HS σ' b T l->XS n ss ρ σ' K):XS n ss ρ σ K:=k σ h
theorem Cg {j:Nat}(h:HS σ b T (aQ R b S Z))(I:ju T R (j+1) S)(C:CC T (j+1) s t)(nC:¬CC T j s t)(hj:j+1<=8)(hd:S.deep+(j+1)<=50)
  (inner:∀(S1:RT) (LG:St) (Q:V->St->Prop),HS LG b T (aQ R b S1 Z)->ju T R j S1->S1.deep+j<=50->S1.ns=S.ns->(∀a σ',kt R b Z T S1 (nb (j+1)) (cr T R.m s t) (xi R T S1 s t) a σ'->Q (.bool a) σ')->XC (n+2) (if R.m=3 then 54 else 49) [.ref R.x,af s,af t] LG Q)
  (H:∀a σ',kt R b Z T S (nb (j+1)) (cr T R.m s t) (y0 R T S s t) a σ'->Q (.bool a) σ'):XC (n+3) 39 [.ref R.x,af s,af t] σ Q:=by
 have hT:=h.tab.ok;have C8:=C.mono hj;refine ay rfl rfl (cV (v:=bB (s,t)) rfl (a9 (gD rfl (am rfl h.gx EL) (J3 h.gk) NW) (λq=>?_) λhkn=>a9 (gD rfl (am rfl h.gx EK) (Il h.ga) decide_eq_true_iff) (λha=>?_) λha=>?_))
 ·refine(OZ.mp q).elim λv hv=>?_
  exact ret (ai (am rfl h.gx EL) rfl (Im h.gk hv)) (H v σ ⟨T,S,h,aO.refl.mono (LP _),(I.kn.ok _ (B5 hv)).2,λ_=>⟨rfl,rfl⟩,λe=>by rw[e]at hv;cases hv⟩)
 ·exact ret rfl (H true σ ⟨T,S,h,aO.refl.mono (LP _),⟨λ_=>(I.tr.ok _ ha).2.resolve_right λq=>q C,λ_=>rfl⟩,λe=>Bool.noConfusion e,λ_ e=>by rw[e]at ha;cases ha⟩)
 have XW:=I.tr.len hT I.ν;have big:∀{m:Nat},m<=7840000->m<aq:=λh=>Mp h (LL rfl);have XU:(S.trail++[(s,t)]).Nodup:=Pa.mpr ⟨I.tr.nd,SP _ _,λa Nx c hc e=>ha (LV.mp hc▸e▸Nx)⟩;have I1:ju T R j {S with trail:=S.trail++[(s,t)],deep:=S.deep+1}:=⟨I.ν,I.kn,⟨XU,Mr.mpr ⟨(I.tr.mono (Mf j)).ok,cv ⟨C8,.inr nC⟩⟩⟩,I.tw⟩
 refine bq (l4 (am rfl h.gx Ie) rfl) (by lia) (nil (bY (bp rfl rfl h.gx rfl ⟨_,_,B7 (n:=n+1) h,Ξ rfl (am rfl h.gx EK) rfl (eG h.ga fP gT (by unfold dx;rw[LN];exact big XW)) ?_⟩)))
 rw[xd ha]
 refine gen (h.set (i:=4) rfl (.dict (dx (S.trail++[(s,t)])))) λLG h1=>expr (l5 (am rfl (h1.get (i:=3) rfl) yV) rfl (h1.get (i:=6) rfl) (by rw[LN];exact big XW) ⟨rfl,?_⟩)
 rw[fv];refine gen (h1.set (i:=6) rfl (.list ((S.trail++[(s,t)]).map bB))) λLu h2=>abw rfl (Cf (h2.get (i:=3) rfl) Ie) rfl rfl (cP (h2.get (i:=3) rfl) (LL rfl)) ?_;refine gen (l:=aQ R b {S with trail:=S.trail++[(s,t)],deep:=S.deep+1} Z) (h2.set (i:=3) rfl (.inst 2 (eO (eN R S) 10 (.int (((S.deep:Nat):Int)+1))))) λLY h3=>bY ?_
 have Rc:=λQ=>inner _ LY Q h3 I1 (by show S.deep+1+j<=50;exact Ll [_,_] 1 (.a (.a M2 On) No) Uf [(1,.a M2 (.a No On),Uf)] rfl hd) rfl
 refine sk (λa:Bool=>V.bool a) (λa σ'=>kt R b Z T {S with trail:=S.trail++[(s,t)],deep:=S.deep+1} (nb (j+1)) (cr T R.m s t) (xi R T {S with trail:=S.trail++[(s,t)],deep:=S.deep+1} s t) a σ') (λK' k=>n5 (aA (am rfl h3.gx gc) rfl) (λq=>?_) λq=>?_) ?_
 ·have:=Rc K' k
  rw[if_pos (L9.mp q)]at this;exact az rfl this
 ·have:=Rc K' k
  rw[if_neg λe=>q (congrArg Mi e)]at this;exact az rfl this
 rintro a NJ ⟨T',S',h4,st,Px,gin⟩;have M5:=h4.tab.ok;have sd:S'.deep=S.deep+1:=st.deep;have Nv:S.ns<=S'.ns/\S'.ns<=S.ns+nb (j+1):=st.ns;have Oh:=st.pre;refine st.ext.elim λks hks=>?_;have hks:S'.trail=S.trail++((s,t)::ks):=hks.trans (Mh _ _ _);have I2:=st.inv j I1;have X8:S'.trail.Nodup:=I2.tr.nd
 have Qt:dP .sub (af S'.deep) (.int 1)=some (af S.deep):=congrArg (λi=>some (V.int i)) (by rw[sd];lia)
 refine abw rfl (Cf h4.gx Ie) rfl Qt (cP h4.gx (LL rfl)) ?_;refine gen (l:=aQ R b {S' with deep:=S.deep} Z) (h4.set (i:=3) rfl (.inst 2 (eO (eN R S') 10 (af S.deep)))) λNu h5=>?_;rcases a with _|_
 ·have nA:¬cr T R.m s t:=λq=>Bool.noConfusion (Px.mpr q);have out:∀(σ':St) VG,ir T' R.m VG->HS σ' b T' (aQ R b {S' with deep:=S.deep,trail:=S.trail,ns:=S.ns,kn:=VG} Z)->Q (.bool false) σ':=λσ' VG hk hh=>H false σ' ⟨T',_,hh,⟨Oh,st.ν,rfl,λj' I'=>⟨Lk st.ν I'.ν,hk,I'.tr.ext hT M5 Oh,I2.tw⟩,λq=>q,⟨[],(Mz _).symm⟩,⟨Lv _,Me _ _⟩,λ_=>rfl,st.tw⟩,Px,λ_=>⟨rfl,rfl⟩,λ_ _ _ _ _ e=>Bool.noConfusion e⟩;refine dH (je (Ev.tp rfl)) Bool.noConfusion (expr (az rfl (FO (n:=n+1) (tr0:=S.trail) (ks:=(s,t)::ks) (ns0:=S.ns) h5 hks X8 Nv.1 λNz h6=>⟨rfl,a9 (cK (aA rfl rfl) (bL (lZ (am rfl h6.gx gc) rfl))) (λ_=>Ξ rfl (am rfl h6.gx EL) rfl (eG h6.gk fP kS ?_) (nil (nil (ret rfl (out _ (j2 S'.kn (s,t) false) ?_ ?_))))) λ_=>nil (ret rfl (out Nz S'.kn I2.kn h6))⟩)))
  ·unfold tI;rw[LN];exact big (I2.kn.len M5 I2.ν)
  ·exact I2.kn.put (C8.ext Oh) ⟨Bool.noConfusion,λq=>(nA ((cr.ext hT Oh C8).mp q)).elim⟩
  ·exact B4▸h6.set (i:=5) rfl (.dict (dj (tI S'.kn) (bB (s,t)) (.bool false)))
 ·have A:=Px.mp rfl;have Tn:∀j',ju T R j' S->ju T' R j' S':=λj' I'=>st.inv j' ⟨I'.ν,I'.kn,⟨XU,Mr.mpr ⟨I'.tr.ok,cv ⟨C8,.inl A⟩⟩⟩,I'.tw⟩;refine bq (je (Ev.tp rfl)) (λq=>q rfl) (a9 (aA rfl rfl) (λq=>?_) λq=>nil (ret rfl (H true Nu ⟨T',_,h5,⟨Oh,st.ν,rfl,λj' I'=>⟨(Tn j' I').ν,(Tn j' I').kn,(Tn j' I').tr,(Tn j' I').tw⟩,λe=>?_,⟨_,hks⟩,Nv,st.sil,st.tw⟩,Px,λe=>Bool.noConfusion e,λ_ e=>?_⟩)))
  ·have c0:S.trail=[]:=Pc (L9.mp q)
   have I8:=Tn 8 ⟨I.ν,I.kn,⟨I.tr.nd,λk hk=>by rw[c0]at hk;cases hk⟩,I.tw⟩
   have L3:∀k∈S'.trail,CC T' 8 k.1 k.2/\cr T' R.m k.1 k.2:=λk hk=>⟨(I8.tr.ok k hk).1,(I8.tr.ok k hk).2.resolve_right λq=>q (I8.tr.ok k hk).1⟩;have O7:∀p,(∀k∈p,k∈S'.trail)->ir T' R.m (fX S'.kn p):=λp hp=>I2.kn.fold λk hk=>L3 k (hp k hk);have Yd:=fL h5.gw;rw[Py]at Yd
   refine expr (az (ae rfl (ae (cu (cU (ae (am (am rfl h5.gx yW) h5.gn IK) av) Yd) rfl rfl) av)) (aaH (n:=n+1) h5 X8 (λp r e=>Mp ((O7 p λk hk=>e▸MZ r hk).len M5 I2.ν) (by decide)) λNz UA h6=>⟨rfl,nil (nil (ret rfl (H true Nz ⟨T',_,h6,⟨Oh,st.ν,rfl,λj' I'=>⟨Lk st.ν I.ν,?_,⟨Pz,cw⟩,I2.tw⟩,λ_=>rfl,⟨[],by rw[c0];rfl⟩,Nv,st.sil,st.tw⟩,Px,λe=>Bool.noConfusion e,λ_ _ _=>gin⟩)))⟩))
   split
   ·exact O7 _ λk hk=>hk
   ·exact I2.kn
  ·exact absurd (congrArg (λl=>((Nr l:Nat):Int)) e) q
  ·exact absurd (congrArg (λl=>((Nr l:Nat):Int)) e) q
end
end
noncomputable section
section
variable {σ σ':St}{b:TB}{T T':List TR}{R:RO}{S:RT}{Z:List (Nat×AO)}{n s t:Nat}{Q:V->St->Prop}
theorem FP:∀j:Nat,nb j<=7390621
 |0|1|2|3|4|5=>by decide
 |_+6=>Lv _
theorem xj {i j:Nat}(h:i<=j):nb i<=nb j:=by
 have key:∀i,i<7->∀j,j<7->i<=j->nb i<=nb j:=by decide
 by_cases hj:j<7
 ·exact key i (Mp h hj) j hj h
 ·refine(Nat.exists_eq_add_of_le' (Lk (by decide:6<=7) (Qe.mp hj))).elim λd e3=>?_
  refine ad e3 ?_;exact FP i
theorem CC.bad {T:List TR}(hT:bu T){j:Nat}(C:CC T j s t):s≠13/\t≠13:=by
 refine ag (C.sh hT) λf h1 h2=>?_;refine(h1.row hT).elim λx hx=>?_;refine(h2.row hT).elim λy hy=>?_;exact⟨hx.bad.2.1,hy.bad.2.1⟩
theorem Ch (h:HS σ b T (aQ R b S Z))(H:∀σ' (t:TW),ER R t->t.kn=[]->HS σ' b T (own t.R (B6 t)++aQ R b S Z)->Q (.ref t.R.x) σ'):XC (n+3) 34 [.ref R.x,.int 3] σ Q:=by
 refine ay rfl rfl (bY (pR (ae (am rfl h.gx te) (ae rfl av)) rfl (Ca (n:=n) (x:=σ.n) (h:=R.h) (m:=3) (h.new (.inst 2 [])) λLG R' tr e1 e2 e3 e4 h1=>⟨rfl,?_⟩)));refine aR e1 ?_;refine setAttr (am rfl (h1.get (i:=10) (r:=R.x) rfl) EJ) rfl (cP (h1.get (i:=1) (r:=R'.x) rfl) (LL rfl)) ?_;refine gen (l:=(R'.u,.dict [])::(own {R' with u:=R.u,l:=R.l} (S0 tr)++aQ R b S Z)) (h1.set (i:=1) rfl (.inst 2 (eO (eN R' (S0 tr)) 14 (.ref R.u)))) λLu h2=>?_;have h3:HS _ b T ((R'.u,.dict [])::(own {R' with u:=R.u,l:=R.l,tl:=false} (S0 tr)++aQ R b S Z)):=h2.set (i:=1) rfl (.inst 2 (eO (eN {R' with u:=R.u,l:=R.l} (S0 tr)) 20 (.bool false)));exact setAttr rfl rfl (cP (h2.get (i:=1) (r:=R'.x) rfl) (LL rfl)) (ret rfl (H _ ⟨{R' with u:=R.u,l:=R.l,tl:=false},tr,[]⟩ ⟨e2,rfl,rfl,e3,rfl⟩ rfl (h3.drop (TP _ _))))
theorem ES (h:HS σ b T (aQ R b S Z))(hm:R.m=1)(H:∀σ' t,(S.tw=some t\/(ER R t/\t.kn=[]))->HS σ' b T (aQ R b {S with tw:=some t} Z)->Q (.ref t.R.x) σ'):XC (n+4) 35 [.ref R.x] σ Q:=by
 refine ay rfl rfl (bq (aA (am rfl h.gx gc) rfl) (by(refine ad hm ?_);decide) (nil ?_))
 rcases R8:S.tw with _|t
 ·have rd:cC (eN R S) 21=some .none:=congrArg (λw=>some (Kk w)) R8;refine dH (p:=True) (Tp.iff (Ev.tp (Fr (am rfl h.gx rd))) ⟨λ_=>trivial,λ_=>rfl⟩) trivial (eE (az rfl (Ch (n:=n) h λLG t tok ekn h1=>⟨_,_,rfl,cP (h1.get (i:=9) (r:=R.x) rfl) (LL rfl),nil ?_⟩)));have h3:HS _ b T (own t.R (B6 t)++(CK R b++(own R {S with tw:=some t}++(KO S.tw++Z)))):=h1.set (i:=9) rfl (.inst 2 (eO (eN R S) 21 (.ref t.R.x)));rw[R8]at h3;have h4:HS _ b T (aQ R b {S with tw:=some t} Z):=h3.perm (((TO _ _ _).trans (List.Perm.append_left _ (TO _ _ _))).symm);exact ret (am rfl h4.gx KP) (H _ t (.inr ⟨tok,ekn⟩) h4)
 ·have e:Kk S.tw=.ref t.R.x:=by(refine ad R8 ?_);rfl
  have e2:({S with tw:=some t}:RT)=S:=by(refine aR R8 ?_;rfl)
  have rd:cC (eN R S) 21=some (.ref t.R.x):=congrArg some e;exact bq (p:=False) (Tp.iff (Ev.tp (Fs (am rfl h.gx rd))) ⟨λq=>Bool.noConfusion q,False.elim⟩) id (nil (ret (am rfl h.gx rd) (H σ t (.inl R8) (e2.symm▸h))))
theorem Io {j c N:Nat}(A:bg 3 j c)(hj:j<=8)(hN:c<=N+4)(h:HS σ b T (aQ R b S Z))(hm:R.m=1)(ht:R.tl=true){i:Nat}(I:ju T R i S)(C:CC T j s t)
  (H:∀a σ' T' Uz,(a=true↔s=t)->HS σ' b T' (aQ R b {S with tw:=Uz} Z)->aO R T S T' {S with tw:=Uz} 0->Q (.bool a) σ'):XC (N+5) 30 [.ref R.x,af s,af t] σ Q:=by
 have hT:=h.tab.ok;have e1:Ev (N+4) (.cmp .eq (.loc 1) (.loc 2)) (m7 [.ref R.x,af s,af t]) σ (.bool (decide ((s:Int)=(t:Int)))):=rfl;refine ay rfl rfl (dF ?_)
 by_cases Mm:s=t
 ·rw[decide_eq_true (show(s:Int)=(t:Int)from congrArg Mi Mm)]at e1;exact dD (HK e1) (H true σ T S.tw ⟨λ_=>Mm,λ_=>rfl⟩ h aO.refl)
 rw[decide_eq_false (dL Mm)]at e1;refine JG e1 (ww (az rfl (ES (n:=N) h hm λLG tw hc h1=>?_)))
 obtain⟨tok,Zx⟩:ER R tw/\ir T 3 tw.kn:=by
  refine Lr hc (λhc=>?_) λo1=>?_
  ·exact I.tw _ hc
  ·refine o1.elim λhc e=>?_;exact⟨hc,e▸⟨Pz,cw⟩⟩
 have SY:CK tw.R b=CK R b:=by unfold CK;(refine ad tok.h ?_;refine ad tok.u ?_;refine ad tok.l ?_;rfl)
 have h2:HS LG b T (aQ tw.R b (B6 tw) (own R {S with tw:=some tw}++Z)):=by
  refine h1.perm ?_;show(CK tw.R b++(own tw.R (B6 tw)++(own R {S with tw:=some tw}++Z))).Perm (CK R b++(own R {S with tw:=some tw}++(own tw.R (B6 tw)++Z)));refine ad SY ?_;exact List.Perm.append_left _ (TO _ _ _)
 have I2:ju T tw.R j (B6 tw):=⟨I.ν,tok.m.symm▸Zx,⟨Pz,cw⟩,λt e=>nomatch e⟩
 refine⟨_,_,_,_,_,rfl,rfl,h2.gx,rfl,A (N+4) hN LG b T tw.R (B6 tw) (own R {S with tw:=some tw}++Z) s t _ tok.m h2 I2 C (by show 0+j<=50;exact Ll [_] 1 (.a Pv M2) Uf [(1,M2,SC)] rfl hj) (by have:=FP j;show 0+nb j<=8388000;exact Ll [_] 1 (.a Pv M2) Ps [(1,M2,.k 7390621)] rfl this) λa Lu z1=>cS z1 λT' S' h3 st ha _=>?_⟩
 have M5:=h3.tab.ok
 have eS:S'=B6 ⟨tw.R,S'.tr,S'.kn⟩:=by
  have e1:=st.nil rfl;have e2:S'.deep=0:=st.deep;have e3:S'.ns=0:=st.sil (.inl tok.tl);have e4:S'.tw=none:=st.tw (.inl tok.tl)
  induction S'
  simp only at e1 e2 e3 e4;subst e1 e2 e3 e4
  rfl
 have I3:=st.inv j I2;have VF:=I3.kn;replace VF:=tok.m▸VF
 refine H a Lu T' (some ⟨tw.R,S'.tr,S'.kn⟩) (ha.trans cr.three) ?_ ⟨st.pre,st.ν,rfl,λk I'=>⟨Lk st.ν I'.ν,I'.kn.ext hT st.pre,I'.tr.ext hT M5 st.pre,λt e=>by refine aT e ?_;exact⟨⟨tok.h,tok.u,tok.l,tok.m,tok.tl⟩,VF⟩⟩,λq=>q,⟨[],(Mz _).symm⟩,⟨Lv _,Lv _⟩,λ_=>rfl,λq=>?_⟩
 ·rw[eS]at h3;refine h3.perm ?_;show(CK R b++(own R {S with tw:=some ⟨tw.R,S'.tr,S'.kn⟩}++(own tw.R (B6 ⟨tw.R,S'.tr,S'.kn⟩)++Z))).Perm (CK tw.R b++(own tw.R (B6 ⟨tw.R,S'.tr,S'.kn⟩)++(own R {S with tw:=some tw}++Z)));refine ad SY ?_;exact List.Perm.append_left _ (TO _ _ _)
 ·rcases q with q|q
  ·replace q:=ht▸q;exact vz q
  ·exact absurd hm q
theorem ET {j c N:Nat}(A:R.tl=true->R.m=1->bg 3 j c)(hj:j<=8)(hN:c<=N+4)(h:HS σ b T (aQ R b S Z)){i:Nat}(I:ju T R i S)(C:CC T j s t)(hs:S.ns<8388600)
  (H:∀σ' T' S',HS σ' b T' (aQ R b S' Z)->aO R T S T' S' (if R.tl=true/\R.m=1 then 1 else 0)->(R.tl=true->R.m=1->(S'.ns=S.ns↔s=t))->Q .none σ'):XC (N+6) 42 [.ref R.x,af s,af t] σ Q:=by
 refine(C.bad h.tab.ok).elim λb1 b2=>?_;refine ay rfl rfl (jg (gF (Ev.tp (aH rfl (EP (n:=N+4) h))) (λq=>?_) λq=>nil (nil ?_)))
 ·obtain⟨ht,hm⟩:R.tl=true/\R.m=1:=by
   rw[MW,decide_eq_true_eq]at q;exact⟨q.1,L9.mp q.2⟩
  rw[if_pos ⟨ht,hm⟩]at H;refine gF (lZ rfl rfl) (λ_=>gF (lZ rfl rfl) (λ_=>g0 (l7 (l6 (bp rfl rfl h.gx rfl (Io (A ht hm) hj hN h hm ht I C λa LG T' Uz ha h1 st=>⟨a,rfl,?_⟩))))) λq=>absurd (dL b2) q) λq=>absurd (dL b1) q
  induction a with
  |true=>exact nil (nil (H LG T' _ h1 (st.mono (LP _)) λ_ _=>⟨λ_=>ha.mp rfl,λ_=>rfl⟩))
  |false=>
   refine expr (bp rfl rfl h1.gx rfl (B8 (n:=N+3) h1 hs λLu h2=>⟨rfl,nil (nil (H Lu T' _ h2 (st.trans (aO.note (by(refine ad hm ?_);decide))) λ_ _=>⟨λe=>?_,λe=>?_⟩))⟩))
   ·rw[ht]at e;exact absurd e (WK _)
   ·exact Bool.noConfusion (ha.mpr e)
 ·refine H σ T S h (aO.refl.mono (LP _)) λe1 e2=>absurd ?_ q
  (refine ad e1 ?_;refine ad e2 ?_);rfl
end
end
noncomputable section
section
variable {σ σ':St}{b:TB}{T T':List TR}{R:RO}{S:RT}{Z:List (Nat×AO)}{n s t:Nat}{Q:V->St->Prop}{ρ:Loc}{e1:IE}
theorem vn {ro:Bool}(h:Ev n e1 ρ σ (jV ro)):Tp n e1 ρ σ (ro=true):=⟨_,ro,h,by rcases ro with _|_<;>rfl,NW⟩
def Ip (R:RO)(S:RT)(j:Nat)(ro:Bool)(P:List El)(S':RT)(a:Bool):Prop:=R.tl=true->R.m=1->a=true->nb j=0->(S'.ns=S.ns↔ro=true\/∀p∈P,p.1=p.2)
structure PI (R:RO)(b:TB)(Z:List (Nat×AO))(T:List TR)(S:RT)(m j:Nat)(ro:Bool)(p:List El)(J':Loc)(σ':St)(T':List TR)(S':RT):Prop where
 r0:J' 0=some (.ref R.x)
 r2:J' 2=some (jV ro)
 hs:HS σ' b T' (aQ R b S' Z)
 st:aO R T S T' S' (p.length*(nb j+1))
 all:∀k∈p,cr T m k.1 k.2
 nt:R.tl=true->R.m=1->nb j=0->(S'.ns=S.ns↔ro=true\/∀k∈p,k.1=k.2)
theorem xk {m j c N:Nat}{P:List El}{ro:Bool}(A:bg m j c)(A3:R.tl=true->R.m=1->bg 3 j c)(hm:R.m=m)(hj:j<=8)(hN:c<=N+5)(h:HS σ b T (aQ R b S Z))(I:ju T R j S)(C:∀p∈P,CC T j p.1 p.2)
  (hd:S.deep+j<=50) (υ:S.ns+P.length*(nb j+1)<=8388000) (H:∀a σ',kt R b Z T S (P.length*(nb j+1)) (∀p∈P,cr T m p.1 p.2) (Ip R S j ro P) a σ'->Q (.bool a) σ'):XC (N+8) 63 [.ref R.x,.lst (P.map bB),jV ro] σ Q:=by
 have hT:=h.tab.ok;refine ay rfl rfl (wz (f:=bB) P (λp J' σ'=>∃T' S',PI R b Z T S m j ro p J' σ' T' S') rfl rfl (λ_ _ _ _=>rfl) ⟨T,S,rfl,rfl,h,aO.refl.mono (LP _),cw,λ_ _ _=>⟨λ_=> .inr cw,λ_=>rfl⟩⟩ ?_ λJ' σ' z1=>gf z1 λT' S' i=>ret rfl (H true σ' ⟨T',S',i.hs,i.st,⟨λ_=>i.all,λ_=>rfl⟩,λe1 e2 _ e3=>i.nt e1 e2 e3⟩));rintro p ⟨s,t⟩ r J' σ' e ⟨T',S',i⟩;have hC:=C (s,t) (e▸MB p LI);have hmul:(p.length+1)*(nb j+1)<=P.length*(nb j+1):=Oo _ (gN e);have TF:(p++[(s,t)]).length=p.length+1:=LH;rw[Pd,PZ]at hmul;have Nv:=i.st.ns
 refine⟨_,rfl,jg (l7 (l6 (bp (aj i.r0) rfl i.hs.gx rfl (A (N+7) (Lk hN (M9 (by decide) N)) σ' b T' R S' Z s t _ hm i.hs (i.st.inv j I) (hC.ext i.st.pre) (by(refine ad i.st.deep ?_);exact hd) (Ll [_,_,_,_,_] 1 (.a M2 No) Ps [(1,.a NE Op,Ps),(1,.a Os (.a No On),Op),(1,M2,.a NE Os)] rfl υ hmul Nv.2) λa Lu Zt=>cS Zt λT2 S2 h2 Mv ha _=>⟨a,rfl,?_⟩))))⟩
 have M7:=i.st.trans Mv;have Nx:a=true↔cr T m s t:=ha.trans (cr.ext hT i.st.pre (hC.mono hj));have M':=Mv.ns
 induction a with
 |false=>exact ret rfl (H false Lu ⟨T2,S2,h2,M7.mono (Lk (Ll [_,_] 1 (.a M2 No) (.a M2 (.a No On)) [] rfl) hmul),⟨Bool.noConfusion,λq=>Nx.mpr (q (s,t) (e▸MB p LI))⟩,λ_ _ e=>Bool.noConfusion e⟩)
 |true=>
  have MA:∀k∈p++[(s,t)],cr T m k.1 k.2:=Mr.mpr ⟨i.all,cv (Nx.mp rfl)⟩;refine nil (a9 (je (vn (aj i.r2))) (λq=>expr (az (ae (aj i.r0) rfl) (ET (N:=N+1) A3 hj hN h2 (M7.inv j I) (hC.ext M7.pre) (Ll [_,_,_,_,_,_] 1 (.a M2 On) (.k 8388600) [(1,.a No NE,Ps),(1,.a Op (.a Os On),NE),(1,Pi,.a No Op),(1,M2,.a Pi Os)] rfl υ hmul Nv.2 M'.2) λLY T3 S3 h3 Pj hn3=>⟨rfl,nil (nil ⟨T3,S3,i.r0,i.r2,h3,(M7.trans Pj).mono ?_,MA,λe1 e2 e3=>?_⟩)⟩))) λq=>nil ⟨T2,S2,i.r0,i.r2,h2,M7.mono ?_,MA,λe1 e2 e3=>?_⟩)
  ·rw[TF,Pd,PZ]
   have:(if R.tl=true/\R.m=1 then 1 else 0)<=1:=by split<;>decide
   exact M9 (by assumption) _
  ·rw[SJ]at q;have g1:=i.nt e1 e2 e3;have g2:=hn3 e1 e2;have Ql:=Pj.ns;rw[q]at g1⊢;have nf:¬(false=true):=Bool.noConfusion;rw[or_iff_right nf]at g1⊢
   constructor
   ·intro k;exact Mr.mpr ⟨g1.mp (Ms (Ll [_,_,_,_] 1 M2 No [(1,M2,NE),(1,NE,Op),(1,Op,No)] rfl M'.1 Ql.1 (LU k)) (Ll [_,_] 1 M2 No [(1,M2,No)] rfl Nv.1)),cv (g2.mp (Ms (Ll [_,_,_,_] 1 M2 No [(1,NE,Op),(1,Op,No),(1,M2,NE)] rfl Nv.1 M'.1 (LU k)) (Ll [_,_] 1 M2 No [(1,M2,No)] rfl Ql.1)))⟩
   ·intro k;have k:=Mr.mp k;have q1:=g1.mpr k.1;have q2:=g2.mpr (k.2 (s,t) LI);exact Ms (Ll [_,_,_,_,_] 1 M2 No [(1,NE,.a Op Os),(1,Os,Pv),(1,Op,No),(1,M2,NE)] rfl M'.2 (LU e3) (LU q1) (LU q2)) (Ll [_,_,_,_] 1 M2 No [(1,M2,NE),(1,NE,Op),(1,Op,No)] rfl Nv.1 M'.1 Ql.1)
  ·rw[TF,Pd,PZ];exact Mf _
  ·have q:=NV.mp q;have g1:=(i.nt e1 e2 e3).mpr (.inl q);exact⟨λ_=> .inl q,λ_=>(Ms (Ll [_,_,_,_] 1 M2 No [(1,M2,.a NE Op),(1,Op,Pv),(1,NE,No)] rfl M'.2 (LU e3) (LU g1)) (Ll [_,_,_] 1 M2 No [(1,M2,NE),(1,NE,No)] rfl Nv.1 M'.1))⟩
theorem oz {T:List TR}{e:Nat}(hT:bu T):[e,4].flatMap (parts T)=parts T e++[4]:=by
 have h4:parts T 4=[4]:=(show gQ T 0 4 from .inl ⟨0,LP _,aG hT (i:=4) rfl⟩).parts hT
 (refine ad QG ?_;refine ad QG ?_;refine ad h4 ?_);rfl
theorem GK.few {T:List TR}(hT:bu T){f e:Nat}(h:GK T f e):(bd (parts T e++[4])).length<64:=by
 have a4:aD T 4:=⟨0,LP _,aG hT (i:=4) rfl⟩;refine sP hT (Mr.mpr ⟨λp hp=>(h.part hp).AL,cv (.inl a4)⟩) λl hn hl=>h.1.few l hn λp hp=>?_;obtain⟨h1,a,h2⟩:=hl p hp;refine⟨(M0.mp h1).resolve_right λh1=>?_,a,h2⟩;rw[LV.mp h1]at h2;exact aJ a4 h2
theorem vo {f e:Nat}(h:aY σ b T)(g:GK T f e)(hl:T.length<1000000)(H:∀σ',aY σ' b (aU T (parts T e++[4])).1->aN b.own σ σ'->Q (af (aU T (parts T e++[4])).2) σ'):XC (n+4) 20 [.ref b.t,af e] σ Q:=by
 have hT:=h.ok;have a4:aD T 4:=⟨0,LP _,aG hT (i:=4) rfl⟩;have g4:gQ T 0 4:= .inl a4;rw[<- oz hT]at H
 refine ay rfl rfl (dG (vs:=[.ref b.t,.tup [af e,.int 4]]) rfl (wN (n:=n) (ts:=[e,4]) h (λ_=>rfl) (Qb.mpr ⟨g.1.good,cv ⟨g4.lt,by(refine ad (g4.parts hT) ?_);exact cv g4.good⟩⟩) ?_ hl H))
 (refine ad (oz hT) ?_);exact g.few hT
theorem vp {f e k:Nat}(h:aY σ b T)(g:GK T f e)(hp:bz T<=2800)(hk:k<=2)(H:∀u T' σ',aY σ' b T'->pre T T'->bz T'<=bz T->jy T' f e (decide (k=1)) u->aN b.own σ σ'->Q (af u) σ'):XC (n+5) 26 [.ref b.t,bB (e,k)] σ Q:=by
 refine ay rfl rfl (bq (aA (j:=(k:Int)) (ai rfl rfl rfl) rfl) (by lia) (nil (dF (n5 (aA (j:=(k:Int)) (ai rfl rfl rfl) rfl) (λq=>?_) λq=>?_))))
 ·obtain rfl:k=1:=L9.mp q;refine y9 (jy.undef h.ok g) λq1 q2 q3 q4=>?_
  exact az (ae rfl (ae (ai rfl rfl rfl) av)) (vo (n:=n) h g (Mp (Lk kQ hp) (by decide)) λσ' t' s'=>H _ _ σ' t' q1 q3 q4 s')
 ·refine dD (ai (z:=af e) rfl rfl rfl) (H e T σ h (pre.refl T) (Lv _) ?_ aN.refl)
  (refine ad (decide_eq_false λe=>q (congrArg Mi e)) ?_);exact jy.self g
end
end
noncomputable section
section
variable {σ σ':St}{b:TB}{T T':List TR}{Z:List (Nat×AO)}{n f:Nat}{p q:Sq}{X Y:V}{Q:V->St->Prop}
noncomputable def tj (l:List El)(k:El):List El:=if k∈l then l else l++[k]
theorem mG {l:List El}{k x:El}:x∈tj l k↔x∈l\/x=k:=by
 unfold tj;refine Lr (PC (k∈l)) (λh=>?_) λh=>?_
 ·(refine ad (if_pos h) ?_);exact⟨.inl,λq=>q.elim id λe=>e▸h⟩
 ·rw[if_neg h,M0,LV]
theorem Ci {l:List El}{k:El}:(tj l k).length<=l.length+1:=by
 unfold tj;refine Lr (PC (k∈l)) (λh=>?_) λh=>?_
 ·(refine ad (if_pos h) ?_);exact Mf _
 ·(refine ad (if_neg h) ?_;refine ad LH ?_);exact Lv _
theorem Cj {l:List El}{k:El}:dj (dx l) (bB k) (.int 1)=dx (tj l k):=by
 by_cases h:k∈l
 ·have hg:=jq (l:=l) (k:=k);rw[decide_eq_true h]at hg;unfold dj tj
  (refine ad (if_pos hg) ?_;refine ad (if_pos h) ?_)
  unfold dx;refine ad Ml ?_;refine Qh λx hx=>?_
  show(if bB x=bB k then(bB x,V.int 1)else(bB x,V.int 1))=_
  split<;>rfl
 ·(refine ad (xd h) ?_);unfold tj;(refine ad (if_neg h) ?_;rfl)
noncomputable def FQ:List IS:=[.assign (.loc 7) (.call 26 [.loc 0,.call 58 [.loc 1,.loc 5,.loc 6]]),.Ξ (.loc 4) (.tup [.loc 7,.call 26 [.loc 0,.call 58 [.loc 2,.loc 5,.loc 6]]]) (.const (.int 1))]
structure Iq (T:List TR)(f:Nat)(p q:Sq)(X Y:V):Prop where
 sp:eH X p.ι
 sq:eH Y q.ι
 op:p.Ok
 oq:q.Ok
 gp:∀e∈p.all,GK T f e
 gq:∀e∈q.all,GK T f e
 fit:nh p q
theorem Sq.Ok.len {a:Sq}(h:a.Ok):a.ι.length<=9:=by
 have:=h.short
 unfold Sq.all at this;rw[LH,LH,LH]at this
 (refine ad eh ?_);exact this
theorem Sq.Ok.le {a:Sq}(h:a.Ok):a.ι.length<=1000:=Lk h.len (by decide)
theorem Iq.ext (h:Iq T f p q X Y)(hp:pre T T'):Iq T' f p q X Y:=⟨h.sp,h.sq,h.op,h.oq,λe he=>(h.gp e he).ext hp,λe he=>(h.gq e he).ext hp,h.fit⟩
theorem vq {k:Nat}{fl:Bool}(h:k=1↔fl=true):decide (k=1)=fl:=by
 rcases fl with _|_
 ·exact decide_eq_false λq=>Bool.noConfusion (h.mp q)
 ·exact decide_eq_true (h.mpr rfl)
theorem tm {m i:Nat}{a:Sq}(hm:jx a.sg m)(hi:i<a.h.length+m+a.t.length):∃x fl,(dA a.sg m)[i]?=some (x,fl):=by
 have:=MU (l:=dA a.sg m) (i:=i) (by(refine ad (b5 hm) ?_);exact hi)
 exact⟨_,_,this⟩
theorem vu {ρ:Loc}{m m' i g:Nat}{l:List El}{K:Fl->Loc->St->Prop}(H:Iq T f p q X Y)(h:HS σ b T ((g,.dict (dx l))::Z))(Mc:bz T<=2800)(hl:l.length<=1000)(hm:jx p.sg m)(NC:jx q.sg m')
  (he:p.h.length+m+p.t.length=q.h.length+m'+q.t.length) (hi:i<p.h.length+m+p.t.length) (r0:ρ 0=some (.ref b.t)) (r1:ρ 1=some X) (r2:ρ 2=some Y) (r4:ρ 4=some (.ref g)) (r5:ρ 5=some (af (p.h.length+m+p.t.length))) (r6:ρ 6=some (af i))
  (k:∀w σ' T' x y u v,(dA p.sg m)[i]?=some x->(dA q.sg m')[i]?=some y->pre T T'->bz T'<=bz T->jy T' f x.1 x.2 u->jy T' f y.1 y.2 v->HS σ' b T' ((g,.dict (dx (tj l (u,v))))::Z)->K .next (ρ.set 7 w) σ'):XS (n+5) FQ ρ σ K:=by
 refine gf (tm hm hi) λx fl x1=>?_;refine a6 (j1 H.op hm x1) λk1 x2 x3 x4=>?_;refine gf (tm NC (he▸hi)) λy fl' y1=>?_;refine a6 (j1 H.oq NC y1) λk2 y2 y3 y4=>?_;have gx:GK T f x:=H.gp _ (dM (MI x1));have gy:GK T f y:=H.gq _ (dM (MI y1));have ex:=λσ=>B0 (n:=n+3) (σ:=σ) H.sp H.op.le H.op hi x4;have ey:=λσ=>B0 (n:=n+3) (σ:=σ) H.sq H.oq.le H.oq (he▸hi) y4;rw[<- he]at ey;refine bY (az (ae (aj r0) (ae (aH (ae (aj r1) (ae (aj r5) (ae (aj r6) av))) (ex σ)) av)) (vp (n:=n) h.tab gx Mc x2 λu T1 LG t1 UR RP UD s1=>?_));have H1:=h.table t1 s1;refine DX (x:= .ref g) rfl (λ_=>aj r4) (km (bM (dD rfl (dC (az (ae (aj r0) (ae (aH (ae (aj r2) (ae (aj r5) (ae (aj r6) av))) (ey LG)) av)) (vp (n:=n) H1.tab (gy.ext UR) (Lk RP Mc) y2 λv T2 Lu t2 Q4 US UC s2=>?_))))));have H2:=H1.table t2 s2
 refine⟨_,eG (k:=bB (u,v)) (H2.get (i:=0) (r:=g) rfl) fP gT (by unfold dx;rw[LN];exact Mp hl (LL rfl)),nil (k _ _ T2 (x,fl) (y,fl') u v x1 y1 (UR.trans Q4) (Lk US RP) (vq x3▸UD.ext t1.ok Q4 (gx.ext UR)) (vq y3▸UC) ?_)⟩
 exact Cj▸H2.set (i:=0) rfl (.dict (dj (dx l) (bB (u,v)) (.int 1)))
def Dn (p q:Sq)(c k:Nat)(x y:Nat×Bool):Prop:=∃m m' i:Nat,(m<c\/(m=c/\i<k))/\jx p.sg m/\p.h.length+m+p.t.length<=fO p q/\jx q.sg m'/\p.h.length+m+p.t.length=q.h.length+m'+q.t.length/\(dA p.sg m)[i]?=some x/\(dA q.sg m')[i]?=some y
structure Ir (T:List TR)(f:Nat)(p q:Sq)(l:List El)(D:Nat×Bool->Nat×Bool->Prop):Prop where
 sound:∀k∈l,∃x y,w8 p q x y/\jy T f x.1 x.2 k.1/\jy T f y.1 y.2 k.2
 cover:∀x y,D x y->∃k∈l,jy T f x.1 x.2 k.1/\jy T f y.1 y.2 k.2
theorem w8.mem {x y:Nat×Bool}(h:w8 p q x y):x.1∈p.all/\y.1∈q.all:=by
 refine xu h λm m' i _ _ _ _ h1 h2=>?_;exact⟨dM (MI h1),dM (MI h2)⟩
theorem Dn.inP {c k:Nat}{x y:Nat×Bool}(h:Dn p q c k x y):w8 p q x y:=by
 refine fh h λm m' i _ h=>?_;exact⟨m,m',i,h⟩
theorem Ir.ext {l:List El}{D:Nat×Bool->Nat×Bool->Prop}(hT:bu T)(H:Iq T f p q X Y)(h:Ir T f p q l D)(hp:pre T T')(hD:∀x y,D x y->w8 p q x y):Ir T' f p q l D:=by
 refine⟨λk hk=>?_,λx y d=>?_⟩
 ·refine aL (h.sound k hk) λx y h1 h2 h3=>?_;exact⟨x,y,h1,h2.ext hT hp (H.gp _ h1.mem.1),h3.ext hT hp (H.gq _ h1.mem.2)⟩
 ·refine a6 (h.cover x y d) λk hk h2 h3=>?_;have h1:=hD x y d;exact⟨k,hk,h2.ext hT hp (H.gp _ h1.mem.1),h3.ext hT hp (H.gq _ h1.mem.2)⟩
theorem xl (op:p.Ok)(oq:q.Ok):fO p q<=18:=by
 have:=op.len
 have:=oq.len
 unfold fO
 split<;>lia
structure PP (b:TB)(Z:List (Nat×AO))(T:List TR)(f:Nat)(p q:Sq)(g c i:Nat)(σ':St)(T':List TR)(l':List El):Prop where
 pre:pre T T'
 ν:bz T'<=bz T
 hs:HS σ' b T' ((g,.dict (dx l'))::Z)
 len:l'.length<=c*18+i
 pin:Ir T' f p q l' (Dn p q c i)
theorem tn {ρ:Loc}{m g:Nat}{T0:List TR}{l:List El}{ss:List IS}{K:Fl->Loc->St->Prop}(H:Iq T0 f p q X Y)(Mc:bz T0<=2800)(P:PP b Z T0 f p q g m 0 σ T l)(hm:jx p.sg m)(OO:p.h.length+m+p.t.length<=fO p q)
  (r0:ρ 0=some (.ref b.t)) (r1:ρ 1=some X) (r2:ρ 2=some Y) (r4:ρ 4=some (.ref g)) (r5:ρ 5=some (af (p.h.length+m+p.t.length)))
  (k:∀J' σ' T' l',(∀j,j<6->J' j=ρ j)->PP b Z T0 f p q g (m+1) 0 σ' T' l'->XS (n+5) ss J' σ' K):XS (n+5) (.loop (.loc 6) (.bi .range [.loc 5]) FQ::ss) ρ σ K:=by
 have O8:=xl H.op H.oq;refine ag (ta H.op H.oq H.fit hm) λm' NC he=>?_
 refine gI (f:=af) (p.h.length+m+p.t.length) (λi J' σ'=>(∀j,j<6->J' j=ρ j)/\∃T' l',PP b Z T0 f p q g m i σ' T' l') (cU (ae (aj r5) av) (iy (Lk OO (Lk O8 (by decide))))) dZ ⟨λ_ _=>rfl,T,l,P⟩ ?_ ?_
 ·rintro i J' σ' hi ⟨rr,T1,l1,P1⟩;have lm:m*18<=18*18:=Oo _ (Ll [_,_,_,_] 1 M2 UF [(1,.a (.a No M2) NE,Op),(1,Op,UF)] rfl OO O8)
  refine vu (n:=n) (H.ext P1.pre) P1.hs (Lk P1.ν Mc) (by have:=P1.len;exact Ll [_,_,_,_,_,_] 1 M2 (.k 1000) [(1,.a (.a No NE) Op,Os),(1,Os,UF),(1,.a Pi On,.a (.a No NE) Op),(1,.w NE 18,.m 18 UF),(1,M2,.a (.w NE 18) Pi)] rfl OO O8 hi lm this) hm NC he hi ((rr 0 (by decide)).trans r0) ((rr 1 (by decide)).trans r1) ((rr 2 (by decide)).trans r2) ((rr 4 (by decide)).trans r4) ((rr 5 (by decide)).trans r5) rfl λw Lu T2 x y u v x1 y1 Q4 US rx ry h2=>⟨λj hj=>?_,T2,_,P1.pre.trans Q4,Lk US P1.ν,h2,Lk Ci (Ou P1.len),λk hk=>?_,λx' y' d=>?_⟩
  ·exact(if_neg (MC (Ll [_] 1 (.a M2 On) (.k 7) [(1,.a M2 On,SL)] rfl hj))).trans ((if_neg (MC (by assumption))).trans (rr j hj))
  ·refine Lr (mG.mp hk) (λhk=>?_) λo1=>?_
   ·exact(P1.pin.ext P1.hs.tab.ok (H.ext P1.pre) Q4 λx y d=>d.inP).sound k hk
   ·subst o1;exact⟨x,y,⟨m,m',i,hm,OO,NC,he,x1,y1⟩,rx,ry⟩
  ·obtain⟨m1,Q5,i1,c,d1,d2,d3,d4,d5,d6⟩:=d;refine Lr (PC (m1<m\/(m1=m/\i1<i))) (λhc=>?_) λhc=>?_
   ·refine a6 ((P1.pin.ext P1.hs.tab.ok (H.ext P1.pre) Q4 λx y d=>d.inP).cover x' y' ⟨m1,Q5,i1,hc,d1,d2,d3,d4,d5,d6⟩) λk hk g1 g2=>?_;exact⟨k,mG.mpr (.inl hk),g1,g2⟩
   ·obtain rfl:m1=m:=by lia
    obtain rfl:i1=i:=by lia
    obtain rfl:Q5=m':=(Ms (Ll [_,_,_,_,_,_,_] 1 M2 No [(1,.a (.a NE M2) Op,.a (.a Os Pi) SB),(1,.a (.a Os Pi) SB,.a (.a NE No) Op)] rfl (iU d4) (LU he)) (Ll [_,_,_,_,_,_,_] 1 M2 No [(1,.a (.a NE Op) Os,.a (.a Pi No) SB),(1,.a (.a Pi M2) SB,.a (.a NE Op) Os)] rfl (LU d4) (iU he)))
    cases x1.symm.trans d5
    cases y1.symm.trans d6
    exact⟨_,mG.mpr (.inr rfl),rx,ry⟩
 ·rintro J' σ' ⟨rr,T1,l1,P1⟩
  refine k J' σ' T1 l1 rr ⟨P1.pre,P1.ν,P1.hs,by have:=P1.len;exact Ll [_,_,_,_,_] 1 M2 (.a (.w (.a No On) 18) Pv) [(1,.a (.a NE No) Op,Os),(1,Os,UF),(1,M2,.a (.w No 18) (.a (.a NE No) Op))] rfl OO O8 this,P1.pin.sound,λx y d=>P1.pin.cover x y ?_⟩
  obtain⟨m1,Q5,i1,c,d1,d2,d3,d4,d5,d6⟩:=d;refine⟨m1,Q5,i1,?_,d1,d2,d3,d4,d5,d6⟩;refine Lr (Nat.lt_or_ge m1 m) (λc'=>?_) λc'=>?_
  ·exact .inl c'
  ·obtain rfl:m1=m:=by lia
   refine .inr ⟨rfl,?_⟩
   have:=(Mt.mp d5).1
   rw[b5 d1]at this;exact this
theorem It {a c:Nat}:bV σ (.rng (a:Int) (c:Int))=some ((Mo (c-a)).map λk=>af (a+k),none):=by
 show some (oH a c,none)=_;unfold oH;rw[Int.toNat_sub];exact congrArg (λl=>some (l,none)) (Qh λk _=>congrArg V.int (Int.natCast_add a k).symm)
theorem EU (H:Iq T f p q X Y)(h:HS σ b T Z)(Mc:bz T<=2800)(k:∀σ' T' P,pre T T'->bz T'<=bz T->HS σ' b T' Z->P.length<=342->Ir T' f p q P (w8 p q)->Q (.lst (P.map bB)) σ'):XC (n+6) 60 [.ref b.t,X,Y] σ Q:=by
 have O8:=xl H.op H.oq;have el:=eh (a:=p)
 have O4:p.h.length+p.t.length<=fO p q:=by unfold fO;split<;>lia
 have etop:∀{ρ:Loc},ρ 1=some X->ρ 2=some Y->Ev (n+5) (.ite (.cmp .lt (.call 57 [.loc 1]) (.const (.int 0))) (.bi .len [.loc 1]) (.bin .add (.bi .len [.loc 1]) (.bi .len [.loc 2]))) ρ σ (af (fO p q)):=λr1 r2=>by
  have hc:=ip (aH (ae (aj r1) av) (kR (n:=n+4) H.sp H.op.le H.op)) (rfl:Ev (n+5) (.const (.int 0)) _ σ (.int 0));unfold fO
  by_cases hr:p.r=[]
  ·(refine ad (if_pos hr) ?_);exact lY hc (dK.mpr hr) (eI H.sp (aj r1))
  ·(refine ad (if_neg hr) ?_);exact iK hc (λq=>hr (dK.mp q)) (bX (eI H.sp (aj r1)) (eI H.sq (aj r2)) n7)
 refine ay rfl rfl (cV (etop rfl rfl) (bY (gE ?_)));have h1:=h.new (.dict [])
 refine gI (f:=λk=>af (p.h.length+p.t.length+k)) (fO p q+1-(p.h.length+p.t.length)) (λi J' σ'=>J' 0=some (.ref b.t)/\J' 1=some X/\J' 2=some Y/\J' 4=some (.ref σ.n)/\∃T' l',PP b Z T f p q σ.n i 0 σ' T' l')
  (cU (ae (aH rfl (qn (n:=n+4) H.sp H.op.le)) (ae rfl av)) (if_pos ?_)) It ⟨rfl,rfl,rfl,rfl,T,[],pre.refl T,Lv _,h1,LP _,cw,λx y d=>?_⟩ ?_ ?_
 ·rewrite [KL (Lk O4 (Lk O8 (by decide))),show d0 (((fO p q:Nat):Int)+1)=true from KL (m:=fO p q+1) (Lk (Ou O8) (by decide))];rfl
 ·refine fh d λm m' i c _=>?_;rcases c with c|c
  ·exact absurd c (NM _)
  ·exact absurd c.2 (NM _)
 ·rintro i J' σ' hi ⟨r0,r1,r2,r4,T1,l1,P1⟩
  (refine ad (show p.h.length+p.t.length+i=p.h.length+i+p.t.length by exact Ms (Ll [_,_,_] 1 (.a (.a M2 No) NE) (.a (.a M2 NE) No) [] rfl) (Ll [_,_,_] 1 (.a (.a M2 No) NE) (.a (.a M2 NE) No) [] rfl)) ?_)
  have o1:jx p.sg i:=(iR H.op).mpr λhr=>by
   refine(ig H.op hr).elim λe1 e2=>?_
   have:fO p q=p.ι.length:=if_pos hr
   exact Ll [_,_,_,_,_,_,_] 1 M2 No [(1,.a M2 On,NE),(1,Op,.a Os No),(1,Pi,Op),(1,.a NE (.a Os SB),.a Pi On)] rfl hi (LU e1) (LU this) (mL (Ll [_,_,_] 1 (.a M2 No) (.a NE On) [(1,.a M2 No,NE)] rfl O4))
  refine tn (n:=n) H Mc P1 o1 (Ll [_,_,_,_,_] 1 (.a (.a M2 No) NE) Op [(1,.a No On,Os),(1,.a Os (.a M2 NE),.a Op On)] rfl hi (mL (Ll [_,_,_] 1 (.a M2 No) (.a NE On) [(1,.a M2 No,NE)] rfl O4))) r0 r1 r2 r4 rfl λMK Lu T2 l2 rr P2=>nil ⟨(rr 0 (by decide)).trans r0,(rr 1 (by decide)).trans r1,(rr 2 (by decide)).trans r2,(rr 4 (by decide)).trans r4,T2,l2,P2⟩
 ·rintro J' σ' ⟨r0,r1,r2,r4,T1,l1,P1⟩
  have O5:l1.length<=342:=by
   have:(fO p q+1-(p.h.length+p.t.length))*18<=19*18:=Oo _ (Ll [_,_] 1 M2 (.k 19) [(1,No,UF),(1,M2,.a No On)] rfl O8 (Qa _ _))
   have:=P1.len
   exact Lk (by assumption) (by assumption)
  have hk:(dx l1).map (λx=>x.1)=l1.map bB:=by unfold dx;(refine ad Ml ?_);rfl
  refine freeze r4 (wD (P1.hs.get (i:=0) (r:=σ.n) rfl)) ?_;refine ad hk ?_;refine ret (pV (f:=bB) (g:=bB) (xs:=l1) (ys:=l1) rfl rfl (Mp O5 (LL rfl)) (F2.refl (R:=λx y=>Ev _ _ _ _ _) ?_ l1)) (k _ T1 l1 P1.pre P1.ν ((P1.hs.set (i:=0) rfl .dead).drop (TP _ _)) O5 ⟨P1.pin.sound,λx y d=>P1.pin.cover x y ?_⟩)
  ·intro x;rfl
  refine xu d λm1 Q5 i1 d1 d2 d3 d4 d5 d6=>?_;exact⟨m1,Q5,i1,.inl (Ll [_,_,_,_,_] 1 (.a M2 On) No [(1,.a (.a NE M2) Op,Os),(1,.a Os On,.a No (.a NE Op))] rfl d2 nu),d1,d2,d3,d4,d5,d6⟩
end
end
noncomputable section
section
variable {σ σ':St}{b:TB}{T T':List TR}{R:RO}{S:RT}{Z:List (Nat×AO)}{n f m c s t:Nat}{p q:Sq}{Q:V->St->Prop}{ρ:Loc}{e1 e2:IE}{X Y:V}
theorem F2.abY {β γ:Type}{R:β->γ->Prop}{g:β->γ}(h:∀x,R x (g x)):∀l:List β,F2 R l (l.map g)
 |[]=>trivial
 |x::l=>⟨h x,F2.abY h l⟩
theorem mH:∀{l k:List Nat},gg (l.map af) (k.map af)=decide (l=k)
 |[],[]=>rfl
 |[],_::_=>rfl
 |_::_,[]=>rfl
 |a::l,c::k=>by
  show((a:Int)==(c:Int)&&gg (l.map af) (k.map af))=_;refine ad mH ?_
  by_cases h:a=c
  ·rw[h,beq_self_eq_true,Bool.true_and]
   exact decide_eq_decide.mpr ⟨λe=>by(refine ad e ?_;rfl),λe=>(List.cons.inj e).2⟩
  ·rw[beq_false_of_ne (dL h),Bool.false_and];exact(decide_eq_false λe=>h (List.cons.inj e).1).symm
theorem ku {l:List Nat}:aS (l.map af)=true:=MV.mpr λx hx=>by obtain⟨a,-,rfl⟩:=MH.mp hx;rfl
theorem J4 {l k:List Nat}(h1:Ev n e1 ρ σ (.lst (l.map af)))(h2:Ev n e2 ρ σ (.lst (k.map af))):Tp n (.cmp .ne e1 e2) ρ σ (l≠k):=gD h1 h2 (if_pos (by(refine ad ku ?_;refine ad ku ?_);rfl)) (by rw[mH,Rr,decide_eq_false_iff_not])
theorem to {E:List El}{j:Nat}(hX:eH X E)(hl:E.length<=1000)(h:Ev n e1 ρ σ X):Ev n (.comp (.sub (.loc j) (.const (.int 1))) (.loc j) e1 []) ρ σ (.lst ((E.map (·.2)).map af)):=pV h (u4 hX) (Mp hl (LL rfl)) (F2.abY (R:=fun (x:El) (y:Nat)=>Ev n (.sub (.loc j) (.const (.int 1))) (ρ.set j (bB x)) σ (af y)) (λx=>ai (x:=bB x) (y:= .int 1) (aj (if_pos rfl)) rfl rfl) E)
theorem Iu {T T':List TR}(hp:pre T T'){P Q:List Nat}(h:∀p∈P,p<T.length):KS T' ou P Q↔KS T ou P Q:=forall_congr' λp=>imp_congr_right λhm=>exists_congr λq=>and_congr_right λ_=>or_congr_left (ie hp (h p hm))
theorem xm {T T':List TR}(hT:bu T)(hp:pre T T'){x y:Nat×Bool}(gx:GK T f x.1)(gy:GK T f y.1):cg T' ou x y↔cg T ou x y:=by
 unfold cg;rw[iQ hp gx.1.good.1,iQ hp gy.1.good.1];exact Iu hp λp hm=>(mB hT gx hm).lt
theorem xn {T T':List TR}(hT:bu T)(hp:pre T T')(hf:f<=5){x y:Nat×Bool}(gx:GK T f x.1)(gy:GK T f y.1):cg T' (LT T') x y↔cg T (LT T) x y:=by
 unfold cg;rw[iQ hp gx.1.good.1,iQ hp gy.1.good.1];exact B1 hT hp (λp hm=>(mB hT gx hm).mono hf) λp hm=>(mB hT gy hm).mono hf
noncomputable def c3 (f:Nat):Nat:=1+342*(nb (3*f+2)+1)
structure EV (R:RO)(T:List TR)(S:RT)(f m c:Nat)(p q:Sq):Prop where
 A:bg m (3*f+2) c
 A3:R.tl=true->R.m=1->bg 3 (3*f+2) c
 hm:R.m=m
 m3:m≠3
 hf:f<=1
 hT:bu T
 I:ju T R (3*f+2) S
 hd:S.deep+(3*f+2)<=50
 υ:S.ns+c3 f<=8388000
 op:p.Ok
 oq:q.Ok
 gp:∀e∈p.all,GK T f e
 gq:∀e∈q.all,GK T f e
def KV (R:RO)(S:RT)(j:Nat)(N:Prop)(S':RT)(a:Bool):Prop:=R.tl=true->R.m=1->a=true->nb j=0->(S'.ns=S.ns↔N)
def IL (T:List TR)(p q:Sq):Prop:=∀x y,w8 p q x y->cg T ou x y/\cg T ou y x
def Mk (p q:Sq):Prop:=p.ι.map (·.2)=q.ι.map (·.2)
def FT (R:RO)(S S1:RT)(N:Prop):Prop:=R.tl=true->R.m=1->(S1.ns=S.ns↔N)
def EW (R:RO)(b:TB)(Z:List (Nat×AO))(T:List TR)(S:RT)(f:Nat)(p q:Sq)(N:Prop):Bool->St->Prop:=kt R b Z T S (c3 f) (cN (cg T (LT T)) p.sg q.sg) (KV R S (3*f+2) N)
theorem Ck {N:Nat}{P:List El}{ro:Bool}{T1:List TR}{S1:RT}{N0:Prop}(W:EV R T S f m c p q)(hN:c<=N+5)(h1:HS σ b T1 (aQ R b S1 Z))(st:aO R T S T1 S1 1)
  (fit:nh p q) (hP:Ir T1 f p q P (w8 p q)) (hl:P.length<=342) (hn0:FT R S S1 N0) (H:∀a σ',EW R b Z T S f p q (N0/\(ro=true\/IL T p q)) a σ'->Q (.bool a) σ'):XC (N+8) 63 [.ref R.x,.lst (P.map bB),jV ro] σ Q:=by
 have hT:=W.hT;have QC:=h1.tab.ok;have hp:=st.pre;have hf:=W.hf;have Wo:∀{x y},w8 p q x y->GK T1 f x.1:=λi=>(W.gp _ i.mem.1).ext hp;have Wn:∀{x y},w8 p q x y->GK T1 f y.1:=λi=>(W.gq _ i.mem.2).ext hp;have hmul:P.length*(nb (3*f+2)+1)<=342*(nb (3*f+2)+1):=Oo _ hl;have Nv:=st.ns;have υ:S.ns+(1+342*(nb (3*f+2)+1))<=8388000:=W.υ
 refine xk (N:=N) W.A W.A3 W.hm (Ll [_] 1 (.a (.m 3 M2) Rs) SC [(3,M2,On)] rfl hf) hN h1 (st.inv _ W.I) (λk hk=>?_) (by(refine ad st.deep ?_);exact W.hd) (Ll [_,_,_,_] 1 (.a M2 No) Ps [(1,No,.m 342 (.a NE On)),(1,M2,.a Op On),(1,.a Op (.a On (.m 342 (.a NE On))),Ps)] rfl hmul Nv.2 υ) λa Lu z1=>cS z1 λT2 S2 h2 Mv ha hg=>H a Lu ⟨T2,S2,h2,(st.trans Mv).mono (M9 hmul 1),ha.trans (Iff.trans ⟨λh x y i=>?_,λh k hk=>?_⟩ (w9 W.op W.oq fit).symm),λe1 e2 e3 e4=>?_⟩
 ·refine aL (hP.sound k hk) λx y h1 h2 h3=>?_;exact⟨f,.inr (.inr ⟨Lv _,h2.k,h3.k⟩)⟩
 ·refine a6 (hP.cover x y i) λk hk r1 r2=>?_;exact(xn hT hp (Ll [_] 1 M2 Tm [(1,M2,On)] rfl hf) (W.gp _ i.mem.1) (W.gq _ i.mem.2)).mp ((B3 QC (Wo i) (Wn i) r1 r2).mp ((cr.abp W.m3).mp (h k hk)))
 ·refine aL (hP.sound k hk) λx y i r1 r2=>?_;exact(cr.abp W.m3).mpr ((B3 QC (Wo i) (Wn i) r1 r2).mpr ((xn hT hp (Ll [_] 1 M2 Tm [(1,M2,On)] rfl hf) (W.gp _ i.mem.1) (W.gq _ i.mem.2)).mpr (h x y i)))
 ·have g1:=hn0 e1 e2;have g2:=hg e1 e2 e3 e4;have M':=Mv.ns
  have key:∀{x y k1 k2},w8 p q x y->jy T1 f x.1 x.2 k1->jy T1 f y.1 y.2 k2->(k1=k2↔cg T ou x y/\cg T ou y x):=λi r1 r2=>
   (Ic QC (Wo i) (Wn i) r1 r2).trans (and_congr (xm hT hp (W.gp _ i.mem.1) (W.gq _ i.mem.2)) (xm hT hp (W.gq _ i.mem.2) (W.gp _ i.mem.1)))
  have c2:(∀k∈P,k.1=k.2)↔IL T p q:=⟨λh x y i=>by
   refine a6 (hP.cover x y i) λk hk r1 r2=>?_
   exact(key i r1 r2).mp (h k hk),λh k hk=>by
   refine aL (hP.sound k hk) λx y i r1 r2=>?_
   exact(key i r1 r2).mpr (h x y i)⟩
  rw[c2]at g2;exact⟨λq=>⟨g1.mp (Ms (Ll [_,_,_] 1 M2 No [(1,M2,NE),(1,NE,No)] rfl M'.1 (LU q)) (Ll [_,_] 1 M2 No [(1,M2,No)] rfl Nv.1)),g2.mp (Ms (Ll [_,_,_] 1 M2 No [(1,NE,No),(1,M2,NE)] rfl Nv.1 (LU q)) (Ll [_,_] 1 M2 No [(1,M2,No)] rfl M'.1))⟩,λZ4=>Z4.elim λq1 q2=>(g2.mpr q2).trans (g1.mpr q1)⟩
theorem oA {ss:List IS}{K:Fl->Loc->St->Prop}{ro:Bool}{M:Prop}{t:IE}(h:HS σ b T (aQ R b S Z))(hm:R.m≠3)(hs:S.ns<8388600)(r0:ρ 0=some (.ref R.x))(ht:Tp (n+2) t ρ σ (¬(ro=true\/M)))
  (k:∀S1 LG,HS LG b T (aQ R b S1 Z)->aO R T S T S1 1->FT R S S1 (ro=true\/M)->XS (n+2) ss ρ LG K):XS (n+2) (.cond t [.expr (.π (.loc 0) 9 [.glob (.int 3)])] []::ss) ρ σ K:=by
 refine a9 ht (λq=>expr (bp (aj r0) rfl h.gx rfl (B8 (n:=n) h hs λLG h1=>⟨rfl,nil (k _ LG h1 (aO.note hm) λe1 _=>⟨λe=>?_,λe=>absurd e q⟩)⟩))) λq=>k S σ h (aO.refl.mono (LP _)) λ_ _=>⟨λ_=>NV.mp q,λ_=>rfl⟩;rw[e1]at e;exact absurd e (WK _)
theorem tq {N:Nat}{ro:Bool}(W:EV R T S f m c p q)(hN:c<=N+5)(h:HS σ b T (aQ R b S Z))(sp:eH X p.ι)(sq:eH Y q.ι)
  (H:∀a σ',EW R b Z T S f p q ((ro=true\/Mk p q)/\(ro=true\/IL T p q)) a σ'->Q (.bool a) σ'):XC (N+9) 64 [.ref R.x,X,Y,jV ro] σ Q:=by
 refine ag (JY (n:=N+6) (σ:=σ) sp sq W.op.le W.oq.le W.op W.oq) λw hw Oj=>?_;have m3:R.m≠3:=λe=>W.m3 (W.hm▸e);have υ:S.ns+(1+342*(nb (3*f+2)+1))<=8388000:=W.υ;have ef:Ev (N+8) (.call 59 [.loc 1,.loc 2]) (m7 [.ref R.x,X,Y,jV ro]) σ (.bool w):=aH rfl Oj
 refine ay rfl rfl (bq (cK (Ev.tp (aH rfl (gR (n:=N+7) sq W.oq.le))) (bL (aA (am rfl h.gx gc) rfl))) (λe=>e.elim Bool.noConfusion λe=>m3 (L9.mp e)) (nil
  (bq (Ev.tp (aH rfl (gR (n:=N+7) sp W.op.le))) Bool.noConfusion (nil (a9 (je (ef.tp.iff hw)) (λg=>ret rfl (H false σ ⟨T,S,h,aO.refl.mono (LP _),⟨Bool.noConfusion,λe=>absurd (w7 W.op W.oq e) g⟩,λ_ _ e=>Bool.noConfusion e⟩)) λg=>?_)))))
 refine oA (n:=N+6) (ro:=ro) (M:=Mk p q) h m3 (Ll [_,_] 1 (.a M2 On) (.k 8388600) [(1,.a M2 (.a On (.m 342 (.a No On))),Ps)] rfl υ) rfl (Tp.iff (cF (je (vn rfl)) (bJ (J4 (to sp W.op.le rfl) (to sq W.oq.le rfl)))) not_or.symm) λS1 LG h1 Ox V0=>?_;refine dF (jf (bM (dD rfl (bM (az (ae (am (am rfl h1.gx te) h1.gh J2) rfl) (EU (n:=N+2) ⟨sp,sq,W.op,W.oq,W.gp,W.gq,NV.mp g⟩ h1 W.I.ν λLu T2 P pr po h2 hl hP=>dC (dD rfl (Ck W hN h2 ((Ox.trans (aO.table W.hT h2.tab.ok pr po)).mono (Lv 1)) (NV.mp g) hP hl V0 H))))))))
end
end
noncomputable section
section
variable {σ σ':St}{b:TB}{T T':List TR}{R:RO}{S:RT}{Z:List (Nat×AO)}{n f m c s t e:Nat}{p q:Sq}{Q:V->St->Prop}{ρ:Loc}{e1 e2:IE}{X Y:V}{ro:Bool}
theorem kT {a:Sq}{k:El}(h:k∈a.ι):k.1∈a.all/\k.2<=2:=by
 refine⟨?_,om k h⟩
 have e:a.all=a.ι.map (·.1):=by
  unfold Sq.ι Sq.all
  (refine ad Mj ?_;refine ad Mj ?_;refine ad Mj ?_;refine ad Ml ?_;refine ad Ml ?_;refine ad Ml ?_;refine ad Ml ?_)
  exact(congr (congrArg _ (congr (congrArg _ (congr (congrArg _ (Rj _)) (Rj _))) (Rj _))) (Rj _)).symm
 (refine ad e ?_);exact List.mem_map_of_mem h
theorem Cl {M:Bool->St->Prop}{pp:Prop}{es:List IE}(h:Tp n e1 ρ σ pp)(k1:pp->M true σ)(k2:¬pp->XT n (.ω (e2::es)) ρ σ M):XT n (.ω (e1::e2::es)) ρ σ M:=by
 refine aL h λv b h1 h2 h3=>?_;rcases b with _|_
 ·refine ik (k2 λq=>Bool.noConfusion (h3.mpr q)) λw s c k1 k2 k3=>?_;exact⟨w,s,c,bs h1 (bs h2 k1),k2,k3⟩
 ·exact⟨v,σ,true,bs h1 (bs h2 rfl),h2,k1 (h3.mp rfl)⟩
theorem vv {M:Bool->St->Prop}(h:XT n e1 ρ σ M):XT n (.ω [e1]) ρ σ M:=h
theorem y5 {N:Nat}(A:bg 3 (3*f+2) c)(hm:R.m=3)(hN:c<=N+3)(h:HS σ b T (aQ R b S Z))(I:ju T R (3*f+2) S)(hd:S.deep+(3*f+2)<=50)(υ:S.ns+342*(nb (3*f+2)+1)<=8388000)
  (sp:eH X p.ι) (sq:eH Y q.ι) (op:p.Ok) (oq:q.Ok) (gp:∀e∈p.all,GK T f e) (gq:∀e∈q.all,GK T f e)
  (H:∀a σ',kt R b Z T S (342*(nb (3*f+2)+1)) (p.ι=q.ι) (λ_ _=>True) a σ'->Q (.bool a) σ'):XC (N+4) 62 [.ref R.x,X,Y] σ Q:=by
 have no:∀{σ' T' S' k},HS σ' b T' (aQ R b S' Z)->aO R T S T' S' k->k<=342*(nb (3*f+2)+1)->¬p.ι=q.ι->Q (.bool false) σ':=λh1 st hk ne=>H false _ ⟨_,_,h1,st.mono hk,⟨Bool.noConfusion,λe=>absurd e ne⟩,trivial⟩
 have hmul:∀{i},i<=9->i*(nb (3*f+2)+1)<=342*(nb (3*f+2)+1):=λhi=>Oo _ (Lk hi (by decide))
 refine ay rfl rfl (a9 (lZ (eI sp rfl) (eI sq rfl)) (λg=>ret rfl (no h aO.refl (LP _) λe=>g (by(refine ad e ?_;rfl)))) λg=>?_)
 have hl:p.ι.length=q.ι.length:=L9.mp (NV.mp g);refine gI p.ι.length (λi J' σ'=>J' 0=some (.ref R.x)/\J' 1=some X/\J' 2=some Y/\∃T' S',HS σ' b T' (aQ R b S' Z)/\aO R T S T' S' (i*(nb (3*f+2)+1))/\p.ι.take i=q.ι.take i) (ml sp op.le rfl) dZ ⟨rfl,rfl,rfl,T,S,h,aO.refl.mono (LP _),rfl⟩ ?_ ?_
 ·rintro i J' σ' hi ⟨r0,r1,r2,T',S',h1,st,heq⟩;have Q8:p.ι[i]?=some p.ι[i]:=MU hi;have Q7:q.ι[i]?=some (q.ι[i]'(hl▸hi)):=MU _
  generalize p.ι[i]=k at Q8
  generalize q.ι[i]'(hl▸hi)=k' at Q7
  obtain⟨x,m1⟩:=k;obtain⟨y,m2⟩:=k';have ne:(x,m1)≠(y,m2)->¬p.ι=q.ι:=λg e=>g (Option.some.inj (Q8.symm.trans ((congrArg (·[i]?) e).trans Q7)));have Yb:(i+1)*(nb (3*f+2)+1)<=342*(nb (3*f+2)+1):=hmul (Lk hi op.len);rw[Pd,PZ]at Yb;have Nv:=st.ns;have gx:=GK.ext st.pre (gp _ (kT (MI Q8)).1);have gy:=GK.ext st.pre (gq _ (kT (MI Q7)).1)
  refine jg (Cl (lZ (j:=(m1:Int)) (k:=(m2:Int)) (ai (fW sp Q8 (aj r1) (aj rfl)) rfl rfl) (ai (fW sq Q7 (aj r2) (aj rfl)) rfl rfl)) (λg=>ret rfl (no h1 st (Lk (Me _ _) (by assumption)) (ne λe=>g (by rcases e with _|_;rfl)))) λg=>?_)
  have hmm:m1=m2:=L9.mp (NV.mp g)
  refine vv (l7 (l6 (bp (aj r0) (vs:=[af x,af y]) (ae (ai (fW sp Q8 (aj r1) (aj rfl)) rfl rfl) (ae (ai (fW sq Q7 (aj r2) (aj rfl)) rfl rfl) av)) h1.gx rfl (A (N+3) hN σ' b T' R S' Z x y _ hm h1 (st.inv _ I) ⟨f,.inr (.inr ⟨Lv _,gx,gy⟩)⟩ (by(refine ad st.deep ?_);exact hd) (Ll [_,_,_,_] 1 (.a M2 No) Ps [(1,.a NE (.m 342 (.a No On)),Ps),(1,.a Op (.a No On),.m 342 (.a No On)),(1,M2,.a NE Op)] rfl υ Yb Nv.2) λa Lu z1=>cS z1 λT2 S2 h2 Mv ha _=>⟨a,rfl,?_⟩))))
  induction a with
  |false=>exact ret rfl (no h2 (st.trans Mv) (NN (by assumption)) (ne λe=>by rcases e with _|_;exact Bool.noConfusion (ha.mpr (cr.three.mpr rfl))))
  |true=>
   refine nil (nil ⟨r0,r1,r2,T2,S2,h2,(st.trans Mv).mono ?_,?_⟩)
   ·rw[Pd,PZ];exact Mf _
   ·(refine ad (hU Q8) ?_;refine ad (hU Q7) ?_;refine ad heq ?_;refine ad (cr.three.mp (ha.mp rfl)) ?_;refine ad hmm ?_;rfl)
 ·rintro J' σ' ⟨r0,r1,r2,T',S',h1,st,heq⟩;rw[QH,hl,QH]at heq;exact ret rfl (H true _ ⟨T',S',h1,st.mono (hmul op.len),⟨λ_=>heq,λ_=>rfl⟩,trivial⟩)
noncomputable def iT (e:Nat)(ro:Bool):Sq:=⟨[],[],[e],[],ro⟩
theorem Iv (e:Nat)(ro:Bool):(iT e ro).Ok:=⟨Lv 1,λh=>absurd rfl h,(by decide:1<=9)⟩
theorem tz {m:Nat}:dA (iT e ro).sg m=Mu m (e,false):=(mr (a:=(iT e ro).sg) rfl (LP m)).trans (Mz _)
theorem xo:nh p (iT e ro):=⟨LP _,.inl (Ue _ _)⟩
theorem EX (op:p.Ok):dA p.sg (p.o.length+p.r.length)=p.ι.map λk=>(k.1,decide (k.2=1)):=by
 have er:(Mu (p.o.length+p.r.length-p.o.length) p.r).flatten=p.r:=by
  rw[QI]
  by_cases hr:p.r=[]
  ·(refine ad hr ?_);rfl
  ·refine(P0.mp (EI op hr)).elim λx hx=>?_
   (refine ad hx ?_);rfl
 show sQ p.h++(on (p.o.take _)++sQ (Mu (_-p.o.length) p.r).flatten)++sQ p.t=_;rw[er,Wt (Me _ _),<- Mh];unfold Sq.ι
 (refine ad Mj ?_;refine ad Mj ?_;refine ad Mj ?_;refine ad Ml ?_;refine ad Ml ?_;refine ad Ml ?_;refine ad Ml ?_);rfl
def Rd (T:List TR)(f e:Nat)(k el:El):Prop:=jy T f el.1 (decide (el.2=1)) k.1/\k.2=e
theorem xp {P:List El}(op:p.Ok)(ge:GK T f e)(h:F2 (Rd T f e) P p.ι):Ir T f p (iT e ro) P (w8 p (iT e ro)):=by
 have hL:p.h.length+(p.o.length+p.r.length)+p.t.length=p.ι.length:=by(refine ad eh ?_);exact Ms (Ll [_,_,_,_] 1 (.a (.a M2 (.a No NE)) Op) (.a (.a (.a M2 No) NE) Op) [] rfl) (Ll [_,_,_,_] 1 (.a (.a (.a M2 No) NE) Op) (.a (.a M2 (.a No NE)) Op) [] rfl)
 have Z7:jx p.sg (p.o.length+p.r.length):=(iR op).mpr λhr=>by(refine ad hr ?_);exact Lv _
 refine⟨λk hk=>?_,λx y d=>?_⟩
 ·refine a6 (h.left hk) λel V7 h1 h2=>?_;obtain⟨i,hi⟩:=List.getElem?_of_mem V7
  refine⟨(el.1,decide (el.2=1)),(e,false),⟨_,p.ι.length,i,Z7,?_,.inl rfl,?_,?_,?_⟩,h1,by(refine ad h2 ?_);exact jy.self ge⟩
  ·(refine ad hL ?_);unfold fO;split
   ·exact Lv _
   ·exact Me _ _
  ·(refine ad hL ?_);exact(Nf _).symm
  ·(refine ad (EX op) ?_;refine ad M8 ?_;refine ad hi ?_);rfl
  ·(refine ad tz ?_;refine ad List.getElem?_replicate ?_;refine ad (if_pos (Mt.mp hi).1) ?_;rfl)
 ·refine xu d λm m' i h1 h2 h3 h4 h5 h6=>?_;rw[tz]at h6;refine ad ((TY.mp (MI h6)).2) ?_;obtain⟨x1,fl⟩:=x;refine a6 (j1 op h1 h5) λk x3 x4 x5=>?_
  have hm:(x1,k)∈p.ι:=by rcases x5 with⟨-,g⟩|⟨-,-,⟨-,g⟩|⟨-,g⟩⟩<;>exact MI g
  refine a6 (h.right hm) λk' Qx r1 r2=>?_;rw[vq x4]at r1
  exact⟨k',Qx,r1,by(refine ad r2 ?_);exact jy.self ge⟩
theorem Iw (MT:∀x,p.ι≠[(x,2)]):¬Mk p (iT e ro):=λq=>by
 refine(P0.mp ((LN (f:=λk:El=>k.2)).symm.trans (congrArg Nr q))).elim λq1 hk=>?_;obtain⟨x,mk⟩:=q1;unfold Mk at q;replace q:=hk▸q;rcases q with _|_;exact MT x hk
theorem Ix {N:Nat}(W:EV R T S f m c p (iT e ro))(hN:c<=N+5)(h:HS σ b T (aQ R b S Z))(sp:eH X p.ι)(MT:∀x,p.ι≠[(x,2)])
  (H:∀a σ',EW R b Z T S f p (iT e ro) ((ro=true\/Mk p (iT e ro))/\(ro=true\/IL T p (iT e ro))) a σ'->Q (.bool a) σ'):XC (N+9) 65 [.ref R.x,X,af e,jV ro] σ Q:=by
 have m3:R.m≠3:=λe=>W.m3 (W.hm▸e);have υ:S.ns+(1+342*(nb (3*f+2)+1))<=8388000:=W.υ;have ge:GK T f e:=W.gq e LI;refine ay rfl rfl (oA (n:=N+6) (ro:=ro) (M:=Mk p (iT e ro)) h m3 (Ll [_,_] 1 (.a M2 On) (.k 8388600) [(1,.a M2 (.a On (.m 342 (.a No On))),Ps)] rfl υ) rfl (Tp.iff (je (vn rfl)) ⟨λg k=>k.elim g (Iw MT),λg k=>g (.inl k)⟩) λS1 LG h1 Ox V0=>?_)
 refine cV (am (am rfl h1.gx te) h1.gh J2) (bY (az rfl (wQ (n:=N+6) (ro:=true) h1.tab (Mp (Lk kQ W.I.ν) (by decide)) λLu t2 s2=>bY (dE (iu ?_)))))
 have Mv:=Ox.trans (aO.table W.hT t2.ok (eX T _) (EG W.hT ge.1));have h3:=(h1.table t2 s2).new (.list [])
 generalize b7 T (.arr e true)=T2 at t2 h3 Mv
 refine fu (f:=bB) p.ι (λd J' σ'=>J' 0=some (.ref R.x)/\J' 2=some (af e)/\J' 3=some (jV ro)/\J' 4=some (.ref b.t)/\J' 6=some (.ref Lu.n)/\∃T' P,HS σ' b T' ((Lu.n,.list (P.map bB))::aQ R b S1 Z)/\pre T2 T'/\bz T'<=bz T2/\F2 (Rd T' f e) P d) rfl (u4 sp) ⟨rfl,rfl,rfl,rfl,rfl,T2,[],h3,pre.refl T2,Lv _,trivial⟩ ?_ ?_
 ·rintro d ⟨x,mk⟩ r J' σ' hd ⟨r0,r2,r3,r4,r6,T',P,h4,pr,po,hF⟩
  have sub:∀k∈d++[(x,mk)],k∈p.ι:=λk hk=>by
   (refine ad hd ?_;refine ad (show d++(x,mk)::r=(d++[(x,mk)])++r from by rw[Mh];rfl) ?_);exact MZ _ hk
  have gd:∀k∈d++[(x,mk)],GK T' f k.1:=λk hk=>((W.gp _ (kT (sub k hk)).1).ext Mv.pre).ext pr;have hx:(x,mk)∈d++[(x,mk)]:=MB _ LI;have mk2:mk<=2:=(kT (sub _ hx)).2
  refine expr (AT (aj r6) (h4.get (i:=0) rfl) (AQ (aA (j:=(mk:Int)) (ai rfl rfl rfl) rfl) (by lia) (km (bM (az (ae (aj r4) rfl) (vp (n:=N+3) h4.tab (gd _ hx) (Lk po (Lk Mv.ν W.I.ν)) mk2 λu T5 Nu t5 XO Tu ZG s5=>dC (dD (aj r2) ?_)))))))
  have h5:=h4.table t5 s5;refine⟨_,h5.get (i:=0) rfl,?_,rfl,nil ⟨r0,r2,r3,r4,r6,T5,P++[(u,e)],?_,pr.trans XO,Lk Tu po,F2.snoc ⟨ZG,rfl⟩ (hF.abX λk hk el V7 r=>⟨r.1.ext h4.tab.ok XO (gd _ (MZ _ V7)),r.2⟩)⟩⟩
  ·have:d.length<=9:=Lk (P9 (gN hd)) W.op.len
   rw[LN,hF.len];exact Mp this (LL rfl)
  ·rw[<- fv];exact h5.set (i:=0) rfl (.list (P.map bB++[bB (u,e)]))
 ·rintro J' σ' ⟨r0,r2,r3,r4,r6,T',P,h4,pr,po,hF⟩;have h5:=(h4.set (i:=0) rfl .dead).drop (TP _ _);refine freeze r6 (hJ (h4.get (i:=0) rfl)) (dG (ae (aj r0) (ae rfl (ae (aj r3) av))) (Ck W hN h5 ((Mv.trans (aO.table t2.ok h5.tab.ok pr po)).mono (Lv 1)) xo (xp W.op ((ge.ext Mv.pre).ext pr) hF) ?_ V0 H))
  (refine ad hF.len ?_);exact Lk W.op.len (by decide)
end
end
noncomputable section
section
variable {σ σ':St}{b:TB}{T T':List TR}{R:RO}{S:RT}{Z:List (Nat×AO)}{n f m c s t:Nat}{p q:Sq}{Q:V->St->Prop}
theorem Sq.two (a:Sq):(∃x ro,a=iT x ro)\/(a.row=.tup a.ι a.ro/\∀x,a.ι≠[(x,2)]):=a.abE.imp_left λq6=>ag q6 λx e _=>⟨x,a.ro,e⟩
theorem j3 (a:Sq):cb σ (b3 a.row) (.int 2)=some (jV a.ro):=by
 refine Lr a.two (λUX=>?_) λUW=>?_
 ·refine gf UX λx ro e49=>?_;refine ad e49 ?_
  rfl
 ·refine UW.elim λe _=>?_
  (refine ad e ?_);rfl
theorem K8 (hf:f<=1):c3 f=nb (3*f+2+1):=by
 rcases two hf with rfl|rfl<;>rfl
theorem aaG {T:List TR}(hT:bu T)(hf:f<=1)(gs:GL T (f+1) s)(gt:GL T (f+1) t)(hs:ξ T s p)(ht:ξ T t q):KT T s t↔(p.ro=true->q.ro=true)/\cN (cg T (LT T)) p.sg q.sg:=by
 rw[B2 hT gs gt (Ll [_] 1 (.a M2 On) Sc [(1,M2,On)] rfl hf),vd hT gs (Ll [_] 1 (.a M2 On) Sc [(1,M2,On)] rfl hf)]
 exact⟨λq4=>aL q4 λa c h1 h2 h3=>by(refine ad (da hs h1) ?_;refine ad (da ht h2) ?_);exact h3,λh=>⟨p,q,hs,ht,h⟩⟩
theorem qv {T:List TR}(hs:ξ T s p)(ht:ξ T t q):Lx T s t↔(q.ro=true\/(Mk p q/\IL T p q)):=⟨λq5=>aL q5 λa c h1 h2 h3=>by(refine ad (da hs h1) ?_;refine ad (da ht h2) ?_);exact h3,λh=>⟨p,q,hs,ht,h⟩⟩
theorem Cm {N:Nat}(A:bg m (3*f+2) c)(A3:R.tl=true->R.m=1->bg 3 (3*f+2) c)(hm:R.m=m)(MY:m≠3)(hf:f<=1)(hN:c<=N+5)(h:HS σ b T (aQ R b S Z))(I:ju T R (3*f+2) S)(hd:S.deep+(3*f+2)<=50)(υ:S.ns+nb (3*f+2+1)<=8388000)
  (gs:GL T (f+1) s) (gt:GL T (f+1) t) (O7:R.tl=true->R.m=1->Ik T s t->f=0) (H:∀a σ',kt R b Z T S (nb (3*f+2+1)) (cr T m s t) (xi R T S s t) a σ'->Q (.bool a) σ'):XC (N+10) 66 [.ref R.x,af s,af t] σ Q:=by
 have hT:=h.tab.ok;refine ag (id gs) λp hp gp=>?_;refine ag (id gt) λq hq gq=>?_;rw[<- K8 hf]at υ H;have W:EV R T S f m c p q:=⟨A,A3,hm,MY,hf,hT,I,hd,υ,hp.2,hq.2,gp,gq⟩;have m3:R.m≠3:=λe=>MY (hm▸e);have hA:cr T m s t↔(p.ro=true->q.ro=true)/\cN (cg T (LT T)) p.sg q.sg:=(cr.abp MY).trans (aaG hT hf gs gt hp hq);have Yj:=qv hp hq;have OV:∀{A B C:Prop},((A\/B)/\(A\/C)↔A\/(B/\C)):=or_and_left.symm;refine ay rfl rfl (cV (mE h rfl rfl hp.1) (cV (mE h rfl rfl hq.1) (a9 (cF (vn (ai rfl rfl (j3 p))) (bJ (je (vn (ai rfl rfl (j3 q)))))) (λg=>?_) λg=>?_)))
 ·exact ret rfl (H false σ ⟨T,S,h,aO.refl.mono (LP _),⟨Bool.noConfusion,λe=>absurd ((hA.mp e).1 g.1) g.2⟩,λ_ _ e=>Bool.noConfusion e⟩)
 have Oz:p.ro=true->q.ro=true:=λe=>O9 λk=>g ⟨e,k⟩
 have fin:∀N1,(N1↔(q.ro=true\/(Mk p q/\IL T p q)))->∀a σ',EW R b Z T S f p q N1 a σ'->Q (.bool a) σ':=λN1 hN1 a σ' z1=>cS z1 λT' S' h' st ha hg=>H a σ' ⟨T',S',h',st,ha.trans ⟨λk=>hA.mpr ⟨Oz,k⟩,λk=>(hA.mp k).2⟩,λe1 e2 e3 e4=>(hg e1 e2 e3 (by(refine ad (O7 e1 e2 e4) ?_);rfl)).trans (hN1.trans Yj.symm)⟩
 clear H Yj hA gs gt υ O7;refine bq (cY (q:=False) (aA (am rfl h.gx gc) rfl) λe=>absurd (L9.mp e) m3) (λe=>e.2) (nil ?_);refine Lr p.two (λo1=>?_) λo2=>?_
 ·obtain⟨x,ro,rfl⟩:=o1;rcases q.two with⟨y,Oy,rfl⟩|⟨eq,VZ⟩
  ·have gx:GK T f x:=gp x LI;have gy:GK T f y:=gq y LI
   exact dH (cF (aA (j:=11) (ai rfl rfl rfl) rfl) (bJ (aA (j:=11) (ai rfl rfl rfl) rfl))) ⟨rfl,rfl⟩ (dG (vs:=[.ref R.x,.lst [bB (x,y)],jV Oy]) (ae rfl (ae (AN (ae (eD (ae (ai rfl rfl rfl) (ae (ai rfl rfl rfl) av))) av)) (ae (ai rfl rfl rfl) av))) (Ck (N:=N+1) (P:=[(x,y)]) (N0:=True) W (Ru (by assumption)) h (aO.refl.mono (LP 1)) xo (xp (Iv _ _) gy ⟨⟨jy.self gx,rfl⟩,trivial⟩) (LL rfl) (λ_ _=>⟨λ_=>trivial,λ_=>rfl⟩) (fin _ ⟨λk=>k.2.imp_right λk=>⟨rfl,k⟩,λk=>⟨trivial,k.imp_right λk=>k.2⟩⟩)))
  ·refine ad eq ?_
   exact bq (cF (aA (j:=11) (ai rfl rfl rfl) rfl) (bJ (aA (j:=12) (ai rfl rfl rfl) rfl))) (λe=>absurd e.2 (by decide)) (nil (bq (aA (j:=12) (ai rfl rfl rfl) rfl) (by decide) (nil (dH (aA (j:=11) (ai rfl rfl rfl) rfl) rfl
    (dG (vs:=[.ref R.x,.tup [bB (x,2)],.tup (q.ι.map bB),jV q.ro]) (ae rfl (ae (eD (ae (eD (ae (ai rfl rfl rfl) (ae rfl av))) av)) (ae (ai rfl rfl rfl) (ae (ai rfl rfl rfl) av)))) (tq W hN h (.inr rfl) (.inr rfl) (fin _ OV)))))))
 ·obtain⟨ep,MT⟩:=o2;rcases q.two with⟨y,Oy,rfl⟩|⟨eq,VZ⟩
  ·refine ad ep ?_
   exact bq (cY (q:=False) (aA (j:=12) (ai rfl rfl rfl) rfl) λe=>absurd e (by decide)) (λe=>e.2) (nil (dH (aA (j:=11) (ai rfl rfl rfl) rfl) rfl
    (dG (vs:=[.ref R.x,.tup (p.ι.map bB),af y,jV Oy]) (ae rfl (ae (ai rfl rfl rfl) (ae (ai rfl rfl rfl) (ae (ai rfl rfl rfl) av)))) (Ix W hN h (.inr rfl) MT (fin _ OV)))))
  ·(refine ad ep ?_;refine ad eq ?_)
   exact bq (cY (q:=False) (aA (j:=12) (ai rfl rfl rfl) rfl) λe=>absurd e (by decide)) (λe=>e.2) (nil (bq (aA (j:=12) (ai rfl rfl rfl) rfl) (by decide) (nil (bq (aA (j:=12) (ai rfl rfl rfl) rfl) (by decide) (nil
    (dG (vs:=[.ref R.x,.tup (p.ι.map bB),.tup (q.ι.map bB),jV q.ro]) (ae rfl (ae (ai rfl rfl rfl) (ae (ai rfl rfl rfl) (ae (ai rfl rfl rfl) av)))) (tq W hN h (.inr rfl) (.inr rfl) (fin _ OV))))))))
end
end
noncomputable section
section
variable {σ σ':St}{b:TB}{T T':List TR}{R:RO}{S:RT}{Z:List (Nat×AO)}{n f m c s t:Nat}{p q:Sq}{Q:V->St->Prop}
theorem Cn (a:Sq):cb σ (b3 a.row) (.int 0)=some (.int (hd a.row)):=by
 refine Lr a.two (λRX=>?_) λRW=>?_
 ·refine gf RX λx ro Xv=>?_;refine ad Xv ?_
  rfl
 ·refine RW.elim λe _=>?_
  (refine ad e ?_);rfl
theorem Co {a b:Bool}:((if a=true then(1:Int)else 0)≠if b=true then 1 else 0)↔a≠b:=by rcases a with _|_<;>rcases b with _|_<;>decide
theorem Cp (h0:¬hd p.row≠hd q.row)(h2:¬p.ro≠q.ro):(∃x y ro,p=iT x ro/\q=iT y ro)\/(p.row=.tup p.ι p.ro/\q.row=.tup q.ι q.ro):=by
 have h0:=NV.mp h0;have h2:=NV.mp h2
 rcases p.two with⟨x,ro,rfl⟩|⟨ep,-⟩<;>rcases q.two with⟨y,Oy,rfl⟩|⟨eq,-⟩
 ·exact .inl ⟨x,y,ro,rfl,by(refine ad (show ro=Oy from h2) ?_;rfl)⟩
 ·replace h0:=eq▸h0;exact absurd h0 (show ¬(11:Int)=12 by decide)
 ·replace h0:=ep▸h0;exact absurd h0 (show ¬(12:Int)=11 by decide)
 ·exact .inr ⟨ep,eq⟩
theorem FU {N:Nat}(A:bg 3 (3*f+2) c)(hm:R.m=3)(hf:f<=1)(hN:c<=N+5)(h:HS σ b T (aQ R b S Z))(I:ju T R (3*f+2) S)(hd:S.deep+(3*f+2)<=50)(υ:S.ns+nb (3*f+2+1)<=8388000)
  (gs:GL T (f+1) s) (gt:GL T (f+1) t) (H:∀a σ',kt R b Z T S (nb (3*f+2+1)) (cr T 3 s t) (xi R T S s t) a σ'->Q (.bool a) σ'):XC (N+10) 66 [.ref R.x,af s,af t] σ Q:=by
 have hT:=h.tab.ok;refine ag (id gs) λp hp gp=>?_;refine ag (id gt) λq hq gq=>?_;rw[<- K8 hf]at υ H;have Si:S.ns+(1+342*(nb (3*f+2)+1))<=8388000:=υ
 have hA:cr T 3 s t↔p.row=q.row:=cr.three.trans ⟨λe=>by subst e;exact Option.some.inj (hp.1.symm.trans hq.1),λe=>bR hT hp.1 (e▸hq.1)⟩
 have fin:∀{k a σ'} {A:Prop} {G:RT->Bool->Prop},k<=c3 f->(A↔p.row=q.row)->kt R b Z T S k A G a σ'->Q (.bool a) σ':=λhk hA2 z1=>cS z1 λT' S' h' st ha _=>H _ _ ⟨T',S',h',st.mono hk,ha.trans (hA2.trans hA.symm),λ_ e=>absurd (hm.symm.trans e) (by decide)⟩
 have no:p.row≠q.row->Q (.bool false) σ:=λk=>fin (G:=λ_ _=>True) (LP _) NW ⟨T,S,h,aO.refl,⟨Bool.noConfusion,λe=>absurd e k⟩,trivial⟩;clear H;have XK:p.row=q.row->p.ro=q.ro:=λe=>congrArg Sq.ro (qg hp.2 hq.2 e);refine ay rfl rfl (cV (mE h rfl rfl hp.1) (cV (mE h rfl rfl hq.1) (a9 (cF (vn (ai rfl rfl (j3 p))) (bJ (je (vn (ai rfl rfl (j3 q)))))) (λg=>ret rfl (no λe=>g.2 (XK e▸g.1))) λ_=>?_)));refine a9 (cF (aA (am rfl h.gx gc) rfl) (bJ (cK (lZ (ai rfl rfl (Cn p)) (ai rfl rfl (Cn q))) (bL (lZ (ai rfl rfl (j3 p)) (ai rfl rfl (j3 q))))))) (λg=>ret rfl (no λe=>g.2.elim (λk=>k (congrArg Mine.Internal.hd e)) λk=>Co.mp k (XK e))) λg=>?_;have g:=not_or.mp λk=>g ⟨congrArg Mi hm,k⟩;refine Lr (Cp g.1 λk=>g.2 (Co.mpr k)) (λo3=>?_) λo4=>?_
 ·refine fh o3 λx y ro e5 e6=>?_;subst e5;subst e6;have gx:GK T f x:=gp x LI;have gy:GK T f y:=gq y LI
  have hk:1*(nb (3*f+2)+1)<=342*(nb (3*f+2)+1):=Oo _ (by decide)
  exact dH (cF (aA (j:=11) (ai rfl rfl rfl) rfl) (bJ (aA (j:=11) (ai rfl rfl rfl) rfl))) ⟨rfl,rfl⟩ (dG (vs:=[.ref R.x,.lst [bB (x,y)],jV ro]) (ae rfl (ae (AN (ae (eD (ae (ai rfl rfl rfl) (ae (ai rfl rfl rfl) av))) av)) (ae (ai rfl rfl rfl) av))) (xk (N:=N+1) (P:=[(x,y)]) A (λ_ e=>absurd (hm.symm.trans e) (by decide)) hm (Ll [_,_] 15 (.a (.m 3 M2) Rs) SC [(42,M2,On),(1,.a No (.a (.m 3 M2) Rs),Uf)] rfl hf hd) (Ru (by assumption)) h I (cv ⟨f,.inr (.inr ⟨Lv _,gx,gy⟩)⟩) hd (by show S.ns+1*_<=_;exact Ll [_,_,_] 342 (.a M2 (.m 1 (.a No On))) Ps [(341,.a M2 NE,Ps),(1,.a M2 (.a On (.m 342 (.a No On))),Ps)] rfl υ Si)
   λa σ'=>fin (Lk hk (MF _ 1)) ⟨λk=>by(refine ad (show x=y from cr.three.mp (k (x,y) LI)) ?_;rfl),λk=>cv (cr.three.mpr (TR.arr.inj k).1)⟩))
 ·refine o4.elim λep eq=>?_
  (refine ad ep ?_;refine ad eq ?_)
  refine bq (cY (q:=False) (aA (j:=12) (ai rfl rfl rfl) rfl) λe=>absurd e (by decide)) (λe=>e.2) (nil (bq (aA (j:=12) (ai rfl rfl rfl) rfl) (by decide) (nil (bq (aA (j:=12) (ai rfl rfl rfl) rfl) (by decide) (nil
    (dG (vs:=[.ref R.x,.tup (p.ι.map bB),.tup (q.ι.map bB),jV q.ro]) (ae rfl (ae (ai rfl rfl rfl) (ae (ai rfl rfl rfl) (ae (ai rfl rfl rfl) av)))) ?_))))))
  refine ay rfl rfl (dH (cK (Ev.tp (aH rfl (gR (n:=N+7) (.inr rfl) hq.2.le))) (bL (aA (am rfl h.gx gc) rfl))) (.inr (congrArg Mi hm)) (dG rfl (y5 (N:=N+4) A hm (Ll [_,_] 1 M2 (.a (.a No Sc) (.k 3)) [(1,M2,.a No Tm)] rfl hN) h I hd (Ll [_,_] 1 (.a M2 (.m 342 (.a No On))) Ps [(1,.a M2 (.a On (.m 342 (.a No On))),Ps)] rfl Si) (.inr rfl) (.inr rfl) hp.2 hq.2 gp gq λa σ'=>fin (MF _ 1) ⟨λe=>?_,λe=>?_⟩)))
  ·(refine ad ep ?_;refine ad eq ?_;refine ad e ?_;refine ad (NV.mp λk=>g.2 (Co.mpr k)) ?_;rfl)
  ·(refine ad (qg hp.2 hq.2 e) ?_;rfl)
theorem Cq (h:HS σ b T (aQ R b S Z))(hk:XC n 66 [.ref R.x,af s,af t] σ Q):XC (n+2) 33 [.ref R.x,.int 4,af s,af t] σ Q:=ay rfl rfl (cV (Ft (am rfl h.gx EJ) rfl h.gu rfl rfl rfl) (dF (AS (Fs rfl) (bp rfl rfl h.gl rfl (ay rfl rfl (dG rfl hk))))))
theorem tA {k:Int}(hk:k≠4)(h:HS σ b T (aQ R b S Z)):aI prog (n+1) 33 [.ref R.x,.int k,af s,af t] σ=some (.bool false,σ):=by
 have dg:(cB [(V.int 4,V.ref R.l)] (.int k)).getD .none=.none:=by
  unfold cB
  (refine ad (List.find?_cons_of_neg (by rw[decide_eq_true_iff];exact λe=>hk (V.int.inj e).symm)) ?_);rfl
 exact XC.eq (ay rfl rfl (cV (Ft (am rfl h.gx EJ) rfl h.gu rfl rfl dg) (ret (uQ (Fr rfl)) ⟨rfl,rfl⟩)))
end
end
noncomputable section
section
variable {σ σ':St}{b:TB}{T T':List TR}{R:RO}{S:RT}{Z:List (Nat×AO)}{n f m c s t i:Nat}{Q:V->St->Prop}
theorem Iy {tr0 ks:List El}{ns0:Nat}(h:HS σ b T (aQ R b S Z))(ht:S.trail=tr0++ks)(hn:S.trail.Nodup)(hs:ns0<=S.ns)(H:∀σ',HS σ' b T (aQ R b {S with trail:=tr0,ns:=ns0} Z)->Q .none σ'):XC (n+2) 32 [.ref R.x,.tup [af ns0,af tr0.length]] σ Q:=ay rfl rfl (expr (az rfl (FO (n:=n) h ht hn hs λσ' h=>⟨rfl,nil (H σ' h)⟩)))
theorem aO.zero {T1:List TR}{S1:RT}{c:Nat}(a:aO R T S T1 S1 c)(h:S1.ns=S.ns):aO R T S T1 S1 0:=⟨a.pre,a.ν,a.deep,a.inv,a.nil,a.ext,⟨a.ns.1,LU h⟩,a.sil,a.tw⟩
structure J5 (R:RO)(b:TB)(Z:List (Nat×AO))(T:List TR)(S:RT)(m s:Nat)(ps p:List Nat)(J':Loc)(σ':St)(v:Int)(T':List TR)(S':RT):Prop where
 r0:J' 0=some (.ref R.x)
 r1:J' 1=some (af s)
 r3:J' 3=some (.int v)
 hs:HS σ' b T' (aQ R b S' Z)
 st:aO R T S T' S' 0
 an:(v=-1/\∀q∈p,¬cr T m s q)\/∃q:Nat,q∈ps/\v=q/\cr T m s q
theorem Cr {N:Nat}{ps:List Nat}(A:bg m i c)(hm:R.m=m)(hN:c<=N+4)(h:HS σ b T (aQ R b S Z))(I:ju T R i S)(C:∀q∈ps,CC T i s q)(hi:i<=8)(hd:S.deep+i<=50)(υ:S.ns+nb i<=8388000)
  (H:∀a σ',kt R b Z T S (nb i) (∃q∈ps,cr T m s q) (λ_ _=>True) a σ'->Q (.bool a) σ'):XC (N+5) 52 [.ref R.x,af s,.tup (ps.map af)] σ Q:=by
 have hT:=h.tab.ok
 have ask:∀{T' S' σ' q} {Q':V->St->Prop},q∈ps->HS σ' b T' (aQ R b S' Z)->aO R T S T' S' 0->(∀a Lu T2 S2,HS Lu b T2 (aQ R b S2 Z)->aO R T' S' T2 S2 (nb i)->(a=true↔cr T m s q)->(a=false->S2.ns=S'.ns)->Q' (.bool a) Lu)->XC (N+4) 28 [.ref R.x,af s,af q] σ' Q':=fun {T' S' σ' q Q'} hq h1 st k=>
  A (N+4) hN σ' b T' R S' Z s q _ hm h1 (st.inv i I) ((C q hq).ext st.pre) (by(refine ad st.deep ?_);exact hd) (Lk (Qc st.ns.2 _) υ) λa Lu Uw=>cS Uw λT2 S2 h2 Mv ha hg=>k a Lu T2 S2 h2 Mv (ha.trans (cr.ext hT st.pre ((C q hq).mono hi))) λe=>(hg.1 e).2
 refine ay rfl rfl (cV (v:= .int (-1)) rfl (fu (f:=af) ps (λp J' σ'=>∃v T' S',J5 R b Z T S m s ps p J' σ' v T' S') rfl rfl ⟨-1,T,S,rfl,rfl,rfl,h,aO.refl,.inl ⟨rfl,cw⟩⟩ ?_ ?_))
 ·rintro p q r J' σ' e ⟨x,T',S',i1⟩;have hq:q∈ps:=e▸MB p LI;refine bY (bp (aj i1.r0) rfl i1.hs.gx rfl ⟨_,_,B7 (n:=N+3) i1.hs,jg (l6 (bp (aj i1.r0) (ae (aj i1.r1) rfl) i1.hs.gx rfl (ask hq i1.hs i1.st λa Lu T2 S2 h2 Mv ha h0=>⟨a,rfl,?_⟩)))⟩);have M7:=i1.st.trans Mv
  induction a with
  |false=>
   refine nil (nil ⟨x,T2,S2,i1.r0,i1.r1,i1.r3,h2,M7.zero ((h0 rfl).trans (Ms i1.st.ns.2 i1.st.ns.1)),i1.an.imp_left λg=>⟨g.1,Mr.mpr ⟨g.2,cv λk=>Bool.noConfusion (ha.mpr k)⟩⟩⟩)
  |true=>
   have yes:=ha.mp rfl;have Ts:=i1.st.trans (Mv.cut i1.hs.tab.ok h2.tab.ok);obtain⟨ks,hks⟩:=Mv.ext
   refine a9 (aA (cU (ae (am (am (aj i1.r0) h2.gx yW) h2.gn IK) av) (fL h2.gw)) (ai (aj rfl) rfl rfl)) (λg=>ret rfl (H true Lu ⟨T2,S2,h2,M7.mono (LU (Nf _)),⟨λ_=>⟨q,hq,yes⟩,λ_=>rfl⟩,trivial⟩)) λg=>
    expr (bp (aj i1.r0) rfl h2.gx rfl (Iy (n:=N+2) h2 hks (Mv.inv i (i1.st.inv i I)).tr.nd Mv.ns.1 λLY h3=>⟨rfl,a9 (ip (aj i1.r3) rfl) (λg=>?_) λg=>?_⟩))
   ·exact cV (aj rfl) (nil (nil (nil ⟨(q:Int),T2,_,i1.r0,i1.r1,rfl,h3,Ts,.inr ⟨q,hq,rfl,yes⟩⟩)))
   ·exact nil (nil ⟨x,T2,_,i1.r0,i1.r1,i1.r3,h3,Ts,i1.an.imp_left λk=>by rw[k.1]at g;exact absurd (by decide) g⟩)
 ·rintro J' σ' ⟨x,T',S',i1⟩;refine Lr i1.an (λo3=>?_) λo4=>?_
  ·obtain⟨rfl,hx⟩:=o3;exact ret (uQ (cu (aj i1.r3) rfl rfl)) (H false σ' ⟨T',S',i1.hs,i1.st.mono (LP _),⟨Bool.noConfusion,λq6=>ag q6 λq hq k=>absurd k (hx q hq)⟩,trivial⟩)
  ·obtain⟨q,hq,rfl,yes⟩:=o4;exact dF (AS (cu (aj i1.r3) rfl (congrArg some (decide_eq_true (Nq q)))) (bp (aj i1.r0) (ae (aj i1.r1) (ae (aj i1.r3) av)) i1.hs.gx rfl (ask hq i1.hs i1.st λa Lu T2 S2 h2 Mv ha _=>H a Lu ⟨T2,S2,h2,(i1.st.trans Mv).mono (LU (Nf _)),⟨λ_=>⟨q,hq,yes⟩,λ_=>ha.mpr yes⟩,trivial⟩)))
theorem Cs {N:Nat}{ss ts:List Nat}(A:bg 3 i c)(hm:R.m=3)(hN:c<=N+4)(h:HS σ b T (aQ R b S Z))(I:ju T R i S)(C:∀p∈ss,∀q∈ts,CC T i p q)(hi:i<=8)(hd:S.deep+i<=50)(υ:S.ns+nb i<=8388000)
  (H:∀a σ',kt R b Z T S 0 (∀p∈ss,p∈ts) (λ_ _=>True) a σ'->Q (.bool a) σ'):XC (N+6) 55 [.ref R.x,.tup (ss.map af),.tup (ts.map af)] σ Q:=by
 refine ay rfl rfl (fu (f:=af) ss (λp J' σ'=>J' 0=some (.ref R.x)/\J' 2=some (.tup (ts.map af))/\∃T' S',HS σ' b T' (aQ R b S' Z)/\aO R T S T' S' 0/\∀x∈p,x∈ts) rfl rfl ⟨rfl,rfl,T,S,h,aO.refl,cw⟩ ?_ λJ' σ' ⟨r0,r2,T',S',h1,st,hx⟩=>ret rfl (H true σ' ⟨T',S',h1,st,⟨λ_=>hx,λ_=>rfl⟩,trivial⟩));rintro p x r J' σ' e ⟨r0,r2,T',S',h1,st,hx⟩;have hp:x∈ss:=e▸MB p LI
 refine jg (l7 (l6 (az (ae (aj r0) (ae (aj rfl) (ae (aj r2) av))) (Cr (N:=N) A hm hN h1 (st.inv i I) (λq hq=>(C x hp q hq).ext st.pre) hi (by(refine ad st.deep ?_);exact hd) (Lk (Qc st.ns.2 _) υ) λa Lu Uv=>cS Uv λT2 S2 h2 Mv ha _=>⟨a,rfl,?_⟩))))
 have M7:aO R T S T2 S2 0:=(st.trans Mv).zero ((Mv.sil (.inr hm)).trans (Ms st.ns.2 st.ns.1))
 have Nx:a=true↔x∈ts:=ha.trans ⟨λq8=>ag q8 λq hq k=>by(refine ad (cr.three.mp k) ?_);exact hq,λk=>⟨x,k,cr.refl⟩⟩
 induction a with
 |false=>exact ret rfl (H false Lu ⟨T2,S2,h2,M7,⟨Bool.noConfusion,λk=>Nx.mpr (k x hp)⟩,trivial⟩)
 |true=>exact nil (nil ⟨r0,r2,T2,S2,h2,M7,Mr.mpr ⟨hx,cv (Nx.mp rfl)⟩⟩)
theorem GK.abW {T:List TR}(hT:bu T){f e:Nat}(h:GK T f e):(parts T e).length<=63:=by
 have hf:=h.few hT
 have hn:(parts T e).Nodup:=by
  refine Lr (dW (T:=T) h.1.ne2) (λRY=>?_) λh1=>?_
  ·refine ag RY λps h1 h2=>?_;refine ad h2 ?_;exact((h.1.ο ps h1).2).imp λMy=>MC My
  ·(refine ad h1 ?_);exact SP _ _
 exact Lk (fC (B:=bd (parts T e++[4])) hn λp hp=>bN.mpr (MZ _ hp)) (Rl hf)
theorem Iz {N:Nat}(A:bg m (3*f+1) c)(hm:R.m=m)(Nw:m≠2)(MY:m≠3)(hf:f<=1)(hN:c<=N+4)(h:HS σ b T (aQ R b S Z))(I:ju T R (3*f+1) S)(gs:GK T f s)(gt:GK T f t)(hd:S.deep+(3*f+1)<=50)(υ:S.ns+nb (3*f+1+1)<=8388000)
  (H:∀a σ',kt R b Z T S (nb (3*f+1+1)) (KT T s t) (λ_ _=>True) a σ'->Q (.bool a) σ'):XC (N+5) 51 [.ref R.x,af s,af t] σ Q:=by
 have hT:=h.tab.ok
 have e63:63*nb (3*f+1)=nb (3*f+1+1):=by
  rcases two hf with rfl|rfl<;>rfl
 rw[<- e63]at υ H;have m2:R.m≠2:=λe=>Nw (hm▸e);refine ay rfl rfl (fu (f:=af) (parts T s) (λp J' σ'=>J' 0=some (.ref R.x)/\J' 2=some (af t)/\∃T' S',HS σ' b T' (aQ R b S' Z)/\aO R T S T' S' (p.length*nb (3*f+1))/\∀x∈p,KT T x t) (aH (ae (xh h rfl) rfl) (kM (n:=N+3) h.tab gs.1.good.1)) rfl ⟨rfl,rfl,T,S,h,aO.refl.mono (LP _),cw⟩ ?_ λJ' σ' ⟨r0,r2,T',S',h1,st,hx⟩=>ret (cu (am (aj r0) h1.gx gc) rfl (congrArg some (decide_eq_true (dL m2)))) (H true σ' ⟨T',S',h1,st.mono (Oo _ (gs.abW hT)),⟨λ_=>(sZ hT gs.2).mpr hx,λ_=>rfl⟩,trivial⟩));rintro p x r J' σ' e ⟨r0,r2,T',S',h1,st,hx⟩;have hp:x∈parts T s:=e▸MB p LI;have hmul:(p.length+1)*nb (3*f+1)<=63*nb (3*f+1):=Oo _ (Lk (gN e) (gs.abW hT));rw[Pd,PZ]at hmul;have Nv:=st.ns;have hC:CC T (3*f+1) x t:=⟨f,.inr (.inl ⟨Lv _,gs.part hp,gt⟩)⟩
 refine jg (l6 (bp (aj r0) (ae (aj rfl) (ae (aj r2) av)) h1.gx rfl (A (N+4) hN σ' b T' R S' Z x t _ hm h1 (st.inv _ I) (hC.ext st.pre) (by(refine ad st.deep ?_);exact hd) (Ll [_,_,_,_] 1 (.a M2 No) Ps [(1,.a NE (.m 63 No),Ps),(1,.a Op No,.m 63 No),(1,M2,.a NE Op)] rfl υ hmul Nv.2) λa Lu Zm=>cS Zm λT2 S2 h2 Mv ha _=>⟨a,rfl,?_⟩)))
 have Nx:a=true↔KT T x t:=ha.trans ((cr.ext hT st.pre (hC.mono (Ll [_,_] 23 (.a (.m 3 M2) On) SC [(63,M2,On),(2,.a No (.a (.m 3 M2) On),Uf)] rfl hf hd))).trans (cr.abp MY))
 induction a with
 |false=>exact dH (lZ (am (aj r0) h2.gx gc) rfl) (dL m2) (ret rfl (H false Lu ⟨T2,S2,h2,(st.trans Mv).mono hmul,⟨Bool.noConfusion,λk=>Nx.mpr ((sZ hT gs.2).mp k x hp)⟩,trivial⟩))
 |true=>
  refine bq (aA (am (aj r0) h2.gx gc) rfl) (dL m2) (nil (nil (nil ⟨r0,r2,T2,S2,h2,(st.trans Mv).mono (LU ?_),Mr.mpr ⟨hx,cv (Nx.mp rfl)⟩⟩)));rw[LH,Pd];exact congrArg _ (PZ _).symm
end
end
noncomputable section
section
variable {σ σ':St}{b:TB}{T T':List TR}{R:RO}{S:RT}{Z:List (Nat×AO)}{n f m c s t i:Nat}{Q:V->St->Prop}
theorem mid:∀i∈fQ++iS,i∉nq/\i≠7/\i∉([8,9]:List Int)/\i≠6/\i≠13/\(i∈fQ↔i∉iS):=by decide
theorem mI {x:TR}(h:aD T s)(hx:T[s]?=some x):Mine.Internal.hd x∈fQ:=by
 refine ag h λa ha h2=>?_;replace h2:=hx▸h2;refine cX h2 ?_;exact(xg ha).1
theorem GL.lst {x:TR}(g:GL T f s)(hx:T[s]?=some x):Mine.Internal.hd x∈iS:=by
 refine g.ξ.elim λa hl=>?_
 have:=hl.1
 replace this:=hx▸this;refine cX this ?_
 refine Lr (Cb a) (λe=>?_) λe=>?_<;>(refine ad e ?_)<;>decide
theorem gQ.hd {x:TR}(g:gQ T f s)(hx:T[s]?=some x):(aD T s/\Mine.Internal.hd x∈fQ)\/(GL T f s/\Mine.Internal.hd x∈iS):=by
 exact g.imp (λg=>⟨g,mI g hx⟩) λg=>⟨g,g.lst hx⟩
theorem gQ.mid {x:TR}(g:gQ T f s)(hx:T[s]?=some x):Mine.Internal.hd x∈fQ++iS:=M0.mpr ((g.hd hx).imp P6 P6)
theorem gQ.abx {x:TR}(g:gQ T f s)(hx:T[s]?=some x):Mine.Internal.hd x≠6:=(Mine.Internal.mid _ (g.mid hx)).2.2.2.1
theorem IA {e:IE}{ρ:Loc}{v:V}(h:Ev n e ρ σ v):Ev n (.τ [e]) ρ σ v:=h
theorem j4 {i k:Int}(hi:i∈fQ++iS)(hk:k∈fQ++iS):aI prog (n+1) 50 [.int i,.int k] σ=some (.int (if i∈iS/\k∈iS then 4 else 5),σ):=by
 refine Ko (mid i hi) λa1 a2 _ _ a3 _=>?_;refine Ko (mid k hk) λc1 c2 _ _ c3 _=>?_
 exact XC.eq (ay rfl rfl (bq (cK (aA rfl rfl) (bL (aA rfl rfl))) (λq=>q.elim a2 c2) (nil (bq (cK (jt (l:=nq) rfl) (bL (jt (l:=nq) rfl))) (λq=>q.elim a1 c1) (nil (bq (cF (aA rfl rfl) (bJ (aA rfl rfl))) (λq=>a3 q.1) (nil (a9 (cF (jt (l:=iS) rfl) (bJ (jt (l:=iS) rfl))) (λq=>ret rfl ⟨by(refine ad (if_pos q) ?_;rfl),rfl⟩) λq=>ret rfl ⟨by(refine ad (if_neg q) ?_;rfl),rfl⟩))))))))
theorem kt.tg {c:Nat}{P P':Prop}{G G':RT->Bool->Prop}{a:Bool}(h:kt R b Z T S c P G a σ')(e:P↔P')(g:∀S' a,G S' a->G' S' a):kt R b Z T S c P' G' a σ':=by
 refine cS h λT' S' h2 h3 h4 h5=>?_;exact⟨T',S',h2,h3,h4.trans e,g _ _ h5⟩
theorem KW {N:Nat}{x:TR}(A:bg m (3*f) c)(hm:R.m=m)(MY:m≠3)(hf:f<=1)(hN:c<=N+4)(h:HS σ b T (aQ R b S Z))(I:ju T R (3*f) S)(gs:gQ T f s)(gt:GK T f t)(hx:T[s]?=some x)(Nb:S.deep+3*f<=50)(υ:S.ns+nb (3*f+1)<=8388000)
  (H:∀a σ',kt R b Z T S (nb (3*f+1)) (KT T s t) (λ_ _=>True) a σ'->Q (.bool a) σ'):XC (N+6) 53 [.ref R.x,af s,af t] σ Q:=by
 have hT:=h.tab.ok
 have enb:nb (3*f)=nb (3*f+1):=by
  rcases two hf with rfl|rfl<;>rfl
 rw[<- enb]at υ H;have QD:=EH hT gs gt.2;refine ay rfl rfl (cV (xh h rfl) (cV (aH rfl (kM (n:=N+4) h.tab gt.1.good.1)) (jg (Cl (gD rfl rfl Cc decide_eq_true_iff) (λNS=>ret rfl (H true σ ⟨T,S,h,aO.refl.mono (LP _),⟨λ_=>QD.mpr ⟨s,NS,KT.refl⟩,λ_=>rfl⟩,trivial⟩)) λ_=>vv (l6 (az rfl (Cr (N:=N) A hm hN h I (λq hq=>⟨f,.inl ⟨Lv _,gs,gt.part hq⟩⟩) (Ll [_,_] 47 (.m 3 M2) SC [(126,M2,On),(5,.a No (.m 3 M2),Uf)] rfl hf Nb) Nb υ λa LG o=>⟨a,rfl,?_⟩)))))));have o:=o.tg (P':=KT T s t) (G':=λ_ _=>True) ((exists_congr λq=>and_congr_right λ_=>cr.abp MY).trans QD.symm) λ_ _ _=>trivial
 induction a with
 |true=>exact ret rfl (H true LG o)
 |false=>
  refine cS (id o) λT' S' h1 st ha _=>?_;obtain⟨-,-,⟨fs,a1,a2,-⟩,-⟩:=h1.tab;refine y9 (mid _ (gs.mid hx)) λn1 n2 n3 _=>?_;have N7:=st.pre.get hx
  have rx:=gJ (bx (show aba x=true from by
   refine Lr gs (λo3=>?_) λg=>?_
   ·refine ag o3 λa ha h2=>?_;replace h2:=hx▸h2;refine cX h2 ?_;exact fE ha
   ·refine g.ξ.elim λa hl=>?_
    have:=hl.1
    replace this:=hx▸this;refine cX this ?_
    exact(bO a).1)) (σ:=LG)
  refine nil (cV (ai (ai (am rfl a1 a2) rfl (cZ h1.tab N7)) rfl rx) (bq (jt (l:=nq) rfl) n1 (nil (bq (cY (q:=False) (aA rfl rfl) λe=>absurd e n2) (λe=>e.2) (nil (bq (cK (aA rfl rfl) (bL (jt (l:=[8,9]) rfl))) (λq=>q.elim n2 n3) (nil (ret (AP (cu rfl rfl rfl) (IA (aH (vs:=[.ref R.x,.int 12,af s,af t]) rfl (tA (n:=N+4) (by decide) h1)))) ?_))))))))
  rw[YJ];exact H false LG o
inductive Kq (T:List TR)(j s t:Nat):Prop where
 |un (f:Nat) (hj:j=3*f+1) (gs:GK T f s) (gt:GK T f t) (ps:List Nat) (hs:T[s]?=some (.ο ps)) (hp:parts T s=ps)
 |tu (f:Nat) (hj:j=3*f) (gs:gQ T f s) (gt:GK T f t) (ps:List Nat) (ht:T[t]?=some (.ο ps)) (hp:parts T t=ps)
 |ll (f:Nat) (hj:j=3*f+2) (gs:GL T (f+1) s) (gt:GL T (f+1) t)
 |al (f:Nat) (gs:aD T s) (gt:GL T f t)
 |la (f:Nat) (gs:GL T f s) (gt:aD T t)
 |aa (gs:aD T s) (gt:aD T t)
theorem xq {ps:List Nat}(h:gQ T f s)(hs:T[s]?=some (.ο ps)):False:=h.abx hs rfl
theorem GK.abN (hT:bu T){e:Nat}(h:GK T f e):aD T e\/∃ps,T[e]?=some (.ο ps)/\parts T e=ps:=by
 refine fY (GK.sh hT h) (λq=>?_) (λq=>?_) λRW=>?_
 ·exact .inl q
 ·refine q.ξ.elim λa ha=>?_;exact(iP hT h.1 ha).elim
 ·refine a6 RW λps h1 h2 _=>?_;exact .inr ⟨ps,h1,h2⟩
theorem kq (hT:bu T){j:Nat}(C:CC T (j+1) s t)(nC:¬CC T j s t):Kq T j s t:=by
 have eq:∀{k},k<=j+1->¬k<=j->j+1=k:=λh1 h2=>Ms (Nat.not_le.mp h2) h1
 have qq:∀f,3*f<=j+1->gQ T f s->gQ T f t->Kq T j s t:=λf hf gs gt=>by
  rcases gs with a1|l1<;>rcases gt with a2|l2
  ·exact .aa a1 a2
  ·exact .al f a1 l2
  ·exact .la f l1 a2
  ·induction f with
   |zero=>exact l1.elim
   |succ f=>exact .ll f (Nat.succ.inj (eq hf λq=>nC ⟨f+1,.inl ⟨q,.inr l1,.inr l2⟩⟩)) l1 l2
 have qk:∀f,3*f+1<=j+1->gQ T f s->GK T f t->Kq T j s t:=λf hf gs gt=>by
  refine Lr (gt.abN hT) (λa2=>?_) λo9=>?_
  ·exact qq f (P9 hf) gs (.inl a2)
  ·refine ag o9 λps h1 h2=>?_;exact .tu f (Nat.succ.inj (eq hf λq=>nC ⟨f,.inr (.inl ⟨q,gs,gt⟩)⟩)) gs gt ps h1 h2
 obtain⟨f,⟨h1,h2,h3⟩|⟨h1,h2,h3⟩|⟨h1,h2,h3⟩⟩:=C
 ·exact qq f h1 h2 h3
 ·exact qk f h1 h2 h3
 ·refine Lr (h2.abN hT) (λa1=>?_) λRX=>?_
  ·exact qk f (P9 h1) (.inl a1) h3
  ·refine ag RX λps h4 h5=>?_;exact .un f (Nat.succ.inj (eq h1 λq=>nC ⟨f,.inr (.inr ⟨q,h2,h3⟩)⟩)) h2 h3 ps h4 h5
theorem xi.ο {S':RT}{a:Bool}{ps:List Nat}(h:T[s]?=some (.ο ps)\/T[t]?=some (.ο ps)):xi R T S s t S' a:=λ_ _ _ fl=>by
 rcases h with h|h
 ·exact(xq (.inr fl.1) h).elim
 ·exact(xq (.inr fl.2) h).elim
theorem Ct {j N:Nat}(A:bg m j c)(A3:R.tl=true->R.m=1->bg 3 j c)(hm:R.m=m)(Nw:m≠2)(MY:m≠3)(hj:j+1<=6)(hN:c<=N+5)(h:HS σ b T (aQ R b S Z))(I:ju T R j S)(C:CC T (j+1) s t)(nC:¬CC T j s t)
  (hla:∀f,GL T f s->¬aD T t) (haa:¬(aD T s/\aD T t)) (Nb:S.deep+j<=50) (υ:S.ns+nb (j+1)<=8388000) (H:∀a σ',kt R b Z T S (nb (j+1)) (cr T m s t) (xi R T S s t) a σ'->Q (.bool a) σ'):XC (N+13) 49 [.ref R.x,af s,af t] σ Q:=by
 have hT:=h.tab.ok;have hA:cr T m s t↔KT T s t:=cr.abp MY;refine ag (C.sh hT) λf0 NP NO=>?_;refine(NP.row hT).elim λx hx=>?_;refine(NO.row hT).elim λy hy=>?_;refine ay rfl rfl (cV (mD h rfl) (cV (ai (ai rfl rfl (cZ h.tab hx.at_)) rfl (gJ (bx hx.aba))) (cV (ai (ai rfl rfl (cZ h.tab hy.at_)) rfl (gJ (bx hy.aba))) ?_)));have x6:∀{g},gQ T g s->Mine.Internal.hd x≠6:=λg=>g.abx hx.at_;have y6:∀{g},gQ T g t->Mine.Internal.hd y≠6:=λg=>g.abx hy.at_;rcases kq hT C nC with⟨f,rfl,gs,gt,ps,h1,h2⟩|⟨f,rfl,gs,gt,ps,h1,h2⟩|⟨f,rfl,gs,gt⟩|⟨f,gs,gt⟩|⟨f,gs,gt⟩|⟨gs,gt⟩
 ·have e:x=.ο ps:=Option.some.inj (hx.at_.symm.trans h1)
  exact dH (aA rfl rfl) (by(refine ad e ?_);rfl) (dG rfl (Iz (N:=N+7) A hm Nw MY (Ll [_] 6 M2 On [(2,.a (.a (.m 3 M2) On) On,SL)] rfl hj) (Ll [_,_] 1 M2 (.a (.a No (.k 7)) Sc) [(1,M2,.a No Tm)] rfl hN) h I gs gt Nb υ λa σ' o=>H a σ' (o.tg hA.symm λS' a _=>xi.ο (.inl h1))))
 ·have e:y=.ο ps:=Option.some.inj (hy.at_.symm.trans h1)
  exact bq (aA rfl rfl) (x6 gs) (nil (dH (aA rfl rfl) (by(refine ad e ?_);rfl) (dG rfl (KW (N:=N+6) A hm MY (Ll [_] 3 M2 On [(1,.a (.m 3 M2) On,SL)] rfl hj) (Ll [_,_] 1 M2 (.a (.a No SL) Sc) [(1,M2,.a No Tm)] rfl hN) h I gs gt hx.at_ Nb υ λa σ' o=>H a σ' (o.tg hA.symm λS' a _=>xi.ο (.inr h1))))))
 ·have ex:=(GL.lst gs hx.at_);have ey:=(GL.lst gt hy.at_);have PO:=j4 (n:=N+11) (σ:=σ) (MB _ ex) (MB _ ey);rw[if_pos ⟨ex,ey⟩]at PO;refine bq (aA rfl rfl) (x6 (.inr gs)) (nil (bq (aA rfl rfl) (y6 (.inr gt)) (nil (dG (ae rfl (ae (aH rfl PO) rfl)) (Cq h (Cm (N:=N) A A3 hm MY (Ll [_] 3 M2 On [(1,.a (.a (.m 3 M2) Rs) On,SL)] rfl hj) hN h I Nb υ gs gt (λ_ _ fl=>?_) H))))));exact(Nat.eq_zero_or_pos f).resolve_right λe=>nC ⟨1,.inl ⟨(Ll [_] 1 (.m 3 On) (.a (.m 3 M2) Rs) [(1,.a Pv On,M2)] rfl e),.inr fl.1,.inr fl.2⟩⟩
 ·have qs:gQ T 0 s:= .inl gs;have qt:gQ T f t:= .inr gt;have PO:=j4 (n:=N+11) (σ:=σ) (qs.mid hx.at_) (qt.mid hy.at_);rw[if_neg λe=>(mid _ (qs.mid hx.at_)).2.2.2.2.2.mp (mI gs hx.at_) e.1]at PO
  exact bq (aA rfl rfl) (x6 qs) (nil (bq (aA rfl rfl) (y6 qt) (nil (ret (aH (ae rfl (ae (aH rfl PO) rfl)) (tA (n:=N+11) (by decide) h)) (H false σ ⟨T,S,h,aO.refl.mono (LP _),⟨Bool.noConfusion,λk=>(FL hT gs gt (hA.mp k)).elim⟩,λ_ _ e=>Bool.noConfusion e⟩)))))
 ·exact(hla f gs gt).elim
 ·exact(haa ⟨gs,gt⟩).elim
end
end
noncomputable section
section
variable {σ σ':St}{b:TB}{T T':List TR}{R:RO}{S:RT}{Z:List (Nat×AO)}{n f m c s t i:Nat}{Q:V->St->Prop}{x y:TR}
theorem xr {l:List Int}{i:Int}{e1 e2:IE}{ρ:Loc}(h1:Ev n e1 ρ σ (.int i))(h2:Ev n e2 ρ σ (.tup (l.map .int))):Tp n (.cmp .isin e1 e2) ρ σ (i∈l):=gD h1 h2 mf PB
theorem Cu {e e1:IE}{ρ:Loc}{K:V->St->Prop}(h:XE n e ρ σ λv σ=>∃c,v=.bool c/\(c=false->K (.bool false) σ)/\(c=true->XE n e1 ρ σ K)):XE n (.τ [e,e1]) ρ σ K:=by
 obtain⟨v,LG,h1,c,rfl,k1,k2⟩:=h;rcases c with _|_
 ·exact⟨_,_,bs h1 rfl,k1 rfl⟩
 ·refine bv (k2 rfl) λw Lu h2 k=>?_;exact⟨w,Lu,bs h1 h2,k⟩
theorem xi.three {S':RT}{a:Bool}(hm:R.m=3):xi R T S s t S' a:=λ_ e=>absurd (hm.symm.trans e) (by decide)
theorem y8 {j N:Nat}(A:bg 3 j c)(hm:R.m=3)(hj:j+1<=6)(hN:c<=N+5)(h:HS σ b T (aQ R b S Z))(I:ju T R j S)(C:CC T (j+1) s t)(nC:¬CC T j s t)
  (Mm:s≠t) (ns:¬aD T s) (nt:¬aD T t) (Nb:S.deep+j<=50) (υ:S.ns+nb (j+1)<=8388000) (H:∀a σ',kt R b Z T S (nb (j+1)) (cr T 3 s t) (xi R T S s t) a σ'->Q (.bool a) σ'):XC (N+13) 54 [.ref R.x,af s,af t] σ Q:=by
 have hT:=h.tab.ok;refine ag (C.sh hT) λf0 NP NO=>?_;refine(NP.row hT).elim λx hx=>?_;refine(NO.row hT).elim λy hy=>?_;have no:∀{k T' S' σ'},k<=nb (j+1)->HS σ' b T' (aQ R b S' Z)->aO R T S T' S' k->Q (.bool false) σ':=λhk h1 st=>H false _ ⟨_,_,h1,st.mono hk,⟨Bool.noConfusion,λk=>absurd (cr.three.mp k) Mm⟩,xi.three hm⟩;have Sl:nb j<=nb (j+1):=xj (Mf j);have r1:=fun {σ}=>gJ (σ:=σ) (bx hx.aba);have r2:=fun {σ}=>gJ (σ:=σ) (bx hy.aba);refine ay rfl rfl (cV (mD h rfl) (cV (ai rfl rfl (cZ h.tab hx.at_)) (cV (ai rfl rfl (cZ h.tab hy.at_)) ?_)));rcases kq hT C nC with⟨f,rfl,gs,gt,ps,h1,h2⟩|⟨f,rfl,gs,gt,ps,h1,h2⟩|⟨f,rfl,gs,gt⟩|⟨f,gs,gt⟩|⟨f,gs,gt⟩|⟨gs,gt⟩
 ·refine ag ((gt.abN hT).resolve_left nt) λqs h3 h4=>?_;refine ad (Option.some.inj (hx.at_.symm.trans h1)) ?_;refine ad (Option.some.inj (hy.at_.symm.trans h3)) ?_;have hC:∀p∈ps,∀q∈qs,CC T (3*f+1) p q/\CC T (3*f+1) q p:=λp hp q hq=>⟨⟨f,.inl ⟨Mf _,gs.part (h2▸hp),gt.part (h4▸hq)⟩⟩,⟨f,.inl ⟨Mf _,gt.part (h4▸hq),gs.part (h2▸hp)⟩⟩⟩
  refine dH (cF (aA (j:=6) (ai rfl rfl rfl) (ai rfl rfl rfl)) (bJ (cK (aA (j:=6) (ai rfl rfl rfl) rfl) (bL (aA (j:=6) (ai rfl rfl rfl) rfl))))) ⟨rfl,.inl rfl⟩
   (dF (Cu (az (vs:=[.ref R.x,.tup (ps.map af),.tup (qs.map af)]) (ae rfl (ae (ai rfl rfl rfl) (ae (ai rfl rfl rfl) av))) (Cs (N:=N+6) A hm (Ll [_,_] 1 M2 (.a (.a No SL) Sc) [(1,M2,.a No Tm)] rfl hN) h I (λp hp q hq=>(hC p hp q hq).1) (Ll [_] 1 (.a (.m 3 M2) On) SC [(1,.a (.a (.m 3 M2) On) On,SL)] rfl hj) Nb (Ll [_,_,_] 1 (.a M2 No) Ps [(1,.a M2 NE,Ps),(1,No,NE)] rfl υ Sl) λa LG z1=>cS z1 λT1 S1 TN Ox ha _=>⟨a,rfl,λ_=>no (LP _) TN Ox,λe=>?_⟩))))
  refine az (vs:=[.ref R.x,.tup (qs.map af),.tup (ps.map af)]) (ae rfl (ae (ai rfl rfl rfl) (ae (ai rfl rfl rfl) av))) (Cs (N:=N+6) A hm (Ll [_,_] 1 M2 (.a (.a No SL) Sc) [(1,M2,.a No Tm)] rfl hN) TN (Ox.inv _ I) (λp hp q hq=>(hC q hq p hp).2.ext Ox.pre) (Ll [_] 1 (.a (.m 3 M2) On) SC [(1,.a (.a (.m 3 M2) On) On,SL)] rfl hj) (by(refine ad Ox.deep ?_);exact Nb) (by have:=Ox.ns;exact Ll [_,_,_,_] 1 (.a M2 No) Ps [(1,.a NE Op,Ps),(1,No,Op),(1,M2,.a NE Pv)] rfl υ Sl this.2) λa2 Lu Zs=>cS Zs λT2 S2 h2' Mv Px _=>?_)
  induction a2 with
  |false=>exact no (LP _) h2' (Ox.trans Mv)
  |true=>exact absurd (mz hT gs.1 gt.1 λp=>by(refine ad h2 ?_;refine ad h4 ?_);exact⟨ha.mp e p,Px.mp rfl p⟩) Mm
 ·have ex:=GL.lst (gs.resolve_left ns) hx.at_;obtain rfl:y=.ο ps:=Option.some.inj (hy.at_.symm.trans h1);exact bq (cY (q:=False) (aA (ai rfl rfl r1) (ai rfl rfl r2)) λe=>absurd e (mid _ (MB _ ex)).2.2.2.1) (λe=>e.2) (nil (dH (cK (xr (l:=[6,7]) (ai rfl rfl r1) rfl) (bL (xr (l:=[6,7]) (ai rfl rfl r2) rfl))) (.inr LI) (ret rfl (no (LP _) h aO.refl))))
 ·have ex:=MB fQ (GL.lst gs hx.at_);have ey:=MB fQ (GL.lst gt hy.at_);refine IG (mid _ ex) λ_ x7 _ x6 _=>?_;refine IG (mid _ ey) λ_ y7 _ y6 _=>?_;have n2:∀{i:Int},i≠6->i≠7->i∉([6,7]:List Int):=λh6 h7 e=>(L7.mp e).elim h6 λe=>h7 (LV.mp e);have PO:=j4 (n:=N+11) (σ:=σ) ex ey;rw[if_pos ⟨GL.lst gs hx.at_,GL.lst gt hy.at_⟩]at PO
  exact bq (cF (aA (ai rfl rfl r1) (ai rfl rfl r2)) (bJ (cK (aA (ai rfl rfl r1) rfl) (bL (aA (ai rfl rfl r1) rfl))))) (λe=>e.2.elim x6 x7) (nil (bq (cK (xr (l:=[6,7]) (ai rfl rfl r1) rfl) (bL (xr (l:=[6,7]) (ai rfl rfl r2) rfl))) (λe=>e.elim (n2 x6 x7) (n2 y6 y7)) (nil
   (dG (ae rfl (ae (aH (ae (ai rfl rfl r1) (ae (ai rfl rfl r2) av)) PO) rfl)) (Cq h (FU (N:=N) A hm (Ll [_] 3 M2 On [(1,.a (.a (.m 3 M2) Rs) On,SL)] rfl hj) hN h I Nb υ gs gt H))))))
 ·exact(ns gs).elim
 ·exact(nt gt).elim
 ·exact(ns gs).elim
theorem KX {a b:Nat}(h:a=b):(a:Int)=(b:Int):=congrArg Mi h
theorem kt.no {c:Nat}(h:HS σ b T (aQ R b S Z))(hA:¬cr T m s t):kt R b Z T S c (cr T m s t) (y0 R T S s t) false σ:=⟨T,S,h,aO.refl.mono (LP _),⟨Bool.noConfusion,λk=>absurd k hA⟩,λ_=>⟨rfl,rfl⟩,λ_ _ _ _ _ e=>Bool.noConfusion e⟩
theorem tB {c:Nat}(h:HS σ b T (aQ R b S Z))(Mm:s=t)(H:∀a σ',kt R b Z T S c (cr T m s t) (y0 R T S s t) a σ'->Q (.bool a) σ'):XC (n+1) 38 [.ref R.x,af s,af t] σ Q:=ay rfl rfl (dH (aA rfl rfl) (KX Mm) (ret rfl (H true σ ⟨T,S,h,aO.refl.mono (LP _),⟨λ_=>Mm▸cr.refl,λ_=>rfl⟩,λe=>Bool.noConfusion e,λ_ _ e=>absurd Mm e⟩)))
theorem Sh.val (h:Sh T f s)(hx:T[s]?=some x):Mine.Internal.hd x∈fQ↔aD T s:=by
 refine fY (h.hd hx) (λq=>?_) (λq=>?_) λq=>?_
 ·exact⟨λ_=>q.1,λ_=>q.2.1⟩
 ·refine ag q.2.1 λa hl _=>?_;exact⟨λk=>absurd k q.2.2.1,λk=>(aJ k hl).elim⟩
 ·exact⟨λk=>by rw[q.2.2]at k;exact absurd k (by decide),λk=>mI k hx⟩
theorem oB {c:Nat}(h:HS σ b T (aQ R b S Z))(hm:R.m=3)(Mm:s≠t)(hx:js T s x)(hy:js T t y)(NP:Sh T f s)(NO:Sh T f t)(H:∀a σ',kt R b Z T S c (cr T 3 s t) (y0 R T S s t) a σ'->Q (.bool a) σ')
  (hk:¬aD T s->¬aD T t->XC (n+3) 39 [.ref R.x,af s,af t] σ Q):XC (n+4) 38 [.ref R.x,af s,af t] σ Q:=by
 refine ay rfl rfl (bq (aA rfl rfl) (dL Mm) (nil (cV (aH (ae (am rfl h.gx te) rfl) (ii (n:=n) h hx)) (cV (aH (ae (am rfl h.gx te) rfl) (ii (n:=n) h hy)) (bq (aA rfl rfl) (dL Mm) (nil (dH (aA (am rfl h.gx gc) rfl) (KX hm) (cV (mD h rfl) (bq (cK (aA rfl rfl) (bL (aA rfl rfl))) (λe=>e.elim (dL hx.bad.2.1) (dL hy.bad.2.1)) (nil
  (a9 (cK (jt (l:=fQ) (ai (ai rfl rfl (cZ h.tab hx.at_)) rfl (gJ (bx hx.aba)))) (bL (jt (l:=fQ) (ai (ai rfl rfl (cZ h.tab hy.at_)) rfl (gJ (bx hy.aba)))))) (λg=>ret rfl (H false σ (kt.no h λk=>Mm (cr.three.mp k)))) λg=>dG rfl (hk ?_ ?_))))))))))))
 ·exact λk=>g (.inl ((NP.val hx.at_).mpr k))
 ·exact λk=>g (.inr ((NO.val hy.at_).mpr k))
theorem mJ {c:Nat}(h:HS σ b T (aQ R b S Z))(hm:R.m=m)(Nw:m≠2)(MY:m≠3)(Mm:s≠t)(hx:js T s x)(hy:js T t y)(NP:Sh T f s)(NO:Sh T f t)(H:∀a σ',kt R b Z T S c (cr T m s t) (y0 R T S s t) a σ'->Q (.bool a) σ')
  (hk:(hd x=6\/hd y=6\/(GL T f t/\(aD T s\/GL T f s)))->XC (n+4) 39 [.ref R.x,af s,af t] σ Q):XC (n+5) 38 [.ref R.x,af s,af t] σ Q:=by
 subst hm;refine ag (Ce (n:=n) h Nw hx hy NP NO Mm) λv VU hv=>?_;have hA:cr T R.m s t↔KT T s t:=cr.abp MY;refine ay rfl rfl (bq (aA rfl rfl) (dL Mm) (nil (cV (aH (ae (am rfl h.gx te) rfl) (ii (n:=n+1) h hx)) (cV (aH (ae (am rfl h.gx te) rfl) (ii (n:=n+1) h hy)) (bq (aA rfl rfl) (dL Mm) (nil (bq (aA (am rfl h.gx gc) rfl) (dL MY) (nil (cV (aH rfl VU) ?_)))))))));refine fY hv (λo7=>?_) (λo8=>?_) λo9=>?_
 ·obtain⟨rfl,Ra,Ob⟩:=o7;refine dH (Fq (q:=False) (aA rfl rfl) λg=>absurd rfl g) (.inl rfl) (ret rfl (H true σ ⟨T,S,h,aO.refl.mono (LP _),⟨λ_=>hA.mpr Ra,λ_=>rfl⟩,λe=>Bool.noConfusion e,λ_ _ _ e1 e2 _ fl=>?_⟩));refine fl.2.ξ.elim λa ha=>?_;exact(aJ Ob ha).elim
 ·obtain⟨rfl,Ra⟩:=o8
  exact bq (cK (aA rfl rfl) (bL (cY (q:=False) (aA (am rfl h.gx gc) rfl) λe=>absurd e (dL Nw)))) (λe=>e.elim (by decide) P6) (nil (ret (uQ (cu rfl rfl rfl)) (H false σ (kt.no h λk=>Ra (hA.mp k)))))
 ·refine y9 o9 λe18 h1 h2 h3=>?_;refine ad e18 ?_
  exact bq (cK (aA rfl rfl) (bL (cY (q:=False) (aA (am rfl h.gx gc) rfl) λe=>absurd e (dL Nw)))) (λe=>e.elim (by decide) P6) (nil (dF (AS (cu rfl rfl rfl) (az rfl (hk h3)))))
theorem vx (h:aD T s)(g:GL T f s):False:=by
 refine g.ξ.elim λa hl=>?_;exact aJ h hl
theorem tC (Nw:m≠2):bg m 0 10:=by
 intro N hN σ b T R S Z s t Q hm h I C Nb υ H
 obtain⟨n,rfl⟩:∃n,N=n+6:=⟨N-6,(Un (Lk (by decide) hN)).symm⟩
 have hT:=h.tab.ok;refine ay rfl rfl (dG rfl ?_)
 by_cases Mm:s=t
 ·exact tB h Mm H
 have Ob:aD T s/\aD T t:=by
  obtain⟨f,⟨h1,h2,h3⟩|⟨h1,h2,h3⟩|⟨h1,h2,h3⟩⟩:=C
  ·obtain rfl:f=0:=(Ms (Ll [_] 3 M2 Pv [(1,.m 3 M2,Pv)] rfl h1) (Ll [_] 1 Pv M2 [] rfl));exact⟨h2.resolve_right id,h3.resolve_right id⟩
  ·rcases h1 with _|_
  ·rcases h1 with _|_
 refine ag (C.sh hT) λf0 NP NO=>?_;refine(NP.row hT).elim λx hx=>?_;refine(NO.row hT).elim λy hy=>?_
 by_cases MY:m=3
 ·subst MY;exact oB h hm Mm hx hy NP NO H λq=>(q Ob.1).elim
 ·have Zi:∀{x s},aD T s->T[s]?=some x->hd x≠6:=λh hx=>gQ.abx (f:=0) (.inl h) hx;exact mJ h hm Nw MY Mm hx hy NP NO H λq=>(q.elim (Zi Ob.1 hx.at_) λq=>q.elim (Zi Ob.2 hy.at_) λq=>vx Ob.2 q.1).elim
theorem tD {j:Nat}(Nw:m≠2)(A:bg m j c)(A3:bg 3 j c)(hj:j+1<=6):bg m (j+1) (c+20):=by
 intro N hN σ b T R S Z s t Q hm h I C Nb υ H;have Sl:nb j<=nb (j+1):=xj (Mf j)
 by_cases C':CC T j s t
 ·exact A N (Lk (Me _ _) (by assumption)) σ b T R S Z s t Q hm h (I.mono (Mf j)) C' (NN (by assumption)) (Ll [_,_,_] 1 (.a M2 No) Ps [(1,.a M2 NE,Ps),(1,No,NE)] rfl υ Sl) λa σ' Zp=>aL Zp λT' S' h1 st k=>H a σ' ⟨T',S',h1,st.mono Sl,k⟩
 obtain⟨n,rfl⟩:∃n,N=n+16:=⟨N-16,(Ms (Ll [_,_] 1 M2 (.a No UV) [(1,M2,.a No UV)] rfl nu) (Ll [_,_] 1 (.a M2 UV) No [(1,.a M2 UV,No)] rfl (mL (Ll [_,_] 5 UV M2 [(4,.a No (.k 20),M2)] rfl hN))))⟩;have hN:c<=n+5:=(Ll [_,_] 1 M2 (.a No Tm) [(1,.a M2 (.k 20),.a No UV)] rfl hN);have hT:=h.tab.ok;refine ay rfl rfl (dG rfl ?_)
 by_cases Mm:s=t
 ·exact tB h Mm H
 refine ag (C.sh hT) λf0 NP NO=>?_;refine(NP.row hT).elim λx hx=>?_;refine(NO.row hT).elim λy hy=>?_
 by_cases MY:m=3
 ·subst MY;refine oB (n:=n+11) h hm Mm hx hy NP NO H λq1 q2=>Cg (n:=n+11) h I C C' (Ll [_] 1 (.a M2 On) SC [(1,.a M2 On,SL)] rfl hj) Nb (λS1 LG Q' h1 I1 d1 n1 H'=>?_) (hm.symm▸H);refine ad (if_pos hm) ?_
  exact y8 A hm hj hN h1 I1 C C' Mm q1 q2 d1 (by(refine ad n1 ?_);exact υ) (hm▸H')
 ·refine mJ (n:=n+10) h hm Nw MY Mm hx hy NP NO H λq=>Cg (n:=n+11) h I C C' (Ll [_] 1 (.a M2 On) SC [(1,.a M2 On,SL)] rfl hj) Nb (λS1 LG Q' h1 I1 d1 n1 H'=>?_) (hm.symm▸H)
  have h2:(∀f,GL T f s->¬aD T t)/\¬(aD T s/\aD T t):=by
   refine fY q (λq=>?_) (λq=>?_) λo3=>?_
   ·exact⟨λf g _=>gQ.abx (.inr g) hx.at_ q,λk=>gQ.abx (f:=0) (.inl k.1) hx.at_ q⟩
   ·exact⟨λf _ k=>gQ.abx (f:=0) (.inl k) hy.at_ q,λk=>gQ.abx (f:=0) (.inl k.2) hy.at_ q⟩
   ·refine o3.elim λq _=>?_;exact⟨λf _ k=>vx k q,λk=>vx k.2 q⟩
  (refine ad (if_neg λe=>MY (hm▸e)) ?_)
  exact Ct A (λ_ _=>A3) hm Nw MY hj hN h1 I1 C C' h2.1 h2.2 d1 (by(refine ad n1 ?_);exact υ) (hm▸H')
theorem kU (Nw:m≠2):∀j,j<=6->bg m j (10+20*j)/\bg 3 j (10+20*j)
 |0,_=>⟨tC Nw,tC (by decide)⟩
 |j+1,h=>(kU Nw j (P9 h)).elim λa a3=>⟨tD Nw a a3 h,tD (by decide) a3 a3 h⟩
end
end
noncomputable section
noncomputable def zS (a:Sq):Sq:=⟨a.h.map λ_=>0,a.o.map λ_=>0,a.r.map λ_=>0,a.t.map λ_=>0,true⟩
theorem FV {a:Sq}(h:a.Ok):(zS a).Ok:=by
 refine⟨Lk (LU (LN ..)) h.rl,λq=>?_,?_⟩
 ·refine(h.tl λe=>q (congrArg (List.map _) e)).elim λh1 h2=>?_;exact⟨λe=>h1 (List.map_eq_nil_iff.mp e),congrArg (List.map _) h2⟩
 ·have:(zS a).all=a.all.map λ_=>0:=by unfold Sq.all;(refine ad Mj ?_;refine ad Mj ?_;refine ad Mj ?_);rfl
  rw[this,LN];exact h.short
theorem vy (a:Sq):(zS a).ι=(a.ι.map (·.2)).map λm=>((0,m):El):=by
 unfold Sq.ι
 (refine ad Mj ?_;refine ad Mj ?_;refine ad Mj ?_;refine ad Mj ?_;refine ad Mj ?_;refine ad Mj ?_)
 unfold zS
 (refine ad Ml ?_;refine ad Ml ?_;refine ad Ml ?_;refine ad Ml ?_;refine ad Ml ?_;refine ad Ml ?_;refine ad Ml ?_;refine ad Ml ?_;refine ad Ml ?_;refine ad Ml ?_;refine ad Ml ?_;refine ad Ml ?_);rfl
theorem IB {a c:Sq}:zS a=zS c↔a.h.length=c.h.length/\a.o.length=c.o.length/\a.r.length=c.r.length/\a.t.length=c.t.length:=by
 have f:∀{l k:List Nat},(l.map λ_=>0)=(k.map λ_=>0)↔l.length=k.length:=fun {l k}=>by
  (refine ad TQ ?_;refine ad TQ ?_)
  exact⟨λe=>by have:=congrArg Nr e;rw[Py,Py]at this;exact this,λe=>by(refine ad e ?_;rfl)⟩
 unfold zS;rw[Sq.mk.injEq,f,f,f,f,eq_self_iff_true,and_true]
theorem tE {a c:Sq}(ha:a.Ok)(hc:c.Ok):Mk a c↔a.h.length=c.h.length/\a.o.length=c.o.length/\a.r.length=c.r.length/\a.t.length=c.t.length:=by
 rw[<- IB]
 have b:∀a:Sq,a.ι.map (·.2)=(zS a).ι.map (·.2):=λa=>by rw[vy,Ml];exact(Rj _).symm
 refine⟨λe=>wX (FV ha) (FV hc) ?_ rfl,λe=>?_⟩
 ·rw[vy,vy,show a.ι.map (·.2)=_ from e]
 ·exact(b a).trans ((congrArg (λs=>(Sq.ι s).map (·.2)) e).trans (b c).symm)
section
variable {α:Type}{ok:α->Prop}{nk na nl:Nat}{RA:List TR->Nat->α->Prop}{T:List TR}
theorem tF (hT:bu T)(hL:fD RA)(MR:∀p s,RA T p s->LT T p p){x y:Nat×Bool}{k k':Kd α×Bool}(hk:eW ok na k.1)(Qx:eW ok na k'.1)(e1:CJ (dJ T (RA T)) x k)(e2:CJ (dJ T (RA T)) y k')(s1:k.1.subs=[]) :
  cg T ou x y↔bw (mk k').at_ ||| bw (mk k).at_=bw (mk k').at_:=by
 have r1:=qj hT e1.1.rep k.2;have s0:(mk k).subs=[]:=(qm k.1 k.2).trans s1
 have w:=mw (rel:=λ_ _=>False) hT hL r1 (qj hT e2.1.rep k'.2) (ql hk _) (ql Qx _) (λp q s s' hs M3=>by rw[show s∈(mk k).subs↔_ from NW,s0]at hs;contradiction) MR
 have e:cg T ou x y↔KS T (LT T) (rd T x.1 k.2) (rd T y.1 k'.2):=by
  unfold cg KS
  (refine ad e1.2 ?_;refine ad e2.2 ?_)
  refine forall_congr' λp=>imp_congr_right λhp=>exists_congr λq=>and_congr_right λ_=>or_congr_right ⟨λk=>k.elim,λk=>?_⟩;obtain⟨a,ha⟩:=(du k).1;refine Lr (r1.part p hp) (λo3=>?_) λo4=>?_
  ·refine a6 o3 λa' h1 h2 h3=>?_;exact aJ ⟨a',h2,h3⟩ ha
  ·refine ag o4 λs h1 _=>?_;rw[show s∈(mk _).subs↔_ from NW,s0]at h1;contradiction
 refine e.trans (w.trans ⟨And.left,λg=>⟨g,λs hs=>?_⟩⟩);rw[show s∈(mk _).subs↔_ from NW,s0]at hs;contradiction
theorem IC (hT:bu T)(hL:fD RA)(MR:∀p s,RA T p s->LT T p p){p q:Nat}{r r':Rw α}(hr:fg ok nk na nl r)(L6:fg ok nk na nl r')(e1:∀k∈r.all,k.subs=[])(e2:∀k∈r'.all,k.subs=[])
  (hp:iq RA T p r) (hq:iq RA T q r') (Oj:LT T p q):Lx T p q↔Eg r r':=by
 unfold Eg;rw[wW hr L6];refine tJ hp λa h1 h2 h3 h4 h5 h6=>?_;refine tJ hq λb g1 g2 g3 g4 g5 g6=>?_;rw[qv h1 g1,g2]
 have Su:nh a b:=by
  refine cS Oj λa' b' f1 f2 f3 f4=>?_;rw[da f1 h1,da f2 g1]at f4;exact w7 h1.2 g1.2 f4
 have hA:G2 (dJ T (RA T)) a.sg r.sg:=⟨h3,h4,h5,h6⟩;have hB:G2 (dJ T (RA T)) b.sg r'.sg:=⟨g3,g4,g5,g6⟩
 have key:∀x y x' y',CJ (dJ T (RA T)) x y->CJ (dJ T (RA T)) x' y'->y.1∈r.all->y'.1∈r'.all->(cg T ou x x'/\cg T ou x' x↔bw (mk y).at_=bw (mk y').at_):=λx y x' y' d1 d2 m1 m2=>by
  have k1:=hr.ks y.1 m1;have k2:=L6.ks y'.1 m2;rw[tF hT hL MR k1 k2 d1 d2 (e1 y.1 m1),tF hT hL MR k2 k1 d2 d1 (e2 y'.1 m2)]
  constructor
  ·intro r8;refine r8.elim λu v=>?_;rw[Nat.or_comm]at u;exact v.symm.trans u
  ·intro u;refine ad u ?_;exact⟨Nat.or_self _,Nat.or_self _⟩
 refine or_congr_right (and_congr ?_ ?_)
 ·rw[tE h1.2 g1.2,h3.len,h4.len,h5.len,h6.len,g3.len,g4.len,g5.len,g6.len]
  exact⟨λz1 i hi=>y9 z1 λa b c d=>match i,hi with
   |0,_=>a
   |1,_=>b
   |2,_=>c
   |3,_=>d,λh=>⟨h 0 (by decide),h 1 (by decide),h 2 (by decide),h 3 (by decide)⟩⟩
 ·exact(w9 (R:=λx y=>cg T ou x y/\cg T ou y x) h1.2 g1.2 Su).symm.trans ⟨hA.abG hB λx y x' y' d1 d2 _ m1 _ m2=>(key x y x' y' d1 d2 m1 m2).mp,hA.flip.abG hB.flip λy x y' x' d1 d2 m1 _ m2 _=>(key x y x' y' ⟨d1.1,d1.2.symm⟩ ⟨d2.1,d2.2.symm⟩ m1 m2).mpr⟩
end
end
noncomputable section
section
variable {σ σ':St}{b:TB}{T T':List TR}{n t f c:Nat}{Q:V->St->Prop}{fs:List (Nat×V)}{vs:List V}{v:V}{o e:IE}{es:List IE}{ρ:Loc}{ss:List IS}{K:Fl->Loc->St->Prop}
noncomputable abbrev Kp (t:Nat):St->St->Prop:=aN λq=>q=t
theorem J6 {k:Int}(h:XE n e ρ σ λv σ=>v=.int k/\XS n ss ρ σ K):XS n (.expr e::ss) ρ σ K:=by
 refine aL h λ_ _ h hv k=>?_
 exact bn (fl:= .next) (bs h (by refine ad hv ?_;rfl)) k
theorem Kp.trans {LG Lu LY:St}(a:Kp t LG Lu)(b:Kp t Lu LY):Kp t LG LY:=aN.trans a b
theorem Lh (hg:σ.g t=.inst c fs)(hl:fs.length<100)(he:Ev n e ρ σ v)(ho:Ev n o ρ σ (.ref t))(k:∀σ',σ'.g t=.inst c (eO fs f v)->Kp t σ σ'->XS n ss ρ σ' K):XS n (.setAttr o f e::ss) ρ σ K:=setAttr he ho (cP hg hl) (k _ d8 (aN.set rfl))
theorem FW {ob:AO}(ht:t<σ.n)(hg:σ.g t=.inst c fs)(hl:fs.length<100)(he:XE n e ρ σ (λv σ'=>v=.ref σ.n/\σ'=σ.new ob))(ho:∀σ,Ev n o ρ σ (.ref t))(k:∀σ' r,σ'.g t=.inst c (eO fs f (.ref r))->Kp t σ σ'->σ.n<=r->r<σ'.n->σ'.g r=ob->XS n ss ρ σ' K):XS n (.setAttr o f e::ss) ρ σ K:=by
 refine aL he λ_ _ h e1 e2=>?_;subst e1;subst e2;exact eE ⟨_,_,h,_,_,ho _,cP ((if_neg (MC ht)).trans hg) hl,k _ σ.n d8 (aN.new.trans (aN.set rfl)) (Lv _) (Oe _) ((uS (O0 ht)).trans iw)⟩
theorem kW:bu b6:=⟨by decide,by decide,[],(Mz _).symm⟩
theorem J7 (H:∀σ' (b:TB),aY σ' b b6->aN (λ_=>False) σ σ'->Q (.ref b.t) σ'):XE (n+2) (.make 0 []) ρ σ Q:=by
 have lt:∀{fs:List (Nat×V)},RE (fs.length+1) 100=true->fs.length<100:=LL;refine pR (f:=3) av rfl ?_;have hn:σ.n<(σ.new (.inst 0 [])).n:=Oe _;have hg:(σ.new (.inst 0 [])).g σ.n=.inst 0 []:=iw;have h0:aN (λ_=>False) σ (σ.new (.inst 0 [])):=aN.new
 generalize σ.new (.inst 0 [])=RH at hn hg h0⊢
 generalize ht:σ.n=t at hn hg⊢
 refine ay rfl rfl (FW hn hg (lt rfl) (dE (iu ⟨rfl,rfl⟩)) (λ_=>rfl) λLG r (g1:LG.g t=.inst 0 [(0,.ref r)]) k1 l1 b1 e1=>?_);refine FW (L1 hn k1.le) g1 (lt rfl) (gE ⟨rfl,rfl⟩) (λ_=>rfl) λLu i (g2:Lu.g t=.inst 0 [(0,.ref r),(1,.ref i)]) k2 l2 b2 e2=>?_;have t2:t<Lu.n:=L1 hn (k1.trans k2).le;refine FW t2 g2 (lt rfl) (dE (m8 rfl ⟨rfl,rfl⟩)) (λ_=>rfl) λLY r3 (g3:LY.g t=.inst 0 [(0,.ref r),(1,.ref i),(2,.ref r3)]) k3 _ _ _=>?_;refine FW (L1 t2 k3.le) g3 (lt rfl) (dE (iu ⟨rfl,rfl⟩)) (λ_=>rfl) λNJ r4 (g4:NJ.g t=.inst 0 [(0,.ref r),(1,.ref i),(2,.ref r3),(3,.ref r4)]) k4 _ _ _=>?_;have k4:=k3.trans k4;refine FW (L1 t2 k4.le) g4 (lt rfl) (dE (iu ⟨rfl,rfl⟩)) (λ_=>rfl) λNu r5 (g5:Nu.g t=.inst 0 [(0,.ref r),(1,.ref i),(2,.ref r3),(3,.ref r4),(4,.ref r5)]) k5 _ _ _=>?_;have k5:=k4.trans k5;refine FW (L1 t2 k5.le) g5 (lt rfl) (dE (iu ⟨rfl,rfl⟩)) (λ_=>rfl) λNz r6 (g6:Nz.g t=.inst 0 [(0,.ref r),(1,.ref i),(2,.ref r3),(3,.ref r4),(4,.ref r5),(5,.ref r6)]) k6 _ _ _=>?_;have k6:=k5.trans k6;refine FW (L1 t2 k6.le) g6 (lt rfl) (gE ⟨rfl,rfl⟩) (λ_=>rfl) λOw r7 (g7:Ow.g t=.inst 0 [(0,.ref r),(1,.ref i),(2,.ref r3),(3,.ref r4),(4,.ref r5),(5,.ref r6),(6,.ref r7)]) k7 _ _ _=>?_;have k7:=k6.trans k7;refine FW (L1 t2 k7.le) g7 (lt rfl) (gE ⟨rfl,rfl⟩) (λ_=>rfl) λO2 r8 (g8:O2.g t=.inst 0 [(0,.ref r),(1,.ref i),(2,.ref r3),(3,.ref r4),(4,.ref r5),(5,.ref r6),(6,.ref r7),(7,.ref r8)]) k8 _ _ _=>?_;have k8:=k7.trans k8;refine Lh g8 (lt rfl) rfl rfl λPf (g9:Pf.g t=.inst 0 [(0,.ref r),(1,.ref i),(2,.ref r3),(3,.ref r4),(4,.ref r5),(5,.ref r6),(6,.ref r7),(7,.ref r8),(8,.int 0)]) k9=>?_;have k9:=k8.trans k9;have nr:r≠t:=O0 (L1 hn l1);have ni:i≠t:=O0 (L1 (L1 hn k1.le) l2);have tab:Bl (λ_=>True) Pf ⟨t,r,i⟩ []:=⟨⟨L1 t2 k9.le,L1 b1 (k2.trans k9).le,L1 b2 k9.le⟩,⟨nr.symm,ni.symm,MC (L1 b1 l2)⟩,⟨_,g9,rfl,rfl⟩,((k2.trans k9).keep _ b1 nr).trans e1,(k9.keep _ b2 ni).trans e2,trivial⟩;have VI:=k1.trans (k2.trans k9);refine fu (f:=b3) b6 (λp J' σ'=>J' 0=some (.ref t)/\Bl (λ_=>True) σ' ⟨t,r,i⟩ p/\aN (TB.own ⟨t,r,i⟩) Pf σ') rfl rfl ⟨rfl,tab,aN.refl⟩ ?_ ?_
 ·rintro p x rr J' σ' e ⟨r0,h,s⟩;have nd:=kW.nodup;rw[e,Pa]at nd;have nm:x∉p:=λhm=>nd.2.2 x hm x LI rfl;refine a6 h.inst λfs a1 a2 a3=>?_;have hx:Φ x=true:=kW.Φ x (e▸MB p LI);have hl:p.length<=16:=Lk (P9 (gN e)) (LL rfl)
  refine J6 (k:=(dr p x:Nat)) (bp (aj r0) rfl a1 rfl (Bp (n:=n) h (λy hy=>kW.Φ y (e▸MZ _ hy)) trivial hx (Mp hl (by decide)) λLu h2 s2=>⟨rfl,nil ⟨r0,?_,s.trans s2⟩⟩))
  rw[show b7 p x=p++[x]from if_neg nm]at h2;exact h2
 ·rintro J' σ' ⟨r0,h,s⟩;refine nil ⟨rfl,H σ' ⟨t,r,i⟩ ⟨h.lt,h.ne,h.inst,h.rows,h.idx,kW⟩ ⟨Lk h0.le (Lk VI.le s.le),λq hq _=>?_⟩⟩;have q0:=L1 hq h0.le;exact(s.keep q (L1 q0 VI.le) λo=>o.elim (MC (L1 q0 l1)) (MC (L1 q0 (Lk k1.le l2)))).trans ((VI.keep q q0 (ht▸MC hq)).trans (h0.keep q hq id))
end
end
noncomputable section
def J8:Empty->Empty->Prop:=λx=>x.elim
def Kl:List TR->Nat->Empty->Prop:=λ_ _ _=>False
def Km:Empty->Prop:=λ_=>True
noncomputable abbrev IM:R0->Prop:=fg Km 6 2 0
noncomputable abbrev Cv (nl:Nat):R1->Prop:=fg IM 9 1254 nl
noncomputable abbrev IN:List TR->Nat->R0->Prop:=iq Kl
noncomputable abbrev FX:List TR->Nat->R1->Prop:=iq IN
noncomputable abbrev FY:R0->R0->Prop:=sB J8
noncomputable abbrev Cw:R1->R1->Prop:=sB FY
theorem FZ:iB Kl:=λ_ _ _ _ _ h=>h
theorem F0:fD Kl:=λ_ _ _ h=>h.elim
theorem F4:iB IN:=iq.mono FZ
theorem Cx:fD IN:=iq.list
theorem abF:iB FX:=iq.mono F4
theorem qw {α:Type}{RA:List TR->Nat->α->Prop}{T:List TR}{p:Nat}{r:Rw α}(h:iq RA T p r)(hs:∀k∈r.all,k.subs=[]):GL T 1 p:=by
 refine tJ h λa h1 h2 h3 h4 h5 h6=>?_;refine⟨a,h1,λe he=>?_⟩;refine ag ((sV ⟨h3,h4,h5,h6⟩).left he) λk hk hR=>?_
 exact⟨hR.canon,λp hp=>(hR.rep.part p hp).imp (λq5=>a6 q5 λa h1 h2 h3=>⟨a,h2,h3⟩) λq7=>ag q7 λs h1 h2=>by replace h1:=(hs k hk)▸h1;contradiction⟩
theorem Cy {T:List TR}{p:Nat}{r:R0}(h:IN T p r):GL T 1 p:=qw h λk _=>match k.subs with|[]=>rfl
theorem F5 {T:List TR}(hT:bu T)(p:Nat)(s:R0)(h:IN T p s):LT T p p:=LT.refl hT (Cy h) (by decide)
theorem xt {T:List TR}{nl p:Nat}{r:R1}(hr:Cv nl r)(h:FX T p r):GL T 2 p:=oo (f:=1) (λp s _ h=>Cy h) hr h
theorem oC {T:List TR}(hT:bu T){nl p q:Nat}{s s':R1}(h1:Cv nl s)(h2:Cv nl s')(h3:FX T p s)(h4:FX T q s'):LT T p q↔Cw s s':=wZ (f:=1) hT Cx (by decide) (λp s _ h=>Cy h) h1 h2 (λp q s s' h1 h2 h3 h4=>wZ (f:=0) hT F0 (by decide) (λp s=>s.elim) h1 h2 (λp q s=>s.elim) (λp s=>s.elim) h3 h4) (F5 hT) h3 h4
theorem kX {nl:Nat}{r:R1}(hr:Cv nl r)(h0:nl=0):∀k∈r.all,k.subs=[]:=λk hk=>
 Pc (Ud.mp (h0▸Lk (sub_le hk) hr.nl))
theorem qx {n nl:Nat}(MS:nl<=6):dU m9 (Cv nl) FX (n+9) 52:=by
 have hE:dU Ki Km Kl (n+2+3) 0:=λσ b T x=>x.elim
 have h0:dU A4 IM IN (n+2+5) 7:=BG (c:=0) FZ F0 hE (by decide) (by decide) (by decide)
 have h1:dU m9 (Cv nl) FX (n+9) (nl*7+9+1):=BG (n:=n+4) F4 Cx h0 (by decide) (by decide) (Lk MS (by decide))
 have hc:nl*7+9+1<=52:=Ou (Qc (Oo 7 MS) 9);exact λσ b T x Q hx h hp H=>h1 σ b T x Q hx h (Lk (M9 hc _) hp) λp T' σ' s r=>H p T' σ' (s.mono hc) r
theorem oD {n nl:Nat}(MS:nl<=6):eF m9 (Cv nl) Cw (n+5):=by
 have hE:eF Ki Km J8 (n+1):=λx=>x.elim
 have h0:eF A4 IM FY (n+3):=Bg (n:=n) hE (by decide) (by decide) (by decide)
 exact Bg (n:=n+2) h0 (by decide) (by decide) (Lk MS (by decide))
theorem Cz {T:List TR}:ν T<=bz T+4:=by
 have h1:=kQ (T:=T);have h2:sM T<=4:=Lk (Wr _ _) (LL rfl);exact Nl h1 h2
theorem ij {T T':List TR}(hT:bu T)(hp:pre T T')(h:ν T'<=ν T+52):bz T'<=bz T+224:=by
 have h1:=BV hT hp;have h2:T'.length<=ν T':=Me _ _;have h3:sM T<=4:=Lk (Wr _ _) (LL rfl);have h4:ν T=T.length+sM T:=rfl
 lia
section
variable {σ σ':St}{b:TB}{T T':List TR}{R:RO}{S:RT}{Z:List (Nat×AO)}{n:Nat}{Q:V->St->Prop}{ρ:Loc}{K:V->St->Prop}{es:List IE}{c f:Nat}
theorem HS.start (h:aY σ b T):HS σ b T []:=⟨h,Pz,cw,cw⟩
theorem EZ (hi:prog.init c=some (some f))(h:XL n es ρ σ λvs LG=>XC n f (.ref LG.n::vs) (LG.new (.inst c [])) λv σ'=>v=.none/\K (.ref LG.n) σ'):XE n (.make c es) ρ σ K:=by
 obtain⟨vs,LG,h1,v,σ',h2,rfl,k⟩:=h;refine⟨_,σ',bs h1 ?_,k⟩;exact bs hi (show Kh (aI prog n) c vs LG (some f)=_ from bs h2 rfl)
theorem E0 {o j e:IE}{ss:List IS}{K:Fl->Loc->St->Prop}(h:XE n e ρ σ λv LG=>∃x y σ',Ev n o ρ LG x/\Ev n j ρ LG y/\eA x y v LG=some σ'/\XS n ss ρ σ' K):XS n (.Ξ o j e::ss) ρ σ K:=by
 obtain⟨v,LG,h,x,y,σ',ho,hj,hs,k⟩:=h
 exact bn (fl:= .next) (bs h (bs ho (bs hj (bs hs rfl)))) k
theorem jv {m:Nat}(h:HS σ b T Z)(H:∀R tr σ',R.m=m->R.tl=true->HS σ' b T (aQ R b (S0 tr) Z)->Q (.ref R.x) σ'):XC (n+5) 84 [.ref b.t,af m] σ Q:=by
 have lt:∀{fs:List (Nat×V)},RE fs.length 13=true->fs.length<=13:=LL;refine ay rfl rfl (bY (EZ (f:=27) rfl (bM (pR (f:=24) rfl rfl (ay rfl rfl (nj (i:=0) (h.new (.inst 1 [])) rfl (lt rfl) rfl rfl λLG (h1:HS LG b T ((σ.n,.inst 1 [(9,.ref b.t)])::Z))=>nj (i:=0) h1 rfl (lt rfl) rfl rfl λLu (h2:HS Lu b T ((σ.n,.inst 1 [(9,.ref b.t),(10,.int 0)])::Z))=>nj (i:=0) h2 rfl (lt rfl) rfl rfl λLY (h3:HS LY b T ((σ.n,.inst 1 [(9,.ref b.t),(10,.int 0),(11,.int 200)])::Z))=>nil ⟨rfl,?_⟩))))))
 generalize σ.n=hh at h3⊢
 refine dC (dD rfl (Ca (n:=n+2) (x:=LY.n) (h:=hh) (m:=m) (h3.new (.inst 2 [])) λNJ R tr e1 e2 e3 e4 h4=>⟨rfl,?_⟩));refine aR e1 ?_;subst e2;refine expr (az (ae (aj rfl) av) (ay rfl rfl (E0 (DV rfl ?_))));have h5:=h4.new (.inst 4 [])
 generalize NJ.n=l at h5⊢
 have gu:=h5.get (i:=1) (r:=R.u) rfl
 refine⟨_,_,_,am rfl (h5.get (i:=2) (r:=R.x) rfl) EJ,rfl,eG gu rfl rfl (LL rfl),nil ⟨rfl,ret (aj rfl) (H {R with l:=l} tr _ e3 e4 (HS.pick (A:=[_,_,_,_,_,_,_,_,_]) (A':=[_,_,_,_,_,_,_,_,_]) (h5.set (i:=1) rfl (.dict [(.int 4,.ref l)])) [8,1,0,2,3,4,5,6,7] (by decide) rfl))⟩⟩
noncomputable def oE:Nat->List (V×V)
 |0=>[]
 |_+1=>[(.int 3,.int 0)]
noncomputable def J9 (k:Nat):V:= .lst ((oE k).map (·.1))
theorem E1 (h:HS σ b T (aQ R b S Z))(H:∀σ',HS σ' b T (aQ R b S Z)->Q (J9 S.ns) σ'):XC (n+1) 2 [.ref R.n] σ Q:=by
 refine ay rfl rfl (bY (gE ?_));have h1:=h.new (.dict []);have gn:=h1.get (i:=9) (r:=R.n) rfl;have gw:=h1.get (i:=8) (r:=R.w) rfl;refine wz (f:=λ_:Unit=>gU) (Mu S.ns ()) (λp J' σ'=>J' 1=some (.ref σ.n)/\HS σ' b T ((σ.n,.dict (oE p.length))::aQ R b S Z)) (am rfl gn IK) (src:=some R.w) ?_ (λp J' σ' hI=>?_) ⟨rfl,h1⟩ ?_ ?_
 ·exact io (f:=Kg R.w) gw (by rw[SM];rfl)
 ·exact io (f:=vC _) (hI.2.get (i:=8) (r:=R.w) rfl) (ad SM (decide_eq_true rfl))
 ·rintro p c r J' σ' e ⟨r1,h2⟩;refine⟨_,rfl,?_⟩;have h3:=h2.set (i:=0) rfl (.dict [(.int 3,.int 0)])
  have hl:oE (p++[c]).length=[(.int 3,.int 0)]:=by(refine ad LH ?_);rfl
  have kd:a8 (.int 3)=true/\bl (oE p.length) (.int 3)=true/\(oE p.length).length<aq/\dj (oE p.length) (.int 3) (.int 0)=[(.int 3,.int 0)]:=by
   rcases p.length with _|_
   ·exact⟨rfl,rfl,LL rfl,rfl⟩
   ·exact⟨rfl,rfl,LL rfl,rfl⟩
  refine Ξ rfl (aj r1) rfl (eG (h2.get (i:=0) rfl) kd.1 kd.2.1 kd.2.2.1) (nil ⟨r1,?_⟩)
  (refine ad hl ?_;refine ad kd.2.2.2 ?_);exact h3
 ·rintro J' σ' ⟨r1,h2⟩;rw[Py]at h2;refine ret (cU (ae (aj r1) av) ?_) (H σ' (h2.drop (TP _ _)));show vB (σ'.g σ.n)=_;(refine ad (h2.get (i:=0) rfl) ?_);dsimp only[vB];rcases S.ns with _|_
  ·rfl
  ·rfl
end
end
noncomputable section
section
variable {σ σ':St}{b:TB}{T T':List TR}{R:RO}{S:RT}{Z:List (Nat×AO)}{n s t:Nat}{Q:V->St->Prop}{ρ:Loc}{K:V->St->Prop}
theorem ID {tr j:Nat}(Mc:bz T<=2800):ju T R j (S0 tr):=⟨Mc,⟨Pz,cw⟩,⟨Pz,cw⟩,λt e=>nomatch e⟩
theorem IF {cp:CD}{e1 e2:IE}(h:XE n e1 ρ σ λx σ=>∃y b,Ev n e2 ρ σ y/\dQ cp σ x y=some b/\K (.bool b) σ):XE n (.cmp cp e1 e2) ρ σ K:=by
 obtain⟨x,LG,h1,y,b,h2,h3,k⟩:=h;exact⟨_,_,bs h1 (bs h2 (bs h3 rfl)),k⟩
theorem mK {t:IE}{a ss:List IS}{K:Fl->Loc->St->Prop}{P:St->Prop}(h:∀M:Bool->St->Prop,(∀σ',P σ'->M false σ')->XT n t ρ σ M)(k:∀σ',P σ'->XS n ss ρ σ' K):XS n (.cond t a []::ss) ρ σ K:=jg (h _ λσ' p=>nil (k σ' p))
theorem E2 {a:Bool}:dQ .ne σ (.bool a) (.bool a)=some false:=by rcases a with _|_<;>rfl
theorem KY {a:Bool}:dQ .eq σ (.bool a) (.bool a)=some true:=by rcases a with _|_<;>rfl
theorem C2 (gs:GL T 2 s)(gt:GL T 2 t):CC T 6 s t:=⟨2,.inl ⟨by decide,.inr gs,.inr gt⟩⟩
theorem j5 {m tr N:Nat}(Nw:m≠2)(hN:130<=N)(h:HS σ b T (aQ R b (S0 tr) Z))(hm:R.m=m)(Mc:bz T<=2800)(gs:GL T 2 s)(gt:GL T 2 t)
  (H:∀a σ' T' S',HS σ' b T' (aQ R b S' Z)->aO R T (S0 tr) T' S' 7390621->(a=true↔cr T m s t)->(a=false->S'.ns=0)->(s=t->S'.ns=0)->(R.tl=true->m=1->a=true->s≠t->Ik T s t->(S'.ns=0↔Lx T s t))->Q (.bool a) σ'):XC N 28 [.ref R.x,af s,af t] σ Q:=by
 by_cases Mm:s=t
 ·obtain⟨n,rfl⟩:∃n,N=n+2:=⟨N-2,(Un (Lk (by decide) hN)).symm⟩
  have H:=H true σ T (S0 tr) h (aO.refl.mono (LP _)) ⟨λ_=>Mm▸cr.refl,λ_=>rfl⟩ (λ_=>rfl) (λ_=>rfl) λ_ _ _ e=>absurd Mm e;exact ay rfl rfl (dG rfl (ay rfl rfl (dH (aA rfl rfl) (KX Mm) (ret rfl H))))
 ·exact(kU Nw 6 (Lv 6)).1 N hN σ b T R (S0 tr) Z s t Q hm h (ID Mc) (C2 gs gt) (by show 0+6<=50;decide) (by show 0+7390621<=8388000;decide) λa σ' z3=>CM z3 λT' S' h1 st ha g1 g2=>H a σ' T' S' h1 st ha (λq=>(g1 q).2) (λq=>absurd q Mm) λe1 e2 e3 e4 e5=>g2 rfl rfl e4 e1 (hm.trans e2) e3 e5
theorem CA {nl:Nat}{small big:R1}{flat:Bool}(h:aY σ b T)(Mc:bz T<=2300)(MS:nl<=6)(hs:Cv nl small)(hb:Cv nl big)(hf:flat=true->nl=0)(H:∀T' σ',aY σ' b T'->bz T'<=bz T+448->Q (.bool true) σ'):XC (n+141) 85 [.ref b.t,m9 small,m9 big,.bool flat] σ Q:=by
 have RP:=Cz (T:=T);refine ay rfl rfl (bY (az rfl (qx (n:=n+131) MS σ b T small _ hs h (Ll [_,_] 1 (.a M2 (.k 52)) (.k 900000) [(1,No,Wp),(1,M2,.a No Sc)] rfl Mc RP) λs T1 LG t1 rs=>bY (az rfl (qx (n:=n+131) MS LG b T1 big _ hb t1.tab ?_ λt T2 Lu t2 rt=>bY (az rfl (oD (n:=n+135) MS small big Lu _ hs hb λright LY hr s3=>?_)))))))
 ·have:=t1.ν;exact Ll [_,_,_] 1 (.a M2 (.k 52)) (.k 900000) [(1,No,Wp),(1,NE,.a No Sc),(1,M2,.a NE (.k 52))] rfl Mc RP this
 have t3:=t2.tab.same s3 id id id;have q1:=ij h.ok t1.pre t1.ν;have q2:=ij t1.tab.ok t2.pre t2.ν;have hT:=t3.ok;have Qn:FX T2 s small:=abF _ _ _ _ t2.pre rs;have gs:=xt hs Qn;have gt:=xt hb rt;have Sm:=oC hT hs hb Qn rt
 have QD:KT T2 s t↔right=true:=((B2 hT gs gt (by decide)).trans Sm).trans hr.symm
 refine bY (az (vs:=[.ref b.t,af 1]) rfl (jv (n:=n+135) (m:=1) (HS.start t3) λR tr NJ hm X1 h4=>?_))
 refine jg (iL (bp rfl rfl h4.gx rfl (j5 (N:=n+140) (m:=1) (by decide) (Yp (by decide)) h4 hm (Ll [_,_,_] 1 M2 (.k 2800) [(1,No,Wp),(1,NE,.a No Tk),(1,M2,.a NE Tk)] rfl Mc q1 q2) gs gt λa Nu T5 S5 h5 Qj ha n1 n2 n3=>?_)))
 obtain rfl:a=right:=QL.mpr (ha.trans ((cr.abp (by decide)).trans QD))
 refine dD rfl ⟨false,E2,nil (mK (P:=λNz=>HS Nz b T5 (aQ R b S5 [])) (λM hM=>?_) λNz h6=>?_)⟩
 ·refine gF (Ev.tp rfl) (λO7=>g0 (iL (bp (am rfl h5.gx yW) av h5.gn rfl (E1 (n:=n+139) h5 λNz h6=>AR ?_)))) λ_=>hM Nu h5;have Tw:=hf O7
  refine gF (Ev.tp rfl) (λOb=>?_) λnat=>dD rfl ⟨false,by(refine ad (n1 (Bool.eq_false_iff.mpr nat)) ?_);rfl,hM Nz h6⟩
  have hl:=hr.mp Ob;have hL:LT T2 s t:=Sm.mpr hl;have Yc:=IC hT Cx (F5 hT) hs hb (kX hs Tw) (kX hb Tw) Qn rt hL
  have key:S5.ns=0↔Eg small big:=by
   by_cases Mm:s=t
   ·subst Mm;obtain⟨p,hp⟩:=gs.ξ;refine⟨λ_=>Yc.mp ((qv hp hp).mpr (.inr ⟨rfl,λx y d=>?_⟩)),λ_=>n2 rfl⟩;refine xu d λm m' i d1 d2 d3 d4 d5 d6=>?_;obtain rfl:m=m':=Rk (Qd d4);replace d6:=d5▸d6;refine aT d6 ?_;exact⟨KS.refl,KS.refl⟩
   ·exact(n3 X1 rfl Ob Mm ⟨qw Qn (kX hs Tw),qw rt (kX hb Tw)⟩).trans Yc
  refine g0 (l6 (az rfl (JR (n:=n+137) hs hb (by decide) (by decide) (λm hm=>a6 (hl.2 m hm) λm' h1 h2 _=>⟨m',h1,h2,λ_ _ _ _ _=>trivial⟩) λw Ow hw s7=>⟨w,rfl,?_⟩)))
  induction w with
  |false=>
   have z:S5.ns=0:=key.mpr (NV.mp λq=>Bool.noConfusion (hw.mpr q))
   exact dD rfl ⟨false,by(refine ad z ?_);rfl,hM Ow (h6.same s7)⟩
  |true=>
   refine(Nat.exists_eq_succ_of_ne_zero λq=>hw.mp rfl (key.mp q)).elim λk z=>?_
   exact dD rfl ⟨false,by(refine ad z ?_);rfl,hM Ow (h6.same s7)⟩
 ·refine dF (IF (ww (az (vs:=[.ref b.t,af 4]) rfl (jv (n:=n+135) (m:=4) (HS.start h6.tab) λR7 tr7 Ow hm7 aaa h7=>⟨_,_,_,_,_,rfl,rfl,h7.gx,rfl,j5 (N:=n+140) (m:=4) (by decide) (Yp (by decide)) h7 hm7 ?_ (gs.ext Qj.pre) (gt.ext Qj.pre) λa' O2 T8 S8 h8 ZD ha8 _ _ _=>?_⟩))))
  ·have:=Qj.ν;exact Ll [_,_,_,_] 1 M2 (.k 2800) [(1,No,Wp),(1,NE,.a No Tk),(1,Op,.a NE Tk),(1,M2,Op)] rfl Mc q1 q2 this
  ·have k5:=cr.ext (m:=4) hT Qj.pre ((C2 gs gt).mono (by decide))
   rw[cr.abp (by decide),cr.abp (by decide)]at k5
   refine aR (QL.mpr (ha8.trans ((cr.abp (by decide)).trans (k5.trans QD)))) ?_
   exact⟨_,true,rfl,KY,H T8 O2 h8.tab (by have:=ZD.ν;have:=Qj.ν;lia)⟩
end
end
noncomputable section
section
variable {σ σ':St}{n d s t deep:Nat}{ρ:Loc}{K:Fl->Loc->St->Prop}{Q:V->St->Prop}{a ss:List IS}{it:IE}{tg:ff}
theorem Ka (h:XE n it ρ σ λx LG=>XS n (.loop tg (.const x) a::ss) ρ LG K):XS n (.loop tg it a::ss) ρ σ K:=by
 obtain⟨x,LG,h,fl,J',σ',h1,k⟩:=h;have e:nx prog (aI prog n) (.loop tg it a) ρ σ=nx prog (aI prog n) (.loop tg (.const x) a) ρ LG:=bs h rfl;exact⟨fl,J',σ',(congrArg (SN · _) e).trans h1,k⟩
theorem E3 {M:Bool->St->Prop}{e1 e2:IE}{es:List IE}(h:XT n e1 ρ σ λb σ=>b=false/\XT n (.ω (e2::es)) ρ σ M):XT n (.ω (e1::e2::es)) ρ σ M:=by
 obtain⟨v,LG,b,h1,h2,rfl,w,Lu,c,k1,k2,k3⟩:=h;exact⟨w,Lu,c,bs h1 (bs h2 k1),k2,k3⟩
theorem F6 (hd:deep<=1)(D:su σ d)(H:∀(x:R1) σ',fg IM 6 2 (deep*6) x->DS d σ σ'->Q (m9 x) σ'):XC (n+5) 71 [.ref d,af deep] σ Q:=A6 (e:=A4) (n:=n+2) ((Nat.le_one_iff_eq_zero_or_eq_one.mp hd).imp_right λh=>⟨h,λσ d Q D H=>A6 (e:=Ki) (ok:=Km) (n:=n) (deep:=0) (.inl rfl) D H⟩) D H
theorem fg.mono {α:Type}{ok:α->Prop}{nk na nl XR RZ:Nat}{r:Rw α}(h:fg ok nk na nl r)(h1:nk<=XR)(h2:na<=RZ):fg ok XR RZ nl r:=⟨h.rl,h.tl,Lk h.nk h1,λk hk=>(h.ks k hk).mono h2,h.nl⟩
noncomputable def Kn:Nat->Nat
 |0=>2
 |i+1=>1+(6+i)*Kn i+Kn i+2
theorem CB:∀i,i<4->Kn i<=1254:=by decide
noncomputable def Kb:IS:= .cond (.cmp .eq (.call 69 [.loc 3,.const (.int 6)]) (.const (.int 5))) [.assign (.loc 6) (.call 71 [.loc 3,.loc 4])] [.assign (.loc 6) (.loc 5),.loop (.loc 7) (.bi .range [.call 69 [.loc 3,.const (.int 4)]]) [.assign (.loc 6) (.call 74 [.loc 3,.loc 6])]]
theorem Kc {small:R1}(Nb:deep<=1)(PN:fg IM 6 2 (deep*6) small)(D:su σ d)(r3:ρ 3=some (.ref d))(r4:ρ 4=some (af deep))(r5:ρ 5=some (m9 small))
  (k:∀big J' σ',Cv (deep*6) big->(∀j,j<=5->J' j=ρ j)->J' 6=some (m9 big)->XS (n+5) ss J' σ' K):XS (n+5) (Kb::ss) ρ σ K:=by
 have MS:deep*6<=6:=Oo 6 Nb
 refine jg (AV (az (ae (aj r3) rfl) (dY (n:=n+4) (m:=6) (by decide) D λx NJ hx s=>⟨_,_,rfl,rfl,λe=>?_,λne=>?_⟩)))
 ·exact bY (az (ae (aj r3) (ae (aj r4) av)) (F6 (n:=n) Nb s.at_ λbig Nu hb s5=>nil (k big _ Nu (hb.mono (by decide) (by decide)) (λj hj=>if_neg (MC (NI hj))) (if_pos rfl))))
 ·refine cV (aj r5) (Ka (AU (dC (az (ae (aj r3) rfl) (dY (n:=n+4) (m:=4) (by decide) s.at_ λy Nu hy s5=>⟨_,iy (Lk (NN hy) (by decide)),?_⟩)))))
  refine gI (f:=af) y (λi J' σ'=>(∀j,j<=5->J' j=ρ j)/\su σ' d/\∃big,fg IM (6+i) (Kn i) (deep*6) big/\J' 6=some (m9 big)) rfl dZ ⟨λj hj=>if_neg (MC (NI hj)),s5.at_,small,PN,if_pos rfl⟩ ?_ ?_
  ·rintro i J' σ' hi ⟨rr,D,big,hb,r6⟩;have Ye:=OD hi hy
   exact bY (az (ae (aj ((rr 3 (by decide)).trans r3)) (ae (aj r6) av)) (HW (n:=n+1) (e:=A4) hb (Ll [_] 1 (.a SL M2) TI [(1,.a M2 On,Sc)] rfl Ye) (Lk (CB i Ye) (by decide)) (Lk MS (by decide)) D λXG Nz Ri s6=>nil ⟨λj hj=>(if_neg (MC (Ll [_] 1 (.a M2 On) SL [(1,M2,Tm)] rfl hj))).trans ((if_neg (MC (Ll [_] 1 (.a M2 On) (.k 7) [(1,M2,Tm)] rfl hj))).trans (rr j hj)),s6.at_,XG,Ri,if_pos rfl⟩))
  ·rintro J' σ' ⟨rr,D,big,hb,r6⟩;exact nil (k big J' σ' (hb.mono (Ll [_] 1 (.a SL M2) (.k 9) [(1,.a M2 On,Sc)] rfl hy) (CB y hy)) rr r6)
theorem aaS (ns:List Int):XC 150 86 [.lst (ns.map .int)] σ λv _=>v=.bool true:=by
 have V3:(ns.take 40).length<aq:=Mp (Yt _ _) (LL rfl)
 refine ay rfl rfl (cV (pV (f:=V.int) (g:=V.int) (xs:=ns.take 40) (ys:=ns.take 40) (wv (z:= .lst ((ns.take 40).map V.int)) rfl rfl (by(refine ad List.map_take ?_);exact Fz (m:=40))) rfl V3 (F2.refl (R:=λx y=>Ev 149 (.loc 1) (Loc.set _ 1 (.int x)) σ (.int y)) (λx=>rfl) _)) (bY (dE (m8 rfl ?_))))
 have D0:su (σ.new (.list [.int 0,.lst ((ns.take 40).map .int)])) σ.n:=⟨Oe _,0,ns.take 40,iw⟩
 generalize σ.new (.list [.int 0,.lst ((ns.take 40).map .int)])=LG at D0⊢
 generalize σ.n=d at D0⊢
 refine bY (sk af (λdeep Lu=>deep<=1/\su Lu d) (λK' k=>JK (gF (jU (cU (ae rfl av) rfl) rfl) (λ_=>g0 (AV (az rfl (dY (n:=148) (m:=2) (by decide) D0 λx Lu hx s1=>⟨_,_,rfl,rfl,λ_=>k 1 Lu ⟨Lv _,s1.at_⟩,λ_=>k 0 Lu ⟨by decide,s1.at_⟩⟩)))) λ_=>k 0 LG ⟨by decide,D0⟩)) ?_)
 rintro deep Lu ⟨Nb,D1⟩;have MS:deep*6<=6:=Oo 6 Nb;refine bY (az rfl (F6 (n:=144) Nb D1 λsmall LY Sb s3=>Kc (n:=144) Nb Sb s3.at_ rfl rfl rfl λbig ρ NJ Rh rr r6=>?_))
 have PN:Cv (deep*6) small:=Sb.mono (by decide) (by decide)
 have r4:ρ 4=some (af deep):=rr 4 (by decide)
 have r5:ρ 5=some (m9 small):=rr 5 (by decide)
 have q0:=vg;have p0:=Cz (T:=b6)
 refine bY (J7 (n:=147) λNu b t5 _=>bY (az (ae rfl (ae (aj r5) av)) (qx (n:=140) MS Nu b b6 small _ PN t5 (MF _ _) λs T1 Nz t6 rs=>bY (az (ae rfl (ae (aj r6) av)) (qx (n:=140) MS Nz b T1 big _ Rh t6.tab (by have:=t6.ν;exact Ll [_,_,_] 1 (.a M2 (.k 52)) (.k 900000) [(1,No,SZ),(1,NE,.a No Sc),(1,M2,.a NE (.k 52))] rfl q0 p0 this) λt T2 Ow t7 rt=>?_)))))
 have q1:=ij t5.ok t6.pre t6.ν;have q2:=ij t6.tab.ok t7.pre t7.ν;have Qn:FX T2 s small:=abF _ _ _ _ t7.pre rs;have hT:=t7.tab.ok;have gs:=xt PN Qn;have gt:=xt Rh rt
 have QD:KT T2 s t↔Cw small big:=(B2 hT gs gt (by decide)).trans (oC hT PN Rh Qn rt)
 refine bY (az (vs:=[.ref b.t,af 1]) rfl (jv (n:=144) (m:=1) (HS.start t7.tab) λR tr O2 hm X1 h8=>setAttr rfl rfl (cP h8.gx (LL rfl)) ?_));have h9:HS _ b T2 (aQ {R with tl:=false} b (S0 tr) []):=h8.set (i:=3) rfl (.inst 2 (eO (eN R (S0 tr)) 20 (.bool false)))
 refine mK (P:=λσ'=>∃T3,pre T2 T3/\bz T3<=bz T2/\aY σ' b T3) (λM hM=>iL (az rfl (Cm (N:=139) (f:=1) (c:=110) (m:=1) (R:={R with tl:=false}) (kU (by decide) 5 (by decide)).1 (λe=>Bool.noConfusion e) hm (by decide) (by decide) (by decide) h9 (ID (Ll [_,_,_] 1 M2 (.k 2800) [(1,No,SZ),(1,NE,.a No Tk),(1,M2,.a NE Tk)] rfl q0 q1 q2)) (by show 0+5<=50;decide) (by show 0+7390621<=8388000;decide) gs gt (λe=>Bool.noConfusion e) λa Ut z1=>cS z1 λT3 S3 Wm M7 ha _=>
  az (ae (aj r5) (ae (aj r6) av)) (oD (n:=144) MS small big Ut _ PN Rh λr Ph hr ZE=>⟨false,?_,hM Ph ⟨T3,M7.pre,M7.ν,Wm.tab.same ZE id id id⟩⟩)))) λPh Zq=>a6 Zq λT3 XQ Tv ZA=>?_
 ·refine aR (QL.mpr (ha.trans ((cr.abp (by decide)).trans (QD.trans hr.symm)))) ?_
  exact E2
 have Yo:GL T3 2 s:=gs.ext XQ;have Yn:GL T3 2 t:=gt.ext XQ;refine bY (az (vs:=[.ref b.t,af 3]) rfl (jv (n:=144) (m:=3) (HS.start ZA) λR' UA RG NC aab TM=>?_));have eqv:∀{a:Bool},(a=true↔s=t)->a=decide ((s:Int)=(t:Int)):=λh=>QL.mpr (h.trans (L9.symm.trans decide_eq_true_iff.symm))
 refine mK (P:=λσ'=>∃T5,aY σ' b T5/\bz T5<=bz T3) (λM hM=>E3 (iL (bp rfl rfl TM.gx rfl (j5 (N:=149) (m:=3) (by decide) (by decide) TM NC (Ll [_,_,_,_] 1 M2 (.k 2800) [(1,No,SZ),(1,NE,.a No Tk),(1,Op,.a NE Tk),(1,M2,Op)] rfl q0 q1 q2 Tv) Yo Yn λa RF T4 S4 SF Pj ha _ _ _=>dD (v:= .bool (decide ((s:Int)=(t:Int)))) rfl ⟨false,?_,rfl,vv (iL (az rfl (FU (N:=139) (f:=1) (c:=110) (kU (m:=1) (by decide) 5 (by decide)).2 NC (by decide) (by decide) SF (Pj.inv 5 (ID (Ll [_,_,_,_] 1 M2 (.k 2800) [(1,No,SZ),(1,NE,.a No Tk),(1,Op,.a NE Tk),(1,M2,Op)] rfl q0 q1 q2 Tv))) ?_ ?_ (Yn.ext Pj.pre) (Yo.ext Pj.pre) λa5 Pg Zo=>cS Zo λT5 S5 SE Qj ha5 _=>dD (v:= .bool (decide ((s:Int)=(t:Int)))) rfl ⟨false,?_,hM Pg ⟨T5,SE.tab,Lk Qj.ν Pj.ν⟩⟩)))⟩)))) λaaI Zn=>ag Zn λT5 Zz Tu=>?_
 ·(refine aR (eqv (ha.trans cr.three)) ?_);exact E2
 ·(refine ad Pj.deep ?_);show 0+5<=50;decide
 ·(refine ad (Pj.sil (.inr NC)) ?_);show 0+7390621<=8388000;decide
 ·(refine aR (eqv (ha5.trans (cr.three.trans eq_comm))) ?_);exact E2
 have O7:decide ((deep:Int)=0)=true->deep*6=0:=λq=>by(refine ad (L9.mp (of_decide_eq_true q)) ?_;rfl)
 refine cV (cu (aj r4) rfl rfl) (dF (Cu (az (ae rfl (ae (aj r5) (ae (aj r6) (ae rfl av)))) (CA (n:=8) Zz (Ll [_,_,_,_,_] 1 M2 Wp [(1,No,SZ),(1,NE,.a No Tk),(1,Op,.a NE Tk),(1,Os,Op),(1,M2,Os)] rfl q0 q1 q2 Tv Tu) MS PN Rh O7 λT6 aan Zy Z6=>⟨true,rfl,λe=>Bool.noConfusion e,λ_=>az (ae rfl (ae (aj r6) (ae (aj r5) (ae rfl av)))) (CA (n:=8) Zy (Ll [_,_,_,_,_,_] 1 M2 Wp [(1,No,SZ),(1,NE,.a No Tk),(1,Op,.a NE Tk),(1,Os,Op),(1,Pi,Os),(1,M2,.a Pi (.k 448))] rfl q0 q1 q2 Tv Tu Z6) MS Rh PN O7 λT7 aax _ _=>rfl)⟩))))
end
end
end Mine.Internal
set_option tactic.hygienic true
namespace Mine.Internal
theorem law_all(l:List Int)(σ:St):∃σ',aI prog 150 86 [.lst (l.map .int)] σ=some (.bool true,σ'):=by
 obtain⟨v,σ',e,rfl⟩:=aaS (σ:=σ) l
 exact⟨σ',e⟩
end Mine.Internal
set_option Elab.async true
open PySem PySem.W PyProof.Rows
namespace Mine.main
abbrev A:=True
theorem a:A:=⟨⟩
def tw10044588960856096794:=a
def tw10047389527955405517:=a
def tw10092017014551392330:=a
def tw10101900104965146230:=a
def tw10114013102757674387:=a
def tw10123989817122485451:=a
def tw10140136200207757160:=a
def tw10149618387772673413:=a
def tw10159738436595150677:=a
def tw10169072693733980587:=a
def tw10199874654664476236:=a
def tw10201359505653846880:=a
def tw10204856939554784155:=a
def tw10231336680788121439:=a
def tw10234815189450012239:=a
def tw10255180020182114038:=a
def tw1027651156746619712:=a
def tw10283388844273144081:=a
def tw10334261112615635914:=a
def tw10363585996791799541:=a
def tw1041082287264499562:=a
def tw10418042200766032776:=a
def tw10450603732522932521:=a
def tw10455743928339290457:=a
def tw1046443281632482020:=a
def tw1054321117371714560:=a
def tw10543740743216835930:=a
def tw10564528347858357063:=a
def tw10642606787283503386:=a
def tw10652611922669240339:=a
def tw10663580350406149668:=a
def tw10665089971535097683:=a
def tw10665469846841522134:=a
def tw10707853282979444102:=a
def tw1075715825243056693:=a
def tw10821422270917381399:=a
def tw1084220662915027778:=a
def tw10864377008497418100:=a
def tw10876229203375891673:=a
def tw10876375607700338302:=a
def tw10877679251791092727:=a
def tw10896356407431480244:=a
def tw1092785777240315536:=a
def tw10953687544409504101:=a
def tw1098248734344127483:=a
def tw10985888656933367436:=a
def tw10992214633131536827:=a
def tw11001617756164336837:=a
def tw11019096307435631222:=a
def tw11020365191643786025:=a
def tw11041547156204584376:=a
def tw11049269918873537771:=a
def tw11086099901593105684:=a
def tw11092141859048813250:=a
def tw11125538497796368324:=a
def tw11129844816282181526:=a
def tw11135027115929721415:=a
def tw11156056980113079860:=a
def tw11171670081947295608:=a
def tw11181722664286889309:=a
def tw11183452524601008856:=a
def tw11213863890663495067:=a
def tw11218778669853930896:=a
def tw11239335112260394413:=a
def tw11251407683458634364:=a
def tw11261727412033496967:=a
def tw11273777480241942364:=a
def tw1130211791997205004:=a
def tw11311155076762098589:=a
def tw11349898740250378076:=a
def tw11374851513655246148:=a
def tw11388154006635350966:=a
def tw11399646045708457374:=a
def tw11403851563620829512:=a
def tw11403970630465759474:=a
def tw11409991511011244131:=a
def tw11410963132546700228:=a
def tw11463369355524808266:=a
def tw11476092923266045095:=a
def tw11487549891475536569:=a
def tw11501822485730972192:=a
def tw1150287232629052791:=a
def tw11531331273489700057:=a
def tw11544348965984651327:=a
def tw11548542833958708988:=a
def tw11554813239044494598:=a
def tw1156462466702112376:=a
def tw1157997071576566072:=a
def tw11595355409239048105:=a
def tw11595507254763858292:=a
def tw11614107205274993552:=a
def tw11646826074482590764:=a
def tw11692516046256081784:=a
def tw11710404883906591787:=a
def tw11712081513822626495:=a
def tw11735423636902730196:=a
def tw11752208632293872130:=a
def tw11774690029378154688:=a
def tw11785714552879321826:=a
def tw1178595665728414349:=a
def tw11789403723227289746:=a
def tw11815829001073249272:=a
def tw11857135199678951331:=a
def tw11867459810104258433:=a
def tw11933201153402537488:=a
def tw11967333016625521393:=a
def tw11982392923317675503:=a
def tw1198661942849946583:=a
def tw11987853993630220354:=a
def tw12014785543569010823:=a
def tw12027323910402764344:=a
def tw12057704586751987240:=a
def tw12077450504624328385:=a
def tw12093647306153771053:=a
def tw12130321265151566525:=a
def tw12139096438432415106:=a
def tw1216228984421328439:=a
def tw12170992721606120685:=a
def tw12205347405646519318:=a
def tw12222963475772708484:=a
def tw12245857906982125569:=a
def tw12252054271945606052:=a
def tw12255313618399501761:=a
def tw12298629886278197574:=a
def tw12332102779922042578:=a
def tw12338497608069007261:=a
def tw12346658559823942425:=a
def tw12361340156312767134:=a
def tw1242282695825638017:=a
def tw12431561837914552411:=a
def tw12431731261707249289:=a
def tw12450111651097656602:=a
def tw12455012482086183272:=a
def tw12463224122652932544:=a
def tw12483276189755474720:=a
def tw12518504611687188807:=a
def tw12519306246395310219:=a
def tw12543713266681445118:=a
def tw12561480436345936813:=a
def tw12564604832814323664:=a
def tw12570134572688502250:=a
def tw12574995316784493246:=a
def tw12590340796369385619:=a
def tw1259162542039736189:=a
def tw12594366453804578888:=a
def tw1261021989165538067:=a
def tw12623159325031504133:=a
def tw12646911602827044314:=a
def tw12653679108036650311:=a
def tw12670839924663504800:=a
def tw12675357926760492328:=a
def tw12681957500809781501:=a
def tw12692632004510240207:=a
def tw1270039299266317192:=a
def tw12732289081945773324:=a
def tw12741544251441588921:=a
def tw12747388180105724736:=a
def tw12751799325998411230:=a
def tw12800608258095302798:=a
def tw12839114828313443825:=a
def tw12872379398031375081:=a
def tw12885385263037960081:=a
def tw12885673836220544336:=a
def tw1289389943133740499:=a
def tw12900284412222446716:=a
def tw12909650291622432550:=a
def tw12915833801598196605:=a
def tw12918388986641309409:=a
def tw12941917028564957548:=a
def tw12942913107403878096:=a
def tw12959741745000181155:=a
def tw12974819211118642341:=a
def tw12987577155417789579:=a
def tw12992176717851604617:=a
def tw1306636233014830658:=a
def tw13110577991587790113:=a
def tw13110970153573199417:=a
def tw13113777628852026922:=a
def tw13116522157475607773:=a
def tw13132915859168520264:=a
def tw13148611719377898607:=a
def tw13154001654789283132:=a
def tw13157206579259725088:=a
def tw13158628489058855221:=a
def tw13180746182150919023:=a
def tw1318968915056948652:=a
def tw1319676515408343850:=a
def tw13224007501803129859:=a
def tw13227692790652741651:=a
def tw1323699475568003887:=a
def tw13260870731297125680:=a
def tw13306352142949925410:=a
def tw13313126695403321540:=a
def tw13348322127785295214:=a
def tw13350764725976880583:=a
def tw13355152605343272895:=a
def tw13402765919934010277:=a
def tw13406003279186336099:=a
def tw13465503431842376007:=a
def tw13532707612510029741:=a
def tw13547569757486424058:=a
def tw13590572293223372214:=a
def tw13591255225166038476:=a
def tw13597483153833180358:=a
def tw13626721169425172152:=a
def tw13642826006792871662:=a
def tw13659225095199136854:=a
def tw13676971244355772609:=a
def tw13693970394777133609:=a
def tw13713940216889387898:=a
def tw1372806426800153423:=a
def tw13777938177461255882:=a
def tw13797323745857372409:=a
def tw13838900630717943254:=a
def tw13876859957761632879:=a
def tw1390771862084280389:=a
def tw13914785722749861914:=a
def tw13962693860625380366:=a
def tw13965128551521907918:=a
def tw13972245371655741198:=a
def tw13974046611088194958:=a
def tw13980345723018547825:=a
def tw13989496423458381343:=a
def tw14009396871252706886:=a
def tw14020873708864708748:=a
def tw14027650596787315314:=a
def tw14048006103596414179:=a
def tw14060465935940456498:=a
def tw14064073609400967072:=a
def tw14080665800827857628:=a
def tw14097447854668400296:=a
def tw1409966394225722968:=a
def tw14106445559736802775:=a
def tw1415428593365352553:=a
def tw14161005256144132680:=a
def tw14168887731352723522:=a
def tw14216407083858561409:=a
def tw14218914174604095658:=a
def tw14235155234550121937:=a
def tw14313897822631088780:=a
def tw14336716466608126219:=a
def tw14364048958407549093:=a
def tw14368271195830560734:=a
def tw14377180257169084997:=a
def tw14377536511252160716:=a
def tw14390754486103292620:=a
def tw1439166485080882:=a
def tw14406990849044604362:=a
def tw14439473939278146460:=a
def tw14443092014599818573:=a
def tw14457758005677747962:=a
def tw14489535830319231195:=a
def tw14492832472218066102:=a
def tw14504180641510445567:=a
def tw1453356044741674121:=a
def tw14535484193269619989:=a
def tw14539993770535171780:=a
def tw1454224541498743561:=a
def tw14562738103837258888:=a
def tw14635473669698735251:=a
def tw14637806741061077295:=a
def tw14639212616227390028:=a
def tw14640416626631428029:=a
def tw14646587721710459877:=a
def tw14662554035588321541:=a
def tw14666387041718499266:=a
def tw14722489848711283861:=a
def tw14759895335926876869:=a
def tw14771111431291430275:=a
def tw14788915703135433725:=a
def tw14793117695081215449:=a
def tw14798791472264738832:=a
def tw14814594519894181452:=a
def tw14826506735785339974:=a
def tw14849204138880929251:=a
def tw14859100970857779836:=a
def tw14864641218109852296:=a
def tw14907226015203709474:=a
def tw14909365282108701170:=a
def tw1496695287857109588:=a
def tw14982579698679351253:=a
def tw15017983477296125989:=a
def tw15022946984557111684:=a
def tw15023316991559800185:=a
def tw15062679425460387418:=a
def tw15079240505294077160:=a
def tw15087427406127887449:=a
def tw15098031235356848795:=a
def tw15131278010643852716:=a
def tw15136431859952498927:=a
def tw15140838672463199983:=a
def tw15170340970326640273:=a
def tw1519927702969063271:=a
def tw15270170921892066516:=a
def tw15277975159832343749:=a
def tw15303317825217679618:=a
def tw15312394840280087653:=a
def tw15356762974548107741:=a
def tw15365013842991253249:=a
def tw15387884906608193903:=a
def tw15410482203810522393:=a
def tw1541561904098433910:=a
def tw15425874342098770709:=a
def tw15438212644395081984:=a
def tw15461212566085484399:=a
def tw15465920861327815835:=a
def tw15467891735981029475:=a
def tw15485851114877660061:=a
def tw15491723280356408159:=a
def tw15510692781650021527:=a
def tw15514936471743626214:=a
def tw15540984915698410164:=a
def tw15554039934745177238:=a
def tw15558288988949320067:=a
def tw15565075772751903193:=a
def tw15579395750891953841:=a
def tw15589955886551607785:=a
def tw15595112118272840620:=a
def tw15606653302220566414:=a
def tw15608450976537380609:=a
def tw15616401959046598769:=a
def tw15624239662980076321:=a
def tw15642941266545998023:=a
def tw15672986146971166658:=a
def tw15734200111481486640:=a
def tw15734660467963936456:=a
def tw15737690656516749961:=a
def tw15768048840197415361:=a
def tw15803610866087392283:=a
def tw15806524323241146399:=a
def tw1587290215689348708:=a
def tw1590763530083325563:=a
def tw15928290008803537013:=a
def tw15949526494057022110:=a
def tw15955573374722617477:=a
def tw15957597259013190341:=a
def tw15970538086172389420:=a
def tw15984706205718930553:=a
def tw16008252555379753968:=a
def tw16008457594558532635:=a
def tw16022572192331126682:=a
def tw16026485685270457870:=a
def tw16046730324260685337:=a
def tw16049902774474827687:=a
def tw16102231251864390963:=a
def tw16128220689672181975:=a
def tw16130491620861596060:=a
def tw16135426469972691074:=a
def tw16153842264607907944:=a
def tw16187894506366716058:=a
def tw161903638078081290:=a
def tw16193401482309157537:=a
def tw16203622797070002922:=a
def tw16218864148678617972:=a
def tw16251939892948500945:=a
def tw1628013610222277130:=a
def tw16304157974115477746:=a
def tw16320215318167395912:=a
def tw1632041292262086317:=a
def tw16320729459185622934:=a
def tw16356685582667847594:=a
def tw16357356043003861740:=a
def tw16411370214107742406:=a
def tw16480584520131690045:=a
def tw16544489699163171333:=a
def tw16551855485269240956:=a
def tw16572128252103988241:=a
def tw16629339528299215175:=a
def tw16641786646906312760:=a
def tw16651728564920304373:=a
def tw16656740534632174751:=a
def tw16676564476587882173:=a
def tw16689149305811164139:=a
def tw16721930046160240684:=a
def tw16723884430069596700:=a
def tw16755849432154420019:=a
def tw16765925921980633802:=a
def tw1677766988990989824:=a
def tw16778611742570070204:=a
def tw16790050636404226231:=a
def tw16798622893749714585:=a
def tw16806246253224384389:=a
def tw16817993663026736274:=a
def tw16819838333489098493:=a
def tw16826212616301561204:=a
def tw16832360635688203351:=a
def tw16863156106696720372:=a
def tw16922381011570985944:=a
def tw16923884221124529275:=a
def tw16950194794029067938:=a
def tw16952715711813285254:=a
def tw16959884160788844718:=a
def tw16965079339398995527:=a
def tw17052023290607921161:=a
def tw17057053908230417247:=a
def tw17067035981215421688:=a
def tw1707505545463187130:=a
def tw17091655785135471103:=a
def tw17096532924672817327:=a
def tw17118054049896295152:=a
def tw17128291446047057950:=a
def tw17146568849442343683:=a
def tw17147588175821073265:=a
def tw1714950047550659301:=a
def tw17223442867436993403:=a
def tw17236958762192778904:=a
def tw17262041522474090127:=a
def tw17268439761433841065:=a
def tw17272174723667511238:=a
def tw17290568124846718506:=a
def tw17292155258170135553:=a
def tw17297283025540448806:=a
def tw17298425922696826006:=a
def tw17336282652733537790:=a
def tw17353955331779342651:=a
def tw17402982504261768225:=a
def tw17413556829735388813:=a
def tw17431719831054627609:=a
def tw17450470499104002142:=a
def tw17453503289922162039:=a
def tw17456035664235451855:=a
def tw17477492558424962760:=a
def tw17495560712657236704:=a
def tw17561526911342447988:=a
def tw17563168436475441343:=a
def tw17585224947871030625:=a
def tw17600866488970185278:=a
def tw17644181745481072423:=a
def tw17647351573629430322:=a
def tw17659147809683748901:=a
def tw17699438841360665129:=a
def tw17708487481403421675:=a
def tw17715262827843222689:=a
def tw17725498274588495791:=a
def tw17767330081159143506:=a
def tw1777545030009416734:=a
def tw1781223760143429554:=a
def tw17871620999419790863:=a
def tw17904854198161793398:=a
def tw17906638245316424091:=a
def tw17919239186061524276:=a
def tw17920292393507637884:=a
def tw17958375852430007124:=a
def tw17965682806626980635:=a
def tw17974016328880235120:=a
def tw18005423509665057918:=a
def tw18029164874364165131:=a
def tw18031918436515192882:=a
def tw18063282731904131703:=a
def tw18107819660038123188:=a
def tw18120430973489738927:=a
def tw18134284020713443437:=a
def tw18162592725011693541:=a
def tw18165044119631177899:=a
def tw18178676814319149831:=a
def tw18190005008629794160:=a
def tw18218335207050127959:=a
def tw18238007617527299592:=a
def tw1826329307503635854:=a
def tw18284262389922463811:=a
def tw18287795668848337631:=a
def tw18288009448212308685:=a
def tw18302796317244248524:=a
def tw18314829044154829275:=a
def tw18315214858253571532:=a
def tw18325589031809861271:=a
def tw18332899500509843999:=a
def tw18344032359734412310:=a
def tw18385570937342765463:=a
def tw18392154025008590481:=a
def tw18403998269306519403:=a
def tw18421580907717582127:=a
def tw18425317256667529438:=a
def tw18442785490491869365:=a
def tw18446094637698972617:=a
def tw1850612553970854742:=a
def tw1886080085820668685:=a
def tw2007339730380871907:=a
def tw2019394398466159022:=a
def tw2033968301974640842:=a
def tw2110754180369666209:=a
def tw2151008862009574835:=a
def tw2156145737304315219:=a
def tw2173562974560187446:=a
def tw2190695567426971638:=a
def tw221546546901971840:=a
def tw221909299271738847:=a
def tw2225956059507018244:=a
def tw223528310411579522:=a
def tw2238316416991798583:=a
def tw2278972029675796859:=a
def tw2279707942289718827:=a
def tw2280639744905098872:=a
def tw2287757881348798766:=a
def tw2337230598321646361:=a
def tw2341703837736514645:=a
def tw2343935838158425641:=a
def tw234599468654550697:=a
def tw2363833142923657126:=a
def tw2373237607127697691:=a
def tw2399826469436781019:=a
def tw2402762420636078793:=a
def tw2406621943657119228:=a
def tw2433702464844828792:=a
def tw2496676261509829067:=a
def tw2524017781993486291:=a
def tw2538046985915079169:=a
def tw2544328076492683441:=a
def tw2566753976717531306:=a
def tw2629084897520917108:=a
def tw2647654807098235363:=a
def tw2675658811408624930:=a
def tw2702614204127132176:=a
def tw2704602940660078815:=a
def tw2724176850512262202:=a
def tw2729793432009153956:=a
def tw2744014450722944760:=a
def tw2750411421705246143:=a
def tw2759098988195820126:=a
def tw2794983428953441941:=a
def tw2821470743931037460:=a
def tw2852251193174398662:=a
def tw2895952525429962455:=a
def tw2900998541784483753:=a
def tw2906824675625879941:=a
def tw2921621734765799159:=a
def tw2921958311620399285:=a
def tw2923286348875671695:=a
def tw2965820268544440810:=a
def tw302440914744352476:=a
def tw3027586509356016917:=a
def tw308427716283879934:=a
def tw3136416535801588117:=a
def tw3137596982192898869:=a
def tw3160845607165458772:=a
def tw3220561703981169602:=a
def tw3222223853247747169:=a
def tw3234112476842188716:=a
def tw3262662943086543052:=a
def tw3275944671136992505:=a
def tw3288582142898991060:=a
def tw3299218664060906527:=a
def tw330327031418712150:=a
def tw3305931106042330821:=a
def tw3333744540012665435:=a
def tw3343439749351644125:=a
def tw33456957511925785:=a
def tw3370190323706015969:=a
def tw3370842686811476594:=a
def tw3374421720907634814:=a
def tw3394367416137920725:=a
def tw341453280667917650:=a
def tw3454311308915712629:=a
def tw3459380146013217038:=a
def tw3464709057266567092:=a
def tw3485684062173492111:=a
def tw3491332818749588091:=a
def tw3532412968194664532:=a
def tw3549514262204291990:=a
def tw3557749057250611081:=a
def tw3562595001068472590:=a
def tw3583811862363856187:=a
def tw3613476055612923068:=a
def tw3626430660855392483:=a
def tw3627144658338631552:=a
def tw3635900802997115186:=a
def tw365850788961202214:=a
def tw3706830351922483016:=a
def tw3714520120236048840:=a
def tw3724484323120607773:=a
def tw372505627349444580:=a
def tw3731879374237491455:=a
def tw3748114642381145586:=a
def tw3779293765908593550:=a
def tw3796207824708393856:=a
def tw3802909885329417858:=a
def tw3829396358689915599:=a
def tw3848698983108048278:=a
def tw3864431920445960829:=a
def tw3867218068155391060:=a
def tw387501639795913443:=a
def tw3905226178654972811:=a
def tw3911810758690780188:=a
def tw3960113756560652017:=a
def tw3994622017586750766:=a
def tw4036238207498611232:=a
def tw4038153913678941442:=a
def tw4044139247061151142:=a
def tw4047586217144654443:=a
def tw4072190877284726289:=a
def tw4088224383575840552:=a
def tw4139100593308808776:=a
def tw4156125974679941130:=a
def tw4172408665719869453:=a
def tw4189750870438640210:=a
def tw4193505271845495863:=a
def tw4216741518440994707:=a
def tw4244067443239231564:=a
def tw4261964983698606537:=a
def tw4297412468100583042:=a
def tw4310270188432123100:=a
def tw4324958949535026087:=a
def tw4330594992337426955:=a
def tw4333880214566435006:=a
def tw4350604851675314991:=a
def tw4365514962571936147:=a
def tw4413345314126155841:=a
def tw4420394385881154636:=a
def tw4452170602077327944:=a
def tw4458048076830672230:=a
def tw4491334807805099456:=a
def tw4502447428920916452:=a
def tw452746233719593009:=a
def tw453184122279072053:=a
def tw4544244032028310869:=a
def tw4573282807186111410:=a
def tw4585930131862741453:=a
def tw4605139254293405059:=a
def tw4630824681090250767:=a
def tw4637267157515435788:=a
def tw4638281056170512193:=a
def tw4644634924443464280:=a
def tw4681395471914393968:=a
def tw470481871638761223:=a
def tw471287901995484742:=a
def tw474381771622712015:=a
def tw4749052000479324790:=a
def tw4766233809647381661:=a
def tw4775608329324902142:=a
def tw480701840831765632:=a
def tw4812270449578504274:=a
def tw4817600198373253283:=a
def tw4838787530573997063:=a
def tw4839478117068044826:=a
def tw4886955015573163100:=a
def tw4900431672193113347:=a
def tw4908570168794737769:=a
def tw4917070330192852093:=a
def tw4924694640843408985:=a
def tw4946776927847147119:=a
def tw495442525896006271:=a
def tw4990475226369331113:=a
def tw5004366561265856203:=a
def tw5061512775090418087:=a
def tw5084117380071580128:=a
def tw5091726699305991454:=a
def tw5102693214775723256:=a
def tw5104194264097766351:=a
def tw5127751686995613262:=a
def tw5181119749688162637:=a
def tw5203219222101121401:=a
def tw52199770228462824:=a
def tw5240779543111244032:=a
def tw5243159528196176124:=a
def tw5268168578311729375:=a
def tw5287059835090251167:=a
def tw5289026146741335887:=a
def tw5309058905264134205:=a
def tw5363903885879670357:=a
def tw5372645768047454471:=a
def tw5396188567872606041:=a
def tw5396361742852586263:=a
def tw5400957986263281647:=a
def tw5418533224930618480:=a
def tw5435614590818080486:=a
def tw5436791530062809996:=a
def tw5450094653865882931:=a
def tw545269030811804461:=a
def tw5456330333991267789:=a
def tw5461779845614304980:=a
def tw54841869916938688:=a
def tw5518243967957118194:=a
def tw5532463470591059822:=a
def tw5534937755968359062:=a
def tw5566141238382327452:=a
def tw5571399437266216444:=a
def tw5585478044538960755:=a
def tw5613160597433933154:=a
def tw5616070069386785504:=a
def tw5623159541915647742:=a
def tw5638201095994319732:=a
def tw5649967823195072380:=a
def tw5665406974723832613:=a
def tw5665735395497279834:=a
def tw5671064798259553346:=a
def tw5677329702179833609:=a
def tw5781596087445459943:=a
def tw5790326737455844299:=a
def tw5797031442667253490:=a
def tw5831584030425509755:=a
def tw5837888446457221635:=a
def tw5838101520590548733:=a
def tw5842977544298395883:=a
def tw5871769198996169552:=a
def tw588950844065142505:=a
def tw5890889631881817875:=a
def tw5921134243170700561:=a
def tw5995161000843957690:=a
def tw6044114016751833949:=a
def tw6053611964639427726:=a
def tw6075091234017535682:=a
def tw6087835443962453003:=a
def tw6112859857366181021:=a
def tw6140287776057189764:=a
def tw6141649932489104006:=a
def tw6161133996638707016:=a
def tw6162249291895867263:=a
def tw6164561884633627433:=a
def tw6210118697743288655:=a
def tw6214117541549086881:=a
def tw6234934611588079204:=a
def tw6237627108579964202:=a
def tw6252391252262179987:=a
def tw6254453501864316152:=a
def tw6264281720289328834:=a
def tw6283666216762299864:=a
def tw6361450105264607166:=a
def tw6389877041954997217:=a
def tw6404898279339705064:=a
def tw6418098437765475518:=a
def tw6437645805973890128:=a
def tw6449824600675878752:=a
def tw645136716886899192:=a
def tw6455149578367423246:=a
def tw6508729118710982530:=a
def tw6511744376749373798:=a
def tw6519269512792494810:=a
def tw6535589618603614281:=a
def tw6541472054586571296:=a
def tw6542085627976250192:=a
def tw6545385358150927430:=a
def tw6557543464795787104:=a
def tw656089360051881306:=a
def tw65644731488775911:=a
def tw6565609875121592624:=a
def tw6584820252761975732:=a
def tw6596593509180878263:=a
def tw6605025701479795990:=a
def tw6607309333429837270:=a
def tw6635558491612396129:=a
def tw6639522245352263942:=a
def tw6655696309031964122:=a
def tw6657087868060814:=a
def tw6660377722381337597:=a
def tw6674893403203295414:=a
def tw6696893160125735727:=a
def tw6697339332421208802:=a
def tw6702130215012162313:=a
def tw6741292078354696603:=a
def tw6768520987592691376:=a
def tw6785432497481299714:=a
def tw6785657489111691699:=a
def tw6788530277367551627:=a
def tw6788695710022549768:=a
def tw6801380410627298636:=a
def tw681127517646744459:=a
def tw6855474311058116810:=a
def tw6862268138105152660:=a
def tw6862492499505807319:=a
def tw6868236387235032019:=a
def tw6877560268529008848:=a
def tw6880717277089553138:=a
def tw6886502059237256666:=a
def tw6898400011967081535:=a
def tw6907636171062424033:=a
def tw6910295442248876197:=a
def tw6912675738884088206:=a
def tw6981815665589151136:=a
def tw7010351842590255796:=a
def tw7054876372555587774:=a
def tw7070123817558143148:=a
def tw7073996269223845280:=a
def tw7074144079889050967:=a
def tw7093617532817203218:=a
def tw7108953243070827183:=a
def tw7113585516715319716:=a
def tw7127207771031481513:=a
def tw7142256002058171272:=a
def tw7153082081811710619:=a
def tw716429049611869786:=a
def tw7165207203227711834:=a
def tw7173623326730630234:=a
def tw7186131708394509389:=a
def tw7214478077546791972:=a
def tw7235775444256392728:=a
def tw7237411587787531456:=a
def tw7238065321881607702:=a
def tw7268301785047649679:=a
def tw7273056430967151046:=a
def tw7297187181890747607:=a
def tw7298748307773712898:=a
def tw7308723440029596264:=a
def tw7332330508316399935:=a
def tw7332552209862256014:=a
def tw73751810991705359:=a
def tw7411558596216406370:=a
def tw7439787175107056256:=a
def tw7472368607099979303:=a
def tw750237026923860459:=a
def tw7514964652732493775:=a
def tw7563215957194029611:=a
def tw7590696779544312186:=a
def tw7591743695986301205:=a
def tw7623509227018997848:=a
def tw7624122152786673341:=a
def tw7639352225515584698:=a
def tw765107192605250810:=a
def tw7675930258259734528:=a
def tw7699798408344515789:=a
def tw7742616358663508648:=a
def tw7751025194823839400:=a
def tw7761410557224570781:=a
def tw7846812961960373227:=a
def tw785246043732427063:=a
def tw7875838824674609581:=a
def tw7883848961242879871:=a
def tw7884273913378172499:=a
def tw7884331609784382070:=a
def tw7904437144335635152:=a
def tw7943094425149488825:=a
def tw796168687070700412:=a
def tw7972779244933481256:=a
def tw799486724532869496:=a
def tw8046773169563483271:=a
def tw8079908401900000222:=a
def tw8090509862211737132:=a
def tw8118072479153026202:=a
def tw8127475511531132179:=a
def tw8207831470162742035:=a
def tw8211959896082780389:=a
def tw8228058824784995430:=a
def tw8249873531624179374:=a
def tw8260724100714396741:=a
def tw8265370782698574782:=a
def tw8281396171620568247:=a
def tw8283060676807011144:=a
def tw832900586485598795:=a
def tw833945537157984683:=a
def tw8344989883159853150:=a
def tw834873547066669988:=a
def tw8427638858588021438:=a
def tw8440099810896429113:=a
def tw8466321980469482115:=a
def tw8467378866343419333:=a
def tw8475525182357872103:=a
def tw8478376212529829071:=a
def tw8492455212021363390:=a
def tw8528285597010949478:=a
def tw8546124895413445307:=a
def tw8548823596671561066:=a
def tw854977524454699277:=a
def tw8567518541235275850:=a
def tw8627561154394265716:=a
def tw8634654232796393261:=a
def tw8650628079126297760:=a
def tw8651587035891514320:=a
def tw8652556701797213591:=a
def tw8663697691656813868:=a
def tw8681388529863501421:=a
def tw8707812797481193996:=a
def tw8828626079734051433:=a
def tw8834365191522931223:=a
def tw8844999433837080629:=a
def tw8879939841973710529:=a
def tw8883465813499100731:=a
def tw8905464785575363620:=a
def tw8905992674379837232:=a
def tw892681787802806017:=a
def tw8947760058931562597:=a
def tw8952462522180670554:=a
def tw8984930932524396370:=a
def tw8989776476301544223:=a
def tw9011639564254621642:=a
def tw9069182735580402390:=a
def tw9071729483887776986:=a
def tw9121559901702372667:=a
def tw9154295596543214463:=a
def tw9161159452563919750:=a
def tw917386388269078853:=a
def tw9175052073728820173:=a
def tw918671981122897330:=a
def tw9189880136782149556:=a
def tw9190990891756207365:=a
def tw9265829497004654079:=a
def tw9268297945177815525:=a
def tw9274054859765456524:=a
def tw9293455121233016472:=a
def tw9302470337196694018:=a
def tw9303439499767911484:=a
def tw9321267617633783869:=a
def tw9360745474812902239:=a
def tw9361300454564663673:=a
def tw9369988214560726041:=a
def tw9376575566392132001:=a
def tw9381886862466946253:=a
def tw9391614825396419720:=a
def tw9392487213469676918:=a
def tw9394770849952503311:=a
def tw9406782406253462049:=a
def tw9417822746687237092:=a
def tw9458421452666605423:=a
def tw9470667924834194258:=a
def tw9483696857397876608:=a
def tw9498315638749924794:=a
def tw9508770018378322450:=a
def tw9512817274939609580:=a
def tw9515011664573035354:=a
def tw9561784451562097942:=a
def tw9563168847844234846:=a
def tw9573086628692744296:=a
def tw961187720498965250:=a
def tw962032349192862916:=a
def tw962193829226610041:=a
def tw9656510801202774680:=a
def tw9670510015898674028:=a
def tw9681375758050803366:=a
def tw9682133043923132273:=a
def tw9693634834776466397:=a
def tw9703084557020090508:=a
def tw9716624006974247489:=a
def tw9730157408454304684:=a
def tw9747897558166968733:=a
def tw9756827057097773860:=a
def tw979501456738626862:=a
def tw9805073567392920601:=a
def tw9805168224760091760:=a
def tw9840939614602229412:=a
def tw12654670342315641716:=a
def tw9848185148710128376:=a
def tw9880953963774564861:=a
def tw9897820754763898449:=a
def tw9903775340124721222:=a
def tw9921674830905687873:=a
def tw9925469786538053656:=a
def tw9942282790977331292:=a
def tw9957550378297406723:=a
def tw9964214247947446159:=a
def tw9976160756891316704:=a
def tw9994787619460420439:=a
end Mine.main
namespace Mine
set_option maxHeartbeats 8000000 in
theorem main:PySem.Challenge.rw_or0005_01.Holds:=by
 w_on
 o_law
 k_head
 (case hw => w_witness2)
 refine Internal.aai (l:=PySem.Challenge.rw_or0005_01) rfl rfl (fun P=>⟨?_,?_,?_,?_,?_⟩) (fun P=>Internal.aao (Internal.aau ?_ ?_ ?_ ?_ ?_ ?_) (Internal.aau ?_ ?_ ?_ ?_ ?_ ?_)) (fun P=>?_) Internal.law_all
 all_goals kernel_rfl
end Mine
theorem PySem.Challenge.cw_or0005_01_holds : PySem.Challenge.rw_or0005_01.Holds :=
  _root_.Mine.main
