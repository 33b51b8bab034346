import PyProof.Rows.All
import Wide.All
import OpenK.AllK
import Wide.FinOn
import PyProof.ExcBaseAll.Exception
import PyProof.ExcAttrAll.Exception
import PyProof.InstStoreFacts
import KE.KNest
import KE.KLam
import PyProof.TableCode
import PySem.Challenge.RW_pq0716_01
set_option Elab.async false
set_option linter.all false
set_option genSizeOf false
set_option genCtorIdx false
set_option bootstrap.genMatcherCode false
set_option genInjectivity false
set_option maxRecDepth 100000
set_option maxHeartbeats 8000000
open PySem renaming wpAny_bind->b9,Value->bo,Shared->ce,wpAny_pure->ct,wpAny->dk,wpAny_mono->dt,Around->ef,call->f5,wpAny_holding->gv,NameKind->i3,wpAny_standAt->io,Builtin->je,PyData->ty,codeAny->z9,wpAny_field->B2,FuncData->C4,DictEntry->FB,wpAny_newObj_type->GX,wpAny_loadPart_at->H4,Program->KE,strKind->L1
open Nat renaming eq_of_beq_eq_true->bz,le_of_ble_eq_true->bY,beq->c6,le_refl->e5,ble->eL,lt_succ_self->f2,lt_of_lt_of_le->f3,le_trans->hD,ble_eq_true_of_le->iw,lt_succ_iff_lt_or_eq->ja,add->jf,not_lt_of_le->ji,blt->l9,lt_irrefl->nY,le_of_not_lt->ot,lt_of_le_of_lt->p0,ne_of_lt->rd,le_succ->sr,le_add_right->t6,lt_succ_of_lt->vb,mul_le_mul_right->w7,beq_refl->xd,ne_of_beq_eq_false->xy,ne_of_gt->H5,zero_le->L2,casesOn->L3
open List renaming all_eq_true->dV,mem_cons->gg,length_map->jb,reverse_cons->kf,lookup_cons->kV,length_cons->l7,mem_map->mc,map_cons->ol,size_toArray->oL,nodup_cons->rc,length_append->sh,append_nil->sz,forIn_cons->tc,of_mem_zip->AQ,not_mem_nil->B3,length_reverse->C5,getElem?_eq_some_iff->C7,pairwise_cons->C8,mem_flatMap->E7,length_drop->I1,length_singleton->I3
open PySem.Str renaming ofString->dX,join->E9
open PySem.Heap renaming get?_push_of_some->f4,get?_push_size->fI,get?_update_other->ix,lt_size->l4,get?_update_self->l5,get?_none_of_le->E8,size_push->I2
open Bool renaming and_eq_true->h9,and_eq_true_iff->kF,or_eq_true_iff->l8,false_eq_true->B0,not_eq_true'->C3
open Array renaming length_toList->ir,getElem?_toList->u3,toArray_toList->B1,getElem?_eq_some_iff->C2,getElem?_setIfInBounds_ne->C6
open PySem.Obj renaming mapSeq->jj,data_mapFields->q0,mapFields->B4,isFreed_of_fields->IC
open Option.some renaming inj->ma
open PySem.PyData renaming eqv->np,canLay0->C1,depth->H6
open PySem.Builtin._codecs renaming utf8Codec->nI
open Int renaming fmod_eq_emod_of_nonneg->wa,ofNat->x0
open PySem.Builtin.Range renaming rangeSize->H1
noncomputable section
namespace Mine
open PySem
theorem aS {G:Prop} (h:false=true):G:=by cases h
theorem bj {α:Type} {a:α} {G:Prop} (h:none=some a):G:=by cases h
theorem t9 {α:Type} {a:α} {G:Prop} (h:some a=none):G:=by cases h
theorem am {P1 P2:Prop} {G:Prop} (h:P1/\P2) (k:P1->P2->G):G:=k h.1 h.2
theorem cE {P1 P2 P3:Prop} {G:Prop} (h:P1/\P2/\P3) (k:P1->P2->P3->G):G:=k h.1 h.2.1 h.2.2
theorem oM {P1 P2 P3 P4:Prop} {G:Prop} (h:P1/\P2/\P3/\P4) (k:P1->P2->P3->P4->G):G:=k h.1 h.2.1 h.2.2.1 h.2.2.2
theorem GT {P1 P2 P3 P4 P5:Prop} {G:Prop} (h:P1/\P2/\P3/\P4/\P5) (k:P1->P2->P3->P4->P5->G):G:=k h.1 h.2.1 h.2.2.1 h.2.2.2.1 h.2.2.2.2
theorem aG {α:Sort _} {P1:α->Prop} {G:Prop} (h:∃a,P1 a) (k:∀a,P1 a->G):G:=h.elim fun a h=>k a h
theorem ai {α:Sort _} {P1 P2:α->Prop} {G:Prop} (h:∃a,P1 a/\P2 a) (k:∀a,P1 a->P2 a->G):G:=h.elim fun a h=>k a h.1 h.2
theorem dS {α:Sort _} {P1 P2 P3:α->Prop} {G:Prop} (h:∃a,P1 a/\P2 a/\P3 a) (k:∀a,P1 a->P2 a->P3 a->G):G:=h.elim fun a h=>k a h.1 h.2.1 h.2.2
theorem qG {α:Sort _} {P1 P2 P3 P4:α->Prop} {G:Prop} (h:∃a,P1 a/\P2 a/\P3 a/\P4 a) (k:∀a,P1 a->P2 a->P3 a->P4 a->G):G:=h.elim fun a h=>k a h.1 h.2.1 h.2.2.1 h.2.2.2
theorem zW {α:Sort _} {P1 P2 P3 P4 P5:α->Prop} {G:Prop} (h:∃a,P1 a/\P2 a/\P3 a/\P4 a/\P5 a) (k:∀a,P1 a->P2 a->P3 a->P4 a->P5 a->G):G:=h.elim fun a h=>k a h.1 h.2.1 h.2.2.1 h.2.2.2.1 h.2.2.2.2
theorem NU {α:Sort _} {P1 P2 P3 P4 P5 P6 P7:α->Prop} {G:Prop} (h:∃a,P1 a/\P2 a/\P3 a/\P4 a/\P5 a/\P6 a/\P7 a) (k:∀a,P1 a->P2 a->P3 a->P4 a->P5 a->P6 a->P7 a->G):G:=h.elim fun a h=>k a h.1 h.2.1 h.2.2.1 h.2.2.2.1 h.2.2.2.2.1 h.2.2.2.2.2.1 h.2.2.2.2.2.2
theorem eM {α:Sort _} {β:Sort _} {P1:α->β->Prop} {G:Prop} (h:∃a b,P1 a b) (k:∀a b,P1 a b->G):G:=h.elim fun a h=>h.elim fun b h=>k a b h
theorem bx {α:Sort _} {β:Sort _} {P1 P2:α->β->Prop} {G:Prop} (h:∃a b,P1 a b/\P2 a b) (k:∀a b,P1 a b->P2 a b->G):G:=h.elim fun a h=>h.elim fun b h=>k a b h.1 h.2
theorem aA {α:Sort _} {β:Sort _} {P1 P2 P3:α->β->Prop} {G:Prop} (h:∃a b,P1 a b/\P2 a b/\P3 a b) (k:∀a b,P1 a b->P2 a b->P3 a b->G):G:=h.elim fun a h=>h.elim fun b h=>k a b h.1 h.2.1 h.2.2
theorem iE {α:Sort _} {β:Sort _} {P1 P2 P3 P4:α->β->Prop} {G:Prop} (h:∃a b,P1 a b/\P2 a b/\P3 a b/\P4 a b) (k:∀a b,P1 a b->P2 a b->P3 a b->P4 a b->G):G:=h.elim fun a h=>h.elim fun b h=>k a b h.1 h.2.1 h.2.2.1 h.2.2.2
theorem qH {α:Sort _} {β:Sort _} {P1 P2 P3 P4 P5:α->β->Prop} {G:Prop} (h:∃a b,P1 a b/\P2 a b/\P3 a b/\P4 a b/\P5 a b) (k:∀a b,P1 a b->P2 a b->P3 a b->P4 a b->P5 a b->G):G:=h.elim fun a h=>h.elim fun b h=>k a b h.1 h.2.1 h.2.2.1 h.2.2.2.1 h.2.2.2.2
theorem NV {α:Sort _} {β:Sort _} {P1 P2 P3 P4 P5 P6:α->β->Prop} {G:Prop} (h:∃a b,P1 a b/\P2 a b/\P3 a b/\P4 a b/\P5 a b/\P6 a b) (k:∀a b,P1 a b->P2 a b->P3 a b->P4 a b->P5 a b->P6 a b->G):G:=h.elim fun a h=>h.elim fun b h=>k a b h.1 h.2.1 h.2.2.1 h.2.2.2.1 h.2.2.2.2.1 h.2.2.2.2.2
theorem oN {α:Sort _} {β:Sort _} {P1 P2 P3 P4 P5 P6 P7:α->β->Prop} {G:Prop} (h:∃a b,P1 a b/\P2 a b/\P3 a b/\P4 a b/\P5 a b/\P6 a b/\P7 a b) (k:∀a b,P1 a b->P2 a b->P3 a b->P4 a b->P5 a b->P6 a b->P7 a b->G):G:=h.elim fun a h=>h.elim fun b h=>k a b h.1 h.2.1 h.2.2.1 h.2.2.2.1 h.2.2.2.2.1 h.2.2.2.2.2.1 h.2.2.2.2.2.2
theorem NW {α:Sort _} {β:Sort _} {γ:Sort _} {P1:α->β->γ->Prop} {G:Prop} (h:∃a b c,P1 a b c) (k:∀a b c,P1 a b c->G):G:=h.elim fun a h=>h.elim fun b h=>h.elim fun c h=>k a b c h
theorem hU {α:Sort _} {β:Sort _} {γ:Sort _} {P1 P2:α->β->γ->Prop} {G:Prop} (h:∃a b c,P1 a b c/\P2 a b c) (k:∀a b c,P1 a b c->P2 a b c->G):G:=h.elim fun a h=>h.elim fun b h=>h.elim fun c h=>k a b c h.1 h.2
theorem lc {α:Sort _} {β:Sort _} {γ:Sort _} {P1 P2 P3:α->β->γ->Prop} {G:Prop} (h:∃a b c,P1 a b c/\P2 a b c/\P3 a b c) (k:∀a b c,P1 a b c->P2 a b c->P3 a b c->G):G:=h.elim fun a h=>h.elim fun b h=>h.elim fun c h=>k a b c h.1 h.2.1 h.2.2
theorem lf {α:Sort _} {β:Sort _} {γ:Sort _} {P1 P2 P3 P4:α->β->γ->Prop} {G:Prop} (h:∃a b c,P1 a b c/\P2 a b c/\P3 a b c/\P4 a b c) (k:∀a b c,P1 a b c->P2 a b c->P3 a b c->P4 a b c->G):G:=h.elim fun a h=>h.elim fun b h=>h.elim fun c h=>k a b c h.1 h.2.1 h.2.2.1 h.2.2.2
theorem GU {α:Sort _} {β:Sort _} {γ:Sort _} {P1 P2 P3 P4 P5:α->β->γ->Prop} {G:Prop} (h:∃a b c,P1 a b c/\P2 a b c/\P3 a b c/\P4 a b c/\P5 a b c) (k:∀a b c,P1 a b c->P2 a b c->P3 a b c->P4 a b c->P5 a b c->G):G:=h.elim fun a h=>h.elim fun b h=>h.elim fun c h=>k a b c h.1 h.2.1 h.2.2.1 h.2.2.2.1 h.2.2.2.2
theorem zX {α:Sort _} {β:Sort _} {γ:Sort _} {P1 P2 P3 P4 P5 P6:α->β->γ->Prop} {G:Prop} (h:∃a b c,P1 a b c/\P2 a b c/\P3 a b c/\P4 a b c/\P5 a b c/\P6 a b c) (k:∀a b c,P1 a b c->P2 a b c->P3 a b c->P4 a b c->P5 a b c->P6 a b c->G):G:=h.elim fun a h=>h.elim fun b h=>h.elim fun c h=>k a b c h.1 h.2.1 h.2.2.1 h.2.2.2.1 h.2.2.2.2.1 h.2.2.2.2.2
theorem oO {α:Sort _} {β:Sort _} {γ:Sort _} {δ:Sort _} {P1:α->β->γ->δ->Prop} {G:Prop} (h:∃a b c d,P1 a b c d) (k:∀a b c d,P1 a b c d->G):G:=h.elim fun a h=>h.elim fun b h=>h.elim fun c h=>h.elim fun d h=>k a b c d h
theorem GV {α:Sort _} {β:Sort _} {γ:Sort _} {δ:Sort _} {P1 P2:α->β->γ->δ->Prop} {G:Prop} (h:∃a b c d,P1 a b c d/\P2 a b c d) (k:∀a b c d,P1 a b c d->P2 a b c d->G):G:=h.elim fun a h=>h.elim fun b h=>h.elim fun c h=>h.elim fun d h=>k a b c d h.1 h.2
theorem vM {α:Sort _} {β:Sort _} {γ:Sort _} {δ:Sort _} {P1 P2 P3:α->β->γ->δ->Prop} {G:Prop} (h:∃a b c d,P1 a b c d/\P2 a b c d/\P3 a b c d) (k:∀a b c d,P1 a b c d->P2 a b c d->P3 a b c d->G):G:=h.elim fun a h=>h.elim fun b h=>h.elim fun c h=>h.elim fun d h=>k a b c d h.1 h.2.1 h.2.2
theorem NX {α:Sort _} {β:Sort _} {γ:Sort _} {δ:Sort _} {P1 P2 P3 P4:α->β->γ->δ->Prop} {G:Prop} (h:∃a b c d,P1 a b c d/\P2 a b c d/\P3 a b c d/\P4 a b c d) (k:∀a b c d,P1 a b c d->P2 a b c d->P3 a b c d->P4 a b c d->G):G:=h.elim fun a h=>h.elim fun b h=>h.elim fun c h=>h.elim fun d h=>k a b c d h.1 h.2.1 h.2.2.1 h.2.2.2
theorem GW {α:Sort _} {β:Sort _} {γ:Sort _} {δ:Sort _} {P1 P2 P3 P4 P5:α->β->γ->δ->Prop} {G:Prop} (h:∃a b c d,P1 a b c d/\P2 a b c d/\P3 a b c d/\P4 a b c d/\P5 a b c d) (k:∀a b c d,P1 a b c d->P2 a b c d->P3 a b c d->P4 a b c d->P5 a b c d->G):G:=h.elim fun a h=>h.elim fun b h=>h.elim fun c h=>h.elim fun d h=>k a b c d h.1 h.2.1 h.2.2.1 h.2.2.2.1 h.2.2.2.2
theorem vN {α:Sort _} {β:Sort _} {γ:Sort _} {δ:Sort _} {P1 P2 P3 P4 P5 P6:α->β->γ->δ->Prop} {G:Prop} (h:∃a b c d,P1 a b c d/\P2 a b c d/\P3 a b c d/\P4 a b c d/\P5 a b c d/\P6 a b c d) (k:∀a b c d,P1 a b c d->P2 a b c d->P3 a b c d->P4 a b c d->P5 a b c d->P6 a b c d->G):G:=h.elim fun a h=>h.elim fun b h=>h.elim fun c h=>h.elim fun d h=>k a b c d h.1 h.2.1 h.2.2.1 h.2.2.2.1 h.2.2.2.2.1 h.2.2.2.2.2
theorem NY {α:Sort _} {β:Sort _} {γ:Sort _} {δ:Sort _} {P1 P2 P3 P4 P5 P6 P7:α->β->γ->δ->Prop} {G:Prop} (h:∃a b c d,P1 a b c d/\P2 a b c d/\P3 a b c d/\P4 a b c d/\P5 a b c d/\P6 a b c d/\P7 a b c d) (k:∀a b c d,P1 a b c d->P2 a b c d->P3 a b c d->P4 a b c d->P5 a b c d->P6 a b c d->P7 a b c d->G):G:=h.elim fun a h=>h.elim fun b h=>h.elim fun c h=>h.elim fun d h=>k a b c d h.1 h.2.1 h.2.2.1 h.2.2.2.1 h.2.2.2.2.1 h.2.2.2.2.2.1 h.2.2.2.2.2.2
@[elab_as_elim] theorem aa {α:Sort _} {a b:α} {motive:α->Prop} (h:a=b) (m:motive b):motive a:=h.symm▸m
@[elab_as_elim] theorem bw {α:Sort _} {a b:α} {motive:α->Prop} (h:b=a) (m:motive b):motive a:=h▸m
noncomputable abbrev ac {α:Sort _} (_:α):Bool:=false
noncomputable abbrev aJ {α β:Sort _} (_:α) (_:β):Bool:=false
noncomputable abbrev jp {α β γ:Sort _} (_:α) (_:β) (_:γ):Bool:=false
noncomputable abbrev ge {α:Sort _} (_:α):Bool:=true
noncomputable abbrev uc {α β:Sort _} (_:α) (_:β):Bool:=true
noncomputable abbrev bb {δ:Type _} {α:Sort _} (_:α):Option δ:=none
noncomputable abbrev gQ {δ:Type _} {α β:Sort _} (_:α) (_:β):Option δ:=none
theorem Qh {l a:Nat}:l - a<=l - min a l:=Nat.sub_le_sub_left (Nat.min_le_left _ _) _
theorem Qi {p a d:Nat} (h:a<=p) (k:p<=a+(d - (d - (p - a)))):p=a+(d - (d - (p - a))) :=
 Nat.le_antisymm k (hD (Nat.add_le_add_left (Nat.sub_sub_eq_min ..▸Nat.min_le_right ..) a) (Nat.le_of_eq (Nat.add_sub_cancel' h)))
theorem NZ {p a d x:Nat} (k:p<=a+(d - x)):p<=a+d:=hD k (Nat.add_le_add_left (Nat.sub_le _ _) _)
theorem PA {c n:Nat} (h:n<=c):(c - n)%n=c%n:=(Nat.mod_eq_sub_mod h).symm
theorem Qj {a e q B x:Nat} (h:q*B<=e*B):a*(q*B)+(e*B - q*B)+x=a*(q*B)+(e*B+x - q*B)/\q*B<=e*B+x :=
 ⟨(Nat.add_assoc ..).trans (congrArg _ (Nat.sub_add_comm h).symm),hD h (t6 ..)⟩
theorem Qk {i:Nat} (h:i%2=1):i=1+2*(i / 2):=(Nat.mod_add_div i 2).symm.trans (congrArg (·+_) h)
theorem PB {i:Nat} (h0:i≠0) (h:¬i%2=1):i=2+2*(i / 2 - 1):=by
 have e:=(Nat.mod_add_div i 2).symm
 rw[(Nat.mod_two_eq_zero_or_one i).resolve_right h,Nat.zero_add] at e
 refine e.trans ?_
 match q:i / 2 with
 | 0=>exact absurd (by rw[e,q]) h0
 | n+1=>exact Nat.add_comm ..
theorem Ql {n a:Nat} (h:a<n):(n:Int) - a - 1=((n - a - 1:Nat):Int):=by
 rw[Int.ofNat_sub (Nat.le_sub_of_add_le (Nat.add_comm a 1▸h)),Int.ofNat_sub (Nat.le_of_lt h)];rfl
theorem Qm {a n c:Nat} (h:a<n):n - a+c=n - a - 1+(c+1):=(congrArg (·+c) (Nat.sub_add_cancel (Nat.le_sub_of_add_le (Nat.add_comm a 1▸h))).symm).trans ((Nat.add_assoc ..).trans (congrArg _ (Nat.add_comm ..)))
theorem Qn {a n c:Nat} (h:¬a<n):n - a+c=c:=(congrArg (·+c) (Nat.sub_eq_zero_of_le (ot h))).trans (Nat.zero_add c)
theorem N0 {e q B x:Nat} (h:x<B) (h1:q*B<=e*B) (h2:e*B+B<=2*(q*B)):q*B<=e*B+x/\e*B+x<2*(q*B) :=
 ⟨hD h1 (t6 ..),f3 (Nat.add_lt_add_left h _) h2⟩
theorem N1 {a n c:Nat} (h:n+(a+c)<=4000):((c+1:Nat):Int).natAbs<1073741824 :=
 p0 (m:=4001) (Nat.succ_le_succ (hD (Nat.le_add_left c a) (hD (Nat.le_add_left _ n) h))) (by decide)
theorem N2 {a n c:Nat} (h:n+(a+c)<=4000):n - a+c<=4000:=hD (Nat.add_le_add (Nat.sub_le n a) (Nat.le_add_left c a)) h
theorem N4 {c n m:Nat} (h:c<n):c - m<n:=p0 (Nat.sub_le ..) h
theorem K4 {i e:Nat} (h:i+1<=e):e - i=e - (i+1)+1:=(Nat.sub_add_cancel (Nat.le_sub_of_add_le (Nat.add_comm i 1▸h))).symm
theorem N8 {c:Nat} (h:3<=c) (k:c<=8):c=3\/c=4\/c=5\/c=6\/c=7\/c=8 :=
 (by decide:∀c,c<9->3<=c->c=3\/c=4\/c=5\/c=6\/c=7\/c=8) c (Nat.lt_succ_of_le k) h
theorem N9 {d:Nat} (h:d<7) (k:¬d=6):d=0\/d=1\/d=2\/d=3\/d=4\/d=5 :=
 (by decide:∀d,d<7->¬d=6->d=0\/d=1\/d=2\/d=3\/d=4\/d=5) d h k
theorem Oa {u j:Nat} (h:u<=j) (k:j<u+4):j=u\/j=u+1\/j=u+2\/j=u+3:=by
 refine(Nat.exists_eq_add_of_le h).elim fun d e=>?_
 subst e
 exact(by decide:∀d,d<4->d=0\/d=1\/d=2\/d=3) d (Nat.lt_of_add_lt_add_left k) |>.imp (congrArg _) (.imp (congrArg _) (.imp (congrArg _) (congrArg _)))
theorem Ob {y:Int} {n:Nat} (h:1<=y) (k:y<=n):y.natAbs<=n:=Int.ofNat_le.mp (Int.natAbs_of_nonneg (Int.le_trans (by decide) h)▸k)
theorem Oc {y:Int} (h:1<=y):¬y.natAbs=0:=fun e=>absurd (Int.natAbs_eq_zero.mp e▸h) (by decide)
theorem Od {x:Nat} (h:x<300*30):¬300<x / 30+1:=ji (Nat.div_lt_of_lt_mul (Nat.mul_comm ..▸h))
theorem Oe {n:Nat}:(4*n+1) / 4=n:=by rw[Nat.mul_add_div (by decide)];rfl
theorem K5 {n:Nat}:(4*n+2) / 4=n:=by rw[Nat.mul_add_div (by decide)];rfl
theorem Of {n:Nat} (h:n.succ<=1000000):-2 ^ 63<=Int.negSucc n/\Int.negSucc n<2 ^ 63 :=
 ⟨Int.le_trans (b:=-((1000000:Nat):Int)) (by decide) (Int.neg_le_neg (a:=((n.succ:Nat):Int)) (Int.ofNat_le.mpr h)),Int.lt_trans (Int.negSucc_lt_zero n) (by decide)⟩
theorem Og {i:Int} {n:Nat} (h:0<=i/\i<n):i.toNat<n:=(Int.toNat_lt h.1).mpr h.2
theorem Oh {i:Int} (h:0<=i/\i<=100000):-2 ^ 63<=i/\i<2 ^ 63:=⟨Int.le_trans (by decide) h.1,Int.lt_of_le_of_lt h.2 (by decide)⟩
theorem Oi {i A L:Nat} (h:A*2<=L) (k:i / 2+2<=A):i+2<=L :=
 hD (Nat.add_le_add_right (Nat.le_of_lt (Nat.lt_mul_of_div_lt (f2 (i / 2)) (by decide))) 2 |> fun h=>hD h (Nat.le_of_eq (Nat.succ_mul (i / 2+1) 2).symm)) (hD (w7 2 k) h)
theorem K6 {i A L:Nat} (h:A*2<=L) (h0:i≠0) (k:i / 2 - 1+2<=A) (o:i%2≠1):i+2<=L:=by
 rw[PB h0 o]
 exact hD (Nat.le_of_eq ((congrArg (·+2) (Nat.add_comm 2 _)).trans ((congrArg (·+4) (Nat.mul_comm 2 _)).trans (Nat.add_mul _ 2 2).symm))) (hD (w7 2 k) h)
theorem Oj {x y n:Nat} (h:x<=n) (k:y<=n):max x y<=n:=Nat.max_le.mpr ⟨h,k⟩
theorem Ok {n:Nat} (h:n<=1000000):-2 ^ 63<=(n:Int)/\(n:Int)<2 ^ 63:=⟨Int.le_trans (by decide) (Int.natCast_nonneg n),Int.lt_of_le_of_lt (Int.ofNat_le.mpr h) (by decide)⟩
theorem Ol {y:Int} {n:Nat} (k:0<=y/\y<n):y=(y.toNat:Int):=(Int.toNat_of_nonneg k.1).symm
theorem Om {x:Nat} {b:Nat} (h:x<=b):max 0 (min (b:Int) (x:Int))=(x:Int):=by rw[Int.min_eq_right (Int.ofNat_le.mpr h)];exact Int.max_eq_right (Int.natCast_nonneg x)
theorem On {b:Nat}:¬x0 b<0:=Int.not_lt_of_ge (Int.natCast_nonneg b)
theorem vO {u a b L:Nat} (h:u+a<L) (k:b<=a):u+b<L:=p0 (Nat.add_le_add_left k u) h
theorem K7 {u a m n L k:Nat} (h:m<=n) (q:u+a*n+k<L):u+a*m+k<L:=p0 (Nat.add_le_add_right (Nat.add_le_add_left (Nat.mul_le_mul_left a h) u) k) q
theorem Oo {u a n L:Nat} (h:u+a*n+230<L):u+3+100<L:=p0 (Nat.add_le_add_left (by decide:103<=230) _) (p0 (Nat.add_le_add_right (t6 ..) _) h)
theorem Op {j u:Nat} (h:u<=j) (k:j<u+1):u<=j+1/\j+1<u+2:=⟨Nat.le_succ_of_le h,Nat.succ_lt_succ k⟩
theorem Oq {c n:Nat} (k:n<=c):c%n<=2->(c - n)%n<=2:=fun h=>PA k▸h
noncomputable abbrev SB:Nat:=2097152
noncomputable def hV (l:List Nat):Nat:=l.foldl (fun a x=>a*SB+x) 1
set_option genCtorIdx true in
inductive V where
 | none
 | bool (b:Bool)
 | int (i:Int)
 | str (c:Nat)
 | byt (c:Nat)
 | tup (l:List V)
 | obj (k:Nat)
 | fn (i:Nat)
 | cls (c:Nat)
 | clo (w i:Nat)
 | sym (k:Nat)
 | ab (w k:Nat)
inductive O where
 | lst (l:List V)
 | dic (l:List (Nat×V))
 | ins (c d:Nat)
 | exn (c d:Nat)
 | cel (v:V)
 | unb
 | sck (l:List (Nat×V))
 | pd (l:List (Nat×V))
 | cho (c:Nat)
 | tab (n:Nat)
theorem cN {α:Type _} {motive:Option α->Prop} (t:Option α) (none:motive .none) (some:∀v,motive (.some v)):motive t:=Option.casesOn t none some
theorem dI {motive:Bool->Prop} (t:Bool) (false:motive .false) (true:motive .true):motive t:=Bool.casesOn t false true
theorem fV {α:Type _} {motive:List α->Prop} (t:List α) (nil:motive .nil) (cons:∀a l,motive (.cons a l)):motive t:=List.casesOn t nil cons
theorem jq {motive:Nat->Prop} (t:Nat) (zero:motive .zero) (succ:∀n,motive (.succ n)):motive t:=L3 t zero succ
theorem eV {motive:V->Prop} (t:V) (none:motive .none) (bool:∀a,motive (.bool a)) (int:∀a,motive (.int a)) (str:∀a,motive (.str a)) (byt:∀a,motive (.byt a)) (tup:∀a,motive (.tup a)) (obj:∀a,motive (.obj a)) (fn:∀a,motive (.fn a)) (cls:∀a,motive (.cls a)) (clo:∀a b,motive (.clo a b)) (sym:∀a,motive (.sym a)) (ab:∀a b,motive (.ab a b)):motive t:=V.casesOn t none bool int str byt tup obj fn cls clo sym ab
theorem eO {motive:O->Prop} (t:O) (lst:∀a,motive (.lst a)) (dic:∀a,motive (.dic a)) (ins:∀a b,motive (.ins a b)) (exn:∀a b,motive (.exn a b)) (cel:∀a,motive (.cel a)) (unb:motive .unb) (sck:∀a,motive (.sck a)) (pd:∀a,motive (.pd a)) (cho:∀a,motive (.cho a)) (tab:∀a,motive (.tab a)):motive t:=O.casesOn t lst dic ins exn cel unb sck pd cho tab
noncomputable def oI (o:O):Nat:=O.casesOn o (fun a=>0) (fun a=>1) (fun a a=>2) (fun a a=>3) (fun a=>4) 5 (fun a=>6) (fun a=>7) (fun a=>8) (fun a=>9)
theorem gR {a b:O} {G:Prop} (z:a=b) (h:c6 (oI a) (oI b)=false):G:=aS (h.symm.trans (z▸xd (oI a)))
noncomputable def cM {α:Type} (o:Option α) (k:α->Bool):Bool:=@Option.rec α (fun _=>Bool) false (fun a=>k a) o
noncomputable def af {α:Type} (b:Bool) (t e:α):α:=@Bool.rec (fun _=>α) e t b
noncomputable def fB (v:V) (k:Bool->Bool):Bool:=V.casesOn v false (fun b=>k b) ac ac ac ac ac ac ac aJ ac aJ
noncomputable def oP (v:V) (k:Int->Bool):Bool:=V.casesOn v false ac (fun i=>k i) ac ac ac ac ac ac aJ ac aJ
noncomputable def gf (v:V) (k:Nat->Bool):Bool:=V.casesOn v false ac ac (fun c=>k c) ac ac ac ac ac aJ ac aJ
noncomputable def bL (v:V) (k:List V->Bool):Bool:=V.casesOn v false ac ac ac ac (fun l=>k l) ac ac ac aJ ac aJ
noncomputable def db (v:V) (k:Nat->Bool):Bool:=V.casesOn v false ac ac ac ac ac (fun i=>k i) ac ac aJ ac aJ
noncomputable def fO (v:V) (k:Bool):Bool:=V.casesOn v k ac ac ac ac ac ac ac ac aJ ac aJ
noncomputable def gh (o:Option O) (k:List V->Bool):Bool:=cM o fun o=>O.casesOn o (fun l=>k l) ac aJ aJ ac false ac ac ac ac
noncomputable def eP (o:Option O) (k:List (Nat×V)->Bool):Bool:=cM o fun o=>O.casesOn o ac (fun l=>k l) aJ aJ ac false ac ac ac ac
noncomputable def xc (o:Option O) (k:Nat->Nat->Bool):Bool:=cM o fun o=>O.casesOn o ac ac (fun c d=>k c d) aJ ac false ac ac ac ac
noncomputable def ng (o:Option O) (k:Nat->Nat->Bool):Bool:=cM o fun o=>O.casesOn o ac ac aJ (fun c d=>k c d) ac false ac ac ac ac
noncomputable def zY (o:Option O) (k:V->Bool):Bool:=cM o fun o=>O.casesOn o ac ac aJ aJ (fun v=>k v) false ac ac ac ac
noncomputable def xe (o:Option O):Bool:=@Option.rec O (fun _=>Bool) false (fun o=>O.casesOn o ac ac aJ aJ (fun _=>true) true ac ac ac ac) o
noncomputable def oQ (l:List V) (k:V->Bool):Bool:=@List.rec V (fun _=>Bool) false (fun a r _=>@List.rec V (fun _=>Bool) (k a) (fun _ _ _=>false) r) l
noncomputable def GY (l:List V) (k:Bool):Bool:=@List.rec V (fun _=>Bool) k (fun _ _ _=>false) l
noncomputable def yB (l:List V) (k:V->V->Bool):Bool:=@List.rec V (fun _=>Bool) false (fun a r _=>oQ r (k a)) l
noncomputable def De (l:List V) (k:V->V->V->Bool):Bool:=@List.rec V (fun _=>Bool) false (fun a r _=>yB r (k a)) l
noncomputable def ud (v:V) (k:Nat->Bool):Bool:=oP v fun i=>Int.rec (fun n=>k n) ac i
noncomputable def FG (n:Nat) (k:Nat->Bool):Bool:=@Nat.rec (fun _=>Bool) false (fun m _=>k m) n
noncomputable def K8 (v:V) (k:Nat->Nat->Bool):Bool:=V.casesOn v false ac ac ac ac ac ac ac ac aJ ac (fun w a=>k w a)
noncomputable def FH {α:Type} (v:V) (k:Int->Option α):Option α:=V.casesOn v none bb (fun i=>k i) bb bb bb bb bb bb (fun _ _=>none) bb (fun _ _=>none)
noncomputable def K9 {α:Type} (o:Option O) (k:List V->Option α):Option α:=@Option.rec O (fun _=>Option α) none (fun o=>O.casesOn o (fun l=>k l) bb (fun _ _=>none) (fun _ _=>none) bb none bb bb bb bb) o
noncomputable def Qo {α:Type} (v:V) (k:Nat->Option α):Option α:=V.casesOn v none bb bb bb bb bb (fun i=>k i) bb bb (fun _ _=>none) bb (fun _ _=>none)
noncomputable def Qp {α:Type} (v:V) (k:List V->Option α):Option α:=V.casesOn v none bb bb bb bb (fun l=>k l) bb bb bb (fun _ _=>none) bb (fun _ _=>none)
noncomputable def r7 (v:V):Bool:=fO v true
noncomputable def az {α:Type} (k:Nat) (l:List (Nat×α)):Option α:=@List.rec (Nat×α) (fun _=>Option α) none (fun p _ a=>af (c6 p.1 k) (some p.2) a) l
noncomputable def put {α:Type} (k:Nat) (a:α) (l:List (Nat×α)):List (Nat×α):=@List.rec (Nat×α) (fun _=>List (Nat×α)) [(k,a)] (fun p r b=>af (c6 p.1 k) ((k,a)::r) (p::b)) l
noncomputable def del {α:Type} (k:Nat) (l:List (Nat×α)):List (Nat×α):=@List.rec (Nat×α) (fun _=>List (Nat×α)) [] (fun p r a=>af (c6 p.1 k) r (p::a)) l
inductive T where
 | nil
 | node (v:Option O) (l r:T)
noncomputable def T.get (t:T):Nat->Option O:=@T.rec (fun _=>Nat->Option O) bb (fun v _ _ l r i=>af (c6 i 0) v (af (c6 (Nat.mod i 2) 1) (l (Nat.div i 2)) (r (Nat.pred (Nat.div i 2))))) t
noncomputable abbrev cX:Nat:=0x2000740003a8001c0000d800065
noncomputable abbrev zZ:Nat:=0x1000360001a4000e600074
noncomputable abbrev z0:Nat:=0x1000320001a4000c600074
noncomputable abbrev FI:Nat:=0x8001b0000ca0006e
noncomputable abbrev jr:Nat:=0x4000e60006f000390001d0000ca00064
noncomputable abbrev xf:Nat:=0x200072000308001b8000ce00065
noncomputable abbrev FJ:Nat:=0x8001e8000d200070
noncomputable abbrev nh:Nat:=0x200065000370001d4000da0006500039000184000e800065
noncomputable abbrev FK:Nat:=0x8001cc000e800072
noncomputable abbrev xg:Nat:=0x8001a4000dc00074
noncomputable abbrev a0:Nat:=0x2000450003c00018c000ca000700003a0001a4000de0006e
noncomputable abbrev cG:Nat:=0x4000c20007000038000194000dc00064
noncomputable abbrev jd:Nat:=0x8001c0000de00070
noncomputable abbrev eQ:Nat:=0x4000ca000780003a000194000dc00064
noncomputable abbrev j0:Nat:=0x20006900037000190000ca00078
noncomputable abbrev oR:Nat:=0x80019c000ca00074
noncomputable abbrev hW:Nat:=0x4000ea0007000032000184000e800065
noncomputable abbrev iF:Nat:=0x200073000380001b0000d200074
noncomputable abbrev dU:Nat:=0x4000ca0006e000318001bc000c800065
noncomputable abbrev iG:Nat:=0x1000350001bc000d20006e
noncomputable abbrev ue:Nat:=0x8001ac000ca00079
noncomputable abbrev aH:Nat:=0x10002f80017c000d20006e000348001d0000be0005f
noncomputable abbrev bE:Nat:=0x200076000308001b0000ea00065
noncomputable abbrev ft:Nat:=0x8001b4000ca0007300039800184000ce00065
noncomputable abbrev oU:Nat:=0x1000398001c0000de00074
noncomputable abbrev bn:Nat:=0x1000308001c8000ce00073
noncomputable abbrev j3:Nat:=0x2000750003a0001980005a00038
noncomputable abbrev hZ:Nat:=0x8001b8000de00074000340001a4000dc00067
noncomputable abbrev ae:Nat:=0x100037000184000da00065
noncomputable abbrev aK:Nat:=0x800104000dc00079
noncomputable abbrev aY:Nat:=0x4000c40006f0003a0001d0000de0006d
noncomputable abbrev eR:Nat:=0x10002a0001e4000e000065
noncomputable abbrev eA:Nat:=0x1000230001d4000dc000630003a0001a4000de0006e
noncomputable abbrev oV:Nat:=0x1000248001b8000e800038
noncomputable abbrev lg:Nat:=0x200049000370001d00006200036
noncomputable abbrev lh:Nat:=0x200049000370001d00006600032
noncomputable abbrev av:Nat:=0x200049000370001d00006c00034
noncomputable abbrev js:Nat:=0x4000840006900033800124000dc00074
noncomputable abbrev ll:Nat:=0x200055000248001b8000e800038
noncomputable abbrev jt:Nat:=0x4000aa00049000370001d00006200036
noncomputable abbrev ju:Nat:=0x4000aa00049000370001d00006600032
noncomputable abbrev jv:Nat:=0x4000aa00049000370001d00006c00034
noncomputable abbrev dW:Nat:=0x800110000d20007600034800190000ca00045000390001c8000de00072
noncomputable abbrev dy:Nat:=0x1000248001b8000ca000780003080018c000e800045000390001c8000de00072
noncomputable abbrev cf:Nat:=0x2000540003c8001c0000ca00045000390001c8000de00072
noncomputable abbrev cg:Nat:=0x4000a6000740003080018c000d60004f0003b000194000e400066000360001bc000ee00045000390001c8000de00072
noncomputable abbrev de:Nat:=0x2000410003900019c000ea0006d000328001b8000e800045000390001c8000de00072
noncomputable abbrev dg:Nat:=0x20004f0003b000194000e400066000360001bc000ee00045000390001c8000de00072
noncomputable abbrev cu:Nat:=0x200044000348001b4000ca0006e000398001a4000de0006e000268001a4000e60006d000308001d0000c600068
noncomputable abbrev aU:Nat:=0x40008a00072000390001bc000e4000450003c00018c000ca000700003a0001a4000de0006e
noncomputable abbrev dY:Nat:=0x800134000ca00074000340001bc000c800045000390001c8000de00072
noncomputable abbrev cO:Nat:=0x4000820006d000310001a4000ce00075000378001d4000e600045000390001c8000de00072
noncomputable abbrev aE:Nat:=0x100039800194000d800066
noncomputable abbrev jw:Nat:=0x200052000378001dc000e600045000390001c8000de00072
noncomputable abbrev mx:Nat:=0x10003a000194000f000074
noncomputable abbrev bZ:Nat:=0x200070000308001c8000e800073
noncomputable abbrev iH:Nat:=0x4000ca00072000390001bc000e40005f000358001a4000dc00064
noncomputable abbrev ig:Nat:=0x4000e600074000390001d4000c600074
noncomputable abbrev jx:Nat:=0x4000a800068000390001bc000ee0006e
noncomputable abbrev fF:Nat:=0x800194000e400072000378001c8000be00076000308001b0000ea00065
noncomputable abbrev iI:Nat:=0x4000e8000650003c0001d0000be00076000308001b0000ea00065
noncomputable abbrev gS:Nat:=0x100036800184000dc00079
noncomputable abbrev ay:Nat:=0x4000e00006100039000184000da00073
noncomputable abbrev aD:Nat:=0x20006b000348001b8000c800073
noncomputable abbrev jy:Nat:=0x100039000194000e600074
noncomputable abbrev aq:Nat:=0x200066000378001d4000dc00064
noncomputable abbrev bU:Nat:=0x20006b000348001b8000c80005f0003a000194000f000074
noncomputable abbrev fG:Nat:=0x200075000370001a4000de0006e
noncomputable abbrev dZ:Nat:=0x4000840004f0002a0001500009e0004d
noncomputable abbrev cP:Nat:=0x8001040009c00059
noncomputable abbrev dq:Nat:=0x100036000194000cc00074
noncomputable abbrev cQ:Nat:=0x100034000194000e400065
noncomputable abbrev aj:Nat:=0x1000358001a4000dc00064
noncomputable abbrev bK:Nat:=0x10003b8001bc000e400064
noncomputable abbrev dh:Nat:=0x4000e80007900038000194000de00066
noncomputable abbrev fo:Nat:=0x800184000d80006c
noncomputable abbrev iJ:Nat:=0x10003a8001b8000d20006f0003700017c000de00066
noncomputable abbrev gH:Nat:=0x20007400030800188000d800065
noncomputable abbrev gj:Nat:=0x100039000194000c400075000348001b0000e80005f000358001a4000dc00064
noncomputable abbrev cC:Nat:=0x8001cc000ea00062000398001d0000d2000740003a8001d0000ca00064
noncomputable abbrev gk:Nat:=0x100038000184000e400074
noncomputable abbrev d8:Nat:=0x200070000308001c8000e8000730002f8001bc000cc0005f000358001a4000dc00064
noncomputable abbrev oW:Nat:=0x4000c40006f0003a8001b8000c800073
noncomputable abbrev og:Nat:=0x200069000370001b8000ca00072
noncomputable abbrev cw:Nat:=0x8001d8000c200072
noncomputable abbrev gI:Nat:=0x200062000378001d4000dc00064
noncomputable abbrev Df:Nat:=2097262
noncomputable abbrev Dl:Nat:=0x4000cc0006e
noncomputable abbrev gU:Nat:=0x800188000d20006e00032000194000e40005f0003a000194000f000074
noncomputable abbrev be:Nat:=0x8001bc000dc00065
noncomputable abbrev gV:Nat:=0x1000398001bc000da00065
noncomputable abbrev oX:Nat:=0x4000d20006e000398001a4000c800065
noncomputable abbrev cx:Nat:=0x200070000308001c8000c20006d
noncomputable abbrev aV:Nat:=0x10003a0001e4000e000065
noncomputable abbrev jz:Nat:=0x4000e800068000390001bc000ee0006e
noncomputable abbrev bN:Nat:=0x20006e000308001b4000ca00064
noncomputable abbrev ij:Nat:=0x8001cc000f20006d
noncomputable abbrev fu:Nat:=0x1000390001bc000ee00073
noncomputable abbrev fP:Nat:=0x1000398001a4000c800065
noncomputable abbrev eB:Nat:=0x1000348001cc000be00061000398001ac000ca00064
noncomputable abbrev iK:Nat:=0x40009a0004f00029800150000be000430002080014c0008a00053
noncomputable abbrev d5:Nat:=0x8001a4000e60005f000320001a4000c200067000378001b8000c20006c
noncomputable abbrev f0:Nat:=0x4000d800065000330001d0000be00063000308001cc000ca00073
noncomputable abbrev oY:Nat:=0x100031800184000e600065
noncomputable abbrev gW:Nat:=0x8001d0000ea0007000036000194000be00063000308001cc000ca00073
noncomputable abbrev gn:Nat:=0x1000348001cc000be00065000368001c0000e800079
noncomputable abbrev gp:Nat:=0x1000330001d4000ca0006c
noncomputable abbrev r8:Nat:=0x20006700037800184000d800073
noncomputable abbrev bF:Nat:=0x20007300034800190000ca00073
noncomputable abbrev fw:Nat:=0x8001dc000c2000690003a0001a4000dc00067
noncomputable abbrev j4:Nat:=0x8001cc000ca000740003a0001b0000ca00064
noncomputable abbrev eS:Nat:=0x1000308001c8000ca0005f000318001bc000dc0006300039000194000e800065
noncomputable abbrev iM:Nat:=0x10003b800184000f200073
noncomputable abbrev qY:Nat:=0x8001dc000c200079
noncomputable abbrev ln:Nat:=0x4000c60006f000380001a4000ca00064
noncomputable abbrev my:Nat:=0x1000398001d0000ca00070
noncomputable abbrev vP:Nat:=0x1000338001bc000c20006c
noncomputable abbrev j5:Nat:=0x800188000f20005f000330001bc000e40006d
noncomputable abbrev aQ:Nat:=0x20006f0003a0001a0000ca00072
noncomputable abbrev aW:Nat:=0x200061000310001bc000ec00065
noncomputable abbrev oh:Nat:=0x200062000328001b0000de00077
noncomputable abbrev r9:Nat:=0x100039800184000da00065
noncomputable abbrev jA:Nat:=0x8001cc000ea00062
noncomputable abbrev j6:Nat:=0x8001b8000ea0006d00031000194000e400073
noncomputable abbrev om:Nat:=0x20007000036000184000d20006e
noncomputable abbrev cy:Nat:=0x20006c000378001dc000ca00072
noncomputable abbrev cH:Nat:=0x200075000380001c0000ca00072
noncomputable abbrev lq:Nat:=0x4000c600068000378001cc000ca0006e
noncomputable abbrev lr:Nat:=0x4000de00070000328001b8000ca00064
noncomputable abbrev iN:Nat:=0x1000230001540009c000430002a0001240009e0004e
noncomputable abbrev oZ:Nat:=0x10002a000164000a000045
noncomputable abbrev lw:Nat:=0x200077000378001c8000c800073
noncomputable abbrev iO:Nat:=0x4000e800075000380001b0000ca0005f0003b800184000f200073
noncomputable abbrev bQ:Nat:=0x8001b8000de0006d000348001b8000c20006c
noncomputable abbrev lx:Nat:=0x4000e60007500038000194000e400073
noncomputable abbrev o3:Nat:=0x4000ee00061000370001d0000ca00064
noncomputable abbrev ly:Nat:=0x4000d2000730002f8001bc000dc00065
noncomputable abbrev o5:Nat:=0x4000e600065000308001c8000c600068
noncomputable abbrev xh:Nat:=0x8001c8000ea0006e
noncomputable abbrev sd:Nat:=0x20005300034800190000ca00073
noncomputable abbrev o6:Nat:=0x4000a600065000308001c8000c600068
noncomputable abbrev aw:Nat:=0x8001a4000e60005f00030800188000e60007400039000184000c600074
noncomputable abbrev aZ:Nat:=0x4000d2000730002f8001b4000ea0007400030800188000d800065
noncomputable abbrev aR:Nat:=0x4000cc00069000328001b0000c800073
noncomputable abbrev cz:Nat:=0x2000730003a8001c0000ca00072
noncomputable abbrev dP:Nat:=0x8001c8000de00077
noncomputable abbrev dA:Nat:=0x100022000194000c60006c
noncomputable abbrev eU:Nat:=0x2000640003280018c000d800073
noncomputable abbrev bH:Nat:=0x100032000194000c60006c
noncomputable abbrev o7:Nat:=0x10003b8001a4000d800064
noncomputable abbrev cU:Nat:=0x20004b000348001b8000c800046000308001d4000d800074
noncomputable abbrev cV:Nat:=0x20006600039000194000ca0005f0003b000184000e400073
noncomputable abbrev lz:Nat:=0x8001bc000ee0006e
noncomputable abbrev gJ:Nat:=0x20007400030800188000d8000650002f800198000de00072
noncomputable abbrev iP:Nat:=0x1000398001d4000e0000650003900017c000de00066
noncomputable abbrev cL:Nat:=0x10003b000184000e40006900030800188000d800065
noncomputable abbrev gK:Nat:=0x200077000340001bc000d800065
noncomputable abbrev bM:Nat:=0x800190000ca0006300036000184000e400065
noncomputable abbrev iQ:Nat:=0x4000e600074000308001c8000e80005f000390001bc000ee00073
noncomputable abbrev gr:Nat:=0x1000398001d0000c2000720003a00017c000ca00072000390001bc000e400073
noncomputable abbrev ik:Nat:=0x4000a60007900036800188000de0006c
noncomputable abbrev gu:Nat:=0x100034000194000c200064
noncomputable abbrev se:Nat:=0x1000228001e0000e000072
noncomputable abbrev j7:Nat:=0x800138000de00074000340001a4000dc00067
noncomputable abbrev cD:Nat:=0x40008200062000398001d0000e400061000318001d0000a600074000390001a4000dc00067
noncomputable abbrev gw:Nat:=0x4000a600074000390001a4000dc00067
noncomputable abbrev cR:Nat:=0x100020800188000e60007400039000184000c600074000218001a0000c200072
noncomputable abbrev sf:Nat:=0x1000218001a0000c200072
noncomputable abbrev bh:Nat:=0x800124000dc000740003280019c000ca00072
noncomputable abbrev gX:Nat:=0x1000210001bc000de0006c
noncomputable abbrev kL:Nat:=0x10002a800138000a600049000238001380008a00044
noncomputable abbrev cY:Nat:=0x10002a8001b8000e600069000338001b8000ca00064
noncomputable abbrev o8:Nat:=0x4000a600049000238001380008a00044
noncomputable abbrev d6:Nat:=0x4000a600069000338001b8000ca00064
noncomputable abbrev du:Nat:=0x100029000194000c20006c
noncomputable abbrev iq:Nat:=0x40009c0007500036800188000ca00072
noncomputable abbrev sg:Nat:=0x20004b000348001b8000c800073
noncomputable abbrev Os:Nat:=2097257
noncomputable abbrev NB:Nat:=2097249
noncomputable abbrev fH:Nat:=0x800108000de0007500037000190000e600045000390001c8000de00072
noncomputable abbrev d9:Nat:=0x20005500037000190000ca000660002b000184000e400045000390001c8000de00072
noncomputable abbrev gY:Nat:=0x80010c000820004c0002600017c0008a000520002900013c000a400053
noncomputable abbrev NC:Nat:=2097254
noncomputable abbrev gZ:Nat:=0x8001500008a000580002a00017c0008a000520002900013c000a400053
noncomputable abbrev qZ:Nat:=0x8001b4000e600067
noncomputable abbrev gx:Nat:=0x10002800013000082000490002700017c0008a000520002900013c000a400053
noncomputable abbrev fy:Nat:=0x1000348001d0000ca0006d
noncomputable abbrev Aa:Nat:=0x800190000ca0006e
noncomputable abbrev Ab:Nat:=0x8001b8000ea0006d
noncomputable abbrev iR:Nat:=0x100029000184000e800069000378001b8000c20006c
noncomputable abbrev Ot:Nat:=2097272
noncomputable abbrev xi:Nat:=0x800148000ca00066
noncomputable abbrev o9:Nat:=0x1000398001d0000de00070
noncomputable abbrev lA:Nat:=0x2000730003a000184000e400074
noncomputable abbrev gL:Nat:=0x2000530003a000194000e000052000308001b8000ce00065
noncomputable abbrev gM:Nat:=0x200055000370001a4000e800052000308001b8000ce00065
noncomputable abbrev cq:Nat:=0x200041000310001cc000e8000720003080018c000e800052000308001b8000ce00065
noncomputable abbrev bJ:Nat:=0x200041000310001cc000e8000720003080018c000e800041000390001c8000c200079
noncomputable abbrev iS:Nat:=0x1000298001d4000c400041000390001c8000c200079
noncomputable abbrev lB:Nat:=0x200041000390001c8000c200079
noncomputable abbrev vQ:Nat:=0x100039000184000dc0006b
noncomputable abbrev iT:Nat:=0x1000308001b8000f200074000340001a4000dc00067
noncomputable abbrev iU:Nat:=0x200066000308001d4000d800074
noncomputable abbrev di:Nat:=0x8001d0000d000072000378001dc000dc0005f0003a000194000f000074
noncomputable abbrev gN:Nat:=0x20004d0002780014c000a80005f000298001040009200044
noncomputable abbrev aN:Nat:=0x20006900036800184000ce00065
noncomputable abbrev iV:Nat:=0x4000c40006f0003a8001b8000c80005f000358001a4000dc00064
noncomputable abbrev iu:Nat:=0x4000ac0006100039000184000e400067
noncomputable abbrev si:Nat:=0x200055000370001a4000de0006e
noncomputable abbrev eE:Nat:=0x10003a0001d4000e00006c0003280017c000de00066
noncomputable abbrev iW:Nat:=0x4000e80006f00036000190000be000740003a8001c0000d800065
noncomputable abbrev kM:Nat:=0x100038000184000e4000610003680017c000de00066
noncomputable abbrev bO:Nat:=0x4000d60006900037000190000be00061000398001ac000ca00064
noncomputable abbrev lC:Nat:=0x4000c200070000380001b0000f20005f0003a0001e4000e000065
noncomputable abbrev kO:Nat:=0x1000310001bc000c800079
noncomputable abbrev f6:Nat:=0x4000d2000730002f8001cc000ea000620003a0001e4000e000065
noncomputable abbrev ou:Nat:=0x20007700034000194000e400065
noncomputable abbrev jD:Nat:=0x1000310001bc000de0006c
noncomputable abbrev uf:Nat:=0x4000da000650003a0001a0000de00064
noncomputable abbrev eW:Nat:=0x4000c800065000330001a4000dc00065
noncomputable abbrev mz:Nat:=0x8001c8000ca000660003a8001cc000ca00064
noncomputable abbrev cZ:Nat:=0x10003b000184000d8000750003280017c000de00066
noncomputable abbrev bk:Nat:=0x800188000d20006e00032000194000e400073
noncomputable abbrev kq:Nat:=0x4000c200074
noncomputable abbrev mA:Nat:=0x8001380009e00054000240001240009c00047
noncomputable abbrev iy:Nat:=0x4000e600063000390001a4000e000074
noncomputable abbrev pa:Nat:=0x1000360001bc000c200064
noncomputable abbrev bA:Nat:=0x100039800184000c60006b
noncomputable abbrev ug:Nat:=0x8001d0000de00070
noncomputable abbrev sj:Nat:=0x2000640003480019c000d200074
noncomputable abbrev g4:Nat:=0x8001cc000e800061000390001d0000be0006b000348001b8000c800073
noncomputable abbrev lD:Nat:=0x4000a600075000380001c0000d800079
noncomputable abbrev vR:Nat:=0x100032000194000ca00064
noncomputable abbrev bq:Nat:=0x20005f00036000184000ee0005f000338001c8000c200062
noncomputable abbrev PC:Nat:=2097232
noncomputable abbrev aI:Nat:=0x20005f00036000184000ee0005f00037000184000da00065
noncomputable abbrev dJ:Nat:=0x4000be0006c000308001dc000be00062000378001d4000dc00064
noncomputable abbrev mC:Nat:=0x800194000c200072000360001a4000ca00072
noncomputable abbrev c8:Nat:=0x1000348001cc000be000720003480019c000d000074
noncomputable abbrev bt:Nat:=0x10002f8001b0000c2000770002f80019c000de00074
noncomputable abbrev iX:Nat:=0x1000328001b8000c80005f00032000194000ca00064
noncomputable abbrev Ou:Nat:=2097274
noncomputable abbrev bP:Nat:=0x20006e000308001b4000ca00073
noncomputable abbrev Ac:Nat:=0x800188000c200064
noncomputable abbrev eX:Nat:=0x4000c400065000338001a4000dc0005f00032000194000ca00064
noncomputable abbrev iz:Nat:=0x800190000ea00065
noncomputable abbrev eY:Nat:=0x4000be0006c000308001dc000be00077000340001bc000d800065
noncomputable abbrev dK:Nat:=0x4000d80006f0003b800194000e40005f0003b8001bc000e400064
noncomputable abbrev eZ:Nat:=0x4000ea0007000038000194000e40005f0003b8001bc000e400064
noncomputable abbrev ow:Nat:=0x20006500036000190000ca00072
noncomputable abbrev gy:Nat:=0x10002f8001b0000c2000770002f800188000d20006e00032000194000e400073
noncomputable abbrev vS:Nat:=0x10003a0001bc000d800064
noncomputable abbrev e7:Nat:=0x4000ec00061000360001d4000ca00073
noncomputable abbrev ci:Nat:=0x1000308001c0000e00006c00034800194000c80005f00032000194000ca00064
noncomputable abbrev eG:Nat:=0x100037000184000da000650002f8001b8000de00077
noncomputable abbrev ee:Nat:=0x20005f00036000184000ee0005f000348001cc000be0007500037000190000ca00072
noncomputable abbrev iY:Nat:=0x1000398001a4000ce0005f00032000194000ca00064
noncomputable abbrev sq:Nat:=0x10003b8001a4000c800065
noncomputable abbrev g5:Nat:=0x1000378001b8000c600065
noncomputable abbrev vT:Nat:=0x100036000184000e600074
noncomputable abbrev vU:Nat:=0x10003a000184000d20006c
noncomputable abbrev Ad:Nat:=0x10003a0001d4000e40006e
noncomputable abbrev cS:Nat:=0x4000ea0006e000348001bc000dc0005f000308001b0000d80005f00032000194000ca00064
noncomputable abbrev iA:Nat:=0x4000ec00065000318001d0000de00072
noncomputable abbrev dB:Nat:=0x4000be0006c000308001dc000be00061000380001c0000d80006900032800190000be000720003480019c000d000074
noncomputable abbrev pb:Nat:=0x4000dc0007500036800188000ca00072
noncomputable abbrev eH:Nat:=0x10002f8001b0000c2000770002f800188000ca000670003a8001b8000be000720003480019c000d000074
noncomputable abbrev GZ:Nat:=0x40009600063
noncomputable abbrev G9:Nat:=0x40009600062
noncomputable abbrev Ha:Nat:=0x40009600061
noncomputable abbrev e8:Nat:=0x80017c000d8000610003b80017c000e40006f0003b8001cc000be000720003480019c000d000074
noncomputable abbrev dE:Nat:=0x4000be0006c000308001dc000be00077000390001a4000e800074000328001b8000be000720003480019c000d000074
noncomputable abbrev iZ:Nat:=0x4000be0006c000308001dc000be0006900036800184000ce00065
noncomputable abbrev jE:Nat:=0x20005f00036000184000ee0005f00039800184000c60006b
noncomputable abbrev Ae:Nat:=0x100037000194000f000074
noncomputable abbrev lE:Nat:=0x4000ee000690003a0001a0000be0006c000378001dc000ca00072
noncomputable abbrev lF:Nat:=0x4000ee000690003a0001a0000be00075000380001c0000ca00072
noncomputable abbrev nq:Nat:=0x20006100032000190000be0006c000378001dc000ca00072
noncomputable abbrev nr:Nat:=0x20006100032000190000be00075000380001c0000ca00072
noncomputable abbrev lG:Nat:=0x4000d8000610003a000194000e40005f000378001b8000ca00073
noncomputable abbrev kH:Nat:=0x800198000d20006500036000190000be0006b000348001b8000c800073
noncomputable abbrev kI:Nat:=0x8001a4000e60005f00032000194000c60006c000308001c8000ca00064
noncomputable abbrev xj:Nat:=0x20007500037000190000ca00072
noncomputable abbrev q5:Nat:=0x800184000e000070000360001a4000ca00064
noncomputable abbrev nu:Nat:=0x2000690003980017c000ee000690003a0001a0000d20006e
noncomputable abbrev kJ:Nat:=0x8001a4000e60005f000318001bc000dc0006300039000194000e800065
noncomputable abbrev qI:Nat:=9223741472858177584
noncomputable abbrev La:Nat:=9223715084579110960
noncomputable abbrev zN (x:Nat):V:=.tup [.str ae,.str x,.tup []]
noncomputable abbrev zD (x n y:Nat) (b c:Bool):O:=.dic [(ae,.str x),(ay,.obj n),(cz,zN y),(aw,.bool b),(aZ,.bool c),(aR,.obj (Nat.succ n))]
noncomputable abbrev zL (x:O):T:=.node (some x) .nil .nil
noncomputable abbrev zM (x y:T):T:=.node none x y
noncomputable abbrev zR (y:T):T:=.node none .nil y
noncomputable abbrev zI (n:Nat):O:=.ins 7 n
noncomputable abbrev zE:T:=zL (.lst [])
noncomputable abbrev zF (x y:T):T:=.node (some (.lst [])) x y
noncomputable def trC:T:=(zM (zM (zM (.node (some (.ins 3 6)) (.node (some (.dic [(aK,.obj 12),(eR,.obj 18),(eA,.obj 36),(iq,.obj 54),(cR,.obj 72),(cD,.obj 90),(a0,.obj 108),(du,.obj 126),(bh,.obj 144),(d6,.obj 162),(cY,.obj 180),(oV,.obj 198),(lg,.obj 216),(lh,.obj 234),(av,.obj 252),(js,.obj 270),(ll,.obj 288),(jt,.obj 306),(ju,.obj 324),(jv,.obj 342),(gX,.obj 360),(sf,.obj 378),(gw,.obj 396),(ik,.obj 414),(j7,.obj 432),(se,.obj 451),(dW,.obj 489),(dy,.obj 507),(cf,.obj 525),(cg,.obj 543),(de,.obj 562),(dg,.obj 591),(cu,.obj 620),(aU,.obj 649),(dY,.obj 678),(cO,.obj 717),(d9,.obj 756),(fH,.obj 785),(bJ,.obj 823),(lB,.obj 840),(iS,.obj 859),(cq,.obj 879),(gM,.obj 902),(gL,.obj 935),(xi,.obj 975),(iR,.obj 1001)])) (zM (zM zE .nil) (zM (zM (.node (some (zD ll 289 cY false false)) (zL (zI 542)) .nil) zE) .nil)) (zM (zM (.node (some (zD bh 145 du true false)) (zF zE .nil) .nil) (zM (zM (zL (zI 590)) .nil) (zM (zL (.lst [.tup [.str NC,zN aK],.tup [.str bn,zN aK]])) (zL (zI 974))))) (zM (zR (zL (zD j7 433 aK false false))) (zM (zR (zL (zI 878))) .nil)))) (zM (zM (.node (some (zD cR 73 aK true false)) (zM (zM (zM (zL (.dic [])) .nil) .nil) (zR (zL (.lst [.tup [.str qI,.tup [.str aY],zN aK]])))) (zF (zR (zL (.dic [(ae,.str lB),(ay,.obj 841),(cz,.tup [.str ae,.str bJ,.tup [.tup [.str cw,.str qI],.tup [.str cw,.str La]]]),(aw,.bool false),(aZ,.bool true),(aR,.obj 842)]))) .nil)) (zM (zR (zM zE (zL (zI 934)))) (zM (zL (zD gX 361 bh false false)) .nil))) (zF (zR (.node (some (zD lg 217 d6 false false)) zE .nil)) (zM (zM (zR (zL (zI 822))) .nil) .nil)))) (.node (some (.dic [(ae,.str aK),(ay,.obj 13),(cz,.none),(aw,.bool true),(aZ,.bool false),(aR,.obj 14)])) (zF (.node (some (zD eA 37 aK true false)) (zR (zM (zL (zD ju 325 cY false false)) (zL (zI 450)))) (zM zE .nil)) (zM (zM (zM (zR (zL (.lst [.tup [.str NB,zN aK],.tup [.str Os,zN aK]]))) .nil) .nil) (zM (.node (some (zD cY 181 bh true false)) (zF zE .nil) .nil) (zR (zM (zL (zD d9 757 a0 false false)) .nil))))) (zM (zM (zM (zR (.node (some (zD gw 397 cD false false)) (zL (.lst [.tup [.str qZ,zN aK]])) .nil)) .nil) (.node (some (zD a0 109 aK true false)) .nil (zF (zM (zL (zD cu 621 a0 false false)) .nil) (zF .nil (zL (.lst [.tup [.str Ab,.tup [.str cw,.str qI]],.tup [.str Aa,.tup [.str cw,.str qI]]])))))) (zM (zF .nil (zM (zR (zL (zI 858))) .nil)) (zR (.node (some (zD av 253 d6 false false)) zE (zL (zI 506)))))))) (.node (some (.cel (.obj 7))) (.node (some (.ins 8 8)) (.node (some (zD eR 19 aK true false)) (zR (zM (.node (some (zD d6 163 bh true false)) (zF zE .nil) .nil) .nil)) (zM (zM (zF (zR (zL (zI 784))) .nil) (zM (zM (zL (.lst [.tup [.str qZ,zN aK]])) .nil) (zR (zL (.lst [.tup [.str Ot,.tup [.str cw,.str qI]]]))))) (zM (zM (.node (some (zD jt 307 cY false false)) (zL (zD de 563 a0 false false)) .nil) zE) (zM (zR zE) .nil)))) (zM (zM (zF (zR (zM (zL (zI 648)) .nil)) (zM (zR (zL (.lst [.tup [.str qI,.tup [.str aY],zN aK],.tup [.str La,.tup [.str aY],zN aK]]))) .nil)) (zM (zR (zR (zL (.lst [.tup [.str lA,.tup [.str cw,.str qI]],.tup [.str my,.tup [.str cw,.str qI]],.tup [.str o9,.tup [.str cw,.str qI]]])))) (.node (some (zD lh 235 d6 false false)) zE (.node (some (zI 488)) .nil (zL (zI 1000)))))) (zM (.node (some (zD cD 91 aK true false)) .nil zE) (zM (zM (zR zE) .nil) (zM (zL (zD sf 379 cR false false)) .nil))))) (zF (zM (zF (zM (zR (zR (zL (.dic [(ae,.str gM),(ay,.obj 903),(cz,.tup [.str ae,.str cq,.tup [.tup [.str cw,.str qI]]]),(aw,.bool false),(aZ,.bool false),(aR,.obj 904)])))) (.node (some (zD oV 199 d6 false false)) zE (zL (.lst [.tup [.str gu,zN ik],.tup [.str bn,zN aK]])))) (zM (zR (zM (zL (zD dY 679 a0 false false)) .nil)) .nil)) (.node (some (zD iq 55 aK true false)) (zR (zM (zL (zD jv 343 cY false false)) .nil)) (zM zE (zR (zM zE .nil))))) (zM (zM (zM (zM (.node (some (zD js 271 d6 false false)) (zL (zI 524)) .nil) zE) (zR (zM (zL (zI 716)) .nil))) (zF .nil (zM (zM zE .nil) .nil))) (zM (zM (zR (zL (zD ik 415 aK false false))) (zM (zR zE) .nil)) (.node (some (zD du 127 iq true false)) .nil (zF .nil zE))))))) (zM (zM (.node (some (.dic [(eU,.obj 15)])) (zM (zM (zM zE .nil) (zM (zM (.node (some (zI 287)) zE .nil) zE) .nil)) (zM (zM (.node (some (zI 143)) (zF .nil (zL (zD fH 786 a0 false false))) .nil) (zM (zM zE .nil) (zR (zL (.lst [.tup [.str qI,.tup [.str aY],zN aK]]))))) (zM (zR (zL (zI 431))) (zM (zR (zL (.lst [.tup [.str qI,.tup [.str aY],zN aK]]))) .nil)))) (zM (zM (.node (some (zI 71)) (zR (zM (zL (zD aU 650 a0 false false)) (zL (.lst [.tup [.str lA,.tup [.str cw,.str qI]],.tup [.str o9,.tup [.str cw,.str qI]]])))) (zF (zR (zL (zI 839))) .nil)) (zM (zR (zM (zL (.lst [.tup [.str NC,zN aK],.tup [.str bn,zN aK]])) (zL (.lst [.tup [.str qI,.tup [.str aY],zN aK]])))) (zM (zL (zI 359)) (.node (some (zD dW 490 a0 false false)) .nil (zL (zD iR 1002 du false false)))))) (zF (zR (.node (some (zI 215)) zE .nil)) (zM (zM (zR (zL (.lst [.tup [.str qI,.tup [.str aY],zN aK],.tup [.str La,.tup [.str aY],zN aK]]))) .nil) .nil)))) (.node (some (zI 11)) (zF (.node (some (zI 35)) (zR (zM (zL (zI 323)) zE)) (zM zE .nil)) (zR (zM (.node (some (zI 179)) (zF (zL (.lst [.tup [.str qZ,zN aK]])) .nil) .nil) (zR (zM (zL (zI 755)) .nil))))) (zM (zM (zM (zM (zM (zL (zD cf 526 a0 false false)) .nil) (zL (zI 395))) (zR (zM (zL (zD cO 718 a0 false false)) .nil))) (.node (some (zI 107)) .nil (zF (zM (zL (zI 619)) .nil) .nil))) (zM (zF .nil (zM (zR (zL (.lst [.tup [.str qI,.tup [.str aY],zN aK],.tup [.str La,.tup [.str aY],zN aK]]))) .nil)) (zR (.node (some (zI 251)) zE zE)))))) (.node (some (.dic [(gS,.int 0),(aD,.obj 9),(bP,.obj 1031),(cZ,.clo 0 5),(eW,.clo 1 5)])) (zM (.node (some (zI 17)) (zM (zR (zR (zL (zD se 452 aK false true)))) (zM (.node (some (zI 161)) zE .nil) .nil)) (zM (zM (zF (zR zE) .nil) .nil) (zM (zM (.node (some (zI 305)) (zL (zI 561)) .nil) zE) .nil))) (zM (zM (zF (zR (zM zE .nil)) (zM (zR zE) .nil)) (zR (.node (some (zI 233)) zE (zF .nil (zL (.lst [.tup [.str qI,.tup [.str aY],zN bh]])))))) (zM (.node (some (zI 89)) .nil (zF (zR (zL (.dic [(ae,.str iS),(ay,.obj 860),(cz,.tup [.str ae,.str bJ,.tup [.tup [.str cw,.str qI],.tup [.str cw,.str La]]]),(aw,.bool false),(aZ,.bool true),(aR,.obj 861)]))) .nil)) (zR (zM (zL (zI 377)) (zL (zD dy 508 a0 false false))))))) (zF (zM (zF (zM (zR (zR (zL (zI 901)))) (.node (some (zI 197)) zE .nil)) (zM (zR (zM (zL (zI 677)) (zL (.dic [(ae,.str gL),(ay,.obj 936),(cz,.tup [.str ae,.str cq,.tup [.tup [.str cw,.str qI]]]),(aw,.bool false),(aZ,.bool false),(aR,.obj 937)])))) .nil)) (.node (some (zI 53)) (zR (zM (zL (zI 341)) .nil)) (zM (zF (zR (zL (zD bJ 824 aK true false))) .nil) (zR (zM (zL (.lst [.tup [.str cw,zN aK]])) .nil))))) (zM (zM (zM (zM (.node (some (zI 269)) zE .nil) zE) (zM (zM (zL (zD dg 592 a0 false false)) .nil) (zM zE (zL (zD xi 976 aK false true))))) (zF .nil (zM (zM (zL (.lst [.tup [.str qZ,zN aK]])) (zL (.dic [(ae,.str cq),(ay,.obj 880),(cz,.tup [.str ae,.str bJ,.tup [.tup [.str cw,.str qI],.tup [.str Df,.int 1]]]),(aw,.bool true),(aZ,.bool false),(aR,.obj 881)]))) .nil))) (zM (zM (zM (zM (zL (zD cg 544 a0 false false)) .nil) (zL (zI 413))) .nil) (.node (some (zI 125)) .nil zE)))))))
noncomputable def Hb (o:Option O):List (Nat×V):=@Option.rec O (fun _=>List (Nat×V)) [] (fun o=>O.casesOn o (fun _=>[]) (fun l=>l) (fun _ _=>[]) (fun _ _=>[]) (fun _=>[]) [] (fun _=>[]) (fun _=>[]) (fun _=>[]) (fun _=>[])) o
noncomputable def fq:List (Nat×V):=Hb (trC.get 15)
noncomputable def su (n k:Nat):Option O:=@Nat.rec (fun _=>Option O) none (fun m _=>@Nat.rec (fun _=>Option O) (trC.get k) (fun _ _=>af (c6 k 15) (some (.pd fq)) (af (c6 k 1031) (some (.pd [])) (trC.get k))) m) n
noncomputable def Hc (m i:Nat):Bool:=af (c6 i 0) false (af (eL (Nat.div m 4) i) true (af (c6 i 4) (eL 1 (Nat.mod m 4)) (af (c6 i 15) (eL 2 (Nat.mod m 4)) (af (c6 i 1031) (eL 2 (Nat.mod m 4)) false))))
structure St where
 nx:Nat
 ob:List (Nat×O)
 tr:Nat
 mu:Nat
noncomputable def St.get (Z:St) (k:Nat):Option O:=@St.rec (fun _=>Option O) (fun _ b a _=>@Option.rec O (fun _=>Option O) (su a k) (fun o=>some o) (az k b)) Z
noncomputable def St.set (Z:St) (k:Nat) (o:O):St:=@St.rec (fun _=>St) (fun d a c b=>⟨d,(k,o)::a,c,b⟩) Z
noncomputable def St.new (Z:St) (o:O):St:=@St.rec (fun _=>St) (fun a b d c=>⟨Nat.succ a,(a,o)::b,d,c⟩) Z
noncomputable def St.mut (Z:St) (i:Nat):Bool:=@St.rec (fun _=>Bool) (fun _ _ _ a=>Hc a i) Z
noncomputable def nm6:List Nat:=[40566231233675222168998093258804,19343421856876682606018668,178412171745903424615814573026821386690101362,85073958612472589415803652846468989031,19343569430785291787960428,9223657910108684409]
noncomputable def Lb:List Nat:=[9223657910108684409,19343569430785291787960428,178412171745903424615814573026821386690101362]
noncomputable def vnT:List (List Nat):=[[40566366632795169633317452513377,40566366632804393005354307289185],[40566366632795169633317452513378,40566366632804393005354307289186],[40566366632795169633317452513379,40566366632804393005354307289187]]
noncomputable def vn (n j:Nat):Nat:=(vnT.getD n []).getD j 0
noncomputable def bV (n j lo up:Nat):V:=.tup [.str (vn n j),.str lo,.str up]
noncomputable def los:List Nat:=[1,40566231233675222168998093258804]
noncomputable def KM (n:Nat):Nat->List (List V)
 | 0=>[[]]
 | 1=>los.flatMap fun lo=>nm6.map fun up=>[bV n 0 lo up]
 | _=>los.flatMap fun lo=>nm6.flatMap fun up=>los.flatMap fun lo'=>nm6.map fun up'=>[bV n 0 lo up,bV n 1 lo' up']
noncomputable def Qq (c:Nat):List (List V):=KM (c / 3) (c%3)
noncomputable def q6 (y:Nat):List Nat->Bool:=@List.rec Nat (fun _=>Bool) false (fun a _ b=>af (c6 a y) true b)
noncomputable def Af (y:Nat):Option Bool:=af (q6 y nm6) none (some false)
noncomputable def KP {α:Type} (v:V) (n:α) (b:Bool->α) (i:Int->α) (s:Nat->α) (t:List V->α) (m:Nat->α) (o:α):α :=
 V.casesOn v n b i s (fun _=>o) t (fun _=>o) (fun _=>o) (fun _=>o) (fun _ _=>o) (fun _=>o) (fun w k=>af (c6 w 0) (m k) o)
noncomputable abbrev sF:Option Bool:=some false
noncomputable def Dg (a b:Bool):Bool:=af a b (not b)
noncomputable def vV (b:V):Option Bool:=KP b (some true) (fun _=>sF) (fun _=>sF) (fun _=>sF) (fun _=>sF) (fun _=>sF) none
noncomputable def vW (x:Bool) (b:V):Option Bool:=KP b sF (fun y=>some (Dg x y)) bb (fun _=>sF) (fun _=>sF) (fun _=>sF) none
noncomputable def Ag (x:Int) (b:V):Option Bool:=KP b sF bb (fun y=>some (decide (x=y))) (fun _=>sF) (fun _=>sF) (fun _=>sF) none
noncomputable def Ah (x:Nat) (b:V):Option Bool:=KP b sF (fun _=>sF) (fun _=>sF) (fun y=>some (c6 x y)) (fun _=>sF) (fun _=>Af x) none
noncomputable def Ai (f:List V->Option Bool) (b:V):Option Bool:=KP b sF (fun _=>sF) (fun _=>sF) (fun _=>sF) f (fun _=>sF) none
noncomputable def Aj (k:Nat) (b:V):Option Bool:=KP b sF (fun _=>sF) (fun _=>sF) (fun y=>Af y) (fun _=>sF) (fun j=>af (c6 k j) (some true) none) none
noncomputable def Ak (x y:Option Bool):Option Bool:=@Option.rec Bool (fun _=>Option Bool) none (fun t=>af t y sF) x
noncomputable def xk (r:List V):Option Bool:=@List.rec V (fun _=>Option Bool) (some true) (fun _ _ _=>sF) r
noncomputable def mD (f:V->Option Bool) (g:List V->Option Bool) (r:List V):Option Bool:=@List.rec V (fun _=>Option Bool) sF (fun b s _=>Ak (f b) (g s)) r
noncomputable def uh (a:V):V->Option Bool:=@V.rec (fun _=>V->Option Bool) (fun _=>List V->Option Bool) vV vW Ag Ah (fun _ _=>none) (fun _ c=>Ai c)
 (fun _ _=>none) (fun _ _=>none) (fun _ _=>none) (fun _ _ _=>none) (fun _ _=>none) (fun w k b=>af (c6 w 0) (Aj k b) none) xk (fun _ _ f g=>mD f g) a
noncomputable def ui (l:List V):List V->Option Bool:=@List.rec V (fun _=>List V->Option Bool) xk (fun a _ g=>mD (uh a) g) l
noncomputable def yC (f:V->Bool) (l:List V):Bool:=@List.rec V (fun _=>Bool) true (fun a _ b=>af (f a) b false) l
noncomputable def Ov (t:List V->Bool) (v:V):Bool:=V.casesOn v true (fun _=>true) (fun _=>true) (fun _=>true) ac t ac ac ac aJ ac (fun w _=>c6 w 0)
noncomputable def He (n:Nat):V->Bool:=@Nat.rec (fun _=>V->Bool) (Ov fun _=>false) (fun _ a=>Ov (yC a)) n
noncomputable def Ld (l:List V):Bool:=yC (He 12) l
noncomputable def xm (a b:V):Option Bool:=af (He 12 a) (af (He 12 b) (uh a b) none) none
noncomputable def ND (l r:List V):Option Bool:=match l,r with
 | [],[]=>some true
 | [],_::_=>some false
 | _::_,[]=>some false
 | _::_,_::_=>af (Ld l) (af (Ld r) (ui l r) none) none
noncomputable def PD (Z:St) (i j:Nat):Option Bool:=K9 (Z.get i) fun l=>K9 (Z.get j) fun r=>ND l r
noncomputable def FM (Z:St) (a b:V):Option Bool:=V.casesOn a (xm a b) (fun _=>xm a b) (fun _=>xm a b) (fun x=>V.casesOn b (xm a b) (fun _=>xm a b) (fun _=>xm a b) (fun y=>some (c6 x y)) bb (fun _=>xm a b) bb bb bb (fun _ _=>none) (fun _=>xm a b) (fun _ _=>xm a b)) bb (fun _=>xm a b) (fun i=>Qo b fun j=>PD Z i j) bb bb (fun _ _=>none) (fun _=>xm a b) (fun _ _=>xm a b)
noncomputable def Ow (v:V) (l:List V):Option Bool:=@List.rec V (fun _=>Option Bool) (some false) (fun a _ b=>@Option.rec Bool (fun _=>Option Bool) none (fun t=>af t (some true) b) (uh a v)) l
noncomputable def Le (v:V) (l:List V):Option Bool:=af (He 12 v) (af (Ld l) (Ow v l) none) none
noncomputable def jm (c:Nat):Nat:=Nat.div (Nat.log2 c) 21
noncomputable def uj (a b:Nat):Nat:=jf (Nat.mul a (Nat.pow SB (jm b))) (Nat.sub b (Nat.pow SB (jm b)))
noncomputable def xn:Nat->Nat->List Nat->List Nat
 | 0,_,l=>l
 | n+1,c,l=>xn n (c / SB) (c%SB::l)
noncomputable def sdec (c:Nat):List Nat:=xn (jm c) c []
noncomputable def Dm:List Nat->List Nat->Bool
 | _,[]=>false
 | [],_::_=>true
 | a::r,b::s=>match l9 a b with
  | true=>true
  | false=>match c6 a b with
   | true=>Dm r s
   | false=>false
noncomputable def uk (a b:Nat):Bool:=Dm (sdec a) (sdec b)
noncomputable def mE {α:Type} (x:Nat×α):List (Nat×α)->List (Nat×α)
 | []=>[x]
 | y::r=>match uk x.1 y.1 with
  | true=>x::y::r
  | false=>y::mE x r
noncomputable def eI {α:Type}:List (Nat×α)->List (Nat×α)->List (Nat×α)
 | [],acc=>acc
 | x::r,acc=>eI r (mE x acc)
noncomputable def jg:List V->Option (List Nat)
 | []=>some []
 | .str c::r=>match jg r with | some l=>some (c::l) | none=>none
 | _::_=>none
noncomputable def pe (sep:Nat):List Nat->Nat
 | []=>1
 | [a]=>a
 | a::r=>uj a (uj sep (pe sep r))
noncomputable def dG {α:Type} (l:List α):Nat->Option α:=@List.rec α (fun _=>Nat->Option α) bb (fun a _ b n=>@Nat.rec (fun _=>Option α) (some a) (fun m _=>b m) n) l
noncomputable def len {α:Type} (l:List α):Nat:=@List.rec α (fun _=>Nat) 0 (fun _ _ a=>Nat.succ a) l
noncomputable def Lf (l:List V) (i:Int):Option V:=@Int.rec (fun _=>Option V) (fun n=>af (eL n 1000000) (dG l n) none) (fun n=>af (eL (Nat.succ n) (Nat.min (len l) 1000000)) (dG l (Nat.sub (len l) (Nat.succ n))) none) i
noncomputable def Ox (l:List V) (hi:V):Option (List V):=FH hi fun i=>Int.rec (fun b=>some (l.take b)) (fun n=>af (c6 n 0) (some (l.take (len l - 1))) none) i
noncomputable def Lg (l:List V) (lo hi st:V):Option (List V):=af (r7 st) (af (r7 hi) (FH lo fun i=>Int.rec (fun a=>some (l.drop a)) bb i) (af (r7 lo) (Ox l hi) none))
 (af (r7 lo) (FH st fun i=>af (decide (i=-1)) (af (r7 hi) (some l.reverse) (FH hi fun j=>af (decide (j=0)) (af (eL (len l) 1) (some []) none) none)) none) none)
noncomputable def kP:List V->Option (List (Nat×V))
 | []=>some []
 | .tup [.str c,v]::r=>match kP r with | some l=>some ((c,v)::l) | none=>none
 | _::_=>none
noncomputable def fJ (l:List (Nat×V)):List (Nat×V)->List (Nat×V)
 | []=>l
 | p::r=>fJ (put p.1 p.2 l) r
noncomputable def yD:List V->Option (List (Nat×V))
 | []=>some []
 | .str c::v::r=>match yD r with | some q=>some ((c,v)::q) | none=>none
 | _=>none
noncomputable def gz:Nat->Int->Int->List V
 | 0,_,_=>[]
 | n+1,a,c=>.int a::gz n (a+c) c
inductive Src where
 | seq (l:List V)
 | live (k:Nat)
 | zip (a b:Src)
 | enm (a:Src)
noncomputable def Src.at:Src->Nat->St->Option (Option V)
 | .seq l,i,_=>some (dG l i)
 | .live k,i,Z=>match Z.get k with
  | some (.lst l)=>some (dG l i)
  | _=>none
 | .zip a b,i,Z=>match a.at i Z with
  | some (some x)=>match b.at i Z with
   | some (some y)=>some (some (.tup [x,y]))
   | r=>r
  | r=>r
 | .enm a,i,Z=>match a.at i Z with
  | some (some x)=>some (some (.tup [.int i,x]))
  | r=>r
noncomputable def Src.size:Src->St->Nat
 | .seq l,_=>len l
 | .live k,Z=>match Z.get k with
  | some (.lst l)=>len l
  | _=>0
 | .zip a b,Z=>min (a.size Z) (b.size Z)
 | .enm a,Z=>a.size Z
noncomputable abbrev aO:=List (Nat×V)
noncomputable abbrev K1:=V->St->Bool
noncomputable abbrev KX:=Nat->St->Bool
noncomputable abbrev KL:=List V->St->Bool
noncomputable abbrev Call:=V->List V->St->K1->KX->Bool
noncomputable def oA (v:V) (Z:St) (k:List V->Bool):Bool:=V.casesOn v false ac ac ac ac (fun l=>k l) (fun i=>gh (Z.get i) k) ac ac aJ ac aJ
noncomputable def ul (v:V) (Z:St) (k:Src->Bool):Bool:=V.casesOn v false ac ac ac ac (fun l=>k (.seq l)) (fun i=>gh (Z.get i) fun _=>k (.live i)) ac ac aJ ac aJ
set_option genCtorIdx true in
inductive Bi where
 | tuple | list | len | dict | sorted | str | range | zip | enumerate | int | exception
noncomputable abbrev Tn:=Bool×Nat×Pos
inductive Tg where
 | one (t:Tn)
 | many (l:List Tn) (kk:Nat) (p:Pos)
set_option genCtorIdx false in
inductive X where
 | cst (c:Const) (kk:Nat) (v:V) (p:Pos)
 | loc (x:Nat) (p:Pos)
 | cel (x:Nat) (p:Pos)
 | cvr (x:Nat) (p:Pos)
 | glo (v:V) (x:Nat) (p:Pos)
 | tup (es:X) (kk:Nat) (p:Pos)
 | lis (es:X) (p:Pos)
 | dct (ps:X) (p:Pos)
 | bin (op:Operator) (l r:X) (p:Pos)
 | cmp (op:CmpOp) (l r:X) (p:Pos)
 | boo (op:BoolOp) (vs:X) (p:Pos)
 | bcons (op:BoolOp) (h t:X)
 | bone (h:X)
 | nott (a:X) (p:Pos)
 | neg (a:X) (p:Pos)
 | ite (c a b:X) (p:Pos)
 | att (o:X) (a:Nat) (p:Pos)
 | idx (o i:X) (p:Pos)
 | slc (o lo hi st:X) (sp p:Pos)
 | cal (f as:X) (p:Pos)
 | calb (b:Bi) (as:X) (bp p:Pos)
 | sortk (as kv:X) (bp kp p:Pos)
 | mth (o:X) (a:Nat) (as:X) (ap p:Pos)
 | mthx (as:X) (cp ap p:Pos)
 | mthc (i:Nat) (c a:Nat) (as:X) (cp ap p:Pos)
 | lcm (e:X) (tg:Tg) (it ifs:X) (sc:Scope) (p:Pos)
 | lcz (e:X) (tg:Tg) (b:Bi) (as ifs:X) (sc:Scope) (bp ip p:Pos)
 | non
 | nil
 | cons (h t:X)
 | inil
 | icons (h t:X)
 | raw (e:Expr)
set_option genCtorIdx false in
inductive Sx where
 | asg (t:Tn) (e:X) (p:Pos)
 | asgT (ts:List Tn) (kk:Nat) (tp:Pos) (e:X) (p:Pos)
 | asgA (o:X) (a:Nat) (ap:Pos) (e:X) (p:Pos)
 | asgI (o i:X) (ip:Pos) (e:X) (p:Pos)
 | exp (e:X) (p:Pos)
 | ret (e:X) (p:Pos)
 | rai (lp:Bool) (e:X) (p:Pos)
 | iff (c:X) (a b:Sx) (p:Pos)
 | whl (c:X) (b:Sx) (p:Pos)
 | forr (t:Tg) (it:X) (b:Sx) (p:Pos)
 | forz (t:Tg) (q:Bi) (as:X) (bp ip:Pos) (b:Sx) (p:Pos)
 | tri (r:Bool) (e:X) (ep:Pos) (c:Nat) (tn:Nat) (tp:Pos) (n:Nat) (h:Sx) (hp p:Pos)
 | nil
 | cons (h t:Sx)
 | raw (s:Stmt)
structure Fn where
 ps:List Nat
 ds:List V
 cl:List Nat
 bd:Sx
noncomputable abbrev nv:Nat:=0
noncomputable abbrev cW:Nat:=1
noncomputable abbrev jF:Nat:=2
noncomputable abbrev lH:Nat:=3
noncomputable abbrev Hf:Nat:=4
noncomputable abbrev sv:Nat:=5
noncomputable abbrev pf:Nat:=6
noncomputable abbrev bX:Nat:=7
noncomputable abbrev sx:Nat:=8
section
open Str renaming ofString->j
noncomputable def Oy:List (Nat×Str):=[(cX,j "tuple"),(zZ,j "list"),(z0,j "dict"),(FI,j "len"),(jr,j "sorted"),(xf,j "range"),(FJ,j "zip"),(nh,j "enumerate"),(FK,j "str"),(xg,j "int"),(a0,j "Exception"),(cG,j "append"),(jd,j "pop"),(eQ,j "extend"),(j0,j "index"),(oR,j "get"),(hW,j "update"),(iF,j "split"),(dU,j "encode"),(iG,j "join"),(ue,j "key"),(aH,j "__init__"),(bE,j "value"),(ft,j "message"),(oU,j "spot"),(bn,j "args"),(j3,j "utf-8"),(hZ,j "nothing"),(ae,j "name"),(aK,j "Any"),(aY,j "bottom"),(eR,j "Type"),(eA,j "Function"),(oV,j "Int8"),(lg,j "Int16"),(lh,j "Int32"),(av,j "Int64"),(js,j "BigInt"),(ll,j "UInt8"),(jt,j "UInt16"),(ju,j "UInt32"),(jv,j "UInt64"),(dW,j "DivideError"),(dy,j "InexactError"),(cf,j "TypeError"),(cg,j "StackOverflowError"),(de,j "ArgumentError"),(dg,j "OverflowError"),(cu,j "DimensionMismatch"),(aU,j "ErrorException"),(dY,j "MethodError"),(cO,j "AmbiguousError"),(aE,j "self"),(jw,j "RowsError"),(mx,j "text"),(bZ,j "parts"),(iH,j "error_kind"),(ig,j "struct"),(jx,j "Thrown"),(fF,j "error_value"),(iI,j "text_value"),(gS,j "many"),(ay,j "params"),(aD,j "kinds"),(jy,j "rest"),(aq,j "found"),(bU,j "kind_text"),(fG,j "union"),(dZ,j "BOTTOM"),(cP,j "ANY"),(dq,j "left"),(cQ,j "here"),(aj,j "kind"),(bK,j "word"),(dh,j "typeof"),(fo,j "all"),(iJ,j "union_of"),(gH,j "table"),(gj,j "rebuilt_kind"),(cC,j "substituted"),(gk,j "part"),(d8,j "parts_of_kind"),(oW,j "bounds"),(og,j "inner"),(cw,j "var"),(gI,j "bound"),(Df,j "n"),(Dl,j "fn"),(gU,j "binder_text"),(be,j "one"),(gV,j "some"),(oX,j "inside"),(cx,j "param"),(aV,j "type"),(jz,j "thrown"),(bN,j "named"),(ij,j "sym"),(fu,j "rows"),(fP,j "side"),(eB,j "is_asked"),(iK,j "MOST_CASES"),(d5,j "is_diagonal"),(f0,j "left_cases"),(oY,j "case"),(gW,j "tuple_cases"),(gn,j "is_empty"),(gp,j "fuel"),(r8,j "goals"),(bF,j "sides"),(fw,j "waiting"),(j4,j "settled"),(eS,j "are_concrete"),(iM,j "ways"),(qY,j "way"),(ln,j "copied"),(my,j "step"),(vP,j "goal"),(j5,j "by_form"),(aQ,j "other"),(aW,j "above"),(oh,j "below"),(r9,j "same"),(jA,j "sub"),(j6,j "numbers"),(om,j "plain"),(cy,j "lower"),(cH,j "upper"),(lq,j "chosen"),(lr,j "opened"),(iN,j "FUNCTION"),(oZ,j "TYPE"),(lw,j "words"),(iO,j "tuple_ways"),(bQ,j "nominal"),(lx,j "supers"),(o3,j "wanted"),(ly,j "is_one"),(o5,j "search"),(xh,j "run"),(sd,j "Sides"),(o6,j "Search"),(aw,j "is_abstract"),(aZ,j "is_mutable"),(aR,j "fields"),(cz,j "super"),(dP,j "row"),(dA,j "Decl"),(eU,j "decls"),(bH,j "decl"),(o7,j "wild"),(cU,j "KindFault"),(cV,j "free_vars"),(lz,j "own"),(gJ,j "table_for"),(iP,j "super_of"),(cL,j "variable"),(gK,j "whole"),(bM,j "declare"),(iQ,j "start_rows"),(gr,j "start_errors"),(ik,j "Symbol"),(gu,j "head"),(se,j "Expr"),(j7,j "Nothing"),(cD,j "AbstractString"),(gw,j "String"),(cR,j "AbstractChar"),(sf,j "Char"),(bh,j "Integer"),(gX,j "Bool"),(kL,j "UNSIGNED"),(cY,j "Unsigned"),(o8,j "SIGNED"),(d6,j "Signed"),(du,j "Real"),(iq,j "Number"),(sg,j "Kinds"),(Os,j "i"),(NB,j "a"),(fH,j "BoundsError"),(d9,j "UndefVarError"),(gY,j "CALL_ERRORS"),(NC,j "f"),(gZ,j "TEXT_ERRORS"),(qZ,j "msg"),(gx,j "PLAIN_ERRORS"),(fy,j "item"),(Aa,j "den"),(Ab,j "num"),(iR,j "Rational"),(Ot,j "x"),(xi,j "Ref"),(o9,j "stop"),(lA,j "start"),(gL,j "StepRange"),(gM,j "UnitRange"),(cq,j "AbstractRange"),(bJ,j "AbstractArray"),(iS,j "SubArray"),(lB,j "Array"),(vQ,j "rank"),(iT,j "anything"),(iU,j "fault"),(di,j "thrown_text"),(gN,j "MOST_SAID"),(aN,j "image"),(iV,j "bound_kind"),(iu,j "Vararg"),(si,j "Union"),(eE,j "tuple_of"),(iW,j "told_tuple"),(kM,j "param_of"),(bO,j "kind_asked"),(lC,j "apply_type"),(kO,j "body"),(f6,j "is_subtype"),(ou,j "where"),(jD,j "bool"),(uf,j "method"),(eW,j "define"),(mz,j "refused"),(cZ,j "value_of"),(bk,j "binders"),(kq,j "at"),(mA,j "NOTHING"),(iy,j "script"),(pa,j "load"),(bA,j "sack"),(ug,j "top"),(sj,j "digit"),(g4,j "start_kinds"),(lD,j "Supply"),(vR,j "deed"),(bq,j "_law_grab"),(PC,j "P"),(aI,j "_law_name"),(dJ,j "_law_bound"),(mC,j "earlier"),(c8,j "is_right"),(bt,j "_law_got"),(iX,j "end_deed"),(Ou,j "z"),(bP,j "names"),(Ac,j "bad"),(eX,j "begin_deed"),(iz,j "due"),(eY,j "_law_whole"),(dK,j "lower_word"),(eZ,j "upper_word"),(ow,j "elder"),(gy,j "_law_binders"),(vS,j "told"),(e7,j "values"),(ci,j "applied_deed"),(eG,j "name_now"),(ee,j "_law_is_under"),(iY,j "sig_deed"),(sq,j "wide"),(g5,j "once"),(vT,j "last"),(vU,j "tail"),(Ad,j "turn"),(cS,j "union_all_deed"),(iA,j "vector"),(dB,j "_law_applied_right"),(pb,j "number"),(eH,j "_law_begun_right"),(GZ,j "Kc"),(G9,j "Kb"),(Ha,j "Ka"),(e8,j "_law_rows_right"),(dE,j "_law_written_right"),(iZ,j "_law_image"),(jE,j "_law_sack"),(Ae,j "next"),(lE,j "with_lower"),(lF,j "with_upper"),(nq,j "add_lower"),(nr,j "add_upper"),(lG,j "later_ones"),(kH,j "field_kinds"),(kI,j "is_declared"),(xj,j "under"),(q5,j "applied"),(nu,j "is_within"),(kJ,j "is_concrete")]
end
noncomputable def mthA:List (Nat×List (Nat×Nat)):=[(nv,[(aH,0)]),(cW,[(aH,0)]),(jF,[(aH,1)]),(lH,[(aH,7),(Ae,67)]),(Hf,[(aH,69),(lE,70),(lF,71),(cy,72),(cH,73)]),(sv,[(aH,17),(ln,74),(lr,75),(fP,76),(eB,18),(nq,77),(nr,78),(lG,79)]),(pf,[(aH,21),(xh,22),(j4,23),(my,24),(j6,85),(oh,86),(aW,87),(j5,25),(lq,88),(om,26),(bQ,27),(eS,28),(ly,89)]),(bX,[(aH,30),(gJ,31),(gK,32),(kH,94)]),(sx,[(aH,33),(bM,34),(kI,95),(bH,35),(iP,36),(lx,37),(xj,96),(q5,97),(nu,98),(gK,38),(kJ,99)])]
noncomputable def kt (c:Nat):List (Nat×Nat):=@Option.rec _ (fun _=>List (Nat×Nat)) [] (fun l=>l) (az c mthA)
noncomputable def jG (c:Nat):Bool:=eL c 2
namespace Q
noncomputable abbrev nS (n:Nat):Str:=@Option.rec Str (fun _=>Str) (dX "") (fun s=>s) (az n Oy)
noncomputable abbrev p (l c d:Nat):Pos:=⟨l,c,l,d⟩
noncomputable abbrev j (s:String):Str:=dX s
noncomputable abbrev le (n:Nat):Nat:=Nat.log2 n / 21
noncomputable abbrev l (n a b:Nat):X:=.loc n (p a b (b+le n))
noncomputable abbrev w (n a b:Nat):X:=.cel n (p a b (b+le n))
noncomputable abbrev v (n a b:Nat):X:=.cvr n (p a b (b+le n))
noncomputable abbrev L (n a b d:Nat):X:=.loc n (p a b d)
noncomputable abbrev W (n a b d:Nat):X:=.cel n (p a b d)
noncomputable abbrev V1 (n a b d:Nat):X:=.cvr n (p a b d)
noncomputable abbrev g (x:V) (n a b:Nat):X:=.glo x n (p a b (b+le n))
noncomputable abbrev f (x n a b:Nat):X:=.glo (.fn x) n (p a b (b+le n))
noncomputable abbrev k (x n a b:Nat):X:=.glo (.cls x) n (p a b (b+le n))
noncomputable abbrev r (t:String) (n a b d:Nat):X:=.cst (.str t) 0 (.str n) (p a b d)
noncomputable abbrev s (n a b:Nat):X:=.cst (.str (nS n)) 0 (.str n) (p a b (b+(le n+2)))
noncomputable abbrev i (t:Int) (a b:Nat):X:=.cst (.int t) 0 (.int t) (p a b (b+1))
noncomputable abbrev I (t:Int) (a b d:Nat):X:=.cst (.int t) 0 (.int t) (p a b d)
noncomputable abbrev o (t:Bool) (a b:Nat):X:=.cst (.bool t) 0 (.bool t) (p a b (b+cond t 4 5))
noncomputable abbrev z (a b:Nat):X:=.cst .none 0 .none (p a b (b+4))
noncomputable abbrev t (x:X) (a b d:Nat):X:=.tup x 0 (p a b d)
noncomputable abbrev h (x:X) (a b d:Nat):X:=.lis x (p a b d)
noncomputable abbrev x (x y:X) (a b d:Nat):X:=.idx x y (p a b d)
noncomputable abbrev q (u:CmpOp) (x y:X) (a b d:Nat):X:=.cmp u x y (p a b d)
noncomputable abbrev n (u:Operator) (x y:X) (a b d:Nat):X:=.bin u x y (p a b d)
noncomputable abbrev a (x:X) (n a b d:Nat):X:=.att x n (p a b d)
noncomputable abbrev u (x:X) (a b d:Nat):X:=.nott x (p a b d)
noncomputable abbrev d (u:BoolOp) (x:X) (a b d:Nat):X:=.boo u x (p a b d)
noncomputable abbrev c (x y:X) (a b d:Nat):X:=.cal x y (p a b d)
noncomputable abbrev b (u:Bi) (y:X) (a b d e:Nat):X:=.calb u y (p a b d) (p a b e)
noncomputable abbrev m (x:X) (n:Nat) (y:X) (a b d e:Nat):X:=.mth x n y (p a b d) (p a b e)
noncomputable abbrev y (x y:X):X:=.cons x y
noncomputable abbrev e:X:=.nil
noncomputable abbrev Y (x y:Sx):Sx:=.cons x y
noncomputable abbrev E:Sx:=.nil
noncomputable abbrev A (n:Nat) (x:X) (a b e:Nat):Sx:=.asg (false,n,p a b (b+le n)) x (p a b e)
noncomputable abbrev P (a b c d:Nat):Pos:=⟨a,b,c,d⟩
noncomputable abbrev H (t:X) (x y:Sx) (a b c d:Nat):Sx:=.iff t x y ⟨a,b,c,d⟩
noncomputable abbrev J (x:X) (a b d:Nat):Sx:=.exp x (p a b d)
noncomputable abbrev R (x:X) (a b d:Nat):Sx:=.ret x (p a b d)
noncomputable abbrev S (x:List (Str×i3)):Scope:=⟨.function,x,false,false,[]⟩
end Q
section
open Q
noncomputable def lI:Fn:=⟨[aE,ft,oU],[.none],[],(Y (J (.mthx (y (l aE 8 27) (y (l ft 8 33) e)) (p 8 8 17) (p 8 8 26) (p 8 8 41)) 8 8 41) (Y (.asgA (l aE 9 8) ft (p 9 8 20) (l ft 9 23) (p 9 8 30)) (Y (.asgA (l aE 10 8) oU (p 10 8 17) (l oU 10 20) (p 10 8 24)) E)))⟩
noncomputable def pg:Fn:=⟨[aE,bE],[],[],(Y (J (.mthc 0 jw aH (y (l aE 16 27) (y (r "a value is thrown" 0x200061000100001d8000c20006c0003a800194000400006900039800080000e800068000390001bc000ee0006e 16 33 52) e)) (p 16 8 17) (p 16 8 26) (p 16 8 53)) 16 8 53) (Y (.asgA (l aE 17 8) bE (p 17 8 18) (l bE 17 21) (p 17 8 26)) E))⟩
noncomputable def sy:Fn:=⟨[mx],[],[],(Y (R (t (y (s mx 21 12) (y (m (l mx 21 20) dU (y (s j3 21 32) e) 21 20 31 40) e)) 21 11 41) 21 4 41) E)⟩
noncomputable def sA:Fn:=⟨[ae],[],[],(Y (R (t (y (s ae 23 12) (y (l ae 23 20) (y (t e 23 26 28) e))) 23 11 29) 23 4 29) E)⟩
noncomputable def qJ:Fn:=⟨[ae,bZ],[],[],(Y (R (t (y (s ig 25 12) (y (c (f 3 iH 25 22) (y (l ae 25 33) e) 25 22 38) (y (b .tuple (y (l bZ 25 46) e) 25 40 45 52) e))) 25 11 53) 25 4 53) E)⟩
noncomputable def Am:Fn:=⟨[ae,bZ],[],[],(Y (R (c (k jF jx 27 11) (y (c (f 4 fF 27 18) (y (l ae 27 30) (y (l bZ 27 36) e)) 27 18 42) e) 27 11 43) 27 4 43) E)⟩
noncomputable def qK:Fn:=⟨[ae,mx],[],[],(Y (R (c (k jF jx 29 11) (y (c (f 4 fF 29 18) (y (l ae 29 30) (y (t (y (c (f 2 iI 29 37) (y (l mx 29 48) e) 29 37 53) e) 29 36 55) e)) 29 18 56) e) 29 11 57) 29 4 57) E)⟩
noncomputable def ph:Fn:=⟨[aE],[],[],(Y (.asgA (l aE 36 8) gS (p 36 8 17) (i 0 36 20) (p 36 8 21)) E)⟩
noncomputable def Dn:Fn:=⟨[ae,ay],[(.tup [])],[],(Y (R (t (y (s ae 41 12) (y (l ae 41 20) (y (b .tuple (y (l ay 41 32) e) 41 26 31 39) e))) 41 11 40) 41 4 40) E)⟩
noncomputable def vX:Fn:=⟨[aD,jy],[.none],[],(Y (R (t (y (s cX 43 12) (y (b .tuple (y (l aD 43 27) e) 43 21 26 33) (y (l jy 43 35) e))) 43 11 40) 43 4 40) E)⟩
noncomputable def vY:Fn:=⟨[aD],[],[],(Y (.asgT [(false,dq,(p 45 4 8)),(false,aq,(p 45 10 15))] 0 (p 45 4 15) (t (y (.slc (b .list (y (l aD 45 24) e) 45 19 23 30) .non .non (.neg (i 1 45 34) (p 45 33 35)) (p 45 31 35) (p 45 19 36)) (y (h e 45 38 40) e)) 45 18 41) (p 45 4 41)) (Y (.whl (q .NotEq (l dq 46 10) (h e 46 18 20) 46 10 20) (Y (A cQ (m (l dq 47 15) jd e 47 15 23 25) 47 8 25) (Y (H (q .Eq (x (l cQ 48 11) (i 0 48 16) 48 11 18) (s fG 48 22) 48 11 29) (Y (J (m (l dq 49 12) eQ (y (.slc (x (l cQ 49 24) (i 1 49 29) 49 24 31) .non .non (.neg (i 1 49 35) (p 49 34 36)) (p 49 32 36) (p 49 24 37)) e) 49 12 23 38) 49 12 38) E) (Y (H (d .And (.bcons .And (q .NotEq (l cQ 50 13) (g (.tup [(.str aY)]) dZ 50 21) 50 13 27) (.bone (q .NotIn (l cQ 50 32) (l aq 50 44) 50 32 49))) 50 13 49) (Y (J (m (l aq 51 12) cG (y (l cQ 51 25) e) 51 12 24 30) 51 12 30) E) E 50 8 51 30) E) 48 8 51 30) E)) (P 46 4 51 30)) (Y (H (q .In (g (.tup [(.str ae),(.str aK),(.tup [])]) cP 52 7) (l aq 52 14) 52 7 19) (Y (R (g (.tup [(.str ae),(.str aK),(.tup [])]) cP 53 15) 53 8 18) E) E 52 4 53 18) (Y (H (q .Eq (l aq 54 7) (h e 54 16 18) 54 7 18) (Y (R (g (.tup [(.str aY)]) dZ 55 15) 55 8 21) E) E 54 4 55 21) (Y (R (.ite (q .Eq (b .len (y (l aq 56 27) e) 56 23 26 33) (i 1 56 37) 56 23 38) (x (l aq 56 11) (i 0 56 17) 56 11 19) (t (y (s fG 56 45) (y (b .tuple (y (.sortk (y (l aq 56 67) e) (f 15 bU 56 78) (p 56 60 66) (p 56 74 87) (p 56 60 88)) e) 56 54 59 89) e)) 56 44 90) (p 56 11 90)) 56 4 90) E)))))⟩
noncomputable def nO:Fn:=⟨[aj],[],[],(Y (A bK (x (l aj 58 11) (i 0 58 16) 58 11 18) 58 4 18) (Y (H (q .Eq (l bK 59 7) (s ae 59 15) 59 7 21) (Y (R (b .list (y (x (l aj 60 20) (i 2 60 25) 60 20 27) e) 60 15 19 28) 60 8 28) E) E 59 4 60 28) (Y (H (q .Eq (l bK 61 7) (s cX 61 15) 61 7 22) (Y (R (n .Add (b .list (y (x (l aj 62 20) (i 1 62 25) 62 20 27) e) 62 15 19 28) (.ite (q .Is (x (l aj 62 38) (i 2 62 43) 62 38 45) (z 62 49) 62 38 53) (h e 62 32 34) (h (y (x (l aj 62 60) (i 2 62 65) 62 60 67) e) 62 59 68) (p 62 32 68)) 62 15 69) 62 8 69) E) E 61 4 62 69) (Y (H (q .Eq (l bK 63 7) (s fG 63 15) 63 7 22) (Y (R (b .list (y (x (l aj 64 20) (i 1 64 25) 64 20 27) e) 64 15 19 28) 64 8 28) E) E 63 4 64 28) (Y (H (q .Eq (l bK 65 7) (s fo 65 15) 65 7 20) (Y (R (h (y (x (l aj 66 16) (i 2 66 21) 66 16 23) (y (x (l aj 66 25) (i 3 66 30) 66 25 32) (y (x (l aj 66 34) (i 4 66 39) 66 34 41) e))) 66 15 42) 66 8 42) E) E 65 4 66 42) (Y (R (.ite (q .Eq (l bK 67 24) (s dh 67 32) 67 24 40) (h (y (x (l aj 67 12) (i 1 67 17) 67 12 19) e) 67 11 20) (h e 67 46 48) (p 67 11 48)) 67 4 48) E))))))⟩
noncomputable def pj:Fn:=⟨[aj,bZ],[],[],(Y (A bK (x (l aj 69 11) (i 0 69 16) 69 11 18) 69 4 18) (Y (H (q .Eq (l bK 70 7) (s ae 70 15) 70 7 21) (Y (R (t (y (s ae 71 16) (y (x (l aj 71 24) (i 1 71 29) 71 24 31) (y (b .tuple (y (l bZ 71 39) e) 71 33 38 45) e))) 71 15 46) 71 8 46) E) E 70 4 71 46) (Y (H (q .Eq (l bK 72 7) (s cX 72 15) 72 7 22) (Y (A gS (b .len (y (x (l aj 73 19) (i 1 73 24) 73 19 26) e) 73 15 18 27) 73 8 27) (Y (R (t (y (s cX 74 16) (y (b .tuple (y (.slc (l bZ 74 31) .non (l gS 74 38) .non (p 74 37 42) (p 74 31 43)) e) 74 25 30 44) (y (.ite (q .Is (x (l aj 74 54) (i 2 74 59) 74 54 61) (z 74 65) 74 54 69) (z 74 46) (x (l bZ 74 75) (l gS 74 81) 74 75 86) (p 74 46 86)) e))) 74 15 87) 74 8 87) E)) E 72 4 74 87) (Y (H (q .Eq (l bK 75 7) (s fG 75 15) 75 7 22) (Y (R (c (f 10 iJ 76 15) (y (l bZ 76 24) e) 76 15 30) 76 8 30) E) E 75 4 76 30) (Y (H (q .Eq (l bK 77 7) (s fo 77 15) 77 7 20) (Y (R (t (y (s fo 78 16) (y (x (l aj 78 23) (i 1 78 28) 78 23 30) (y (x (l bZ 78 32) (i 0 78 38) 78 32 40) (y (x (l bZ 78 42) (i 1 78 48) 78 42 50) (y (x (l bZ 78 52) (i 2 78 58) 78 52 60) e))))) 78 15 61) 78 8 61) E) E 77 4 78 61) (Y (R (.ite (q .Eq (l bK 79 35) (s dh 79 43) 79 35 51) (t (y (s dh 79 12) (y (x (l bZ 79 22) (i 0 79 28) 79 22 30) e)) 79 11 31) (l aj 79 57) (p 79 11 61)) 79 4 61) E))))))⟩
noncomputable def qL:Fn:=⟨[aj,gH],[],[gH],(Y (H (q .Eq (x (l aj 81 7) (i 0 81 12) 81 7 14) (s cw 81 18) 81 7 23) (Y (R (m (w gH 82 15) oR (y (x (l aj 82 25) (i 1 82 30) 82 25 32) (y (l aj 82 34) e)) 82 15 24 39) 82 8 39) E) E 81 4 82 39) (Y (H (q .Eq (x (l aj 83 7) (i 0 83 12) 83 7 14) (s fo 83 18) 83 7 23) (Y (A og (b .dict (y (w gH 84 21) e) 84 16 20 27) 84 8 27) (Y (J (m (l og 85 8) jd (y (x (l aj 85 18) (i 1 85 23) 85 18 25) (y (z 85 27) e)) 85 8 17 32) 85 8 32) (Y (A oW (t (y (c (f 13 cC 86 18) (y (x (l aj 86 30) (i 2 86 35) 86 30 37) (y (w gH 86 39) e)) 86 18 45) (y (c (f 13 cC 86 47) (y (x (l aj 86 59) (i 3 86 64) 86 59 66) (y (w gH 86 68) e)) 86 47 74) e)) 86 17 75) 86 8 75) (Y (R (n .Add (n .Add (t (y (s fo 87 16) (y (x (l aj 87 23) (i 1 87 28) 87 23 30) e)) 87 15 31) (l oW 87 34) 87 15 40) (t (y (c (f 13 cC 87 44) (y (x (l aj 87 56) (i 4 87 61) 87 56 63) (y (l og 87 65) e)) 87 44 71) e) 87 43 73) 87 15 73) 87 8 73) E)))) E 83 4 87 73) (Y (A bZ (c (f 11 d8 88 12) (y (l aj 88 26) e) 88 12 31) 88 4 31) (Y (R (.ite (q .Eq (l bZ 89 19) (h e 89 28 30) 89 19 30) (l aj 89 11) (c (f 12 gj 89 36) (y (l aj 89 49) (y (.lcm (c (f 13 cC 89 56) (y (v gk 89 68) (y (w gH 89 74) e)) 89 56 80) (.one (false,gk,(p 89 85 89))) (l bZ 89 93) .inil (S [((j ".0"),.local),((j "part"),.local),((j "substituted"),.globalImplicit),((j "table"),.free)]) (p 89 55 99)) e)) 89 36 100) (p 89 11 100)) 89 4 100) E))))⟩
noncomputable def um:Fn:=⟨[aj],[],[gI],(Y (.asgT [(false,aq,(p 91 4 9)),(false,dq,(p 91 11 15))] 0 (p 91 4 15) (t (y (h e 91 19 21) (y (h (y (t (y (l aj 91 25) (y (t e 91 31 33) e)) 91 24 34) e) 91 23 35) e)) 91 18 36) (p 91 4 36)) (Y (.whl (q .NotEq (l dq 92 10) (h e 92 18 20) 92 10 20) (Y (.asgT [(false,cQ,(p 93 8 12)),(true,gI,(p 93 14 19))] 0 (p 93 8 19) (m (l dq 93 22) jd e 93 22 30 32) (p 93 8 32)) (Y (H (q .Eq (x (l cQ 94 11) (i 0 94 16) 94 11 18) (s cw 94 22) 94 11 27) (Y (H (d .And (.bcons .And (q .NotIn (x (l cQ 95 15) (i 1 95 20) 95 15 22) (w gI 95 30) 95 15 35) (.bone (q .NotIn (x (l cQ 95 40) (i 1 95 45) 95 40 47) (l aq 95 55) 95 40 60))) 95 15 60) (Y (J (m (l aq 96 16) cG (y (x (l cQ 96 29) (i 1 96 34) 96 29 36) e) 96 16 28 37) 96 16 37) E) E 95 12 96 37) E) (Y (H (q .Eq (x (l cQ 97 13) (i 0 97 18) 97 13 20) (s fo 97 24) 97 13 29) (Y (J (m (l dq 98 12) cG (y (t (y (x (l cQ 98 25) (i 4 98 30) 98 25 32) (y (n .Add (w gI 98 34) (t (y (x (l cQ 98 43) (i 1 98 48) 98 43 50) e) 98 42 52) 98 34 52) e)) 98 24 53) e) 98 12 23 54) 98 12 54) (Y (J (m (l dq 99 12) eQ (y (h (y (t (y (x (l cQ 99 26) (i 3 99 31) 99 26 33) (y (w gI 99 35) e)) 99 25 41) (y (t (y (x (l cQ 99 44) (i 2 99 49) 99 44 51) (y (w gI 99 53) e)) 99 43 59) e)) 99 24 60) e) 99 12 23 61) 99 12 61) E)) (Y (J (m (l dq 101 12) eQ (y (.lcm (t (y (v gk 101 26) (y (w gI 101 32) e)) 101 25 38) (.one (false,gk,(p 101 43 47))) (.slc (c (f 11 d8 101 51) (y (l cQ 101 65) e) 101 51 70) .non .non (.neg (i 1 101 74) (p 101 73 75)) (p 101 71 75) (p 101 51 76)) .inil (S [((j ".0"),.local),((j "part"),.local),((j "bound"),.free)]) (p 101 24 77)) e) 101 12 23 78) 101 12 78) E) 97 8 101 78) E) 94 8 101 78) E)) (P 92 4 101 78)) (Y (R (l aq 102 11) 102 4 16) E)))⟩
noncomputable def uo:Fn:=⟨[aj],[],[],(Y (A bK (x (l aj 107 11) (i 0 107 16) 107 11 18) 107 4 18) (Y (H (q .Eq (l bK 108 7) (s ae 108 15) 108 7 21) (Y (A oX (m (r ", " 0x40005800020 109 17 21) iG (y (.lcm (c (f 15 bU 109 28) (y (v cx 109 38) e) 109 28 44) (.one (false,cx,(p 109 49 54))) (x (l aj 109 58) (i 2 109 63) 109 58 65) .inil (S [((j ".0"),.local),((j "param"),.local),((j "kind_text"),.globalImplicit)]) (p 109 27 66)) e) 109 17 26 67) 109 8 67) (Y (R (n .Add (x (l aj 110 15) (i 1 110 20) 110 15 22) (.ite (q .NotEq (x (l aj 110 48) (i 2 110 53) 110 48 55) (t e 110 59 61) 110 48 61) (n .Add (n .Add (r "{" 2097275 110 26 29) (l oX 110 32) 110 26 38) (r "}" 2097277 110 41 44) 110 26 44) (r "" 1 110 67 69) (p 110 26 69)) 110 15 70) 110 8 70) E)) E 108 4 110 70) (Y (H (q .Eq (l bK 111 7) (s cX 111 15) 111 7 22) (Y (A gV (n .Add (.lcm (c (f 15 bU 112 16) (y (v be 112 26) e) 112 16 30) (.one (false,be,(p 112 35 38))) (x (l aj 112 42) (i 1 112 47) 112 42 49) .inil (S [((j ".0"),.local),((j "one"),.local),((j "kind_text"),.globalImplicit)]) (p 112 15 50)) (.ite (q .Is (x (l aj 112 60) (i 2 112 65) 112 60 67) (z 112 71) 112 60 75) (h e 112 54 56) (h (y (n .Add (n .Add (r "Vararg{" 0x800158000c200072000308001c8000ce0007b 112 82 91) (c (f 15 bU 112 94) (y (x (l aj 112 104) (i 2 112 109) 112 104 111) e) 112 94 112) 112 82 112) (r "}" 2097277 112 115 118) 112 82 118) e) 112 81 119) (p 112 54 119)) 112 15 120) 112 8 120) (Y (R (n .Add (n .Add (r "Tuple{" 0x4000a800075000380001b0000ca0007b 113 15 23) (m (r ", " 0x40005800020 113 26 30) iG (y (l gV 113 36) e) 113 26 35 41) 113 15 41) (r "}" 2097277 113 44 47) 113 15 47) 113 8 47) E)) E 111 4 113 47) (Y (H (q .Eq (l bK 114 7) (s fG 114 15) 114 7 22) (Y (R (n .Add (n .Add (r "Union{" 0x4000aa0006e000348001bc000dc0007b 115 15 23) (m (r ", " 0x40005800020 115 26 30) iG (y (.lcm (c (f 15 bU 115 37) (y (v be 115 47) e) 115 37 51) (.one (false,be,(p 115 56 59))) (x (l aj 115 63) (i 1 115 68) 115 63 70) .inil (S [((j ".0"),.local),((j "one"),.local),((j "kind_text"),.globalImplicit)]) (p 115 36 71)) e) 115 26 35 72) 115 15 72) (r "}" 2097277 115 75 78) 115 15 78) 115 8 78) E) E 114 4 115 78) (Y (H (q .Eq (l bK 116 7) (s fo 116 15) 116 7 20) (Y (R (n .Add (n .Add (c (f 15 bU 117 15) (y (x (l aj 117 25) (i 4 117 30) 117 25 32) e) 117 15 33) (r " where " 0x800080000ee00068000328001c8000ca00020 117 36 45) 117 15 45) (c (f 68 gU 117 48) (y (l aj 117 60) e) 117 48 65) 117 15 65) 117 8 65) E) E 116 4 117 65) (Y (H (q .Eq (l bK 118 7) (s dh 118 15) 118 7 23) (Y (R (n .Add (n .Add (r "Type{" 0x2000540003c8001c0000ca0007b 119 15 22) (c (f 15 bU 119 25) (y (x (l aj 119 35) (i 1 119 40) 119 35 42) e) 119 25 43) 119 15 43) (r "}" 2097277 119 46 49) 119 15 49) 119 8 49) E) E 118 4 119 49) (Y (H (q .Eq (l bK 120 7) (s Dl 120 15) 120 7 19) (Y (R (n .Add (n .Add (r "typeof(" 0x8001d0000f200070000328001bc000cc00028 121 15 24) (x (l aj 121 27) (i 1 121 32) 121 27 34) 121 15 34) (r ")" 2097193 121 37 40) 121 15 40) 121 8 40) E) E 120 4 121 40) (Y (H (q .Eq (l bK 122 7) (s Df 122 15) 122 7 18) (Y (R (b .str (y (x (l aj 123 19) (i 1 123 24) 123 19 26) e) 123 15 18 27) 123 8 27) E) E 122 4 123 27) (Y (R (.ite (q .Eq (l bK 124 22) (s cw 124 30) 124 22 35) (x (l aj 124 11) (i 1 124 16) 124 11 18) (r "Union{}" 0x800154000dc00069000378001b8000f60007d 124 41 50) (p 124 11 50)) 124 4 50) E)))))))))⟩
noncomputable def sB:Fn:=⟨[bE,bK],[],[],(Y (H (q .NotEq (x (l bE 127 7) (i 0 127 13) 127 7 15) (s aV 127 19) 127 7 25) (Y (.rai true (c (f 5 jz 128 14) (y (s cf 128 21) (y (t (y (t (y (s ij 128 36) (y (l bK 128 43) e)) 128 35 48) (y (t (y (s aV 128 51) (y (c (f 8 bN 128 59) (y (s eR 128 65) e) 128 59 72) e)) 128 50 73) (y (l bE 128 75) e))) 128 34 81) e)) 128 14 82) (p 128 8 82)) E) E 127 4 128 82) (Y (R (x (l bE 129 11) (i 1 129 17) 129 11 19) 129 4 19) E))⟩
noncomputable def qM:Fn:=⟨[aE,fu,gS],[.none,(.int 0)],[],(Y (.asgA (l aE 155 8) fu (p 155 8 17) (.ite (q .Is (l fu 155 26) (z 155 34) 155 26 38) (.dct .nil (p 155 20 22)) (l fu 155 44) (p 155 20 48)) (p 155 8 48)) (Y (.asgA (l aE 156 8) gS (p 156 8 17) (l gS 156 20) (p 156 8 24)) E))⟩
noncomputable def mF:Fn:=⟨[aE,aj],[],[],(Y (R (d .And (.bcons .And (q .Eq (x (l aj 174 15) (i 0 174 20) 174 15 22) (s cw 174 26) 174 15 31) (.bone (a (m (l aE 174 36) fP (y (x (l aj 174 46) (i 1 174 51) 174 46 53) e) 174 36 45 54) eB 174 36 63))) 174 15 63) 174 8 63) E)⟩
noncomputable def sC:Fn:=⟨[aj],[],[aj],(Y (A bK (x (w aj 211 11) (i 0 211 16) 211 11 18) 211 4 18) (Y (H (q .Eq (l bK 212 7) (s fG 212 15) 212 7 22) (Y (.raw (Stmt.Assign (targets:=[(Expr.Name "found" (p 213 8 13))]) (value:=(Expr.ListComp (elt:=(Expr.Name "case" (p 213 17 21))) (generators:=[{target:=(Expr.Name "part" (p 213 26 30)),iter:=(Expr.Subscript (value:=(Expr.Name "kind" (p 213 34 38))) (slice:=(Expr.Constant (Const.int 1) 0 (p 213 39 40))) (pos:=(p 213 34 41))),ifs:=[],is_async:=0:Comprehension},{target:=(Expr.Name "case" (p 213 46 50)),iter:=(Expr.Call (func:=(Expr.Name "left_cases" (p 213 54 64))) (args:=[(Expr.Name "part" (p 213 65 69))]) (keywords:=[]) (pos:=(p 213 54 70))),ifs:=[],is_async:=0:Comprehension}]) (scope:=(S [((j ".0"),.local),((j "part"),.local),((j "case"),.local),((j "left_cases"),.globalImplicit)])) (pos:=(p 213 16 71)))) (pos:=(p 213 8 71)))) E) (Y (H (d .And (.bcons .And (q .Eq (l bK 214 9) (s fo 214 17) 214 9 22) (.bone (u (c (f 82 d5 214 32) (y (x (w aj 214 44) (i 4 214 49) 214 44 51) (y (x (w aj 214 53) (i 1 214 58) 214 53 60) e)) 214 32 61) 214 28 61))) 214 9 62) (Y (A aq (.lcm (t (y (s fo 215 18) (y (x (w aj 215 25) (i 1 215 30) 215 25 32) (y (x (w aj 215 34) (i 2 215 39) 215 34 41) (y (x (w aj 215 43) (i 3 215 48) 215 43 50) (y (v oY 215 52) e))))) 215 17 57) (.one (false,oY,(p 215 62 66))) (c (f 19 f0 215 70) (y (x (w aj 215 81) (i 4 215 86) 215 81 88) e) 215 70 89) .inil (S [((j ".0"),.local),((j "case"),.local),((j "kind"),.free)]) (p 215 16 90)) 215 8 90) E) (Y (H (q .Eq (l bK 216 9) (s cX 216 17) 216 9 24) (Y (A aq (c (f 83 gW 217 16) (y (w aj 217 28) e) 217 16 33) 217 8 33) E) (Y (A aq (h (y (w aj 219 17) e) 219 16 22) 219 8 22) E) 216 4 219 22) E) 214 4 219 22) E) 212 4 219 22) (Y (R (.ite (q .LtE (b .len (y (l aq 220 24) e) 220 20 23 30) (g (.int 64) iK 220 34) 220 20 44) (l aq 220 11) (h (y (w aj 220 51) e) 220 50 56) (p 220 11 56)) 220 4 56) E)))⟩
noncomputable def vZ:Fn:=⟨[aj],[],[],(Y (H (q .Eq (x (l aj 230 7) (i 0 230 12) 230 7 14) (s cX 230 18) 230 7 25) (Y (R (q .In (o true 231 15) (.lcm (c (f 20 gn 231 24) (y (v gk 231 33) e) 231 24 38) (.one (false,gk,(p 231 43 47))) (x (l aj 231 51) (i 1 231 56) 231 51 58) .inil (S [((j ".0"),.local),((j "part"),.local),((j "is_empty"),.globalImplicit)]) (p 231 23 59)) 231 15 59) 231 8 59) E) E 230 4 231 59) (Y (H (q .Eq (x (l aj 232 7) (i 0 232 12) 232 7 14) (s fo 232 18) 232 7 23) (Y (R (c (f 20 gn 233 15) (y (x (l aj 233 24) (i 4 233 29) 233 24 31) e) 233 15 32) 233 8 32) E) E 232 4 233 32) (Y (R (q .Eq (l aj 234 11) (g (.tup [(.str aY)]) dZ 234 19) 234 11 25) 234 4 25) E)))⟩
noncomputable def pk:Fn:=⟨[aE,aD,gp],[],[],(Y (.asgA (l aE 243 8) aD (p 243 8 18) (l aD 243 21) (p 243 8 26)) (Y (.asgA (l aE 244 8) gp (p 244 8 17) (l gp 244 20) (p 244 8 24)) E))⟩
noncomputable def sD:Fn:=⟨[aE,r8,bF],[],[],(Y (A fw (h (y (t (y (b .list (y (l r8 247 25) e) 247 20 24 31) (y (l bF 247 33) e)) 247 19 39) e) 247 18 40) 247 8 40) (Y (.whl (d .And (.bcons .And (q .NotEq (l fw 248 14) (h e 248 25 27) 248 14 27) (.bone (q .Gt (a (l aE 248 32) gp 248 32 41) (i 0 248 44) 248 32 45))) 248 14 45) (Y (.asgT [(false,dq,(p 249 12 16)),(false,cQ,(p 249 18 22))] 0 (p 249 12 22) (m (l fw 249 25) jd e 249 25 36 38) (p 249 12 38)) (Y (A aq (m (l aE 250 20) j4 (y (l dq 250 33) (y (l cQ 250 39) (y (l fw 250 45) e))) 250 20 32 53) 250 12 53) (Y (H (q .IsNot (l aq 251 15) (z 251 28) 251 15 32) (Y (R (l aq 252 23) 252 16 28) E) E 251 12 252 28) E))) (P 248 8 252 28)) (Y (R (z 253 15) 253 8 19) E)))⟩
noncomputable def mG:Fn:=⟨[aE,dq,bF,fw],[],[],(Y (.whl (q .NotEq (l dq 256 14) (h e 256 22 24) 256 14 24) (Y (.asgA (l aE 257 12) gp (p 257 12 21) (n .Sub (a (l aE 257 24) gp 257 24 33) (i 1 257 36) 257 24 37) (p 257 12 37)) (Y (A iM (.ite (q .GtE (a (l aE 258 51) gp 258 51 60) (i 0 258 64) 258 51 65) (m (l aE 258 19) my (y (m (l dq 258 29) jd e 258 29 37 39) (y (l bF 258 41) e)) 258 19 28 47) (h e 258 71 73) (p 258 19 73)) 258 12 73) (Y (H (q .Eq (l iM 259 15) (h e 259 23 25) 259 15 25) (Y (R (z 260 23) 260 16 27) E) E 259 12 260 27) (Y (.forr (.one (false,qY,(p 261 16 19))) (.slc (l iM 261 23) .non (i 0 261 29) (.neg (i 1 261 32) (p 261 31 33)) (p 261 28 33) (p 261 23 34)) (Y (J (m (l fw 262 16) cG (y (t (y (n .Add (l dq 262 32) (l qY 262 39) 262 32 42) (y (m (l bF 262 44) ln e 262 44 56 58) e)) 262 31 59) e) 262 16 30 60) 262 16 60) E) (P 261 12 262 60)) (Y (J (m (l dq 263 12) eQ (y (x (l iM 263 24) (i 0 263 29) 263 24 31) e) 263 12 23 32) 263 12 32) E))))) (P 256 8 263 32)) (Y (R (.ite (m (l aE 264 24) eS (y (l bF 264 42) e) 264 24 41 48) (l bF 264 15) (z 264 54) (p 264 15 58)) 264 8 58) E))⟩
noncomputable def qN:Fn:=⟨[aE,vP,bF],[],[],(Y (.asgT [(false,bK,(p 267 8 12)),(false,be,(p 267 14 17)),(false,aQ,(p 267 19 24))] 0 (p 267 8 24) (l vP 267 27) (p 267 8 31)) (Y (H (q .Eq (l be 268 11) (l aQ 268 18) 268 11 23) (Y (R (h (y (h e 269 20 22) e) 269 19 23) 269 12 23) E) E 268 8 269 23) (Y (H (q .In (s Df 270 11) (t (y (x (l be 270 19) (i 0 270 23) 270 19 25) (y (x (l aQ 270 27) (i 0 270 33) 270 27 35) e)) 270 18 36) 270 11 36) (Y (R (m (l aE 271 19) j6 (y (l bK 271 32) (y (l be 271 38) (y (l aQ 271 43) (y (l bF 271 50) e)))) 271 19 31 56) 271 12 56) E) E 270 8 271 56) (Y (H (q .Eq (l bK 272 11) (s r9 272 19) 272 11 25) (Y (R (h (y (h (y (t (y (s jA 273 22) (y (l be 273 29) (y (l aQ 273 34) e))) 273 21 40) (y (t (y (s jA 273 43) (y (l aQ 273 50) (y (l be 273 57) e))) 273 42 61) e)) 273 20 62) e) 273 19 63) 273 12 63) E) E 272 8 273 63) (Y (H (d .Or (.bcons .Or (c (f 20 gn 274 11) (y (l be 274 20) e) 274 11 24) (.bone (q .Eq (l aQ 274 28) (g (.tup [(.str ae),(.str aK),(.tup [])]) cP 274 37) 274 28 40))) 274 11 40) (Y (R (h (y (h e 275 20 22) e) 275 19 23) 275 12 23) E) E 274 8 275 23) (Y (H (m (l bF 276 11) eB (y (l be 276 26) e) 276 11 25 30) (Y (R (m (l aE 277 19) oh (y (x (l be 277 30) (i 1 277 34) 277 30 36) (y (l aQ 277 38) (y (l bF 277 45) e))) 277 19 29 51) 277 12 51) E) E 276 8 277 51) (Y (H (m (l bF 278 11) eB (y (l aQ 278 26) e) 278 11 25 32) (Y (R (m (l aE 279 19) aW (y (x (l aQ 279 30) (i 1 279 36) 279 30 38) (y (l be 279 40) (y (l bF 279 45) e))) 279 19 29 51) 279 12 51) E) E 278 8 279 51) (Y (R (m (l aE 280 15) j5 (y (l be 280 28) (y (l aQ 280 33) (y (l bF 280 40) e))) 280 15 27 46) 280 8 46) E))))))))⟩
noncomputable def mH:Fn:=⟨[aE,be,aQ,bF],[],[be,aQ],(Y (H (q .Eq (x (w be 306 11) (i 0 306 15) 306 11 17) (s fG 306 21) 306 11 28) (Y (R (h (y (.lcm (t (y (s jA 307 22) (y (v gk 307 29) (y (w aQ 307 35) e))) 307 21 41) (.one (false,gk,(p 307 46 50))) (x (w be 307 54) (i 1 307 58) 307 54 60) .inil (S [((j ".0"),.local),((j "part"),.local),((j "other"),.free)]) (p 307 20 61)) e) 307 19 62) 307 12 62) E) E 306 8 307 62) (Y (H (q .Eq (x (w be 308 11) (i 0 308 15) 308 11 17) (s fo 308 21) 308 11 26) (Y (R (h (y (h (y (t (y (s jA 309 22) (y (x (m (l bF 309 29) lr (y (w be 309 42) (y (o false 309 47) e)) 309 29 41 53) (i 1 309 54) 309 29 56) (y (w aQ 309 58) e))) 309 21 64) e) 309 20 65) e) 309 19 66) 309 12 66) E) E 308 8 309 66) (Y (H (q .Eq (x (w aQ 310 11) (i 0 310 17) 310 11 19) (s fG 310 23) 310 11 30) (Y (A iM (.lcm (h (y (t (y (s jA 311 22) (y (w be 311 29) (y (v gk 311 34) e))) 311 21 39) e) 311 20 40) (.one (false,gk,(p 311 45 49))) (x (w aQ 311 53) (i 1 311 59) 311 53 61) .inil (S [((j ".0"),.local),((j "part"),.local),((j "one"),.free)]) (p 311 19 62)) 311 12 62) (Y (R (n .Add (l iM 312 19) (.ite (q .Eq (x (w be 312 77) (i 0 312 81) 312 77 83) (s cw 312 87) 312 77 92) (h (y (h (y (t (y (s jA 312 30) (y (m (m (l bF 312 37) fP (y (x (w be 312 48) (i 1 312 52) 312 48 54) e) 312 37 47 55) cH e 312 37 61 63) (y (w aQ 312 65) e))) 312 29 71) e) 312 28 72) e) 312 27 73) (h e 312 98 100) (p 312 27 100)) 312 19 101) 312 12 101) E)) E 310 8 312 101) (Y (H (q .Eq (x (w aQ 313 11) (i 0 313 17) 313 11 19) (s fo 313 23) 313 11 28) (Y (R (h (y (m (l aE 314 20) lq (y (w be 314 32) (y (w aQ 314 37) (y (l bF 314 44) e))) 314 20 31 50) e) 314 19 51) 314 12 51) E) E 313 8 314 51) (Y (H (q .Eq (x (w be 315 11) (i 0 315 15) 315 11 17) (s cw 315 21) 315 11 26) (Y (A cH (m (m (l bF 316 20) fP (y (x (w be 316 31) (i 1 316 35) 316 31 37) e) 316 20 30 38) cH e 316 20 44 46) 316 12 46) (Y (A iM (.ite (q .Eq (l cH 317 25) (g (.tup [(.str ae),(.str aK),(.tup [])]) cP 317 34) 317 25 37) (h e 317 19 21) (h (y (h (y (t (y (s jA 317 46) (y (l cH 317 53) (y (w aQ 317 60) e))) 317 45 66) e) 317 44 67) e) 317 43 68) (p 317 19 68)) 317 12 68) (Y (R (n .Add (l iM 318 19) (.ite (q .Eq (x (w aQ 318 77) (i 0 318 83) 318 77 85) (s cw 318 89) 318 77 94) (h (y (h (y (t (y (s jA 318 30) (y (w be 318 37) (y (m (m (l bF 318 42) fP (y (x (w aQ 318 53) (i 1 318 59) 318 53 61) e) 318 42 52 62) cy e 318 42 68 70) e))) 318 29 71) e) 318 28 72) e) 318 27 73) (h e 318 100 102) (p 318 27 102)) 318 19 103) 318 12 103) E))) E 315 8 318 103) (Y (H (q .Eq (x (w aQ 319 11) (i 0 319 17) 319 11 19) (s cw 319 23) 319 11 28) (Y (A cy (m (m (l bF 320 20) fP (y (x (w aQ 320 31) (i 1 320 37) 320 31 39) e) 320 20 30 40) cy e 320 20 46 48) 320 12 48) (Y (R (.ite (q .Eq (l cy 321 25) (g (.tup [(.str aY)]) dZ 321 34) 321 25 40) (h e 321 19 21) (h (y (h (y (t (y (s jA 321 49) (y (w be 321 56) (y (l cy 321 61) e))) 321 48 67) e) 321 47 68) e) 321 46 69) (p 321 19 69)) 321 12 69) E)) E 319 8 321 69) (Y (R (m (l aE 322 15) om (y (w be 322 26) (y (w aQ 322 31) e)) 322 15 25 37) 322 8 37) E)))))))⟩
noncomputable def pn:Fn:=⟨[aE,be,aQ],[],[],(Y (A lw (t (y (x (l be 330 17) (i 0 330 21) 330 17 23) (y (x (l aQ 330 25) (i 0 330 31) 330 25 33) e)) 330 16 34) 330 8 34) (Y (H (q .Eq (l lw 331 11) (t (y (s ae 331 21) (y (s ae 331 29) e)) 331 20 36) 331 11 36) (Y (R (m (l aE 332 19) bQ (y (l be 332 32) (y (l aQ 332 37) e)) 332 19 31 43) 332 12 43) E) E 331 8 332 43) (Y (H (q .Eq (l lw 333 11) (t (y (s cX 333 21) (y (s cX 333 30) e)) 333 20 38) 333 11 38) (Y (R (c (f 93 iO 334 19) (y (l be 334 30) (y (l aQ 334 35) e)) 334 19 41) 334 12 41) E) E 333 8 334 41) (Y (H (q .Eq (l lw 335 11) (t (y (s dh 335 21) (y (s dh 335 31) e)) 335 20 40) 335 11 40) (Y (R (h (y (h (y (t (y (s r9 336 22) (y (x (l be 336 30) (i 1 336 34) 336 30 36) (y (x (l aQ 336 38) (i 1 336 44) 336 38 46) e))) 336 21 47) e) 336 20 48) e) 336 19 49) 336 12 49) E) E 335 8 336 49) (Y (H (d .Or (.bcons .Or (d .And (.bcons .And (q .Eq (x (l be 337 11) (i 0 337 15) 337 11 17) (s dh 337 21) 337 11 29) (.bone (q .Eq (l aQ 337 34) (g (.tup [(.str ae),(.str eR),(.tup [])]) oZ 337 43) 337 34 47))) 337 11 47) (.bone (d .And (.bcons .And (q .Eq (x (l be 337 52) (i 0 337 56) 337 52 58) (s Dl 337 62) 337 52 66) (.bone (q .Eq (l aQ 337 71) (g (.tup [(.str ae),(.str eA),(.tup [])]) iN 337 80) 337 71 88))) 337 52 88))) 337 11 89) (Y (R (h (y (h e 338 20 22) e) 338 19 23) 338 12 23) E) E 337 8 338 23) (Y (R (h e 339 15 17) 339 8 17) E))))))⟩
noncomputable def mI:Fn:=⟨[aE,be,aQ],[],[],(Y (.forr (.one (false,aW,(p 342 12 17))) (m (a (l aE 342 21) aD 342 21 31) lx (y (l be 342 39) e) 342 21 38 43) (Y (H (q .Eq (x (l aW 343 15) (i 1 343 21) 343 15 23) (x (l aQ 343 27) (i 1 343 33) 343 27 35) 343 15 35) (Y (R (h (y (.lcz (t (y (s r9 344 26) (y (v cx 344 34) (y (v o3 344 41) e))) 344 25 48) (.many [(false,cx,(p 344 53 58)),(false,o3,(p 344 60 66))] 0 (p 344 53 66)) .zip (y (x (l aW 344 74) (i 2 344 80) 344 74 82) (y (x (l aQ 344 84) (i 2 344 90) 344 84 92) e)) .inil (S [((j ".0"),.local),((j "param"),.local),((j "wanted"),.local)]) (p 344 70 73) (p 344 70 93) (p 344 24 94)) e) 344 23 95) 344 16 95) E) E 343 12 344 95) E) (P 342 8 344 95)) (Y (R (h e 345 15 17) 345 8 17) E))⟩
noncomputable def jn:Fn:=⟨[aE,bF],[],[],(Y (.forr (.one (false,ae,(p 348 12 16))) (b .sorted (y (a (l bF 348 27) fu 348 27 37) e) 348 20 26 38) (Y (A fP (x (a (l bF 349 19) fu 349 19 29) (l ae 349 30) 349 19 35) 349 12 35) (Y (H (d .And (.bcons .And (a (l fP 350 15) eB 350 15 28) (.bcons .And (a (l fP 350 33) d5 350 33 49) (.bone (u (m (l aE 350 59) ly (y (l fP 350 71) (y (l bF 350 77) e)) 350 59 70 83) 350 55 83)))) 350 15 84) (Y (R (o false 351 23) 351 16 28) E) E 350 12 351 28) E)) (P 348 8 351 28)) (Y (R (o true 352 15) 352 8 19) E))⟩
noncomputable def sE:Fn:=⟨[aD,be,aQ,gp],[(.int 4000)],[],(Y (H (q .Eq (l be 384 7) (l aQ 384 14) 384 7 19) (Y (R (o true 385 15) 385 8 19) E) E 384 4 385 19) (Y (.forr (.one (false,oY,(p 386 8 12))) (c (f 19 f0 386 16) (y (l be 386 27) e) 386 16 31) (Y (A o5 (c (k pf o6 387 17) (y (l aD 387 24) (y (l gp 387 31) e)) 387 17 36) 387 8 36) (Y (H (q .Is (m (l o5 388 11) xh (y (h (y (t (y (s jA 388 24) (y (l oY 388 31) (y (l aQ 388 37) e))) 388 23 43) e) 388 22 44) (y (c (k sv sd 388 46) e 388 46 53) e)) 388 11 21 54) (z 388 58) 388 11 62) (Y (R (o false 389 19) 389 12 24) E) E 388 8 389 24) E)) (P 386 4 389 24)) (Y (R (o true 390 11) 390 4 15) E)))⟩
noncomputable def sG:Fn:=⟨[aE,ae,ay,aW,aw,aZ,aR],[(.bool false),(.tup [])],[],(Y (.asgA (l aE 400 8) ae (p 400 8 17) (l ae 400 20) (p 400 8 24)) (Y (.asgA (l aE 401 8) ay (p 401 8 19) (b .list (y (l ay 401 27) e) 401 22 26 34) (p 401 8 34)) (Y (.asgA (l aE 402 8) cz (p 402 8 18) (l aW 402 21) (p 402 8 26)) (Y (.asgA (l aE 403 8) aw (p 403 8 24) (l aw 403 27) (p 403 8 38)) (Y (.asgA (l aE 404 8) aZ (p 404 8 23) (l aZ 404 26) (p 404 8 36)) (Y (.asgA (l aE 405 8) aR (p 405 8 19) (b .list (y (l aR 405 27) e) 405 22 26 34) (p 405 8 34)) E))))))⟩
noncomputable def mJ:Fn:=⟨[aE,ay],[],[],(Y (R (b .dict (y (.lcz (t (y (x (v dP 408 22) (i 0 408 26) 408 22 28) (y (v cx 408 30) e)) 408 21 36) (.many [(false,dP,(p 408 41 44)),(false,cx,(p 408 46 51))] 0 (p 408 41 51)) .zip (y (a (l aE 408 59) ay 408 59 70) (y (l ay 408 72) e)) .inil (S [((j ".0"),.local),((j "row"),.local),((j "param"),.local)]) (p 408 55 58) (p 408 55 79) (p 408 20 80)) e) 408 15 19 81) 408 8 81) E)⟩
noncomputable def sH:Fn:=⟨[aE],[],[],(Y (R (c (f 8 bN 411 15) (y (a (l aE 411 21) ae 411 21 30) (y (.lcm (t (y (s cw 411 34) (y (x (v dP 411 41) (i 0 411 45) 411 41 47) e)) 411 33 48) (.one (false,dP,(p 411 53 56))) (a (l aE 411 60) ay 411 60 71) .inil (S [((j ".0"),.local),((j "row"),.local)]) (p 411 32 72)) e)) 411 15 73) 411 8 73) E)⟩
noncomputable def qO:Fn:=⟨[aE],[],[],(Y (.asgA (l aE 418 8) eU (p 418 8 18) (.dct (y (s aK 418 22) (y (c (k bX dA 418 29) (y (s aK 418 34) (y (h e 418 41 43) (y (z 418 45) (y (o true 418 51) e)))) 418 29 56) e)) (p 418 21 57)) (p 418 8 57)) E)⟩
noncomputable def nP:Fn:=⟨[aE,bH],[],[lz],(Y (H (q .In (a (l bH 421 11) ae 421 11 20) (a (l aE 421 24) eU 421 24 34) 421 11 34) (Y (.rai true (c (k cW cU 422 18) (y (n .Add (r "a kind is told twice: " 0x4000c200020000358001a4000dc00064000100001a4000e6000200003a0001bc000d800064000100001d0000ee00069000318001940007400020 422 28 52) (a (l bH 422 55) ae 422 55 64) 422 28 64) e) 422 18 65) (p 422 12 65)) E) E 421 8 422 65) (Y (A aW (a (l bH 423 16) cz 423 16 26) 423 8 26) (Y (H (d .Or (.bcons .Or (q .NotEq (x (l aW 424 11) (i 0 424 17) 424 11 19) (s ae 424 23) 424 11 29) (.bcons .Or (q .NotIn (x (l aW 424 33) (i 1 424 39) 424 33 41) (a (l aE 424 49) eU 424 49 59) 424 33 59) (.bone (u (a (x (a (l aE 424 68) eU 424 68 78) (x (l aW 424 79) (i 1 424 85) 424 79 87) 424 68 88) aw 424 68 100) 424 64 100)))) 424 11 101) (Y (.rai true (c (k cW cU 425 18) (y (n .Add (r "no kind can stand right below " 0x4000dc0006f000100001ac000d20006e00032000080000c60006100037000080000e600074000308001b8000c800020000390001a4000ce000680003a000080000c400065000360001bc000ee00020 425 28 60) (c (f 15 bU 425 63) (y (l aW 425 73) e) 425 63 79) 425 28 79) e) 425 18 80) (p 425 12 80)) E) E 424 8 425 80) (Y (H (d .Or (.bcons .Or (q .Eq (l aW 426 11) (g (.tup [(.str ae),(.str eR),(.tup [])]) oZ 426 20) 426 11 24) (.bone (q .NotEq (b .len (y (x (l aW 426 32) (i 2 426 38) 426 32 40) e) 426 28 31 41) (b .len (y (a (x (a (l aE 426 49) eU 426 49 59) (x (l aW 426 60) (i 1 426 66) 426 60 68) 426 49 69) ay 426 49 76) e) 426 45 48 77) 426 28 77))) 426 11 77) (Y (.rai true (c (k cW cU 427 18) (y (n .Add (r "no kind can stand right below " 0x4000dc0006f000100001ac000d20006e00032000080000c60006100037000080000e600074000308001b8000c800020000390001a4000ce000680003a000080000c400065000360001bc000ee00020 427 28 60) (c (f 15 bU 427 63) (y (l aW 427 73) e) 427 63 79) 427 28 79) e) 427 18 80) (p 427 12 80)) E) E 426 8 427 80) (Y (.asg (true,lz,(p 428 8 11)) (.lcm (x (v dP 428 15) (i 0 428 19) 428 15 21) (.one (false,dP,(p 428 26 29))) (a (l bH 428 33) ay 428 33 44) .inil (S [((j ".0"),.local),((j "row"),.local)]) (p 428 14 45)) (p 428 8 45)) (Y (A o7 (.lcm (v ae 429 16) (.one (false,ae,(p 429 25 29))) (c (f 14 cV 429 33) (y (l aW 429 43) e) 429 33 49) (.icons (q .NotIn (v ae 429 53) (w lz 429 65) 429 53 68) .inil) (S [((j ".0"),.local),((j "name"),.local),((j "own"),.free)]) (p 429 15 69)) 429 8 69) (Y (.forr (.many [(false,ae,(p 430 12 16)),(false,aj,(p 430 18 22))] 0 (p 430 12 22)) (a (l bH 430 26) aR 430 26 37) (Y (A o7 (n .Add (l o7 431 19) (.lcm (v be 431 27) (.one (false,be,(p 431 35 38))) (c (f 14 cV 431 42) (y (l aj 431 52) e) 431 42 57) (.icons (q .NotIn (v be 431 61) (w lz 431 72) 431 61 75) .inil) (S [((j ".0"),.local),((j "one"),.local),((j "own"),.free)]) (p 431 26 76)) 431 19 76) 431 12 76) E) (P 430 8 431 76)) (Y (H (d .Or (.bcons .Or (q .NotEq (l o7 432 11) (h e 432 19 21) 432 11 21) (.bone (q .NotEq (b .len (y (b .dict (y (a (l bH 432 34) aR 432 34 45) e) 432 29 33 46) e) 432 25 28 47) (b .len (y (a (l bH 432 55) aR 432 55 66) e) 432 51 54 67) 432 25 67))) 432 11 67) (Y (.rai true (c (k cW cU 433 18) (y (n .Add (r "a variable that nothing binds, or a field twice: " 0x200061000100001d8000c20007200034800184000c40006c00032800080000e800068000308001d0000400006e000378001d0000d0000690003700019c0004000062000348001b8000c80007300016000080000de0007200010000184000400006600034800194000d800064000100001d0000ee00069000318001940007400020 433 28 79) (a (l bH 433 82) ae 433 82 91) 433 28 91) e) 433 18 92) (p 433 12 92)) E) E 432 8 433 92) (Y (.asgI (a (l aE 434 8) eU 434 8 18) (a (l bH 434 19) ae 434 19 28) (p 434 8 29) (l bH 434 32) (p 434 8 36)) E)))))))))⟩
noncomputable def sI:Fn:=⟨[aE,ae],[],[],(Y (H (q .NotIn (l ae 440 11) (a (l aE 440 23) eU 440 23 33) 440 11 33) (Y (.rai true (c (k cW cU 441 18) (y (n .Add (r "no such kind: " 0x4000dc0006f000100001cc000ea0006300034000080000d600069000370001900007400020 441 28 44) (l ae 441 47) 441 28 51) e) 441 18 52) (p 441 12 52)) E) E 440 8 441 52) (Y (R (x (a (l aE 442 15) eU 442 15 25) (l ae 442 26) 442 15 31) 442 8 31) E))⟩
noncomputable def mK:Fn:=⟨[aE,aj],[],[],(Y (H (q .Eq (x (l aj 445 11) (i 0 445 16) 445 11 18) (s dh 445 22) 445 11 30) (Y (R (g (.tup [(.str ae),(.str eR),(.tup [])]) oZ 446 19) 446 12 23) E) E 445 8 446 23) (Y (H (q .Eq (x (l aj 447 11) (i 0 447 16) 447 11 18) (s Dl 447 22) 447 11 26) (Y (R (g (.tup [(.str ae),(.str eA),(.tup [])]) iN 448 19) 448 12 27) E) E 447 8 448 27) (Y (H (d .Or (.bcons .Or (q .NotEq (x (l aj 449 11) (i 0 449 16) 449 11 18) (s ae 449 22) 449 11 28) (.bone (q .Eq (l aj 449 32) (g (.tup [(.str ae),(.str aK),(.tup [])]) cP 449 40) 449 32 43))) 449 11 43) (Y (R (g (.tup [(.str ae),(.str aK),(.tup [])]) cP 450 19) 450 12 22) E) E 449 8 450 22) (Y (A bH (m (l aE 451 15) bH (y (x (l aj 451 25) (i 1 451 30) 451 25 32) e) 451 15 24 33) 451 8 33) (Y (R (c (f 13 cC 452 15) (y (a (l bH 452 27) cz 452 27 37) (y (m (l bH 452 39) gJ (y (x (l aj 452 54) (i 2 452 59) 452 54 61) e) 452 39 53 62) e)) 452 15 63) 452 8 63) E)))))⟩
noncomputable def pq:Fn:=⟨[aE,aj],[],[],(Y (A aq (h (y (l aj 455 17) e) 455 16 22) 455 8 22) (Y (.whl (q .NotEq (x (l aq 456 14) (.neg (i 1 456 21) (p 456 20 22)) 456 14 23) (g (.tup [(.str ae),(.str aK),(.tup [])]) cP 456 27) 456 14 30) (Y (J (m (l aq 457 12) cG (y (m (l aE 457 25) iP (y (x (l aq 457 39) (.neg (i 1 457 46) (p 457 45 47)) 457 39 48) e) 457 25 38 49) e) 457 12 24 50) 457 12 50) E) (P 456 8 457 50)) (Y (R (l aq 458 15) 458 8 20) E)))⟩
noncomputable def qP:Fn:=⟨[aE,ae],[],[],(Y (A bH (m (l aE 480 15) bH (y (l ae 480 25) e) 480 15 24 30) 480 8 30) (Y (A aj (m (l bH 481 15) gK e 481 15 25 27) 481 8 27) (Y (.forr (.many [(false,cL,(p 482 12 20)),(false,cy,(p 482 22 27)),(false,cH,(p 482 29 34))] 0 (p 482 12 34)) (.slc (a (l bH 482 38) ay 482 38 49) .non .non (.neg (i 1 482 53) (p 482 52 54)) (p 482 50 54) (p 482 38 55)) (Y (A aj (t (y (s fo 483 20) (y (l cL 483 27) (y (l cy 483 37) (y (l cH 483 44) (y (l aj 483 51) e))))) 483 19 56) 483 12 56) E) (P 482 8 483 56)) (Y (R (l aj 484 15) 484 8 19) E))))⟩
noncomputable def yE:Fn:=⟨[aD,ae,aW,aw],[(.bool false)],[],(Y (J (m (l aD 493 4) bM (y (c (k bX dA 493 18) (y (l ae 493 23) (y (h e 493 29 31) (y (l aW 493 33) (y (l aw 493 40) e)))) 493 18 52) e) 493 4 17 53) 493 4 53) E)⟩
noncomputable def qQ:Fn:=⟨[],[],[],(Y (A aD (c (k sx sg 495 12) e 495 12 19) 495 4 19) (Y (.forr (.one (false,ae,(p 496 8 12))) (t (y (s eR 496 17) (y (s eA 496 25) (y (s iq 496 37) (y (s cR 496 47) (y (s cD 496 63) (y (s a0 496 81) e)))))) 496 16 93) (Y (J (c (f 39 bQ 497 8) (y (l aD 497 16) (y (l ae 497 23) (y (g (.tup [(.str ae),(.str aK),(.tup [])]) cP 497 29) (y (o true 497 34) e)))) 497 8 39) 497 8 39) E) (P 496 4 497 39)) (Y (J (c (f 39 bQ 498 4) (y (l aD 498 12) (y (s du 498 19) (y (c (f 8 bN 498 27) (y (s iq 498 33) e) 498 27 42) (y (o true 498 44) e)))) 498 4 49) 498 4 49) (Y (J (c (f 39 bQ 499 4) (y (l aD 499 12) (y (s bh 499 19) (y (c (f 8 bN 499 30) (y (s du 499 36) e) 499 30 43) (y (o true 499 45) e)))) 499 4 50) 499 4 50) (Y (J (c (f 39 bQ 500 4) (y (l aD 500 12) (y (s d6 500 19) (y (c (f 8 bN 500 29) (y (s bh 500 35) e) 500 29 45) (y (o true 500 47) e)))) 500 4 52) 500 4 52) (Y (J (c (f 39 bQ 501 4) (y (l aD 501 12) (y (s cY 501 19) (y (c (f 8 bN 501 31) (y (s bh 501 37) e) 501 31 47) (y (o true 501 49) e)))) 501 4 54) 501 4 54) (Y (.forr (.one (false,ae,(p 502 8 12))) (g (.tup [(.str oV),(.str lg),(.str lh),(.str av),(.str js)]) o8 502 16) (Y (J (c (f 39 bQ 503 8) (y (l aD 503 16) (y (l ae 503 23) (y (c (f 8 bN 503 29) (y (s d6 503 35) e) 503 29 44) e))) 503 8 45) 503 8 45) E) (P 502 4 503 45)) (Y (.forr (.one (false,ae,(p 504 8 12))) (g (.tup [(.str ll),(.str jt),(.str ju),(.str jv)]) kL 504 16) (Y (J (c (f 39 bQ 505 8) (y (l aD 505 16) (y (l ae 505 23) (y (c (f 8 bN 505 29) (y (s cY 505 35) e) 505 29 46) e))) 505 8 47) 505 8 47) E) (P 504 4 505 47)) (Y (.forr (.many [(false,ae,(p 506 8 12)),(false,aW,(p 506 14 19))] 0 (p 506 8 19)) (t (y (t (y (s gX 506 25) (y (s bh 506 33) e)) 506 24 43) (y (t (y (s sf 506 46) (y (s cR 506 54) e)) 506 45 69) (y (t (y (s gw 506 72) (y (s cD 506 82) e)) 506 71 99) e))) 506 23 100) (Y (J (c (f 39 bQ 507 8) (y (l aD 507 16) (y (l ae 507 23) (y (c (f 8 bN 507 29) (y (l aW 507 35) e) 507 29 41) e))) 507 8 42) 507 8 42) E) (P 506 4 507 42)) (Y (J (c (f 39 bQ 508 4) (y (l aD 508 12) (y (s ik 508 19) (y (g (.tup [(.str ae),(.str aK),(.tup [])]) cP 508 29) e))) 508 4 33) 508 4 33) (Y (J (c (f 39 bQ 509 4) (y (l aD 509 12) (y (s j7 509 19) (y (g (.tup [(.str ae),(.str aK),(.tup [])]) cP 509 30) e))) 509 4 34) 509 4 34) (Y (J (m (l aD 510 4) bM (y (c (k bX dA 510 18) (y (s se 510 23) (y (h e 510 31 33) (y (g (.tup [(.str ae),(.str aK),(.tup [])]) cP 510 35) (y (o false 510 40) (y (o true 510 47) (y (h (y (t (y (s gu 510 55) (y (c (f 8 bN 510 63) (y (s ik 510 69) e) 510 63 78) e)) 510 54 79) (y (t (y (s bn 510 82) (y (g (.tup [(.str ae),(.str aK),(.tup [])]) cP 510 90) e)) 510 81 94) e)) 510 53 95) e)))))) 510 18 96) e) 510 4 17 97) 510 4 97) (Y (J (c (f 41 gr 511 4) (y (l aD 511 17) e) 511 4 23) 511 4 23) (Y (J (c (f 42 iQ 512 4) (y (l aD 512 15) e) 512 4 21) 512 4 21) (Y (R (l aD 513 11) 513 4 16) E)))))))))))))))⟩
noncomputable def pt:Fn:=⟨[aD],[],[],(Y (A aW (c (f 8 bN 515 12) (y (s a0 515 18) e) 515 12 30) 515 4 30) (Y (.forr (.one (false,ae,(p 516 8 12))) (g (.tup [(.str dW),(.str dy),(.str cf),(.str cg)]) gx 516 16) (Y (J (c (f 39 bQ 517 8) (y (l aD 517 16) (y (l ae 517 23) (y (l aW 517 29) e))) 517 8 35) 517 8 35) E) (P 516 4 517 35)) (Y (.forr (.one (false,ae,(p 518 8 12))) (g (.tup [(.str de),(.str dg),(.str cu),(.str aU)]) gZ 518 16) (Y (J (m (l aD 519 8) bM (y (c (k bX dA 519 22) (y (l ae 519 27) (y (h e 519 33 35) (y (l aW 519 37) (y (o false 519 44) (y (o false 519 51) (y (h (y (t (y (s qZ 519 60) (y (g (.tup [(.str ae),(.str aK),(.tup [])]) cP 519 67) e)) 519 59 71) e) 519 58 72) e)))))) 519 22 73) e) 519 8 21 74) 519 8 74) E) (P 518 4 519 74)) (Y (.forr (.one (false,ae,(p 520 8 12))) (g (.tup [(.str dY),(.str cO)]) gY 520 16) (Y (J (m (l aD 521 8) bM (y (c (k bX dA 521 22) (y (l ae 521 27) (y (h e 521 33 35) (y (l aW 521 37) (y (o false 521 44) (y (o false 521 51) (y (h (y (t (y (s NC 521 60) (y (g (.tup [(.str ae),(.str aK),(.tup [])]) cP 521 65) e)) 521 59 69) (y (t (y (s bn 521 72) (y (g (.tup [(.str ae),(.str aK),(.tup [])]) cP 521 80) e)) 521 71 84) e)) 521 58 85) e)))))) 521 22 86) e) 521 8 21 87) 521 8 87) E) (P 520 4 521 87)) (Y (J (m (l aD 522 4) bM (y (c (k bX dA 522 18) (y (s d9 522 23) (y (h e 522 40 42) (y (l aW 522 44) (y (o false 522 51) (y (o false 522 58) (y (h (y (t (y (s cw 522 67) (y (g (.tup [(.str ae),(.str aK),(.tup [])]) cP 522 74) e)) 522 66 78) e) 522 65 79) e)))))) 522 18 80) e) 522 4 17 81) 522 4 81) (Y (J (m (l aD 523 4) bM (y (c (k bX dA 523 18) (y (s fH 523 23) (y (h e 523 38 40) (y (l aW 523 42) (y (o false 523 49) (y (o false 523 56) (y (h (y (t (y (s NB 523 65) (y (g (.tup [(.str ae),(.str aK),(.tup [])]) cP 523 70) e)) 523 64 74) (y (t (y (s Os 523 77) (y (g (.tup [(.str ae),(.str aK),(.tup [])]) cP 523 82) e)) 523 76 86) e)) 523 63 87) e)))))) 523 18 88) e) 523 4 17 89) 523 4 89) E))))))⟩
noncomputable def sJ:Fn:=⟨[aD],[],[],(Y (A iT (h (y (t (y (r "T.0" 0x8001500005c00030 525 17 22) (y (g (.tup [(.str aY)]) dZ 525 24) (y (g (.tup [(.str ae),(.str aK),(.tup [])]) cP 525 32) e))) 525 16 36) (y (t (y (r "N.0" 0x8001380005c00030 525 39 44) (y (g (.tup [(.str aY)]) dZ 525 46) (y (g (.tup [(.str ae),(.str aK),(.tup [])]) cP 525 54) e))) 525 38 58) e)) 525 15 59) 525 4 59) (Y (.asgT [(false,fy,(p 526 4 8)),(false,vQ,(p 526 10 14))] 0 (p 526 4 14) (t (y (t (y (s cw 526 19) (y (r "T.0" 0x8001500005c00030 526 26 31) e)) 526 18 32) (y (t (y (s cw 526 35) (y (r "N.0" 0x8001380005c00030 526 42 47) e)) 526 34 48) e)) 526 17 49) (p 526 4 49)) (Y (J (m (l aD 527 4) bM (y (c (k bX dA 527 18) (y (s bJ 527 23) (y (l iT 527 40) (y (g (.tup [(.str ae),(.str aK),(.tup [])]) cP 527 50) (y (o true 527 55) e)))) 527 18 60) e) 527 4 17 61) 527 4 61) (Y (.forr (.one (false,ae,(p 528 8 12))) (t (y (s lB 528 17) (y (s iS 528 26) e)) 528 16 37) (Y (J (m (l aD 529 8) bM (y (c (k bX dA 529 22) (y (l ae 529 27) (y (l iT 529 33) (y (c (f 8 bN 529 43) (y (s bJ 529 49) (y (t (y (l fy 529 67) (y (l vQ 529 73) e)) 529 66 78) e)) 529 43 79) (y (o false 529 81) (y (o true 529 88) e))))) 529 22 93) e) 529 8 21 94) 529 8 94) E) (P 528 4 529 94)) (Y (A be (h (y (t (y (r "T.0" 0x8001500005c00030 530 12 17) (y (g (.tup [(.str aY)]) dZ 530 19) (y (g (.tup [(.str ae),(.str aK),(.tup [])]) cP 530 27) e))) 530 11 31) e) 530 10 32) 530 4 32) (Y (J (m (l aD 531 4) bM (y (c (k bX dA 531 18) (y (s cq 531 23) (y (l be 531 40) (y (c (f 8 bN 531 45) (y (s bJ 531 51) (y (t (y (l fy 531 69) (y (t (y (s Df 531 76) (y (i 1 531 81) e)) 531 75 83) e)) 531 68 84) e)) 531 45 85) (y (o true 531 87) e)))) 531 18 92) e) 531 4 17 93) 531 4 93) (Y (A aW (c (f 8 bN 532 12) (y (s cq 532 18) (y (t (y (l fy 532 36) e) 532 35 42) e)) 532 12 43) 532 4 43) (Y (J (m (l aD 533 4) bM (y (c (k bX dA 533 18) (y (s gM 533 23) (y (l be 533 36) (y (l aW 533 41) (y (o false 533 48) (y (o false 533 55) (y (h (y (t (y (s lA 533 64) (y (l fy 533 73) e)) 533 63 78) (y (t (y (s o9 533 81) (y (l fy 533 89) e)) 533 80 94) e)) 533 62 95) e)))))) 533 18 96) e) 533 4 17 97) 533 4 97) (Y (J (m (l aD 534 4) bM (y (c (k bX dA 534 18) (y (s gL 534 23) (y (l be 534 36) (y (l aW 534 41) (y (o false 534 48) (y (o false 534 55) (y (h (y (t (y (s lA 534 64) (y (l fy 534 73) e)) 534 63 78) (y (t (y (s my 534 81) (y (l fy 534 89) e)) 534 80 94) (y (t (y (s o9 534 97) (y (l fy 534 105) e)) 534 96 110) e))) 534 62 111) e)))))) 534 18 112) e) 534 4 17 113) 534 4 113) (Y (J (m (l aD 535 4) bM (y (c (k bX dA 535 18) (y (s xi 535 23) (y (l be 535 30) (y (g (.tup [(.str ae),(.str aK),(.tup [])]) cP 535 35) (y (o false 535 40) (y (o true 535 47) (y (h (y (t (y (s Ot 535 55) (y (l fy 535 60) e)) 535 54 65) e) 535 53 66) e)))))) 535 18 67) e) 535 4 17 68) 535 4 68) (Y (A gK (h (y (t (y (r "T.0" 0x8001500005c00030 536 14 19) (y (g (.tup [(.str aY)]) dZ 536 21) (y (c (f 8 bN 536 29) (y (s bh 536 35) e) 536 29 45) e))) 536 13 46) e) 536 12 47) 536 4 47) (Y (J (m (l aD 537 4) bM (y (c (k bX dA 537 18) (y (s iR 537 23) (y (l gK 537 35) (y (c (f 8 bN 537 42) (y (s du 537 48) e) 537 42 55) (y (o false 537 57) (y (o false 537 64) (y (h (y (t (y (s Ab 537 73) (y (l fy 537 80) e)) 537 72 85) (y (t (y (s Aa 537 88) (y (l fy 537 95) e)) 537 87 100) e)) 537 71 101) e)))))) 537 18 102) e) 537 4 17 103) 537 4 103) E))))))))))))⟩
noncomputable def v6:Fn:=⟨[bE],[],[],(Y (H (q .Eq (x (l bE 541 7) (i 0 541 13) 541 7 15) (s aV 541 19) 541 7 25) (Y (R (x (l bE 542 15) (i 1 542 21) 542 15 23) 542 8 23) E) E 541 4 542 23) (Y (H (q .Eq (x (l bE 543 7) (i 0 543 13) 543 7 15) (s xg 543 19) 543 7 24) (Y (R (t (y (s Df 544 16) (y (x (l bE 544 21) (i 2 544 27) 544 21 29) e)) 544 15 30) 544 8 30) E) E 543 4 544 30) (Y (.rai true (c (f 5 jz 545 10) (y (s cf 545 17) (y (t (y (t (y (s ij 545 32) (y (s eR 545 39) e)) 545 31 46) (y (t (y (s aV 545 49) (y (c (f 8 bN 545 57) (y (s eR 545 63) e) 545 57 70) e)) 545 48 71) (y (l bE 545 73) e))) 545 30 79) e)) 545 10 80) (p 545 4 80)) E)))⟩
noncomputable def yF:Fn:=⟨[iU],[],[],(Y (R (c (f 6 di 547 11) (y (s aU 547 23) (y (.slc (a (l iU 547 41) ft 547 41 54) .non (g (.int 400) gN 547 56) .non (p 547 55 65) (p 547 41 66)) e)) 547 11 67) 547 4 67) E)⟩
noncomputable def pw:Fn:=⟨[aN,bn],[],[],(Y (.asgT [(false,aj,(p 549 4 8)),(false,ay,(p 549 10 16))] 0 (p 549 4 16) (t (y (c (f 16 bO 549 20) (y (x (l bn 549 31) (i 0 549 36) 549 31 38) (y (s lC 549 40) e)) 549 20 53) (y (.lcm (c (f 43 kM 549 56) (y (v bE 549 65) e) 549 56 71) (.one (false,bE,(p 549 76 81))) (.slc (l bn 549 85) (i 1 549 90) .non .non (p 549 90 92) (p 549 85 93)) .inil (S [((j ".0"),.local),((j "value"),.local),((j "param_of"),.globalImplicit)]) (p 549 55 94)) e)) 549 19 95) (p 549 4 95)) (Y (H (q .Eq (l aj 550 7) (c (f 9 eE 550 15) (y (t e 550 24 26) (y (g (.tup [(.str ae),(.str aK),(.tup [])]) cP 550 28) e)) 550 15 32) 550 7 32) (Y (R (t (y (s aV 551 16) (y (c (f 46 iW 551 24) (y (l ay 551 35) e) 551 24 42) e)) 551 15 43) 551 8 43) E) E 550 4 551 43) (Y (H (q .Eq (l aj 552 7) (c (f 8 bN 552 15) (y (s si 552 21) e) 552 15 29) 552 7 29) (Y (R (t (y (s aV 553 16) (y (c (f 10 iJ 553 24) (y (l ay 553 33) e) 553 24 40) e)) 553 15 41) 553 8 41) E) E 552 4 553 41) (Y (H (d .And (.bcons .And (q .Eq (l aj 554 7) (c (f 8 bN 554 15) (y (s eR 554 21) e) 554 15 28) 554 7 28) (.bone (q .Eq (b .len (y (l ay 554 37) e) 554 33 36 44) (i 1 554 48) 554 33 49))) 554 7 49) (Y (R (t (y (s aV 555 16) (y (t (y (s dh 555 25) (y (x (l ay 555 35) (i 0 555 42) 555 35 44) e)) 555 24 45) e)) 555 15 46) 555 8 46) E) E 554 4 555 46) (Y (H (d .And (.bcons .And (q .Eq (l aj 556 7) (c (f 8 bN 556 15) (y (s iu 556 21) e) 556 15 30) 556 7 30) (.bone (q .Eq (b .len (y (l ay 556 39) e) 556 35 38 46) (i 1 556 50) 556 35 51))) 556 7 51) (Y (R (t (y (s aV 557 16) (y (c (f 8 bN 557 24) (y (s iu 557 30) (y (l ay 557 40) e)) 557 24 47) e)) 557 15 48) 557 8 48) E) E 556 4 557 48) (Y (.forr (.one (false,cx,(p 558 8 13))) (l ay 558 17) (Y (A aj (c (f 47 iV 559 15) (y (l aN 559 26) (y (l aj 559 33) (y (l cx 559 39) e))) 559 15 45) 559 8 45) E) (P 558 4 559 45)) (Y (R (t (y (s aV 560 12) (y (l aj 560 20) e)) 560 11 25) 560 4 25) E)))))))⟩
noncomputable def sK:Fn:=⟨[ay],[],[],(Y (H (d .And (.bcons .And (q .NotEq (l ay 562 7) (h e 562 17 19) 562 7 19) (.bcons .And (q .Eq (x (x (l ay 562 24) (.neg (i 1 562 32) (p 562 31 33)) 562 24 34) (i 0 562 35) 562 24 37) (s ae 562 41) 562 24 47) (.bone (q .Eq (x (x (l ay 562 53) (.neg (i 1 562 61) (p 562 60 62)) 562 53 63) (i 1 562 64) 562 53 66) (s iu 562 70) 562 53 78)))) 562 7 79) (Y (R (c (f 9 eE 563 15) (y (.slc (l ay 563 24) .non (.neg (i 1 563 33) (p 563 32 34)) .non (p 563 31 34) (p 563 24 35)) (y (.ite (q .NotEq (x (x (l ay 563 57) (.neg (i 1 563 65) (p 563 64 66)) 563 57 67) (i 2 563 68) 563 57 70) (t e 563 74 76) 563 57 76) (x (x (x (l ay 563 37) (.neg (i 1 563 45) (p 563 44 46)) 563 37 47) (i 2 563 48) 563 37 50) (i 0 563 51) 563 37 53) (g (.tup [(.str ae),(.str aK),(.tup [])]) cP 563 82) (p 563 37 85)) e)) 563 15 86) 563 8 86) E) E 562 4 563 86) (Y (R (c (f 9 eE 564 11) (y (l ay 564 20) e) 564 11 27) 564 4 27) E))⟩
noncomputable def sL:Fn:=⟨[aN,aj,cx],[],[],(Y (H (q .NotEq (x (l aj 566 7) (i 0 566 12) 566 7 14) (s fo 566 18) 566 7 23) (Y (.rai true (c (f 6 di 567 14) (y (s aU 567 26) (y (n .Add (r "too many parameters for type " 0x200074000378001bc000400006d000308001b8000f20002000038000184000e40006100036800194000e800065000390001cc0004000066000378001c800040000740003c8001c0000ca00020 567 44 75) (.slc (c (f 15 bU 567 78) (y (l aj 567 88) e) 567 78 93) .non (g (.int 400) gN 567 95) .non (p 567 94 104) (p 567 78 105)) 567 44 105) e)) 567 14 106) (p 567 8 106)) E) E 566 4 567 106) (Y (.asgT [(false,cL,(p 568 4 12)),(false,cy,(p 568 14 19)),(false,cH,(p 568 21 26)),(false,kO,(p 568 28 32))] 0 (p 568 4 32) (t (y (x (l aj 568 36) (i 1 568 41) 568 36 43) (y (x (l aj 568 45) (i 2 568 50) 568 45 52) (y (x (l aj 568 54) (i 3 568 59) 568 54 61) (y (x (l aj 568 63) (i 4 568 68) 568 63 70) e)))) 568 35 71) (p 568 4 71)) (Y (H (d .And (.bcons .And (q .NotEq (x (l cx 569 7) (i 0 569 13) 569 7 15) (s Df 569 19) 569 7 22) (.bcons .And (q .Eq (c (f 14 cV 569 27) (y (l cx 569 37) e) 569 27 43) (h e 569 47 49) 569 27 49) (.bcons .And (q .Eq (c (f 14 cV 569 55) (y (l cy 569 65) e) 569 55 71) (h e 569 75 77) 569 55 77) (.bone (q .Eq (c (f 14 cV 569 84) (y (l cH 569 94) e) 569 84 100) (h e 569 104 106) 569 84 106))))) 569 7 107) (Y (H (d .Or (.bcons .Or (u (c (f 29 f6 570 15) (y (a (l aN 570 26) aD 570 26 37) (y (l cy 570 39) (y (l cx 570 46) e))) 570 15 52) 570 11 52) (.bone (u (c (f 29 f6 570 60) (y (a (l aN 570 71) aD 570 71 82) (y (l cx 570 84) (y (l cH 570 91) e))) 570 60 97) 570 56 97))) 570 11 97) (Y (.rai true (c (f 5 jz 571 18) (y (s cf 571 25) (y (t (y (t (y (s ij 571 40) (y (x (m (l cL 571 47) iF (y (r "." 2097198 571 62 65) e) 571 47 61 66) (i 0 571 67) 571 47 69) e)) 571 39 70) (y (t (y (s aV 571 73) (y (l cH 571 81) e)) 571 72 87) (y (t (y (s aV 571 90) (y (l cx 571 98) e)) 571 89 104) e))) 571 38 105) e)) 571 18 106) (p 571 12 106)) E) E 570 8 571 106) E) E 569 4 571 106) (Y (R (c (f 13 cC 572 11) (y (l kO 572 23) (y (.dct (y (l cL 572 30) (y (l cx 572 40) e)) (p 572 29 46)) e)) 572 11 47) 572 4 47) E))))⟩
noncomputable def mL:Fn:=⟨[aN,bn],[],[],(Y (A kO (c (f 16 bO 574 11) (y (x (l bn 574 22) (i 3 574 27) 574 22 29) (y (s ou 574 31) e)) 574 11 39) 574 4 39) (Y (H (q .NotIn (x (x (l bn 575 7) (i 0 575 12) 575 7 14) (i 1 575 15) 575 7 17) (c (f 14 cV 575 25) (y (l kO 575 35) e) 575 25 40) 575 7 40) (Y (R (t (y (s aV 576 16) (y (l kO 576 24) e)) 576 15 29) 576 8 29) E) E 575 4 576 29) (Y (R (t (y (s aV 577 12) (y (t (y (s fo 577 21) (y (x (x (l bn 577 28) (i 0 577 33) 577 28 35) (i 1 577 36) 577 28 38) (y (c (f 16 bO 577 40) (y (x (l bn 577 51) (i 1 577 56) 577 51 58) (y (s ou 577 60) e)) 577 40 68) (y (c (f 16 bO 577 70) (y (x (l bn 577 81) (i 2 577 86) 577 81 88) (y (s ou 577 90) e)) 577 70 98) (y (l kO 577 100) e))))) 577 20 105) e)) 577 11 106) 577 4 106) E)))⟩
noncomputable def v7:Fn:=⟨[aN,bn],[],[],(Y (A bZ (.lcm (c (f 16 bO 579 13) (y (v bE 579 24) (y (s uf 579 31) e)) 579 13 40) (.one (false,bE,(p 579 45 50))) (.slc (l bn 579 54) (i 1 579 59) .non .non (p 579 59 61) (p 579 54 62)) .inil (S [((j ".0"),.local),((j "value"),.local),((j "kind_asked"),.globalImplicit)]) (p 579 12 63)) 579 4 63) (Y (H (q .Eq (x (l bn 580 7) (i 0 580 12) 580 7 14) (t (y (s jD 580 19) (y (o true 580 27) e)) 580 18 32) 580 7 32) (Y (R (t (y (s aV 581 16) (y (c (f 9 eE 581 24) (y (.slc (l bZ 581 33) .non (.neg (i 1 581 41) (p 581 40 42)) .non (p 581 39 42) (p 581 33 43)) (y (x (l bZ 581 45) (.neg (i 1 581 52) (p 581 51 53)) 581 45 54) e)) 581 24 55) e)) 581 15 56) 581 8 56) E) E 580 4 581 56) (Y (R (t (y (s aV 582 12) (y (c (f 9 eE 582 20) (y (l bZ 582 29) e) 582 20 35) e)) 582 11 36) 582 4 36) E)))⟩
noncomputable def sM:Fn:=⟨[aN,bn],[],[],(Y (.asgT [(false,ae,(p 584 4 8)),(false,jy,(p 584 10 14))] 0 (p 584 4 14) (t (y (x (x (l bn 584 18) (i 0 584 23) 584 18 25) (i 1 584 26) 584 18 28) (y (.slc (l bn 584 30) (i 4 584 35) .non .non (p 584 35 37) (p 584 30 38)) e)) 584 17 39) (p 584 4 39)) (Y (A bk (h e 585 14 16) 585 4 16) (Y (.forz (.one (false,kq,(p 586 8 10))) .range (y (i 0 586 20) (y (b .len (y (l jy 586 27) e) 586 23 26 32) (y (i 3 586 34) e))) (p 586 14 19) (p 586 14 36) (Y (J (m (l bk 587 8) cG (y (t (y (x (x (l jy 587 24) (l kq 587 29) 587 24 32) (i 1 587 33) 587 24 35) (y (c (f 16 bO 587 37) (y (x (l jy 587 48) (n .Add (l kq 587 53) (i 1 587 58) 587 53 59) 587 48 60) (y (s ig 587 62) e)) 587 37 71) (y (c (f 16 bO 587 73) (y (x (l jy 587 84) (n .Add (l kq 587 89) (i 2 587 94) 587 89 95) 587 84 96) (y (s ig 587 98) e)) 587 73 107) e))) 587 23 108) e) 587 8 22 109) 587 8 109) E) (P 586 4 587 109)) (Y (A bH (c (k bX dA 588 11) (y (l ae 588 16) (y (l bk 588 22) (y (c (f 16 bO 588 31) (y (x (l bn 588 42) (i 3 588 47) 588 42 49) (y (s ig 588 51) e)) 588 31 60) (y (x (x (l bn 588 62) (i 2 588 67) 588 62 69) (i 1 588 70) 588 62 72) (y (x (x (l bn 588 74) (i 1 588 79) 588 74 81) (i 1 588 82) 588 74 84) e))))) 588 11 85) 588 4 85) (Y (H (q .IsNot (m (l aN 589 7) cZ (y (l ae 589 22) e) 589 7 21 27) (z 589 35) 589 7 39) (Y (.rai true (c (f 6 di 590 14) (y (s aU 590 26) (y (n .Add (r "invalid redefinition of constant " 0x200069000370001d8000c20006c00034800190000400007200032800190000ca00066000348001b8000d200074000348001bc000dc00020000378001980004000063000378001b8000e600074000308001b8000e800020 590 44 79) (l ae 590 82) 590 44 86) e)) 590 14 87) (p 590 8 87)) E) E 589 4 590 87) (Y (.tri false (m (a (l aN 592 8) aD 592 8 19) bM (y (l bH 592 28) e) 592 8 27 33) (p 592 8 33) cW cU (p 593 11 20) iU (Y (.rai false (c (f 44 mz 594 14) (y (l iU 594 22) e) 594 14 28) (p 594 8 28)) E) (P 593 4 594 28) (P 591 4 594 28)) (Y (A bE (t (y (s aV 595 13) (y (m (a (l aN 595 21) aD 595 21 32) gK (y (l ae 595 39) e) 595 21 38 44) e)) 595 12 45) 595 4 45) (Y (J (m (l aN 596 4) eW (y (l ae 596 17) (y (l bE 596 23) e)) 596 4 16 29) 596 4 29) (Y (R (l bE 597 11) 597 4 16) E)))))))))⟩
noncomputable def v8:Fn:=⟨[aN,bn],[],[],(Y (A aR (h e 599 13 15) 599 4 15) (Y (.forz (.one (false,kq,(p 600 8 10))) .range (y (i 1 600 20) (y (b .len (y (l bn 600 27) e) 600 23 26 32) (y (i 2 600 34) e))) (p 600 14 19) (p 600 14 36) (Y (J (m (l aR 601 8) cG (y (t (y (x (x (l bn 601 23) (l kq 601 28) 601 23 31) (i 1 601 32) 601 23 34) (y (c (f 16 bO 601 36) (y (x (l bn 601 47) (n .Add (l kq 601 52) (i 1 601 57) 601 52 58) 601 47 59) (y (s ig 601 61) e)) 601 36 70) e)) 601 22 71) e) 601 8 21 72) 601 8 72) E) (P 600 4 601 72)) (Y (H (q .NotEq (b .len (y (b .dict (y (l aR 602 16) e) 602 11 15 23) e) 602 7 10 24) (b .len (y (l aR 602 32) e) 602 28 31 39) 602 7 39) (Y (.rai true (c (f 6 di 603 14) (y (s aU 603 26) (y (n .Add (r "a field twice: " 0x800184000400006600034800194000d800064000100001d0000ee00069000318001940007400020 603 44 61) (x (x (l bn 603 64) (i 0 603 69) 603 64 71) (i 1 603 72) 603 64 74) 603 44 74) e)) 603 14 75) (p 603 8 75)) E) E 602 4 603 75) (Y (.asgA (m (a (l aN 604 4) aD 604 4 15) bH (y (x (x (l bn 604 21) (i 0 604 26) 604 21 28) (i 1 604 29) 604 21 31) e) 604 4 20 32) aR (p 604 4 39) (l aR 604 42) (p 604 4 48)) (Y (R (g (.tup [(.str hZ)]) mA 605 11) 605 4 18) E)))))⟩
noncomputable def v9:Fn:=⟨[iy],[],[],(Y (A gu (.ite (q .NotEq (l iy 608 29) (h e 608 39 41) 608 29 41) (b .int (y (x (l iy 608 15) (i 0 608 22) 608 15 24) e) 608 11 14 25) (i 0 608 47) (p 608 11 48)) 608 4 48) (Y (A pa (.ite (q .GtE (l gu 609 19) (i 0 609 27) 609 19 28) (l gu 609 11) (n .Sub (i 1 609 34) (l gu 609 38) 609 34 42) (p 609 11 42)) 609 4 42) (Y (R (h (y (.ite (q .GtE (l pa 610 20) (n .Pow (I 10 610 28 30) (I 18 610 34 36) 610 28 36) 610 20 36) (l pa 610 12) (i 0 610 42) (p 610 12 43)) (y (n .Add (n .Mod (l pa 610 45) (I 1000000033 610 52 62) 610 45 62) (I 71 610 65 67) 610 45 67) e)) 610 11 68) 610 4 68) E)))⟩
noncomputable def wc:Fn:=⟨[bA,ug],[],[],(Y (H (q .Gt (x (l bA 612 7) (i 0 612 12) 612 7 14) (i 0 612 17) 612 7 18) (Y (A sj (n .Mod (x (l bA 613 16) (i 0 613 21) 613 16 23) (l ug 613 26) 613 16 29) 613 8 29) (Y (.asgI (l bA 614 8) (i 0 614 13) (p 614 8 15) (n .FloorDiv (x (l bA 614 18) (i 0 614 23) 614 18 25) (l ug 614 29) 614 18 32) (p 614 8 32)) (Y (R (l sj 615 15) 615 8 20) E))) E 612 4 615 20) (Y (.asgI (l bA 616 4) (i 1 616 9) (p 616 4 11) (n .Mod (n .Add (n .Mult (x (l bA 616 15) (i 1 616 20) 616 15 22) (I 44485 616 25 30) 616 15 30) (I 709 616 33 36) 616 15 36) (I 2147483647 616 40 50) 616 14 50) (p 616 4 50)) (Y (R (n .Mod (n .FloorDiv (x (l bA 617 11) (i 1 617 16) 617 11 18) (I 13 617 22 24) 617 11 24) (l ug 617 27) 617 11 30) 617 4 30) E)))⟩
noncomputable def wg:Fn:=⟨[ae,ay],[(.tup [])],[],(Y (R (t (y (s ae 619 12) (y (l ae 619 20) (y (b .tuple (y (l ay 619 32) e) 619 26 31 39) e))) 619 11 40) 619 4 40) E)⟩
noncomputable def fM:Sx:=(Y (.asg (true,aq,(p 621 4 9)) (c (k lH lD 621 12) e 621 12 20) (p 621 4 20)) (Y (.raw (Stmt.Assign (targets:=[(Expr.Tuple (elts:=[(Expr.Attribute (Expr.Name "found" (p 622 4 9)) "kinds" (p 622 4 15)),(Expr.Attribute (Expr.Name "found" (p 622 17 22)) "names" (p 622 17 28))]) (k:=0) (pos:=(p 622 4 28)))]) (value:=(Expr.Tuple (elts:=[(Expr.Call (Expr.Name "start_kinds" (p 622 32 43)) [] [] (p 622 32 45)),(Expr.Dict [] [] (p 622 47 49))]) (k:=0) (pos:=(p 622 31 50)))) (pos:=(p 622 4 50)))) (Y (.raw (Stmt.Assign (targets:=[(Expr.Attribute (Expr.Name "found" (p 623 4 9)) "value_of" (p 623 4 18))]) (value:=(Expr.Lambda (args:={posonlyargs:=[],args:=[{arg:="name",annotation:=none,pos:=(p 623 28 32):Arg}],vararg:=none,kwonlyargs:=[],kw_defaults:=[],kwarg:=none,defaults:=[]:Arguments}) (body:=(Expr.Call (func:=(Expr.Attribute (value:=(Expr.Attribute (Expr.Name "found" (p 623 34 39)) "names" (p 623 34 45))) (attr:="get") (pos:=(p 623 34 49)))) (args:=[(Expr.Name "name" (p 623 50 54))]) (keywords:=[]) (pos:=(p 623 34 55)))) (scope:=(S [((j "name"),.local),((j "found"),.free)])) (pos:=(p 623 21 55)))) (pos:=(p 623 4 55)))) (Y (.raw (Stmt.Assign (targets:=[(Expr.Attribute (Expr.Name "found" (p 624 4 9)) "define" (p 624 4 16))]) (value:=(Expr.Lambda (args:={posonlyargs:=[],args:=[{arg:="name",annotation:=none,pos:=(p 624 26 30):Arg},{arg:="value",annotation:=none,pos:=(p 624 32 37):Arg}],vararg:=none,kwonlyargs:=[],kw_defaults:=[],kwarg:=none,defaults:=[]:Arguments}) (body:=(Expr.Call (func:=(Expr.Attribute (value:=(Expr.Attribute (Expr.Name "found" (p 624 39 44)) "names" (p 624 39 50))) (attr:="update") (pos:=(p 624 39 57)))) (args:=[(Expr.Dict (keys:=[(some (Expr.Name "name" (p 624 59 63)))]) (values:=[(Expr.Name "value" (p 624 65 70))]) (pos:=(p 624 58 71)))]) (keywords:=[]) (pos:=(p 624 39 72)))) (scope:=(S [((j "name"),.local),((j "value"),.local),((j "found"),.free)])) (pos:=(p 624 19 72)))) (pos:=(p 624 4 72)))) (Y (R (w aq 625 11) 625 4 16) E)))))
noncomputable def F_law_image:Fn:=⟨[],[],[aq],fM⟩
noncomputable def yG:Fn:=⟨[vR,aN,bn],[],[],(Y (.tri true (c (l vR 628 15) (y (l aN 628 20) (y (l bn 628 27) e)) 628 15 32) (p 628 8 32) jF jx (p 629 11 17) iU (Y (R (x (x (a (l iU 630 15) bE 630 15 26) (i 1 630 27) 630 15 29) (i 1 630 30) 630 15 32) 630 8 32) E) (P 629 4 630 32) (P 627 4 630 32)) E)⟩
noncomputable def py:Fn:=⟨[be,aQ],[],[],(Y (A aW (.dct (y (s av 632 13) (y (s bh 632 22) (y (s gX 632 33) (y (s bh 632 41) (y (s bh 632 52) (y (s du 632 63) (y (s du 632 71) (y (s aK 632 79) (y (s gw 632 86) (y (s aK 632 96) (y (s aK 632 103) (y (r "" 1 632 110 112) e)))))))))))) (p 632 12 113)) 632 4 113) (Y (.whl (d .And (.bcons .And (q .NotEq (l be 633 10) (r "" 1 633 17 19) 633 10 19) (.bone (q .NotEq (l be 633 24) (l aQ 633 31) 633 24 36))) 633 10 36) (Y (A be (x (l aW 634 14) (l be 634 20) 634 14 24) 634 8 24) E) (P 633 4 634 24)) (Y (R (q .Eq (l be 635 11) (l aQ 635 18) 635 11 23) 635 4 23) E)))⟩
noncomputable def qR:Fn:=⟨[bA,ae],[],[],(Y (A aq (h e 637 12 14) 637 4 14) (Y (.forz (.one (false,kq,(p 638 8 10))) .range (y (c (f 53 bq 638 20) (y (l bA 638 30) (y (i 3 638 36) e)) 638 20 38) e) (p 638 14 19) (p 638 14 39) (Y (A cH (x (h (y (s aK 639 17) (y (s du 639 24) (y (s bh 639 32) e))) 639 16 42) (c (f 53 bq 639 43) (y (l bA 639 53) (y (i 3 639 59) e)) 639 43 61) 639 16 62) 639 8 62) (Y (J (m (l aq 640 8) cG (y (t (y (n .Add (n .Add (n .Add (s PC 640 22) (b .str (y (l kq 640 32) e) 640 28 31 35) 640 22 35) (r "." 2097198 640 38 41) 640 22 41) (l ae 640 44) 640 22 48) (y (.ite (q .Eq (c (f 53 bq 640 61) (y (l bA 640 71) (y (i 4 640 77) e)) 640 61 79) (i 0 640 83) 640 61 84) (s av 640 50) (r "" 1 640 90 92) (p 640 50 92)) (y (l cH 640 94) e))) 640 21 100) e) 640 8 20 101) 640 8 101) E)) (P 638 4 640 101)) (Y (R (l aq 641 11) 641 4 16) E)))⟩
noncomputable def uq:Fn:=⟨[ae],[],[],(Y (R (.ite (q .Eq (l ae 643 26) (r "" 1 643 34 36) 643 26 36) (t (y (s aY 643 12) e) 643 11 22) (c (f 54 aI 643 42) (y (l ae 643 52) e) 643 42 57) (p 643 11 57)) 643 4 57) E)⟩
noncomputable def ur:Fn:=⟨[ae,bk,ay],[],[],(Y (A aj (c (f 54 aI 645 11) (y (l ae 645 21) (y (n .Add (l ay 645 27) (.lcm (t (y (s cw 645 38) (y (x (v dP 645 45) (i 0 645 49) 645 45 51) e)) 645 37 52) (.one (false,dP,(p 645 57 60))) (.slc (l bk 645 64) (b .len (y (l ay 645 76) e) 645 72 75 83) .non .non (p 645 72 84) (p 645 64 85)) .inil (S [((j ".0"),.local),((j "row"),.local)]) (p 645 36 86)) 645 27 86) e)) 645 11 87) 645 4 87) (Y (.forr (.many [(false,cL,(p 646 8 16)),(false,cy,(p 646 18 23)),(false,cH,(p 646 25 30))] 0 (p 646 8 30)) (.slc (.slc (l bk 646 34) (b .len (y (l ay 646 46) e) 646 42 45 53) .non .non (p 646 42 54) (p 646 34 55)) .non .non (.neg (i 1 646 59) (p 646 58 60)) (p 646 56 60) (p 646 34 61)) (Y (A aj (t (y (s fo 647 16) (y (l cL 647 23) (y (c (f 59 dJ 647 33) (y (l cy 647 44) e) 647 33 50) (y (c (f 59 dJ 647 52) (y (l cH 647 63) e) 647 52 69) (y (l aj 647 71) e))))) 647 15 76) 647 8 76) E) (P 646 4 647 76)) (Y (R (l aj 648 11) 648 4 15) E)))⟩
noncomputable def lJ:Fn:=⟨[bA,aN,ae,mC],[],[bA,lz],(Y (.asgT [(false,bk,(p 650 4 11)),(false,aw,(p 650 13 24))] 0 (p 650 4 24) (t (y (c (f 58 gy 650 28) (y (w bA 650 41) (y (l ae 650 47) e)) 650 28 52) (y (q .Gt (c (f 53 bq 650 54) (y (w bA 650 64) (y (i 3 650 70) e)) 650 54 72) (i 0 650 75) 650 54 76) e)) 650 27 77) (p 650 4 77)) (Y (A cy (.lcm (v dP 651 13) (.one (false,dP,(p 651 21 24))) (l mC 651 28) (.icons (x (v dP 651 39) (i 2 651 43) 651 39 45) .inil) (S [((j ".0"),.local),((j "row"),.local)]) (p 651 12 46)) 651 4 46) (Y (A aW (c (f 54 aI 652 12) (y (s aK 652 22) e) 652 12 28) 652 4 28) (Y (H (d .And (.bcons .And (q .NotEq (l cy 653 7) (h e 653 16 18) 653 7 18) (.bone (q .Gt (c (f 53 bq 653 23) (y (w bA 653 33) (y (i 3 653 39) e)) 653 23 41) (i 0 653 44) 653 23 45))) 653 7 45) (Y (A ow (x (l cy 654 16) (c (f 53 bq 654 22) (y (w bA 654 32) (y (b .len (y (l cy 654 42) e) 654 38 41 48) e)) 654 22 49) 654 16 50) 654 8 50) (Y (.asg (true,lz,(p 655 8 11)) (n .Add (.lcm (t (y (s cw 655 16) (y (x (v dP 655 23) (i 0 655 27) 655 23 29) e)) 655 15 30) (.one (false,dP,(p 655 35 38))) (l bk 655 42) .inil (S [((j ".0"),.local),((j "row"),.local)]) (p 655 14 50)) (h (y (c (f 54 aI 655 54) (y (s av 655 64) e) 655 54 72) e) 655 53 73) 655 14 73) (p 655 8 73)) (Y (A aW (c (f 54 aI 656 16) (y (x (l ow 656 26) (i 0 656 32) 656 26 34) (y (.lcm (x (w lz 656 37) (c (f 53 bq 656 41) (y (w bA 656 51) (y (b .len (y (w lz 656 61) e) 656 57 60 65) e)) 656 41 66) 656 37 67) (.one (false,dP,(p 656 72 75))) (x (l ow 656 79) (i 1 656 85) 656 79 87) .inil (S [((j ".0"),.local),((j "row"),.local),((j "_law_grab"),.globalImplicit),((j "len"),.globalImplicit),((j "own"),.free),((j "sack"),.free)]) (p 656 36 88)) e)) 656 16 89) 656 8 89) E))) E 653 4 656 89) (Y (A bn (h (y (t (y (s ij 657 13) (y (l ae 657 20) e)) 657 12 25) (y (t (y (s jD 657 28) (y (u (l aw 657 40) 657 36 51) e)) 657 27 52) (y (t (y (s jD 657 55) (y (l aw 657 63) e)) 657 54 75) (y (t (y (s aV 657 78) (y (l aW 657 86) e)) 657 77 92) e)))) 657 11 93) 657 4 93) (Y (.forr (.many [(false,cL,(p 658 8 16)),(false,dK,(p 658 18 28)),(false,eZ,(p 658 30 40))] 0 (p 658 8 40)) (l bk 658 44) (Y (A bn (n .Add (l bn 659 15) (h (y (t (y (s ij 659 24) (y (l cL 659 31) e)) 659 23 40) (y (t (y (s aV 659 43) (y (c (f 59 dJ 659 51) (y (l dK 659 62) e) 659 51 73) e)) 659 42 74) (y (t (y (s aV 659 77) (y (c (f 59 dJ 659 85) (y (l eZ 659 96) e) 659 85 107) e)) 659 76 108) e))) 659 22 109) 659 15 109) 659 8 109) E) (P 658 4 659 109)) (Y (A iz (t (y (s aV 660 11) (y (c (f 60 eY 660 19) (y (l ae 660 30) (y (l bk 660 36) (y (h e 660 45 47) e))) 660 19 48) e)) 660 10 49) 660 4 49) (Y (H (d .Or (.bcons .Or (q .NotEq (c (f 56 bt 661 7) (y (f 50 eX 661 16) (y (l aN 661 28) (y (l bn 661 35) e))) 661 7 40) (l iz 661 44) 661 7 47) (.bcons .Or (q .NotEq (x (a (l aN 661 51) bP 661 51 62) (l ae 661 63) 661 51 68) (l iz 661 72) 661 51 75) (.bone (q .NotEq (c (f 56 bt 661 79) (y (f 50 eX 661 88) (y (l aN 661 100) (y (l bn 661 107) e))) 661 79 112) (s aU 661 116) 661 79 132)))) 661 7 132) (Y (R (t (y (o false 662 16) (y (z 662 23) e)) 662 15 28) 662 8 28) E) E 661 4 662 28) (Y (A bH (m (a (l aN 663 11) aD 663 11 22) bH (y (l ae 663 28) e) 663 11 27 33) 663 4 33) (Y (A c8 (q .Eq (t (y (a (l bH 664 16) cz 664 16 26) (y (a (l bH 664 28) aw 664 28 44) (y (a (l bH 664 46) aZ 664 46 61) e))) 664 15 62) (t (y (l aW 664 67) (y (l aw 664 74) (y (u (l aw 664 91) 664 87 102) e))) 664 66 103) 664 15 103) 664 4 103) (Y (A Ac (h (y (t (y (s ij 665 12) (y (n .Add (l ae 665 19) (s Ou 665 26) 665 19 29) e)) 665 11 30) (y (t (y (s jD 665 33) (y (o false 665 41) e)) 665 32 47) (y (t (y (s jD 665 50) (y (o false 665 58) e)) 665 49 64) (y (t (y (s aV 665 67) (y (c (f 54 aI 665 75) (y (s av 665 85) e) 665 75 93) e)) 665 66 94) e)))) 665 10 95) 665 4 95) (Y (A c8 (d .And (.bcons .And (l c8 666 15) (.bcons .And (q .Eq (c (f 56 bt 666 28) (y (f 50 eX 666 37) (y (l aN 666 49) (y (l Ac 666 56) e))) 666 28 60) (s aU 666 64) 666 28 80) (.bone (q .NotIn (n .Add (l ae 666 86) (s Ou 666 93) 666 86 96) (a (l aN 666 104) bP 666 104 115) 666 86 115)))) 666 15 116) 666 4 116) (Y (A aR (h (y (t (y (s ij 667 15) (y (s be 667 22) e)) 667 14 28) (y (t (y (s aV 667 31) (y (c (f 54 aI 667 39) (y (s gX 667 49) e) 667 39 56) e)) 667 30 57) (y (t (y (s ij 667 60) (y (s aQ 667 67) e)) 667 59 75) (y (t (y (s aV 667 78) (y (.ite (q .NotEq (l bk 667 112) (h e 667 123 125) 667 112 125) (t (y (s cw 667 87) (y (x (x (l bk 667 94) (i 0 667 102) 667 94 104) (i 0 667 105) 667 94 107) e)) 667 86 108) (c (f 54 aI 667 131) (y (s aK 667 141) e) 667 131 147) (p 667 86 147)) e)) 667 77 148) e)))) 667 13 149) 667 4 149) (Y (H (d .Or (.bcons .Or (q .NotEq (c (f 56 bt 668 7) (y (f 51 iX 668 16) (y (l aN 668 26) (y (n .Add (n .Add (h (y (t (y (s ij 668 35) (y (l ae 668 42) e)) 668 34 47) e) 668 33 48) (.slc (l aR 668 51) .non (i 2 668 59) .non (p 668 58 60) (p 668 51 61)) 668 33 61) (.slc (l aR 668 64) .non (i 2 668 72) .non (p 668 71 73) (p 668 64 74)) 668 33 74) e))) 668 7 75) (s aU 668 79) 668 7 95) (.bone (q .NotEq (a (l bH 668 99) aR 668 99 110) (h e 668 114 116) 668 99 116))) 668 7 116) (Y (R (t (y (o false 669 16) (y (z 669 23) e)) 669 15 28) 669 8 28) E) E 668 4 669 28) (Y (A c8 (d .And (.bcons .And (l c8 670 15) (.bone (q .Eq (c (f 56 bt 670 28) (y (f 51 iX 670 37) (y (l aN 670 47) (y (n .Add (h (y (t (y (s ij 670 56) (y (l ae 670 63) e)) 670 55 68) e) 670 54 69) (l aR 670 72) 670 54 78) e))) 670 28 79) (t (y (s hZ 670 84) e) 670 83 95) 670 28 95))) 670 15 95) 670 4 95) (Y (R (t (y (d .And (.bcons .And (l c8 671 12) (.bone (q .Eq (a (l bH 671 25) aR 671 25 36) (h (y (t (y (s be 671 42) (y (x (x (l aR 671 49) (i 1 671 56) 671 49 58) (i 1 671 59) 671 49 61) e)) 671 41 62) (y (t (y (s aQ 671 65) (y (x (x (l aR 671 74) (i 3 671 81) 671 74 83) (i 1 671 84) 671 74 86) e)) 671 64 87) e)) 671 40 88) 671 25 88))) 671 12 88) (y (t (y (l ae 671 91) (y (l bk 671 97) (y (l aw 671 106) e))) 671 90 118) e)) 671 11 119) 671 4 119) E))))))))))))))))⟩
noncomputable def ku:Fn:=⟨[bA,aN,dP],[],[],(Y (.asgT [(false,ae,(p 673 4 8)),(false,bk,(p 673 10 17))] 0 (p 673 4 17) (t (y (x (l dP 673 21) (i 0 673 25) 673 21 27) (y (x (l dP 673 29) (i 1 673 33) 673 29 35) e)) 673 20 36) (p 673 4 36)) (Y (.asgT [(false,ay,(p 674 4 10)),(false,iz,(p 674 12 15))] 0 (p 674 4 15) (t (y (h e 674 19 21) (y (r "" 1 674 23 25) e)) 674 18 26) (p 674 4 26)) (Y (.forz (.one (false,kq,(p 675 8 10))) .range (y (c (f 53 bq 675 20) (y (l bA 675 30) (y (n .Add (b .len (y (l bk 675 40) e) 675 36 39 48) (i 2 675 51) 675 36 52) e)) 675 20 53) e) (p 675 14 19) (p 675 14 54) (Y (A eG (x (h (y (s av 676 20) (y (s gX 676 29) (y (s bh 676 37) (y (s gw 676 48) (y (s du 676 58) (y (s aK 676 66) (y (r "3" 2097203 676 73 76) e))))))) 676 19 77) (c (f 53 bq 676 78) (y (l bA 676 88) (y (i 7 676 94) e)) 676 78 96) 676 19 97) 676 8 97) (Y (H (d .And (.bcons .And (q .Eq (l iz 677 11) (r "" 1 677 18 20) 677 11 20) (.bone (q .GtE (l kq 677 25) (b .len (y (l bk 677 35) e) 677 31 34 43) 677 25 43))) 677 11 43) (Y (A iz (s aU 678 18) 678 12 34) E) (Y (H (d .And (.bcons .And (q .Eq (l iz 679 13) (r "" 1 679 20 22) 679 13 22) (.bone (q .NotEq (l eG 679 27) (r "3" 2097203 679 39 42) 679 27 42))) 679 13 42) (Y (.asgT [(false,dK,(p 680 12 22)),(false,eZ,(p 680 24 34))] 0 (p 680 12 34) (t (y (x (x (l bk 680 38) (l kq 680 46) 680 38 49) (i 1 680 50) 680 38 52) (y (x (x (l bk 680 54) (l kq 680 62) 680 54 65) (i 2 680 66) 680 54 68) e)) 680 37 69) (p 680 12 69)) (Y (H (d .Or (.bcons .Or (u (c (f 57 ee 681 19) (y (l eG 681 33) (y (l eZ 681 43) e)) 681 19 54) 681 15 54) (.bone (d .And (.bcons .And (q .NotEq (l dK 681 59) (r "" 1 681 73 75) 681 59 75) (.bone (u (c (f 57 ee 681 85) (y (l dK 681 99) (y (l eG 681 111) e)) 681 85 120) 681 81 120))) 681 59 121))) 681 15 122) (Y (A iz (s cf 682 22) 682 16 33) E) E 681 12 682 33) E)) E 679 8 682 33) E) 677 8 682 33) (Y (J (m (l ay 683 8) cG (y (.ite (q .Eq (l eG 683 34) (r "3" 2097203 683 46 49) 683 34 49) (t (y (s Df 683 23) (y (i 3 683 28) e)) 683 22 30) (c (f 54 aI 683 55) (y (l eG 683 65) e) 683 55 74) (p 683 22 74)) e) 683 8 21 75) 683 8 75) E))) (P 675 4 683 75)) (Y (A e7 (.lcm (.ite (q .Eq (x (v cx 684 37) (i 0 684 43) 684 37 45) (s Df 684 49) 684 37 52) (t (y (s xg 684 15) (y (s av 684 22) (y (i 3 684 31) e))) 684 14 33) (t (y (s aV 684 59) (y (v cx 684 67) e)) 684 58 73) (p 684 14 73)) (.one (false,cx,(p 684 78 83))) (l ay 684 87) .inil (S [((j ".0"),.local),((j "param"),.local)]) (p 684 13 94)) 684 4 94) (Y (A vS (c (f 56 bt 685 11) (y (f 45 ci 685 20) (y (l aN 685 34) (y (n .Add (h (y (t (y (s aV 685 43) (y (c (f 60 eY 685 51) (y (l ae 685 62) (y (l bk 685 68) (y (h e 685 77 79) e))) 685 51 80) e)) 685 42 81) e) 685 41 82) (l e7 685 85) 685 41 91) e))) 685 11 92) 685 4 92) (Y (R (q .Eq (l vS 686 11) (.ite (q .NotEq (l iz 686 27) (r "" 1 686 34 36) 686 27 36) (l iz 686 20) (t (y (s aV 686 43) (y (c (f 60 eY 686 51) (y (l ae 686 62) (y (l bk 686 68) (y (l ay 686 77) e))) 686 51 84) e)) 686 42 85) (p 686 20 85)) 686 11 86) 686 4 86) E))))))⟩
noncomputable def mM:Fn:=⟨[bA,aN],[],[bA,bP,g5],(Y (.asg (true,bP,(p 688 4 9)) (.lcz (x (h (y (s av 688 14) (y (s gX 688 23) (y (s gw 688 31) (y (s du 688 41) (y (s aK 688 49) e))))) 688 13 55) (c (f 53 bq 688 56) (y (w bA 688 66) (y (i 5 688 72) e)) 688 56 74) 688 13 75) (.one (false,Ad,(p 688 80 84))) .range (y (c (f 53 bq 688 94) (y (w bA 688 104) (y (i 4 688 110) e)) 688 94 112) e) .inil (S [((j ".0"),.local),((j "turn"),.local),((j "_law_grab"),.globalImplicit),((j "sack"),.free)]) (p 688 88 93) (p 688 88 113) (p 688 12 114)) (p 688 4 114)) (Y (A gV (.lcm (c (f 54 aI 689 12) (y (v ae 689 22) e) 689 12 27) (.one (false,ae,(p 689 32 36))) (w bP 689 40) .inil (S [((j ".0"),.local),((j "name"),.local),((j "_law_name"),.globalImplicit)]) (p 689 11 46)) 689 4 46) (Y (.asgT [(false,e7,(p 690 4 10)),(false,qY,(p 690 12 15))] 0 (p 690 4 15) (t (y (.lcm (t (y (s aV 690 21) (y (v aj 690 29) e)) 690 20 34) (.one (false,aj,(p 690 39 43))) (l gV 690 47) .inil (S [((j ".0"),.local),((j "kind"),.local)]) (p 690 19 52)) (y (c (f 53 bq 690 54) (y (w bA 690 64) (y (i 3 690 70) e)) 690 54 72) e)) 690 18 73) (p 690 4 73)) (Y (A vU (x (h (y (z 691 12) (y (c (f 54 aI 691 18) (y (s av 691 28) e) 691 18 36) (y (c (f 54 aI 691 38) (y (s aK 691 48) e) 691 38 54) e))) 691 11 55) (l qY 691 56) 691 11 60) 691 4 60) (Y (A vT (x (h (y (h e 692 12 14) (y (h (y (t (y (s aV 692 18) (y (c (f 54 aI 692 26) (y (s iu 692 36) (y (h (y (c (f 54 aI 692 47) (y (s av 692 57) e) 692 47 65) e) 692 46 66) e)) 692 26 67) e)) 692 17 68) e) 692 16 69) (y (h (y (t (y (s aV 692 73) (y (c (f 54 aI 692 81) (y (s iu 692 91) e) 692 81 100) e)) 692 72 101) e) 692 71 102) e))) 692 11 103) (l qY 692 104) 692 11 108) 692 4 108) (Y (A sq (t (y (s aV 693 12) (y (t (y (s cX 693 21) (y (t e 693 30 32) (y (c (f 54 aI 693 34) (y (s aK 693 44) e) 693 34 50) e))) 693 20 51) e)) 693 11 52) 693 4 52) (Y (H (q .NotEq (c (f 56 bt 694 7) (y (f 45 ci 694 16) (y (l aN 694 30) (y (n .Add (n .Add (h (y (l sq 694 38) e) 694 37 43) (l e7 694 46) 694 37 52) (l vT 694 55) 694 37 59) e))) 694 7 60) (t (y (s aV 694 65) (y (t (y (s cX 694 74) (y (b .tuple (y (l gV 694 89) e) 694 83 88 94) (y (l vU 694 96) e))) 694 73 101) e)) 694 64 102) 694 7 102) (Y (R (o false 695 15) 695 8 20) E) E 694 4 695 20) (Y (.asg (true,g5,(p 696 4 8)) (.lcm (c (f 54 aI 696 12) (y (v ae 696 22) e) 696 12 27) (.one (false,ae,(p 696 32 36))) (b .sorted (y (w bP 696 47) e) 696 40 46 53) (.icons (q .NotIn (v ae 696 57) (.slc (w bP 696 69) .non (m (w bP 696 76) j0 (y (v ae 696 88) e) 696 76 87 93) .non (p 696 75 93) (p 696 69 94)) 696 57 94) .inil) (S [((j ".0"),.local),((j "name"),.local),((j "_law_name"),.globalImplicit),((j "names"),.free)]) (p 696 11 95)) (p 696 4 95)) (Y (.asg (true,g5,(p 697 4 8)) (.lcz (v aj 697 12) (.many [(false,kq,(p 697 21 23)),(false,aj,(p 697 25 29))] 0 (p 697 21 29)) .enumerate (y (w g5 697 43) e) (.icons (q .NotIn (v aj 697 52) (.slc (w g5 697 64) .non (v kq 697 70) .non (p 697 69 72) (p 697 64 73)) 697 52 73) .inil) (S [((j ".0"),.local),((j "at"),.local),((j "kind"),.local),((j "once"),.free)]) (p 697 33 42) (p 697 33 48) (p 697 11 74)) (p 697 4 74)) (Y (A iz (.ite (q .In (s aK 698 30) (w bP 698 39) 698 30 44) (c (f 54 aI 698 10) (y (s aK 698 20) e) 698 10 26) (.ite (q .Gt (b .len (y (w g5 698 80) e) 698 76 79 85) (i 1 698 88) 698 76 89) (t (y (s fG 698 51) (y (b .tuple (y (w g5 698 66) e) 698 60 65 71) e)) 698 50 72) (.ite (q .NotEq (w g5 698 106) (h e 698 114 116) 698 106 116) (x (w g5 698 95) (i 0 698 100) 698 95 102) (t (y (s aY 698 123) e) 698 122 133) (p 698 95 133)) (p 698 50 133)) (p 698 10 133)) 698 4 133) (Y (H (q .NotEq (c (f 56 bt 699 7) (y (f 45 ci 699 16) (y (l aN 699 30) (y (n .Add (h (y (t (y (s aV 699 39) (y (c (f 54 aI 699 47) (y (s si 699 57) e) 699 47 65) e)) 699 38 66) e) 699 37 67) (l e7 699 70) 699 37 76) e))) 699 7 77) (t (y (s aV 699 82) (y (l iz 699 90) e)) 699 81 94) 699 7 94) (Y (R (o false 700 15) 700 8 20) E) E 699 4 700 20) (Y (.forr (.one (false,aj,(p 701 8 12))) (.slc (l gV 701 16) .non (i 1 701 22) .non (p 701 21 23) (p 701 16 24)) (Y (H (q .NotEq (c (f 56 bt 702 11) (y (f 45 ci 702 20) (y (l aN 702 34) (y (h (y (t (y (s aV 702 43) (y (c (f 54 aI 702 51) (y (s eR 702 61) e) 702 51 68) e)) 702 42 69) (y (t (y (s aV 702 72) (y (l aj 702 80) e)) 702 71 85) e)) 702 41 86) e))) 702 11 87) (t (y (s aV 702 92) (y (t (y (s dh 702 101) (y (l aj 702 111) e)) 702 100 116) e)) 702 91 117) 702 11 117) (Y (R (o false 703 19) 703 12 24) E) E 702 8 703 24) (Y (H (q .NotEq (c (f 56 bt 704 11) (y (f 49 iY 704 20) (y (l aN 704 30) (y (n .Add (h (y (t (y (s jD 704 39) (y (o true 704 47) e)) 704 38 52) e) 704 37 53) (l e7 704 56) 704 37 62) e))) 704 11 63) (t (y (s aV 704 68) (y (t (y (s cX 704 77) (y (b .tuple (y (.slc (l gV 704 92) .non (.neg (i 1 704 99) (p 704 98 100)) .non (p 704 97 100) (p 704 92 101)) e) 704 86 91 102) (y (x (l gV 704 104) (.neg (i 1 704 110) (p 704 109 111)) 704 104 112) e))) 704 76 113) e)) 704 67 114) 704 11 114) (Y (R (o false 705 19) 705 12 24) E) E 704 8 705 24) E)) (P 701 4 705 24)) (Y (H (q .NotEq (c (f 56 bt 706 7) (y (f 45 ci 706 16) (y (l aN 706 30) (y (n .Add (n .Add (h (y (l sq 706 38) e) 706 37 43) (l e7 706 46) 706 37 52) (h (y (t (y (s ij 706 57) (y (s NB 706 64) e)) 706 56 68) e) 706 55 69) 706 37 69) e))) 706 7 70) (s cf 706 74) 706 7 85) (Y (R (o false 707 15) 707 8 20) E) E 706 4 707 20) (Y (R (q .Eq (c (f 56 bt 708 11) (y (f 49 iY 708 20) (y (l aN 708 30) (y (n .Add (h (y (t (y (s jD 708 39) (y (o false 708 47) e)) 708 38 53) e) 708 37 54) (l e7 708 57) 708 37 63) e))) 708 11 64) (t (y (s aV 708 69) (y (t (y (s cX 708 78) (y (b .tuple (y (l gV 708 93) e) 708 87 92 98) (y (z 708 100) e))) 708 77 105) e)) 708 68 106) 708 11 106) 708 4 106) E))))))))))))))⟩
noncomputable def kz:Fn:=⟨[aN],[],[],(Y (A gu (h (y (t (y (s ij 710 13) (y (r "T.1" 0x8001500005c00031 710 20 25) e)) 710 12 26) (y (t (y (s aV 710 29) (y (t (y (s aY 710 38) e) 710 37 48) e)) 710 28 49) (y (t (y (s aV 710 52) (y (c (f 54 aI 710 60) (y (s bh 710 70) e) 710 60 80) e)) 710 51 81) e))) 710 11 82) 710 4 82) (Y (A iA (c (f 54 aI 711 13) (y (s lB 711 23) (y (h (y (t (y (s cw 711 34) (y (r "T.1" 0x8001500005c00031 711 41 46) e)) 711 33 47) (y (t (y (s Df 711 50) (y (i 1 711 55) e)) 711 49 57) e)) 711 32 58) e)) 711 13 59) 711 4 59) (Y (H (q .NotEq (c (f 45 ci 712 7) (y (l aN 712 20) (y (h (y (t (y (s aV 712 29) (y (c (f 54 aI 712 37) (y (s eR 712 47) e) 712 37 54) e)) 712 28 55) (y (t (y (s aV 712 58) (y (l iA 712 66) e)) 712 57 73) e)) 712 27 74) e)) 712 7 75) (t (y (s aV 712 80) (y (t (y (s dh 712 89) (y (l iA 712 99) e)) 712 88 106) e)) 712 79 107) 712 7 107) (Y (R (o false 713 15) 713 8 20) E) E 712 4 713 20) (Y (H (q .NotEq (c (f 56 bt 714 7) (y (f 48 cS 714 16) (y (l aN 714 32) (y (n .Add (l gu 714 39) (h (y (t (y (s aV 714 48) (y (c (f 54 aI 714 56) (y (s av 714 66) e) 714 56 74) e)) 714 47 75) e) 714 46 76) 714 39 76) e))) 714 7 77) (t (y (s aV 714 82) (y (c (f 54 aI 714 90) (y (s av 714 100) e) 714 90 108) e)) 714 81 109) 714 7 109) (Y (R (o false 715 15) 715 8 20) E) E 714 4 715 20) (Y (H (q .NotEq (c (f 56 bt 716 7) (y (f 48 cS 716 16) (y (l aN 716 32) (y (n .Add (l gu 716 39) (h (y (t (y (s aV 716 48) (y (l iA 716 56) e)) 716 47 63) e) 716 46 64) 716 39 64) e))) 716 7 65) (t (y (s aV 716 70) (y (t (y (s fo 716 79) (y (r "T.1" 0x8001500005c00031 716 86 91) (y (t (y (s aY 716 94) e) 716 93 104) (y (c (f 54 aI 716 106) (y (s bh 716 116) e) 716 106 126) (y (l iA 716 128) e))))) 716 78 135) e)) 716 69 136) 716 7 136) (Y (R (o false 717 15) 717 8 20) E) E 716 4 717 20) (Y (R (q .Eq (c (f 56 bt 718 11) (y (f 48 cS 718 20) (y (l aN 718 36) (y (n .Add (l gu 718 43) (h (y (t (y (s hZ 718 52) e) 718 51 63) e) 718 50 64) 718 43 64) e))) 718 11 65) (s cf 718 69) 718 11 80) 718 4 80) E))))))⟩
noncomputable def Lh:Fn:=⟨[iy],[],[bA,aN],(Y (.asgT [(true,bA,(p 720 4 8)),(true,aN,(p 720 10 15)),(false,fu,(p 720 17 21))] 0 (p 720 4 21) (t (y (c (f 52 jE 720 25) (y (l iy 720 35) e) 720 25 42) (y (c (f 55 iZ 720 44) e 720 44 56) (y (h e 720 58 60) e))) 720 24 61) (p 720 4 61)) (Y (H (d .Or (.bcons .Or (u (c (f 64 dE 721 11) (y (w aN 721 30) e) 721 11 36) 721 7 36) (.bone (u (c (f 63 e8 721 44) (y (w bA 721 60) (y (w aN 721 66) e)) 721 44 72) 721 40 72))) 721 7 72) (Y (R (o false 722 15) 722 8 20) E) E 721 4 722 20) (Y (.forz (.one (false,pb,(p 723 8 14))) .range (y (n .Add (i 1 723 24) (c (f 53 bq 723 28) (y (w bA 723 38) (y (i 3 723 44) e)) 723 28 46) 723 24 46) e) (p 723 18 23) (p 723 18 47) (Y (.asgT [(false,c8,(p 724 8 16)),(false,dP,(p 724 18 21))] 0 (p 724 8 21) (c (f 61 eH 724 24) (y (w bA 724 41) (y (w aN 724 47) (y (x (h (y (s Ha 724 55) (y (s G9 724 61) (y (s GZ 724 67) e))) 724 54 72) (l pb 724 73) 724 54 80) (y (l fu 724 82) e)))) 724 24 87) (p 724 8 87)) (Y (H (u (l c8 725 15) 725 11 23) (Y (R (o false 726 19) 726 12 24) E) E 725 8 726 24) (Y (J (m (l fu 727 8) cG (y (l dP 727 20) e) 727 8 19 24) 727 8 24) E))) (P 723 4 727 24)) (Y (R (q .NotIn (o false 728 11) (.lcm (c (f 62 dB 728 25) (y (w bA 728 44) (y (w aN 728 50) (y (v dP 728 57) e))) 728 25 61) (.one (false,dP,(p 728 66 69))) (n .Add (l fu 728 73) (l fu 728 80) 728 73 84) .inil (S [((j ".0"),.local),((j "row"),.local),((j "_law_applied_right"),.globalImplicit),((j "image"),.free),((j "sack"),.free)]) (p 728 24 85)) 728 11 85) 728 4 85) E))))⟩
noncomputable def Li:X:=(m (a (w aq 623 34) bP 623 34 45) oR (y (l ae 623 50) e) 623 34 49 55)
noncomputable def Lj:List Nat:=[ae]
noncomputable def Ll:X:=(m (a (w aq 624 39) bP 624 39 50) hW (y (.dct (y (l ae 624 59) (y (l bE 624 65) e)) (p 624 58 71)) e) 624 39 57 72)
noncomputable def Lm:List Nat:=[ae,bE]
inductive FT where
 | nil
 | node (v:Option Fn) (l r:FT)
noncomputable def FT.get (t:FT):Nat->Option Fn:=@FT.rec (fun _=>Nat->Option Fn) (fun _=>none) (fun v _ _ l r i=>af (c6 i 0) v (af (c6 (Nat.mod i 2) 1) (l (Nat.div i 2)) (r (Nat.pred (Nat.div i 2))))) t
noncomputable def fnT:FT:=(.node (some lI) (.node (some pg) (.node (some sA) (.node (some ph) (.node (some uo) (.node (some mJ) (.node (some mM) .nil .nil) .nil) (.node (some sL) .nil .nil)) (.node (some mG) (.node (some yE) .nil .nil) (.node (some F_law_image) .nil .nil))) (.node (some nO) (.node (some sC) (.node (some sI) .nil .nil) (.node (some v8) .nil .nil)) (.node (some mI) (.node (some v6) .nil .nil) (.node (some uq) .nil .nil)))) (.node (some Am) (.node (some vX) (.node (some qM) (.node (some qO) (.node (some Lh) .nil .nil) .nil) (.node (some v7) .nil .nil)) (.node (some mH) (.node (some pt) .nil .nil) (.node (some py) .nil .nil))) (.node (some qL) (.node (some pk) (.node (some pq) .nil .nil) (.node (some wc) .nil .nil)) (.node (some sE) (.node (some pw) .nil .nil) (.node (some lJ) .nil .nil))))) (.node (some sy) (.node (some qJ) (.node (some Dn) (.node (some sB) (.node (some sH) (.node (some kz) .nil .nil) .nil) (.node (some mL) .nil .nil)) (.node (some qN) (.node (some qQ) .nil .nil) (.node (some yG) .nil .nil))) (.node (some pj) (.node (some vZ) (.node (some mK) .nil .nil) (.node (some v9) .nil .nil)) (.node (some jn) (.node (some yF) .nil .nil) (.node (some ur) .nil .nil)))) (.node (some qK) (.node (some vY) (.node (some mF) (.node (some nP) .nil .nil) (.node (some sM) .nil .nil)) (.node (some pn) (.node (some sJ) .nil .nil) (.node (some qR) .nil .nil))) (.node (some um) (.node (some sD) (.node (some qP) .nil .nil) (.node (some wg) .nil .nil)) (.node (some sG) (.node (some sK) .nil .nil) (.node (some ku) .nil .nil))))))
noncomputable def nQ (i:Nat):Option Fn:=fnT.get i
noncomputable def glT:List (Nat×V):=[(jw,(.cls nv)),(iH,(.fn 3)),(jx,(.cls jF)),(fF,(.fn 4)),(iI,(.fn 2)),(bU,(.fn 15)),(dZ,(.tup [(.str aY)])),(cP,(.tup [(.str ae),(.str aK),(.tup [])])),(iJ,(.fn 10)),(gj,(.fn 12)),(cC,(.fn 13)),(d8,(.fn 11)),(gU,(.fn 68)),(jz,(.fn 5)),(bN,(.fn 8)),(iK,(.int 64)),(d5,(.fn 82)),(f0,(.fn 19)),(gW,(.fn 83)),(gn,(.fn 20)),(iN,(.tup [(.str ae),(.str eA),(.tup [])])),(oZ,(.tup [(.str ae),(.str eR),(.tup [])])),(iO,(.fn 93)),(bQ,(.fn 39)),(sd,(.cls sv)),(o6,(.cls pf)),(dA,(.cls bX)),(cU,(.cls cW)),(cV,(.fn 14)),(iQ,(.fn 42)),(gr,(.fn 41)),(kL,(.tup [(.str ll),(.str jt),(.str ju),(.str jv)])),(o8,(.tup [(.str oV),(.str lg),(.str lh),(.str av),(.str js)])),(sg,(.cls sx)),(gY,(.tup [(.str dY),(.str cO)])),(gZ,(.tup [(.str de),(.str dg),(.str cu),(.str aU)])),(gx,(.tup [(.str dW),(.str dy),(.str cf),(.str cg)])),(di,(.fn 6)),(gN,(.int 400)),(iV,(.fn 47)),(eE,(.fn 9)),(iW,(.fn 46)),(kM,(.fn 43)),(bO,(.fn 16)),(f6,(.fn 29)),(mz,(.fn 44)),(mA,(.tup [(.str hZ)])),(g4,(.fn 40)),(lD,(.cls lH)),(bq,(.fn 53)),(aI,(.fn 54)),(dJ,(.fn 59)),(bt,(.fn 56)),(iX,(.fn 51)),(eX,(.fn 50)),(eY,(.fn 60)),(gy,(.fn 58)),(ci,(.fn 45)),(ee,(.fn 57)),(iY,(.fn 49)),(cS,(.fn 48)),(dB,(.fn 62)),(eH,(.fn 61)),(e8,(.fn 63)),(dE,(.fn 64)),(iZ,(.fn 55)),(jE,(.fn 52))]
noncomputable def aTl:List Nat:=[oU,ft,bE,dU,gS,eQ,cG,jd,oR,iG,fu,fP,eB,gp,aD,j4,eS,ln,my,j5,aW,oh,j6,om,cy,cH,lq,lr,bQ,lx,ly,d5,xh,aR,aZ,aw,cz,ay,ae,eU,gJ,bH,iP,gK,bM,iF,eW,cZ,bP,j0,hW]
end
noncomputable def nm (c:Nat):Str:=@Option.rec Str (fun _=>Str) (dX "") (fun s=>s) (az c Oy)
noncomputable def oB:Bi->Nat
 | .tuple=>cX | .list=>zZ | .len=>FI | .dict=>z0 | .sorted=>jr | .str=>FK
 | .range=>xf | .zip=>FJ | .enumerate=>nh | .int=>xg | .exception=>a0
noncomputable def Tn.e (t:Tn):Expr:=.Name (nm t.2.1) t.2.2
noncomputable def Tg.e:Tg->Expr
 | .one t=>t.e
 | .many l kk p=>.Tuple (l.map Tn.e) kk p
mutual
noncomputable def aX:X->Expr
 | .cst c kk _ p=>.Constant c kk p
 | .loc x p=>.Name (nm x) p
 | .cel x p=>.Name (nm x) p
 | .cvr x p=>.Name (nm x) p
 | .glo _ x p=>.Name (nm x) p
 | .tup es kk p=>.Tuple (bg es) kk p
 | .lis es p=>.List (bg es) p
 | .dct ps p=>.Dict (nR ps) (yH ps) p
 | .bin op l r p=>.BinOp (aX l) op (aX r) p
 | .cmp op l r p=>.Compare (aX l) [op] [aX r] p
 | .boo op vs p=>.BoolOp op (bg vs) p
 | .bone h=>aX h
 | .bcons _ h _=>aX h
 | .nott a p=>.UnaryOp .Not (aX a) p
 | .neg a p=>.UnaryOp .USub (aX a) p
 | .ite c a b p=>.IfExp (aX c) (aX a) (aX b) p
 | .att o a p=>.Attribute (aX o) (nm a) p
 | .idx o i p=>.Subscript (aX o) (aX i) p
 | .slc o lo hi st sp p=>.Subscript (aX o) (.Slice (match lo with | .non=>none | _=>some (aX lo)) (match hi with | .non=>none | _=>some (aX hi)) (match st with | .non=>none | _=>some (aX st)) sp) p
 | .cal f as p=>.Call (aX f) (bg as) [] p
 | .calb b as bp p=>.Call (.Name (nm (oB b)) bp) (bg as) [] p
 | .sortk as kv bp kp p=>.Call (.Name (nm jr) bp) (bg as) [⟨some (nm ue),aX kv,kp⟩] p
 | .mth o a as ap p=>.Call (.Attribute (aX o) (nm a) ap) (bg as) [] p
 | .mthx as cp ap p=>.Call (.Attribute (.Name (nm a0) cp) (nm aH) ap) (bg as) [] p
 | .mthc _ c a as cp ap p=>.Call (.Attribute (.Name (nm c) cp) (nm a) ap) (bg as) [] p
 | .lcm e tg it ifs sc p=>.ListComp (aX e) [⟨tg.e,aX it,bg ifs,0⟩] sc p
 | .lcz e tg b as ifs sc bp ip p=>.ListComp (aX e) [⟨tg.e,.Call (.Name (nm (oB b)) bp) (bg as) [] ip,bg ifs,0⟩] sc p
 | .raw e=>e
 | .non=>.Constant .none 0 ⟨0,0,0,0⟩
 | .nil=>.Constant .none 0 ⟨0,0,0,0⟩
 | .inil=>.Constant .none 0 ⟨0,0,0,0⟩
 | .cons h _=>aX h
 | .icons h _=>aX h
noncomputable def bg:X->List Expr
 | .cons h t=>aX h::bg t
 | .icons h t=>aX h::bg t
 | .bcons _ h t=>aX h::bg t
 | .bone h=>[aX h]
 | _=>[]
noncomputable def nR:X->List (Option Expr)
 | .cons h t=>some (aX h)::Ln t
 | _=>[]
noncomputable def Ln:X->List (Option Expr)
 | .cons _ t=>nR t
 | _=>[]
noncomputable def yH:X->List Expr
 | .cons _ t=>Lo t
 | _=>[]
noncomputable def Lo:X->List Expr
 | .cons h t=>aX h::yH t
 | _=>[]
end
mutual
noncomputable def Hg:Sx->Stmt
 | .asg t e p=>.Assign [t.e] (aX e) p
 | .asgT ts kk tp e p=>.Assign [.Tuple (ts.map Tn.e) kk tp] (aX e) p
 | .asgA o a ap e p=>.Assign [.Attribute (aX o) (nm a) ap] (aX e) p
 | .asgI o i ip e p=>.Assign [.Subscript (aX o) (aX i) ip] (aX e) p
 | .exp e p=>.Expr (aX e) p
 | .ret e p=>.Return (some (aX e)) p
 | .rai _ e p=>.Raise (some (aX e)) none p
 | .iff c a b p=>.If (aX c) (fm a) (fm b) p
 | .whl c b p=>.While (aX c) (fm b) [] p
 | .forr t it b p=>.For t.e (aX it) (fm b) [] p
 | .forz t q as bp ip b p=>.For t.e (.Call (.Name (nm (oB q)) bp) (bg as) [] ip) (fm b) [] p
 | .tri r e ep _ tn tp n h hp p=>.Try [match r with | true=>.Return (some (aX e)) ep | false=>.Expr (aX e) ep] [.ExceptHandler (some (.Name (nm tn) tp)) (some (nm n)) (fm h) hp] [] [] p
 | .raw s=>s
 | .nil=>.Pass ⟨0,0,0,0⟩
 | .cons h _=>Hg h
noncomputable def fm:Sx->List Stmt
 | .cons h t=>Hg h::fm t
 | _=>[]
end
def ua {α:Type} (l:List α):Bool:=eL (len l) 5000
def e9 (l:List V) (Z:St) (k:K1):Bool:=af (ua l) (k (.obj Z.nx) (Z.new (.lst l))) false
def wh (l:List V) (Z:St) (k:K1):Bool:=af (ua l) (k (.tup l) Z) false
def wr (i:Nat) (o:O) (Z:St) (k:St->Bool):Bool:=af (Z.mut i) (k (Z.set i o)) false
def sN (d:Nat) (l:List (Nat×V)) (Z:St) (k:St->Bool):Bool:=af (eL (len l) 900) (wr d (.dic l) Z k) false
def ut (l:List (Nat×V)) (Z:St) (k:K1):Bool:=af (eL (len l) 900) (k (.obj Z.nx) (Z.new (.dic l))) false
def Lp (i:Nat) (l:List V) (v:V) (Z:St) (k:K1):Bool:=af (ua l) (wr i (.lst l) Z fun Z=>k v Z) false
def Lr (x y:Nat) (Z:St) (k:K1):Bool:=af (eL (jf (jm x) (jm y)) 10000) (k (.str (uj x y)) Z) false
def Oz (i j:Nat) (Z:St) (k:K1):Bool:=gh (Z.get i) fun x=>gh (Z.get j) fun y=>e9 (x++y) Z k
def yI (l:List Nat):Bool:=@List.rec Nat (fun _=>Bool) true (fun a _ b=>af (l9 a 55296) b false) l
def Qr (w k:Nat):Option Nat:=af (c6 w 0) (some 7) (af (c6 w 2) (some k) none)
def FN (v:V):Option Nat:=V.casesOn v none bb bb (fun c=>af (yI (sdec c)) (some (jm c)) none) bb bb bb bb bb (fun _ _=>none) bb Qr
def Do (a b:V) (Z:St) (k:K1):Bool:=cM (FN a) fun m=>cM (FN b) fun n=>af (eL (jf m n) 10000) (k (.ab 2 (jf m n)) Z) false
def Hh (v:V):Bool:=V.casesOn v false ac ac ac ac ac ac ac ac aJ ac (fun _ _=>true)
def addX (x:Nat) (b:V) (Z:St) (k:K1):Bool:=af (Hh b) (Do (.str x) b Z k) (gf b fun y=>Lr x y Z k)
def Ls (a b:V) (Z:St) (k:K1):Bool:=V.casesOn a false ac (fun x=>oP b fun y=>k (.int (x+y)) Z) (fun x=>addX x b Z k) ac (fun x=>bL b fun y=>wh (x++y) Z k) (fun i=>db b fun j=>Oz i j Z k) ac ac aJ ac (fun _ _=>Do a b Z k)
def Lu (a b:V) (Z:St) (k:K1):Bool:=oP a fun x=>oP b fun y=>k (.int (x - y)) Z
def ff (y:Int):Bool:=Int.rec (fun n=>af (eL 1 n) (eL n 4000000000) false) ac y
def OA (a b:V) (Z:St) (k:K1):Bool:=oP a fun x=>oP b fun y=>af (ff y) (k (.int (x*y)) Z) false
def OB (a b:V) (Z:St) (k:K1):Bool:=oP a fun x=>oP b fun y=>af (ff y) (k (.int (x.fmod y)) Z) false
def OC (a b:V) (Z:St) (k:K1):Bool:=oP a fun x=>oP b fun y=>af (ff y) (k (.int (x.fdiv y)) Z) false
def OD (a b:V) (Z:St) (k:K1):Bool:=oP a fun x=>oP b fun y=>af (decide (x=10)) (af (decide (y=18)) (k (.int 1000000000000000000) Z) false) false
def i5 (op:Operator) (a b:V) (Z:St) (k:K1):Bool:=match op with
 | .Add=>Ls a b Z k
 | .Sub=>Lu a b Z k
 | .Mult=>OA a b Z k
 | .Mod=>OB a b Z k
 | .FloorDiv=>OC a b Z k
 | .Pow=>OD a b Z k
 | _=>false
def PE (Z:St) (a:V) (o:Option O):Option Bool:=match o with
 | some (.lst l)=>Le a l
 | some (.dic l)=>match a with
  | .str c=>match az c l with | some _=>some true | none=>some false
  | _=>none
 | some (.pd l)=>match a with
  | .str c=>match az c l with | some _=>some true | none=>none
  | _=>none
 | _=>none
def OE (Z:St) (a b:V):Option Bool:=match b with
 | .tup l=>Le a l
 | .obj i=>PE Z a (Z.get i)
 | _=>none
noncomputable def isNone (a:V):Option Bool:=match a with
 | .none=>some true
 | .sym _=>none
 | _=>some false
def cI (f:Int->Int->Bool) (a b:V):Option Bool:=FH a fun x=>FH b fun y=>some (f x y)
def uu (a b:V):Bool:=K8 a fun w _=>ud b fun n=>af (c6 n 0) (c6 w 4) false
def wi (op:CmpOp) (a b:V) (Z:St) (k:Bool->Bool):Bool:=match op with
 | .Eq=>af (uu a b) (k false) (cM (FM Z a b) k)
 | .NotEq=>cM (FM Z a b) fun t=>k (not t)
 | .Is=>fO b (cM (isNone a) k)
 | .IsNot=>fO b (cM (isNone a) fun t=>k (not t))
 | .In=>cM (OE Z a b) k
 | .NotIn=>cM (OE Z a b) fun t=>k (not t)
 | .Lt=>cM (cI (fun x y=>decide (x<y)) a b) k
 | .Gt=>af (uu a b) (k true) (cM (cI (fun x y=>decide (y<x)) a b) k)
 | .LtE=>cM (cI (fun x y=>decide (x<=y)) a b) k
 | .GtE=>cM (cI (fun x y=>decide (y<=x)) a b) k
def wk (ns:List Nat):List V->Bool:=@List.rec Nat (fun _=>List V->Bool) (fun _=>true) (fun n _ b l=>@List.rec V (fun _=>Bool) false (fun a r _=>gf a fun c=>af (c6 c n) (b r) false) l) ns
def OF (l:List V) (i:V):Option V:=match i with
 | .int n=>Lf l n
 | .ab w k=>af (c6 w 1) (af (wk nm6 l) (some (.ab 0 k)) none) (af (c6 w 3) (af (wk Lb l) (some (.ab 0 k)) none) none)
 | _=>none
def Lv (l:List (Nat×V)) (i:V):Option V:=match i with|.str c=>az c l|_=>none
def An (o:Option O) (i:V):Option V:=match o with
 | some (.lst l)=>OF l i
 | some (.dic l)=>Lv l i
 | some (.pd l)=>Lv l i
 | _=>none
def mN (o i:V) (Z:St):Option V:=match o with
 | .tup l=>match i with | .int n=>Lf l n | _=>none
 | .obj k=>An (Z.get k) i
 | _=>none
def Lw (c:Nat) (lo hi st:V) (Z:St) (k:K1):Bool:=fO lo (ud hi fun b=>fO st (af (eL (jm c) (Nat.min b 10000)) (k (.str c) Z) false))
def Lx (n:Nat) (lo hi st:V) (Z:St) (k:K1):Bool:=fO lo (ud hi fun b=>fO st (af (eL n (Nat.min b 10000)) (k (.ab 2 n) Z) false))
def Ly (o lo hi st:V) (Z:St) (k:K1):Bool:=match o with
 | .obj i=>gh (Z.get i) fun l=>cM (Lg l lo hi st) fun r=>af (ua l) (e9 r Z k) false
 | .str c=>Lw c lo hi st Z k
 | .ab w n=>af (c6 w 2) (Lx n lo hi st Z k) false
 | _=>false
def Ao (o:Option O) (a:Nat):Option V:=match o with
 | some (.dic l)=>az a l
 | _=>none
def g6 (c:Nat):Bool:=af (eL 3 c) (eL c 8) false
def Hj (o:Option O) (i a:Nat) (v:V) (Z:St) (k:St->Bool):Bool:=cM o fun o=>O.casesOn o ac ac
 (fun c d=>af (g6 c) (eP (Z.get d) fun l=>sN d (put a v l) Z k) false)
 (fun c d=>af (eL 200 c) (af (eL c 399) (wr i (.exn (Nat.sub c 200) Z.nx) (Z.new (.dic [])) fun b=>wr Z.nx (.dic (put a v [])) b k) false) (eP (Z.get d) fun l=>sN d (put a v l) Z k))
 ac false ac ac ac ac
def OG (Z:St) (o:Option O) (a:Nat):Option V:=match o with
 | some (.ins c d)=>af (g6 c) (Ao (Z.get d) a) none
 | some (.exn c d)=>af (eL 200 c) none (Ao (Z.get d) a)
 | _=>none
def Lz (o:V) (a:Nat) (Z:St) (k:V->Bool):Bool:=db o fun i=>cM (OG Z (Z.get i) a) k
def xo (l:List V):Option (List V):=match jg l with
 | some a=>af (eL (len a) 60) (some ((eI (a.map fun c=>(c,())) []).map fun p=>V.str p.1)) none
 | none=>none
def Ap (l:List V) (Z:St) (k:K1):Bool:=oQ l fun v=>oA v Z fun r=>e9 r Z k
def xp (l:List V) (Z:St) (k:K1):Bool:=oQ l fun v=>oA v Z fun r=>wh r Z k
def LA (o:Option O) (k:Int->Bool):Bool:=match o with
 | some (.lst r)=>af (ua r) (k (len r)) false
 | some (.dic r)=>af (ua r) (k (len r)) false
 | _=>false
def FP (l:List V) (Z:St) (k:K1):Bool:=oQ l fun v=>match v with
 | .tup r=>af (ua r) (k (.int (len r)) Z) false
 | .obj i=>LA (Z.get i) fun n=>k (.int n) Z
 | _=>false
def FQ (o:Option O) (Z:St) (k:K1):Bool:=match o with
 | some (.dic r)=>ut r Z k
 | some (.lst r)=>af (ua r) (cM (kP r) fun a=>ut (fJ [] a) Z k) false
 | _=>false
def Aq (l:List V) (Z:St) (k:K1):Bool:=oQ l fun v=>db v fun i=>FQ (Z.get i) Z k
def FS (o:Option O) (Z:St) (k:K1):Bool:=match o with
 | some (.lst r)=>cM (xo r) fun q=>e9 q Z k
 | some (.dic [])=>k (.obj Z.nx) (Z.new (.lst []))
 | _=>false
def uv (l:List V) (Z:St) (k:K1):Bool:=oQ l fun v=>db v fun i=>FS (Z.get i) Z k
def FU (l:List V) (Z:St) (k:K1):Bool:=oQ l fun v=>match v with
 | .int (.ofNat n)=>af (eL n 9) (k (.str (SB+48+n)) Z) false
 | _=>false
def FV (l:List V) (Z:St) (k:K1):Bool:=oQ l fun v=>oP v fun i=>k (.int i) Z
def KQ (b:Bi) (l:List V) (Z:St) (k:K1):Bool:=Bi.casesOn b (xp l Z k) (Ap l Z k) (FP l Z k) (Aq l Z k) (uv l Z k) (FU l Z k) false false false (FV l Z k) false
def uw (i:Nat) (r l:List V) (Z:St) (k:K1):Bool:=oQ l fun v=>Lp i (r++[v]) .none Z k
def FW (i:Nat) (r l:List V) (Z:St) (k:K1):Bool:=GY l (match r.reverse with
 | v::q=>af (ua q.reverse) (wr i (.lst q.reverse) Z fun Z=>k v Z) false
 | []=>false)
def ux (i:Nat) (r l:List V) (Z:St) (k:K1):Bool:=oQ l fun v=>db v fun j=>gh (Z.get j) fun q=>Lp i (r++q) .none Z k
def Hl (c:Nat) (l:List Nat):Nat->Option Nat:=@List.rec Nat (fun _=>Nat->Option Nat) bb (fun x _ a n=>af (c6 x c) (some n) (a (Nat.succ n))) l
def xq (r l:List V) (Z:St) (k:K1):Bool:=oQ l fun v=>gf v fun c=>cM (jg r) fun a=>cM (Hl c a 0) fun n=>af (ua r) (k (.int n) Z) false
def Hm (a:Nat) (i:Nat) (r l:List V) (Z:St) (k:K1):Bool :=
 af (c6 a cG) (uw i r l Z k) (af (c6 a jd) (FW i r l Z k) (af (c6 a eQ) (ux i r l Z k) (af (c6 a j0) (xq r l Z k) false)))
def Dp (c:Nat) (r:List (Nat×V)) (d:V) (Z:St) (k:K1):Bool:=@Option.rec V (fun _=>Bool) (k d Z) (fun v=>k v Z) (az c r)
def FX (r:List (Nat×V)) (l:List V) (Z:St) (k:K1):Bool:=@Bool.rec (fun _=>Bool) (yB l fun a d=>gf a fun c=>Dp c r d Z k) (oQ l fun a=>gf a fun c=>Dp c r .none Z k) (c6 (len l) 1)
def FY (i:Nat) (r:List (Nat×V)) (l:List V) (Z:St) (k:K1):Bool:=yB l fun a d=>gf a fun c=>@Option.rec V (fun _=>Bool) (k d Z) (fun v=>af (eL (len r) 900) (wr i (.dic (del c r)) Z fun Z=>k v Z) false) (az c r)
def uy (i:Nat) (r:List (Nat×V)) (l:List V) (Z:St) (k:K1):Bool:=oQ l fun v=>db v fun j=>af (c6 i j) false (eP (Z.get j) fun q=>af (eL (jf (len r) (len q)) 900) (wr i (.dic (fJ r q)) Z fun Z=>k .none Z) false)
def Hn (a:Nat) (i:Nat) (r:List (Nat×V)) (l:List V) (Z:St) (k:K1):Bool :=
 af (c6 a oR) (FX r l Z k) (af (c6 a jd) (FY i r l Z k) (af (c6 a hW) (uy i r l Z k) false))
noncomputable def splT:List (Nat×List Nat):=[(40566366632795169633317452513377,[4398214283312,4398203797601]),(40566366632804393005354307289185,[4398214283313,4398203797601]),(40566366632795169633317452513378,[4398214283312,4398203797602]),(40566366632804393005354307289186,[4398214283313,4398203797602]),(40566366632795169633317452513379,[4398214283312,4398203797603]),(40566366632804393005354307289187,[4398214283313,4398203797603])]
def sO (c:Nat) (l:List V) (Z:St) (k:K1):Bool:=oQ l fun v=>gf v fun d=>af (c6 d (SB+46)) (cM (az c splT) fun a=>e9 (a.map V.str) Z k) false
def gA (v:V) (l:List V) (Z:St) (k:K1):Bool:=oQ l fun u=>gf u fun d=>af (c6 d j3) (cM (FN v) fun n=>af (eL n 10000) (k (.byt 0) Z) false) false
def NE (l:List V):Option Nat:=@List.rec V (fun _=>Option Nat) (some 0) (fun a _ b=>@Option.rec Nat (fun _=>Option Nat) none (fun m=>@Option.rec Nat (fun _=>Option Nat) none (fun n=>some (jf m n)) b) (FN a)) l
def FZ (c:Nat) (r:List V) (Z:St) (k:K1):Bool:=cM (FN (.str c)) fun m=>cM (NE r) fun n=>af (eL (jf n (Nat.mul m (len r))) 10000) (k (.ab 2 (jf n (Nat.mul m (len r)))) Z) false
def wl (c:Nat) (l:List V) (Z:St) (k:K1):Bool:=oQ l fun v=>db v fun i=>gh (Z.get i) fun r=>af (ua r) (@Option.rec (List Nat) (fun _=>Bool) (FZ c r Z k) (fun a=>af (eL (jf (jm (pe c a)) (jm c)) 100000) (k (.str (pe c a)) Z) false) (jg r)) false
def yJ (a:Nat) (c:Nat) (l:List V) (Z:St) (k:K1):Bool :=
 af (c6 a iF) (sO c l Z k) (af (c6 a dU) (gA (.str c) l Z k) (af (c6 a iG) (wl c l Z k) false))
def LB (a:Nat):Bool:=af (c6 a cG) true (af (c6 a jd) true (af (c6 a eQ) true (c6 a j0)))
def LC (a:Nat):Bool:=af (c6 a oR) true (af (c6 a jd) true (c6 a hW))
def LD (a:Nat):Bool:=af (c6 a iF) true (af (c6 a dU) true (c6 a iG))
def uz (v:V):Bool:=V.casesOn v false ac ac ac ac ac ac (fun _=>true) (fun _=>true) (fun _ _=>true) ac aJ
def OH (call:Call) (c d a:Nat) (self:V) (Z:St) (as:St->KL->Bool) (k:K1) (x:KX):Bool :=
 eP (Z.get d) fun l=>@Option.rec Nat (fun _=>Bool) (cM (az a l) fun v=>af (uz v) (as Z fun r Z=>call v r Z k x) false) (fun i=>@Option.rec V (fun _=>Bool) (as Z fun r Z=>call (.fn i) (self::r) Z k x) ac (az a l)) (az a (kt c))
def LE (call:Call) (o:Option O) (i a:Nat) (Z:St) (as:St->KL->Bool) (k:K1) (x:KX):Bool:=match o with
 | some (.ins c d)=>af (g6 c) (OH call c d a (.obj i) Z as k x) false
 | some (.lst _)=>af (LB a) (as Z fun l Z=>gh (Z.get i) fun r=>Hm a i r l Z k) false
 | some (.dic _)=>af (LC a) (as Z fun l Z=>eP (Z.get i) fun r=>Hn a i r l Z k) false
 | _=>false
def OI (call:Call) (v:V) (a:Nat) (Z:St) (as:St->KL->Bool) (k:K1) (x:KX):Bool:=match v with
 | .obj i=>LE call (Z.get i) i a Z as k x
 | .str c=>af (LD a) (as Z fun l Z=>yJ a c l Z k) false
 | .ab w n=>af (c6 a dU) (af (c6 w 2) (as Z fun l Z=>gA (.ab w n) l Z k) false) false
 | _=>false
def Ar (l:List Tn):List V->aO->Option aO:=@List.rec Tn (fun _=>List V->aO->Option aO) (fun a m=>@List.rec V (fun _=>Option aO) (some m) (fun _ _ _=>none) a) (fun t _ b a m=>@List.rec V (fun _=>Option aO) none (fun v r _=>b r ((t.2.1,v)::m)) a) l
def F0 (tg:Tg) (v:V) (k:aO->Bool):Bool:=match tg with
 | .one t=>k [(t.2.1,v)]
 | .many l _ _=>bL v fun r=>cM (Ar l r []) k
def Ho (cs:List (Nat×Nat)) (t:Tn) (v:V) (vs:aO) (Z:St) (k:aO->St->Bool):Bool:=af t.1 (cM (az t.2.1 cs) fun i=>af (xe (Z.get i)) (wr i (.cel v) Z fun Z=>k vs Z) false) (k ((t.2.1,v)::vs) Z)
def zV (cs:List (Nat×Nat)) (l:List Tn):List V->aO->St->(aO->St->Bool)->Bool:=@List.rec Tn (fun _=>List V->aO->St->(aO->St->Bool)->Bool) (fun r a Z k=>GY r (k a Z)) (fun t _ b r a Z k=>@List.rec V (fun _=>Bool) false (fun v r _=>Ho cs t v a Z fun a Z=>b r a Z k) r) l
def NG (cs:List (Nat×Nat)) (t:Tg) (v:V) (vs:aO) (Z:St) (k:aO->St->Bool):Bool:=match t with
 | .one t=>Ho cs t v vs Z k
 | .many l _ _=>bL v fun r=>zV cs l r vs Z k
def xr (l:List V) (Z:St) (k:Src->St->Bool):Bool:=af (c6 (len l) 1) (oQ l fun v=>ud v fun n=>af (eL n 4000) (k (.seq (gz n 0 1)) Z) false)
 (De l fun a b c=>ud a fun a=>ud b fun n=>ud c fun c=>FG c fun c=>af (eL (jf n (jf a c)) 4000) (k (.seq (gz ((n - a+c) / (c+1)) a (c+1))) Z) false)
def F1 (l:List V) (Z:St) (k:Src->St->Bool):Bool:=yB l fun u v=>oA u Z fun a=>bL v fun _=>GY a (k (.zip (.seq []) (.seq [])) Z)
def As (l:List V) (Z:St) (k:Src->St->Bool):Bool:=oQ l fun u=>db u fun i=>gh (Z.get i) fun _=>k (.enm (.live i)) Z
def At (b:Bi) (l:List V) (Z:St) (k:Src->St->Bool):Bool:=match b with
 | .range=>xr l Z k
 | .zip=>F1 l Z k
 | .enumerate=>As l Z k
 | _=>false
def Au (call:Call) (fv:V) (l:List V):St->(List (Nat×V)->St->Bool)->KX->Bool:=@List.rec V (fun _=>St->(List (Nat×V)->St->Bool)->KX->Bool) (fun Z k _=>k [] Z) (fun v _ b Z k x=>call fv [v] Z (fun a Z=>gf a fun c=>b Z (fun l Z=>k ((c,v)::l) Z) x) x) l
def wm:List (Nat×V)->Bool
 | []=>true
 | p::r=>match r with
  | []=>true
  | q::_=>af (uk p.1 q.1) (wm r) false
def Dq (ih:Nat->St->KL->Bool) (tg:Tg) (tst:aO->St->(Bool->St->Bool)->Bool) (elt:aO->St->K1->Bool) (i:Nat) (Z:St) (k:KL) (it:Option V):Bool :=
 @Option.rec V (fun _=>Bool) (k [] Z) (fun v=>F0 tg v fun a=>tst a Z fun b Z=>af b (elt a Z fun u Z=>ih (Nat.succ i) Z fun l Z=>k (u::l) Z) (ih (Nat.succ i) Z k)) it
def sP (src:Src) (tg:Tg) (tst:aO->St->(Bool->St->Bool)->Bool) (elt:aO->St->K1->Bool) (n:Nat):Nat->St->KL->Bool :=
 @Nat.rec (fun _=>Nat->St->KL->Bool) (fun _ _ _=>false) (fun _ a i Z k=>cM (src.at i Z) (Dq a tg tst elt i Z k)) n
def xt (src:Src) (tg:Tg) (tst:aO->St->(Bool->St->Bool)->Bool) (elt:aO->St->K1->Bool) (Z:St) (k:K1):Bool :=
 af (eL (src.size Z) 4000) (sP src tg tst elt (Nat.succ (src.size Z)) 0 Z fun l Z=>e9 l Z k) false
abbrev D:=Call->List (Nat×Nat)->aO->aO->St->K1->KX->Bool
noncomputable def uA (v:V):D:=fun _ _ _ _ Z k _=>k v Z
def LF (y:Nat):D:=fun _ _ a _ Z k _=>cM (az y a) fun v=>k v Z
def F2 (y:Nat):D:=fun _ a _ _ Z k _=>cM (az y a) fun i=>zY (Z.get i) fun v=>k v Z
def LG (y:Nat):D:=fun _ _ _ a Z k _=>cM (az y a) fun v=>k v Z
def LH (es:D):D:=fun c a d b Z k x=>es c a d b Z (fun v Z=>bL v fun l=>wh l Z k) x
def LI (es:D):D:=fun c a d b Z k x=>es c a d b Z (fun v Z=>bL v fun l=>e9 l Z k) x
def LJ (es:D):D:=fun c a d b Z k x=>es c a d b Z (fun v Z=>bL v fun l=>cM (yD l) fun q=>ut (fJ [] q) Z k) x
def LK (op:Operator) (l r:D):D:=fun c d f e Z k x=>l c d f e Z (fun a Z=>r c d f e Z (fun b Z=>i5 op a b Z k) x) x
def LM (op:CmpOp) (l r:D):D:=fun c d f e Z k x=>l c d f e Z (fun a Z=>r c d f e Z (fun b Z=>wi op a b Z fun t=>k (.bool t) Z) x) x
noncomputable def pz (op:BoolOp) (b:Bool):Bool:=match op with|.And=>not b|.Or=>b
def Dr (op:BoolOp) (h t:D):D:=fun c a e d Z k x=>h c a e d Z (fun v Z=>fB v fun b=>af (pz op b) (k v Z) (t c a e d Z k x)) x
def Hp (h:D):D:=fun c a d b Z k x=>h c a d b Z (fun v Z=>fB v fun _=>k v Z) x
def LN (a:D):D:=fun c d f e Z k x=>a c d f e Z (fun v Z=>fB v fun b=>k (.bool (not b)) Z) x
def LP (a:D):D:=fun c b e d Z k x=>a c b e d Z (fun v Z=>oP v fun i=>k (.int (-i)) Z) x
def LQ (t a b:D):D:=fun c d f e Z k x=>t c d f e Z (fun v Z=>fB v fun z=>af z (a c d f e Z k x) (b c d f e Z k x)) x
def LR (o:D) (a:Nat):D:=fun c b d e Z k x=>o c b d e Z (fun v Z=>Lz v a Z fun u=>k u Z) x
def LS (o i:D):D:=fun c d f e Z k x=>o c d f e Z (fun a Z=>i c d f e Z (fun b Z=>cM (mN a b Z) fun u=>k u Z) x) x
def LT (o lo hi st:D):D:=fun c b e d Z k x=>o c b e d Z (fun a Z=>lo c b e d Z (fun l Z=>hi c b e d Z (fun h Z=>st c b e d Z (fun s Z=>Ly a l h s Z k) x) x) x) x
def LU (f as:D):D:=fun c a e d Z k x=>f c a e d Z (fun b Z=>af (uz b) (as c a e d Z (fun v Z=>bL v fun l=>c b l Z k x) x) false) x
def Hq (b:Bi) (as:D):D:=fun c a e d Z k x=>as c a e d Z (fun v Z=>bL v fun l=>KQ b l Z k) x
noncomputable def noX:KX:=fun _ _=>false
def wn (c:Call) (fv u:V) (Z:St) (k:K1):Bool:=af (uz fv) (db u fun i=>gh (Z.get i) fun r=>af (eL (len r) 60) (Au c fv r Z (fun a Z=>af (wm (eI a [])) (e9 ((eI a []).map (·.2)) Z k) false) noX) false) false
def Ds (as kv:D):D:=fun c a b d Z k x=>as c a b d Z (fun v Z=>kv c a b d Z (fun e Z=>bL v fun l=>oQ l fun u=>wn c e u Z k) x) x
def LV (o:D) (a:Nat) (as:D):D:=fun c b e d Z k x=>o c b e d Z (fun v Z=>OI c v a Z (fun Z k=>as c b e d Z (fun v Z=>bL v fun l=>k l Z) x) k x) x
def Hr (as:D):D:=fun c a b d Z k x=>as c a b d Z (fun v Z=>bL v fun l=>yB l fun u _=>db u fun i=>ng (Z.get i) fun _ _=>k .none Z) x
def Hs (i:Nat) (as:D):D:=fun c a d b Z k x=>as c a d b Z (fun v Z=>bL v fun l=>c (.fn i) l Z k x) x
def LW (e:D) (tg:Tg) (it ifs:D):D:=fun c d g a Z k x=>it c d g a Z (fun v Z=>ul v Z fun f=>xt f tg (fun a Z k=>ifs c d g a Z (fun v Z=>fB v fun b=>k b Z) x) (fun a Z k=>e c d g a Z k x) Z k) x
def LX (e:D) (tg:Tg) (b:Bi) (as ifs:D):D:=fun c d g a Z k x=>as c d g a Z (fun v Z=>bL v fun l=>At b l Z fun f Z=>xt f tg (fun a Z k=>ifs c d g a Z (fun v Z=>fB v fun b=>k b Z) x) (fun a Z k=>e c d g a Z k x) Z k) x
def Ht (h t:D):D:=fun c a d b Z k x=>h c a d b Z (fun v Z=>t c a d b Z (fun w Z=>bL w fun l=>k (.tup (v::l)) Z) x) x
def Dt (h t:D):D:=fun c a e d Z k x=>h c a e d Z (fun v Z=>fB v fun b=>af b (t c a e d Z k x) (k (.bool false) Z)) x
noncomputable def LY:D:=fun _ _ _ _ _ _ _=>false
def dR (e:X):D:=@X.rec (fun _=>D)
 (fun _ _ v _=>uA v) (fun y _=>LF y) (fun y _=>F2 y) (fun y _=>LG y) (fun v _ _=>uA v)
 (fun _ _ _ j=>LH j) (fun _ _ j=>LI j) (fun _ _ j=>LJ j)
 (fun k _ _ _ l r=>LK k l r) (fun k _ _ _ l r=>LM k l r) (fun _ _ _ w=>w) (fun k _ _ h t=>Dr k h t) (fun _ h=>Hp h)
 (fun _ _ a=>LN a) (fun _ _ a=>LP a) (fun _ _ _ _ c a b=>LQ c a b) (fun _ a _ o=>LR o a) (fun _ _ _ o i=>LS o i) (fun _ _ _ _ _ _ o p u q=>LT o p u q)
 (fun _ _ _ f d=>LU f d) (fun b _ _ _ d=>Hq b d) (fun _ _ _ _ _ d n=>Ds d n) (fun _ a _ _ _ o d=>LV o a d) (fun _ _ _ _ d=>Hr d) (fun i _ _ _ _ _ _ d=>Hs i d)
 (fun _ m _ _ _ _ e s g=>LW e m s g) (fun _ m b _ _ _ _ _ _ e d g=>LX e m b d g)
 (uA .none) (uA (.tup [])) (fun _ _ h t=>Ht h t) (uA (.bool true)) (fun _ _ h t=>Dt h t) (fun _=>LY) e
def setAt (l:List V) (v:V):Nat->List V:=@List.rec V (fun _=>Nat->List V) (fun _=>[]) (fun a r b n=>@Nat.rec (fun _=>List V) (v::r) (fun m _=>a::b m) n) l
def LZ (l:List V) (d:Nat) (j v:V) (Z:St) (k:St->Bool):Bool:=oP j fun i=>Int.rec (fun n=>af (l9 n (len l)) (af (eL n 1000000) (wr d (.lst (setAt l v n)) Z k) false) false) ac i
def Av (o:Option O) (d:Nat) (j v:V) (Z:St) (k:St->Bool):Bool:=cM o fun o=>O.casesOn o (fun l=>LZ l d j v Z k) (fun l=>gf j fun y=>sN d (put y v l) Z k)
 aJ aJ ac false ac ac ac ac
abbrev KN:=aO->St->Bool
abbrev DS:=Call->Call->List (Nat×Nat)->aO->St->KN->K1->KX->Bool
def L4 (t:Tn) (e:D):DS:=fun c f a b Z d _ x=>e c a b [] Z (fun v Z=>Ho a t v b Z d) x
def Hu (ts:List Tn) (e:D):DS:=fun c f a b Z d _ x=>e c a b [] Z (fun v Z=>bL v fun l=>zV a ts l b Z d) x
def Hv (o:D) (a:Nat) (e:D):DS:=fun c g d b Z f _ x=>e c d b [] Z (fun v Z=>o c d b [] Z (fun u Z=>db u fun i=>Hj (Z.get i) i a v Z (f b)) x) x
def Hw (o i:D) (e:D):DS:=fun c g b a Z f _ x=>e c b a [] Z (fun v Z=>o c b a [] Z (fun u Z=>i c b a [] Z (fun j Z=>db u fun d=>Av (Z.get d) d j v Z (f a)) x) x) x
noncomputable def L5 (e:D):DS:=fun c f b a Z d _ x=>e c b a [] Z (fun _ Z=>d a Z) x
noncomputable def L6 (e:D):DS:=fun c f a d Z _ b x=>e c a d [] Z b x
def L7 (lp:Bool) (e:D):DS:=fun c h f g Z _ _ x=>e c f g [] Z (fun v b=>db v fun i=>af (eL Z.nx i) (ng (b.get i) fun a d=>af (eL 100 a) (af (af (eL a 199) (af lp true (c6 (Nat.mod a 100) 2)) false) (wr i (.exn (Nat.sub a 100) d) b fun Z''=>x i Z'') false) false) false) x
def L8 (t:D) (a b:DS):DS:=fun c g d e Z f h x=>t c d e [] Z (fun v Z=>fB v fun z=>af z (a c g d e Z f h x) (b c g d e Z f h x)) x
def Aw (t:aO->St->(Bool->St->Bool)->Bool) (b:aO->St->KN->Bool) (n:Nat):aO->St->KN->Bool :=
 @Nat.rec (fun _=>aO->St->KN->Bool) (fun _ _ _=>false) (fun _ d a Z c=>t a Z fun z Z=>af z (b a Z fun a Z=>d a Z c) (c a Z)) n
def L9 (t:D) (b:DS):DS:=fun c f e a Z d g x=>Aw (fun a Z k=>t c e a [] Z (fun v Z=>fB v fun z=>k z Z) x) (fun a Z d=>b c f e a Z d g x) 60 a Z d
def forTurn (ih:Nat->aO->St->KN->Bool) (t:Tg) (cs:List (Nat×Nat)) (b:aO->St->KN->Bool) (i:Nat) (vs:aO) (Z:St) (kn:KN) (it:Option V):Bool :=
 @Option.rec V (fun _=>Bool) (kn vs Z) (fun v=>NG cs t v vs Z fun vs Z=>b vs Z fun vs Z=>ih (Nat.succ i) vs Z kn) it
def sQ (src:Src) (t:Tg) (cs:List (Nat×Nat)) (b:aO->St->KN->Bool) (n:Nat):Nat->aO->St->KN->Bool :=
 @Nat.rec (fun _=>Nat->aO->St->KN->Bool) (fun _ _ _ _=>false) (fun _ c i d Z a=>cM (src.at i Z) (forTurn c t cs b i d Z a)) n
def Ma (t:Tg) (it:D) (b:DS):DS:=fun c g e d Z f h x=>it c e d [] Z (fun v Z=>ul v Z fun a=>sQ a t e (fun d Z f=>b c g e d Z f h x) (Nat.succ (a.size Z)) 0 d Z f) x
def Hx (t:Tg) (q:Bi) (as:D) (b:DS):DS:=fun c g e d Z f h x=>as c e d [] Z (fun v Z=>bL v fun l=>At q l Z fun a Z=>sQ a t e (fun d Z f=>b c g e d Z f h x) (Nat.succ (a.size Z)) 0 d Z f) x
def yK (i0:Nat) (x:KX):KX:=fun i Z=>ng (Z.get i0) fun c _=>af (l9 (Nat.mod c 100) 2) (x i Z) false
def Mb (r:Bool) (e:D) (cc n:Nat) (h:DS):DS:=fun c d b a Z g f x=>e c b a [] Z (fun v Z=>af r (f v Z) (g a Z)) (fun i Z=>ng (Z.get i) fun j _=>af (c6 j cc) (h d d b ((n,.obj i)::a) Z aJ f (yK i x)) false)
noncomputable def Ax:DS:=fun _ _ _ b Z a _ _=>a b Z
noncomputable def kQ (h t:DS):DS:=fun c d b a Z f e x=>h c d b a Z (fun a Z=>t c d b a Z f e x) e x
noncomputable def Mc:DS:=fun _ _ _ _ _ _ _ _=>false
def eN (s:Sx):DS:=@Sx.rec (fun _=>DS)
 (fun t e _=>L4 t (dR e)) (fun c _ _ e _=>Hu c (dR e)) (fun o a _ e _=>Hv (dR o) a (dR e)) (fun o i _ e _=>Hw (dR o) (dR i) (dR e))
 (fun e _=>L5 (dR e)) (fun e _=>L6 (dR e)) (fun f e _=>L7 f (dR e)) (fun t _ _ _ a b=>L8 (dR t) a b) (fun t _ _ b=>L9 (dR t) b)
 (fun t j _ _ b=>Ma t (dR j) b) (fun t q d _ _ _ _ b=>Hx t q (dR d) b) (fun r e _ g _ _ n _ _ _ h=>Mb r (dR e) g n h)
 Ax (fun _ _ h t=>kQ h t) (fun _=>Mc) s
def Dh (e:X):Bool:=@X.rec (fun _=>Bool) (fun _ _ _ _=>true) (fun _ _=>true) (fun _ _=>true) (fun _ _=>true) (fun _ _ _=>true)
 (fun _ _ _ a=>a) (fun _ _ a=>a) (fun _ _ a=>a) (fun _ _ _ _ a b=>af a b false) (fun _ _ _ _ a b=>af a b false) (fun _ _ _ a=>a) (fun _ _ _ a b=>af a b false) (fun _ a=>a)
 (fun _ _ a=>a) (fun _ _ a=>a) (fun _ _ _ _ a b c=>af a (af b c false) false) (fun _ _ _ a=>a) (fun _ _ _ a b=>af a b false) (fun _ _ _ _ _ _ a b c d=>af a (af b (af c d false) false) false)
 (fun _ _ _ a b=>af a b false) (fun _ _ _ _ a=>a) (fun _ _ _ _ _ _ _=>false) (fun _ _ _ _ _ a b=>af a b false) (fun _ _ _ _ a=>a) (fun _ _ _ _ _ _ _ a=>a)
 (fun _ _ _ _ _ _ _ _ _=>false) (fun _ _ _ _ _ _ _ _ _ _ _ _=>false) true true (fun _ _ a b=>af a b false) true (fun _ _ a b=>af a b false) ac e
def NH (s:Sx):Bool:=@Sx.rec (fun _=>Bool) (fun _ e _=>Dh e) (fun _ _ _ _ _=>false) (fun o _ _ e _=>af (Dh o) (Dh e) false) (fun o i _ e _=>af (Dh o) (af (Dh i) (Dh e) false) false)
 (fun e _=>Dh e) (fun e _=>Dh e) (fun c e _=>af c false (Dh e)) (fun t _ _ _ a b=>af (Dh t) (af a b false) false) (fun _ _ _ _=>false) (fun _ _ _ _ _=>false) (fun _ _ _ _ _ _ _ _=>false) (fun _ _ _ _ _ _ _ _ _ _ _=>false)
 true (fun _ _ a b=>af a b false) ac s
def lpF (i:Nat):Bool:=@Option.rec Fn (fun _=>Bool) false (fun a=>NH a.bd) (nQ i)
def pA (ps:List Nat):List V->List V->aO->Option aO:=@List.rec Nat (fun _=>List V->List V->aO->Option aO)
 (fun b _ m=>@List.rec V (fun _=>Option aO) (some m) (fun _ _ _=>none) b)
 (fun p _ c b e m=>@List.rec V (fun _=>Option aO) (@List.rec V (fun _=>Option aO) none (fun d r _=>c [] r ((p,d)::m)) e) (fun a q _=>c q e ((p,a)::m)) b) ps
def nw (ps:List Nat) (as ds:List V):Option aO:=pA ps as (ds.drop (Nat.sub (len ds) (Nat.sub (len ps) (len as)))) []
def j8 (cl:List Nat):aO->St->(List (Nat×Nat)->St->Bool)->Bool:=@List.rec Nat (fun _=>aO->St->(List (Nat×Nat)->St->Bool)->Bool)
 (fun _ Z k=>k [] Z) (fun y _ c a Z k=>c a (Z.new (@Option.rec V (fun _=>O) .unb (fun v=>.cel v) (az y a))) fun b d=>k ((y,Z.nx)::b) d) cl
def Hy (cl:List Nat) (vs:aO):aO:=@List.rec (Nat×V) (fun _=>aO) [] (fun p _ a=>af (q6 p.1 cl) a (p::a)) vs
def Hz (call ch:Call) (fn:Fn) (vs:aO) (Z:St) (k:K1) (x:KX):Bool :=
 @List.rec Nat (fun _=>Bool) (eN fn.bd call ch [] vs Z (fun _ Z=>k .none Z) k x) (fun _ _ _=>j8 fn.cl vs Z fun a Z=>eN fn.bd call ch a (Hy fn.cl vs) Z (fun _ Z=>k .none Z) k x) fn.cl
def mO (call ch:Call) (i:Nat) (l:List V) (Z:St) (k:K1) (x:KX):Bool:=cM (nQ i) fun a=>cM (nw a.ps l a.ds) fun b=>Hz call ch a b Z k x
def Md (call ch:Call) (o:Nat->O) (i:Nat) (l:List V) (Z:St) (k:K1) (x:KX):Bool :=
 mO call ch i (.obj (Nat.succ Z.nx)::l) ((Z.new (.dic [])).new (o Z.nx)) (fun v a=>fO v (k (.obj (Nat.succ Z.nx)) a)) x
def Me (call ch:Call) (c i:Nat) (l:List V) (Z:St) (k:K1) (x:KX):Bool :=
 af (ua l) (mO call ch i (.obj Z.nx::l) (Z.new (.exn (jf c 300) Z.nx)) (fun v a=>fO v (k (.obj Z.nx) a)) x) false
def HA (call ch:Call) (c:Nat) (l:List V) (Z:St) (k:K1) (x:KX):Bool:=cM (az aH (kt c)) fun i=>af (jG c) (Me call ch c i l Z k x) (Md call ch (fun d=>.ins c d) i l Z k x)
def quiet (f:V):Bool:=match f with
 | .fn i=>lpF i
 | .cls c=>eL c 2
 | _=>false
open PySem PySem.W PyProof.Rows PySem.Calls
section
def SR (s:Str) (c:Nat):Prop:=(∀x∈s.cps.toList,x<0x110000)/\hV s.cps.toList=c
theorem fW {a b:String} (h:(a==b)=false):bo.type a≠bo.type b:=fun e=>by cases e;simp at h
def Fast (o:Obj):Prop:=(o.cls=.type "tuple"/\∃vs n,o.data=.seq vs n)\/(o.cls=.type "function"/\∃f,o.data=.func f)
def Later (h h':Heap):Prop:=∀b o,h.get? b=some o->Fast o->h'.get? b=some o
structure Gd where
 prog:KE
 w:World
 B:Addr->Option Obj
 fa:Nat->Addr
 ca:Nat->Addr
 clo:Obj->Nat->Addr->Addr->Prop
 cloF:∀o k c d,clo o k c d->o.cls=.type "function"/\∃f,o.data=.func f
 nam:Nat->Nat
 hnam:∀k,nam k∈nm6
abbrev Gd.m (g:Gd):Model:=model g.prog g.w
def AbR (g:Gd) (w k:Nat) (v:bo):Prop:=match w with
 | 0=>∃s t,v=.str s t/\SR s (g.nam k)
 | 1=>∃(i:Nat) (t:Tok),v=.int i t/\nm6[i]?=some (g.nam k)
 | 2=>∃s t,v=.str s t/\s.length<=k/\∀x∈s.cps.toList,x<55296
 | 3=>∃(i:Nat) (t:Tok),v=.int i t/\Lb[i]?=some (g.nam k)
 | 4=>∃(i:Int) (t:Tok),v=.int i t/\0<i
 | _=>False
theorem AbR.cs {g:Gd} {w k:Nat} {v:bo} {G:Prop} (r:AbR g w k v) (K:∀s t,v=.str s t->G) (L:∀i t,v=.int i t->G):G:=by
 induction w using jq with
 | zero=>exact eM r fun s t e=>K s t e.1
 | succ w=>induction w using jq with
  | zero=>exact eM r fun s t e=>L s t e.1
  | succ w=>induction w using jq with
   | zero=>exact eM r fun s t e=>K s t e.1
   | succ w=>induction w using jq with
    | zero=>exact eM r fun s t e=>L s t e.1
    | succ w=>induction w using jq with
     | zero=>exact eM r fun s t e=>L s t e.1
     | succ w=>exact r.elim
mutual
def VR (g:Gd) (h:Heap) (U:Nat->Addr) (n:Nat):V->bo->Prop
 | .none,v=>v=.none
 | .bool b,v=>v=.bool b
 | .int i,v=>∃t,v=.int i t
 | .str c,v=>∃s t,v=.str s t/\SR s c
 | .byt _,v=>∃b t,v=.bytes b t
 | .tup l,v=>∃a vs,v=.ref a/\h.TupAt a vs/\VRs g h U n l vs
 | .obj k,v=>v=.ref (U k)/\k<n
 | .fn i,v=>v=.ref (g.fa i)
 | .cls c,v=>v=.ref (g.ca c)
 | .clo k i,v=>(∃a o,v=.ref a/\h.get? a=some o/\g.clo o k (U i) (U (1032+k)))/\i<n/\1032+k<n
 | .sym _,v=>handedIn v=true
 | .ab w k,v=>AbR g w k v
def VRs (g:Gd) (h:Heap) (U:Nat->Addr) (n:Nat):List V->List bo->Prop
 | [],vs=>vs=[]
 | x::r,vs=>∃v q,vs=v::q/\VR g h U n x v/\VRs g h U n r q
end
section
variable {g:Gd} {h h':Heap} {U U':Nat->Addr} {n n':Nat}
theorem Later.refl:Later h h:=fun a a e a=>e
theorem Later.of_keeps (k:∀b o,h.get? b=some o->h'.get? b=some o):Later h h':=fun b o e a=>k b o e
theorem f8 (L:Later h h') {a:Addr} {vs:List bo} (x:h.TupAt a vs):h'.TupAt a vs :=
 aA x fun o k d b c=>⟨o,k,L _ _ d (.inl ⟨b,_,_,c⟩),b,c⟩
mutual
theorem VR.mono (L:Later h h') (hρ:∀i,i<n->U' i=U i) (hn:n<=n'):∀{x:V} {v:bo},VR g h U n x v->VR g h' U' n' x v
 | .none,_,e=>e
 | .bool _,_,e=>e
 | .int _,_,e=>e
 | .str _,_,e=>e
 | .byt _,_,e=>e
 | .tup l,v,⟨a,vs,e,t,r⟩=>⟨a,vs,e,f8 L t,VRs.mono L hρ hn r⟩
 | .obj k,v,⟨e,hk⟩=>⟨aa (hρ k hk) e,f3 hk hn⟩
 | .fn _,_,e=>e
 | .cls _,_,e=>e
 | .clo k i,v,⟨⟨a,o,e,ho,c⟩,hk,hc⟩=>⟨⟨a,o,e,L _ _ ho (.inr (g.cloF _ _ _ _ c)),aa (hρ i hk) (aa (hρ _ hc) c)⟩,f3 hk hn,f3 hc hn⟩
 | .sym _,_,e=>e
 | .ab _ _,_,e=>e
theorem VRs.mono (L:Later h h') (hρ:∀i,i<n->U' i=U i) (hn:n<=n'):∀{x:List V} {v:List bo},VRs g h U n x v->VRs g h' U' n' x v
 | [],_,e=>e
 | x::r,vs,⟨v,q,e,a,b⟩=>⟨v,q,e,VR.mono L hρ hn a,VRs.mono L hρ hn b⟩
end
@[elab_as_elim] theorem VRs.ind {M:List V->List bo->Prop} {l:List V} {us:List bo} (r:VRs g h U n l us) (h0:M [] []) (h1:∀{a l v q},VR g h U n a v->VRs g h U n l q->M l q->M (a::l) (v::q)):M l us:=by
 induction l generalizing us with
 | nil=>cases r;exact h0
 | cons a l b=>refine aA r ?_;rintro v q rfl x y;exact h1 x y (b y)
theorem VRs.length {l:List V} {vs:List bo} (r:VRs g h U n l vs):vs.length=l.length:=r.ind rfl fun _ _ a=>congrArg Nat.succ a
theorem VRs.append {l r:List V} {vs us:List bo} (x:VRs g h U n l vs) (y:VRs g h U n r us):VRs g h U n (l++r) (vs++us):=VRs.ind (M:=fun l vs=>VRs g h U n (l++r) (vs++us)) x y fun a _ b=>⟨_,_,rfl,a,b⟩
end
def ERs (g:Gd) (h:Heap) (U:Nat->Addr) (n:Nat):List (Nat×V)->List (Str×bo)->Prop
 | [],kvs=>kvs=[]
 | p::r,kvs=>∃s v q,kvs=(s,v)::q/\SR s p.1/\VR g h U n p.2 v/\ERs g h U n r q
@[elab_as_elim] theorem ERs.ind {g:Gd} {h:Heap} {U:Nat->Addr} {n:Nat} {M:List (Nat×V)->List (Str×bo)->Prop} {l:List (Nat×V)} {q:List (Str×bo)} (r:ERs g h U n l q) (h0:M [] []) (h1:∀{p l s v q},SR s p.1->VR g h U n p.2 v->ERs g h U n l q->M l q->M (p::l) ((s,v)::q)):M l q:=by
 induction l generalizing q with
 | nil=>cases r;exact h0
 | cons p l a=>refine lf r ?_;rintro s v q rfl x y z;exact h1 x y z (a z)
theorem ERs.mono {g:Gd} {h h':Heap} {U U':Nat->Addr} {n n':Nat} (L:Later h h') (hρ:∀i,i<n->U' i=U i) (hn:n<=n') {l:List (Nat×V)} {q:List (Str×bo)} (r:ERs g h U n l q):ERs g h' U' n' l q:=r.ind rfl fun a b _ c=>⟨_,_,_,rfl,a,VR.mono L hρ hn b,c⟩
def F3 (g:Gd) (h:Heap) (a dx:Addr) (c:Nat):Prop :=
 ∃oe vs,h.get? a=some oe/\oe.cls=.ref (g.ca (c%100))/\oe.data=.fields vs/\1<vs.size/\oe.dict=(if c<200 then some dx else none)/\(100<=c->vs[1]?=some .none)/\2<vs.size/\(c%100≠2->vs[2]?=some .none)
def gB (x y:Int):Prop:=0<=x/\0<=y/\y<2147483647
noncomputable def fQ (x y:Int) (t:Nat):Int:=if 0<x then x%t else(y*44485+709)%2147483647 / 13%t
noncomputable def lK (x y:Int) (t:Nat):Int:=if 0<x then x / t else x
noncomputable def lL (x y:Int) (t:Nat):Int:=if 0<x then y else(y*44485+709)%2147483647
def q7 (g:Gd):List (Nat×V)->Int->Int->Prop
 | [],_,_=>True
 | p::r,x,y=>0<p.1/\p.1<100/\(∀(h:Heap) (U:Nat->Addr) (n:Nat) (t:Tok),VR g h U n p.2 (.int (fQ x y p.1) t))/\q7 g r (lK x y p.1) (lL x y p.1)
def HB (g:Gd) (h:Heap) (a:Addr) (l:List (Nat×V)):Prop:=∃x y t u,h.PlainList a #[.int x t,.int y u]/\gB x y/\q7 g l x y
noncomputable def yL:Str:=dX "_law_image.<locals>.<lambda>"
def TabAt (h:Heap) (a:Addr):Nat->Prop
 | 0=>a=744/\h.get? a=some (tabObj #[])
 | 1=>a=744/\∃c,h.get? a=some (tabObj #[rawInt 623,rawInt 21,.ref c])
 | 2=>∃oc vs t,h.get? a=some oc/\oc.data=.fields vs/\vs[1]?=some (.str yL t)
 | 3=>∃vs,h.PlainList a vs/\∀v∈vs.toList,∃i t,v=.int i t
 | _=>a=744/\∃ps,h.get? a=some (tabObj ps)
def OR (g:Gd) (h:Heap) (U:Nat->Addr) (n:Nat) (a:Addr):O->Prop
 | .lst l=>∃vs,h.PlainList a vs/\VRs g h U n l vs.toList
 | .dic l=>∃kvs,h.DictOf (strKind g.prog g.w) a kvs/\ERs g h U n l kvs
 | .ins c d=>h.get? a=some (instObj (g.ca c) (U d))/\d<n
 | .exn c d=>F3 g h a (U d) c/\d<n/\c%100<=2
 | .cel v=>∃x,h.IsCell a (some x)/\VR g h U n v x
 | .unb=>h.IsCell a none
 | .sck l=>HB g h a l
 | .pd l=>∃kvs l',h.DictOf (strKind g.prog g.w) a kvs/\ERs g h U n l' kvs/\∀c v,az c l=some v->az c l'=some v
 | .cho c=>∃l vs,l∈Qq c/\h.PlainList a vs/\VRs g h U n l vs.toList
 | .tab n=>TabAt h a n
structure R (g:Gd) (Z:St) (U:Nat->Addr) (h:Heap):Prop where
 base:∀b o,g.B b=some o->h.get? b=some o
 fresh:∀i,i<Z.nx->g.B (U i)=none
 inj:∀i j,i<Z.nx->j<Z.nx->U i=U j->i=j
 ex:∀i,i<Z.nx->∃o,h.get? (U i)=some o
 ob:∀i o,Z.get i=some o->i<Z.nx/\OR g h U Z.nx (U i) o
def HC (Z:St) (U:Nat->Addr) (b:Addr):Prop:=∃i o,Z.get i=some o/\U i=b/\(Z.mut i=true\/∃c d,o=.exn c d)
def Kp (D F X:Addr->Prop) (h h':Heap):Prop :=
 ∀b o,h.get? b=some o->¬D b->¬X b->h'.get? b=some o\/(F b/\∃sl,h'.get? b=some {o with slots:=sl})
def NF (h:Heap) (b:Addr):Prop:=∃ob,h.get? b=some ob/\¬Fast ob
theorem NF.of_ns {h:Heap} {b:Addr} {m:Str->Option bo} (N:h.Ns b m):NF h b:=by
 refine lc N fun a i j e c g=>?_
 refine⟨a,e,fun f=>?_⟩
 rcases f with ⟨_,_,_,d⟩|⟨_,_,d⟩<;>(replace d:=c▸d)<;>cases d
structure Sp (g:Gd) (F X:Addr->Prop) (Z:St) (U:Nat->Addr) (h:Heap) (Z':St) (U':Nat->Addr) (h':Heap):Prop where
 nx:Z.nx<=Z'.nx
 ag:∀i,i<Z.nx->U' i=U i
 kp:Kp (HC Z U) F X h h'
 new:∀i,Z.nx<=i->i<Z'.nx->h.get? (U' i)=none
 old:∀i o,i<Z.nx->Z'.get i=some o->∃o',Z.get i=some o'
 ex:∀b o,h.get? b=some o->∃o',h'.get? b=some o'
 pv:∀b,X b->NF h b->NF h' b
 fx:Z'.mu=Z.mu/\Z'.mu=Z.mu
 im:∀i,Z.mut i=false->i<Z.nx->Z'.get i=Z.get i
theorem Ay {Z Z':St} (h:Z'.mu=Z.mu) (i:Nat):Z'.mut i=Z.mut i:=by
 show Hc Z'.mu i=Hc Z.mu i;exact aa h rfl
section
variable {g:Gd} {F X:Addr->Prop} {h h' h'':Heap} {U U' U'':Nat->Addr} {Z Z' Z'':St}
theorem Sp.refl:Sp g F X Z U h Z U h:=⟨e5 _,fun c c=>rfl,fun c c e c c=>.inl e,fun c a b=>absurd b (ji a),fun c o c e=>⟨o,e⟩,fun c o e=>⟨o,e⟩,fun c c x=>x,⟨rfl,rfl⟩,fun c c c=>rfl⟩
theorem Sp.trans (W:R g Z U h) (W':R g Z' U' h') (x:Sp g F X Z U h Z' U' h') (y:Sp g F X Z' U' h' Z'' U'' h''):Sp g F X Z U h Z'' U'' h'':=by
 have j:∀b,h'.get? b=none->h.get? b=none:=fun b z=>by
  induction G:h.get? b using cN with
  | none=>rfl
  | some H=>refine aG (x.ex _ _ G) fun n f=>?_;replace f:=z▸f;exact bj f
 refine⟨hD x.nx y.nx,fun i d=>(y.ag i (f3 d x.nx)).trans (x.ag i d),fun b o e r w=>?_,fun i a c=>?_,fun i o d e=>?_,fun b o e=>?_,fun b B m=>y.pv b B (x.pv b B m),⟨y.fx.1.trans x.fx.1,y.fx.2.trans x.fx.2⟩,fun i k d=>(y.im i ((Ay x.fx.2 i).trans k) (f3 d x.nx)).trans (x.im i k d)⟩
 ·have l:¬HC Z' U' b:=by
   rintro⟨i,p,u,rfl,k⟩
   by_cases d:i<Z.nx
   ·refine aG (x.old i p d u) fun v A=>?_
    induction q:Z.mut i using dI with
    | true=>exact r ⟨i,v,A,(x.ag i d).symm,.inl q⟩
    | false =>
     refine r ⟨i,p,(x.im i q d).symm.trans u,(x.ag i d).symm,.inr ?_⟩
     rcases k with k|k
     ·replace k:=q▸Ay x.fx.2 i▸k;exact aS k
     ·exact k
   ·have:=x.new i (ot d) (W'.ob i p u).1
    replace this:=e▸this;exact t9 this
  rcases x.kp b o e r w with f|⟨C,E,f⟩
  ·exact y.kp b o f l w
  ·rcases y.kp b _ f l w with t|⟨_,s,t⟩
   ·exact .inr ⟨C,E,t⟩
   ·exact .inr ⟨C,s,t⟩
 ·by_cases d:i<Z'.nx
  ·exact aa (y.ag i d) (x.new i a d)
  ·exact j _ (y.new i (ot d) c)
 ·refine aG (y.old i o (f3 d x.nx) e) fun n f=>?_
  exact x.old i n d f
 ·refine aG (x.ex b o e) fun n f=>?_
  exact y.ex b n f
def Pv (g:Gd) (F X:Addr->Prop) (Z:St) (U:Nat->Addr) (h:Heap):Prop:=∀b,F b\/X b->NF h b/\g.B b=none/\∀i,i<Z.nx->U i≠b
theorem Az {h:Heap} {b:Addr} {o:Obj} {c:bo} (e:h.get? b=some o) (hc:o.cls=c) (h1:c≠.type "tuple") (h2:c≠.type "function"):NF h b:=⟨o,e,fun f=>f.elim (fun z=>h1 (hc.symm.trans z.1)) fun z=>h2 (hc.symm.trans z.1)⟩
theorem HD {h:Heap} {b:Addr} {o:Obj} {d:Data} (e:h.get? b=some o) (hd:o.data=d) (h1:∀vs n,d≠.seq vs n) (h2:∀f,d≠.func f):NF h b:=⟨o,e,fun f=>f.elim (fun z=>eM z.2 fun vs n z=>h1 vs n (hd.symm.trans z)) fun z=>aG z.2 fun f z=>h2 f (hd.symm.trans z)⟩
theorem bR {h:Heap} {b:Addr} {ob:Obj} {vs:Array bo} (e:h.get? b=some ob) (hd:ob.data=.fields vs):NF h b:=HD e hd (fun _ _ z=>nomatch z) fun _ z=>nomatch z
theorem xu {h:Heap} {b:Addr} {ob:Obj} {es:Array FB} {ep:Nat} (e:h.get? b=some ob) (hd:ob.data=.dict es ep):NF h b:=HD e hd (fun _ _ z=>nomatch z) fun _ z=>nomatch z
theorem xv {h:Heap} {b:Addr} {x:Option bo} (z:h.IsCell b x):NF h b:=ai z fun o e d=>HD e d (fun _ _ z=>nomatch z) fun _ z=>nomatch z
theorem lM {h:Heap} {b:Addr} {vs:Array bo} (z:h.PlainList b vs):NF h b:=aG z fun k e=>Az e rfl (fun z=>fW (by decide) z) fun z=>fW (by decide) z
theorem OR.nf {n:Nat} {a:Addr} {o:O} (x:OR g h U n a o):NF h a:=by
 cases o with
 | lst l=>exact aG x fun b z=>lM z.1
 | dic l=>exact aG x fun i z=>lc z.1 fun o f k e _ d=>xu e d.1
 | ins c d=>exact Az x.1 rfl (fun z=>nomatch z) fun z=>nomatch z
 | exn c v=>exact aA x.1 fun m b e _ z=>bR e z.1
 | cel v=>exact aG x fun _ z=>xv z.1
 | unb=>exact xv x
 | sck l=>refine GV x fun _ _ _ _ z _=>?_;exact lM z
 | pd l=>exact eM x fun _ _ z=>lc z.1 fun o f k e _ d=>xu e d.1
 | cho l=>exact bx x fun _ _ _ z=>lM z.1
 | tab n =>
  induction n using jq with
  | zero=>exact Az x.2 rfl (fun z=>(by first | exact fW (by decide) z | cases z)) fun z=>(by first | exact fW (by decide) z | cases z)
  | succ n=>induction n using jq with
   | zero=>exact aG x.2 fun j e=>Az e rfl (fun z=>(by first | exact fW (by decide) z | cases z)) fun z=>(by first | exact fW (by decide) z | cases z)
   | succ n=>induction n using jq with
    | zero=>exact hU x fun p b t e z=>bR e z.1
    | succ n=>induction n using jq with
     | zero=>exact aG x fun b z=>lM z.1
     | succ n=>exact aG x.2 fun j e=>Az e rfl (fun z=>(by first | exact fW (by decide) z | cases z)) fun z=>(by first | exact fW (by decide) z | cases z)
theorem OR.notFast {n:Nat} {a:Addr} {o:O} (x:OR g h U n a o) (ob:Obj) (e:h.get? a=some ob):¬Fast ob:=x.nf.elim fun _ z f=>z.2 (ma (e.symm.trans z.1)▸f)
theorem Sp.pvs (W:R g Z U h) (P:Pv g F X Z U h) (x:Sp g F X Z U h Z' U' h'):Pv g F X Z' U' h':=fun b q=>by
 refine cE (P b q) fun a m j=>?_;refine ai a fun ob e d=>?_
 refine⟨?_,m,fun i o z=>?_⟩
 ·by_cases hX:X b
  ·exact x.pv b hX ⟨ob,e,d⟩
  ·rcases x.kp b ob e (fun n=>aA n fun i k l z _=>j i (W.ob i k l).1 z) hX with c|⟨_,p,c⟩
   ·exact⟨ob,c,d⟩
   ·exact⟨_,c,fun f=>d f⟩
 ·by_cases hi':i<Z.nx
  ·replace z:=x.ag i hi'▸z;exact j i hi' z
  ·have:=x.new i (ot hi') o
   replace this:=e▸z▸this;exact t9 this
end
structure Go (g:Gd) (F X:Addr->Prop) (Z:St) (U:Nat->Addr) (s:ce) (Z':St) (U':Nat->Addr) (s':ce):Prop where
 same:s'={s with heap:=s'.heap,toks:=s'.toks}
 sp:Sp g F X Z U s.heap Z' U' s'.heap
 r:R g Z' U' s'.heap
 p:Pv g F X Z' U' s'.heap
 l:Later s.heap s'.heap
section
variable {g:Gd} {F X:Addr->Prop} {s s' s'':ce} {U U' U'':Nat->Addr} {Z Z' Z'':St}
theorem Go.refl (W:R g Z U s.heap) (P:Pv g F X Z U s.heap):Go g F X Z U s Z U s:=⟨rfl,Sp.refl,W,P,Later.refl⟩
theorem Go.trans (W:R g Z U s.heap) (x:Go g F X Z U s Z' U' s') (y:Go g F X Z' U' s' Z'' U'' s''):Go g F X Z U s Z'' U'' s'' :=
 ⟨aa y.same (aa x.same rfl),x.sp.trans W x.r y.sp,y.r,y.p,fun b o e f=>y.l b o (x.l b o e f) f⟩
theorem Go.vr (x:Go g F X Z U s Z' U' s') {a:V} {v:bo} (r:VR g s.heap U Z.nx a v):VR g s'.heap U' Z'.nx a v:=r.mono x.l x.sp.ag x.sp.nx
theorem Go.vrs (x:Go g F X Z U s Z' U' s') {a:List V} {v:List bo} (r:VRs g s.heap U Z.nx a v):VRs g s'.heap U' Z'.nx a v:=r.mono x.l x.sp.ag x.sp.nx
theorem Go.tok (W:R g Z U s.heap) (P:Pv g F X Z U s.heap) (t:Nat):Go g F X Z U s Z U {s with toks:=t}:=⟨rfl,Sp.refl,W,P,Later.refl⟩
end
inductive Po (g:Gd) (F X:Addr->Prop) (Z:St) (U:Nat->Addr) (s:ce) (k:K1) (v:bo) (s':ce):Prop
 | mk (Z':St) (U':Nat->Addr) (a:V) (G:Go g F X Z U s Z' U' s') (r:VR g s'.heap U' Z'.nx a v) (h:k a Z'=true)
section
variable {g:Gd} {F X:Addr->Prop} {s s' s'':ce} {U U' U'':Nat->Addr} {Z Z' Z'':St}
theorem Po.from(W:R g Z U s.heap) (y:Go g F X Z U s Z' U' s') {k:K1} {v:bo} (p:Po g F X Z' U' s' k v s''):Po g F X Z U s k v s'':=by
 obtain⟨d,e,i,a,b,c⟩:=p
 exact⟨d,e,i,y.trans W a,b,c⟩
end
end
theorem bG {a b:Nat} (h:a≠b):c6 a b=false:=by
 induction q:c6 a b using dI with
 | false=>rfl
 | true=>exact absurd (bz q) h
theorem ax {α:Type} (k j:Nat) (a:α) (l:List (Nat×α)):az k ((j,a)::l)=if j=k then some a else az k l:=by
 show af (c6 j k) (some a) (az k l)=_
 by_cases h:j=k
 ·subst h;exact aa (if_pos rfl) (aa (xd _) rfl)
 ·exact aa (if_neg h) (aa (bG h) rfl)
theorem PF {α:Type} {k j:Nat} {a o:α} {r:List (Nat×α)} {G:Prop} (e:az j ((k,a)::r)=some o) (K:k=j->a=o->G) (L:k≠j->az j r=some o->G):G:=by
 rw[ax] at e
 by_cases h:k=j
 ·replace e:=if_pos h▸e;exact K h (ma e)
 ·replace e:=if_neg h▸e;exact L h e
theorem AA {c:Nat} (h:100<=c):(c - 100)%100=c%100:=(Nat.mod_eq_sub_mod h).symm
theorem AB {c:Nat} (h:200<=c):(c - 200)%100=c%100:=(AA (c:=c - 100) (Nat.le_sub_of_add_le h)).trans (AA (hD (by decide) h))
theorem F4 {c:Nat} (h:c<100):(c+300)%100=c:=(Nat.add_mul_mod_self_right c 3 100).trans (Nat.mod_eq_of_lt h)
theorem HE {n m:Nat} (h:m<3):(3*n+m) / 3=n:=by exact aa (Nat.mul_add_div (by decide) _ _) (aa (Nat.div_eq_of_lt h) (aa (Nat.add_zero _) rfl))
theorem HF {n m:Nat} (h:m<3):(3*n+m)%3=m:=by rewrite[Nat.mul_add_mod];exact aa (Nat.mod_eq_of_lt h) rfl
theorem Mf {N ρ D:Nat} (h1:ρ<=N) (h3:D<=N):D - (N - ρ)=ρ - (N - D):=by exact aa (Nat.sub_sub_right _ h1) (aa (Nat.sub_sub_right _ h3) (aa (Nat.add_comm _ _) rfl))
theorem Mg {N ρ D:Nat} (h2:N<=ρ+D):N - D<=ρ:=Nat.sub_le_of_le_add h2
theorem Mh {N ρ D:Nat} (h2:N<=ρ+D):N - D+(ρ - (N - D))=ρ:=Nat.add_sub_of_le (Mg h2)
theorem Mi {N ρ D:Nat} (h1:ρ<=N) (h3:D<=N):ρ - (N - D)<=D:=by exact bw (Mf h1 h3) (Nat.sub_le _ _)
def KS (z x:Option O):Option O:=@Option.rec O (fun a=>Option O) z (fun o=>some o) x
theorem kB {z:Option O} {k j:Nat} {a o:O} {r:List (Nat×O)} {G:Prop} (e:KS z (az j ((k,a)::r))=some o) (K:k=j->a=o->G) (L:k≠j->KS z (az j r)=some o->G):G:=by
 rw[ax] at e
 by_cases h:k=j
 ·replace e:=if_pos h▸e;exact K h (ma e)
 ·replace e:=if_neg h▸e;exact L h e
theorem dL (Z:St) (i j:Nat) (o:O):(Z.set i o).get j=if i=j then some o else Z.get j:=by
 show @Option.rec O (fun a=>Option O) (su Z.tr j) (fun o=>some o) (az j ((i,o)::Z.ob))=_
 rw[ax]
 by_cases h:i=j
 ·exact aa (if_pos h) (aa (if_pos h) rfl)
 ·exact aa (if_neg h) (aa (if_neg h) rfl)
theorem dM (Z:St) (j:Nat) (o:O):(Z.new o).get j=if Z.nx=j then some o else Z.get j:=dL Z Z.nx j o
noncomputable def i6 (U:Nat->Addr) (n:Nat) (a:Addr):Nat->Addr:=fun i=>if i=n then a else U i
theorem upd_at {U:Nat->Addr} {n:Nat} {a:Addr}:i6 U n a n=a:=if_pos rfl
theorem bu {U:Nat->Addr} {n i:Nat} {a:Addr} (h:i<n):i6 U n a i=U i:=if_neg (rd h)
section
variable {g:Gd} {F X:Addr->Prop} {h h':Heap} {s:ce} {U U':Nat->Addr} {Z Z':St} {n n' t:Nat} {a:Addr}
theorem TabAt.mono {h h':Heap} {a:Addr} (ha:∀o,h.get? a=some o->h'.get? a=some o) {n:Nat} (q:TabAt h a n):TabAt h' a n:=by
 induction n using jq with
 | zero=>exact⟨q.1,ha _ q.2⟩
 | succ n=>induction n using jq with
  | zero=>refine am q fun z b=>?_;refine aG b fun c e=>?_;exact⟨z,c,ha _ e⟩
  | succ n=>induction n using jq with
   | zero=>refine hU q fun g d t e r=>?_;exact⟨g,d,t,ha _ e,r⟩
   | succ n=>induction n using jq with
    | zero=>refine ai q fun d e r=>?_;exact⟨d,e.at ha,r⟩
    | succ n=>refine am q fun z b=>?_;refine aG b fun f e=>?_;exact⟨z,f,ha _ e⟩
theorem OR.mono (L:Later h h') (hρ:∀i,i<n->U' i=U i) (hn:n<=n') (ha:∀o,h.get? a=some o->h'.get? a=some o) {o:O} (q:OR g h U n a o):OR g h' U' n' a o:=by
 induction o using eO with
 | lst l=>refine ai q fun j x r=>?_;exact⟨j,x.at ha,r.mono L hρ hn⟩
 | dic l=>refine ai q fun b f r=>?_;refine hU f fun o k p e x=>?_;exact⟨b,⟨o,k,p,ha _ e,x⟩,r.mono L hρ hn⟩
 | ins c d=>exact⟨aa (hρ d q.2) (ha _ q.1),f3 q.2 hn⟩
 | exn c d=>refine bx q.1 fun z j e x=>?_;exact⟨⟨z,j,ha _ e,aa (hρ d q.2.1) x⟩,f3 q.2.1 hn,q.2.2⟩
 | cel v=>refine ai q fun x f r=>?_;refine ai f fun o e d=>?_;exact⟨x,⟨o,ha _ e,d⟩,r.mono L hρ hn⟩
 | unb=>refine ai q fun o e d=>?_;exact⟨o,ha _ e,d⟩
 | sck l=>refine GV q fun x y t u e r=>?_;exact⟨x,y,t,u,e.at ha,r⟩
 | pd l=>refine aA q fun b w s r q=>?_;refine hU s fun o k p e x=>?_;exact⟨b,w,⟨o,k,p,ha _ e,x⟩,r.mono L hρ hn,q⟩
 | cho A=>refine aA q fun l j m x r=>?_;exact⟨l,j,m,x.at ha,r.mono L hρ hn⟩
 | tab n=>exact TabAt.mono ha q
theorem aC (W:R g Z U h) {i:Nat} {o:O} (e:Z.get i=some o):i<Z.nx:=(W.ob i o e).1
theorem aB (W:R g Z U h) {i:Nat} {o:O} (e:Z.get i=some o):OR g h U Z.nx (U i) o:=(W.ob i o e).2
theorem Go.grow (W:R g Z U s.heap) (P:Pv g F X Z U s.heap) (k:∀b o,s.heap.get? b=some o->h'.get? b=some o):Go g F X Z U s Z U {s with heap:=h',toks:=t} where
 same:=rfl
 sp:=⟨e5 _,fun c c=>rfl,fun b o e c c=>.inl (k b o e),fun c a b=>absurd b (ji a),fun c o c e=>⟨o,e⟩,fun b o e=>⟨o,k b o e⟩,fun b _ h=>ai h fun d e f=>⟨d,k b d e,f⟩,⟨rfl,rfl⟩,fun c c c=>rfl⟩
 r:=⟨fun b o e=>k b o (W.base b o e),W.fresh,W.inj,fun i j=>aG (W.ex i j) fun o e=>⟨o,k _ _ e⟩,fun i o e=>⟨aC W e,(aB W e).mono (.of_keeps k) (fun c c=>rfl) (e5 _) (k _)⟩⟩
 p:=fun b q=>⟨ai (P b q).1 fun d e f=>⟨d,k b d e,f⟩,(P b q).2⟩
 l:=.of_keeps k
theorem Go.new (W:R g Z U s.heap) (P:Pv g F X Z U s.heap) (k:∀b o,s.heap.get? b=some o->h'.get? b=some o) (a:Addr) (fa:s.heap.get? a=none) {ob:Obj} (ea:h'.get? a=some ob) {o:O}
  (x:OR g h' (i6 U Z.nx a) (Z.nx+1) a o):Go g F X Z U s (Z.new o) (i6 U Z.nx a) {s with heap:=h',toks:=t}:=by
 have l:∀b o,s.heap.get? b=some o->b≠a:=fun b o e z=>by replace e:=fa▸z▸e;exact bj e
 refine⟨rfl,⟨sr _,fun i c=>bu c,fun b o e p p=>.inl (k b o e),fun i u v=>?_,fun i o c e=>?_,fun b o e=>⟨o,k b o e⟩,fun b _ A=>ai A fun ob e n=>⟨ob,k b ob e,n⟩,⟨rfl,rfl⟩,fun i p c=>by rewrite[dM];refine aa (if_neg (H5 c)) ?_;rfl⟩,
  ⟨fun b o e=>k b o (W.base b o e),fun i c=>?_,fun i j c d e=>?_,fun i c=>?_,fun i C e=>?_⟩,fun b q=>?_,.of_keeps k⟩
 ·obtain rfl:i=Z.nx:=Nat.le_antisymm (Nat.le_of_lt_succ v) u
  exact aa upd_at fa
 ·rewrite[dM] at e;replace e:=(if_neg (H5 c))▸e;exact⟨o,e⟩
 ·rcases ja.mp c with c|rfl
  ·exact aa (bu c) (W.fresh i c)
  ·refine aa upd_at ?_
   induction z:g.B a using cN with
   | none=>rfl
   | some f=>have:=W.base a f z;replace this:=fa▸this;exact bj this
 ·rcases ja.mp c with c|rfl<;>rcases ja.mp d with d|rfl
  ·replace e:=bu d▸bu c▸e;exact W.inj i j c d e
  ·replace e:=upd_at▸bu c▸e
   refine aG (W.ex i c) fun f h=>?_;exact absurd e (l _ _ h)
  ·replace e:=upd_at▸bu d▸e
   refine aG (W.ex j d) fun f h=>?_;exact absurd e.symm (l _ _ h)
  ·rfl
 ·rcases ja.mp c with c|rfl
  ·refine aa (bu c) ?_;refine aG (W.ex i c) fun f h=>?_;exact⟨f,k _ _ h⟩
  ·exact aa upd_at ⟨ob,ea⟩
 ·rw[dM] at e
  by_cases c:Z.nx=i
  ·subst c
   replace e:=if_pos rfl▸e;cases e
   exact aa upd_at ⟨f2 _,x⟩
  ·replace e:=if_neg c▸e
   have r:=aC W e
   refine aa (bu r) ?_
   exact⟨vb r,(aB W e).mono (.of_keeps k) (fun i c=>bu c) (sr _) (k _)⟩
 ·refine cE (P b q) fun m w y=>?_;refine ai m fun ob e n=>?_
  refine⟨⟨ob,k b ob e,n⟩,w,fun i c=>?_⟩
  rcases ja.mp c with c|rfl
  ·exact aa (bu c) (y i c)
  ·exact aa upd_at ((l _ _ e).symm)
theorem Go.set (W:R g Z U s.heap) (P:Pv g F X Z U s.heap) {i:Nat} {o₀ o:O} (hm:Z.mut i=true) (ei:Z.get i=some o₀) (k:∀b o,b≠U i->s.heap.get? b=some o->h'.get? b=some o)
  {ob:Obj} (ea:h'.get? (U i)=some ob) (L:Later s.heap h'->OR g h' U Z.nx (U i) o):Go g F X Z U s (Z.set i o) U {s with heap:=h',toks:=t}:=by
 have n:=aC W ei
 have r:Later s.heap h':=fun b o e f=>by
  by_cases c:b=U i
  ·subst c;exact absurd f ((aB W ei).notFast o e)
  ·exact k b o c e
 refine⟨rfl,⟨e5 _,fun m m=>rfl,fun b o e x m=>.inl (k b o (fun z=>x ⟨i,o₀,ei,z.symm,.inl hm⟩) e),fun m a b=>absurd b (ji a),fun j l m e=>?_,fun b o e=>?_,fun b c B=>ai B fun l e u=>?_,⟨rfl,rfl⟩,fun j d m=>by rewrite[dL];refine aa (if_neg fun z=>by rewrite[<-z] at d;replace d:=(hm)▸d;cases d) ?_;rfl⟩,
  ⟨fun b o e=>k b o (fun z=>?_) (W.base b o e),W.fresh,W.inj,fun j h=>?_,fun j l e=>?_⟩,fun b q=>?_,r⟩
 ·rw[dL] at e
  by_cases h:i=j
  ·subst h;exact⟨o₀,ei⟩
  ·replace e:=if_neg h▸e;exact⟨_,e⟩
 ·by_cases c:b=U i
  ·subst c;exact⟨_,ea⟩
  ·exact⟨o,k b o c e⟩
 ·exact⟨l,k b l (fun z=>(P b (.inr c)).2.2 i n z.symm) e,u⟩
 ·have:=W.fresh i n;rewrite[<-z] at this;replace this:=(e)▸this;exact t9 this
 ·by_cases c:U j=U i
  ·exact aa c ⟨_,ea⟩
  ·refine aG (W.ex j h) fun w C=>?_;exact⟨w,k _ _ c C⟩
 ·rw[dL] at e
  by_cases h:i=j
  ·subst h;replace e:=if_pos rfl▸e;cases e;exact⟨n,L r⟩
  ·replace e:=if_neg h▸e
   have v:=aC W e
   exact⟨v,(aB W e).mono r (fun m m=>rfl) (e5 _) fun o e=>k _ o (fun z=>h (W.inj i j n v z.symm)) e⟩
 ·refine cE (P b q) fun p A y=>?_;refine ai p fun l e u=>?_
  exact⟨⟨l,k b l (fun z=>y i n z.symm) e,u⟩,A,y⟩
theorem Go.loc (W:R g Z U s.heap) (P:Pv g F X Z U s.heap) {L:Addr} (hL:X L) (N':NF h' L) (k:∀b o,b≠L->s.heap.get? b=some o->h'.get? b=some o) :
  Go g F X Z U s Z U {s with heap:=h',toks:=t}:=by
 refine cE (P L (.inr hL)) fun i l r=>?_;refine ai i fun I H m=>?_
 have v:Later s.heap h':=fun b o e f=>by
  by_cases d:b=L
  ·subst d;replace e:=H▸e;cases e;exact absurd f m
  ·exact k b o d e
 refine⟨rfl,⟨e5 _,fun h h=>rfl,fun b o e J G=>.inl (k b o (fun z=>G (z▸hL)) e),fun h a b=>absurd b (ji a),fun j c h e=>⟨_,e⟩,fun b o e=>?_,fun b d B=>ai B fun c e n=>?_,⟨rfl,rfl⟩,fun h h h=>rfl⟩,
  ⟨fun b o e=>k b o (fun z=>?_) (W.base b o e),W.fresh,W.inj,fun j u=>?_,fun j c e=>?_⟩,fun b q=>?_,v⟩
 ·by_cases d:b=L
  ·subst d;refine ai N' fun c x E=>?_;exact⟨c,x⟩
  ·exact⟨o,k b o d e⟩
 ·by_cases hbL:b=L
  ·subst hbL;exact N'
  ·exact⟨c,k b c hbL e,n⟩
 ·replace e:=l▸z▸e;exact bj e
 ·refine aG (W.ex j u) fun w C=>?_;exact⟨w,k _ _ (r j u) C⟩
 ·have p:=aC W e
  exact⟨p,(aB W e).mono v (fun h h=>rfl) (e5 _) fun o e=>k _ o (r j p) e⟩
 ·refine cE (P b q) fun i A y=>?_;refine ai i fun c e n=>?_
  refine⟨?_,A,y⟩
  by_cases d:b=L
  ·subst d;exact N'
  ·exact⟨c,k b c d e,n⟩
theorem Go.wide {F' X':Addr->Prop} {s':ce} {U':Nat->Addr} {Z':St} (G:Go g F X Z U s Z' U' s') (W:R g Z U s.heap) (hF:∀b,F b->F' b) (hX:∀b,X b->X' b) (P:Pv g F' X' Z U s.heap):Go g F' X' Z U s Z' U' s' where
 same:=G.same
 sp:=⟨G.sp.nx,G.sp.ag,fun b o e u y=>(G.sp.kp b o e u fun z=>y (hX b z)).imp id fun a=>⟨hF b a.1,a.2⟩,G.sp.new,G.sp.old,G.sp.ex,fun b v a=>ai a fun c e h=>by
  by_cases z:X b
  ·exact G.sp.pv b z ⟨c,e,h⟩
  ·rcases G.sp.kp b c e (fun a=>bx a fun i n k z=>(P b (.inr v)).2.2 i (aC W k) z.1) z with d|⟨_,t,d⟩
   ·exact⟨c,d,h⟩
   ·exact⟨_,d,fun f=>h f⟩,G.sp.fx,G.sp.im⟩
 r:=G.r
 p:=fun b q=>by
  refine cE (P b q) fun j w m=>?_;refine ai j fun c e h=>?_
  refine⟨?_,w,fun i x z=>?_⟩
  ·by_cases z:X b
   ·exact G.sp.pv b z ⟨c,e,h⟩
   ·rcases G.sp.kp b c e (fun a=>bx a fun i n k z=>m i (aC W k) z.1) z with d|⟨_,t,d⟩
    ·exact⟨c,d,h⟩
    ·exact⟨_,d,fun f=>h f⟩
  ·by_cases hi':i<Z.nx
   ·replace z:=G.sp.ag i hi'▸z;exact m i hi' z
   ·have:=G.sp.new i (ot hi') x
    replace this:=e▸z▸this;exact t9 this
 l:=G.l
theorem Go.drop {F' X':Addr->Prop} {s':ce} {U':Nat->Addr} {Z':St} (G:Go g F' X' Z U s Z' U' s') (hF:∀b,F' b->F b\/s.heap.get? b=none) (hX:∀b,X' b->X b\/s.heap.get? b=none) (sF:∀b,F b->F' b) (sX:∀b,X b->X' b):Go g F X Z U s Z' U' s' where
 same:=G.same
 sp:=⟨G.sp.nx,G.sp.ag,fun b o e c f=>(G.sp.kp b o e c fun z=>(hX b z).elim f fun n=>by replace e:=n▸e;exact bj e).imp id fun a=>⟨(hF b a.1).elim id fun n=>by(replace e:=n▸e;exact bj e),a.2⟩,G.sp.new,G.sp.old,G.sp.ex,fun b d n=>G.sp.pv b (sX b d) n,G.sp.fx,G.sp.im⟩
 r:=G.r
 p:=fun b q=>G.p b (q.imp (sF b) (sX b))
 l:=G.l
end
theorem pB (l:List Nat) (x:Nat):hV (l++[x])=hV l*SB+x:=by simp[hV]
theorem pC {α:Type} {P:List α->Prop} (h0:P []) (h1:∀l x,P l->P (l++[x])) (l:List α):P l:=by
 refine bw (List.reverse_reverse l) ?_
 induction l.reverse with
 | nil=>exact h0
 | cons x r a=>exact aa kf (h1 _ _ a)
theorem AC {e q x B:Nat} (hx:x<B) (a:q<=e) (b:e<2*q):q*B<=e*B+x/\e*B+x<2*(q*B):=by
 have d:=w7 B a
 have c:=w7 B (show e+1<=2*q from b)
 rw[Nat.add_mul,Nat.one_mul,Nat.mul_assoc] at c
 exact N0 hx d c
theorem wo (l:List Nat):(∀x∈l,x<SB)->SB ^ l.length<=hV l/\hV l<2*SB ^ l.length:=by
 induction l using pC with
 | h0=>intro _;exact⟨e5 _,by decide⟩
 | h1 l x c =>
  intro h
  refine am (c fun y d=>h y (List.mem_append_left _ d)) ?_;intro a b
  have e:=h x (List.mem_append_right _ (.head _))
  refine aa (pB _ _) (aa sh (aa I3 (aa (Nat.pow_succ _ _) ?_)))
  exact AC e a b
theorem HG (n:Nat):SB ^ n=2 ^ (21*n):=by refine aa (show SB=2 ^ 21 from by decide) ?_;rw[<-Nat.pow_mul]
theorem pD {l:List Nat} (h:∀x∈l,x<SB):jm (hV l)=l.length:=by
 refine am (wo l h) fun a b=>?_
 rw[HG] at a b
 have e:Nat.log2 (hV l)=21*l.length:=by
  have c:hV l≠0:=fun z=>by replace a:=z▸a;exact absurd a (Nat.not_le_of_lt (Nat.two_pow_pos _))
  have f:21*l.length<=Nat.log2 (hV l):=(Nat.le_log2 c).mpr a
  have d:Nat.log2 (hV l)<21*l.length+1:=(Nat.log2_lt c).mpr (aa (Nat.pow_succ _ _) (aa (Nat.mul_comm _ _) b))
  lia
 show Nat.div (Nat.log2 (hV l)) 21=_
 refine aa e ?_
 exact Nat.mul_div_cancel_left _ (by decide)
theorem yM:∀(l acc:List Nat),(∀x∈l,x<SB)->xn l.length (hV l) acc=l++acc:=by
 intro l
 induction l using pC with
 | h0=>intro acc _;rfl
 | h1 l x b =>
  intro acc h
  have a:=h x (List.mem_append_right _ (.head _))
  refine aa sh (aa I3 ?_);show xn l.length (hV (l++[x]) / SB) (hV (l++[x])%SB::acc)=_;refine aa (pB _ _) ?_
  have c:(hV l*SB+x) / SB=hV l:=by
   exact aa (Nat.mul_comm _ _) (aa (Nat.mul_add_div (by decide) _ _) (aa (Nat.div_eq_of_lt a) (aa (Nat.add_zero _) rfl)))
  have e:(hV l*SB+x)%SB=x:=by
   refine aa (Nat.mul_comm _ _) ?_;rewrite[Nat.mul_add_mod];exact aa (Nat.mod_eq_of_lt a) rfl
  refine aa c (aa e (aa (b _ fun y d=>h y (List.mem_append_left _ d)) ?_))
  simp
theorem pE {l:List Nat} (h:∀x∈l,x<SB):sdec (hV l)=l:=by
 unfold sdec
 exact aa (pD h) (aa (yM _ _ h) (aa (sz _) rfl))
theorem Du {l r:List Nat} (hl:∀x∈l,x<SB) (hr:∀x∈r,x<SB) (e:hV l=hV r):l=r:=by
 exact bw (pE hl) (bw (pE hr) (aa e rfl))
theorem yN {a e q B x:Nat} (le:q<=e):(a*q+(e - q))*B+x=a*(q*B)+(e*B+x - q*B)/\q*B<=e*B+x:=by
 have b:=w7 B le
 rw[Nat.add_mul,Nat.sub_mul,Nat.mul_assoc]
 exact Qj b
theorem yO (b:List Nat):∀a:Nat,b.foldl (fun a x=>a*SB+x) a=a*SB ^ b.length+(hV b - SB ^ b.length)/\SB ^ b.length<=hV b:=by
 induction b using pC with
 | h0=>intro a;simp[hV]
 | h1 l x c =>
  intro a
  refine am (c a) fun e le=>?_
  refine aa List.foldl_append (aa List.foldl_cons (aa List.foldl_nil (aa e (aa (pB _ _) (aa sh (aa I3 (aa (Nat.pow_succ _ _) ?_)))))))
  exact yN le
theorem AD {a b:List Nat} (hb:∀x∈b,x<SB):uj (hV a) (hV b)=hV (a++b):=by
 have e:hV (a++b)=b.foldl (fun a x=>a*SB+x) (hV a):=by unfold hV;exact aa List.foldl_append rfl
 refine aa e (aa ((yO b _).1) ?_)
 show jf (Nat.mul (hV a) (Nat.pow SB (jm (hV b)))) (Nat.sub (hV b) (Nat.pow SB (jm (hV b))))=_
 exact aa (pD hb) rfl
theorem SR.strs {s:Str} {c:Nat} (h:SR s c):∀x∈s.cps.toList,x<SB:=fun x a=>Nat.lt_trans (h.1 x a) (by decide)
theorem SR.inj {s u:Str} {c:Nat} (h:SR s c) (k:SR u c):s=u:=by
 have:=Du h.strs k.strs (h.2.trans k.2.symm)
 cases s;cases u
 simpa using this
theorem SR.eq_iff {s u:Str} {c d:Nat} (h:SR s c) (k:SR u d):(s==u)=c6 c d:=by
 by_cases e:c=d
 ·subst e
  exact aa (xd _) (aa (h.inj k) (beq_self_eq_true u))
 ·refine aa (bG e) ?_
  refine beq_eq_false_iff_ne.mpr fun z=>e ?_
  subst z;exact bw h.2 (bw k.2 rfl)
theorem SR.cat {s u:Str} {c d:Nat} (h:SR s c) (k:SR u d):SR (s++u) (uj c d):=by
 have e:(s++u).cps.toList=s.cps.toList++u.cps.toList:=by
  show(s.cps++u.cps).toList=_;simp
 refine⟨fun x a=>?_,?_⟩
 ·replace a:=e▸a;exact(List.mem_append.mp a).elim (h.1 x) (k.1 x)
 ·exact aa e (bw h.2 (bw k.2 (aa (AD k.strs) rfl)))
theorem SR.sdec {s:Str} {c:Nat} (h:SR s c):sdec c=s.cps.toList:=by exact bw h.2 (aa (pE h.strs) rfl)
theorem SR.len {s:Str} {c:Nat} (h:SR s c):jm c=s.length:=by exact bw h.2 (aa (pD h.strs) ir)
section
mutual
def Lk (g:Gd):V->ty->Prop
 | .none,d=>d=.none
 | .bool b,d=>d=.bool b
 | .int i,d=>d=.int i
 | .str c,d=>∃s,d=.str s/\SR s c
 | .tup l,d=>∃ds,d=.tuple ds/\Dv g l ds
 | .ab w k,d=>w=0/\∃s,d=.str s/\SR s (g.nam k)
 | _,_=>False
def Dv (g:Gd):List V->List ty->Prop
 | [],ds=>ds=[]
 | a::r,ds=>∃d q,ds=d::q/\Lk g a d/\Dv g r q
end
theorem lN {s:Str} {c:Nat} (h:SR s c):ty.strOk s=true:=by
 unfold ty.strOk
 rw[Array.all_eq_true']
 intro x a
 exact decide_eq_true (h.1 x (by simpa using a))
theorem yP {f:V->Bool} {a:V} {r:List V} (h:yC f (a::r)=true):f a=true/\yC f r=true:=by
 have b:af (f a) (yC f r) false=true:=h
 induction q:f a using dI with
 | true=>replace b:=q▸b;exact⟨rfl,b⟩
 | false=>replace b:=q▸b;exact aS b
section
variable {g:Gd} {h:Heap} {U:Nat->Addr} {m:Nat}
def sR (g:Gd) (h:Heap) (v:V) (u:bo) (n:Nat):Prop:=∃d as,Reads h u d as/\Lk g v d/\d.canLay0=true/\d.depth<=n+4
def Dw (g:Gd) (h:Heap) (l:List V) (us:List bo) (n:Nat):Prop:=∃ds as,ReadsAll h us ds as/\Dv g l ds/\ty.canLayAll0 ds=true/\ty.depthAll ds<=n+4
theorem lO {n:Nat} (ih:∀v u,He n v=true->VR g h U m v u->sR g h v u n) {l:List V} {us:List bo} (ok:yC (He n) l=true) (r:VRs g h U m l us):Dw g h l us n:=by
 revert ok;refine r.ind (fun _=>⟨[],[],.nil,rfl,by simp[ty.canLayAll0],by simp[ty.depthAll]⟩) fun{a r v q} x y b ok=>?_
 refine am (yP ok) fun s e=>?_
 refine iE (ih a v s x) fun d w f k i t=>?_
 refine iE (b e) fun c z p o j d2=>?_
 exact⟨d::c,_,.cons f p,⟨d,c,rfl,k,o⟩,by simp[ty.canLayAll0,i,j],Oj t d2⟩
theorem j9:∀(n:Nat) (v:V) (u:bo),He n v=true->VR g h U m v u->sR g h v u n:=by
 have e:∀(n:Nat) (t:List V->Bool) (v:V) (u:bo),Ov t v=true->VR g h U m v u->(∀l,v=.tup l->t l=true->VR g h U m (.tup l) u->sR g h (.tup l) u n)->sR g h v u n:=by
  intro n t v u d x H
  induction v using eV with
  | none=>cases x;exact⟨_,_,.none,rfl,by simp[C1],by simp[H6]⟩
  | bool b=>cases x;exact⟨_,_,.bool b,rfl,by simp[C1],by simp[H6]⟩
  | int i=>refine aG x ?_;rintro t rfl;exact⟨_,_,.int i t,rfl,by simp[C1],by simp[H6]⟩
  | str c=>refine bx x ?_;rintro s t rfl f;exact⟨_,_,.str s t,⟨s,rfl,f⟩,by simp[C1,lN f],by simp[H6]⟩
  | tup l=>exact H l rfl d x
  | ab w k =>
   obtain rfl:=bz d
   refine bx x ?_;rintro s t rfl f
   exact⟨_,_,.str s t,⟨rfl,s,rfl,f⟩,by simp[C1,lN f],by simp[H6]⟩
  | _=>exact aS d
 intro n
 induction n with
 | zero=>intro v u d x;exact e _ _ v u d x fun l _ d _=>aS d
 | succ n B =>
  intro v u d x
  refine e _ _ v u d x fun l _ d x=>?_
  refine aA x ?_;rintro a C rfl z r
  refine aA z fun o k E q F=>?_
  refine iE (lO B (l:=l) (us:=C) d r) fun j A p G y I=>?_
  exact⟨.tuple j,A,.tuple E q F (by simpa using p),⟨j,rfl,G⟩,by simp[C1,y],by simp only[H6];lia⟩
theorem lP (y:Nat):∀l:List Nat,q6 y l=true<->y∈l
 | []=>⟨fun h=>(by exact aS h),fun h=>(by cases h)⟩
 | a::r=>by
  show af (c6 a y) true (q6 y r)=true<->_
  by_cases e:a=y
  ·subst e;exact aa (xd _) ⟨fun u_=>.head _,fun u_=>rfl⟩
  ·refine aa (bG e) ?_
   exact⟨fun h=>.tail _ ((lP y r).mp h),fun h=>(lP y r).mpr (by rcases gg.mp h with q|q;exact absurd q.symm e;exact q)⟩
theorem xw {y k:Nat} {s u:Str} {t:Bool} (hs:SR s (g.nam k)) (hu:SR u y) (q:Af y=some t):t=false/\s≠u:=by
 have q:af (q6 y nm6) none (some false)=some t:=q
 induction e:q6 y nm6 using dI with
 | true=>replace q:=e▸q;exact bj q
 | false =>
  replace q:=e▸q;cases q
  refine⟨rfl,fun z=>?_⟩
  subst z
  have:=g.hnam k
  replace this:=(hs.2.symm.trans hu.2)▸this;rewrite[<-lP] at this;replace this:=(e)▸this
  exact aS this
theorem xx {s u:Str} (h:s≠u):(s==u)=false:=beq_eq_false_iff_ne.mpr h
@[elab_as_elim] theorem Lk.cs {M:V->ty->Prop} {b:V} {e:ty} (y:Lk g b e) (n:M .none .none) (t:∀c,M (.bool c) (.bool c)) (i:∀c,M (.int c) (.int c)) (s:∀c u,SR u c->M (.str c) (.str u)) (l:∀r us,Dv g r us->M (.tup r) (.tuple us)) (a:∀k u,SR u (g.nam k)->M (.ab 0 k) (.str u)):M b e:=by
 cases b with
 | none=>cases (show e=.none from y);exact n
 | bool c=>cases (show e=.bool c from y);exact t c
 | int c=>cases (show e=.int c from y);exact i c
 | str c=>refine ai y ?_;rintro u rfl h;exact s c u h
 | tup r=>refine ai y ?_;rintro u rfl h;exact l r u h
 | ab w k=>refine am y ?_;rintro rfl z;refine ai z ?_;rintro u rfl h;exact a k u h
 | _=>exact y.elim
theorem OJ {b:V} {d e:ty} {t:Bool} (x:Lk g .none d) (y:Lk g b e) (q:uh .none b=some t):np d e=t:=by
 have q:vV b=some t:=q
 cases (show d=.none from x)
 revert q
 refine y.cs ?_ ?_ ?_ ?_ ?_ ?_<;>(intros;rename_i q;first|(exact bj q;done)|(cases q;first|rfl|simp[np]))
theorem OK {a:Bool} {b:V} {d e:ty} {t:Bool} (x:Lk g (.bool a) d) (y:Lk g b e) (q:uh (.bool a) b=some t):np d e=t:=by
 have q:vW a b=some t:=q
 cases (show d=.bool a from x)
 revert q
 refine y.cs ?_ ?_ ?_ ?_ ?_ ?_
 case refine_2=>intro c q;cases a<;>cases c<;>cases q<;>simp[np,Dg,af]
 all_goals (intros;rename_i q;first|(exact bj q;done)|(cases q;first|rfl|simp[np]))
theorem OL {a:Int} {b:V} {d e:ty} {t:Bool} (x:Lk g (.int a) d) (y:Lk g b e) (q:uh (.int a) b=some t):np d e=t:=by
 have q:Ag a b=some t:=q
 cases (show d=.int a from x)
 revert q
 refine y.cs ?_ ?_ ?_ ?_ ?_ ?_
 case refine_3=>intro c q;cases q;simp only[np];rfl
 all_goals (intros;rename_i q;first|(exact bj q;done)|(cases q;first|rfl|simp[np]))
theorem OM {a:Nat} {b:V} {d e:ty} {t:Bool} (x:Lk g (.str a) d) (y:Lk g b e) (q:uh (.str a) b=some t):np d e=t:=by
 have q:Ah a b=some t:=q
 refine ai x ?_;rintro s rfl h
 revert q
 refine y.cs ?_ ?_ ?_ ?_ ?_ ?_
 case refine_4=>intro c u f q;cases q;simp only[np];exact h.eq_iff f
 case refine_6 =>
  intro k u f q
  refine am (xw f h (show Af a=some t from q)) ?_;rintro rfl i
  simp only[np];exact xx i.symm
 all_goals (intros;rename_i q;first|(exact bj q;done)|(cases q;first|rfl|simp[np]))
theorem ON {w k:Nat} {b:V} {d e:ty} {t:Bool} (x:Lk g (.ab w k) d) (y:Lk g b e) (q:uh (.ab w k) b=some t):np d e=t:=by
 refine am x ?_;rintro rfl a;refine ai a ?_;rintro s rfl h
 have q:Aj k b=some t:=q
 revert q
 refine y.cs ?_ ?_ ?_ ?_ ?_ ?_
 case refine_4 =>
  intro c u f q
  refine am (xw h f (show Af c=some t from q)) ?_;rintro rfl i
  simp only[np];exact xx i
 case refine_6 =>
  intro j u f q
  have q:af (c6 k j) (some true) none=some t:=q
  induction e:c6 k j using dI with
  | false=>replace q:=e▸q;exact bj q
  | true =>
   replace q:=e▸q;cases q
   have:=bz e
   subst this
   simp only[np];exact aa (h.inj f) (beq_self_eq_true u)
 all_goals (intros;rename_i q;first|(exact bj q;done)|(cases q;first|rfl|simp[np]))
def HH (l:List V):List V->Option Bool:=@V.rec_1 (fun a=>V->Option Bool) (fun a=>List V->Option Bool) vV vW Ag Ah gQ (fun a c=>Ai c)
 gQ gQ gQ (fun a a a=>none) gQ (fun w k b=>af (c6 w 0) (Aj k b) none) xk (fun a a f g=>mD f g) l
theorem xz:∀l:List V,HH l=ui l
 | []=>rfl
 | a::r=>by
  show mD (uh a) (HH r)=mD (uh a) (ui r)
  exact aa (xz r) rfl
theorem OO {l:List V} {b:V} {d e:ty} {t:Bool} (ih:∀{b:List V} {d e:List ty} {t:Bool},Dv g l d->Dv g b e->ui l b=some t->ty.eqvAll d e=t) (x:Lk g (.tup l) d) (y:Lk g b e) (q:uh (.tup l) b=some t):np d e=t:=by
 have q:Ai (HH l) b=some t:=q
 replace q:=xz l▸q
 refine ai x ?_;rintro f rfl c
 revert q
 refine y.cs ?_ ?_ ?_ ?_ ?_ ?_
 case refine_5=>intro r u a q;simp only[np];exact ih c a q
 all_goals (intros;rename_i q;first|(exact bj q;done)|(cases q;first|rfl|simp[np]))
mutual
theorem wq:∀{a b:V} {d e:ty} {t:Bool},Lk g a d->Lk g b e->uh a b=some t->np d e=t
 | .none,_,_,_,_,x,y,q=>OJ x y q
 | .bool _,_,_,_,_,x,y,q=>OK x y q
 | .int _,_,_,_,_,x,y,q=>OL x y q
 | .str _,_,_,_,_,x,y,q=>OM x y q
 | .tup l,_,_,_,_,x,y,q=>OO (fun x y q=>sS (a:=l) x y q) x y q
 | .ab _ _,_,_,_,_,x,y,q=>ON x y q
 | .byt _,_,_,_,_,x,_,_=>x.elim
 | .obj _,_,_,_,_,x,_,_=>x.elim
 | .fn _,_,_,_,_,x,_,_=>x.elim
 | .cls _,_,_,_,_,x,_,_=>x.elim
 | .clo _ _,_,_,_,_,x,_,_=>x.elim
 | .sym _,_,_,_,_,x,_,_=>x.elim
theorem sS:∀{a b:List V} {d e:List ty} {t:Bool},Dv g a d->Dv g b e->ui a b=some t->ty.eqvAll d e=t
 | [],b,d,e,t,x,y,q=>by
  have q:xk b=some t:=q
  cases (show d=[] from x)
  cases b with
  | nil=>cases (show e=[] from y);cases q;simp[ty.eqvAll]
  | cons=>refine bx y ?_;clear y;rintro f k rfl l;cases q;simp[ty.eqvAll]
 | a::r,b,d,e,t,x,y,q=>by
  have q:mD (uh a) (ui r) b=some t:=q
  refine aA x ?_;clear x;rintro u o rfl j h
  induction b using fV with
  | nil=>cases (show e=[] from y);cases q;simp[ty.eqvAll]
  | cons b s =>
   refine aA y ?_;clear y;rintro p n rfl m i
   have q:Ak (uh a b) (ui r s)=some t:=q
   simp only[ty.eqvAll]
   induction c:uh a b using cN with
   | none=>replace q:=c▸q;exact bj q
   | some z =>
    replace q:=c▸q
    refine aa (wq j m c) ?_
    induction z using dI with
    | true=>exact aa (sS h i q) rfl
    | false=>cases q;rfl
end
end
end
theorem cb {b:Bool} {x:Bool} (h:af b x false=true):b=true/\x=true:=by cases b<;>simp[af] at h ⊢;exact h
theorem ak {b x:Bool} {G:Prop} (h:af b x false=true) (K:b=true->x=true->G):G:=(cb h).elim K
theorem bS {α:Type} {o:Option α} {k:α->Bool} {G:Prop} (h:cM o k=true) (K:∀a,o=some a->k a=true->G):G:=by
 induction o using cN with
 | none=>exact aS h
 | some a=>exact K a rfl h
theorem nU {v:V} {k:Bool->Bool} {G:Prop} (h:fB v k=true) (K:∀b,v=.bool b->k b=true->G):G:=by cases v<;>first|(first|exact aS h|cases h);done|exact K _ rfl h
theorem kR {v:V} {k:Int->Bool} {G:Prop} (h:oP v k=true) (K:∀b,v=.int b->k b=true->G):G:=by cases v<;>first|(first|exact aS h|cases h);done|exact K _ rfl h
theorem gC {v:V} {k:Nat->Bool} {G:Prop} (h:gf v k=true) (K:∀b,v=.str b->k b=true->G):G:=by cases v<;>first|(first|exact aS h|cases h);done|exact K _ rfl h
theorem fg {v:V} {k:List V->Bool} {G:Prop} (h:bL v k=true) (K:∀b,v=.tup b->k b=true->G):G:=by cases v<;>first|(first|exact aS h|cases h);done|exact K _ rfl h
theorem cA {v:V} {k:Nat->Bool} {G:Prop} (h:db v k=true) (K:∀b,v=.obj b->k b=true->G):G:=by cases v<;>first|(first|exact aS h|cases h);done|exact K _ rfl h
theorem f7 {v:V} {k:Bool} {G:Prop} (h:fO v k=true) (K:v=.none->k=true->G):G:=by cases v<;>first|(first|exact aS h|cases h);done|exact K rfl h
theorem fz {o:Option O} {k:List V->Bool} {G:Prop} (h:gh o k=true) (K:∀l,o=some (.lst l)->k l=true->G):G:=by
 refine bS h ?_;clear h;rintro a rfl h
 cases a<;>first|(first|exact aS h|cases h);done|exact K _ rfl h
theorem gD {o:Option O} {k:List (Nat×V)->Bool} {G:Prop} (h:eP o k=true) (K:∀l,o=some (.dic l)->k l=true->G):G:=by
 refine bS h ?_;clear h;rintro a rfl h
 cases a<;>first|(first|exact aS h|cases h);done|exact K _ rfl h
theorem wu {o:Option O} {k:Nat->Nat->Bool} {G:Prop} (h:xc o k=true) (K:∀c d,o=some (.ins c d)->k c d=true->G):G:=by
 refine bS h ?_;clear h;rintro a rfl h
 cases a<;>first|(first|exact aS h|cases h);done|exact K _ _ rfl h
theorem mP {o:Option O} {k:Nat->Nat->Bool} {G:Prop} (h:ng o k=true) (K:∀c d,o=some (.exn c d)->k c d=true->G):G:=by
 refine bS h ?_;clear h;rintro a rfl h
 cases a<;>first|(first|exact aS h|cases h);done|exact K _ _ rfl h
theorem HI {o:Option O} {k:V->Bool} {G:Prop} (h:zY o k=true) (K:∀v,o=some (.cel v)->k v=true->G):G:=by
 refine bS h ?_;clear h;rintro a rfl h
 cases a<;>first|(first|exact aS h|cases h);done|exact K _ rfl h
theorem g7 {l:List V} {k:V->Bool} {G:Prop} (h:oQ l k=true) (K:∀a,l=[a]->k a=true->G):G:=by
 induction l using fV with
 | nil=>exact aS h
 | cons a l =>
  induction l using fV with
  | nil=>exact K a rfl h
  | cons=>exact aS h
theorem uB {l:List V} {k:Bool} {G:Prop} (h:GY l k=true) (K:l=[]->k=true->G):G:=by
 induction l using fV with
 | nil=>exact K rfl h
 | cons=>exact aS h
theorem pF {l:List V} {k:V->V->Bool} {G:Prop} (h:yB l k=true) (K:∀a b,l=[a,b]->k a b=true->G):G:=by
 induction l using fV with
 | nil=>exact aS h
 | cons a r=>exact g7 (l:=r) h fun b e h=>K a b (congrArg _ e) h
theorem sT {l:List V} {k:V->V->V->Bool} {G:Prop} (h:De l k=true) (K:∀a b c,l=[a,b,c]->k a b c=true->G):G:=by
 induction l using fV with
 | nil=>exact aS h
 | cons a r=>refine pF h ?_;clear h;rintro b c rfl h;exact K a b c rfl h
theorem pG {v:V} {k:Nat->Bool} {G:Prop} (h:ud v k=true) (K:∀n:Nat,v=.int (.ofNat n)->k n=true->G):G:=by
 refine kR h ?_;clear h;rintro i rfl h
 cases i<;>first|(first|exact aS h|cases h);done|exact K _ rfl h
theorem HJ {n:Nat} {k:Nat->Bool} {G:Prop} (h:FG n k=true) (K:∀m,n=m+1->k m=true->G):G:=by cases n<;>first|(first|exact aS h|cases h);done|exact K _ rfl h
theorem Mj {v:V} {k:Nat->Nat->Bool} {G:Prop} (h:K8 v k=true) (K:∀w j,v=.ab w j->k w j=true->G):G:=by cases v<;>first|(first|exact aS h|cases h);done|exact K _ _ rfl h
theorem yQ {α:Type} {v:V} {k:Int->Option α} {t:α} {G:Prop} (h:FH v k=some t) (K:∀i,v=.int i->k i=some t->G):G:=by cases v<;>first|(first|exact bj h|cases h);done|exact K _ rfl h
theorem Mk {α:Type} {o:Option O} {k:List V->Option α} {t:α} {G:Prop} (h:K9 o k=some t) (K:∀l,o=some (.lst l)->k l=some t->G):G:=by
 induction o using cN with
 | none=>exact bj h
 | some o=>cases o<;>first | (first | exact bj h | cases h);done | exact K _ rfl h
theorem pH {v:V} (h:r7 v=true):v=.none:=f7 h fun e a=>e
theorem fR {α:Type} {b:Bool} {x y z:α} {G:Prop} (h:af b x y=z) (K:b=true->x=z->G) (L:b=false->y=z->G):G:=by cases b;exact L rfl h;exact K rfl h
theorem bB {α:Type}:∀(l:List α),len l=l.length
 | []=>rfl
 | _::r=>congrArg Nat.succ (bB r)
theorem fA {α:Type} {l:List α} (h:ua l=true):l.length<=5000:=by
 have:=bY h
 rwa [bB] at this
section
variable {g:Gd} {F X:Addr->Prop} {s:ce} {U:Nat->Addr} {Z:St} {A:ef} {E:bo->ce->Prop} {k:K1} {t:Nat}
theorem Po.now (W:R g Z U s.heap) (P:Pv g F X Z U s.heap) {a:V} {v:bo} (r:VR g s.heap U Z.nx a v) (h:k a Z=true):Po g F X Z U s k v {s with toks:=t} :=
 ⟨Z,U,a,.tok W P t,r,h⟩
theorem Po.here (W:R g Z U s.heap) (P:Pv g F X Z U s.heap) {a:V} {v:bo} (r:VR g s.heap U Z.nx a v) (h:k a Z=true):Po g F X Z U s k v s :=
 ⟨Z,U,a,.refl W P,r,h⟩
theorem cn (h:Heap):h.get? h.objs.size=none:=by
 induction q:h.get? h.objs.size using cN with
 | none=>rfl
 | some o=>exact absurd (l4 q) (nY _)
theorem aF (h:Heap) (ob:Obj):∀b o,h.get? b=some o->(h.push ob).get? b=some o:=fun b o e=>f4 _ e
theorem Go.push (W:R g Z U s.heap) (P:Pv g F X Z U s.heap) (ob:Obj) {o:O} (x:OR g (s.heap.push ob) (i6 U Z.nx s.heap.objs.size) (Z.nx+1) s.heap.objs.size o) (hf:ob.isFreed=false) :
  Go g F X Z U s (Z.new o) (i6 U Z.nx s.heap.objs.size) {s with heap:=s.heap.push ob,toks:=t} :=
 .new W P (aF _ _) _ (cn _) (fI _ hf) x
theorem sU (W:R g Z U s.heap) (P:Pv g F X Z U s.heap) {l:List V} {vs:List bo} {n:Nat} (r:VRs g s.heap U Z.nx l vs) (h:e9 l Z k=true) :
  Po g F X Z U s k (.ref s.heap.objs.size) {s with heap:=s.heap.push {cls:=.type "list",data:=.seq vs.toArray n},toks:=t}:=by
 refine ak h fun a h=>?_
 have L:Later s.heap (s.heap.push {cls:=.type "list",data:=.seq vs.toArray n}):=.of_keeps (aF _ _)
 have c:VRs g (s.heap.push {cls:=.type "list",data:=.seq vs.toArray n}) (i6 U Z.nx s.heap.objs.size) (Z.nx+1) l vs:=r.mono L (fun i b=>bu b) (sr _)
 refine⟨_,_,.obj Z.nx,.push W P _ (o:=.lst l) ⟨vs.toArray,⟨n,fI _ rfl⟩,by simpa using c⟩ rfl,⟨aa upd_at rfl,f2 _⟩,h⟩
theorem pJ {l:List V} (h:e9 l Z k=true):l.length<=5000:=fA (cb h).1
theorem sV (W:R g Z U s.heap) (P:Pv g F X Z U s.heap) {l:List V} {vs:List bo} {n:Nat} (r:VRs g s.heap U Z.nx l vs) (h:wh l Z k=true) :
  Po g F X Z U s k (.ref s.heap.objs.size) {s with heap:=s.heap.push {cls:=.type "tuple",data:=.seq vs.toArray n},toks:=t}:=by
 refine ak h fun a h=>?_
 have L:Later s.heap (s.heap.push {cls:=.type "tuple",data:=.seq vs.toArray n}):=.of_keeps (aF _ _)
 refine⟨Z,U,.tup l,.grow W P (aF _ _),⟨_,vs,rfl,⟨_,n,fI _ rfl,rfl,rfl⟩,r.mono L (fun b b=>rfl) (e5 _)⟩,h⟩
theorem pK {l:List V} (h:wh l Z k=true):l.length<=5000:=fA (cb h).1
theorem dw {n:Nat} (h:n<=5000):n<=sizeLine:=hD h (by decide)
theorem ww (W:R g Z U s.heap) (P:Pv g F X Z U s.heap) {l:List V} {vs:List bo} (r:VRs g s.heap U Z.nx l vs) (h:e9 l Z k=true) {M:Model}:dk M A (newList vs) (Po g F X Z U s k) E s :=
 GX (sU (t:=s.toks) W P r h) (by show vs.toArray.size<=sizeLine;refine aa oL (aa r.length ?_);exact dw (pJ h))
theorem uC (W:R g Z U s.heap) (P:Pv g F X Z U s.heap) {l:List V} {vs:List bo} (r:VRs g s.heap U Z.nx l vs) (h:wh l Z k=true) {M:Model}:dk M A (newTuple vs) (Po g F X Z U s k) E s :=
 GX (sV (t:=s.toks) W P r h) (by show vs.toArray.size<=sizeLine;refine aa oL (aa r.length ?_);exact dw (pK h))
theorem sW:∀{l:List Nat},yI l=true->∀x∈l,x<55296
 | [],_,x,c=>by cases c
 | a::r,h,x,c=>by
  refine ak (b:=l9 a 55296) h fun e d=>?_
  rcases gg.mp c with rfl|c
  ·exact bY e
  ·exact sW d x c
theorem HK:∀c∈nm6,jm c<=7/\yI (sdec c)=true:=by
 intro c d
 have:nm6.all (fun c=>eL (jm c) 7&&yI (sdec c))=true:=by decide +kernel
 have:=dV.mp this c d
 refine am (kF.mp this) fun a b=>?_
 exact⟨bY a,b⟩
theorem pL {h:Heap} {m:Nat} {a:V} {x:bo} {n:Nat} (r:VR g h U m a x) (q:FN a=some n):∃u t,x=.str u t/\u.length<=n/\∀y∈u.cps.toList,y<55296:=by
 induction a using eV with
 | str c =>
  refine bx r ?_;clear r;rintro u t rfl b
  have q:af (yI (sdec c)) (some (jm c)) none=some n:=q
  induction e:yI (sdec c) using dI with
  | false=>replace q:=e▸q;exact bj q
  | true =>
   replace q:=e▸q;cases q
   exact⟨u,t,rfl,aa b.len (e5 _),bw b.sdec (sW e)⟩
 | ab w k =>
  have q:af (c6 w 0) (some 7) (af (c6 w 2) (some k) none)=some n:=q
  refine fR q (fun c q=>?_) (fun i q=>fR q (fun c q=>?_) (fun i q=>by exact bj q))
  ·obtain rfl:=bz c
   cases q
   refine bx r fun u t e b=>?_
   refine am (HK _ (g.hnam k)) fun f d=>?_
   exact⟨u,t,e,bw b.len f,bw b.sdec (sW d)⟩
  ·obtain rfl:=bz c
   refine aA r fun u t e f d=>?_
   cases q;exact⟨u,t,e,f,d⟩
 | _=>exact bj q
theorem xA (W:R g Z U s.heap) (P:Pv g F X Z U s.heap) {a b:V} {x y:bo} (ra:VR g s.heap U Z.nx a x) (rb:VR g s.heap U Z.nx b y) (h:Do a b Z k=true) :
  dk g.m A (binaryOp .Add x y) (Po g F X Z U s k) E s:=by
 refine bS h fun m l h=>?_
 refine bS h fun n j h=>?_
 refine ak h fun c h=>?_
 have c:m+n<=10000:=bY c
 refine aA (pL ra l) ?_;rintro u t rfl o f
 refine aA (pL rb j) ?_;rintro v d rfl p i
 refine PySem.SB.add (fun d q=>.now (a:=.ab 2 (m+n)) W P ⟨_,_,rfl,?_,?_⟩ h) (hD (m:=10000) (by lia) (by decide))
 ·refine aa (Str.length_append _ _) ?_;lia
 ·intro z c
  have e:(u++v).cps.toList=u.cps.toList++v.cps.toList:=by
   show(u.cps++v.cps).toList=_;simp
  replace c:=e▸c
  exact(List.mem_append.mp c).elim (f z) (i z)
theorem HL (W:R g Z U s.heap) (P:Pv g F X Z U s.heap) {a b:V} {x y:bo} (ra:VR g s.heap U Z.nx a x) (rb:VR g s.heap U Z.nx b y) (h:Ls a b Z k=true) :
  dk g.m A (binaryOp .Add x y) (Po g F X Z U s k) E s:=by
 induction a using eV with
 | int i =>
  refine kR (v:=b) h ?_;clear h;rintro j rfl h
  refine aG ra ?_;clear ra;rintro t rfl
  refine aG rb ?_;clear rb;rintro u rfl
  exact PySem.P.add_int (.now (a:=.int (i+j)) W P ⟨_,rfl⟩ h)
 | ab w c=>exact xA W P ra rb h
 | str c =>
  have h:af (Hh b) (Do (.str c) b Z k) (gf b fun y=>Lr c y Z k)=true:=h
  induction eb:Hh b using dI with
  | true=>replace h:=eb▸h;exact xA W P ra rb h
  | false =>
  replace h:=eb▸h
  refine gC (v:=b) h ?_;clear h;rintro d rfl h
  refine bx ra ?_;clear ra;rintro p t rfl hp
  refine bx rb ?_;clear rb;rintro q u rfl hq
  refine ak h fun h1 h=>?_
  have h1:=bY h1
  have e1:=hp.len
  have e2:=hq.len
  refine PySem.SB.add (fun t' k'=>.now (a:=.str (uj c d)) W P ⟨_,_,rfl,hp.cat hq⟩ h) (hD (m:=10000) ?_ (by decide))
  exact bw e1 (bw e2 h1)
 | tup l =>
  refine fg (v:=b) h ?_;clear h;rintro r rfl h
  refine aA ra ?_;clear ra;rintro Q z rfl J Y;refine aA J fun C n B hc hd=>?_;obtain⟨a6,dd,a5,S⟩:=C
  refine aA rb ?_;clear rb;rintro N o rfl J r2;refine aA J fun C K f L M=>?_;obtain⟨a4,I,a3,H⟩:=C
  simp only at hc hd L M
  subst hc hd L M
  have hl:=pK h
  have r:=Y.append r2
  have e:z.toArray++o.toArray=(z++o).toArray:=by simp
  have hz:z.toArray.size+o.toArray.size<=sizeLine:=by
   exact aa oL (aa oL (bw sh (aa r.length (dw hl))))
  by_cases hv:z=[]
  ·subst hv
   refine concat_meets ⟨_,B,rfl⟩ ⟨_,f,rfl⟩ noFill_tuple_add seq_tuple_add PySem.F.slot_tuple_add PySem.F.entry_tuple_add (PySem.F.args_tuple_add_2 _ _)
    (tuple_addW0 Q N _ o.toArray n K dd I S H (by simp)) ⟨B,f,.here (a:=.tup _) W P ⟨N,o,rfl,⟨_,K,f,rfl,rfl⟩,?_⟩ (cb h).2⟩
   simpa using r
  ·by_cases hw:o=[]
   ·subst hw
    refine concat_meets ⟨_,B,rfl⟩ ⟨_,f,rfl⟩ noFill_tuple_add seq_tuple_add PySem.F.slot_tuple_add PySem.F.entry_tuple_add (PySem.F.args_tuple_add_2 _ _)
     (tuple_addW1 Q N z.toArray _ n K dd I S H (by simpa using hv) (by simp)) ⟨B,f,.here (a:=.tup _) W P ⟨Q,z,rfl,⟨_,n,B,rfl,rfl⟩,?_⟩ (cb h).2⟩
    simpa using r
   ·refine concat_meets ⟨_,B,rfl⟩ ⟨_,f,rfl⟩ noFill_tuple_add seq_tuple_add PySem.F.slot_tuple_add PySem.F.entry_tuple_add (PySem.F.args_tuple_add_2 _ _)
     (tuple_addW2 Q N z.toArray o.toArray n K dd I S H (by simpa using hv) (by simpa using hw) hz) ⟨B,f,?_⟩
    refine aa e ?_
    exact sV W P r h
 | obj i =>
  refine cA (v:=b) h ?_;clear h;rintro j rfl h
  refine fz h fun l el h=>?_
  refine fz h fun m em h=>?_
  refine am ra ?_;clear ra;rintro rfl hi
  refine am rb ?_;clear rb;rintro rfl hj
  refine ai (aB W el) fun z G Y=>?_;refine aG G fun n B=>?_
  refine ai (aB W em) fun o G r2=>?_;refine aG G fun K f=>?_
  have hl:=pJ h
  have r:=Y.append r2
  have hz:z.size+o.size<=sizeLine:=by
   have:=r.length
   replace this:=ir▸ir▸sh▸this
   exact aa this (dw hl)
  refine concat_meets ⟨_,B,rfl⟩ ⟨_,f,rfl⟩ noFill_list_add seq_list_add PySem.F.slot_list_add PySem.F.entry_list_add (PySem.F.args_list_add_2 _ _) (list_addW _ _ z o n K none none #[] #[] hz) ⟨B,f,?_⟩
  have e:z++o=(z.toList++o.toList).toArray:=by simp
  refine aa e ?_
  exact sU W P r h
 | _=>exact aS h
end
section
variable {g:Gd} {F X:Addr->Prop} {s:ce} {U:Nat->Addr} {Z:St} {A:ef} {E:bo->ce->Prop} {k:K1} {t:Nat} {Q:bo->ce->Prop}
theorem nV {α:Type} {b:Bool} {x:Option α} {y:α} (h:af b x none=some y):b=true/\x=some y:=by cases b<;>simp[af] at h ⊢;exact h
theorem f9 {d:ty} {n:Nat} (c:d.canLay0=true) (h:d.depth<=n) (hn:n<=64):SeqAt.shaped d=true:=by
 unfold SeqAt.shaped;exact aa c (aa (Bool.true_and _) (decide_eq_true (hD h hn)))
theorem HM {a b:V} {x y:bo} {h:Heap} {m:Nat} {t:Bool} (ra:VR g h U m a x) (rb:VR g h U m b y) (q:xm a b=some t) :
  ∃d e as bs,Reads h x d as/\Reads h y e bs/\SeqAt.shaped d=true/\SeqAt.shaped e=true/\np d e=t:=by
 refine am (nV q) fun k q=>?_
 refine am (nV q) fun l q=>?_
 refine iE (j9 12 a x k ra) fun d as c n f j=>?_
 refine iE (j9 12 b y l rb) fun e bs o p i d2=>?_
 exact⟨d,e,as,bs,c,o,f9 f j (by decide),f9 i d2 (by decide),wq n p q⟩
theorem HN {l r:List V} {vs ws:Array bo} {h:Heap} {m:Nat} {t:Bool} {i j:Addr} (hl:h.PlainList i vs) (hr:h.PlainList j ws) (r1:VRs g h U m l vs.toList) (r2:VRs g h U m r ws.toList) (q:ND l r=some t) :
  ((vs.size !=ws.size)=true/\t=false)\/∃d e as bs,Reads h (.ref i) d as/\Reads h (.ref j) e bs/\SeqAt.shaped d=true/\SeqAt.shaped e=true/\np d e=t:=by
 refine aG hl fun H z=>?_
 refine aG hr fun F B=>?_
 have c:Ld l=true->Ld r=true->ui l r=some t->∃d e as bs,Reads h (.ref i) d as/\Reads h (.ref j) e bs/\SeqAt.shaped d=true/\SeqAt.shaped e=true/\np d e=t:=fun p f q=>by
  refine iE (lO (n:=12) (j9 (g:=g) (h:=h) (U:=U) (m:=m) 12) p r1) fun C as u w v E=>?_
  refine iE (lO (n:=12) (j9 (g:=g) (h:=h) (U:=U) (m:=m) 12) f r2) fun s bs y A x G=>?_
  exact⟨.list C,.list s,_,_,.list z rfl rfl u,.list B rfl rfl y,f9 (n:=17) (by simp[C1,v]) (by simp only[H6];lia) (by decide),
   f9 (n:=17) (by simp[C1,x]) (by simp only[H6];lia) (by decide),by simp only[np];exact sS w A q⟩
 have k:=r1.length
 have o:=r2.length
 rw[ir] at k o
 clear r1 r2
 induction l using fV with
 | nil =>
  induction r using fV with
  | nil=>exact .inr (c rfl rfl q)
  | cons=>cases q;exact .inl ⟨by refine aa k (aa o ?_);simp,rfl⟩
 | cons a l =>
  induction r using fV with
  | nil=>cases q;exact .inl ⟨by refine aa k (aa o ?_);simp,rfl⟩
  | cons b r =>
   refine am (nV q) fun p q=>?_
   refine am (nV q) fun f q=>?_
   exact .inr (c p f q)
theorem AE (W:R g Z U s.heap) {a b:V} {x y:bo} {t:Bool} (ra:VR g s.heap U Z.nx a x) (rb:VR g s.heap U Z.nx b y) (q:FM Z a b=some t) (hu:A.units+64<cLine) :
  (Q (.bool t) s->dk g.m A (compareOp .Eq x y) Q E s)/\(Q (.bool (!t)) s->dk g.m A (compareOp .NotEq x y) Q E s):=by
 have k:xm a b=some t->_:=fun q=>HM ra rb q
 have f:(∃d e F L,Reads s.heap x d F/\Reads s.heap y e L/\SeqAt.shaped d=true/\SeqAt.shaped e=true/\np d e=t) ->
   (Q (.bool t) s->dk g.m A (compareOp .Eq x y) Q E s)/\(Q (.bool (!t)) s->dk g.m A (compareOp .NotEq x y) Q E s):=by
  rintro⟨d,e,F,L,w,B,G,H,I⟩
  exact⟨fun h=>eq_dataH w B G H hu (aa I h),fun h=>ne_dataH w B G H hu (aa I h)⟩
 have v:A.units<cLine:=by lia
 induction a using eV with
 | str c =>
  induction b using eV with
  | str d =>
   have q:some (c6 c d)=some t:=q
   cases q
   refine bx ra ?_;clear ra;rintro p t rfl K
   refine bx rb ?_;clear rb;rintro r u rfl o
   exact f ⟨_,_,_,_,.str p t,.str r u,f9 (n:=0) (by simp[C1,lN K]) (by simp[H6]) (by decide),f9 (n:=0) (by simp[C1,lN o]) (by simp[H6]) (by decide),by simp only[np];exact K.eq_iff o⟩
  | none=>exact f (k q)
  | bool _=>exact f (k q)
  | int _=>exact f (k q)
  | tup _=>exact f (k q)
  | sym _=>exact f (k q)
  | ab _ _=>exact f (k q)
  | _=>exact bj q
 | ab _ _=>exact f (k q)
 | none=>exact f (k q)
 | bool _=>exact f (k q)
 | int _=>exact f (k q)
 | tup _=>exact f (k q)
 | sym _=>exact f (k q)
 | obj i =>
  induction b using eV with
  | obj j =>
   have q:PD Z i j=some t:=q
   refine Mk q fun l M q=>?_
   refine Mk q fun r N q=>?_
   ·refine am ra ?_;clear ra;rintro rfl Y
    refine am rb ?_;clear rb;rintro rfl S
    refine ai (aB W M) fun vs C w=>?_
    refine ai (aB W N) fun P o B=>?_
    rcases HN C o w B q with ⟨J,rfl⟩|z
    ·exact⟨fun h=>SeqAt.eq_list_lengthsAt C.isList o.isList J v h,fun h=>SeqAt.RcNeAt.lists_lengths C.isList o.isList J v _ _ _ _ h⟩
    ·exact f z
  | _=>exact bj q
 | _=>exact bj q
theorem q8 {a:V} {x:bo} {h:Heap} {m:Nat} {t:Bool} (ra:VR g h U m a x) (q:isNone a=some t):plainIs x .none=true/\(x==bo.none)=t:=by
 induction a using eV with
 | none=>cases q;cases ra;exact⟨rfl,by decide⟩
 | bool _=>cases q;cases ra;exact⟨rfl,beq_eq_false_iff_ne.mpr fun z=>by cases z⟩
 | int _=>cases q;refine aG ra ?_;clear ra;rintro b rfl;exact⟨rfl,beq_eq_false_iff_ne.mpr fun z=>by cases z⟩
 | str _=>cases q;refine bx ra ?_;clear ra;rintro b c rfl d;exact⟨rfl,beq_eq_false_iff_ne.mpr fun z=>by cases z⟩
 | byt _=>cases q;refine eM ra ?_;clear ra;rintro b c rfl;exact⟨rfl,beq_eq_false_iff_ne.mpr fun z=>by cases z⟩
 | tup _=>cases q;refine bx ra ?_;clear ra;rintro b c rfl d;exact⟨rfl,beq_eq_false_iff_ne.mpr fun z=>by cases z⟩
 | obj _=>cases q;refine am ra ?_;clear ra;rintro rfl c;exact⟨rfl,beq_eq_false_iff_ne.mpr fun z=>by cases z⟩
 | fn _=>cases q;cases ra;exact⟨rfl,beq_eq_false_iff_ne.mpr fun z=>by cases z⟩
 | cls _=>cases q;cases ra;exact⟨rfl,beq_eq_false_iff_ne.mpr fun z=>by cases z⟩
 | clo _ _=>cases q;refine am ra fun b c=>?_;refine bx b ?_;clear b;rintro b c rfl d;exact⟨rfl,beq_eq_false_iff_ne.mpr fun z=>by cases z⟩
 | sym _=>exact bj q
 | ab w k =>
  cases q
  refine AbR.cs ra ?_ ?_
  ·rintro _ _ rfl;exact⟨rfl,beq_eq_false_iff_ne.mpr fun z=>by cases z⟩
  ·rintro _ _ rfl;exact⟨rfl,beq_eq_false_iff_ne.mpr fun z=>by cases z⟩
theorem AF {v:V} {d:ty} (lv:Lk g v d):∀{l:List V} {ds:List ty} {t:Bool},Dv g l ds->Ow v l=some t->(ds.any fun y=>np y d)=t
 | [],ds,t,x,q=>by cases x;cases q;rfl
 | a::r,ds,t,x,q=>by
  refine aA x ?_;clear x;rintro e i rfl h f
  have q:(@Option.rec Bool (fun j=>Option Bool) none (fun t=>af t (some true) (Ow v r)) (uh a v))=some t:=q
  induction c:uh a v using cN with
  | none=>replace q:=c▸q;exact bj q
  | some b =>
   replace q:=c▸q
   refine aa List.any_cons (aa (wq h lv c) ?_)
   induction b using dI with
   | true=>cases q;rfl
   | false=>exact aa (Bool.false_or _) (AF lv f q)
theorem AG {a:V} {l:List V} {x:bo} {us:List bo} {h:Heap} {m:Nat} {t:Bool} (ra:VR g h U m a x) (rl:VRs g h U m l us) (q:Le a l=some t) :
  ∃d as ds bs,Reads h x d as/\ReadsAll h us ds bs/\d.canLay0=true/\ty.canLayAll0 ds=true/\d.depth<=16/\(ds.any fun y=>np y d)=t:=by
 refine am (nV q) fun i q=>?_
 refine am (nV q) fun j q=>?_
 refine iE (j9 12 a x i ra) fun d as b k c f=>?_
 refine iE (lO (n:=12) (j9 (g:=g) (h:=h) (U:=U) (m:=m) 12) j rl) fun ds bs p o e d2=>?_
 exact⟨d,as,ds,bs,b,p,c,e,f,AF k o q⟩
theorem SR.ne {s u:Str} {c d:Nat} (h:SR s c) (k:SR u d):(s=u)<->c=d:=by
 constructor
 ·rintro rfl;exact bw h.2 (bw k.2 rfl)
 ·rintro rfl;exact h.inj k
theorem sY {s u:Str} {v:bo} {kvs:List (Str×bo)}:valueAt ((s,v)::kvs) u=if s=u then some v else valueAt kvs u:=by
 unfold valueAt
 rw[List.find?_cons]
 by_cases h:s=u
 ·simp[h]
 ·simp[h]
theorem ERs.length {h:Heap} {m:Nat} {l:List (Nat×V)} {kvs:List (Str×bo)} (r:ERs g h U m l kvs):kvs.length=l.length:=r.ind rfl fun _ _ _ a=>congrArg Nat.succ a
theorem sZ {h:Heap} {m:Nat} {u:Str} {c:Nat} (hu:SR u c):∀{l:List (Nat×V)} {kvs:List (Str×bo)},ERs g h U m l kvs ->
  (∀a,az c l=some a->∃v,valueAt kvs u=some v/\VR g h U m a v)/\(az c l=none->valueAt kvs u=none)
 | [],_,e=>by cases e;exact⟨fun a h=>(by exact bj h),fun i=>rfl⟩
 | p::r,_,⟨s,v,q,e,hs,hv,hr⟩=>by
  subst e
  refine am (sZ hu hr) fun b f=>?_
  obtain⟨d,j⟩:=p
  rewrite[ax];refine aa sY ?_
  by_cases hc:d=c
  ·subst hc
   refine aa (if_pos rfl) (aa (if_pos ((hs.ne hu).mpr rfl)) ?_)
   exact⟨fun a e=>(by cases e;exact⟨v,rfl,hv⟩),fun e=>(by exact t9 e)⟩
  ·refine aa (if_neg hc) (aa (if_neg fun z=>hc ((hs.ne hu).mp z)) ?_)
   exact⟨b,f⟩
theorem dn {h:Heap} {m:Nat} {u:Str} {c:Nat} (hu:SR u c) {l:List (Nat×V)} {kvs:List (Str×bo)} (e:ERs g h U m l kvs) {a:V} (q:az c l=some a):∃v,valueAt kvs u=some v/\VR g h U m a v:=(sZ hu e).1 a q
theorem look_none {h:Heap} {m:Nat} {u:Str} {c:Nat} (hu:SR u c) {l:List (Nat×V)} {kvs:List (Str×bo)} (e:ERs g h U m l kvs) (q:az c l=none):valueAt kvs u=none:=(sZ hu e).2 q
theorem lQ {prog:KE} {w:World} {u:Str} {t:Tok}:(strKind prog w).is u (.str u t)=true:=by show bo.isStrOf u (.str u t)=true;simp[bo.isStrOf]
def kT (g:Gd):Prop:=∃o,g.B sysModules=some o
theorem jH (B:kT g) (W:R g Z U s.heap) {i:Nat} (hi:i<Z.nx):(U i==sysModules)=false:=by
 refine beq_eq_false_iff_ne.mpr fun z=>?_
 refine aG B fun o e=>?_
 have:=W.fresh i hi
 replace this:=e▸z▸this;exact t9 this
theorem xB {h:Heap} {m:Nat} {a b:V} {x y:bo} (ra:VR g h U m a x) (rb:VR g h U m b y) (e:uu a b=true):∃i t u,x=.int i t/\y=.int 0 u/\0<i:=by
 refine Mj e ?_;clear e;rintro w k rfl e
 refine pG e ?_;clear e;rintro n rfl e
 refine ak e fun c e=>?_
 obtain rfl:=bz e
 obtain rfl:=bz c
 refine bx ra ?_;clear ra;rintro i t rfl d
 refine aG rb ?_;clear rb;rintro u rfl
 exact⟨i,t,u,rfl,rfl,d⟩
def NI (g:Gd) (F X:Addr->Prop) (Z:St) (U:Nat->Addr) (s:ce) (A:ef) (E:bo->ce->Prop) (k:K1) (x y:bo) (t:Bool):Prop :=
 (k (.bool t) Z=true->dk g.m A (compareOp .In x y) (Po g F X Z U s k) E s)/\(k (.bool (!t)) Z=true->dk g.m A (compareOp .NotIn x y) (Po g F X Z U s k) E s)
theorem F5 {A:ef} {d x:Nat} (hu:A.units+70<cLine) (hm:x<=d) (d1:d<=16):A.units+1+x<cLine:=p0 (Nat.add_le_add_left (hD hm d1) _) (vO (a:=70) (b:=17) hu (by decide))
theorem HO (W:R g Z U s.heap) (P:Pv g F X Z U s.heap) {a:V} {l:List V} {x y:bo} {t:Bool} (ra:VR g s.heap U Z.nx a x) (rb:VR g s.heap U Z.nx (.tup l) y) (hu:A.units+70<cLine) (q:Le a l=some t):NI g F X Z U s A E k x y t:=by
 refine aA rb ?_;clear rb;rintro v G rfl i z;refine aA i fun C I f b c=>?_
 refine vN (AG ra z q) fun d H u B j w m n p e=>?_
 have o:Reads s.heap (.ref v) (.tuple u) B:=.tuple f b c (by simpa using w)
 have r:=Nat.min_le_right (ty.depthAll u) d.depth
 exact⟨fun h=>SeqAt.in_tuple_reads o j n m (F5 hu r p) (aa e (.here (a:=.bool _) W P rfl h)),fun h=>SeqAt.notIn_tuple_reads o j n m (F5 hu r p) (aa e (.here (a:=.bool _) W P rfl h))⟩
theorem HP (W:R g Z U s.heap) (P:Pv g F X Z U s.heap) {a:V} {l:List V} {i:Nat} {x:bo} {t:Bool} (ra:VR g s.heap U Z.nx a x) (eo:Z.get i=some (.lst l)) (hu:A.units+70<cLine) (q:Le a l=some t):NI g F X Z U s A E k x (.ref (U i)) t:=by
 refine ai (aB W eo) fun B b r=>?_;refine aG b fun n u=>?_
 refine vN (AG ra r q) fun d v o w c p f j y e=>?_
 have m:Reads s.heap (.ref (U i)) (.list o) _:=.list u rfl rfl p
 have z:=Nat.min_le_right (ty.depthAll o) d.depth
 exact⟨fun h=>SeqAt.in_list_reads m c j f (by lia) (aa e (.here (a:=.bool _) W P rfl h)),fun h=>SeqAt.notIn_list_reads m c j f (by lia) (aa e (.here (a:=.bool _) W P rfl h))⟩
theorem AH (B:kT g) (W:R g Z U s.heap) (P:Pv g F X Z U s.heap) {i:Nat} {u:Str} {tk:Tok} {kvs:List (Str×bo)} {t:Bool} (hi:i<Z.nx) (hd:s.heap.DictOf (strKind g.prog g.w) (U i) kvs) (e:(valueAt kvs u).isSome=t):NI g F X Z U s A E k (.str u tk) (.ref (U i)) t :=
 ⟨fun h=>wpAny_in_of (knd:=strKind g.prog g.w) (k:=u) lQ (jH B W hi) hd.mapOf (aa e (.now (a:=.bool _) W P rfl h)),fun h=>wpAny_notIn_of (knd:=strKind g.prog g.w) (k:=u) lQ (jH B W hi) hd.mapOf (aa e (.now (a:=.bool _) W P rfl h))⟩
theorem F6 (B:kT g) (W:R g Z U s.heap) (P:Pv g F X Z U s.heap) {a b:V} {x y:bo} (ra:VR g s.heap U Z.nx a x) (rb:VR g s.heap U Z.nx b y) (hu:A.units+70<cLine) {t:Bool} (q:OE Z a b=some t):NI g F X Z U s A E k x y t:=by
 induction b using eV with
 | tup l=>exact HO W P ra rb hu q
 | obj i =>
  refine am rb ?_;clear rb;rintro rfl w
  have q:PE Z a (Z.get i)=some t:=q
  induction f:Z.get i using cN with
  | none=>replace q:=f▸q;exact bj q
  | some o =>
   replace q:=f▸q
   induction o using eO with
   | lst l=>exact HP W P ra f hu q
   | dic l =>
    refine ai (aB W f) fun n p j=>?_
    induction a using eV with
    | str c =>
     refine bx ra ?_;clear ra;rintro u z rfl h
     refine AH B W P w p ?_
     have q:(match az c l with|some _=>some true|none=>some false)=some t:=q
     induction d:az c l using cN with
     | none=>replace q:=d▸q;cases q;exact aa (look_none h j d) rfl
     | some v=>replace q:=d▸q;cases q;refine ai (dn h j d) fun C e r=>?_;exact aa e rfl
    | _=>exact bj q
   | pd l =>
    refine aA (aB W f) fun n G p j m=>?_
    induction a using eV with
    | str c =>
     refine bx ra ?_;clear ra;rintro u z rfl h
     refine AH B W P w p ?_
     have q:(match az c l with|some _=>some true|none=>none)=some t:=q
     induction d:az c l using cN with
     | none=>replace q:=d▸q;exact bj q
     | some v=>replace q:=d▸q;cases q;refine ai (dn h j (m _ _ d)) fun C e r=>?_;exact aa e rfl
    | _=>exact bj q
   | _=>exact bj q
 | _=>exact bj q
theorem s8 {a b:V} {x y:bo} (ra:VR g s.heap U Z.nx a x) (rb:VR g s.heap U Z.nx b y) {f:Int->Int->Bool} {G:Prop} (h:cM (cI f a b) (fun t=>k (.bool t) Z)=true) (K:∀(i j:Int) (t u:Tok),x=.int i t->y=.int j u->k (.bool (f i j)) Z=true->G):G:=by
 refine bS h fun t e h=>?_
 refine yQ e ?_;clear e;rintro i rfl e
 refine yQ e ?_;clear e;rintro j rfl e
 cases e
 refine aG ra fun t c=>?_
 refine aG rb fun u d=>?_
 exact K _ _ t u c d h
theorem AI (B:kT g) (W:R g Z U s.heap) (P:Pv g F X Z U s.heap) {op:CmpOp} {a b:V} {x y:bo} (ra:VR g s.heap U Z.nx a x) (rb:VR g s.heap U Z.nx b y) (hu:A.units+70<cLine)
  (h:wi op a b Z (fun t=>k (.bool t) Z)=true):dk g.m A (compareOp op x y) (Po g F X Z U s k) E s:=by
 have c:∀{t:Bool},k (.bool t) Z=true->Po g F X Z U s k (.bool t) s:=fun h=>.here (a:=.bool _) W P rfl h
 cases op with
 | Eq =>
  induction d:uu a b using dI with
  | true =>
   have h:af (uu a b) (k (.bool false) Z) (cM (FM Z a b) fun t=>k (.bool t) Z)=true:=h
   replace h:=d▸h
   refine lc (xB ra rb d) ?_;rintro i t u rfl rfl n
   exact PySem.P.eq_int (aa (show(i==0)=false from beq_eq_false_iff_ne.mpr (by lia)) (c h))
  | false =>
   have h:af (uu a b) (k (.bool false) Z) (cM (FM Z a b) fun t=>k (.bool t) Z)=true:=h
   replace h:=d▸h
   refine bS h fun t e h=>?_;exact(AE W ra rb e (by lia)).1 (c h)
 | NotEq=>refine bS h fun t e h=>?_;exact(AE W ra rb e (by lia)).2 (c h)
 | Is =>
  refine f7 h ?_;clear h;rintro rfl h
  refine bS h fun t e h=>?_
  cases rb
  refine am (q8 ra e) fun f l=>?_
  exact wpAny_is_plain f (aa l (c h))
 | IsNot =>
  refine f7 h ?_;clear h;rintro rfl h
  refine bS h fun t e h=>?_
  cases rb
  refine am (q8 ra e) fun f l=>?_
  exact wpAny_isNot_plain f (aa l (c h))
 | In=>refine bS h fun t e h=>?_;exact(F6 B W P ra rb hu e).1 h
 | NotIn=>refine bS h fun t e h=>?_;exact(F6 B W P ra rb hu e).2 h
 | Lt=>refine s8 ra rb h ?_;clear h;rintro i j t u rfl rfl h;exact PySem.P.lt_int (c h)
 | Gt =>
  have h:af (uu a b) (k (.bool true) Z) (cM (cI (fun x y=>decide (y<x)) a b) fun t=>k (.bool t) Z)=true:=h
  induction d:uu a b using dI with
  | true =>
   replace h:=d▸h
   refine lc (xB ra rb d) ?_;rintro i t u rfl rfl n
   exact PySem.P.gt_int (aa (decide_eq_true n) (c h))
  | false=>replace h:=d▸h;refine s8 ra rb h ?_;clear h;rintro i j t u rfl rfl h;exact PySem.P.gt_int (c h)
 | LtE=>refine s8 ra rb h ?_;clear h;rintro i j t u rfl rfl h;exact PySem.P.le_int (c h)
 | GtE=>refine s8 ra rb h ?_;clear h;rintro i j t u rfl rfl h;exact PySem.P.ge_int (c h)
theorem HQ (W:R g Z U s.heap) (P:Pv g F X Z U s.heap) {a b:V} {x y:bo} (ra:VR g s.heap U Z.nx a x) (rb:VR g s.heap U Z.nx b y) (h:Lu a b Z k=true) :
  dk g.m A (binaryOp .Sub x y) (Po g F X Z U s k) E s:=by
 refine kR (v:=a) h ?_;clear h;rintro i rfl h
 refine kR (v:=b) h ?_;clear h;rintro j rfl h
 refine aG ra ?_;clear ra;rintro t rfl
 refine aG rb ?_;clear rb;rintro u rfl
 exact PySem.P.sub_int (.now (a:=.int (i - j)) W P ⟨_,rfl⟩ h)
theorem mQ {y:Int} (h:ff y=true):1<=y/\y<=4000000000:=by
 cases y with
 | ofNat n =>
  refine ak (show af (eL 1 n) (eL n 4000000000) false=true from h) fun a h=>?_
  have a:=bY a
  have h:=bY h
  exact⟨by show(1:Int)<=(n:Int);lia,by show(n:Int)<=4000000000;lia⟩
 | negSucc n=>exact aS h
theorem uD {y:Int} (h:ff y=true):je.Int.intBits y<=64:=by
 refine am (mQ h) fun b a=>?_
 exact intBits_le_64 (by lia) (by lia)
theorem pM {y:Int} (h:ff y=true):¬(y==0)=true:=fun e=>by
 have:=(mQ h).1
 have e:=beq_iff_eq.mp e
 lia
theorem td {x y:Int} (h:ff y=true):¬(je.divisionGoesByPylong x y)=true:=by
 refine am (mQ h) fun b a=>?_
 unfold je.divisionGoesByPylong
 have c:y.natAbs.log2<300*30:=by
  have:y.natAbs<2 ^ (300*30):=p0 (m:=4000000000) (Ob (n:=4000000000) (by assumption) (by assumption)) (f3 (m:=2 ^ 32) (by decide) (Nat.pow_le_pow_right (by decide) (by decide)))
  exact(Nat.log2_lt (Oc (by assumption))).mpr this
 have:decide ((if(y==0)=true then 0 else y.natAbs.log2 / 30+1) > 300)=false:=by
  refine aa (if_neg (pM h)) ?_
  exact decide_eq_false (Od (by assumption))
 simp only[this,Bool.false_and]
 decide
theorem te (W:R g Z U s.heap) (P:Pv g F X Z U s.heap) {op:Operator} {f:Int->Int->Int} {c:Int->Int->Bool} {a b:V} {x y:bo} (ra:VR g s.heap U Z.nx a x) (rb:VR g s.heap U Z.nx b y)
  (ho:∀{i j:Int} {t u:Tok} {Q:bo->ce->Prop},c i j=true->(Made.int (f i j)).post Q s->dk g.m A (binaryOp op (.int i t) (.int j u)) Q E s)
  (h:oP a (fun x=>oP b fun y=>af (c x y) (k (.int (f x y)) Z) false)=true):dk g.m A (binaryOp op x y) (Po g F X Z U s k) E s:=by
 refine kR (v:=a) h ?_;clear h;rintro i rfl h
 refine kR (v:=b) h ?_;clear h;rintro j rfl h
 refine ak h fun d h=>?_
 refine aG ra ?_;clear ra;rintro t rfl
 refine aG rb ?_;clear rb;rintro u rfl
 exact ho d (show Po g F X Z U s k (.int (f i j) s.toks) {s with toks:=s.toks+1} from .now (a:=.int (f i j)) W P ⟨_,rfl⟩ h)
theorem Ml {E:bo->ce->Prop} {A:ef} {s:ce} {t u:Tok} {Q:bo->ce->Prop} {prog:KE} {w:World} (h:(Made.int 1000000000000000000).post Q s):dk (model prog w) A (binaryOp .Pow (.int 10 t) (.int 18 u)) Q E s :=
 PySem.AutoIntOps.pow_4 (by decide) (by decide) (by decide) (by decide) (by decide) (by refine aa (show(10:Int) ^ (18:Int).toNat=1000000000000000000 by decide) ?_;exact h)
theorem HR (W:R g Z U s.heap) (P:Pv g F X Z U s.heap) {op:Operator} {a b:V} {x y:bo} (ra:VR g s.heap U Z.nx a x) (rb:VR g s.heap U Z.nx b y) (h:i5 op a b Z k=true) :
  dk g.m A (binaryOp op x y) (Po g F X Z U s k) E s:=by
 cases op with
 | Add=>exact HL W P ra rb h
 | Sub=>exact HQ W P ra rb h
 | Mult=>exact te (f:=fun x y=>x*y) (c:=fun e y=>ff y) W P ra rb (fun d h=>PySem.AutoIntOps.mul_0 h (.of_right (uD d))) h
 | Mod=>exact te (f:=fun x y=>x.fmod y) (c:=fun e y=>ff y) W P ra rb (fun d h=>PySem.AutoIntOps.mod_1 (pM d) h) h
 | FloorDiv=>exact te (f:=fun x y=>x.fdiv y) (c:=fun e y=>ff y) W P ra rb (fun d h=>PySem.AutoIntOps.floordiv_1 (pM d) (td d) h) h
 | Pow =>
  refine kR (v:=a) h ?_;clear h;rintro i rfl h
  refine kR (v:=b) h ?_;clear h;rintro j rfl h
  refine ak h fun n h=>?_
  refine ak h fun l h=>?_
  obtain rfl:=of_decide_eq_true n
  obtain rfl:=of_decide_eq_true l
  refine aG ra ?_;clear ra;rintro t rfl
  refine aG rb ?_;clear rb;rintro u rfl
  exact Ml (show Po g F X Z U s k (.int 1000000000000000000 s.toks) {s with toks:=s.toks+1} from .now (a:=.int 1000000000000000000) W P ⟨_,rfl⟩ h)
 | _=>exact aS h
end
theorem eJ {α:Type}:∀(l:List α) (n:Nat),dG l n=l[n]?
 | [],_=>rfl
 | _::_,0=>rfl
 | _::r,n+1=>eJ r n
theorem VRs.get {g:Gd} {h:Heap} {U:Nat->Addr} {m:Nat} {l:List V} {vs:List bo} {n:Nat} {a:V} (r:VRs g h U m l vs) (e:l[n]?=some a):∃v,vs[n]?=some v/\VR g h U m a v:=by
 revert n;refine no_implicit_lambda% (r.ind ?_ ?_)
 ·intro n e;exact bj e
 ·intro x l v q b _ c n e
  induction n using jq with
  | zero=>cases e;exact⟨v,rfl,b⟩
  | succ n=>exact c e
theorem VRs.drop {g:Gd} {h:Heap} {U:Nat->Addr} {m:Nat}:∀{l:List V} {vs:List bo} (n:Nat),VRs g h U m l vs->VRs g h U m (l.drop n) (vs.drop n)
 | _,_,0,x=>x
 | [],_,n+1,e=>by cases e;exact rfl
 | _::_,_,n+1,⟨v,q,e,_,hr⟩=>by cases e;exact hr.drop n
theorem VRs.take {g:Gd} {h:Heap} {U:Nat->Addr} {m:Nat}:∀{l:List V} {vs:List bo} (n:Nat),VRs g h U m l vs->VRs g h U m (l.take n) (vs.take n)
 | _,_,0,x=>by simp only[List.take_zero];exact rfl
 | [],_,n+1,e=>by cases e;exact rfl
 | _::_,_,n+1,⟨v,q,e,hv,hr⟩=>by cases e;exact⟨v,_,rfl,hv,hr.take n⟩
theorem VRs.snoc {g:Gd} {h:Heap} {U:Nat->Addr} {m:Nat} {l:List V} {vs:List bo} {a:V} {v:bo} (x:VRs g h U m l vs) (y:VR g h U m a v):VRs g h U m (l++[a]) (vs++[v]):=x.append ⟨v,[],rfl,y,rfl⟩
theorem VRs.reverse {g:Gd} {h:Heap} {U:Nat->Addr} {m:Nat}:∀{l:List V} {vs:List bo},VRs g h U m l vs->VRs g h U m l.reverse vs.reverse
 | [],_,e=>by cases e;exact rfl
 | _::_,_,⟨v,q,e,hv,hr⟩=>by cases e;exact aa kf (aa kf (hr.reverse.snoc hv))
theorem PG {n:Nat} (h:n<=1000000):-(2 ^ 63)<=x0 n/\x0 n<2 ^ 63:=Ok h
theorem PH {n:Nat} (h:Nat.succ n<=1000000):-(2 ^ 63)<=Int.negSucc n/\Int.negSucc n<2 ^ 63:=Of h
theorem OP {n m:Nat} (h:Nat.succ n<=m):Int.negSucc n+m=((m - (n+1):Nat):Int):=by lia
theorem F7 {g:Gd} {h:Heap} {U:Nat->Addr} {m:Nat} {l:List V} {vs:List bo} {i:Int} {a:V} (r:VRs g h U m l vs) (q:Lf l i=some a) :
  ∃j v,seqIndex? i vs.length=some j/\vs[j]?=some v/\VR g h U m a v/\-(2 ^ 63)<=i/\i<2 ^ 63/\(0<=i->j=i.toNat)/\(i<0->-(vs.length:Int)<=i/\j=(i+vs.length).toNat):=by
 have f:=r.length
 cases i with
 | ofNat n =>
  refine am (nV (b:=eL n 1000000) (x:=dG l n) q) fun o q=>?_
  rw[eJ] at q
  have d:=bY o
  refine ai (r.get q) fun v e k=>?_
  have y:n<vs.length:=(C7.mp e).1
  have w:¬((x0 n)<0):=Int.not_lt.mpr (Int.natCast_nonneg n)
  refine⟨n,v,?_,e,k,(PG d).1,(PG d).2,fun A=>rfl,fun z=>absurd z w⟩
  ·unfold seqIndex?
   simp only[w,if_false]
   refine aa (if_pos (by simp only[h9,decide_eq_true_eq];exact⟨Int.natCast_nonneg n,Int.ofNat_lt.mpr y⟩)) ?_
   rfl
 | negSucc n =>
  refine am (nV (b:=eL (Nat.succ n) (Nat.min (len l) 1000000)) (x:=dG l (Nat.sub (len l) (Nat.succ n))) q) fun o q=>?_
  rw[eJ,bB] at q
  have d:=bY o
  rw[bB] at d
  have u:Nat.succ n<=l.length:=hD d (Nat.min_le_left _ _)
  have s:Nat.succ n<=1000000:=hD d (Nat.min_le_right _ _)
  refine ai (r.get q) fun v e k=>?_
  have B:Nat.sub l.length (Nat.succ n)=l.length - (n+1):=rfl
  replace e:=B▸e
  have c:Int.negSucc n<0:=Int.negSucc_lt_zero n
  have t:=OP (f▸u:Nat.succ n<=vs.length)
  have p:(Int.negSucc n+vs.length).toNat=l.length - (n+1):=by exact aa t (aa f rfl)
  refine⟨l.length - (n+1),v,?_,e,k,(PH s).1,(PH s).2,fun z=>absurd c (Int.not_lt.mpr z),fun A=>⟨by refine aa f ?_;lia,p.symm⟩⟩
  unfold seqIndex?
  simp only[c,if_true]
  refine aa (if_pos (by simp only[h9,decide_eq_true_eq];refine aa t ?_;exact⟨Int.natCast_nonneg _,Int.ofNat_lt.mpr (Nat.sub_lt (f3 (Nat.succ_pos n) (f▸u)) (Nat.succ_pos n))⟩)) (aa p ?_);rfl
section
variable {g:Gd} {F X:Addr->Prop} {s:ce} {U:Nat->Addr} {Z:St} {A:ef} {E:bo->ce->Prop} {k:K1} {t:Nat} {Q:bo->ce->Prop}
theorem Dx {h:Heap} {m:Nat} {ns:List Nat} {l:List V} {vs:List bo} {i c:Nat} (q:wk ns l=true) (r:VRs g h U m l vs) (e:ns[i]?=some c):∃u t,vs[i]?=some (.str u t)/\SR u c:=by
 induction ns generalizing l vs i with
 | nil=>exact bj e
 | cons n ns o =>
  induction l using fV with
  | nil=>exact aS q
  | cons a l =>
   refine aA r ?_;rintro v r rfl d k
   have q:gf a (fun c=>af (c6 c n) (wk ns l) false)=true:=q
   refine gC q ?_;clear q;rintro b rfl q
   refine ak q fun p f=>?_
   have:=bz p
   subst this
   induction i using jq with
   | zero=>cases e;exact bx d fun u t e j=>⟨u,t,congrArg some e,j⟩
   | succ i=>exact o (i:=i) f k e
theorem HS {l:List Nat} (hl:l.length<=6) {i c:Nat} (e:l[i]?=some c):i<6:=f3 (C7.mp e).1 hl
theorem HT (W:R g Z U s.heap) (P:Pv g F X Z U s.heap) {a b:V} {x y:bo} {value slice:PySem.Expr} {ops:List bo} (ra:VR g s.heap U Z.nx a x) (rb:VR g s.heap U Z.nx b y) (h:cM (mN a b Z) (fun u=>k u Z)=true)
  (hs:subscripted slice false x y=operate ops (getItem x y)):dk g.m A (subscriptTail value slice x y) (Po g F X Z U s k) E s:=by
 refine bS h fun u e I=>?_
 induction a using eV with
 | tup l =>
  induction b using eV with
  | int i =>
   have e:Lf l i=some u:=e
   refine aA ra ?_;clear ra;rintro a1 Y rfl a3 r;refine aA a3 fun o n ho K p=>?_
   refine aG rb ?_;clear rb;rintro t rfl
   refine oN (F7 r e) fun j v C d f S h4 a5 a4=>?_
   have ht:IsTup s.heap a1 Y.toArray:=⟨o,ho,K,n,p⟩
   exact tail_any ht.typeIs slot_tuple_getitem.lookup (PyProof.Rows.getItem_tuple ht S h4 (by simpa using C) (by simpa using d) (.here W P f I)) hs
  | _=>exact bj e
 | obj Q =>
  refine am ra ?_;clear ra;rintro rfl hi
  have e:An (Z.get Q) b=some u:=e
  induction G:Z.get Q using cN with
  | none=>replace e:=G▸e;exact bj e
  | some o =>
   replace e:=G▸e
   induction o using eO with
   | lst l =>
    induction b using eV with
    | int n =>
     have e:Lf l n=some u:=e
     refine aG rb ?_;clear rb;rintro t rfl
     refine ai (aB W G) fun Y H r=>?_
     refine oN (F7 r e) fun j v C d f S h4 h5 h6=>?_
     rw[u3] at d
     replace h6:=ir▸h6
     refine tail_any H.isList.typeIs slot_list_getitem.lookup ?_ hs
     by_cases h0:0<=n
     ·replace d:=h5 h0▸d
      exact wpAny_getItem_list H.isList h0 h4 d (.here W P f I)
     ·refine am (h6 (by lia)) fun h7 h8=>?_
      replace d:=h8▸d
      exact wpAny_getItem_list_neg H.isList (by lia) h7 S d (.here W P f I)
    | ab w n =>
     refine ai (aB W G) fun Y H r=>?_
     have L:∀{i:Nat} {t:Tok} {M:List Nat},y=.int i t->M.length<=6->M[i]?=some (g.nam n)->wk M l=true->u=.ab 0 n->dk g.m A (subscriptTail value slice (.ref (U Q)) y) (Po g F X Z U s k) E s:=by
      intro i t M J hn B q eu
      subst J eu
      refine bx (Dx q r B) fun z t' d hz=>?_
      rw[u3] at d
      have:=HS hn B
      exact tail_any H.isList.typeIs slot_list_getitem.lookup (wpAny_getItem_list H.isList (by lia) (by lia) (by simpa using d) (.here (a:=.ab 0 n) W P ⟨z,t',rfl,hz⟩ I)) hs
     induction w using jq with
     | zero=>exact bj e
     | succ w =>
      induction w using jq with
      | zero =>
       refine bx rb fun i t J B=>?_
       refine am (nV (b:=wk nm6 l) (x:=some (V.ab 0 n)) e) fun q e=>?_
       exact L J (by decide) B q (ma e).symm
      | succ w =>
       induction w using jq with
       | zero=>exact bj e
       | succ w =>
        induction w using jq with
        | zero =>
         refine bx rb fun i t J B=>?_
         refine am (nV (b:=wk Lb l) (x:=some (V.ab 0 n)) e) fun q e=>?_
         exact L J (by decide) B q (ma e).symm
        | succ w=>exact bj e
    | _=>exact bj e
   | dic l =>
    induction b using eV with
    | str c =>
     have e:az c l=some u:=e
     refine bx rb ?_;clear rb;rintro w t rfl K
     refine ai (aB W G) fun a2 p r=>?_
     refine ai (dn K r e) fun v C f=>?_
     exact tail_any p.mapOf.typeIs slot_dict_getitem.lookup (wpAny_getItem_of (knd:=strKind g.prog g.w) lQ p.mapOf C (.now W P f I)) hs
    | _=>exact bj e
   | pd l =>
    induction b using eV with
    | str c =>
     have e:az c l=some u:=e
     refine bx rb ?_;clear rb;rintro w t rfl K
     refine aA (aB W G) fun a2 l' p r N=>?_
     refine ai (dn K r (N _ _ e)) fun v C f=>?_
     exact tail_any p.mapOf.typeIs slot_dict_getitem.lookup (wpAny_getItem_of (knd:=strKind g.prog g.w) lQ p.mapOf C (.now W P f I)) hs
    | _=>exact bj e
   | _=>exact bj e
 | _=>exact bj e
theorem c9 {a:V} {x:bo} {h:Heap} {m:Nat} (r:VR g h U m a x):(a=.none->IsPart x none)/\∀i,a=.int i->IsPart x (some i):=by
 constructor
 ·rintro rfl;cases r;exact .none
 ·rintro i rfl;refine aG r ?_;clear r;rintro t rfl;exact .int i t
theorem yR (items:Array bo) (a:Nat):slicePick items (some (x0 a)) none none=(items.toList.drop a).toArray:=by
 rw[kms_pick_eq]
 unfold kms_pick kms_lo kms_hi
 simp only[Int.ofNat_eq_natCast]
 refine aa (if_neg (by lia)) (aa (Int.toNat_natCast _) (aa (kmk_drop_min _ _) ?_));rw[List.take_of_length_le]
 exact aa I1 Qh
theorem yS (items:Array bo) (b:Nat):slicePick items none (some (x0 b)) none=(items.toList.take b).toArray:=by
 rw[kms_pick_eq]
 unfold kms_pick kms_lo kms_hi
 simp only[Int.ofNat_eq_natCast]
 exact aa (if_neg (by lia)) (aa (Int.toNat_natCast _) (aa List.drop_zero (aa (Nat.sub_zero _) (aa (kmk_take_min _ _) rfl))))
theorem yT (items:Array bo):slicePick items none (some (Int.negSucc 0)) none=(items.toList.take (items.toList.length - 1)).toArray:=by
 rw[kms_pick_eq]
 unfold kms_pick kms_lo kms_hi
 simp only
 exact aa (if_pos (by decide)) (aa List.drop_zero (aa (Nat.sub_zero _) rfl))
theorem AJ (items:Array bo) (h:items.toList.length<=1):slicePick items none (some 0) (some (-1))=#[]:=by
 replace h:=ir▸h
 unfold slicePick
 have e:sliceRange (sliceBounds none (some 0) (some (-1)) items.size).1 (sliceBounds none (some 0) (some (-1)) items.size).2.1 (sliceBounds none (some 0) (some (-1)) items.size).2.2=[]:=by
  generalize items.size=n at h
  induction n using jq with
  | zero=>decide
  | succ n=>cases Nat.le_zero.mp (Nat.le_of_succ_le_succ h);decide
 exact aa e rfl
theorem HU {l r:List V} {lo hi st:V} {x y z:bo} {vs:Array bo} {h:Heap} {m:Nat} (q:Lg l lo hi st=some r) (hl:VRs g h U m l vs.toList) (rl:VR g h U m lo x) (rh:VR g h U m hi y) (rs:VR g h U m st z) :
  ∃pl pu ps,IsPart x pl/\IsPart y pu/\IsPart z ps/\ps≠some 0/\VRs g h U m r (slicePick vs pl pu ps).toList:=by
 refine fR q (fun e p=>?_) (fun d p=>?_)<;>clear q
 ·obtain rfl:=pH e
  refine fR p (fun f q=>?_) (fun d q=>?_)<;>clear p e
  ·obtain rfl:=pH f
   clear f
   refine yQ q ?_;clear q;rintro i rfl q
   cases i with
   | ofNat a=>cases q;exact⟨_,_,_,(c9 rl).2 _ rfl,(c9 rh).1 rfl,(c9 rs).1 rfl,by decide,by refine aa (yR _ _) ?_;simpa using hl.drop _⟩
   | negSucc n=>exact bj q
  ·refine fR q (fun f p=>?_) (fun d q=>by exact bj q)
   clear q
   obtain rfl:=pH f
   clear f
   refine yQ (show FH hi _=some r from p) ?_;rintro i rfl q
   clear p
   cases i with
   | ofNat b=>cases q;exact⟨_,_,_,(c9 rl).1 rfl,(c9 rh).2 _ rfl,(c9 rs).1 rfl,by decide,by refine aa (yS _ _) ?_;simpa using hl.take _⟩
   | negSucc n =>
    refine fR (b:=c6 n 0) q (fun c p=>?_) (fun d q=>by exact bj q)
    clear q
    obtain rfl:=bz c
    clear c
    cases p;exact⟨_,_,_,(c9 rl).1 rfl,(c9 rh).2 _ rfl,(c9 rs).1 rfl,by decide,by refine aa (yT _) (aa hl.length (aa (bB _) ?_));simpa using hl.take _⟩
 ·refine fR p (fun e q=>?_) (fun d q=>by exact bj q)
  clear p
  obtain rfl:=pH e
  clear e
  refine yQ q ?_;rintro i rfl p
  clear q
  refine fR p (fun c q=>?_) (fun d q=>by exact bj q)
  clear p
  obtain rfl:=of_decide_eq_true c
  clear c
  refine fR q (fun c p=>?_) (fun d p=>?_)<;>clear q
  ·obtain rfl:=pH c
   cases p;exact⟨_,_,_,(c9 rl).1 rfl,(c9 rh).1 rfl,(c9 rs).2 _ rfl,by decide,aa (krv_pick _) hl.reverse⟩
  ·refine yQ p ?_;rintro j rfl q
   clear p
   refine fR q (fun c p=>?_) (fun d q=>by exact bj q)
   clear q
   obtain rfl:=of_decide_eq_true c
   clear c
   refine fR p (fun c q=>?_) (fun d q=>by exact bj q)
   clear p
   cases q
   exact⟨_,_,_,(c9 rl).1 rfl,(c9 rh).2 _ rfl,(c9 rs).2 _ rfl,by decide,by refine aa (AJ _ (aa hl.length (bw (bB _) (bY c)))) ?_;exact rfl⟩
theorem uE (x:Str) (b:Nat) (t u:Tok) (h:x.length<=b):sliceMade x t none (some (x0 b,u)) none=.val (.str x t):=by
 have e:slicePicked x none (some (x0 b,u)) none=List.range x.length:=by
  unfold slicePicked
  simp only[Option.map_none,Option.map_some,Option.getD_none]
  have c:¬((x0 b)<0):=On
  have d:max (0:Int) (min (x0 b) (x.length:Int))=x.length:=Om h
  simp only[je.Str.strSliceIndices,sliceRange,c,if_false,d,show((1:Int) > 0)=True from by simp,if_true]
  by_cases hlt:(0:Int)<x.length
  ·refine aa (if_pos hlt) ?_
   have a:(((x.length:Int) - 0+1 - 1) / 1).toNat=x.length:=by refine aa (Int.ediv_one _) ?_;lia
   refine aa a ?_
   conv=>rhs;rw[<-List.map_id (List.range x.length)]
   refine List.map_congr_left fun k f=>?_
   simp
  ·refine aa (if_neg hlt) ?_
   have:x.length=0:=by lia
   exact aa this rfl
 unfold sliceMade
 refine aa e ?_
 simp
theorem HV (W:R g Z U s.heap) (P:Pv g F X Z U s.heap) {a lo hi st:V} {o x y z:bo} {value slice:PySem.Expr} {ops:List bo} (ra:VR g s.heap U Z.nx a o) (rl:VR g s.heap U Z.nx lo x) (rh:VR g s.heap U Z.nx hi y) (rs:VR g s.heap U Z.nx st z)
  (h:Ly a lo hi st Z k=true) (hs:∀q,subscripted slice false o q=operate (ops++[q]) (getItem o q)\/subscripted slice false o q=operate (q::ops) (getItem o q)) :
  dk g.m A (newFields "slice" [x,y,z]) (fun i s'=>dk g.m A (subscriptTail value slice o i) (Po g F X Z U s k) E s') E s:=by
 unfold newFields
 refine GX ?_
 generalize hS:({cls:=.type "slice",data:=.fields [x,y,z].toArray}:Obj)=oS
 have G:Go g F X Z U s Z U {s with heap:=s.heap.push oS,toks:=s.toks}:=.grow W P (aF _ _)
 have d:∀{T id:String},({s with heap:=s.heap.push oS}:ce).TypeIs o T->typeLookup (.type T) "__getitem__"=pure (some (.builtin id))->dk g.m A (getItem o (.ref s.heap.objs.size)) (Po g F X Z U s k) E {s with heap:=s.heap.push oS} ->
   dk g.m A (subscriptTail value slice o (.ref s.heap.objs.size)) (Po g F X Z U s k) E {s with heap:=s.heap.push oS}:=fun a b c=>by
  rcases hs (.ref s.heap.objs.size) with e|e<;>exact tail_any a b c e
 have j:(s.heap.push oS).get? s.heap.objs.size=some oS:=fI _ (bw hS rfl)
 induction a using eV with
 | obj i =>
  refine fz h fun l Q h=>?_
  refine bS h fun r er h=>?_
  refine ak h fun J h=>?_
  refine am ra ?_;clear ra;rintro rfl a1
  refine ai (aB W Q) fun S hl B=>?_
  refine GU (HU er B rl rh rs) fun M I N p1 p2 p3 Y r2=>?_
  have v:=hl.isList.push oS
  refine d (v.typeIs (s:={s with heap:=s.heap.push oS})) slot_list_getitem.lookup ?_
  refine wpAny_getItem_list_slice (sl:=s.heap.objs.size) v ⟨oS,j,bw hS rfl,bw hS rfl⟩ p1 p2 p3 Y ?_ ?_
  ·have r3:VRs g (s.heap.push oS) U Z.nx r (slicePick S M I N).toList:=G.vrs r2
   have:=sU (t:=s.toks) (n:=0) G.r G.p (k:=k) r3 h
   replace this:=B1▸this
   exact Po.from W G this
  ·have:=B.length
   replace this:=ir▸this
   exact aa this (dw (fA J))
 | str c =>
  have h:Lw c lo hi st Z k=true:=h
  refine f7 h ?_;clear h;rintro rfl h
  refine pG h ?_;clear h;rintro b rfl h
  refine f7 h ?_;clear h;rintro rfl h
  ·refine ak h fun f h=>?_
   have f:=bY f
   refine bx ra ?_;clear ra;rintro p t rfl H
   cases rl;cases rs
   refine aG rh ?_;clear rh;rintro u rfl
   refine d (typeIs_str _ _ _) PySem.F.slot_str_getitem.lookup ?_
   refine wpAny_getItem_str_slice (l:=none) (u:=some (x0 b,u)) (st:=none) ⟨oS,j,bw hS rfl,bw hS rfl⟩ rfl ?_
   refine aa (uE _ _ _ _ (bw H.len (hD f (Nat.min_le_left _ _)))) ?_
   exact Po.from W G (Po.here (a:=.str c) G.r G.p ⟨p,t,rfl,H⟩ h)
 | ab w c =>
  refine ak (b:=c6 w 2) (x:=Lx c lo hi st Z k) h fun K f=>?_
  clear h
  have h:=f
  clear f
  obtain rfl:=bz K
  refine f7 h ?_;clear h;rintro rfl h
  refine pG h ?_;clear h;rintro b rfl h
  refine f7 h ?_;clear h;rintro rfl h
  refine ak h fun f h=>?_
  have f:=bY f
  refine aA ra ?_;clear ra;rintro p t rfl C L
  cases rl;cases rs
  refine aG rh ?_;clear rh;rintro u rfl
  refine d (typeIs_str _ _ _) PySem.F.slot_str_getitem.lookup ?_
  refine wpAny_getItem_str_slice (l:=none) (u:=some (x0 b,u)) (st:=none) ⟨oS,j,bw hS rfl,bw hS rfl⟩ rfl ?_
  refine aa (uE _ _ _ _ (hD C (hD f (Nat.min_le_left _ _)))) ?_
  exact Po.from W G (Po.here (a:=.ab 2 c) G.r G.p ⟨p,t,rfl,C,L⟩ h)
 | _=>exact aS h
theorem pN (W:R g Z U s.heap) {v:V} {x:bo} {q:List V->Bool} (r:VR g s.heap U Z.nx v x) (h:oA v Z q=true) :
  ∃l a o T vs n,x=.ref a/\(T="list"\/T="tuple")/\s.heap.get? a=some o/\o.cls=.type T/\o.data=.seq vs n/\VRs g s.heap U Z.nx l vs.toList/\q l=true/\((T="tuple"/\v=.tup l)\/(T="list"/\∃i,a=U i/\v=.obj i/\Z.get i=some (.lst l)/\s.heap.PlainList a vs)):=by
 induction v using eV with
 | tup l =>
  refine aA r ?_;clear r;rintro a vs rfl d r;refine aA d fun o n b f j=>?_
  exact⟨l,a,o,"tuple",vs.toArray,n,rfl,.inr rfl,b,f,j,by simpa using r,h,.inl ⟨rfl,rfl⟩⟩
 | obj i =>
  refine fz h fun l e h=>?_
  refine am r ?_;clear r;rintro rfl k
  refine ai (aB W e) fun vs c r=>?_;refine aG c fun n b=>?_
  exact⟨l,_,_,"list",vs,n,rfl,.inl rfl,b,rfl,rfl,r,h,.inr ⟨rfl,i,rfl,rfl,e,n,b⟩⟩
 | _=>exact aS h
theorem AK (W:R g Z U s.heap) (P:Pv g F X Z U s.heap) {l:List V} {us:List bo} (r:VRs g s.heap U Z.nx l us) (h:xp l Z k=true):dk g.m A (call (.type "tuple") us) (Po g F X Z U s k) E s:=by
 refine g7 h ?_;clear h;rintro v rfl h
 refine aA r ?_;clear r;rintro x q rfl r rfl
 refine oO (pN W r h) fun l a o T b=>?_;refine oN b ?_;clear b;rintro C n rfl I y e w d b;refine am b fun c z=>?_
 have u:C.size<=sizeLine:=by
  have:=d.length
  replace this:=ir▸this
  exact aa this (dw (pK c))
 rcases z with ⟨rfl,rfl⟩|⟨rfl,i,rfl,rfl,H,j⟩
 ·exact call_tuple_same ⟨o,y,e,n,w⟩ (.here (a:=.tup l) W P r (cb c).2)
 ·refine call_tuple_list j.isList (fun f B=>?_) u
  have G:Go g F X Z U s Z U {s with heap:=f,toks:=s.toks}:=.grow W P B
  have:=sV (t:=s.toks) (n:=0) G.r G.p (k:=k) (G.vrs d) c
  replace this:=B1▸this
  exact Po.from W G this
theorem Dy (W:R g Z U s.heap) (P:Pv g F X Z U s.heap) {l:List V} {us:List bo} (r:VRs g s.heap U Z.nx l us) (h:Ap l Z k=true):dk g.m A (call (.type "list") us) (Po g F X Z U s k) E s:=by
 refine g7 h ?_;clear h;rintro v rfl h
 refine aA r ?_;clear r;rintro x q rfl r rfl
 refine oO (pN W r h) fun l a o T b=>?_;refine oN b ?_;clear b;rintro f n rfl t y j u d b;refine am b fun h z=>?_
 have p:f.size<=sizeLine:=by
  have:=d.length
  replace this:=ir▸this
  exact aa this (dw (pJ h))
 refine call_list_seq (hsz:=p) a t y j u fun C w e c=>?_
 refine⟨_,_,.obj Z.nx,.new W P e _ (cn _) c (o:=.lst l) ⟨f,⟨w,c⟩,d.mono (.of_keeps e) (fun i B=>bu B) (sr _)⟩,⟨aa upd_at rfl,f2 _⟩,(cb h).2⟩
theorem HW (B:kT g) (W:R g Z U s.heap) (P:Pv g F X Z U s.heap) {l:List V} {us:List bo} (r:VRs g s.heap U Z.nx l us) (h:FP l Z k=true):dk g.m A (call (.builtin "len") us) (Po g F X Z U s k) E s:=by
 refine g7 h ?_;clear h;rintro v rfl h
 refine aA r ?_;clear r;rintro x q rfl r rfl
 induction v using eV with
 | tup l =>
  have h:af (ua l) (k (.int (len l)) Z) false=true:=h
  refine ak h fun c h=>?_
  rw[bB] at h
  refine aA r ?_;clear r;rintro a C rfl t r;refine aA t fun o n z w p=>?_
  have f:=r.length
  have u:=fA c
  refine PyProof.Rows.len_tuple ⟨o,z,w,n,p⟩ (by refine aa oL ?_;lia) ?_
  refine aa oL (aa f ?_)
  exact .now (a:=.int l.length) W P ⟨_,rfl⟩ h
 | obj i =>
  have h:LA (Z.get i) (fun n=>k (.int n) Z)=true:=h
  refine am r ?_;clear r;rintro rfl y
  induction d:Z.get i using cN with
  | none=>replace h:=d▸h;exact aS h
  | some o =>
   replace h:=d▸h
   induction o using eO with
   | lst r =>
    have h:af (ua r) (k (.int (len r)) Z) false=true:=h
    refine ak h fun c h=>?_
    rw[bB] at h
    refine ai (aB W d) fun C f e=>?_
    have b:=e.length
    replace b:=ir▸b
    have u:=fA c
    refine call_len_list f.isList (by lia) ?_
    refine aa b ?_
    exact .now (a:=.int r.length) W P ⟨_,rfl⟩ h
   | dic r =>
    have h:af (ua r) (k (.int (len r)) Z) false=true:=h
    refine ak h fun c h=>?_
    rw[bB] at h
    refine ai (aB W d) fun j p e=>?_
    have b:j.length=r.length:=e.length
    have u:=fA c
    refine call_len_dict (jH B W y) p (by lia) ?_
    refine aa b ?_
    exact .now (a:=.int r.length) W P ⟨_,rfl⟩ h
   | _=>exact aS h
 | _=>exact aS h
theorem jJ (vs:Array bo) (n:Nat) (f:Array bo->Array bo):∃m,jj f {cls:=.type "list",data:=.seq vs n}={cls:=.type "list",data:=.seq (f vs) m}:=⟨_,rfl⟩
theorem th (W:R g Z U s.heap) (P:Pv g F X Z U s.heap) {i:Nat} {l₀ l:List V} {vs:Array bo} {n:Nat} {a:V} {v:bo} (f:Array bo->Array bo) (hm:Z.mut i=true) (ei:Z.get i=some (.lst l₀)) (ho:s.heap.get? (U i)=some {cls:=.type "list",dict:=none,data:=.seq vs n,slots:=#[]})
  (rl:VRs g s.heap U Z.nx l (f vs).toList) (ra:VR g s.heap U Z.nx a v) (h:k a (Z.set i (.lst l))=true):Po g F X Z U s k v {s with heap:=s.heap.update (U i) (jj f),toks:=t}:=by
 refine aG (jJ vs n f) fun m d=>?_
 have c:(s.heap.update (U i) (jj f)).get? (U i)=some {cls:=.type "list",data:=.seq (f vs) m}:=by
  rw[l5 _ ho (aa d rfl),d]
 have G:Go g F X Z U s (Z.set i (.lst l)) U {s with heap:=s.heap.update (U i) (jj f),toks:=t} :=
  .set W P hm ei (fun b o j e=>(ix _ _ (Ne.symm j)).trans e) c fun L=>⟨f vs,⟨m,c⟩,rl.mono L (fun p p=>rfl) (e5 _)⟩
 exact⟨_,U,a,G,G.vr ra,h⟩
theorem dH {h:Heap} {m:Nat} {l:List V} {vs:Array bo} (r:VRs g h U m l vs.toList):vs.size=l.length:=by
 have:=r.length
 rwa [ir] at this
theorem yU (W:R g Z U s.heap) (P:Pv g F X Z U s.heap) {i:Nat} {r l:List V} {us:List bo} (ei:Z.get i=some (.lst r)) (rl:VRs g s.heap U Z.nx l us) (h:uw i r l Z k=true) :
  dk g.m A (call (.builtin "list.append") (.ref (U i)::us)) (Po g F X Z U s k) E s:=by
 refine g7 h ?_;clear h;rintro v rfl h
 refine aA rl ?_;clear rl;rintro x q rfl f rfl
 refine ak h fun b h=>?_
 refine ak h fun j h=>?_
 have b:=fA b
 refine ai (aB W ei) fun t c e=>?_;refine aG c fun n d=>?_
 have p:=dH e
 refine call_meets PySem.F.slot_list_append ⟨_,d,rfl⟩ PySem.F.entry_list_append (PySem.F.args_list_append_2 _ _) (list_append (U i) t n x (by replace b:=I3▸sh▸b;refine aa p ?_;exact dw (by lia))) ⟨d,?_⟩
 exact th W P (a:=.none) (v:=.none) (fun o=>o.push x) j ei d (aa Array.toList_push (e.snoc f)) rfl h
theorem HX (W:R g Z U s.heap) (P:Pv g F X Z U s.heap) {i:Nat} {r l:List V} {us:List bo} (ei:Z.get i=some (.lst r)) (rl:VRs g s.heap U Z.nx l us) (h:FW i r l Z k=true) :
  dk g.m A (call (.builtin "list.pop") (.ref (U i)::us)) (Po g F X Z U s k) E s:=by
 refine uB h fun I o=>?_
 clear h
 subst I
 cases rl
 refine ai (aB W ei) fun b p w=>?_;refine aG p fun n u=>?_
 have d:=dH w
 split at o
 ·rename_i v q e
  refine ak o fun c h=>?_
  refine ak h fun H h=>?_
  have c:=fA c
  replace c:=C5▸c
  have B:r=q.reverse++[v]:=by exact bw (List.reverse_reverse r) (aa e (aa kf rfl))
  subst B
  replace d:=C5▸I3▸sh▸d
  have j:VRs g s.heap U Z.nx (q.reverse++[v]).reverse b.toList.reverse:=w.reverse
  replace j:=e▸j
  refine aA j fun x f L z t=>?_
  have y:b.toList=f.reverse++[x]:=by exact bw (List.reverse_reverse b.toList) (aa L (aa kf rfl))
  have C:b[b.size - 1]?=some x:=by
   rw[<-u3,y,d]
   have:f.length=q.length:=t.length
   simp[this]
  refine call_meets PySem.F.slot_list_pop ⟨_,u,rfl⟩ PySem.F.entry_list_pop (PySem.F.args_list_pop_1 _) (PySem.MeetsSeq.list_pop_last (U i) b n x C (aa d (hD (Nat.succ_le_succ c) (by decide)))) ⟨u,?_⟩
  refine th W P (a:=v) (v:=x) (fun K=>K.eraseIdxIfInBounds (b.size - 1)) H ei u ?_ z h
  have G:(b.eraseIdxIfInBounds (b.size - 1)).toList=f.reverse:=by
   have:(b.eraseIdxIfInBounds (b.size - 1)).toList=b.toList.eraseIdx (b.size - 1):=by simp
   refine aa this (aa y (aa d ?_))
   have J:q.length+1 - 1=f.reverse.length:=by exact aa C5 (aa t.length rfl)
   refine aa J (aa (List.eraseIdx_append_of_length_le (e5 _) _) ?_)
   simp
  exact aa G t.reverse
 ·exact aS o
end
def aL:Addr->Prop:=fun a=>False
inductive PoB (g:Gd) (F X:Addr->Prop) (Z:St) (U:Nat->Addr) (s:ce) (k:Bool->St->Bool) (b:Bool) (s':ce):Prop
 | mk (Z':St) (U':Nat->Addr) (G:Go g F X Z U s Z' U' s') (h:k b Z'=true)
inductive PoL (g:Gd) (F X:Addr->Prop) (Z:St) (U:Nat->Addr) (s:ce) (k:List V->St->Bool) (vs:List bo) (s':ce):Prop
 | mk (Z':St) (U':Nat->Addr) (l:List V) (G:Go g F X Z U s Z' U' s') (r:VRs g s'.heap U' Z'.nx l vs) (h:k l Z'=true)
def Fl (g:Gd) (h₀:Heap) (Z:St) (U:Nat->Addr) (h:Heap) (a:Addr):Prop :=
 h₀.get? a=none/\∃oe vs,h.get? a=some oe/\oe.data=.fields vs/\1<vs.size /\
  (vs[1]?=some .none\/∃T oT ts fl,vs[1]?=some (.ref T)/\h₀.get? T=none/\g.B T=none/\T≠a/\(∀j,j<Z.nx->U j≠T)/\h.get? T=some oT/\oT.data=.fields ts/\ts[3]?=some fl)
theorem Fl.back {g:Gd} {h₀ h₁:Heap} {Z:St} {U:Nat->Addr} {h:Heap} {a:Addr} (k:∀b o,h₀.get? b=some o->∃o',h₁.get? b=some o') (x:Fl g h₁ Z U h a):Fl g h₀ Z U h a:=by
 have i:∀b,h₁.get? b=none->h₀.get? b=none:=fun b z=>by
  induction u:h₀.get? b using cN with
  | none=>rfl
  | some w=>refine aG (k _ _ u) fun y f=>?_;replace f:=z▸f;exact bj f
 refine am x fun n c=>?_;refine iE c fun s v e d z t=>?_
 refine⟨i _ n,s,v,e,d,z,t.imp id ?_⟩
 rintro⟨T,l,r,j,m,q,p⟩
 exact⟨T,l,r,j,m,i _ q,p⟩
inductive PX (g:Gd) (F X:Addr->Prop) (Z:St) (U:Nat->Addr) (s:ce) (x:KX) (v:bo) (s':ce):Prop
 | mk (Z':St) (U':Nat->Addr) (i:Nat) (G:Go g F X Z U s Z' U' s') (e:v=.ref (U' i)) (ex:∃c d,Z'.get i=some (.exn c d)/\c<100) (fl:Fl g s.heap Z' U' s'.heap (U' i)) (h:x i Z'=true)
section
variable {α β:Type} {M:Model} {A:ef} {g:Gd} {fr:Option Addr} {F X:Addr->Prop} {s s' s'':ce} {U U' U'':Nat->Addr} {Z Z' Z'':St} {k k':K1} {x:KX}
theorem PX.from(W:R g Z U s.heap) (y:Go g F X Z U s Z' U' s') {v:bo} (p:PX g F X Z' U' s' x v s''):PX g F X Z U s x v s'':=by
 obtain⟨f,h,i,a,b,c,d,e⟩:=p
 exact⟨f,h,i,y.trans W a,b,c,d.back y.sp.ex,e⟩
theorem PoB.from(W:R g Z U s.heap) (y:Go g F X Z U s Z' U' s') {k:Bool->St->Bool} {v:Bool} (p:PoB g F X Z' U' s' k v s''):PoB g F X Z U s k v s'':=by
 obtain⟨c,d,a,b⟩:=p
 exact⟨c,d,y.trans W a,b⟩
structure Mv {γ:Type} (g:Gd) (F X:Addr->Prop) (Q:St->(Nat->Addr)->ce->γ->ce->Prop):Prop where
 mv:∀{Z Z' U U' s s' v s''},R g Z U s.heap->Go g F X Z U s Z' U' s'->Q Z' U' s' v s''->Q Z U s v s''
theorem Mv.po:Mv g F X (fun Z U s=>Po g F X Z U s k):=⟨fun W y p=>p.from W y⟩
theorem Mv.pob {k:Bool->St->Bool}:Mv g F X (fun Z U s=>PoB g F X Z U s k):=⟨fun W y p=>p.from W y⟩
theorem uF {Q:St->(Nat->Addr)->ce->β->ce->Prop} (MQ:Mv g F X Q) (W:R g Z U s.heap) {m:Sem bo} {f:bo->Sem β} (h:dk M A m (Po g F X Z U s k') (PX g F X Z U s x) s)
  (n:∀Z' U' s' a v,Go g F X Z U s Z' U' s'->VR g s'.heap U' Z'.nx a v->k' a Z'=true->dk M A (f v) (Q Z' U' s') (PX g F X Z' U' s' x) s'):dk M A (m >>= f) (Q Z U s) (PX g F X Z U s x) s :=
 b9 (dt h (fun v c ⟨Z',U',a,G,r,d⟩=>dt (n Z' U' c a v G r d) (fun b b q=>MQ.mv W G q) fun b b q=>q.from W G) fun b b q=>q)
theorem AM {Q:St->(Nat->Addr)->ce->β->ce->Prop} (MQ:Mv g F X Q) (W:R g Z U s.heap) {kb:Bool->St->Bool} {m:Sem Bool} {f:Bool->Sem β} (h:dk M A m (PoB g F X Z U s kb) (PX g F X Z U s x) s)
  (n:∀Z' U' s' b,Go g F X Z U s Z' U' s'->kb b Z'=true->dk M A (f b) (Q Z' U' s') (PX g F X Z' U' s' x) s'):dk M A (m >>= f) (Q Z U s) (PX g F X Z U s x) s :=
 b9 (dt h (fun v c ⟨Z',U',G,d⟩=>dt (n Z' U' c v G d) (fun a a q=>MQ.mv W G q) fun a a q=>q.from W G) fun a a q=>q)
theorem Mm {Q:St->(Nat->Addr)->ce->β->ce->Prop} (MQ:Mv g F X Q) (W:R g Z U s.heap) {kl:List V->St->Bool} {m:Sem (List bo)} {f:List bo->Sem β} (h:dk M A m (PoL g F X Z U s kl) (PX g F X Z U s x) s)
  (n:∀Z' U' s' l vs,Go g F X Z U s Z' U' s'->VRs g s'.heap U' Z'.nx l vs->kl l Z'=true->dk M A (f vs) (Q Z' U' s') (PX g F X Z' U' s' x) s'):dk M A (m >>= f) (Q Z U s) (PX g F X Z U s x) s :=
 b9 (dt h (fun v b ⟨Z',U',l,G,r,c⟩=>dt (n Z' U' b l v G r c) (fun a a q=>MQ.mv W G q) fun a a q=>q.from W G) fun a a q=>q)
end
def aP (sc:Scope) (y:Nat) (k:i3):Bool:=(sc.names.lookup (nm y)==some k)&&(az y Oy).isSome&&!(nm y==("__debug__":Str))&&!(nm y==("__classdict__":Str))
structure EnvR (g:Gd) (env:Env) (sc:Scope) (Z:St) (U:Nat->Addr) (h:Heap) (cs:List (Nat×Nat)) (lv:aO):Prop where
 kind:env.scope.kind=.function
 loc:∃m,h.Ns env.locals m/\∀y v,az y lv=some v->∃u,m (nm y)=some u/\VR g h U Z.nx v u
 cel:∀y i,(aP sc y .cell||aP sc y .free)=true->az y cs=some i->i<Z.nx/\env.cells.lookup (nm y)=some (U i)
 knL:∀y,aP sc y .local=true->env.kindOf (nm y)=some .local
 knC:∀y,(aP sc y .cell||aP sc y .free)=true->env.kindOf (nm y)=some .cell\/env.kindOf (nm y)=some .free
 knG:∀y,aP sc y .globalImplicit=true->env.kindOf (nm y)=some .globalImplicit
 glob:env.globals=mainGlobals
 blt:env.builtins=builtinsNs
 cla:∀n,sc.names.lookup n=some .cell->env.kindOf n=some .cell/\∃a,env.cells.lookup n=some a
theorem EnvR.go {g:Gd} {env:Env} {sc:Scope} {F:Addr->Prop} {Z Z':St} {U U':Nat->Addr} {s s':ce} {cs:List (Nat×Nat)} {lv:aO} (e:EnvR g env sc Z U s.heap cs lv) (W:R g Z U s.heap) (P:Pv g F aL Z U s.heap) (hF:F env.locals)
  (G:Go g F aL Z U s Z' U' s'):EnvR g env sc Z' U' s'.heap cs lv where
 kind:=e.kind
 loc:=by
  refine ai e.loc fun m c l=>?_;refine hU c fun ob h j o r=>?_
  have n:¬HC Z U env.locals:=fun q=>aA q fun i k p z _=>(P _ (.inl hF)).2.2 i (W.ob i k p).1 z
  refine⟨m,?_,fun y v f=>ai (l y v f) fun u a b=>⟨u,a,G.vr b⟩⟩
  rcases G.sp.kp _ ob o n (fun z=>z) with d|⟨_,w,d⟩
  ·exact⟨ob,h,j,d,r⟩
  ·exact⟨_,h,j,d,r⟩
 cel:=fun y i t f=>by
  refine am (e.cel y i t f) fun a b=>?_
  exact⟨f3 a G.sp.nx,aa (G.sp.ag i a) b⟩
 knL:=e.knL
 knC:=e.knC
 knG:=e.knG
 glob:=e.glob
 blt:=e.blt
 cla:=e.cla
structure Frs (A:ef) (F:Addr->Prop) (fr:Option Addr):Prop where
 top:∀L,fr=some L->∃fe outer,A.frames=some (fe::outer)/\fe.frame=some L
 all:∃l,A.frames=some l/\∀e∈l,e.scope.kind≠.module/\∃b,e.frame=some b/\F b
section
variable {g:Gd} {F X:Addr->Prop} {s s' s'':ce} {U U' U'':Nat->Addr} {Z Z' Z'':St} {A:ef} {M:Model} {E:bo->ce->Prop} {t:Nat} {fr:Option Addr} {x:KX} {L:Addr} {env:Env}
theorem tj {h:Heap} {a:Addr} {o:Obj} (ho:h.get? a=some o) (f:Obj->Array (Option bo)):(h.update a fun o=>{o with slots:=f o}).get? a=some {o with slots:=f o} :=
 l5 _ ho (by
  have e:=(Heap.get?_some_iff.mp ho).2
  obtain⟨c,d,b,g⟩:=o
  cases b<;>first|rfl|exact e)
def SlF (F:Addr->Prop) (h h':Heap):Prop:=∀b o,h.get? b=some o->h'.get? b=some o\/(F b/\∃sl,h'.get? b=some {o with slots:=sl})
theorem SlF.refl {h:Heap}:SlF F h h:=fun a a e=>.inl e
theorem SlF.trans {h h' h'':Heap} (x:SlF F h h') (y:SlF F h' h''):SlF F h h'':=fun b o e=>by
 rcases x b o e with a|⟨f,g,a⟩
 ·exact y b o a
 ·rcases y b _ a with d|⟨_,c,d⟩
  ·exact .inr ⟨f,g,d⟩
  ·exact .inr ⟨f,c,d⟩
theorem AN {l:List Env} {Q:Unit->ce->Prop} (hl:∀e∈l,e.scope.kind≠.module/\∃b,e.frame=some b/\F b) (hF:∀b,F b->∃o,s.heap.get? b=some o)
  (h:∀h',SlF F s.heap h'->h'.objs.size=s.heap.objs.size->Q () {s with heap:=h'}):dk M A (readyFrames l) Q E s:=by
 induction l generalizing s Q with
 | nil=>simp only[readyFrames];exact ct (h _ .refl rfl)
 | cons e k x =>
  refine am (hl e (.head _)) fun y i=>?_;refine ai i fun b u p=>?_
  refine aG (hF b p) fun o g=>?_
  simp only[readyFrames,u]
  refine b9 (wpAny_load g ?_)
  by_cases hrd:((o.slots.getD 3 none).isSome)=true
  ·exact aa (if_pos hrd) (ct (h _ .refl rfl))
  ·refine aa (if_neg hrd) ?_
   refine b9 (wpAny_of_eq (a:=false) (by simp[behindIsImport,y]) ?_)
   refine b9 (wpAny_keptBack_false fun d=>?_)
   refine b9 (wpAny_update g ?_)
   have w:=tj g fun o=>#[some e.code,some (.ref e.globals),o.slots.getD 2 none,some d,o.slots.getD 4 none,e.func.map bo.ref,some (.ref e.builtins)]
    ++ (e.cells.map fun c=>some (.ref c.2)).toArray
   have one:SlF F s.heap (s.heap.update b fun o=>{o with slots:=#[some e.code,some (.ref e.globals),o.slots.getD 2 none,some d,o.slots.getD 4 none,e.func.map bo.ref,some (.ref e.builtins)]
    ++ (e.cells.map fun c=>some (.ref c.2)).toArray}):=fun c r f=>by
    by_cases q:c=b
    ·subst q;replace f:=g▸f;cases f;exact .inr ⟨p,_,w⟩
    ·exact .inl ((ix _ _ (Ne.symm q)).trans f)
   refine x (fun e m=>hl e (.tail _ m)) (fun c t=>?_) fun h' n v=>h h' (one.trans n) (v.trans (Heap.size_after_update ..))
   refine aG (hF c t) fun r f=>?_
   rcases one c r f with j|⟨_,_,j⟩
   ·exact⟨_,j⟩
   ·exact⟨_,j⟩
theorem Go.slots (W:R g Z U s.heap) (P:Pv g F X Z U s.heap) {h':Heap} (k:SlF F s.heap h'):Go g F X Z U s Z U {s with heap:=h',toks:=t}:=by
 have c:∀b o,s.heap.get? b=some o->¬F b->h'.get? b=some o:=fun b o e A=>(k b o e).resolve_right fun z=>A z.1
 have h:∀i,i<Z.nx->¬F (U i):=fun i l f=>(P _ (.inl f)).2.2 i l rfl
 have L:Later s.heap h':=fun b o e f=>by
  rcases k b o e with r|⟨x,_⟩
  ·exact r
  ·refine am (P b (.inl x)) fun m w=>?_;refine ai m fun p u h=>?_;replace u:=e▸u;cases u;exact absurd f h
 have j:∀b,NF s.heap b->NF h' b:=fun b y=>ai y fun p e h=>by
  rcases k b p e with r|⟨_,B,r⟩
  ·exact⟨p,r,h⟩
  ·exact⟨_,r,fun f=>h f⟩
 refine⟨rfl,⟨e5 _,fun d d=>rfl,fun b o e d d=>k b o e,fun d a b=>absurd b (ji a),fun d o d e=>⟨o,e⟩,fun b o e=>?_,fun b d n=>j b n,⟨rfl,rfl⟩,fun d d d=>rfl⟩,
  ⟨fun b o e=>c b o (W.base b o e) fun f=>(by replace e:=(P b (.inl f)).2.1▸e;exact bj e),W.fresh,W.inj,fun i l=>?_,fun i o e=>?_⟩,fun b q=>⟨j b (P b q).1,(P b q).2⟩,L⟩
 ·rcases k b o e with r|⟨_,_,r⟩<;>exact⟨_,r⟩
 ·refine aG (W.ex i l) fun o e=>?_;exact⟨o,c _ o e (h i l)⟩
 ·have v:=aC W e
  exact⟨v,(aB W e).mono L (fun d d=>rfl) (e5 _) fun o e=>c _ o e (h i v)⟩
theorem Go.same' (W:R g Z U s.heap) (P:Pv g F X Z U s.heap) {h':Heap} {i:Nat} {c d:Nat} (ei:Z.get i=some (.exn c d)) (k:∀b o,b≠U i->s.heap.get? b=some o->h'.get? b=some o)
  {ob:Obj} (ea:h'.get? (U i)=some ob) (L:Later s.heap h'->OR g h' U Z.nx (U i) (.exn c d)):Go g F X Z U s Z U {s with heap:=h',toks:=t}:=by
 have n:=aC W ei
 have u:Later s.heap h':=fun b o e f=>by
  by_cases l:b=U i
  ·subst l;exact absurd f ((aB W ei).notFast o e)
  ·exact k b o l e
 refine⟨rfl,⟨e5 _,fun m m=>rfl,fun b h e A m=>.inl (k b h (fun z=>A ⟨i,_,ei,z.symm,.inr ⟨c,d,rfl⟩⟩) e),fun m a b=>absurd b (ji a),fun j h m e=>⟨_,e⟩,fun b h e=>?_,fun b l C=>ai C fun h e v=>?_,⟨rfl,rfl⟩,fun m m m=>rfl⟩,
  ⟨fun b o e=>k b o (fun z=>?_) (W.base b o e),W.fresh,W.inj,fun j p=>?_,fun j h e=>?_⟩,fun b q=>?_,u⟩
 ·by_cases l:b=U i
  ·subst l;exact⟨_,ea⟩
  ·exact⟨h,k b h l e⟩
 ·exact⟨h,k b h (fun z=>(P b (.inr l)).2.2 i n z.symm) e,v⟩
 ·have:=W.fresh i n;rewrite[<-z] at this;replace this:=(e)▸this;exact t9 this
 ·by_cases l:U j=U i
  ·exact aa l ⟨_,ea⟩
  ·refine aG (W.ex j p) fun x E=>?_;exact⟨x,k _ _ l E⟩
 ·by_cases p:i=j
  ·subst p;replace e:=ei▸e;cases e;exact⟨n,L u⟩
  ·have w:=aC W e
   exact⟨w,(aB W e).mono u (fun m m=>rfl) (e5 _) fun o e=>k _ o (fun z=>p (W.inj i j n w z.symm)) e⟩
 ·refine cE (P b q) fun r B y=>?_;refine ai r fun h e v=>?_
  exact⟨⟨h,k b h (fun z=>y i n z.symm) e,v⟩,B,y⟩
theorem Go.poke (W:R g Z U s.heap) (G:Go g F X Z U s Z' U' s') {h':Heap} {T:Addr} (nT:s.heap.get? T=none) (bT:g.B T=none) (dT:∀j,j<Z'.nx->U' j≠T) {oT:Obj} {ts:Array bo} (eT:s'.heap.get? T=some oT) (fT:oT.data=.fields ts)
  (k:∀b o,b≠T->s'.heap.get? b=some o->h'.get? b=some o) {oT':Obj} {ts':Array bo} (eT':h'.get? T=some oT') (fT':oT'.data=.fields ts'):Go g F X Z U s Z' U' {s' with heap:=h',toks:=t}:=by
 have c:∀{o:Obj} {ts:Array bo},o.data=.fields ts->¬Fast o:=fun h f=>by rcases f with ⟨_,_,_,d⟩|⟨_,_,d⟩<;>(replace d:=h▸d)<;>cases d
 have u:∀b o,s.heap.get? b=some o->b≠T:=fun b o e z=>by replace e:=nT▸z▸e;exact bj e
 have x:Later s'.heap h':=fun b o e f=>by
  by_cases a:b=T
  ·subst a;replace e:=eT▸e;cases e;exact absurd f (c fT)
  ·exact k b o a e
 have m:∀b,NF s'.heap b->NF h' b:=fun b J=>ai J fun v e K=>by
  by_cases a:b=T
  ·subst a;exact⟨_,eT',c fT'⟩
  ·exact⟨v,k b v a e,K⟩
 refine⟨aa G.same rfl,⟨G.sp.nx,G.sp.ag,fun b o e H L=>?_,G.sp.new,G.sp.old,fun b o e=>?_,fun b a n=>m b (G.sp.pv b a n),G.sp.fx,G.sp.im⟩,⟨fun b o e=>k b o (fun z=>by replace e:=bT▸z▸e;exact bj e) (G.r.base b o e),G.r.fresh,G.r.inj,fun i y=>?_,fun i o e=>?_⟩,fun b q=>⟨m b (G.p b q).1,(G.p b q).2⟩,fun b o e f=>x b o (G.l b o e f) f⟩
 ·rcases G.sp.kp b o e H L with r|⟨f,C,r⟩
  ·exact .inl (k b _ (u b o e) r)
  ·exact .inr ⟨f,C,k b _ (u b o e) r⟩
 ·refine aG (G.sp.ex b o e) fun A I=>?_
  exact⟨A,k b _ (u b o e) I⟩
 ·refine aG (G.r.ex i y) fun o e=>?_;exact⟨o,k _ o (dT i y) e⟩
 ·have w:=aC G.r e
  exact⟨w,(aB G.r e).mono x (fun E E=>rfl) (e5 _) fun o e=>k _ o (dT i w) e⟩
inductive Tb (g:Gd) (h₀:Heap) (Z:St) (U:Nat->Addr) (h:Heap) (a:Addr) (fl:bo):Prop
 | mk (n:h₀.get? a=none) (oe:Obj) (vs:Array bo) (T:Addr) (oT:Obj) (ts:Array bo) (a1:h.get? a=some oe) (a2:oe.data=.fields vs) (a3:vs[1]?=some (.ref T)) (a4:h₀.get? T=none) (a5:g.B T=none) (a6:T≠a) (a7:(∀j,j<Z.nx->U j≠T)) (a8:h.get? T=some oT) (a9:oT.data=.fields ts) (a10:ts[3]?=some fl)
inductive PN (g:Gd) (F X:Addr->Prop) (Z:St) (U:Nat->Addr) (s:ce) (x:KX) (fl:bo) (v:bo) (s':ce):Prop
 | mk (Z':St) (U':Nat->Addr) (i:Nat) (G:Go g F X Z U s Z' U' s') (e:v=.ref (U' i)) (ex:∃c d,Z'.get i=some (.exn c d)/\c<100) (tb:Tb g s.heap Z' U' s'.heap (U' i) fl) (h:x i Z'=true)
theorem PN.px {v fl:bo} (p:PN g F X Z U s x fl v s'):PX g F X Z U s x v s':=by
 obtain⟨l,t,i,G,e,c,⟨n,o,y,T,d,j,f,h,b,m,q,k,u,r,w,a⟩,hx⟩:=p
 exact⟨l,t,i,G,e,c,⟨n,o,y,f,h,(C2.mp b).1,.inr ⟨T,d,j,_,b,m,q,k,u,r,w,a⟩⟩,hx⟩
theorem PN.pxL {v:bo} (p:PN g F X Z U s x (rawInt L) v s'):PX g F X Z U s x v s':=by
 obtain⟨l,t,i,G,e,c,⟨n,o,y,T,d,j,f,h,b,m,q,k,u,r,w,a⟩,hx⟩:=p
 exact⟨l,t,i,G,e,c,⟨n,o,y,f,h,(C2.mp b).1,.inr ⟨T,d,j,_,b,m,q,k,u,r,w,a⟩⟩,hx⟩
theorem iB (W:R g Z U s.heap) {fl:bo} {e:bo} {Q:Unit->ce->Prop} (p:PN g F X Z U s x fl e s') (fr':Option Addr) (h:∀s'',PN g F X Z U s x (fr'.elim .none fun f=>rawInt f) e s''->Q () s''):dk M A (setFlight e fr') Q E s':=by
 obtain⟨r,u,i,G,rfl,⟨c,d,m,q⟩,⟨n,oe,vs,T,oT,ts,a1,a2,a3,a4,a5,a6,a7,a8,a9,a10⟩,hx⟩:=p
 unfold setFlight
 refine b9 (B2 a1 a2 a3 ?_)
 refine aa (if_pos (show(bo.ref T !=bo.none)=true from by simp)) ?_
 have l:3<ts.size:=(C2.mp a10).1
 refine wpAny_setField a8 a9 l (h _ ?_)
 have a:=l5 (B4 (·.setIfInBounds 3 (fr'.elim .none fun f=>rawInt f))) a8 (IC (q0 a9 _))
 have j:∀b,b≠T->(s'.heap.update T (B4 (·.setIfInBounds 3 (fr'.elim .none fun f=>rawInt f)))).get? b=s'.heap.get? b:=fun b k=>ix _ _ (Ne.symm k)
 refine⟨r,u,i,Go.poke (t:=s'.toks) W G a4 a5 a7 a8 a9 (fun b o k e=>(j b k).trans e) a (q0 a9 _),rfl,⟨c,d,m,q⟩,⟨n,oe,vs,T,_,_,(j _ (Ne.symm a6)).trans a1,a2,a3,a4,a5,a6,a7,a,q0 a9 _,by simp[l]⟩,hx⟩
theorem kc (W:R g Z U s.heap) (FR:Frs A F (some L)) (hf:env.frame=some L) {e:bo} {Q:Unit->ce->Prop} (p:PX g F X Z U s x e s') (h:∀s'',PN g F X Z U s x (rawInt L) e s''->Q () s'') :
  dk M A (noteFrame e env) Q E s':=by
 obtain⟨Y,m,i,G,rfl,⟨c,d,ex,hc⟩,⟨n,C,P,a1,a2,hz,tb⟩,hx⟩:=p
 refine bx (FR.top L rfl) fun fe y a4 a6=>?_
 refine ai FR.all fun l N ad=>?_
 replace N:=a4▸N;cases N
 have hi:i<Y.nx:=aC G.r ex
 have I:∀(H:ce) (w:bo) (f:Bool) (C:Obj) (P:Array bo),Go g F X Z U s Y m H->H.heap.get? (m i)=some C->C.data=.fields P->1<P.size ->
   dk M A (do setField (.ref (m i)) 1 (<-EntryCells.newEntry w (<-PySem.frameOf env) .none (rawInt L) .none (<-entryPlaceOf L f))) Q E H:=by
  intro H w f C P G1 e1 J z1
  unfold PySem.frameOf
  refine b9 (b9 (wpAny_frameEnvs a4 ?_))
  have a9:((fe::y).dropWhile fun x=>x.frame !=env.frame)=fe::y:=by simp[List.dropWhile,a6,hf]
  refine aa a9 ?_
  unfold frameObject
  refine b9 (b9 (AN (F:=F) ad (fun b fb=>ai (G1.p b (.inl fb)).1 fun o e _=>⟨o,e⟩) fun a a5 u_=>ct ?_))
  refine aa a6 ?_
  refine ct ?_
  have G2:Go g F X Z U s Y m {H with heap:=a}:=G1.trans W (Go.slots (t:=H.toks) G1.r G1.p a5)
  have e2:a.get? (m i)=some C:=(a5 _ _ e1).resolve_right fun z=>(G1.p _ (.inl z.1)).2.2 i hi rfl
  refine b9 (wpAny_entryPlaceOf fun pl ag=>?_)
  unfold EntryCells.newEntry newFields
  refine b9 (GX ?_ (ag.sizeOk5 _ _ _ _ _))
  dsimp only
  generalize hoT:({cls:=.type "traceback",dict:=none,data:=.fields ([w,.ref L,.none,rawInt L,.none]++(if pl.isEmpty then List.replicate 6 bo.none else pl)).toArray}:Obj)=v
  have G3:Go g F X Z U s Y m {H with heap:=a.push v}:=G2.trans W (Go.grow (t:=H.toks) G2.r G2.p (aF _ _))
  have e3:(a.push v).get? (m i)=some C:=aF _ _ _ _ e2
  have fT:v.isFreed=false:=by exact bw hoT rfl
  have eT:(a.push v).get? a.objs.size=some v:=fI _ fT
  have a3:a.objs.size≠m i:=H5 (l4 e2)
  refine wpAny_setField e3 J z1 (h _ ?_)
  have e4:=l5 (B4 (·.setIfInBounds 1 (bo.ref a.objs.size))) e3 (IC (q0 J _))
  have u:∀b,b≠m i->((a.push v).update (m i) (B4 (·.setIfInBounds 1 (bo.ref a.objs.size)))).get? b=(a.push v).get? b:=fun b K=>ix _ _ (Ne.symm K)
  have nT:∀{h₁:Heap},(∀b o,h₁.get? b=some o->∃o',a.get? b=some o')->h₁.get? a.objs.size=none:=fun k=>by
   induction z:Heap.get? _ a.objs.size using cN with
   | none=>rfl
   | some o=>refine aG (k _ _ z) fun o' e'=>?_;exact absurd (l4 e') (nY _)
  have bT:g.B a.objs.size=none:=by
   induction z:g.B a.objs.size using cN with
   | none=>rfl
   | some o=>exact absurd (l4 (G2.r.base _ _ z)) (nY _)
  have ab:F3 g ((a.push v).update (m i) (B4 (·.setIfInBounds 1 (bo.ref a.objs.size)))) (m i) (m d) c:=by
   refine oN ((aB G3.r ex).1) fun ah al x1 x2 x3 x4 x5 x6 a8=>?_;refine am a8 fun x7 x8=>?_
   replace x1:=e3▸x1;cases x1
   replace x3:=J▸x3;cases x3
   refine⟨_,_,e4,(Obj.cls_mapFields _ _).trans x2,q0 J _,by simpa using x4,?_,fun z=>absurd hc (ji z),by simpa using x7,fun z=>by rw[C6 (by decide)];exact x8 z⟩
   obtain⟨c1,ap,ao,ar⟩:=C
   simp only at J x5;subst J
   exact x5
  refine⟨Y,m,i,G3.trans W (Go.same' (t:=H.toks) G3.r G3.p ex (fun b o K e=>(u b K).trans e) e4 fun u_=>⟨ab,(aB G3.r ex).2⟩),rfl,⟨c,d,ex,hc⟩,⟨n,_,_,a.objs.size,v,_,e4,q0 J _,by simp[z1],nT (fun b o e=>G2.sp.ex b o e),bT,a3,fun j hj z=>?_,(u _ a3).trans eT,bw hoT rfl,by simp⟩,hx⟩
  refine aG (G2.r.ex j hj) fun o e=>?_
  replace e:=z▸e
  exact absurd (l4 e) (nY _)
 unfold noteFrame
 simp only[hf]
 rcases tb with h1|⟨T,v,ts,fl,b1,b2,b3,b4,b5,b6,S,b8⟩
 ·refine b9 (B2 a1 a2 h1 ?_)
  refine aa (if_neg (by decide)) ?_
  exact I s' .none _ C P G a1 a2 hz
 ·refine b9 (B2 a1 a2 b1 ?_)
  refine aa (if_pos (show(bo.ref T !=bo.none)=true from by simp)) ?_
  refine b9 (B2 b6 S b8 ?_)
  by_cases q:(fl==rawInt L)=true
  ·refine aa (if_pos q) ?_
   obtain rfl:=beq_iff_eq.mp q
   exact ct (h _ ⟨Y,m,i,G,rfl,⟨c,d,ex,hc⟩,⟨n,C,P,T,v,ts,a1,a2,b1,b2,b3,b4,b5,b6,S,b8⟩,hx⟩)
  ·refine aa (if_neg q) ?_
   have h3:3<ts.size:=(C2.mp b8).1
   refine b9 (wpAny_setField b6 S h3 ?_)
   have a7:=l5 (B4 (·.setIfInBounds 3 bo.none)) b6 (IC (q0 S _))
   have u:∀b,b≠T->(s'.heap.update T (B4 (·.setIfInBounds 3 bo.none))).get? b=s'.heap.get? b:=fun b K=>ix _ _ (Ne.symm K)
   exact I _ (.ref T) _ C P (Go.poke (t:=s'.toks) W G b2 b3 b5 b6 S (fun b o K e=>(u b K).trans e) a7 (q0 S _)) ((u _ (Ne.symm b4)).trans a1) a2 hz
theorem ny (W:R g Z U s.heap) (hf:env.frame=some L) {e:bo} (p:PN g F X Z U s x (rawInt L) e s'):cameBackBy M A env (PX g F X Z U s x) e s':=by
 have d:=p
 obtain⟨l,o,i,G,rfl,h,⟨n,m,r,T,j,k,a,c,b,_⟩,hx⟩:=d
 show dk M A _ _ _ _
 refine b9 (B2 a c b ?_)
 refine aa (if_neg (by simp)) ?_
 refine aa hf ?_
 exact iB W p (some L) fun f q=>q.pxL
theorem wx (W:R g Z U s.heap) (FR:Frs A F (some L)) (hf:env.frame=some L) {e:bo} {Q:Unit->ce->Prop} (p:PX g F X Z U s x e s') (h:∀s'',PX g F X Z U s x e s''->Q () s'') :
  dk M A (leaving env e) Q E s':=by
 unfold leaving
 exact b9 (kc W FR hf p fun d b=>iB W b none fun c a=>h c a.px)
end
noncomputable def jK:Bi->bo
 | .tuple=>.type "tuple" | .list=>.type "list" | .len=>.builtin "len" | .dict=>.type "dict" | .sorted=>.builtin "sorted" | .str=>.type "str"
 | .range=>.type "range" | .zip=>.type "zip" | .enumerate=>.type "enumerate" | .int=>.type "int" | .exception=>.type "Exception"
structure Tx where
 t:List (Nat×V)
 lp:Bool
def Bh (g:Gd) (h:Heap):Prop:=∀b o,g.B b=some o->h.get? b=some o
structure BaseOk (g:Gd) (gT:Tx):Prop where
 sys:kT g
 nolim:∀h,Bh g h->h.NoLimit
 ns:∃mg mb,(∀h,Bh g h->h.Ns mainGlobals mg/\h.Ns builtinsNs mb) /\
  (∀y v,az y gT.t=some v->∃u,mg (nm y)=some u/\∀h U n,Bh g h->VR g h U n v u)/\(∀b:Bi,mg (nm (oB b))=none/\mb (nm (oB b))=some (jK b))
def lR (g:Gd) (A:ef) (F:Addr->Prop) (call:Call):Prop :=
 ∀{F':Addr->Prop} {fv:V} {l:List V} {Z:St} {k:K1} {x:KX} {U:Nat->Addr} {s:ce} {f:bo} {us:List bo},(∀b,F b->F' b)->call fv l Z k x=true->R g Z U s.heap->Pv g F' aL Z U s.heap->VR g s.heap U Z.nx fv f->VRs g s.heap U Z.nx l us ->
  dk g.m A (f5 f us) (Po g F' aL Z U s k) (PX g F' aL Z U s x) s
structure Cx (g:Gd) (gT:Tx) (call:Call) (A:ef) (F:Addr->Prop) (env:Env):Prop where
 base:BaseOk g gT
 hu:A.units+100<cLine
 call2:gT.lp=true->lR g A.in1.in1 F call
 call:lR g A F call
 fl:F env.locals
 hd:gT.lp=true->A.handled=none
 fr:∃L,env.frame=some L/\Frs A F (some L)
theorem Cx.thru {g:Gd} {gT:Tx} {call:Call} {A:ef} {F X:Addr->Prop} {env:Env} {Z:St} {U:Nat->Addr} {s s':ce} {x:KX} {e:bo} (C:Cx g gT call A F env) (W:R g Z U s.heap) (p:PX g F X Z U s x e s') :
  notedBy g.m A env (cameBackBy g.m A env (PX g F X Z U s x)) e s':=by
 refine ai C.fr fun L a c=>?_
 refine kc W c a p fun b q=>?_
 have:=ny (M:=g.m) (A:=A) W a q
 exact this
def SV (g:Gd) (gT:Tx) (fn:Bool) (sc:Scope) (e:X):Prop:=∀{call:Call} {A:ef} {F:Addr->Prop} {env:Env} {cs:List (Nat×Nat)} {vs cv:aO} {Z:St} {k:K1} {x:KX} {s:ce} {U:Nat->Addr},
 Cx g gT call A F env->R g Z U s.heap->Pv g F aL Z U s.heap->EnvR g env sc Z U s.heap cs (af fn vs cv)->dR e call cs vs cv Z k x=true ->
  dk g.m A (eval (aX e) env) (Po g F aL Z U s k) (PX g F aL Z U s x) s
def ST (g:Gd) (gT:Tx) (fn:Bool) (sc:Scope) (e:X):Prop:=∀{call:Call} {A:ef} {F:Addr->Prop} {env:Env} {cs:List (Nat×Nat)} {vs cv:aO} {Z:St} {k:Bool->St->Bool} {x:KX} {s:ce} {U:Nat->Addr},
 Cx g gT call A F env->R g Z U s.heap->Pv g F aL Z U s.heap->EnvR g env sc Z U s.heap cs (af fn vs cv)->dR e call cs vs cv Z (fun v Z=>fB v fun b=>k b Z) x=true ->
  dk g.m A (isTrue (aX e) env (eval (aX e) env)) (PoB g F aL Z U s k) (PX g F aL Z U s x) s
def SL (g:Gd) (gT:Tx) (fn:Bool) (sc:Scope) (e:X):Prop:=∀{call:Call} {A:ef} {F:Addr->Prop} {env:Env} {cs:List (Nat×Nat)} {vs cv:aO} {Z:St} {k:List V->St->Bool} {x:KX} {s:ce} {U:Nat->Addr} {pos:Pos},
 Cx g gT call A F env->R g Z U s.heap->Pv g F aL Z U s.heap->EnvR g env sc Z U s.heap cs (af fn vs cv)->dR e call cs vs cv Z (fun v Z=>bL v fun l=>k l Z) x=true ->
  dk g.m A (spliced (backTo pos (starEach (bg e) env))) (PoL g F aL Z U s k) (PX g F aL Z U s x) s
section
variable {g:Gd} {gT:Tx} {fn:Bool} {sc:Scope}
theorem fh {M:Model} {A:ef} {E:bo->ce->Prop} {s:ce} {b:Bool} {Q:Bool->ce->Prop} (h:Q b s):dk M A (truthy (.bool b)) Q E s:=wpAny_truthy_bool h
theorem AP {e:X} (h:SV g gT fn sc e) (hd:∀env t,isTrue (aX e) env t=(do let v <-t;standAt (aX e).pos;holding [v] (truthy v))):ST g gT fn sc e:=by
 intro d A F env j n m Z k x s U C W P E c
 refine aa (hd _ _) ?_
 refine uF Mv.pob W (h C W P E c) fun f i l a v G r c=>?_
 refine nU c ?_;clear c;rintro b rfl c
 cases r
 exact b9 (io (gv (fh ⟨f,i,.refl G.r G.p,c⟩)))
theorem HY {y:Nat} {p:Pos} (hfn:fn=true) (hk:aP sc y .local=true):SV g gT fn sc (.loc y p):=by
 intro a A F f j i l Z k x s U C W P E h
 subst hfn
 refine bS (o:=az y i) h fun v b h=>?_
 refine ai E.loc fun m N c=>?_
 refine ai (c y v b) fun u d r=>?_
 have e:(nm y==("__debug__":Str))=false:=by simp only[aP,h9,C3] at hk;exact hk.1.2
 exact wpAny_Name (wpAny_loadName_local E.kind (E.knL y hk) N d (.here W P r h)) e
theorem HZ {y:Nat} {p:Pos} (hfn:fn=false) (hk:aP sc y .local=true):SV g gT fn sc (.cvr y p):=by
 intro a A F f j l i Z k x s U C W P E h
 subst hfn
 refine bS (o:=az y i) h fun v b h=>?_
 refine ai E.loc fun m N c=>?_
 refine ai (c y v b) fun u d r=>?_
 have e:(nm y==("__debug__":Str))=false:=by simp only[aP,h9,C3] at hk;exact hk.1.2
 exact wpAny_Name (wpAny_loadName_local E.kind (E.knL y hk) N d (.here W P r h)) e
theorem AR {y:Nat} {p:Pos} (hk:(aP sc y .cell||aP sc y .free)=true):SV g gT fn sc (.cel y p):=by
 intro b A F l f t q Z k x s U C W P E h
 refine bS (o:=az y f) h fun i m h=>?_
 refine HI h fun v j h=>?_
 refine am (E.cel y i hk m) fun n a=>?_
 refine ai (aB W j) fun u c r=>?_
 have d:(nm y==("__debug__":Str))=false/\(nm y==("__classdict__":Str))=false:=by
  simp only[aP,Bool.or_eq_true,h9,C3] at hk
  rcases hk with hk|hk<;>exact⟨hk.1.2,hk.2⟩
 refine wpAny_Name ?_ d.1
 rcases E.knC y hk with e|e
 ·exact wpAny_loadName_cell E.kind e a c (.here W P r h)
 ·exact wpAny_loadName_free E.kind e a c (.here W P r h) d.2
theorem H0 {v:V} {y:Nat} {p:Pos} (hk:aP sc y .globalImplicit=true) (hg:az y gT.t=some v):SV g gT fn sc (.glo v y p):=by
 intro c A F f j m o Z k x s U C W P E h
 refine aA C.base.ns fun n l b a d=>?_
 refine ai (a y v hg) fun u e r=>?_
 have i:(nm y==("__debug__":Str))=false:=by simp only[aP,h9,C3] at hk;exact hk.1.2
 exact Name_function_global E.kind (E.knG y hk) (loadGlobal_global (E.glob▸(b _ W.base).1) e (.here W P (r _ _ _ W.base) h)) i
theorem oE {b:Bi} {p:Pos} {A:ef} {E':bo->ce->Prop} {call:Call} {F:Addr->Prop} {env:Env} {Z:St} {U:Nat->Addr} {s:ce} {cs:List (Nat×Nat)} {lv:aO} {Q:bo->ce->Prop} (hk:aP sc (oB b) .globalImplicit=true) (C:Cx g gT call A F env)
  (W:R g Z U s.heap) (E:EnvR g env sc Z U s.heap cs lv) (h:Q (jK b) s):dk g.m A (eval (.Name (nm (oB b)) p) env) Q E' s:=by
 refine aA C.base.ns fun i f a e c=>?_
 have d:(nm (oB b)==("__debug__":Str))=false:=by simp only[aP,h9,C3] at hk;exact hk.1.2
 exact Name_function_global E.kind (E.knG _ hk) (loadGlobal_builtin (E.glob▸(a _ W.base).1) (c b).1 (E.blt▸(a _ W.base).2) (c b).2 h) d
def OQ (s:Str) (c:Nat):Bool:=s.cps.toList.all (fun x=>l9 x 0x110000)&&c6 (hV s.cps.toList) c
def F8 (c:Const) (v:V):Bool:=match c with
 | .none=>r7 v
 | .bool a=>fB v fun b=>Dg a b
 | .int i=>oP v fun j=>decide (i=j)
 | .str s=>gf v (OQ s)
 | _=>false
theorem mR {a b:Bool} (h:Dg a b=true):a=b:=by cases a<;>cases b<;>first|rfl|exact aS h
theorem H7 {c:Const} {kk:Nat} {v:V} {p:Pos} (hc:F8 c v=true):SV g gT fn sc (.cst c kk v p):=by
 intro f A F e o r q Z k x s U C W P E h
 have d:k v Z=true:=h
 clear h
 show dk _ _ (eval (.Constant c kk p) e) _ _ s
 rw[PySem.eval_Constant]
 cases c with
 | none=>obtain rfl:=pH hc;exact ct (.here (a:=.none) W P rfl d)
 | bool a =>
  refine nU hc ?_;rintro b rfl h
  obtain rfl:=mR h
  exact ct (.here (a:=.bool a) W P rfl d)
 | int i =>
  refine kR hc ?_;rintro b rfl h
  obtain rfl:=of_decide_eq_true h
  exact wpAny_mkInt (.now (a:=.int i) W P ⟨_,rfl⟩ d)
 | str t =>
  refine gC hc ?_;rintro n rfl h
  refine am (kF.mp h) fun j m=>?_
  exact wpAny_mkText (.now (a:=.str n) W P ⟨t,_,rfl,fun x l=>bY (dV.mp j x l),bz m⟩ d)
 | _=>exact aS hc
theorem H8 {op:Operator} {l r:X} {p:Pos} (hl:SV g gT fn sc l) (hr:SV g gT fn sc r):SV g gT fn sc (.bin op l r p):=by
 intro f A F e m z y Z k x s U C W P E h
 show dk _ _ (eval (.BinOp (aX l) op (aX r) p) e) _ _ s
 rw[arm_eval_BinOp]
 refine uF Mv.po W (hl C W P E h) fun n B o a u c i h=>?_
 refine uF Mv.po c.r (gv (hr C c.r c.p (E.go W P C.fl c) h)) fun t q v b w d j h=>?_
 exact b9 (io (wpAny_operating (HR d.r d.p (d.vr i) j h)))
theorem H9 {op:CmpOp} {l r:X} {p:Pos} (hl:SV g gT fn sc l) (hr:SV g gT fn sc r) (hm:behindInMarks op (aX r)=false):SV g gT fn sc (.cmp op l r p):=by
 intro i A F c n z y Z k x s U C W P E h
 show dk _ _ (eval (.Compare (aX l) [op] [aX r] p) c) _ _ s
 rw[arm_eval_Compare]
 refine uF Mv.po W (hl C W P E h) fun o B f a u d j h=>?_
 show dk _ _ (compareChain p u [op] [markedBehindIn op (aX r) (eval (aX r) c)]) _ _ f
 refine aa (markedBehindIn_of_false hm) ?_
 show dk _ _ (do let rv <-holding [u] (eval (aX r) c);standAt p;operate [u,rv] (compareOp op u rv)) _ _ f
 refine uF Mv.po d.r (gv (hr C d.r d.p (E.go W P C.fl d) h)) fun t q v b w e m h=>?_
 exact b9 (io (wpAny_operating (AI C.base.sys e.r e.p (e.vr j) m (vO C.hu (by decide)) h)))
theorem Ia {op:CmpOp} {l r:X} {p:Pos} (hl:SV g gT fn sc l) (hr:SV g gT fn sc r) (hm:behindInMarks op (aX r)=false):ST g gT fn sc (.cmp op l r p):=by
 intro m A F d K J I Z k x s U C W P E h
 show dk _ _ (isTrue (.Compare (aX l) [op] [aX r] p) d _) _ _ s
 rw[arm_isTrue_Compare]
 refine uF Mv.pob W (hl C W P E h) fun z M j a u e n h=>?_
 show dk _ _ (testChain p u [op] [markedBehindIn op (aX r) (eval (aX r) d)]) _ _ j
 refine aa (markedBehindIn_of_false hm) ?_
 show dk _ _ (do let rv <-holding [u] (eval (aX r) d);standAt p;let c <-operate [u,rv] (compareOp op u rv);holding [c] (truthy c)) _ _ j
 refine uF Mv.pob e.r (gv (hr C e.r e.p (E.go W P C.fl e) h)) fun L G H b w f t h=>?_
 refine b9 (io ?_)
 refine uF Mv.pob f.r (wpAny_operating (AI (k:=fun v Z=>fB v fun b=>k b Z) C.base.sys f.r f.p (f.vr n) t (vO C.hu (by decide)) h)) fun y o B c v i q h=>?_
 refine nU h ?_;clear h;rintro b rfl h
 cases q
 exact gv (fh ⟨y,o,.refl i.r i.p,h⟩)
theorem Ib {a:X} {p:Pos} (ha:SV g gT fn sc a):SV g gT fn sc (.nott a p):=by
 intro d A F c i m n Z k x s U C W P E h
 show dk _ _ (eval (.UnaryOp .Not (aX a) p) c) _ _ s
 rw[arm_eval_UnaryOp]
 refine uF Mv.po W (ha C W P E h) fun j o l a u e f h=>?_
 refine nU h ?_;clear h;rintro b rfl h
 cases f
 refine b9 (io (gv ?_))
 unfold unaryOp
 refine gv ?_
 show dk _ _ (truthy (bo.bool b) >>= fun t=>pure (bo.bool (!t))) _ _ _
 exact b9 (fh (ct (.here (a:=.bool (!b)) e.r e.p rfl h)))
theorem Ic {a:X} {p:Pos} (ha:ST g gT fn sc a):ST g gT fn sc (.nott a p):=by
 intro d A F c j n m Z k x s U C W P E h
 show dk _ _ (isTrue (.UnaryOp .Not (aX a) p) c _) _ _ s
 rw[arm_isTrue_UnaryOp]
 refine AM Mv.pob W (ha (k:=fun b Z=>k (!b) Z) C W P E h) fun f i l b e h=>?_
 exact ct ⟨f,i,.refl e.r e.p,h⟩
theorem Ie {a:X} {p:Pos} (ha:SV g gT fn sc a):SV g gT fn sc (.neg a p):=by
 intro d A F b f m n Z k x s U C W P E h
 show dk _ _ (eval (.UnaryOp .USub (aX a) p) b) _ _ s
 rw[arm_eval_UnaryOp]
 refine uF Mv.po W (ha C W P E h) fun j o l a u e c h=>?_
 refine kR h ?_;clear h;rintro i rfl h
 refine aG c ?_;clear c;rintro t rfl
 exact b9 (io (gv (PySem.P.neg_int (.now (a:=.int (-i)) e.r e.p ⟨_,rfl⟩ h))))
theorem Ig {c a b:X} {p:Pos} (hc:ST g gT fn sc c) (ha:SV g gT fn sc a) (hb:SV g gT fn sc b):SV g gT fn sc (.ite c a b p):=by
 intro d A F f i l j Z k x s U C W P E h
 show dk _ _ (eval (.IfExp (aX c) (aX a) (aX b) p) f) _ _ s
 rw[arm_eval_IfExp]
 refine AM Mv.po W (hc (k:=fun z Z=>af z (dR a d i l j Z k x) (dR b d i l j Z k x)) C W P E h) fun m o n t e h=>?_
 induction t using dI with
 | true=>exact ha C e.r e.p (E.go W P C.fl e) h
 | false=>exact hb C e.r e.p (E.go W P C.fl e) h
theorem Ih {c a b:X} {p:Pos} (hc:ST g gT fn sc c) (ha:ST g gT fn sc a) (hb:ST g gT fn sc b):ST g gT fn sc (.ite c a b p):=by
 intro d A F f i l j Z k x s U C W P E h
 show dk _ _ (isTrue (.IfExp (aX c) (aX a) (aX b) p) f _) _ _ s
 rw[arm_isTrue_IfExp]
 refine AM Mv.pob W (hc (k:=fun z Z=>af z (dR a d i l j Z (fun v Z=>fB v fun b=>k b Z) x) (dR b d i l j Z (fun v Z=>fB v fun b=>k b Z) x)) C W P E h) fun m o n t e h=>?_
 induction t using dI with
 | true=>exact ha C e.r e.p (E.go W P C.fl e) h
 | false=>exact hb C e.r e.p (E.go W P C.fl e) h
def Mn (g:Gd) (gT:Tx) (fn:Bool) (sc:Scope) (op:BoolOp) (e:X):Prop:=(∃x r,bg e=x::r)/\∀{call:Call} {A:ef} {F:Addr->Prop} {env:Env} {cs:List (Nat×Nat)} {vs cv:aO} {Z:St} {k:K1} {x:KX} {s:ce} {U:Nat->Addr} {pos:Pos},
 Cx g gT call A F env->R g Z U s.heap->Pv g F aL Z U s.heap->EnvR g env sc Z U s.heap cs (af fn vs cv)->dR e call cs vs cv Z k x=true ->
  dk g.m A (boolOp pos op (evalEach (bg e) env)) (Po g F aL Z U s k) (PX g F aL Z U s x) s
def Mp (g:Gd) (gT:Tx) (fn:Bool) (sc:Scope) (op:BoolOp) (e:X):Prop:=∀{call:Call} {A:ef} {F:Addr->Prop} {env:Env} {cs:List (Nat×Nat)} {vs cv:aO} {Z:St} {k:Bool->St->Bool} {x:KX} {s:ce} {U:Nat->Addr},
 Cx g gT call A F env->R g Z U s.heap->Pv g F aL Z U s.heap->EnvR g env sc Z U s.heap cs (af fn vs cv)->dR e call cs vs cv Z (fun v Z=>fB v fun b=>k b Z) x=true ->
  dk g.m A (allTrue op (bg e) env) (PoB g F aL Z U s k) (PX g F aL Z U s x) s
theorem Dz {op:BoolOp} {h:X} (hh:SV g gT fn sc h):Mn g gT fn sc op (.bone h):=by
 refine⟨⟨aX h,[],rfl⟩,?_⟩
 intro e A F d o u t Z k x s U f C W P E n
 show dk _ _ (eval (aX h) d) _ _ s
 refine dt (hh C W P E n) (fun v p l=>?_) fun i i q=>q
 obtain⟨j,m,a,G,r,c⟩:=l
 refine nU c ?_;clear c;rintro b rfl c
 exact⟨j,m,.bool b,G,r,c⟩
theorem DA {op:BoolOp} {h:X} (hh:ST g gT fn sc h):Mp g gT fn sc op (.bone h):=by
 intro a A F f n w u Z k x s U C W P E q
 show dk _ _ (allTrue op [aX h] f) _ _ s
 rw[arm_allTrue_cons]
 refine AM Mv.pob W (hh (k:=k) C W P E ?_) fun d m i t l j=>?_
 ·have:dR h a n w u Z (fun v Z=>fB v fun o=>(fun v Z=>fB v fun b=>k b Z) v Z) x=true:=q
  have e:(fun(v:V) (Z:St)=>fB v fun o=>(fun v Z=>fB v fun b=>k b Z) v Z)=(fun v Z=>fB v fun b=>k b Z):=by
   funext v Z;cases v<;>rfl
  rwa [e] at this
 ·have c:∀b,k b d=true->PoB g F aL d m i k b i:=fun b h=>⟨d,m,.refl l.r l.p,h⟩
  cases op<;>cases t<;>first|exact ct (c _ j)|(dsimp only;rw[arm_allTrue_nil];exact ct (c _ j))
theorem AS {op:BoolOp} {h t:X} (hh:SV g gT fn sc h) (ht:Mn g gT fn sc op t):Mn g gT fn sc op (.bcons op h t):=by
 refine am ht fun i ht=>?_;refine eM i fun y r w=>?_
 refine⟨⟨aX h,bg t,rfl⟩,?_⟩
 intro n A F c G vs cv Z k x s U pos C W P E B
 show dk _ _ (boolOp pos op (eval (aX h) c::evalEach (bg t) c)) _ _ s
 have z:boolOp pos op (eval (aX h) c::evalEach (bg t) c)=(do
  let v <-eval (aX h) c
  standAt pos
  let t' <-holding [v] (truthy v)
  match op,t' with
  | .And,false | .Or,true=>pure v
  | _,_=>boolOp pos op (evalEach (bg t) c)):=by exact aa w rfl
 refine aa z ?_
 refine uF Mv.po W (hh C W P E B) fun j o l a u f q e=>?_
 refine nU e ?_;clear e;rintro b rfl e
 cases q
 refine b9 (io (b9 (gv (fh ?_))))
 have d:k (.bool b) j=true->dk g.m A (pure (.bool b)) (Po g F aL j o l k) (PX g F aL j o l x) l:=fun h=>ct (.here (a:=.bool b) f.r f.p rfl h)
 have go:=ht (pos:=pos) (k:=k) (x:=x) (vs:=vs) (cv:=cv) C f.r f.p (E.go W P C.fl f)
 cases op<;>cases b
 ·exact d e
 ·exact go e
 ·exact go e
 ·exact d e
theorem AT {op:BoolOp} {h t:X} (hh:ST g gT fn sc h) (ht:Mp g gT fn sc op t):Mp g gT fn sc op (.bcons op h t):=by
 intro a A F j f vs cv Z k x s U C W P E n
 show dk _ _ (allTrue op (aX h::bg t) j) _ _ s
 rw[arm_allTrue_cons]
 have c:dR h a f vs cv Z (fun v Z=>fB v fun b=>af (pz op b) ((fun v Z=>fB v fun b=>k b Z) v Z) (dR t a f vs cv Z (fun v Z=>fB v fun b=>k b Z) x)) x=true:=n
 have e:(fun(v:V) (Z:St)=>fB v fun b=>af (pz op b) ((fun v Z=>fB v fun b=>k b Z) v Z) (dR t a f vs cv Z (fun v Z=>fB v fun b=>k b Z) x))=(fun v Z=>fB v fun b=>af (pz op b) (k b Z) (dR t a f vs cv Z (fun v Z=>fB v fun b=>k b Z) x)):=by
  funext v Z;cases v<;>rfl
 replace c:=e▸c
 refine AM Mv.pob W (hh (k:=fun b Z=>af (pz op b) (k b Z) (dR t a f vs cv Z (fun v Z=>fB v fun b=>k b Z) x)) C W P E c) fun l m o b d i=>?_
 have go:=ht (k:=k) (x:=x) (vs:=vs) (cv:=cv) C d.r d.p (E.go W P C.fl d)
 cases op<;>cases b
 ·exact ct ⟨l,m,.refl d.r d.p,i⟩
 ·exact go i
 ·exact go i
 ·exact ct ⟨l,m,.refl d.r d.p,i⟩
theorem Ii {op:BoolOp} {e:X} {p:Pos} (h:Mn g gT fn sc op e):SV g gT fn sc (.boo op e p):=by
 intro b A F a d i f Z k x s U C W P E c
 show dk _ _ (eval (.BoolOp op (bg e) p) a) _ _ s
 rw[arm_eval_BoolOp]
 exact h.2 C W P E c
theorem Ij {op:BoolOp} {e:X} {p:Pos} (h:Mp g gT fn sc op e):ST g gT fn sc (.boo op e p):=by
 intro b A F a d i f Z k x s U C W P E c
 show dk _ _ (isTrue (.BoolOp op (bg e) p) a _) _ _ s
 rw[arm_isTrue_BoolOp]
 exact h C W P E c
def pO (e:X):Prop:=∀rest env,starEach (aX e::rest) env=(false,eval (aX e) env)::starEach rest env
theorem Ik:SL g gT fn sc .nil:=by
 intro a A F d e h f Z k x s U b C W P E c
 exact spliced_nil ⟨Z,U,[],.refl W P,rfl,c⟩
theorem DB {h t:X} (ns:pO h) (hh:SV g gT fn sc h) (ht:SL g gT fn sc t):SL g gT fn sc (.cons h t):=by
 intro i A F b I j H Z k x s U pos C W P E w
 show dk _ _ (spliced (backTo pos (starEach (aX h::bg t) b))) _ _ s
 refine aa (ns _ _) ?_
 show dk _ _ (spliced ((false,eval (aX h) b)::backTo pos (starEach (bg t) b))) _ _ s
 refine spliced_cons (dt (hh C W P E w) (fun v B d=>?_) fun e e q=>q)
 obtain⟨z,J,a,c,n,f⟩:=d
 refine dt (ht (k:=fun l Z=>k (a::l) Z) (pos:=pos) C c.r c.p (E.go W P C.fl c) f) (fun j G d=>?_) fun e e q=>q.from W c
 obtain⟨y,o,l,m,u,f⟩:=d
 exact⟨y,o,a::l,c.trans W m,⟨v,j,rfl,m.vr n,u⟩,f⟩
theorem Il {es:X} {kk:Nat} {p:Pos} (h:SL g gT fn sc es):SV g gT fn sc (.tup es kk p):=by
 intro b A F a i q o Z k x s U C W P E e
 show dk _ _ (eval (.Tuple (bg es) kk p) a) _ _ s
 rw[arm_eval_Tuple]
 refine b9 (io ?_)
 exact Mm Mv.po W (h (k:=fun l Z=>wh l Z k) C W P E e) fun j t n l m c d f=>uC c.r c.p d f
theorem Im {es:X} {p:Pos} (h:SL g gT fn sc es):SV g gT fn sc (.lis es p):=by
 intro b A F a i q o Z k x s U C W P E e
 show dk _ _ (eval (.List (bg es) p) a) _ _ s
 rw[arm_eval_List]
 refine b9 (io ?_)
 exact Mm Mv.po W (h (k:=fun l Z=>e9 l Z k) C W P E e) fun j t n l m c d f=>ww c.r c.p d f
theorem Io {o i:X} {p:Pos} (ho:SV g gT fn sc o) (hi:SV g gT fn sc i) (hs:∀u v,∃ops,subscripted (aX i) false u v=operate ops (getItem u v)):SV g gT fn sc (.idx o i p):=by
 intro j A F d G B z Z k x s U C W P E h
 show dk _ _ (eval (.Subscript (aX o) (aX i) p) d) _ _ s
 rw[PySem.eval_Subscript]
 refine uF Mv.po W (ho C W P E h) fun n I q a u c l h=>?_
 refine uF Mv.po c.r (gv (hi C c.r c.p (E.go W P C.fl c) h)) fun H t y b w f m h=>?_
 refine b9 (io ?_)
 refine aG (hs u w) fun ops e=>?_
 exact HT (value:=aX o) (slice:=aX i) f.r f.p (f.vr l) m h e
end
noncomputable def q9 (K:Frag) (C:Addr) (name:Str):Bool:=match findIn K (.ref C) name with
 | some none=>true
 | some (some a)=>(match specialIn K a "__get__" with
  | some none=>true
  | some (some _)=>takesIn K a==some false
  | none=>false)
 | none=>false
noncomputable def uG (K:Frag) (C:Addr):Bool:=hasDictIn K C&&findIn K (.ref C) "__getattribute__"==some (some (.builtin "object.__getattribute__"))&&findIn K (.ref C) "__getattr__"==some none
structure ExcP (g:Gd) (aT:List Nat):Prop where
 get:∀{A:ef} {F X:Addr->Prop} {E:bo->ce->Prop} {Z:St} {k:K1} {U:Nat->Addr} {s:ce} {i c d a:Nat} {l:List (Nat×V)} {u:V} {b:Bool},aT.contains a=true->R g Z U s.heap->Pv g F X Z U s.heap->c<200->Z.get i=some (.exn c d)->Z.get d=some (.dic l)->az a l=some u->k u Z=true ->
  dk g.m A (getAttr (.ref (U i)) (nm a) b) (Po g F X Z U s k) E s
 set:∀{A:ef} {F X:Addr->Prop} {E:bo->ce->Prop} {Z:St} {U:Nat->Addr} {s:ce} {i c d a:Nat} {l:List (Nat×V)} {u:V} {v:bo} {Q:Unit->ce->Prop},aT.contains a=true->R g Z U s.heap->Pv g F X Z U s.heap->c<200->Z.get i=some (.exn c d)->Z.mut d=true->Z.get d=some (.dic l)->VR g s.heap U Z.nx u v ->
  (put a u l).length<=900->(∀s',Go g F X Z U s (Z.set d (.dic (put a u l))) U s'->Q () s')->dk g.m A (setAttr (.ref (U i)) (nm a) v) Q E s
 set0:∀{A:ef} {F X:Addr->Prop} {E:bo->ce->Prop} {Z:St} {U:Nat->Addr} {s:ce} {i c d a:Nat} {u:V} {v:bo} {Q:Unit->ce->Prop},aT.contains a=true->R g Z U s.heap->Pv g F X Z U s.heap->200<=c->c<400->Z.get i=some (.exn c d)->Z.mut i=true->Z.mut Z.nx=true->VR g s.heap U Z.nx u v ->
  (∀U' s',Go g F X Z U s (((Z.new (.dic [])).set i (.exn (c - 200) Z.nx)).set Z.nx (.dic (put a u []))) U' s'->Q () s')->dk g.m A (setAttr (.ref (U i)) (nm a) v) Q E s
structure ClsOk (g:Gd) (K:Frag) (aT:List Nat):Prop where
 hK:∀h,Bh g h->K.In h
 cls:∀c,g6 c=true->uG K (g.ca c)=true
 att:∀c a,g6 c=true->aT.contains a=true->q9 K (g.ca c) (nm a)=true
 names:∀a,aT.contains a=true->SR (nm a) a
 non:∀c a,g6 c=true->aT.contains a=true->az a (kt c)=none->findIn K (.ref (g.ca c)) (nm a)=some none
 mth:∀c a i,g6 c=true->az a (kt c)=some i->findIn K (.ref (g.ca c)) (nm a)=some (some (.ref (g.fa i)))/\typeIn K (.ref (g.fa i))=some (.type "function")
 set:∀c a,g6 c=true->aT.contains a=true->findIn K (.ref (g.ca c)) "__setattr__"=some (some (.builtin "object.__setattr__"))/\plainOver K (g.ca c)=true/\takerIn K (g.ca c) (nm a)=some none
 keepF:∀i h,Bh g h->∃o fd,h.get? (g.fa i)=some o/\o.data=.func fd
 keepC:∀c,keepIn K (.ref (g.ca c))=true
section
variable {g:Gd} {F X:Addr->Prop} {s:ce} {U:Nat->Addr} {Z:St} {A:ef} {E:bo->ce->Prop} {k:K1} {t:Nat} {Q:bo->ce->Prop} {K:Frag} {aT:List Nat}
theorem mS {a:V} {v:bo} {h:Heap} {n:Nat} (r:VR g h U n a v):handedIn v=true:=by
 induction a using eV with
 | none=>cases r;rfl
 | bool b=>cases r;rfl
 | int i=>refine aG r ?_;clear r;rintro d rfl;rfl
 | str c=>refine bx r ?_;clear r;rintro d f rfl j;rfl
 | byt c=>refine eM r ?_;clear r;rintro d f rfl;rfl
 | tup l=>refine bx r ?_;clear r;rintro d f rfl j;rfl
 | obj k=>refine am r ?_;clear r;rintro rfl f;rfl
 | fn k=>cases r;rfl
 | cls k=>cases r;rfl
 | clo k i=>refine am r fun d f=>?_;refine bx d ?_;clear d;rintro d f rfl j;rfl
 | sym k=>exact r
 | ab w k =>
  match w,r with
  | 0,⟨_,_,e,_⟩=>subst e;rfl
  | 1,⟨_,_,e,_⟩=>subst e;rfl
  | 2,⟨_,_,e,_⟩=>subst e;rfl
  | 3,⟨_,_,e,_⟩=>subst e;rfl
  | 4,⟨_,_,e,_⟩=>subst e;rfl
theorem kU {h:Heap} {a:Addr} {kvs:List (Str×bo)} (x:h.DictOf (strKind g.prog g.w) a kvs):∃es n,h.get? a=some (dictOf es n)/\KeysOf (strKind g.prog g.w) es.toArray/\Pairs (strKind g.prog g.w) es kvs/\(kvs.map (·.1)).Nodup:=by
 refine zX x fun b es q e f k p o m=>?_;obtain⟨c,d,s,r⟩:=b;refine cE f fun j l i=>?_
 simp only at j l i k
 subst j l i k
 exact⟨es.toList,q,by simpa [dictOf] using e,by simpa using p,o,m⟩
theorem AU {name:Str} {v:bo}:(strKind g.prog g.w).is name v=v.isStr name:=(strKind g.prog g.w).strs name name 0 v lQ
theorem F9 {es:List FB} (hk:KeysOf (strKind g.prog g.w) es.toArray):es.any (·.refKey)=false:=by
 rw[List.any_eq_false]
 intro e b
 refine ai (hk e (by simpa using b)) fun k hk c=>?_
 refine aG (bo.isStrOf_shape hk) fun t a=>?_
 simp[FB.refKey,a]
theorem xC {es:List FB} {kvs:List (Str×bo)} (hk:KeysOf (strKind g.prog g.w) es.toArray) (hp:Pairs (strKind g.prog g.w) es kvs) (name:Str):getL name es=some (valueAt kvs name):=by
 have e:=hp.find name
 have b:(fun e:FB=>(strKind g.prog g.w).is name e.key)=fun e=>e.key.isStr name:=by funext e;exact AU
 replace e:=b▸e
 unfold getL
 induction a:es.find? (fun e=>e.key.isStr name) using cN with
 | some x=>replace e:=a▸e;simp only[Option.map_some] at e;exact bw e rfl
 | none=>replace e:=a▸e;simp only[Option.map_none] at e;refine bw e ?_;simp only[F9 hk,B0,if_false]
theorem wy (W:R g Z U s.heap) {i c d:Nat} (e:Z.get i=some (.ins c d)) {l:List (Nat×V)} (ed:Z.get d=some (.dic l)) :
  ∃ox es n kvs,InstAt s.heap (U i) ox (g.ca c) (some (dictOf es n))/\ox.dict=some (U d)/\s.heap.get? (U d)=some (dictOf es n)/\(∀name,getL name es=some (valueAt kvs name))/\ERs g s.heap U Z.nx l kvs/\s.heap.DictOf (strKind g.prog g.w) (U d) kvs:=by
 refine ai (aB W ed) fun kvs b f=>?_
 refine iE (kU b) fun es n a h m j=>?_
 refine am (aB W e) fun o k=>?_
 exact⟨_,es,n,kvs,⟨o,rfl,rfl,a⟩,rfl,a,xC h m,f,b⟩
theorem xD (W:R g Z U s.heap) {i c d:Nat} (h2:c<200) (e:Z.get i=some (.exn c d)) {l:List (Nat×V)} (ed:Z.get d=some (.dic l)) :
  ∃ox es n kvs,InstAt s.heap (U i) ox (g.ca (c%100)) (some (dictOf es n))/\ox.dict=some (U d)/\s.heap.get? (U d)=some (dictOf es n)/\(∀name,getL name es=some (valueAt kvs name))/\ERs g s.heap U Z.nx l kvs/\s.heap.DictOf (strKind g.prog g.w) (U d) kvs:=by
 refine ai (aB W ed) fun kvs k o=>?_
 refine iE (kU k) fun es n j t q f=>?_
 refine am (aB W e) fun b v=>?_;refine NV b fun p x r m h f a u=>?_
 replace a:=if_pos h2▸a
 exact⟨p,es,n,kvs,⟨r,m,by unfold notCls;refine aa h ?_;rfl,aa a j⟩,a,j,xC t q,o,k⟩
theorem kW {C:Addr} {od:Obj} {name:Str} {v:bo} (hc:hasDictIn K C=true) (ha:q9 K C name=true) (hl:lookIn name od=some (some v)):findObj K C (some od) name=some (.value v):=by
 refine ai (any_some hc) fun c hc h=>?_
 have d:W.ownOf c (some od) name=some (some v):=by unfold W.ownOf;exact aa (if_pos h) hl
 unfold findObj q9 at *
 refine aa hc (aa (Option.bind_some _ _) ?_)
 induction f:findIn K (.ref C) name using cN with
 | none=>replace ha:=f▸ha;exact aS ha
 | some b =>
  replace ha:=f▸ha
  refine aa (Option.bind_some _ _) ?_
  induction b using cN with
  | none=>show Option.bind (W.ownOf c (some od) name) _=_;exact aa d rfl
  | some a =>
   dsimp only at ha
   show Option.bind (specialIn K a "__get__") _=_
   induction e:specialIn K a "__get__" using cN with
   | none=>replace ha:=e▸ha;exact aS ha
   | some g =>
    replace ha:=e▸ha
    induction g using cN with
    | none=>show Option.bind (W.ownOf c (some od) name) _=_;exact aa d rfl
    | some j =>
     have i:takesIn K a=some false:=beq_iff_eq.mp ha
     show Option.bind (takesIn K a) _=_
     refine aa i ?_
     show Option.bind (W.ownOf c (some od) name) _=_
     exact aa d rfl
theorem Ip (KO:ClsOk g K aT) (XP:ExcP g aT) (W:R g Z U s.heap) (P:Pv g F X Z U s.heap) {v:V} {x:bo} {a:Nat} {b:Bool} (r:VR g s.heap U Z.nx v x) (ha:aT.contains a=true) (h:Lz v a Z (fun u=>k u Z)=true) :
  dk g.m A (getAttr x (nm a) b) (Po g F X Z U s k) E s:=by
 refine cA h ?_;clear h;rintro i rfl h
 refine bS h fun u e h=>?_
 refine am r ?_;clear r;rintro rfl S
 have B:∀{d:Nat},Ao (Z.get d) a=some u->∃l,Z.get d=some (.dic l)/\az a l=some u:=by
  intro d e
  induction j:Z.get d using cN with
  | none=>replace e:=j▸e;exact bj e
  | some o =>
   replace e:=j▸e
   induction o using eO with
   | dic l=>exact⟨l,rfl,e⟩
   | _=>exact bj e
 induction t:Z.get i using cN with
 | none=>replace e:=t▸e;exact bj e
 | some o =>
  replace e:=t▸e
  induction o using eO with
  | ins c d =>
   refine am (nV (b:=g6 c) (x:=Ao (Z.get d) a) e) fun y e=>?_
   refine ai (B e) fun l j e=>?_
   refine vN (wy W t j) fun Y Q n J I L N M G C=>?_
   refine ai (dn (KO.names a ha) G e) fun w H p=>?_
   have X:=KO.hK _ W.base
   have f:=KO.cls c y
   simp only[uG,h9] at f
   exact get_value X I (beq_iff_eq.mp f.1.2) (kW f.1.1 (KO.att c a y ha) (by rewrite[lookIn_dict];refine aa (M _) (aa H ?_);rfl)) (mS p) (.now W P p h)
  | exn c d =>
   have e:af (eL 200 c) none (Ao (Z.get d) a)=some u:=e
   induction q:eL 200 c using dI with
   | true=>replace e:=q▸e;exact bj e
   | false =>
    replace e:=q▸e
    refine ai (B e) fun l j e=>?_
    exact XP.get ha W P (Nat.lt_of_not_le fun z=>by replace q:=iw z▸q;cases q) t j e h
  | _=>exact bj e
end
section
variable {g:Gd} {gT:Tx} {fn:Bool} {sc:Scope} {K:Frag} {aT:List Nat}
theorem Iq {o:X} {a:Nat} {p:Pos} (KO:ClsOk g K aT) (XP:ExcP g aT) (ha:aT.contains a=true) (ho:SV g gT fn sc o) (hb:∀env w,attributeBase (aX o) (nm a) env w=w):SV g gT fn sc (.att o a p):=by
 intro b A F env f n m Z k x s U C W P E h
 show dk _ _ (eval (.Attribute (aX o) (nm a) p) env) _ _ s
 rewrite[arm_eval_Attribute];refine aa (hb _ _) ?_
 refine uF Mv.po W (ho C W P E h) fun i t j v u c d h=>?_
 refine b9 (io (b9 (gv (dt (Ip KO XP c.r c.p d ha h) (fun r l q=>?_) fun e e q=>q))))
 exact b9 (wpAny_letTemporaryGo (ct q))
def kC (e:X):Option Expr:=match e with|.non=>none|_=>some (aX e)
theorem tm {e:X} (h:e=.non\/SV g gT fn sc e) {call:Call} {A:ef} {F:Addr->Prop} {env:Env} {cs:List (Nat×Nat)} {vs cv:aO} {Z:St} {k:K1} {x:KX} {s:ce} {U:Nat->Addr}
  (C:Cx g gT call A F env) (W:R g Z U s.heap) (P:Pv g F aL Z U s.heap) (E:EnvR g env sc Z U s.heap cs (af fn vs cv)) (hd:dR e call cs vs cv Z k x=true) (he:e=.non\/kC e=some (aX e)) :
  dk g.m A (valueOrNone (evalOpt (kC e) env)) (Po g F aL Z U s k) (PX g F aL Z U s x) s:=by
 rcases h with rfl|h
 ·exact ct (.here (a:=.none) W P rfl hd)
 ·rcases he with rfl|he
  ·exact ct (.here (a:=.none) W P rfl hd)
  ·exact aa he (h C W P E hd)
theorem tu (e:X):e=.non\/kC e=some (aX e):=by
 cases e<;>first|exact .inl rfl|exact .inr rfl
theorem Ir {o lo hi st:X} {sp p:Pos} (ho:SV g gT fn sc o) (hl:lo=.non\/SV g gT fn sc lo) (hh:hi=.non\/SV g gT fn sc hi) (hs:st=.non\/SV g gT fn sc st):SV g gT fn sc (.slc o lo hi st sp p):=by
 intro w A F v cs vs cv Z k x s U C W P E h
 show dk _ _ (eval (.Subscript (aX o) (.Slice (kC lo) (kC hi) (kC st) sp) p) v) _ _ s
 rw[PySem.eval_Subscript]
 refine uF Mv.po W (ho C W P E h) fun Q U1 s1 a u c B h=>?_
 rw[arm_eval_Slice]
 have z:=E.go W P C.fl c
 refine b9 (gv (b9 ?_))
 refine dt (tm hl C c.r c.p z h (tu lo)) (fun l s2 j=>?_) fun b b q=>q
 obtain⟨Z2,U2,al,d,N,h⟩:=j
 have y:=z.go c.r c.p C.fl d
 refine b9 (gv ?_)
 refine dt (tm hh C d.r d.p y h (tu hi)) (fun m S j=>?_) fun b b q=>q.from c.r d
 obtain⟨Z3,U3,ah,f,M,h⟩:=j
 have I:=y.go d.r d.p C.fl f
 refine b9 (gv ?_)
 refine dt (tm hs C f.r f.p I h (tu st)) (fun t H j=>?_) fun b b q=>(q.from d.r f).from c.r d
 obtain⟨K,L,Y,n,G,h⟩:=j
 have G24:=d.trans c.r (f.trans d.r n)
 have J:∀q,subscripted (.Slice (kC lo) (kC hi) (kC st) sp) false u q=operate ([u]++[q]) (getItem u q)\/subscripted (.Slice (kC lo) (kC hi) (kC st) sp) false u q=operate (q::[u]) (getItem u q):=fun q=>by
  induction e:kC st using cN with
  | none=>exact .inr rfl
  | some _=>exact .inl rfl
 refine dt (HV (value:=aX o) (slice:=.Slice (kC lo) (kC hi) (kC st) sp) (E:=PX g F aL K L H x) n.r n.p (G24.vr B) (n.vr (f.vr N)) (n.vr M) G h J) (fun i s5 q=>?_) fun b b q=>q.from c.r G24
 exact b9 (io (dt q (fun b b q=>q.from c.r G24) fun b b q=>q.from c.r G24))
end
structure SArgs (g:Gd) (gT:Tx) (fn:Bool) (sc:Scope) (as:X):Prop where
 sl:SL g gT fn sc as
 plain:∀pos env,(backTo pos (starEach (bg as) env)).any (·.1)=false
 shape:as=.nil\/∀env,∃t r,starEach (bg as) env=(false,t)::r
theorem SArgs.nil {g:Gd} {gT:Tx} {fn:Bool} {sc:Scope}:SArgs g gT fn sc .nil:=⟨Ik,fun a a=>rfl,.inl rfl⟩
theorem SArgs.cons {g:Gd} {gT:Tx} {fn:Bool} {sc:Scope} {h t:X} (ns:pO h) (hh:SV g gT fn sc h) (ht:SArgs g gT fn sc t):SArgs g gT fn sc (.cons h t) :=
 ⟨DB ns hh ht.sl,fun b a=>by
  show(backTo b (starEach (aX h::bg t) a)).any (·.1)=false
  refine aa (ns _ _) ?_
  exact ht.plain b a,.inr fun a=>⟨_,_,ns (bg t) a⟩⟩
section
variable {g:Gd} {gT:Tx} {fn:Bool} {sc:Scope} {K:Frag} {aT:List Nat}
variable {call:Call} {A:ef} {F:Addr->Prop} {env:Env} {cs:List (Nat×Nat)} {vs cv:aO} {Z:St} {x:KX} {s:ce} {U:Nat->Addr}
theorem PX.weak {X:Addr->Prop} {v:bo} {s':ce} (p:PX g F X Z U s x v s'):PX g F X Z U s x v s':=p
def fS (M:Model) (f:bo) (h:Heap):Prop:=∃k,(k=Keeper.frame\/k=Keeper.machine\/k=Keeper.boundFrame)/\Looks M h (keeperOf f) k
theorem oF (KO:ClsOk g K aT) {h:Heap} {n:Nat} {fv:V} {f:bo} {M:Model} (hB:Bh g h) (hc:uz fv=true) (r:VR g h U n fv f):fS M f h:=by
 induction fv using eV with
 | fn i =>
  cases r
  refine bx (KO.keepF i h hB) fun o p j e=>?_
  exact⟨.frame,.inl rfl,(Looks.ld (part:=none) j).andThen (aa e (.now))⟩
 | cls c =>
  cases r
  exact keeps_K (KO.keepC c) h (KO.hK h hB)
 | clo k i =>
  refine am r fun b m=>?_;refine aA b ?_;clear b;rintro a o rfl j d
  refine am (g.cloF _ _ _ _ d) fun b l=>?_;refine aG l fun p e=>?_
  exact⟨.frame,.inl rfl,(Looks.ld (part:=none) j).andThen (aa e (.now))⟩
 | _=>exact aS hc
theorem yV {M:Model} {T:String} {h:Heap}:fS M (.type T) h:=⟨.machine,.inr (.inl rfl),.of_pure rfl⟩
theorem dN {M:Model} {T:String} {h:Heap}:fS M (.builtin T) h:=⟨.machine,.inr (.inl rfl),.of_pure rfl⟩
theorem jM {as:X} {k:K1} {kl:List V->St->Bool} {pos pos':Pos} {f:bo} {first:List bo} (SA:SArgs g gT fn sc as) (C:Cx g gT call A F env) (W:R g Z U s.heap) (P:Pv g F aL Z U s.heap) (E:EnvR g env sc Z U s.heap cs (af fn vs cv))
  (h:dR as call cs vs cv Z (fun v Z=>bL v fun l=>kl l Z) x=true)
  (kp:∀{Z' U' s'},Go g F aL Z U s Z' U' s'->fS g.m f s'.heap)
  (n:∀{Z' U' s' l us},Go g F aL Z U s Z' U' s'->VRs g s'.heap U' Z'.nx l us->kl l Z'=true->dk g.m A (f5 f (first++us)) (Po g F aL Z' U' s' k) (PX g F aL Z' U' s' x) s') :
  dk g.m A (callWith pos f first (backTo pos' (starEach (bg as) env)) []) (Po g F aL Z U s k) (PX g F aL Z U s x) s:=by
 refine callWith_of (P:=fS g.m f) (aa (SA.plain pos' env) rfl) (fun h p=>p) ?_
 have b:dk g.m A (spliced (backTo pos' (starEach (bg as) env))) (fun us s'=>fS g.m f s'.heap/\dk g.m A (f5 f (first++us)) (Po g F aL Z U s k) (PX g F aL Z U s x) s') (PX g F aL Z U s x) s :=
  dt (SA.sl (k:=kl) C W P E h) (fun us s' ⟨Z',U',l,G,r,c⟩=>⟨kp G,dt (n G r c) (fun a a q=>q.from W G) fun a a q=>q.from W G⟩) fun a a q=>q
 rcases SA.shape with e|e
 ·subst e
  have c:kl [] Z=true:=h
  have G:Go g F aL Z U s Z U s:=.refl W P
  exact evalArgs_nil3 ⟨kp G,n (l:=[]) (us:=[]) G rfl c⟩
 ·refine eM (e env) fun t r e=>?_
  rw[e] at b ⊢
  exact evalArgs_plain b
end
section
variable {g:Gd} {gT:Tx} {fn:Bool} {sc:Scope} {K:Frag} {aT:List Nat}
theorem It {f as:X} {p:Pos} (KO:ClsOk g K aT) (hf:SV g gT fn sc f) (hn:∃id q,aX f=.Name id q) (SA:SArgs g gT fn sc as):SV g gT fn sc (.cal f as p):=by
 intro call A F b w v t Z k x s U C W P E h
 refine eM hn fun id q e=>?_
 show dk _ _ (eval (.Call (aX f) (bg as) [] p) b) _ _ s
 refine aa e ?_;rewrite[arm_eval_Call_Name'];refine bw e ?_
 refine uF Mv.po W (hf C W P E h) fun n y o j u c d h=>?_
 refine ak h fun i h=>?_
 refine jM (kl:=fun l Z=>call j l Z k x) (first:=[]) SA C c.r c.p (E.go W P C.fl c) h (fun G=>oF KO G.r.base i (G.vr d)) fun G r m=>?_
 ·exact dt (C.call (fun a h=>h) m G.r G.p (G.vr d) r) (fun a a q=>q) fun a a q=>q.weak
end
noncomputable def wz:Bi->Bool
 | .sorted=>true
 | .dict=>true
 | _=>false
structure Prim (g:Gd):Prop where
 bi:∀{A:ef} {F X:Addr->Prop} {E:bo->ce->Prop} {b:Bi} {l:List V} {Z:St} {k:K1} {U:Nat->Addr} {s:ce} {us:List bo},A.units+100<cLine->(wz b=true->A.handled=none)->KQ b l Z k=true->R g Z U s.heap->Pv g F X Z U s.heap->VRs g s.heap U Z.nx l us ->
  dk g.m A (f5 (jK b) us) (Po g F X Z U s k) E s
 lm:∀{A:ef} {E:bo->ce->Prop} {a:Nat} {Z:St} {U:Nat->Addr} {s:ce} {i:Nat} {r:List V} {pl:Sem Bool},LB a=true->R g Z U s.heap->Z.get i=some (.lst r) ->
  ∃id,(∀{Q:bo×List bo->ce->Prop},Q (.builtin id,[.ref (U i)]) s->dk g.m A (getMethod (.ref (U i)) (nm a) pl) Q E s) /\
   ∀{A:ef} {F X:Addr->Prop} {E:bo->ce->Prop} {Z:St} {U:Nat->Addr} {s:ce} {i:Nat} {r l:List V} {k:K1} {us:List bo},A.units+100<cLine->Z.get i=some (.lst r)->Hm a i r l Z k=true->R g Z U s.heap->Pv g F X Z U s.heap->VRs g s.heap U Z.nx l us ->
    dk g.m A (f5 (.builtin id) (.ref (U i)::us)) (Po g F X Z U s k) E s
 dm:∀{A:ef} {E:bo->ce->Prop} {a:Nat} {Z:St} {U:Nat->Addr} {s:ce} {i:Nat} {r:List (Nat×V)} {pl:Sem Bool},LC a=true->R g Z U s.heap->Z.get i=some (.dic r) ->
  ∃id,(∀{Q:bo×List bo->ce->Prop},Q (.builtin id,[.ref (U i)]) s->dk g.m A (getMethod (.ref (U i)) (nm a) pl) Q E s) /\
   ∀{A:ef} {F X:Addr->Prop} {E:bo->ce->Prop} {Z:St} {U:Nat->Addr} {s:ce} {i:Nat} {r:List (Nat×V)} {l:List V} {k:K1} {us:List bo},A.units+100<cLine->Z.get i=some (.dic r)->Hn a i r l Z k=true->R g Z U s.heap->Pv g F X Z U s.heap->VRs g s.heap U Z.nx l us ->
    dk g.m A (f5 (.builtin id) (.ref (U i)::us)) (Po g F X Z U s k) E s
 sm:∀{A:ef} {E:bo->ce->Prop} {a:Nat} {s:ce} {c:Nat} {u:Str} {t:Tok} {pl:Sem Bool},LD a=true->SR u c ->
  ∃id,(∀{Q:bo×List bo->ce->Prop},Q (.builtin id,[.str u t]) s->dk g.m A (getMethod (.str u t) (nm a) pl) Q E s) /\
   ∀{A:ef} {F X:Addr->Prop} {E:bo->ce->Prop} {Z:St} {U:Nat->Addr} {s:ce} {l:List V} {k:K1} {us:List bo},A.units+100<cLine->yJ a c l Z k=true->R g Z U s.heap->Pv g F X Z U s.heap->VRs g s.heap U Z.nx l us ->
    dk g.m A (f5 (.builtin id) (.str u t::us)) (Po g F X Z U s k) E s
 en:∀{A:ef} {E:bo->ce->Prop} {s:ce} {c:Nat} {u:Str} {t:Tok} {pl:Sem Bool},u.length<=c->(∀y∈u.cps.toList,y<55296) ->
  ∃id,(∀{Q:bo×List bo->ce->Prop},Q (.builtin id,[.str u t]) s->dk g.m A (getMethod (.str u t) (nm dU) pl) Q E s) /\
   ∀{A:ef} {F X:Addr->Prop} {E:bo->ce->Prop} {Z:St} {U:Nat->Addr} {s:ce} {l:List V} {k:K1} {us:List bo},A.units+100<cLine->gA (.ab 2 c) l Z k=true->R g Z U s.heap->Pv g F X Z U s.heap->VRs g s.heap U Z.nx l us ->
    dk g.m A (f5 (.builtin id) (.str u t::us)) (Po g F X Z U s k) E s
section
variable {g:Gd} {gT:Tx} {fn:Bool} {sc:Scope} {K:Frag} {aT:List Nat}
theorem xE {M:Model} {b:Bi} {h:Heap}:fS M (jK b) h:=by cases b<;>first|exact yV|exact dN
theorem DC {b:Bi} {as:X} {bp p:Pos} (PM:Prim g) (hl:wz b=true->gT.lp=true) (hk:aP sc (oB b) .globalImplicit=true) (SA:SArgs g gT fn sc as):SV g gT fn sc (.calb b as bp p):=by
 intro c A F a d i f Z k x s U C W P E h
 show dk _ _ (eval (.Call (.Name (nm (oB b)) bp) (bg as) [] p) a) _ _ s
 rw[arm_eval_Call_Name']
 refine b9 (oE hk C W E ?_)
 exact jM (kl:=fun l Z=>KQ b l Z k) (first:=[]) SA C W P E h (fun G=>xE) fun G r hk=>PM.bi C.hu (fun e=>C.hd (hl e)) hk G.r G.p r
theorem Iu {o:X} {a:Nat} {as:X} {ap p:Pos} (KO:ClsOk g K aT) (PM:Prim g) (ha:aT.contains a=true) (ho:SV g gT fn sc o) (SA:SArgs g gT fn sc as) (hb:∀env w,attributeBase (aX o) (nm a) env w=w)
  (hl:(ap.endLine==p.line)=true) (hn:(bg as).length<30):SV g gT fn sc (.mth o a as ap p):=by
 intro call A F env cs vs cv Z k x s U C W P E h
 show dk _ _ (eval (.Call (.Attribute (aX o) (nm a) ap) (bg as) [] p) env) _ _ s
 rewrite[arm_eval_Call];refine aa (hb _ _) ?_
 refine uF Mv.po W (ho C W P E h) fun z M B v u L r1 h=>?_
 refine b9 (io ?_)
 have a6:methodCallForm ((bg as).length+([]:List Keyword).length) (backTo p (starEach (bg as) env)) (backToKw p (keywordEach [] env))=true:=by
  unfold methodCallForm
  have N:(backTo p (starEach (bg as) env)).all (fun x=>!x.1)=true:=by
   have:=SA.plain p env
   rw[List.any_eq_false] at this
   rw[dV]
   intro y hy
   have:=this y hy
   simpa using this
  refine aa N ?_
  exact decide_eq_true hn
 unfold methodCall
 refine aa a6 ?_
 have Y:∀{Q:Pos->ce->Prop} {s:ce} {E':bo->ce->Prop},Q p s->dk g.m A (methodCallPos true (aX o) env ap p) Q E' s:=fun q=>by
  unfold methodCallPos
  refine aa hl ?_
  exact ct q
 have E1:=E.go W P C.fl L
 have e:∀{f:bo} {first:List bo} {kl:List V->St->Bool},dR as call cs vs cv z (fun v Z=>bL v fun l=>kl l Z) x=true ->
   (∀{Z' U' s'},Go g F aL z M B Z' U' s'->fS g.m f s'.heap) ->
   (∀{Z' U' s' l us},Go g F aL z M B Z' U' s'->VRs g s'.heap U' Z'.nx l us->kl l Z'=true->dk g.m A (f5 f (first++us)) (Po g F aL Z' U' s' k) (PX g F aL Z' U' s' x) s') ->
   dk g.m A (do let callPos <-methodCallPos true (aX o) env ap p;callWith callPos f first (backTo p (starEach (bg as) env)) (backToKw p (keywordEach [] env))) (Po g F aL z M B k) (PX g F aL z M B x) B:=fun h kp n =>
  b9 (Y (jM SA C L.r L.p E1 h kp n))
 induction v using eV with
 | str c =>
  refine ak h fun N h=>?_
  refine bx r1 ?_;clear r1;rintro w t rfl hc
  refine ai (PM.sm (E:=PX g F aL z M B x) (A:=A) (s:=B) (t:=t) (pl:=do return (<-importBound (aX o) env).getD true) N hc) fun id gm cl=>?_
  refine b9 (gv (gm ?_))
  exact e (kl:=fun l Z=>yJ a c l Z k) h (fun G=>dN) fun G r J=>cl C.hu J G.r G.p r
 | obj i =>
  refine am r1 ?_;clear r1;rintro rfl hi
  have h:LE call (z.get i) i a z (fun Z k=>dR as call cs vs cv Z (fun v Z=>bL v fun l=>k l Z) x) k x=true:=h
  induction eo:z.get i using cN with
  | none=>replace h:=eo▸h;exact aS h
  | some ob =>
   replace h:=eo▸h
   induction ob using eO with
   | lst r0 =>
    refine ak h fun N h=>?_
    refine ai (PM.lm (E:=PX g F aL z M B x) (A:=A) (s:=B) (pl:=do return (<-importBound (aX o) env).getD true) N L.r eo) fun id gm cl=>?_
    refine b9 (gv (gm ?_))
    refine e (kl:=fun l Z=>gh (Z.get i) fun r=>Hm a i r l Z k) h (fun G=>dN) fun G r J=>?_
    refine fz J fun r' e' J=>?_
    refine bw (G.sp.ag i hi) ?_
    exact cl C.hu e' J G.r G.p r
   | dic r0 =>
    refine ak h fun N h=>?_
    refine ai (PM.dm (E:=PX g F aL z M B x) (A:=A) (s:=B) (pl:=do return (<-importBound (aX o) env).getD true) N L.r eo) fun id gm cl=>?_
    refine b9 (gv (gm ?_))
    refine e (kl:=fun l Z=>eP (Z.get i) fun r=>Hn a i r l Z k) h (fun G=>dN) fun G r J=>?_
    refine gD J fun r' e' J=>?_
    refine bw (G.sp.ag i hi) ?_
    exact cl C.hu e' J G.r G.p r
   | ins c d =>
    refine ak h fun N h=>?_
    have hc:g6 c=true:=N
    refine gD h fun l ed h=>?_
    refine vN (wy L.r eo ed) fun ox es n a8 I a9 ad gl re a7=>?_
    have XK:=KO.hK _ L.r.base
    have S:=KO.cls c hc
    simp only[uG,h9] at S
    have a2:=beq_iff_eq.mp S.1.2
    have a4:=beq_iff_eq.mp S.2
    induction em:az a (kt c) using cN with
    | some j =>
     replace h:=em▸h
     have h:@Option.rec V (fun H=>Bool) (dR as call cs vs cv z (fun v Z=>bL v fun r=>call (.fn j) (.obj i::r) Z k x) x) (fun H=>false) (az a l)=true:=h
     induction el:az a l using cN with
     | some _=>replace h:=el▸h;exact aS h
     | none =>
      replace h:=el▸h
      refine am (KO.mth c a j hc em) fun m1 m2=>?_
      refine b9 (gv (method_fn XK I a2 a4 m1 m2 (by show Option.map (fun x=>x.isSome) (lookIn (nm a) (dictOf es n))=some false;rewrite[lookIn_dict];refine aa (gl _) (aa (look_none (KO.names a ha) re el) ?_);rfl) ?_))
      refine e (kl:=fun l Z=>call (.fn j) (.obj i::l) Z k x) h (fun G=>oF (fv:=.fn j) (n:=0) (U:=M) KO G.r.base rfl rfl) fun G r J=>?_
      refine dt (C.call (fun H h=>h) J G.r G.p (f:=.ref (g.fa j)) rfl ⟨.ref (M i),_,rfl,⟨aa (G.sp.ag i hi) rfl,f3 hi G.sp.nx⟩,r⟩) (fun H H q=>q) fun H H q=>q.weak
    | none =>
     replace h:=em▸h
     refine bS (o:=az a l) h fun fv el h=>?_
     refine ak h fun a3 h=>?_
     refine ai (dn (KO.names a ha) re el) fun w hw a1=>?_
     have a5:=KO.non c a hc ha em
     refine b9 (gv (method_usual XK I a2 a4 a5 rfl ?_))
     refine get_value XK I a2 (kW S.1.1 (KO.att c a hc ha) (by rewrite[lookIn_dict];refine aa (gl _) (aa hw ?_);rfl)) (mS a1) ?_
     have G2:Go g F aL z M B z M {B with toks:=B.toks+1}:=.tok L.r L.p _
     refine dt (b9 (Y (jM (first:=[]) (kl:=fun l Z=>call fv l Z k x) SA C G2.r G2.p (E1.go L.r L.p C.fl G2) h (fun G=>oF KO G.r.base a3 (G.vr a1)) fun G r J=>?_))) (fun H H q=>q.from L.r G2) fun H H q=>q.from L.r G2
     exact dt (C.call (fun H h=>h) J G.r G.p (G.vr a1) r) (fun H H q=>q) fun H H q=>q.weak
   | _=>exact aS h
 | ab w c =>
  refine ak (b:=c6 a dU) (x:=af (c6 w 2) (dR as call cs vs cv z (fun v Z=>bL v fun l=>gA (.ab w c) l Z k) x) false) h ?_;intro ea N
  refine ak N fun ew h2=>?_
  obtain rfl:=bz ea
  obtain rfl:=bz ew
  refine aA r1 ?_;clear r1;rintro u t rfl l1 l2
  refine ai (PM.en (E:=PX g F aL z M B x) (A:=A) (s:=B) (t:=t) (pl:=do return (<-importBound (aX o) env).getD true) l1 l2) fun id gm cl=>?_
  refine b9 (gv (gm ?_))
  exact e (kl:=fun l Z=>gA (.ab 2 c) l Z k) h2 (fun G=>dN) fun G r J=>cl C.hu J G.r G.p r
 | _=>exact aS h
end
theorem pP:∀(m:Nat) (a c:Int) (i:Nat),dG (gz m a c) i=if i<m then some (.int (a+i*c)) else none
 | 0,_,_,i=>by exact aa (eJ _ _) ((if_neg (Nat.not_lt_zero i)).symm)
 | m+1,a,c,0=>by
  show some (V.int a)=_
  simp
 | m+1,a,c,i+1=>by
  have:=pP m (a+c) c i
  show dG (gz m (a+c) c) i=_
  refine aa this ?_
  by_cases h:i<m
  ·refine aa (if_pos h) (aa (if_pos (Nat.succ_lt_succ h)) ?_)
   have e:a+c+(i:Int)*c=a+((i+1:Nat):Int)*c:=by
    refine aa (show((i+1:Nat):Int)=(i:Int)+1 by lia) ?_;rewrite[Int.add_mul];refine aa (Int.one_mul _) ?_;lia
   exact aa e rfl
  ·refine aa (if_neg h) (aa (if_neg fun z=>h (Nat.lt_of_succ_lt_succ z)) ?_);rfl
def ItR (g:Gd) (h:Heap) (U:Nat->Addr) (n:Nat) (I:Addr) (i:Nat):Src->Prop
 | .live k=>h.IsListIter I (U k) i/\k<n
 | .seq l=>(∃a vs,h.TupAt a vs/\VRs g h U n l vs/\h.IsTupleIter I a i)\/(∃m a c,l=gz m a c/\IsRangeIter h I (a+i*c) ((m:Int) - i) c)
 | .zip _ _=>False
 | .enm _=>False
def Mq (g:Gd) (h:Heap) (U:Nat->Addr) (n:Nat) (v:bo):Src->Prop
 | .live k=>v=.ref (U k)/\k<n
 | .seq l=>(∃a vs,v=.ref a/\h.TupAt a vs/\VRs g h U n l vs)\/(∃r a b c t u w m,v=.ref r/\l=gz m a c/\IsRange h r a b c t u w/\je.Range.small a b c=true/\H1 a b c=m)
 | .zip _ _=>False
 | .enm _=>False
section
variable {g:Gd} {F X:Addr->Prop} {s s':ce} {U U':Nat->Addr} {Z Z':St} {A:ef} {E:bo->ce->Prop} {t:Nat} {I:Addr} {i:Nat} {src:Src}
theorem ItR.nf {n:Nat} {h:Heap} (x:ItR g h U n I i src):NF h I:=by
 cases src with
 | live k=>refine am x fun b f=>?_;refine dS b fun o e j d=>?_;exact bR e d
 | seq l =>
  rcases x with ⟨a,p,_,_,⟨o,e,_,d⟩⟩|⟨m,a,c,_,e⟩
  ·exact bR e d
  ·exact bR e rfl
 | zip _ _=>exact x.elim
 | enm _=>exact x.elim
theorem ItR.go (x:ItR g s.heap U Z.nx I i src) (G:Go g F X Z U s Z' U' s') (hI:∀o,s.heap.get? I=some o->s'.heap.get? I=some o):ItR g s'.heap U' Z'.nx I i src:=by
 cases src with
 | live k =>
  refine am x fun b d=>?_;refine ai b fun o e r=>?_
  exact⟨⟨o,hI o e,aa (G.sp.ag k d) r⟩,f3 d G.sp.nx⟩
 | seq l =>
  rcases x with ⟨a,f,j,r,⟨o,e,q⟩⟩|⟨m,a,c,h,e⟩
  ·exact .inl ⟨a,f,f8 G.l j,G.vrs r,⟨o,hI o e,q⟩⟩
  ·exact .inr ⟨m,a,c,h,hI _ e⟩
 | zip _ _=>exact x.elim
 | enm _=>exact x.elim
theorem Go.keepsAt (G:Go g F X Z U s Z' U' s') (W:R g Z U s.heap) (nd:∀i,i<Z.nx->U i≠I) (nF:¬F I) (nX:¬X I):∀o,s.heap.get? I=some o->s'.heap.get? I=some o:=fun o e=>by
 rcases G.sp.kp I o e (fun b=>bx b fun j c a z=>nd j (aC W a) z.1) nX with r|⟨f,_⟩
 ·exact r
 ·exact absurd f nF
theorem DD {it:Option V} {Q:Option bo->ce->Prop} (hh:A.handled=none) (W:R g Z U s.heap) (P:Pv g F X Z U s.heap) (hX:X I) (x:ItR g s.heap U Z.nx I i src) (q:src.at i Z=some it)
  (h0:it=none->∀h',Heap.ExtBut I s.heap h'->Q none {s with heap:=h'}) (h1:∀a,it=some a->∀v s',Go g F X Z U s Z U s'->(∀b o,b≠I->s.heap.get? b=some o->s'.heap.get? b=some o)->VR g s'.heap U Z.nx a v->ItR g s'.heap U Z.nx I (i+1) src->Q (some v) s') :
  dk g.m A (pyNext (.ref I)) Q E s:=by
 have Y:=(P I (.inr hX)).2.2
 have t:∀{h':Heap} {tk:Nat},NF h' I->Heap.ExtBut I s.heap h'->Go g F X Z U s Z U {s with heap:=h',toks:=tk}:=fun n k=>.loc W P hX n fun b o u e=>k b o u e
 cases src with
 | live k =>
  refine am x fun f S=>?_
  have q:(match Z.get k with|some (.lst l)=>some (dG l i)|_=>none)=some it:=q
  induction J:Z.get k using cN with
  | none=>replace q:=J▸q;exact bj q
  | some ob =>
   replace q:=J▸q
   induction ob using eO with
   | lst l =>
    cases q
    refine ai (aB W J) fun z M r=>?_
    have a1:U k≠I:=Y k S
    rw[eJ] at h0 h1
    have j:=r.length
    replace j:=ir▸j
    induction p:l[i]? using cN with
    | none =>
     have H:z[i]?=none:=by
      have:l.length<=i:=by simpa using p
      simp only[Array.getElem?_eq_none_iff];lia
     refine wpAny_pyNext_list_end hh f M.isList H fun h' y=>h0 p _ y
    | some a =>
     refine ai (r.get p) fun v B C=>?_
     rw[u3] at B
     refine wpAny_pyNext_list_item f M.isList B fun h' d h=>?_
     have G:=t (tk:=s.toks) (dS d fun o e _ w=>bR e w) h.extBut
     exact h1 a p v _ G (fun b o u e=>h.extBut b o u e) (G.vr C) ⟨d,S⟩
   | _=>exact bj q
 | seq l =>
  cases q
  rw[eJ] at h0 h1
  rcases x with ⟨a,z,⟨o,n,K,L,w⟩,r,f⟩|⟨m,a,c,rfl,f⟩
  ·have j:=r.length
   have N:s.heap.IsTuple a z.toArray:=⟨o,K,L,n,w⟩
   induction p:l[i]? using cN with
   | none =>
    have H:z.toArray[i]?=none:=by
     have:l.length<=i:=by simpa using p
     simp;lia
    refine wpAny_pyNext_tuple_end hh f N H fun h' y=>h0 p _ y
   | some b =>
    refine ai (r.get p) fun v B C=>?_
    refine wpAny_pyNext_tuple_item f N (by simpa using B) fun h' d h=>?_
    have G:=t (tk:=s.toks) (dS d fun o e _ w=>bR e w) h.extBut
    exact h1 b p v _ G (fun b o u e=>h.extBut b o u e) (G.vr C) (.inl ⟨a,z,f8 G.l ⟨o,n,K,L,w⟩,G.vrs r,d⟩)
  ·rw[<-eJ,pP] at h0 h1
   by_cases hi:i<m
   ·replace h1:=if_pos hi▸h1
    refine wpAny_pyNext_range_item f (by lia) fun h' d h=>?_
    have G:=t (tk:=s.toks+1) (bR d rfl) h.extBut
    refine h1 _ rfl _ _ G (fun b o u e=>h.extBut b o u e) ⟨_,rfl⟩ (.inr ⟨m,a,c,rfl,?_⟩)
    have e1:a+(i:Int)*c+c=a+((i+1:Nat):Int)*c:=by
     refine aa (show((i+1:Nat):Int)=(i:Int)+1 by lia) ?_;rewrite[Int.add_mul];refine aa (Int.one_mul _) ?_;lia
    have e2:(m:Int) - i - 1=(m:Int) - ((i+1:Nat):Int):=by lia
    replace d:=e2▸e1▸d
    exact d
   ·replace h0:=if_neg hi▸h0
    refine wpAny_pyNext_range_end hh f (by lia) fun h' y=>h0 rfl _ y
 | zip _ _=>exact x.elim
 | enm _=>exact x.elim
theorem xF {v:bo} {Q:bo->ce->Prop} (W:R g Z U s.heap) (r:Mq g s.heap U Z.nx v src) {l:Option (List V)} (hsrc:∃o,src.at 0 Z=some o)
  (h:∀I h' tk,(∀b o,s.heap.get? b=some o->h'.get? b=some o)->s.heap.get? I=none->ItR g h' U Z.nx I 0 src->Q (.ref I) {s with heap:=h',toks:=tk}):dk g.m A (pyIter v) Q E s:=by
 cases src with
 | live k =>
  refine am r ?_;clear r;rintro rfl F
  refine aG hsrc fun o q=>?_
  have q:(match Z.get k with|some (.lst l)=>some (dG l 0)|_=>none)=some o:=q
  induction d:Z.get k using cN with
  | none=>replace q:=d▸q;exact bj q
  | some p =>
   replace q:=d▸q
   induction p using eO with
   | lst l =>
    refine ai (aB W d) fun j x G=>?_
    exact wpAny_pyIter_list x.isList (h _ _ s.toks (aF _ _) (cn _) ⟨⟨_,fI _ rfl,rfl,rfl⟩,F⟩)
   | _=>exact bj q
 | seq l =>
  rcases r with ⟨a,j,rfl,⟨o,n,i,e,f⟩,r⟩|⟨r,a,b,c,t,u,w,m,rfl,rfl,z,B,C⟩
  ·exact wpAny_pyIter_tuple ⟨o,i,e,n,f⟩ (h _ _ s.toks (aF _ _) (cn _) (.inl ⟨a,j,⟨o,n,aF _ _ _ _ i,e,f⟩,r.mono (.of_keeps (aF _ _)) (fun y y=>rfl) (e5 _),⟨_,fI _ rfl,rfl,rfl⟩⟩))
  ·refine wpAny_pyIter_range z B (h _ _ s.toks (aF _ _) (cn _) (.inr ⟨m,a,c,rfl,?_⟩))
   have:(s.heap.push {cls:=.type "range_iterator",data:=.fields #[rawInt a,rawInt (H1 a b c),rawInt c]}).get? s.heap.objs.size=some {cls:=.type "range_iterator",data:=.fields #[rawInt a,rawInt (H1 a b c),rawInt c]}:=fI _ rfl
   rw[C] at this ⊢
   simpa using this
 | zip _ _=>exact r.elim
 | enm _=>exact r.elim
end
open PySem.Sem (wp)
def Sq (h:Heap) (v:bo) (xs:Array bo):Prop:=∃a,v=.ref a/\(h.IsList a xs\/h.IsTuple a xs)
def EndedAt (h:Heap) (i:Addr):Prop:=(∃l,h.IsListIter i l 0/\h.IsList l #[])\/∃t,h.IsTupleIter i t 0/\h.IsTuple t #[]
section
variable {M:Model} {prog:KE} {w:World} {A:ef} {E:bo->ce->Prop} {s:ce}
theorem tw {i:Addr} {Q:bo->ce->Prop} (hh:A.handled=none) (x:EndedAt s.heap i)
  (hE:∀h' e,Heap.ExtBut i s.heap h'->(∃o,h'.get? e=some o/\o.cls=.type "StopIteration")->E (.ref e) {s with heap:=h'}):dk (model prog w) A (je.SmallTypes.nextOf (.ref i)) Q E s:=by
 rcases x with ⟨l,b,j⟩|⟨t,b,n⟩
 ·exact wpAny_nextOf_list_end hh b j (by simp) hE
 ·refine dS (id b) fun o f q d=>?_
  refine dS n fun p g k h=>?_;refine aG h fun nt c=>?_
  unfold je.SmallTypes.nextOf
  refine b9 (wpAny_callSpecial?_slot (name:=dX "__next__") b.typeIs PySem.F.slot_tuple_iterator_next
   (wpAny_call_entry PySem.F.slot_tuple_iterator_next b.typeIs PySem.F.entry_tuple_iterator_next ?_ (PySem.F.args_tuple_iterator_next_1 _)))
  show dk _ _ (field (.ref i) 0 >>= _) _ _ s
  refine b9 (B2 f d (x:=.ref t) rfl ?_)
  show dk _ _ (if(bo.ref t==bo.none)=true then _ else _) _ _ s
  refine aa (if_neg (show ¬((bo.ref t==bo.none)=true) from Bool.false_ne_true)) ?_
  show dk _ _ (field (.ref i) 1 >>= _) _ _ s
  refine b9 (B2 f d (x:=.int 0 0) rfl ?_)
  show dk _ _ (seqItems? (.ref t) >>= _) _ _ s
  refine b9 (wpAny_seqItems g c (b9 (wpAny_rule (b9 (wpAny_setField f d (by simp) ?_)))))
  show dk _ _ (newExc (.type "StopIteration") [] >>= _) _ _ _
  refine b9 ?_
  simp only[newExc,newTuple]
  refine b9 (GX ?_ (by size_fits))
  refine b9 (m:=firstArgMember _ _) (wpAny_of_eq (a:=bo.none) (by first|rfl|(simp only[firstArgMember];rfl)) ?_)
  refine GX ?_ (by size_fits)
  exact wpAny_raiseNew_none (show A.in1.handled=none from hh) ((hE _ _ (((Heap.SameBut.update ..).extBut.push _).push _) ⟨_,fI _ rfl,rfl⟩))
def yW (h:Heap) (z i1:Addr):Prop:=∃TI TO i2,IsZip h z TI TO .none/\IsPair h TI (.ref i1) (.ref i2)/\EndedAt h i1/\i1≠z/\TI≠z/\TI≠i1
theorem yX {z i1:Addr} {Q:Option bo->ce->Prop} (hh:A.handled=none) (x:yW s.heap z i1) (hQ:∀h',(∀c o,c≠z->c≠i1->s.heap.get? c=some o->h'.get? c=some o)->Q none {s with heap:=h'}) :
  dk (model prog w) A (pyNext (.ref z)) Q E s:=by
 refine zX x fun B K i2 h P en I nT a2=>?_
 have U:s.TypeIs (.ref z) "zip":=⟨_,h,rfl⟩
 unfold pyNext
 refine b9 (wpAny_attempt (wpAny_callSpecial?_slot (name:=dX "__next__") U PySem.F.slot_zip_next (wpAny_call_entry PySem.F.slot_zip_next U PySem.F.entry_zip_next ?_ (PySem.F.args_zip_next_1 _))))
 show dk _ _ (field (.ref z) 2 >>= _) _ _ _
 refine b9 (B2 h rfl (x:=.bool false) rfl ?_)
 show dk _ _ (field (.ref z) 3 >>= _) _ _ _
 refine b9 (B2 h rfl (x:=.ref B) rfl (b9 (wpAny_seqItems P rfl ?_)))
 show dk _ _ (je.SmallTypes.ownedTupleIsFree (.ref z) >>= _) _ _ _
 refine b9 ?_
 unfold je.SmallTypes.ownedTupleIsFree
 refine b9 (B2 h rfl (x:=.none) rfl (ct ?_))
 simp only[if_true]
 refine b9 (wpAny_rule (b9 (B2 h rfl (x:=.ref K) rfl (b9 (wpAny_setField_rec h (by simp) fun y g d=>?_)))))
 replace g:IsZip y z B K .ellipsis:=g
 refine b9 ?_
 simp only[List.zipIdx_cons,List.zipIdx_nil,tc,List.forIn_nil]
 refine b9 (b9 (wpAny_onRaise ?_))
 show dk _ _ (je.SmallTypes.nextOf (.ref i1) >>= _) _ _ _
 have L:EndedAt y i1:=by
  have S:∀{b:Addr} {o:Obj},(∀v,v.size=5->o.data≠.fields v)->s.heap.get? b=some o->y.get? b=some o:=fun{b o} q e=>d.extBut b o (fun Z=>by
   subst Z
   have H:s.heap.get? b=some _:=h
   replace e:=H▸e;cases e;exact q _ rfl rfl) e
  rcases en with ⟨l,a,⟨M,G,N,n,k⟩⟩|⟨t,a,⟨M,G,N,n,k⟩⟩
  ·exact .inl ⟨l,a.extBut d.extBut I,M,S (fun v W z=>by replace z:=k▸z;cases z) G,N,n,k⟩
  ·refine ai a fun Y u C=>?_
   exact .inr ⟨t,⟨Y,d.extBut _ _ I u,C⟩,M,S (fun v W z=>by replace z:=k▸z;cases z) G,N,n,k⟩
 refine b9 (tw hh L fun a1 e r he=>?_)
 refine ai he fun oe f p=>?_
 have j:IsZip a1 z B K .ellipsis:=r _ _ (Ne.symm I) g
 have J:e≠z:=fun x=>by subst x;replace f:=j▸f;cases f;simp at p
 refine wpAny_setField_rec j (by simp) fun a3 W m=>?_
 have i:=m.extBut _ _ J f
 refine b9 (wpAny_isInstance (T:="StopIteration") (b:=true) ⟨oe,i,p⟩ isSubtype_stop (ct (hQ _ fun c o u C x=>m.extBut _ _ u (r _ _ C (d.extBut _ _ u x)))))
end
theorem rg {hp:Heap} {o1 o2:Obj} (f1:o1.isFreed=false) (en:∀h',(∀a o,hp.get? a=some o->h'.get? a=some o)->h'.get? hp.objs.size=some o1->EndedAt h' hp.objs.size) :
  ∀h5,h5=((((hp.push o1).push o2).push {cls:=.type "tuple",data:=.seq #[.ref hp.objs.size,.ref (hp.push o1).objs.size]}).push {cls:=.type "tuple",data:=.seq #[.none,.none]}).push
    {cls:=.type "zip",data:=.fields #[.none,.bool false,.bool false,.ref ((hp.push o1).push o2).objs.size,.ref (((hp.push o1).push o2).push {cls:=.type "tuple",data:=.seq #[.ref hp.objs.size,.ref (hp.push o1).objs.size]}).objs.size]} ->
   yW h5 (hp.objs.size+4) hp.objs.size/\(∀c o,hp.get? c=some o->h5.get? c=some o)/\hp.get? (hp.objs.size+4)=none/\hp.get? hp.objs.size=none:=by
 rintro h5 rfl
 have b:∀c o,hp.get? c=some o->(((((hp.push o1).push o2).push {cls:=.type "tuple",data:=.seq #[.ref hp.objs.size,.ref (hp.push o1).objs.size]}).push {cls:=.type "tuple",data:=.seq #[.none,.none]}).push
    {cls:=.type "zip",data:=.fields #[.none,.bool false,.bool false,.ref ((hp.push o1).push o2).objs.size,.ref (((hp.push o1).push o2).push {cls:=.type "tuple",data:=.seq #[.ref hp.objs.size,.ref (hp.push o1).objs.size]}).objs.size]}).get? c=some o:=fun c o e =>
  aF _ _ _ _ (aF _ _ _ _ (aF _ _ _ _ (aF _ _ _ _ (aF _ _ _ _ e))))
 refine⟨⟨hp.objs.size+2,hp.objs.size+3,hp.objs.size+1,?_,?_,en _ b ?_,rd (Nat.lt_add_of_pos_right (by decide)),rd (Nat.add_lt_add_left (by decide) _),H5 (Nat.lt_add_of_pos_right (by decide))⟩,b,E8 (by omega),E8 (e5 _)⟩
 ·have:=fI ((((hp.push o1).push o2).push {cls:=.type "tuple",data:=.seq #[.ref hp.objs.size,.ref (hp.push o1).objs.size]}).push {cls:=.type "tuple",data:=.seq #[.none,.none]})
   (o:={cls:=.type "zip",data:=.fields #[.none,.bool false,.bool false,.ref ((hp.push o1).push o2).objs.size,.ref (((hp.push o1).push o2).push {cls:=.type "tuple",data:=.seq #[.ref hp.objs.size,.ref (hp.push o1).objs.size]}).objs.size]}) rfl
  simp only[I2] at this ⊢
  exact this
 ·have:=aF _ {cls:=.type "zip",data:=.fields #[.none,.bool false,.bool false,.ref ((hp.push o1).push o2).objs.size,.ref (((hp.push o1).push o2).push {cls:=.type "tuple",data:=.seq #[.ref hp.objs.size,.ref (hp.push o1).objs.size]}).objs.size]} _ _ (aF _ {cls:=.type "tuple",data:=.seq #[.none,.none]} _ _ (fI ((hp.push o1).push o2) (o:={cls:=.type "tuple",data:=.seq #[.ref hp.objs.size,.ref (hp.push o1).objs.size]}) rfl))
  simp only[I2] at this ⊢
  exact this
 ·exact aF _ _ _ _ (aF _ _ _ _ (aF _ _ _ _ (aF _ _ _ _ (fI hp f1))))
theorem yY (l1 l2:Addr) (ys:Array bo) :
  Meets (je.«zip.__new__» ⟨[.type "zip",.ref l1,.ref l2],[]⟩) (fun u_ R s=>s.heap.IsList l1 #[]/\s.heap.IsTuple l2 ys /\
   ∀h' z i1,yW h' z i1->(∀c o,s.heap.get? c=some o->h'.get? c=some o)->s.heap.get? z=none->s.heap.get? i1=none->R (.ok (.ret (.ref z))) {s with heap:=h'}) :=
 .of_wp fun n w A R s h=>by
  obtain⟨hp,g,d,l,p⟩:=s;refine cE h fun b f h=>?_
  have m:=sub_zip
  have i:Heap.IsList (ce.heap ⟨hp,g,d,l,p⟩) l1 #[]:=b
  have j:Heap.IsTuple (ce.heap ⟨hp.push {cls:=.type "list_iterator",data:=.fields #[.ref l1,.int 0 0]},g,d,l,p⟩) l2 ys:=f.at fun o e=>f4 _ e
  refine oM (rg (hp:=hp) (o1:={cls:=.type "list_iterator",data:=.fields #[.ref l1,.int 0 0]}) (o2:={cls:=.type "tuple_iterator",data:=.fields #[.ref l2,.int 0 0]}) rfl (fun h' k e=>.inl ⟨l1,⟨_,e,rfl,rfl⟩,b.at fun o e=>k _ o e⟩) _ rfl) ?_;intro t u r q
  have a:=h _ _ _ t u r q
  wp_walk using wpAny_pyIter_list i,wpAny_pyIter_tuple j
  refine⟨_,rfl,?_⟩
  simp only[I2] at a ⊢
  exact a
theorem yZ (l1 l2:Addr) (ys:Array bo) :
  Meets (je.«zip.__new__» ⟨[.type "zip",.ref l1,.ref l2],[]⟩) (fun u_ R s=>s.heap.IsTuple l1 #[]/\s.heap.IsTuple l2 ys /\
   ∀h' z i1,yW h' z i1->(∀c o,s.heap.get? c=some o->h'.get? c=some o)->s.heap.get? z=none->s.heap.get? i1=none->R (.ok (.ret (.ref z))) {s with heap:=h'}) :=
 .of_wp fun n w A R s h=>by
  obtain⟨hp,g,d,l,p⟩:=s;refine cE h fun b f h=>?_
  have m:=sub_zip
  have i:Heap.IsTuple (ce.heap ⟨hp,g,d,l,p⟩) l1 #[]:=b
  have j:Heap.IsTuple (ce.heap ⟨hp.push {cls:=.type "tuple_iterator",data:=.fields #[.ref l1,.int 0 0]},g,d,l,p⟩) l2 ys:=f.at fun o e=>f4 _ e
  refine oM (rg (hp:=hp) (o1:={cls:=.type "tuple_iterator",data:=.fields #[.ref l1,.int 0 0]}) (o2:={cls:=.type "tuple_iterator",data:=.fields #[.ref l2,.int 0 0]}) rfl (fun h' k e=>.inr ⟨l1,⟨_,e,rfl,rfl⟩,b.at fun o e=>k _ o e⟩) _ rfl) ?_;intro t u r q
  have a:=h _ _ _ t u r q
  wp_walk using wpAny_pyIter_tuple i,wpAny_pyIter_tuple j
  refine⟨_,rfl,?_⟩
  simp only[I2] at a ⊢
  exact a
section
variable {prog:KE} {w:World} {A:ef} {E:bo->ce->Prop} {s:ce}
theorem y0 {v1:bo} {l2:Addr} {ys:Array bo} {Q:bo->ce->Prop} (h1:Sq s.heap v1 #[]) (h2:s.heap.IsTuple l2 ys)
  (h:∀h' z i1,yW h' z i1->(∀c o,s.heap.get? c=some o->h'.get? c=some o)->s.heap.get? z=none->s.heap.get? i1=none->Q (.ref z) {s with heap:=h'}) :
  dk (model prog w) A (call (.type "zip") [v1,.ref l2]) Q E s:=by
 refine ai h1 ?_;clear h1;rintro a rfl e;obtain hl|ht:=e
 ·exact callType_new PySem.F.called_zip (by decide) (PySem.F.typeCall_zip_2 _ _) (PySem.F.newCall_zip_2 _ _) (fun b=>PySem.F.args_object_init_3 b _ _) PySem.F.entry_zip_new (yY a l2 ys) ⟨hl,h2,fun h' z i1 x k f d=>⟨hU x fun _ _ _ g _=>⟨_,g,rfl⟩,h h' z i1 x k f d⟩⟩
 ·exact callType_new PySem.F.called_zip (by decide) (PySem.F.typeCall_zip_2 _ _) (PySem.F.newCall_zip_2 _ _) (fun b=>PySem.F.args_object_init_3 b _ _) PySem.F.entry_zip_new (yZ a l2 ys) ⟨ht,h2,fun h' z i1 x k f d=>⟨hU x fun _ _ _ g _=>⟨_,g,rfl⟩,h h' z i1 x k f d⟩⟩
end
def XL (env:Env):Addr->Prop:=fun b=>b=env.locals
def gE (y:Nat):Prop:=SR (nm y) y
theorem kX {y z:Nat} (hy:gE y) (hz:gE z) (e:nm y=nm z):y=z:=by exact bw hy.2 (bw hz.2 (aa e rfl))
structure EnvS (g:Gd) (env:Env) (sc:Scope) (Z:St) (U:Nat->Addr) (h:Heap) (cs:List (Nat×Nat)) (lv:aO):Prop where
 e:EnvR g env sc Z U h cs lv
 ok:∀y v,az y lv=some v->gE y
section
variable {g:Gd} {F:Addr->Prop} {env:Env} {sc:Scope} {s s':ce} {U U':Nat->Addr} {Z Z':St} {A:ef} {E':bo->ce->Prop} {cs:List (Nat×Nat)} {lv:aO} {M:Model}
theorem xG {α:Type} {z y:Nat} {a:α} {l:List (Nat×α)} {v:α} (h:az z ((y,a)::l)=some v):(z=y/\v=a)\/(z≠y/\az z l=some v):=by
 rw[ax] at h
 by_cases e:y=z
 ·subst e;replace h:=if_pos rfl▸h;cases h;exact .inl ⟨rfl,rfl⟩
 ·replace h:=if_neg e▸h;exact .inr ⟨fun q=>e q.symm,h⟩
theorem jN (W:R g Z U s.heap) (P:Pv g F (XL env) Z U s.heap) (E:EnvS g env sc Z U s.heap cs lv) {y:Nat} {a:V} {v:bo} {Q:Unit->ce->Prop} (hk:aP sc y .local=true) (hy:gE y) (r:VR g s.heap U Z.nx a v)
  (hq:∀s',Go g F (XL env) Z U s Z U s'->EnvS g env sc Z U s'.heap cs ((y,a)::lv)->Q () s'):dk M A (storeName env (nm y) v) Q E' s:=by
 refine ai E.e.loc fun m N i=>?_
 refine wpAny_storeName_local (E.e.knL y hk) N (fun j h d=>?_) (aa E.e.kind rfl)
 have G:Go g F (XL env) Z U s Z U {s with heap:=j,toks:=s.toks+1}:=.loc W P rfl (.of_ns h) fun b o k e=>d.extBut b o k e
 refine hq _ G ⟨⟨E.e.kind,⟨_,h,fun z w c=>?_⟩,E.e.cel,E.e.knL,E.e.knC,E.e.knG,E.e.glob,E.e.blt,E.e.cla⟩,fun z w c=>?_⟩
 ·rcases xG c with ⟨rfl,rfl⟩|⟨f,c⟩
  ·exact⟨v,by simp,G.vr r⟩
  ·refine ai (i z w c) fun u l n=>?_
   exact⟨u,by refine aa (if_neg fun e=>f (kX (E.ok z w c) hy e)) ?_;exact l,G.vr n⟩
 ·rcases xG c with ⟨rfl,rfl⟩|⟨f,c⟩
  ·exact hy
  ·exact E.ok z w c
theorem EnvS.go {X:Addr->Prop} (E:EnvS g env sc Z U s.heap cs lv) (W:R g Z U s.heap) (P:Pv g F X Z U s.heap) (hF:F env.locals) (nX:¬X env.locals) (G:Go g F X Z U s Z' U' s'):EnvS g env sc Z' U' s'.heap cs lv:=by
 refine ai E.e.loc fun m c l=>?_;refine hU c fun ob h j o r=>?_
 have n:¬HC Z U env.locals:=fun q=>aA q fun i k p z _=>(P _ (.inl hF)).2.2 i (W.ob i k p).1 z
 refine⟨⟨E.e.kind,⟨m,?_,fun y v f=>ai (l y v f) fun u a b=>⟨u,a,G.vr b⟩⟩,fun y i t f=>?_,E.e.knL,E.e.knC,E.e.knG,E.e.glob,E.e.blt,E.e.cla⟩,E.ok⟩
 ·rcases G.sp.kp _ ob o n nX with d|⟨_,w,d⟩
  ·exact⟨ob,h,j,d,r⟩
  ·exact⟨_,h,j,d,r⟩
 ·refine am (E.e.cel y i t f) fun a b=>?_
  exact⟨f3 a G.sp.nx,aa (G.sp.ag i a) b⟩
theorem wA (W:R g Z U s.heap) (P:Pv g F (XL env) Z U s.heap) (E:EnvS g env sc Z U s.heap cs lv) {y i:Nat} {a:V} {v:bo} {Q:Unit->ce->Prop} (hk:aP sc y .cell=true) (hkc:env.kindOf (nm y)=some .cell) (hi:az y cs=some i) (ho:xe (Z.get i)=true) (hm:Z.mut i=true)
  (hF:F env.locals) (r:VR g s.heap U Z.nx a v) (hq:∀s',Go g F (XL env) Z U s (Z.set i (.cel a)) U s'->EnvS g env sc (Z.set i (.cel a)) U s'.heap cs lv->Q () s'):dk M A (storeName env (nm y) v) Q E' s:=by
 refine am (E.e.cel y i (aa hk rfl) hi) fun H w=>?_
 have c:∃t p h,s.heap.get? (U i)=some h/\h.data=.cell t/\Z.get i=some p:=by
  induction f:Z.get i using cN with
  | none=>replace ho:=f▸ho;exact aS ho
  | some o =>
   replace ho:=f▸ho
   induction o using eO with
   | cel v=>refine ai (aB W f) fun x n C=>?_;refine ai n fun h e d=>?_;exact⟨_,_,_,e,d,rfl⟩
   | unb=>refine ai (aB W f) fun h e d=>?_;exact⟨_,_,_,e,d,rfl⟩
   | _=>exact aS ho
 refine lc c ?_;clear c;intro t p h k B f
 unfold storeName
 refine aa hkc (wpAny_ite_false (aa E.e.kind rfl) (b9 (wpAny_cellOf w ?_)))
 unfold cellSet
 refine b9 (wpAny_load k ?_)
 refine aa B ?_
 refine wpAny_update k ?_
 have j:(s.heap.update (U i) fun o=>{o with data:=.cell (some v)}).get? (U i)=some {h with data:=.cell (some v)}:=l5 _ k rfl
 have G:Go g F (XL env) Z U s (Z.set i (.cel a)) U {s with heap:=s.heap.update (U i) fun o=>{o with data:=.cell (some v)},toks:=s.toks} :=
  .set W P hm f (fun b o m e=>(ix _ _ (Ne.symm m)).trans e) j fun L=>⟨v,⟨_,j,rfl⟩,r.mono L (fun l l=>rfl) (e5 _)⟩
 have u:Go g F aL Z U s (Z.set i (.cel a)) U {s with heap:=s.heap.update (U i) fun o=>{o with data:=.cell (some v)},toks:=s.toks} :=
  .set W (fun b q=>P b (q.imp id False.elim)) hm f (fun b o m e=>(ix _ _ (Ne.symm m)).trans e) j fun L=>⟨v,⟨_,j,rfl⟩,r.mono L (fun l l=>rfl) (e5 _)⟩
 exact hq _ G (E.go W (fun b q=>P b (q.imp id False.elim)) hF (fun z=>z) u)
def ub (sc:Scope) (t:Tn):Prop:=gE t.2.1/\(t.1=false->aP sc t.2.1 .local=true)/\(t.1=true->aP sc t.2.1 .cell=true)
def pQ (g:Gd) (env:Env) (sc:Scope):Prop:=∀y,aP sc y .cell=true->env.kindOf (nm y)=some .cell
theorem tx (W:R g Z U s.heap) (P:Pv g F (XL env) Z U s.heap) (E:EnvS g env sc Z U s.heap cs lv) (CS:pQ g env sc) (hF:F env.locals) {t:Tn} {a:V} {v:bo} {Q:Unit->ce->Prop} {k:aO->St->Bool} (ht:ub sc t) (r:VR g s.heap U Z.nx a v) (h:Ho cs t a lv Z k=true)
  (hq:∀s' Z' lv',Go g F (XL env) Z U s Z' U s'->EnvS g env sc Z' U s'.heap cs lv'->k lv' Z'=true->Q () s'):dk M A (assign t.e env v) Q E' s:=by
 obtain⟨c,y,p⟩:=t
 refine wpAny_assign_Name ?_
 induction c using dI with
 | false=>exact jN W P E (ht.2.1 rfl) ht.1 r fun s' G b=>hq s' Z _ G b h
 | true =>
  have h:cM (az y cs) (fun i=>af (xe (Z.get i)) (wr i (.cel a) Z fun Z=>k lv Z) false)=true:=h
  refine bS h fun i f h=>?_
  refine ak h fun j h=>?_
  refine ak h fun d h=>?_
  exact wA W P E (ht.2.2 rfl) (CS y (ht.2.2 rfl)) f j d hF r fun s' G b=>hq s' _ lv G b h
theorem AV (CS:pQ g env sc) (hF:F env.locals):∀{ts:List Tn} {l:List V} {us:List bo} {Z:St} {s:ce} {lv:aO} {Q:Unit->ce->Prop} {k:aO->St->Bool},(∀t∈ts,ub sc t)->R g Z U s.heap->Pv g F (XL env) Z U s.heap->EnvS g env sc Z U s.heap cs lv ->
  VRs g s.heap U Z.nx l us->zV cs ts l lv Z k=true->(∀s' Z' lv',Go g F (XL env) Z U s Z' U s'->EnvS g env sc Z' U s'.heap cs lv'->k lv' Z'=true->Q () s')->dk M A (assignInOrder (ts.map fun t=>assign t.e env) us) Q E' s
 | [],l,us,Z,s,lv,Q,k,_,W,P,E,r,h,hq=>by
  refine uB (l:=l) h ?_;clear h;rintro rfl h
  cases r
  exact ct (hq s Z lv (.refl W P) E h)
 | t::ts,l,us,Z,s,lv,Q,k,ht,W,P,E,r,h,hq=>by
  induction l using fV with
  | nil=>exact aS h
  | cons a l =>
   refine aA r ?_;clear r;rintro v q rfl i x
   have h:Ho cs t a lv Z (fun w Z=>zV cs ts l w Z k)=true:=h
   show dk M A (assignInOrder (assign t.e env::ts.map fun t=>assign t.e env) (v::q)) Q E' s
   have b:dk M A (assign t.e env v) (fun H f=>dk M A (assignInOrder (ts.map fun t=>assign t.e env) q) Q E' f) E' s :=
    tx W P E CS hF (ht t (.head _)) i h fun f G n c C o =>
     AV CS hF (fun t m=>ht t (.tail _ m)) c.r c.p C (c.vrs x) o fun B y d j z u=>hq B y d (c.trans W j) z u
   exact assign_more b
where assign_more {M:Model} {A:ef} {f:bo->Sem Unit} {fs:List (bo->Sem Unit)} {v:bo} {q:List bo} {Q:Unit->ce->Prop} {E':bo->ce->Prop} {s:ce}
  (h:dk M A (f v) (fun u_ s1=>dk M A (assignInOrder fs q) Q E' s1) E' s):dk M A (assignInOrder (f::fs) (v::q)) Q E' s:=b9 (gv h)
end
inductive PoM (g:Gd) (F:Addr->Prop) (env:Env) (sc:Scope) (Z:St) (U:Nat->Addr) (s:ce) (cs:List (Nat×Nat)) (kn:KN) (s':ce):Prop
 | mk (Z':St) (U':Nat->Addr) (lv':aO) (G:Go g F (XL env) Z U s Z' U' s') (e:EnvS g env sc Z' U' s'.heap cs lv') (h:kn lv' Z'=true)
def PoS (g:Gd) (F:Addr->Prop) (env:Env) (sc:Scope) (Z:St) (U:Nat->Addr) (s:ce) (cs:List (Nat×Nat)) (kn:KN) (kr:K1):Flow->ce->Prop:=fun b a=>match b with
 | .next=>PoM g F env sc Z U s cs kn a
 | .ret v=>Po g F (XL env) Z U s kr v a
 | _=>False
structure Cs (g:Gd) (gT:Tx) (call ch:Call) (A:ef) (F:Addr->Prop) (env:Env) (sc:Scope):Prop where
 x:Cx g gT call A F env
 c:pQ g env sc
 k:env.scope.kind=.function
 h:gT.lp=true->∀e,lR g (A.mark (some e)) F ch
def SS (g:Gd) (gT:Tx) (sc:Scope) (st:Sx):Prop:=∀{call ch:Call} {A:ef} {F:Addr->Prop} {env:Env} {cs:List (Nat×Nat)} {vs:aO} {Z:St} {kn:KN} {kr:K1} {x:KX} {s:ce} {U:Nat->Addr},
 Cs g gT call ch A F env sc->R g Z U s.heap->Pv g F (XL env) Z U s.heap->EnvS g env sc Z U s.heap cs vs->eN st call ch cs vs Z kn kr x=true ->
  dk g.m A (exec (Hg st) env) (PoS g F env sc Z U s cs kn kr) (PX g F (XL env) Z U s x) s
def wB (g:Gd) (gT:Tx) (sc:Scope) (st:Sx):Prop:=∀{call ch:Call} {A:ef} {F:Addr->Prop} {env:Env} {cs:List (Nat×Nat)} {vs:aO} {Z:St} {kn:KN} {kr:K1} {x:KX} {s:ce} {U:Nat->Addr},
 Cs g gT call ch A F env sc->R g Z U s.heap->Pv g F (XL env) Z U s.heap->EnvS g env sc Z U s.heap cs vs->eN st call ch cs vs Z kn kr x=true ->
  dk g.m A (execs (fm st) env) (PoS g F env sc Z U s cs kn kr) (PX g F (XL env) Z U s x) s
def KT (g:Gd) (gT:Tx) (sc:Scope) (EP:Env->Prop) (b:List Stmt) (d:DS):Prop:=∀{call ch:Call} {A:ef} {F:Addr->Prop} {env:Env} {cs:List (Nat×Nat)} {vs:aO} {Z:St} {kn:KN} {kr:K1} {x:KX} {s:ce} {U:Nat->Addr},
 EP env->Cs g gT call ch A F env sc->R g Z U s.heap->Pv g F (XL env) Z U s.heap->EnvS g env sc Z U s.heap cs vs->d call ch cs vs Z kn kr x=true ->
  dk g.m A (execs b env) (PoS g F env sc Z U s cs kn kr) (PX g F (XL env) Z U s x) s
section
variable {g:Gd} {gT:Tx} {sc:Scope} {F:Addr->Prop} {env:Env} {s s' s'':ce} {U U' U'':Nat->Addr} {Z Z' Z'':St} {A:ef} {cs:List (Nat×Nat)} {lv:aO} {M:Model} {x:KX} {fr:Option Addr} {k':K1}
theorem Pv.noX {X:Addr->Prop} (P:Pv g F X Z U s.heap):Pv g F aL Z U s.heap:=fun b q=>P b (q.imp id False.elim)
theorem Go.xl {X:Addr->Prop} (G:Go g F aL Z U s Z' U' s') (W:R g Z U s.heap) (P:Pv g F X Z U s.heap):Go g F X Z U s Z' U' s':=G.wide W (fun a h=>h) (fun a h=>h.elim) P
theorem PX.xl {X:Addr->Prop} {v:bo} (W:R g Z U s.heap) (P:Pv g F X Z U s.heap) (p:PX g F aL Z U s x v s'):PX g F X Z U s x v s':=by
 obtain⟨a,b,c,G,e,y,z,w⟩:=p
 exact⟨a,b,c,G.xl W P,e,y,z,w⟩
theorem PoS.from{kn:KN} {kr:K1} {fl:Flow} (W:R g Z U s.heap) (y:Go g F (XL env) Z U s Z' U' s') (p:PoS g F env sc Z' U' s' cs kn kr fl s''):PoS g F env sc Z U s cs kn kr fl s'':=by
 cases fl with
 | next=>obtain⟨a,b,c,G,e,h⟩:=p;exact⟨a,b,c,y.trans W G,e,h⟩
 | ret v=>exact Po.from W y p
 | brk=>exact p.elim
 | cont=>exact p.elim
theorem uH {α:Type} {m:Sem α} {Q:α->ce->Prop} {Q0:α->ce->Prop} (W:R g Z U s.heap) (P:Pv g F (XL env) Z U s.heap) (h:dk M A m Q0 (PX g F aL Z U s x) s) (n:∀v s',Q0 v s'->Q v s'):dk M A m Q (PX g F (XL env) Z U s x) s :=
 dt h n fun a a q=>q.xl W P
theorem Iv {e:X} {p:Pos} (he:SV g gT true sc e) (hs:∀env,swapsWith (aX e) none p.line env=pure false):SS g gT sc (.exp e p):=by
 intro c u A F env f q Z m n x s U C W P E h
 show dk _ _ (exec (.Expr (aX e) p) env) _ _ s
 refine aa (exec_Expr env (aX e) p (by unfold interactive;refine aa C.k ?_;rfl) (hs env)) ?_
 refine b9 (io (b9 (uH W P (he C.x W P.noX E.e h) fun v j l=>?_)))
 obtain⟨i,r,a,d,t,o⟩:=l
 have b:PoS g F env sc Z U s f m n .next j:=⟨i,r,q,d.xl W P,E.go W P.noX C.x.fl (fun z=>z) d,o⟩
 exact wpAny_dropValue b
theorem Iw {e:X} {p:Pos} (he:SV g gT true sc e):SS g gT sc (.ret e p):=by
 intro b q A F i m t Z o r x s U C W P E h
 exact wpAny_Return_some (uH W P (he C.x W P.noX E.e h) fun v n f=>by cases f with|mk c l a k d j=>exact⟨c,l,a,k.xl W P,d,j⟩)
theorem Ix {t:X} {a b:Sx} {p:Pos} (ht:ST g gT true sc t) (ha:wB g gT sc a) (hb:wB g gT sc b):SS g gT sc (.iff t a b p):=by
 intro d l A F y i v Z j m x s U C W P E h
 refine wpAny_If (uH W P (ht (k:=fun z Z=>af z (eN a d l i v Z j m x) (eN b d l i v Z j m x)) C.x W P.noX E.e h) fun z G w=>?_)
 obtain⟨B,H,o,n⟩:=w
 have c:=o.xl W P
 have u:=E.go W P.noX C.x.fl (fun z=>z) o
 induction z using dI with
 | true=>exact dt (ha C c.r c.p u n) (fun f f q=>q.from W c) fun f f q=>q.from W c
 | false=>exact dt (hb C c.r c.p u n) (fun f f q=>q.from W c) fun f f q=>q.from W c
theorem DE:wB g gT sc .nil:=by
 intro a f A F b d c Z e i x s U C W P E h
 exact ct ⟨Z,U,c,.refl W P,E,h⟩
theorem AW {h t:Sx} (hh:SS g gT sc h) (ht:wB g gT sc t):wB g gT sc (.cons h t):=by
 intro d u A F c l y Z o w x s U C W P E i
 show dk _ _ (execs (Hg h::fm t) c) _ _ s
 rw[arm_execs_cons]
 refine b9 (dt (hh C W P E i) (fun e n q=>?_) fun a a q=>q)
 cases e with
 | next =>
  obtain⟨m,z,f,b,k,j⟩:=q
  exact dt (ht C b.r b.p k j) (fun a a q=>q.from W b) fun a a q=>q.from W b
 | ret v=>exact ct q
 | brk=>exact q.elim
 | cont=>exact q.elim
theorem wC {t:Tn} {e:X} {p:Pos} (he:SV g gT true sc e) (ht:ub sc t) (hs:∀env,pQ g env sc->swapsWithSole [t.e] (aX e) p.line env=pure false):SS g gT sc (.asg t e p):=by
 intro i J A F env M L Z o N x s U C W P E h
 show dk _ _ (exec (.Assign [t.e] (aX e) p) env) _ _ s
 rewrite[PyProof.Rows.exec_Assign];refine aa (hs env C.c) ?_
 refine b9 (io (b9 (ct ?_)))
 refine aa (if_neg (by decide)) ?_
 refine b9 (uH W P (he C.x W P.noX E.e h) fun v I m=>?_)
 obtain⟨H,G,a,j,l,f⟩:=m
 have b:=j.xl W P
 have w:=E.go W P.noX C.x.fl (fun z=>z) j
 refine b9 (ct ?_)
 have q:assignStores env v none ((assignEach [t.e] env).map (·.2))=(do assignAll v [assign t.e env];pure Flow.next):=by
  obtain⟨c,y,p⟩:=t;rfl
 refine aa q ?_
 refine b9 (tx (k:=o) b.r b.p w C.c C.x.fl ht l f fun K u d B n f=>ct ⟨u,G,d,b.trans W B,n,f⟩)
end
theorem uI {α:Type} (k j:Nat) (a b:α) (l:List (Nat×α)):put k a ((j,b)::l)=if j=k then(k,a)::l else(j,b)::put k a l:=by
 show af (c6 j k) ((k,a)::l) ((j,b)::put k a l)=_
 by_cases h:j=k
 ·subst h;exact aa (if_pos rfl) (aa (xd _) rfl)
 ·exact aa (if_neg h) (aa (bG h) rfl)
theorem AX {α:Type} (k j:Nat) (b:α) (l:List (Nat×α)):del k ((j,b)::l)=if j=k then l else(j,b)::del k l:=by
 show af (c6 j k) l ((j,b)::del k l)=_
 by_cases h:j=k
 ·subst h;exact aa (if_pos rfl) (aa (xd _) rfl)
 ·exact aa (if_neg h) (aa (bG h) rfl)
section
variable {g:Gd} {h:Heap} {U:Nat->Addr} {m:Nat} {u:Str} {c:Nat} {a:V} {v:bo}
theorem jO {s:Str} {w:bo} {kvs:List (Str×bo)} (hn:s∉kvs.map (·.1)):stored ((s,w)::kvs) u v=if s=u then(s,v)::kvs else(s,w)::stored kvs u v:=by
 unfold stored
 by_cases e:s=u
 ·subst e
  refine aa (if_pos rfl) (aa (if_pos (by simp)) ?_)
  simp only[ol,if_true]
  exact aa (map_store_of_not_mem kvs s v hn) rfl
 ·refine aa (if_neg e) ?_
  have b:((s,w)::kvs).any (fun a=>decide (a.1=u))=kvs.any fun a=>decide (a.1=u):=by simp[e]
  refine aa b ?_
  by_cases q:(kvs.any fun a=>decide (a.1=u))=true
  ·exact aa (if_pos q) (aa (if_pos q) (aa ol (aa (if_neg e) rfl)))
  ·exact aa (if_neg q) (aa (if_neg q) rfl)
theorem ERs.put (hu:SR u c) (ha:VR g h U m a v) {l:List (Nat×V)} {kvs:List (Str×bo)} (r:ERs g h U m l kvs) (hn:(kvs.map (·.1)).Nodup):ERs g h U m (put c a l) (stored kvs u v):=by
 revert hn;refine r.ind (fun _=>⟨u,v,[],rfl,hu,ha,rfl⟩) fun{p r s w q} b i d f hn=>?_
 replace hn:=(ol)▸hn;rewrite[rc] at hn
 refine aa (jO hn.1) (aa (uI c p.1 a p.2 r) ?_)
 by_cases e:p.1=c
 ·refine aa (if_pos e) (aa (if_pos ((b.ne hu).mpr e)) ?_)
  exact⟨s,v,q,rfl,e▸b,ha,d⟩
 ·refine aa (if_neg e) (aa (if_neg fun z=>e ((b.ne hu).mp z)) ?_)
  exact⟨s,w,_,rfl,b,i,f hn.2⟩
theorem ERs.del (hu:SR u c):∀{l:List (Nat×V)} {kvs:List (Str×bo)},ERs g h U m l kvs->(kvs.map (·.1)).Nodup->ERs g h U m (del c l) (without kvs u)
 | [],_,e,_=>by cases e;exact rfl
 | (j,b)::r,_,⟨s,w,q,e,hs,hb,hr⟩,d=>by
  subst e
  replace d:=(ol)▸d;rewrite[rc] at d
  rw[AX]
  by_cases e:j=c
  ·refine aa (if_pos e) ?_
   have a:s=u:=(hs.ne hu).mpr e
   subst a
   have:without ((s,w)::q) s=q:=by
    have:=without_of_not_mem q s d.1
    unfold without at *
    simpa using this
   exact aa this hr
  ·refine aa (if_neg e) ?_
   have a:¬s=u:=fun z=>e ((hs.ne hu).mp z)
   have:without ((s,w)::q) u=(s,w)::without q u:=by
    unfold without;simp[a]
   refine aa this ?_
   exact⟨s,w,_,rfl,hs,hb,ERs.del hu hr d.2⟩
theorem DictOf.nodup {kvs:List (Str×bo)} {d:Addr} (x:h.DictOf (strKind g.prog g.w) d kvs):(kvs.map (·.1)).Nodup:=zX x fun _ _ _ _ _ _ _ _ n=>n
end
section
variable {g:Gd} {F X:Addr->Prop} {s:ce} {U:Nat->Addr} {Z:St} {A:ef} {E:bo->ce->Prop} {t:Nat}
theorem xH (W:R g Z U s.heap) (P:Pv g F X Z U s.heap) {d:Nat} {l:List (Nat×V)} {c:Nat} {u:Str} {a:V} {v:bo} {h':Heap} {kvs:List (Str×bo)} (hm:Z.mut d=true) (ed:Z.get d=some (.dic l)) (hu:SR u c) (ra:VR g s.heap U Z.nx a v)
  (hd:s.heap.DictOf (strKind g.prog g.w) (U d) kvs) (re:ERs g s.heap U Z.nx l kvs) (hd':h'.DictOf (strKind g.prog g.w) (U d) (stored kvs u v)) (hs:Heap.SameBut (U d) s.heap h') :
  Go g F X Z U s (Z.set d (.dic (put c a l))) U {s with heap:=h',toks:=t}:=by
 refine hU hd' fun o h k f r=>?_
 exact .set W P hm ed (fun b o i e=>(hs.2 b i).trans e) f fun L=>⟨_,⟨o,h,k,f,r⟩,(re.put hu ra (DictOf.nodup hd)).mono L (fun j j=>rfl) (e5 _)⟩
theorem setItem_ok (W:R g Z U s.heap) (P:Pv g F X Z U s.heap) {d:Nat} {l:List (Nat×V)} {c:Nat} {u:Str} {tk:Tok} {a:V} {v:bo} {k:St->Bool} {Q:Unit->ce->Prop} (ed:Z.get d=some (.dic l)) (hu:SR u c) (ra:VR g s.heap U Z.nx a v) (h:sN d (put c a l) Z k=true)
  (hq:∀s' Z',Go g F X Z U s Z' U s'->k Z'=true->Q () s'):dk g.m A (setItem (.ref (U d)) (.str u tk) v) Q E s:=by
 refine ai (aB W ed) fun e j i=>?_
 refine ak h fun f h=>?_
 refine ak h fun o h=>?_
 have f:=bY f
 rw[bB] at f
 have p:e.length<=sizeLine:=by
  refine aa i.length ?_
  have:l.length<=(put c a l).length:=put_len c a l
  exact dw (by lia)
 exact wpAny_setItem_pairs (knd:=strKind g.prog g.w) (k:=u) (hsz:=p) lQ j fun q b n=>hq _ _ (xH W P o ed hu ra j i b n) h
where put_len (c:Nat) (a:V):∀l:List (Nat×V),l.length<=(put c a l).length
 | []=>L2 _
 | (j,b)::r=>by
  rw[uI]
  split
  ·exact e5 _
  ·simp only[l7];have:=put_len c a r;lia
theorem VRs.setAt {h:Heap} {m:Nat} {a:V} {v:bo} (hv:VR g h U m a v) {l:List V} {us:List bo} (n:Nat) (r:VRs g h U m l us):VRs g h U m (Mine.setAt l a n) (us.set n v):=by
 revert n;refine r.ind (fun _=>rfl) fun{x l w q} a y b n=>?_
 induction n using jq with
 | zero=>exact⟨v,q,rfl,hv,y⟩
 | succ n=>exact⟨w,_,rfl,a,b n⟩
theorem qS {prog:KE} {w:World} {A:ef} {E:bo->ce->Prop} {s:ce} {a:Addr} {vs:Array bo} {n0:Nat} {i:Int} {tk:Tok} {v:bo} {Q:Unit->ce->Prop} (e0:s.heap.get? a=some {cls:=.type "list",dict:=none,data:=.seq vs n0,slots:=#[]})
  (h0:0<=i) (hfit:i<2 ^ 63) (hn:i<vs.size) (fin:Q () {s with heap:=s.heap.update a (jj (·.setIfInBounds i.toNat v))}):dk (model prog w) A (setItem (.ref a) (.int i tk) v) Q E s:=by
 have b:s.TypeIs (.ref a) "list":=⟨_,e0,rfl⟩
 unfold setItem
 try with_reducible refine gv ?_
 first|refine b9 (ct ?_)|skip
 refine b9 (wpAny_sequenceKey b (by decide) ?_)
 refine b9 (wpAny_callSpecial?_slot (name:=dX "__setitem__") b slot_list_setitem (wpAny_call_entry slot_list_setitem b entry_list_setitem ?_ (args_list_setitem _ _ _)))
 show dk _ _ (je.List.listSubscript? (.int i tk) >>= _) _ _ s
 refine b9 (wpAny_listSubscript_int (fitsIndex_of h0 hfit) ?_)
 clear hfit
 refine aG (Int.eq_ofNat_of_zero_le h0) ?_;rintro n rfl
 have d:n<vs.size:=by lia
 have c:vs[n]?=some vs[n]:=Array.getElem?_eq_getElem d
 show dk _ _ ((seqItemAt a n >>= fun r=>pure (r.map (n,·))) >>= _) _ _ s
 refine b9 (b9 (wpAny_seqItemAt e0 rfl (ct ?_)))
 refine aa c ?_
 show dk _ _ (setSeqItemAt a n v >>= _) _ _ s
 refine b9 (wpAny_setSeqItemAt e0 rfl ?_)
 first
  | exact b9 (ct (ct ⟨.none,rfl,ct fin⟩))
  | exact ct ⟨.none,rfl,ct fin⟩
theorem wD (W:R g Z U s.heap) (P:Pv g F X Z U s.heap) {d:Nat} {l:List V} {j:V} {w:bo} {a:V} {v:bo} {k:St->Bool} {Q:Unit->ce->Prop} (ed:Z.get d=some (.lst l)) (rj:VR g s.heap U Z.nx j w) (ra:VR g s.heap U Z.nx a v) (h:LZ l d j a Z k=true)
  (hq:∀s' Z',Go g F X Z U s Z' U s'->k Z'=true->Q () s'):dk g.m A (setItem (.ref (U d)) w v) Q E s:=by
 refine kR h ?_;clear h;rintro i rfl h
 refine aG rj ?_;clear rj;rintro J rfl
 cases i with
 | negSucc n=>exact aS h
 | ofNat n =>
  refine ak (show af (l9 n (len l)) (af (eL n 1000000) (wr d (.lst (setAt l a n)) Z k) false) false=true from h) fun p h=>?_
  refine ak h fun u h=>?_
  refine ak h fun H h=>?_
  have p:n<len l:=bY p
  have u:=bY u
  rw[bB] at p
  refine ai (aB W ed) fun f y q=>?_
  have c:=q.length
  replace c:=ir▸c
  refine aG y fun B r=>?_
  have K:n<f.size:=by lia
  refine aG (jJ f B (fun I=>I.setIfInBounds n v)) fun m x=>?_
  have t:(s.heap.update (U d) (jj (·.setIfInBounds n v))).get? (U d)=some {cls:=.type "list",data:=.seq (f.setIfInBounds n v) m}:=by
   rw[l5 _ r (aa x rfl),x]
  have G:Go g F X Z U s (Z.set d (.lst (setAt l a n))) U {s with heap:=s.heap.update (U d) (jj (·.setIfInBounds n v)),toks:=s.toks} :=
   .set W P H ed (fun b o C e=>(ix _ _ (Ne.symm C)).trans e) t fun L=>⟨_,⟨m,t⟩,aa Array.toList_setIfInBounds ((q.setAt ra n).mono L (fun z z=>rfl) (e5 _))⟩
  exact qS (i:=(n:Int)) r (by lia) (by lia) (by show(n:Int)<f.size;lia) (hq _ _ G h)
end
section
variable {g:Gd} {gT:Tx} {sc:Scope}
theorem DF {o i:X} {ip:Pos} {e:X} {p:Pos} (he:SV g gT true sc e) (ho:SV g gT true sc o) (hi:SV g gT true sc i) (hs:∀env,swapsWith (aX e) (some (.Subscript (aX o) (aX i) ip)) p.line env=pure false):SS g gT sc (.asgI o i ip e p):=by
 intro a1 ch A F env cs L Z K kr x s U C W P E h
 refine wpAny_Assign_Subscript (uH W P (he C.x W P.noX E.e h) fun v s1 H=>?_) (hs:=hs env)
 obtain⟨Z1,U1,a,n,Y,f⟩:=H
 have G:=n.xl W P
 have E1:=E.go W P.noX C.x.fl (fun z=>z) n
 refine dt (uH G.r G.p (ho C.x n.r n.p E1.e f) fun u s2 H=>?_) (fun B B q=>q) fun B B q=>q.from W G
 obtain⟨Z2,U2,b,m,r2,f⟩:=H
 have J:=m.xl G.r G.p
 have E2:=E1.go n.r n.p C.x.fl (fun z=>z) m
 refine dt (uH J.r J.p (hi C.x m.r m.p E2.e f) fun w s3 H=>?_) (fun B B q=>q) fun B B q=>(q.from G.r J).from W G
 obtain⟨Z3,S,c,j,N,f⟩:=H
 have X3:=j.xl J.r J.p
 have E3:=E2.go m.r m.p C.x.fl (fun z=>z) j
 refine cA f ?_;clear f;rintro d rfl f
 refine am r2 ?_;clear r2;rintro rfl hd
 have G03:=n.trans W (m.trans n.r j)
 refine bS (show cM (Z3.get d) _=true from f) fun ob ed f=>?_
 refine bw (j.sp.ag d hd) ?_
 have I:∀Q M,Go g F aL Z3 S s3 M S Q->K L M=true->PoS g F env sc Z U s cs K kr .next Q:=fun Q M G4 f=>⟨M,S,L,(G03.trans W G4).xl W P,E3.go j.r j.p C.x.fl (fun z=>z) G4,f⟩
 induction ob using eO with
 | lst l=>exact wD (k:=K L) j.r j.p (A:=A) ed N (j.vr (m.vr Y)) f I
 | dic l =>
  refine gC f ?_;clear f;rintro y rfl f
  refine bx N ?_;clear N;rintro w' t rfl hw
  exact setItem_ok (k:=K L) j.r j.p (A:=A) ed hw (j.vr (m.vr Y)) f I
 | _=>exact aS f
end
section
variable {g:Gd}
theorem xI {name:Str} {hsh:Int} {tk:Tok} {v:bo} (hh:hsh=(strKind g.prog g.w).hash name):∀{es:List FB} {kvs:List (Str×bo)},(∀e∈es,∃k,(strKind g.prog g.w).is k e.key=true/\e.hash=(strKind g.prog g.w).hash k)->Pairs (strKind g.prog g.w) es kvs->(kvs.map (·.1)).Nodup ->
  (∀e∈putL name hsh (.str name tk) v es,∃k,(strKind g.prog g.w).is k e.key=true/\e.hash=(strKind g.prog g.w).hash k)/\Pairs (strKind g.prog g.w) (putL name hsh (.str name tk) v es) (stored kvs name v)
 | [],kvs,_,hp,_=>by
  cases hp
  refine⟨fun e f=>?_,.cons lQ rfl .nil⟩
  rw[putL,List.mem_singleton] at f
  subst f
  exact⟨name,lQ,hh⟩
 | e::r,kvs,hk,hp,c=>by
  cases hp with
  | @cons _ kv _ kvs' h1 h2 h3 =>
   obtain⟨d,j⟩:=kv
   replace c:=(ol)▸c;rewrite[rc] at c
   refine aa (jO c.1) ?_;rw[putL]
   have b:(strKind g.prog g.w).is name e.key=decide (name=d):=KeyKind.is_eq_decide h1 name
   replace b:=AU▸b
   by_cases q:d=name
   ·refine aa (if_pos (aa b (decide_eq_true q.symm))) (aa (if_pos q) ?_)
    subst q
    refine⟨fun x a=>?_,.cons h1 rfl h3⟩
    rcases gg.mp a with rfl|a
    ·exact hk e (.head _)
    ·exact hk x (.tail _ a)
   ·refine aa (if_neg (by refine aa b ?_;simpa using fun z=>q z.symm)) (aa (if_neg q) ?_)
    obtain⟨h,i⟩:=xI hh (fun x a=>hk x (.tail _ a)) h3 c.2
    refine⟨fun x a=>?_,.cons h1 h2 i⟩
    rcases gg.mp a with rfl|a
    ·exact hk _ (.head _)
    ·exact h x a
theorem i8 {name:Str} {v:bo}:∀{kvs:List (Str×bo)},(kvs.map (·.1)).Nodup->((stored kvs name v).map (·.1)).Nodup/\∀x∈(stored kvs name v).map (·.1),x=name\/x∈kvs.map (·.1)
 | [],_=>⟨by simp[stored],by simp[stored]⟩
 | (s,w)::r,b=>by
  replace b:=(ol)▸b;rewrite[rc] at b
  refine aa (jO b.1) ?_
  refine am (i8 (name:=name) (v:=v) b.2) fun d c=>?_
  by_cases q:s=name
  ·refine aa (if_pos q) ?_;exact⟨by refine aa ol ?_;rw[rc];exact b,fun x a=>by rw[ol] at a ⊢;exact .inr a⟩
  ·refine aa (if_neg q) ?_
   refine⟨?_,fun x a=>?_⟩
   ·refine aa ol ?_;rw[rc]
    exact⟨fun m=>(c s m).elim q b.1,d⟩
   ·replace a:=ol▸a
    rcases gg.mp a with rfl|a
    ·exact .inr (by simp)
    ·exact(c x a).imp id fun z=>by exact aa ol (.tail _ z)
end
section
variable {g:Gd} {F X:Addr->Prop} {s:ce} {U:Nat->Addr} {Z:St} {A:ef} {E:bo->ce->Prop} {t:Nat} {K:Frag} {aT:List Nat}
theorem AY {h:Heap} {d:Addr} {es:List FB} {n:Nat} {kvs:List (Str×bo)} {name:Str} {tk:Tok} {v:bo} (e:h.get? d=some (dictOf es n)) (hd:h.DictOf (strKind g.prog g.w) d kvs) :
  (h.update d (Obj.putName name (ty.keyHash g.w.params name) (.str name tk) v)).DictOf (strKind g.prog g.w) d (stored kvs name v):=by
 refine zX hd fun o m q a i b l p f=>?_
 replace a:=e▸a
 cases a
 cases b
 refine am (xI (g:=g) (name:=name) (tk:=tk) (v:=v) (hsh:=ty.keyHash g.w.params name) rfl (fun x c=>l x (by simpa using c)) (by simpa using p) f) fun k j=>?_
 refine⟨dictOf (putL name (ty.keyHash g.w.params name) (.str name tk) v es) (putN name es n),_,_,?_,⟨rfl,rfl,rfl⟩,rfl,fun x c=>k x (by simpa using c),by simpa using j,(i8 f).1⟩
 rw[l5 _ e (by rw[putName_dict];rfl),putName_dict]
theorem pR (W:R g Z U s.heap) (P:Pv g F X Z U s.heap) {d a:Nat} {l:List (Nat×V)} {u:V} {v:bo} {tk:Tok} {Q:Fin->ce->Prop} (ka:SR (nm a) a)
  (hm:Z.mut d=true) (ed:Z.get d=some (.dic l)) (ru:VR g s.heap U Z.nx u v)
  (hz:(put a u l).length<=900) (hq:∀s',Go g F X Z U s (Z.set d (.dic (put a u l))) U s'->Q (.done (.ret .none)) s'):dk g.m A (je.ObjectAttr.storeInDict (U d) (.str (nm a) tk) (nm a) v) Q E s:=by
 refine ai (aB W ed) fun k o x=>?_
 refine iE (kU o) fun b n j t q B=>?_
 have h:b.any (·.refKey)=false:=F9 t
 have i:b.length=k.length:=by simpa using q.length
 have p:b.length<=900:=by
  refine aa i (aa x.length ?_)
  exact hD (setItem_ok.put_len a u l) hz
 refine b9 (ct (b9 ?_))
 unfold nsSet
 refine b9 (b9 (wpAny_askSetting (ct (b9 (wpAny_mkText (b9 (wpAny_loadPart j ?_)))))))
 have z:(!b.toArray.any (·.key.isStr (nm a))&&b.toArray.any (·.refKey))=false:=by
  have G:b.toArray.any (fun e=>e.refKey)=false:=by exact bw Array.any_toList h
  exact(Bool.and_eq_false_iff).mpr (.inr G)
 dsimp only[dictOf]
 refine aa (aRefKeyMayBeTheName_at _ _) (aa z ?_)
 have C:=AY (name:=nm a) (tk:=s.toks) (v:=v) j o
 have y:(s.heap.update (U d) (Obj.putName (nm a) (ty.keyHash g.w.params (nm a)) (.str (nm a) s.toks) v)).get? (U d)=some (dictOf (putL (nm a) (ty.keyHash g.w.params (nm a)) (.str (nm a) s.toks) v b) (putN (nm a) b n)):=by
  rw[l5 _ j (by rw[putName_dict];rfl),putName_dict]
 have I:∀(b:List FB) (name:Str) (f:Int) (c v:bo),(putL name f c v b).length<=b.length+1:=by
  intro b
  induction b with
  | nil=>intro name f c v;simp[putL]
  | cons e r H =>
   intro name f c v
   rw[putL]
   split
   ·simp
   ·have:=H name f c v;simp only[l7];lia
 refine wpAny_updatePart j ?_
 refine b9 (wpAny_lookBehind y (by
  have:=I b (nm a) (ty.keyHash g.w.params (nm a)) (.str (nm a) s.toks) v
  exact pastItsLine_dict (by refine aa oL (aa sizeLine_eq ?_);lia)) ?_)
 exact ct (hq _ (xH W P hm ed ka ru o x C (Heap.SameBut.update ..)))
theorem rk (W:R g Z U s.heap) (P:Pv g F X Z U s.heap) {x C:Addr} {ox:Obj} {cd:ClassData} {d a:Nat} {l:List (Nat×V)} {u:V} {v:bo} {b:Bool} {tk:Tok} {Q:Fin->ce->Prop} (ka:SR (nm a) a) (hx:s.heap.get? x=some ox) (hclr:ox.cls=.ref C) (hdx:ox.dict=some (U d))
  (Lc:Looks g.m s.heap (classData C) cd) (hhd:cd.hasDict=true) (hm:Z.mut d=true) (ed:Z.get d=some (.dic l)) (ru:VR g s.heap U Z.nx u v)
  (hz:(put a u l).length<=900) (hq:∀s',Go g F X Z U s (Z.set d (.dic (put a u l))) U s'->Q (.done (.ret .none)) s'):dk g.m A (je.ObjectAttr.storeInOwnDict (.ref x) (.ref C) (.str (nm a) tk) (nm a) v b) Q E s:=by
 obtain⟨h,c,f,e⟩:=ox
 dsimp only at hclr hdx
 subst hclr hdx
 refine b9 (ct (b9 (b9 (wpAny_loadPart hx (b9 (Lc.here ?_))))))
 refine aa hhd ?_
 refine ct (a:=some (U d)) ?_
 exact pR W P ka hm ed ru hz hq
theorem rm (KO:ClsOk g K aT) (W:R g Z U s.heap) (P:Pv g F X Z U s.heap) {i c d a:Nat} {l:List (Nat×V)} {u:V} {v:bo} {Q:Unit->ce->Prop} (ha:aT.contains a=true) (hc:g6 c=true) (ei:Z.get i=some (.ins c d)) (hm:Z.mut d=true) (ed:Z.get d=some (.dic l)) (ru:VR g s.heap U Z.nx u v)
  (hz:(put a u l).length<=900) (hq:∀s',Go g F X Z U s (Z.set d (.dic (put a u l))) U s'->Q () s'):dk g.m A (setAttr (.ref (U i)) (nm a) v) Q E s:=by
 refine vN (wy W ei ed) fun L y n t I o J C z H=>?_
 refine cE (KO.set c a hc ha) fun w x q=>?_
 have k:=KO.hK _ W.base
 have e:=KO.cls c hc
 simp only[uG,h9] at e
 refine ai (any_some e.1.1) fun B h j=>?_
 refine set_plain (K:=K) k I w ?_
 refine osa_open (s:={s with toks:=s.toks+1}) k I x q fun b=>?_
 have f:Go g F X Z U s Z U {s with toks:=s.toks+1}:=.tok W P _
 refine rk (s:={s with toks:=s.toks+1}) f.r f.p (KO.names a ha) I.at_ I.cls o (looks_clsIn k h) j hm ed (f.vr ru) hz (fun s' G=>hq s' (f.trans W G))
end
theorem Ga {o:Option O} {i a:Nat} {v:V} {Z:St} {k:St->Bool} (h:Hj o i a v Z k=true) :
  (∃c d,o=some (.ins c d)/\g6 c=true/\eP (Z.get d) (fun l=>sN d (put a v l) Z k)=true)\/(∃c d,o=some (.exn c d)/\c<200/\eP (Z.get d) (fun l=>sN d (put a v l) Z k)=true) \/
  ∃c d,o=some (.exn c d)/\200<=c/\c<400/\wr i (.exn (Nat.sub c 200) Z.nx) (Z.new (.dic [])) (fun Z'=>wr Z.nx (.dic (put a v [])) Z' k)=true:=by
 refine bS h ?_;clear h;rintro b rfl h
 induction b using eO with
 | ins c d=>refine ak (b:=g6 c) h fun g h=>?_;exact .inl ⟨c,d,rfl,g,h⟩
 | exn c d =>
  have h:af (eL 200 c) (af (eL c 399) (wr i (.exn (Nat.sub c 200) Z.nx) (Z.new (.dic [])) fun Z'=>wr Z.nx (.dic (put a v [])) Z' k) false) (eP (Z.get d) fun l=>sN d (put a v l) Z k)=true:=h
  induction e:eL 200 c using dI with
  | true =>
   replace h:=e▸h
   refine ak h fun f h=>?_
   exact .inr (.inr ⟨c,d,rfl,bY e,Nat.lt_succ_of_le (bY f),h⟩)
  | false =>
   replace h:=e▸h
   exact .inr (.inl ⟨c,d,rfl,Nat.lt_of_not_le (fun z=>by replace e:=iw z▸e;cases e),h⟩)
 | _=>exact aS h
section
variable {g:Gd} {gT:Tx} {sc:Scope} {K:Frag} {aT:List Nat}
theorem DG {o:X} {a:Nat} {ap:Pos} {e:X} {p:Pos} (KO:ClsOk g K aT) (XP:ExcP g aT) (ha:aT.contains a=true) (he:SV g gT true sc e) (ho:SV g gT true sc o) (hs:∀env,swapsWith (aX e) (some (.Attribute (aX o) (nm a) ap)) p.line env=pure false):SS g gT sc (.asgA o a ap e p):=by
 intro a3 ch A F env cs L Z N kr x s U C W P E h
 refine plainObj_wpAny_Assign_Attribute (uH W P (he C.x W P.noX E.e h) fun v s1 Y=>?_) (hs:=hs env)
 obtain⟨Z1,U1,b,B,S,f⟩:=Y
 have J:=B.xl W P
 have E1:=E.go W P.noX C.x.fl (fun z=>z) B
 refine dt (uH J.r J.p (ho C.x B.r B.p E1.e f) fun u s2 Y=>?_) (fun u_ u_ q=>q) fun u_ u_ q=>q.from W J
 obtain⟨G,U2,c,j,r2,f⟩:=Y
 have X2:=j.xl J.r J.p
 have E2:=E1.go B.r B.p C.x.fl (fun z=>z) j
 have G02:=B.trans W j
 refine cA f ?_;clear f;rintro i rfl f
 have y:∀{Q:St} {M:Nat->Addr} k,Go g F aL G U2 s2 Q M k->N L Q=true->PoS g F env sc Z U s cs N kr .next k:=fun{Q M} k m f =>
  ⟨Q,M,L,(G02.trans W m).xl W P,E2.go j.r j.p C.x.fl (fun z=>z) m,f⟩
 have a4:=r2
 refine am r2 ?_;clear r2;rintro rfl hi
 have n:∀{d:Nat},eP (G.get d) (fun l=>sN d (put a b l) G (N L))=true->∃l,G.get d=some (.dic l)/\G.mut d=true/\(put a b l).length<=900/\N L (G.set d (.dic (put a b l)))=true:=fun{d} f=>by
  refine gD f fun l H f=>?_
  refine ak f fun t f=>?_
  refine ak f fun w f=>?_
  have t:=bY t
  rw[bB] at t
  exact⟨l,H,w,t,f⟩
 rcases Ga f with ⟨cc,d,I,a2,f⟩|⟨cc,d,I,hc,f⟩|⟨cc,d,I,h2,h4,f⟩
 ·refine qG (n f) fun l H w t f=>?_
  exact rm KO j.r j.p ha a2 I w H (j.vr S) t fun k m=>y k m f
 ·refine qG (n f) fun l H w t f=>?_
  exact XP.set ha j.r j.p hc I w H (j.vr S) t fun k m=>y k m f
 ·refine ak f fun w f=>?_
  refine ak f fun a1 f=>?_
  exact XP.set0 ha j.r j.p h2 h4 I w a1 (j.vr S) fun M k m=>y k m f
end
section
variable {prog:KE} {w:World} {A:ef} {R:Result->ce->Prop} {s:ce}
theorem uJ {target:Expr} {it:bo} {body orelse:List Stmt} {env:Env} (I:Nat->ce->Prop)
  (turn:∀n s,I n s->dk (model prog w) A (pyNext it) (fun r s₁=>match r with
   | none=>dk (model prog w) A (execs orelse env) (fun f s₃=>R (.ok f) s₃) (notedBy (model prog w) A env fun e s'=>R (.error e) s') s₁
   | some v=>dk (model prog w) A (letOwnedTupleGo target it v) (fun u_ s₂=>dk (model prog w) A (assign target env v) (fun u_ s₂=>dk (model prog w) A (execs body env) (fun f s₃=>match f with
     | .next=>∃m,m<n/\I m s₃
     | .cont=>False
     | .brk=>False
     | .ret v=>R (.ok (.ret v)) s₃) (notedBy (model prog w) A env fun e s'=>R (.error e) s') s₂) (notedBy (model prog w) A env fun e s'=>R (.error e) s') s₂) (notedBy (model prog w) A env fun e s'=>R (.error e) s') s₁)
    (notedBy (model prog w) A env fun e s'=>R (.error e) s') s)
  (n:Nat) (h:I n s):z9 (model prog w) A (.forLoop target it body orelse env) R s:=by
 refine codeAny_loop' rfl I (fun n s g=>?_) n h
 show dk _ _ ((PySem.forTurn target it body orelse env).onRaise (fun x=>do noteFrame x env;theTreesLotGoes x)) _ _ s
 refine wpAny_noted ?_
 simp only[PySem.forTurn]
 refine b9 (io (b9 (wpAny_onRaise (dt (turn n s g) (fun r s₁ d=>?_) fun u_ u_ a=>io a))))
 induction r using cN with
 | none=>exact ct (.inr ⟨rfl,codeAny_block d⟩)
 | some v =>
  refine b9 (dt d (fun u_ s₂ c=>?_) fun u_ u_ a=>a)
  refine b9 (dt c (fun u_ s₂ c=>b9 (dt c (fun f s₃ b=>?_) fun u_ u_ a=>a)) fun u_ u_ a=>a)
  cases f with
  | next=>exact ct (.inl ⟨rfl,b⟩)
  | cont=>exact b.elim
  | brk=>exact b.elim
  | ret v=>exact ct b
end
section
variable {g:Gd} {F X:Addr->Prop} {env:Env} {sc:Scope} {s s':ce} {U U':Nat->Addr} {Z Z':St} {A:ef} {E':bo->ce->Prop} {cs:List (Nat×Nat)} {lv:aO} {M:Model}
theorem y9 {I:Addr} {i n:Nat} {src:Src} {target:Expr} {v:bo} {Q:Unit->ce->Prop} (x:ItR g s.heap U n I i src) (h:Q () s):dk M A (letOwnedTupleGo target (.ref I) v) Q E' s:=by
 have d:∀{n:String} (o:Obj),["enumerate","zip","dict_itemiterator","dict_reverseitemiterator","odict_iterator","itertools.zip_longest","itertools.pairwise"].contains n=false->s.heap.get? I=some o->o.cls=.type n->dk M A (letOwnedTupleGo target (.ref I) v) Q E' s:=by
  intro n o p t f
  have b:dk M A (letOwnedTupleGo (.Tuple [] 0 ⟨0,0,0,0⟩) (.ref I) v) Q E' s:=by
   cases v with
   | ref a =>
    refine b9 (wpAny_load t ?_)
    refine aa f ?_
    cases o.data with
    | fields u=>exact wpAny_ite_false (aa p rfl) (ct h)
    | _=>exact ct h
   | _=>exact ct h
  cases target with
  | Tuple=>exact b
  | List=>exact b
  | _=>exact ct h
 cases src with
 | live k=>refine am x fun j q=>?_;refine dS j fun o e f r=>?_;exact d o rfl e f
 | seq l =>
  rcases x with ⟨a,u,_,_,⟨o,e,f,_⟩⟩|⟨m,a,c,_,e⟩
  ·exact d o rfl e f
  ·exact d _ rfl e rfl
 | zip _ _=>exact x.elim
 | enm _=>exact x.elim
end
section
variable {g:Gd} {F X:Addr->Prop} {env:Env} {sc:Scope} {s s' s₀:ce} {U U' U₀:Nat->Addr} {Z Z' Z₀:St} {A:ef} {cs:List (Nat×Nat)} {lv:aO} {I:Addr} {t:Nat} {fr:Option Addr} {x:KX}
def wE (sc:Scope):Tg->Prop
 | .one t=>ub sc t
 | .many l _ _=>∀t∈l,ub sc t
theorem AZ {E':bo->ce->Prop} (hh:A.handled=none) (W:R g Z U s.heap) (P:Pv g F (XL env) Z U s.heap) (E:EnvS g env sc Z U s.heap cs lv) (CS:pQ g env sc) (hF:F env.locals) {t:Tg} {a:V} {v:bo} {Q:Unit->ce->Prop} {k:aO->St->Bool} (ht:wE sc t) (r:VR g s.heap U Z.nx a v) (h:NG cs t a lv Z k=true)
  (hq:∀s' Z' lv',Go g F (XL env) Z U s Z' U s'->EnvS g env sc Z' U s'.heap cs lv'->k lv' Z'=true->Q () s'):dk g.m A (assign t.e env v) Q E' s:=by
 cases t with
 | one t=>exact tx W P E CS hF ht r h hq
 | many d H p =>
  have h:bL a (fun r=>zV cs d r lv Z k)=true:=h
  refine fg h ?_;clear h;rintro l rfl h
  refine aA r ?_;clear r;rintro ad x rfl w r;refine aA w fun o n M Y hd=>?_
  have i:x.length=d.length:=by exact aa r.length ((stL_len h).symm)
  show dk _ _ (assign (.Tuple (d.map Tn.e) H p) env (.ref ad)) _ _ s
  rw[arm_assign_Tuple]
  refine b9 (io ?_)
  have J:∀d:List Tn,assignEach (d.map Tn.e) env=d.map fun t=>(false,assign t.e env):=fun d=>by
   induction d with
   | nil=>rfl
   | cons t d K =>
    obtain⟨c,y,q⟩:=t
    show(false,assign (.Name (nm y) q) env)::assignEach (d.map Tn.e) env=_
    exact aa K rfl
  refine aa (J _) ?_
  refine PyProof.Rows.unpack_tuple (items:=x.toArray) hh ⟨o,M,Y,n,hd⟩ (aa (jb _) (aa oL (aa i rfl))) (by
   rw[List.findIdx?_eq_none_iff]
   intro z hz
   refine ai (mc.mp hz) ?_;rintro B L rfl
   rfl) fun u I=>?_
  have f:∀b o,s.heap.get? b=some o->u.get? b=some o:=fun b o e=>I b o (fun z=>by replace e:=(z)▸e;rewrite[cn] at e;exact bj e) e
  have G:Go g F (XL env) Z U s Z U {s with heap:=u,toks:=s.toks}:=.grow W P f
  have C:Go g F aL Z U s Z U {s with heap:=u,toks:=s.toks}:=.grow W P.noX f
  have em:(d.map fun t=>(false,assign t.e env)).map (·.2)=d.map fun t=>assign t.e env:=by exact aa List.map_map rfl
  refine aa em (aa List.toList_toArray ?_)
  exact AV CS hF ht G.r G.p (E.go W P.noX hF (fun z=>z) C) (G.vrs r) h fun S Z2 j G2 N h2=>hq S Z2 j (G.trans W G2) N h2
where stL_len {cs:List (Nat×Nat)}:∀{ts:List Tn} {l:List V} {lv:aO} {Z:St} {k:aO->St->Bool},zV cs ts l lv Z k=true->ts.length=l.length
 | [],l,_,_,_,h=>by refine uB (l:=l) h ?_;rintro rfl zq2;rfl
 | t::ts,[],_,_,_,h=>by exact aS h
 | t::ts,a::l,lv,Z,k,h=>by
  have h:Ho cs t a lv Z (fun vs Z=>zV cs ts l vs Z k)=true:=h
  have:∃lv Z,zV cs ts l lv Z k=true:=by
   obtain⟨c,y,p⟩:=t
   induction c using dI with
   | false=>exact⟨_,_,h⟩
   | true =>
    have h:cM (az y cs) (fun i=>af (xe (Z.get i)) (wr i (.cel a) Z fun Z=>zV cs ts l lv Z k) false)=true:=h
    refine bS h ?_;clear h;intro i zq2 h
    exact⟨_,_,(cb (cb h).2).2⟩
  refine eM this ?_;clear this;intro lv' Z' h
  simp[stL_len h]
end
section
variable {g:Gd} {gT:Tx} {sc:Scope} {F:Addr->Prop} {env:Env} {s s' s₀:ce} {U U' U₀:Nat->Addr} {Z Z' Z₀:St} {A:ef} {cs:List (Nat×Nat)} {lv:aO} {I:Addr} {x:KX} {call ch:Call}
theorem A0 {v:V} {u:bo} {k:Src->Bool} (W:R g Z U s.heap) (r:VR g s.heap U Z.nx v u) (h:ul v Z k=true):∃src,Mq g s.heap U Z.nx u src/\(∃o,src.at 0 Z=some o)/\k src=true:=by
 induction v using eV with
 | tup l =>
  refine aA r ?_;clear r;rintro a d rfl e r
  exact⟨.seq l,.inl ⟨a,d,rfl,e,r⟩,⟨_,rfl⟩,h⟩
 | obj i =>
  refine fz h fun l c h=>?_
  refine am r ?_;clear r;rintro rfl b
  refine⟨.live i,⟨rfl,b⟩,⟨dG l 0,?_⟩,h⟩
  show(match Z.get i with|some (.lst l)=>some (dG l 0)|_=>none)=_
  exact aa c rfl
 | _=>exact aS h
end
theorem jh {n:Str}:∀{ns:List Str} {us:List bo},n∉ns->(ns.zip us).lookup n=none
 | [],_,_=>rfl
 | _::_,[],_=>rfl
 | m::ns,u::us,h=>by
  refine aa List.zip_cons_cons (aa kV ?_)
  have a:(n==m)=false:=beq_eq_false_iff_ne.mpr fun e=>h (e▸List.mem_cons_self)
  refine aa a ?_
  exact jh fun m=>h (List.mem_cons_of_mem _ m)
theorem fU {n:Str}:∀{ns:List Str} {us:List bo},n∈ns.take us.length->((ns.zip us).lookup n).isNone=false
 | [],_,h=>by simp at h
 | _::_,[],h=>by simp at h
 | m::ns,u::us,h=>by
  refine aa List.zip_cons_cons (aa kV ?_)
  induction q:n==m using dI with
  | true=>rfl
  | false =>
   replace h:=List.take_succ_cons▸l7▸h
   exact fU ((gg.mp h).resolve_left (beq_eq_false_iff_ne.mp q))
theorem rn:∀(l:List (Str×bo)) (slots:List (Str×bo)),(l.map (·.1)).Nodup->(∀p∈l,slots.lookup p.1=none) ->
  (forIn (m:=Sem) l slots fun x r=>if(r.lookup x.1).isNone=true then do pure (ForInStep.yield (r++[(x.1,x.2)])) else do pure (ForInStep.yield r))=pure (slots++l)
 | [],slots,_,_=>by exact aa List.forIn_nil (aa (sz _) rfl)
 | p::l,slots,a,hs=>by
  replace a:=(ol)▸a;rewrite[rc] at a
  rewrite[tc];refine aa (hs p (.head _)) ?_
  show(forIn (m:=Sem) l (slots++[(p.1,p.2)]) _)=_
  rewrite[rn l _ a.2 fun q b=>?_]
  ·simp
  ·refine aa List.lookup_append (aa (hs q (.tail _ b)) (aa Option.none_or (aa kV ?_)))
   have:(q.1==p.1)=false:=beq_eq_false_iff_ne.mpr fun e=>a.1 (e▸mc.mpr ⟨q,b,rfl⟩)
   exact aa this rfl
theorem pS:∀(l b:List (Str×bo)) (slots:List (Str×bo)),(∀p∈l,(slots.lookup p.1).isNone=false) ->
  (forIn (m:=Sem) (l++b) slots fun x r=>if(r.lookup x.1).isNone=true then do pure (ForInStep.yield (r++[(x.1,x.2)])) else do pure (ForInStep.yield r)) =
  (forIn (m:=Sem) b slots fun x r=>if(r.lookup x.1).isNone=true then do pure (ForInStep.yield (r++[(x.1,x.2)])) else do pure (ForInStep.yield r))
 | [],b,slots,_=>rfl
 | p::l,b,slots,hs=>by
  refine aa List.cons_append ?_;rewrite[tc];refine aa (if_neg (by refine aa (hs p (.head _)) ?_;decide)) ?_
  exact pS l b slots fun q a=>hs q (.tail _ a)
theorem uK {α β:Type} {f g:α->Option β}:∀{l:List α},(∀a∈l,f a=g a)->l.filterMap f=l.filterMap g
 | [],_=>rfl
 | a::l,h=>by
  refine aa List.filterMap_cons (aa List.filterMap_cons (aa (h a (.head _)) (aa (uK fun b hb=>h b (.tail _ hb)) ?_)));rfl
theorem iC:∀{ns:List Str} {us:List bo},ns.Nodup->ns.length=us.length->ns.filterMap (fun n=>((ns.zip us).lookup n).map (n,·))=ns.zip us
 | [],us,_,h=>by induction us using fV with | nil=>rfl | cons _ _=>cases h
 | m::ns,[],_,h=>by cases h
 | m::ns,u::us,hn,h=>by
  rw[rc] at hn
  refine aa List.zip_cons_cons (aa List.filterMap_cons (aa kV ?_))
  simp only[beq_self_eq_true,Option.map_some]
  congr 1
  refine(uK (g:=fun n=>((ns.zip us).lookup n).map (n,·)) fun n a=>?_).trans (iC hn.2 (by simpa using h))
  refine aa kV ?_
  have:(n==m)=false:=beq_eq_false_iff_ne.mpr fun e=>hn.1 (e▸a)
  exact aa this rfl
def DfltAt (h:Heap) (v:bo) (ds:List bo):Prop:=(v=.none/\ds=[])\/∃T o n,v=.ref T/\h.get? T=some o/\o.data=.seq ds.toArray n
theorem DfltAt.read {h:Heap} {v:bo} {ds:List bo} (x:DfltAt h v ds) {M:Model} {A:ef} {E:bo->ce->Prop} {s:ce} (hs:s.heap=h) {β:Type} {k:Option (Array bo)->Sem β} {Q:β->ce->Prop}
  (q:∀o:Option (Array bo),(o.getD #[]).toList=ds->dk M A (k o) Q E s):dk M A (seqItems? v >>= k) Q E s:=by
 subst hs
 rcases x with ⟨rfl,rfl⟩|⟨T,o,n,rfl,a,b⟩
 ·exact b9 (ct (q none rfl))
 ·exact b9 (wpAny_seqItems a b (q (some ds.toArray) (by simp)))
structure PlainPs (fd:C4) (ns:List Str):Prop where
 po:fd.params.posonlyargs=[]
 ar:fd.params.args.map (·.arg)=ns
 va:fd.params.vararg=none
 ko:fd.params.kwonlyargs=[]
 kw:fd.params.kwarg=none
 nd:ns.Nodup
theorem DH {ns:List Str} {us ds:List bo} (h:us.length<=ns.length):ns.zip us++(ns.drop us.length).zip ds=ns.zip (us++ds):=by
 induction us generalizing ns with
 | nil=>simp
 | cons u us a =>
  induction ns using fV with
  | nil=>simp at h
  | cons n ns=>simp only[List.zip_cons_cons,List.cons_append,l7,List.drop_succ_cons];exact aa (a (by simpa using h)) rfl
theorem pT {fd:C4} {ns:List Str} {us ds:List bo} {s:ce} (pp:PlainPs fd ns) (hd:DfltAt s.heap fd.defaults ds) (h1:us.length<=ns.length) (h2:ns.length<=us.length+ds.length) (h3:ds.length<=ns.length) :
  BindsTo s fd ⟨us,[]⟩ (ns.zip (us++ds.drop (ds.length - (ns.length - us.length)))):=by
 intro M A E Q h
 unfold bindArgs
 simp only[pp.po,pp.ko,List.map_nil,List.nil_append,pp.ar,pp.va,pp.kw,sz,List.forIn_nil,pure_bind]
 refine hd.read rfl fun o l=>?_
 refine aa l ?_
 refine aa (if_neg (by simp only[Option.isNone_none,Bool.and_true,decide_eq_true_eq];exact ji h1)) ?_
 refine aa (Nat.sub_eq_zero_of_le h3) (aa List.drop_zero ?_)
 have a:((ns.take (ns.length - ds.length)).filter fun n=>((ns.zip us).lookup n).isNone)=[]:=by
  rw[List.filter_eq_nil_iff]
  intro n g
  rw[fU]
  ·decide
  ·exact List.mem_of_mem_take (i:=ns.length - ds.length) (by refine aa List.take_take (aa (Nat.min_eq_left (Mg h2)) ?_);exact g)
 refine aa a ?_
 simp only[List.isEmpty_nil,Bool.not_true,B0,if_false]
 have c:(forIn (m:=Sem) ((ns.drop (ns.length - ds.length)).zip ds) (ns.zip us) fun x r=>if(r.lookup x.1).isNone=true then do pure (ForInStep.yield (r++[(x.1,x.2)])) else do pure (ForInStep.yield r)) =
   pure (ns.zip (us++ds.drop (ds.length - (ns.length - us.length)))):=by
  have split:(ns.drop (ns.length - ds.length)).zip ds=((ns.drop (ns.length - ds.length)).take (us.length - (ns.length - ds.length))).zip (ds.take (us.length - (ns.length - ds.length)))++(ns.drop us.length).zip (ds.drop (ds.length - (ns.length - us.length))):=by
   have k:ns.drop us.length=(ns.drop (ns.length - ds.length)).drop (us.length - (ns.length - ds.length)):=by refine aa List.drop_drop (aa (Mh h2) ?_);rfl
   have j:ds.length - (ns.length - us.length)=us.length - (ns.length - ds.length):=Mf h1 h3
   refine aa k (aa j (bw (List.zip_append (by refine aa List.length_take (aa List.length_take (aa I1 (aa (Nat.min_eq_left (Mi h1 h3)) (aa (Nat.sub_sub_self h3) (aa (Nat.min_eq_left (Mi h1 h3)) ?_)))));rfl)) (aa (List.take_append_drop _ _) (aa (List.take_append_drop _ _) ?_))));rfl
  refine aa split ?_;rw[pS]
  ·rewrite[rn];refine aa (DH h1) ?_;rfl
   ·have:=pp.nd
    refine aa (List.map_fst_zip (by refine aa I1 (aa I1 (aa (Nat.sub_sub_self (Nat.sub_le_of_le_add (Nat.add_comm us.length _▸h2))) ?_));exact e5 _)) ?_
    exact this.sublist (List.drop_sublist _ _)
   ·intro p d
    have b:=(AQ d).1
    have e:ns.zip us=(ns.take us.length).zip us:=by
     have h2:=List.zip_append (l₁:=ns.take us.length) (r₁:=ns.drop us.length) (l₂:=us) (r₂:=[]) (by refine aa List.length_take (aa (Nat.min_eq_left h1) ?_);rfl)
     rw[List.take_append_drop,sz] at h2
     refine aa h2 ?_;simp
    refine aa e ?_
    refine jh fun f=>?_
    have nd:=pp.nd
    rw[<-List.take_append_drop us.length ns,List.nodup_append] at nd
    exact nd.2.2 _ f _ b rfl
  ·intro p d
   have b:=(AQ d).1
   refine fU ?_
   replace b:=List.take_drop▸b
   have:=List.mem_of_mem_drop b
   rwa [Mh h2] at this
 refine b9 (wpAny_of_eq c (ct ?_))
 refine aa (iC pp.nd (by refine aa sh (aa I1 (aa (Nat.sub_sub_self (Nat.sub_le_of_le_add (Nat.add_comm us.length _▸h2))) (aa (Nat.add_sub_of_le h1) ?_)));rfl)) ?_
 exact h
structure FnOk (g:Gd) (i:Nat) (fn:Fn) (fd:C4) (ds:List bo):Prop where
 obj:∃o,g.B (g.fa i)=some o/\o.data=.func fd
 code:∀h,Bh g h->h.CodeRec fd.code fd.qualname
 body:fd.body=.stmts (fm fn.bd)
 clo:fd.closure=[]
 co:fd.scope.isCoroutine=false
 gen:fd.scope.isGenerator=false
 kind:fd.scope.kind=.function
 glob:fd.globals=mainGlobals
 blt:fd.builtins=builtinsNs
 ps:PlainPs fd (fn.ps.map nm)
 nmo:∀y∈fn.ps,gE y
 nmc:∀y∈fn.cl,gE y
 kin:∀y∈fn.ps,(y∉fn.cl/\fd.scope.names.lookup (nm y)=some .local)\/(y∈fn.cl/\fd.scope.names.lookup (nm y)=some .cell)
 cel:∀y∈fn.cl,fd.scope.names.lookup (nm y)=some .cell/\(nm y,i3.cell)∈fd.scope.names
 noc:fn.cl=[]->∀x∈fd.scope.names,x.2≠.cell
 cnd:fn.cl.Nodup
 df:∀h,Bh g h->DfltAt h fd.defaults ds
 dv:∀h U n,Bh g h->VRs g h U n fn.ds ds
 dl:fn.ds.length<=fn.ps.length
structure AOk (A:ef) (F:Addr->Prop) (n:Nat):Prop where
 d:A.depth+3*n+10<recursionLimit
 u:A.units+40*n+200<cLine
 fr:∃l,A.frames=some l/\∀e∈l,e.scope.kind≠.module/\∃b,e.frame=some b/\F b
structure AOq (A:ef) (F:Addr->Prop) (n:Nat):Prop where
 d:A.depth+3*n+12<recursionLimit
 u:A.units+40*n+230<cLine
 fr:∃l,A.frames=some l/\∀e∈l,e.scope.kind≠.module/\∃b,e.frame=some b/\F b
theorem AOk.q {A:ef} {F:Addr->Prop} {n:Nat} (h:AOk A F (n+1)):AOq A F n:=⟨vO (u:=A.depth+3*n) (a:=13) (b:=12) h.d (by decide),vO (u:=A.units+40*n) (a:=240) (b:=230) h.u (by decide),h.fr⟩
def Al (g:Gd) (h:Heap) (U:Nat->Addr) (n:Nat):List (Nat×V)->List (Str×bo)->Prop
 | [],bs=>bs=[]
 | p::r,bs=>∃u q,bs=(nm p.1,u)::q/\VR g h U n p.2 u/\Al g h U n r q
section
variable {g:Gd} {h h':Heap} {U U':Nat->Addr} {n n':Nat}
@[elab_as_elim] theorem Al.ind {M:List (Nat×V)->List (Str×bo)->Prop} {l:List (Nat×V)} {bs:List (Str×bo)} (r:Al g h U n l bs) (h0:M [] []) (h1:∀{k a l u q},VR g h U n a u->Al g h U n l q->M l q->M ((k,a)::l) ((nm k,u)::q)):M l bs:=by
 induction l generalizing bs with
 | nil=>cases r;exact h0
 | cons p l b=>refine aA r ?_;rintro u q rfl x y;exact h1 x y (b y)
theorem Al.look {l:List (Nat×V)} {bs:List (Str×bo)} {y:Nat} {v:V} (ok:∀p∈l,gE p.1) (r:Al g h U n l bs) (e:az y l=some v):∃u,bs.lookup (nm y)=some u/\VR g h U n v u/\y∈l.map (·.1):=by
 revert ok e;refine r.ind (fun _ e=>bj e) fun{k a r u q} d j f ok e=>?_
 rw[ax] at e
 by_cases hk:k=y
 ·subst hk;replace e:=if_pos rfl▸e;cases e
  exact⟨u,by simp,d,.head _⟩
 ·replace e:=if_neg hk▸e
  refine dS (f (fun p m=>ok p (.tail _ m)) e) fun w i c b=>?_
  refine⟨w,?_,c,.tail _ b⟩
  have:(nm y==nm k)=false:=beq_eq_false_iff_ne.mpr fun z=>hk (by
   refine ai (mc.mp b) fun p m e=>?_
   subst e
   exact(kX (ok p (.tail _ m)) (ok (k,a) (.head _)) z).symm)
  refine aa kV (aa this ?_)
  exact i
theorem Al.snoc {p:Nat×V} {u:bo} (hu:VR g h U n p.2 u) {l:List (Nat×V)} {bs:List (Str×bo)} (r:Al g h U n l bs):Al g h U n (l++[p]) (bs++[(nm p.1,u)]):=Al.ind (M:=fun l bs=>Al g h U n (l++[p]) (bs++[(nm p.1,u)])) r ⟨u,[],rfl,hu,rfl⟩ fun a _ b=>⟨_,_,rfl,a,b⟩
theorem Al.reverse {l:List (Nat×V)} {bs:List (Str×bo)} (r:Al g h U n l bs):Al g h U n l.reverse bs.reverse:=r.ind rfl fun a _ b=>aa kf (aa kf (Al.snoc (p:=(_,_)) a b))
theorem Al.zip {ps:List Nat} {l:List V} {us:List bo} (r:VRs g h U n l us):Al g h U n (ps.zip l) ((ps.map nm).zip us):=by
 induction ps generalizing l us with
 | nil=>rfl
 | cons y ps b =>
  induction l using fV with
  | nil=>cases r;rfl
  | cons a l=>refine aA r ?_;rintro v q rfl x y;exact⟨v,_,rfl,x,b y⟩
theorem Al.keys {l:List (Nat×V)} {bs:List (Str×bo)} (r:Al g h U n l bs):bs.map (·.1)=l.map fun p=>nm p.1:=r.ind rfl fun _ _ a=>congrArg (List.cons _) a
theorem mT:∀{ps:List Nat} {as ds:List V} {m vs:aO},pA ps as ds m=some vs->as.length<=ps.length/\ps.length<=as.length+ds.length/\(ps.length=as.length+ds.length->vs=(ps.zip (as++ds)).reverse++m)
 | [],as,ds,m,vs,h=>by
  induction as using fV with
  | nil=>cases h;exact⟨e5 _,L2 _,fun g=>by simp⟩
  | cons a r=>exact bj h
 | p::ps,as,ds,m,vs,h=>by
  induction as using fV with
  | nil =>
   induction ds using fV with
   | nil=>exact bj h
   | cons d r =>
    have h:pA ps [] r ((p,d)::m)=some vs:=h
    refine cE (mT h) fun c f b=>?_
    refine⟨L2 _,by simpa using f,fun e=>?_⟩
    refine aa (b (by simpa using e)) ?_
    simp
  | cons a q =>
   have h:pA ps q ds ((p,a)::m)=some vs:=h
   refine cE (mT h) fun c f b=>?_
   refine⟨by simpa using c,by simp only[l7];lia,fun e=>?_⟩
   refine aa (b (by simp only[l7] at e;lia)) ?_
   simp
theorem pU {ps:List Nat} {as ds:List V} {vs:aO} (hd:ds.length<=ps.length) (h:nw ps as ds=some vs) :
  as.length<=ps.length/\ps.length<=as.length+ds.length/\vs=(ps.zip (as++ds.drop (ds.length - (ps.length - as.length)))).reverse:=by
 have h:pA ps as (ds.drop (Nat.sub (len ds) (Nat.sub (len ps) (len as)))) []=some vs:=h
 rw[bB,bB,bB] at h
 refine cE (mT h) fun c a b=>?_
 have e:Nat.sub ds.length (Nat.sub ps.length as.length)=ds.length - (ps.length - as.length):=rfl
 replace a:=I1▸e▸a
 replace b:=e▸b
 refine⟨c,NZ a,?_⟩
 refine aa (b (aa I1 (Qi c a))) (aa (sz _) ?_);rfl
end
section
variable {g:Gd} {F X:Addr->Prop} {s s' s'':ce} {U U' U'':Nat->Addr} {Z Z' Z'':St} {A:ef} {t:Nat}
theorem Go.growP (W:R g Z U s.heap) {h':Heap} (k:∀b o,s.heap.get? b=some o->h'.get? b=some o) (P':Pv g F X Z U h'):Go g F X Z U s Z U {s with heap:=h',toks:=t} where
 same:=rfl
 sp:=⟨e5 _,fun c c=>rfl,fun b o e c c=>.inl (k b o e),fun c a b=>absurd b (ji a),fun c o c e=>⟨o,e⟩,fun b o e=>⟨o,k b o e⟩,fun b _ f=>ai f fun d e j=>⟨d,k b d e,j⟩,⟨rfl,rfl⟩,fun c c c=>rfl⟩
 r:=⟨fun b o e=>k b o (W.base b o e),W.fresh,W.inj,fun i h=>aG (W.ex i h) fun o e=>⟨o,k _ _ e⟩,fun i o e=>⟨aC W e,(aB W e).mono (.of_keeps k) (fun c c=>rfl) (e5 _) (k _)⟩⟩
 p:=P'
 l:=.of_keeps k
theorem Go.adopt (G:Go g F X Z U s Z' U' s') {a:Addr} (fa:s.heap.get? a=none) (ne:∀j,j<Z'.nx->U' j≠a) (ba:g.B a=none) (fp:¬F a/\¬X a) {ob:Obj} (ea:s'.heap.get? a=some ob) {o:O}
  (x:OR g s'.heap (i6 U' Z'.nx a) (Z'.nx+1) a o):Go g F X Z U s (Z'.new o) (i6 U' Z'.nx a) s':=by
 refine⟨G.same,⟨Nat.le_succ_of_le G.sp.nx,fun i c=>(bu (f3 c G.sp.nx)).trans (G.sp.ag i c),G.sp.kp,fun i k f=>?_,fun i o c e=>?_,G.sp.ex,G.sp.pv,G.sp.fx,fun i t c=>?_⟩,
  ⟨G.r.base,fun i c=>?_,fun i j c d e=>?_,fun i c=>?_,fun i u e=>?_⟩,fun b q=>?_,G.l⟩
 ·rcases ja.mp f with f|rfl
  ·exact aa (bu f) (G.sp.new i k f)
  ·exact aa upd_at fa
 ·rewrite[dM] at e;replace e:=(if_neg (H5 (f3 c G.sp.nx)))▸e;exact G.sp.old i o c e
 ·rewrite[dM];exact aa (if_neg (H5 (f3 c G.sp.nx))) (G.sp.im i t c)
 ·rcases ja.mp c with c|rfl
  ·exact aa (bu c) (G.r.fresh i c)
  ·exact aa upd_at ba
 ·rcases ja.mp c with c|rfl<;>rcases ja.mp d with d|rfl
  ·replace e:=bu d▸bu c▸e;exact G.r.inj i j c d e
  ·replace e:=upd_at▸bu c▸e;exact absurd e (ne i c)
  ·replace e:=upd_at▸bu d▸e;exact absurd e.symm (ne j d)
  ·rfl
 ·rcases ja.mp c with c|rfl
  ·exact aa (bu c) (G.r.ex i c)
  ·exact aa upd_at ⟨ob,ea⟩
 ·rw[dM] at e
  by_cases c:Z'.nx=i
  ·subst c
   replace e:=if_pos rfl▸e;cases e
   exact aa upd_at ⟨f2 _,x⟩
  ·replace e:=if_neg c▸e
   have h:=aC G.r e
   refine aa (bu h) ?_
   exact⟨vb h,(aB G.r e).mono Later.refl (fun i c=>bu c) (sr _) fun v e=>e⟩
 ·refine cE (G.p b q) fun m n y=>?_
  refine⟨m,n,fun i c=>?_⟩
  rcases ja.mp c with c|rfl
  ·exact aa (bu c) (y i c)
  ·refine aa upd_at ?_;rintro rfl;exact q.elim fp.1 fp.2
theorem PX.drops {F' X':Addr->Prop} {x:KX} {e:bo} (p:PX g F' X' Z U s x e s') (hF:∀b,F' b->F b\/s.heap.get? b=none) (hX:∀b,X' b->X b\/s.heap.get? b=none) (sF:∀b,F b->F' b) (sX:∀b,X b->X' b):PX g F X Z U s x e s':=by
 obtain⟨c,a,i,G,r,y,z,w⟩:=p
 exact⟨c,a,i,G.drop hF hX sF sX,r,y,z,w⟩
end
section
variable {g:Gd} {gT:Tx} {F:Addr->Prop} {s s1:ce} {U U1:Nat->Addr} {Z Z1:St} {A:ef} {k:K1} {x:KX} {fd:C4} {fn:Fn} {env:Env} {cs:List (Nat×Nat)} {vs:aO} {call ch:Call}
def pV (g:Gd) (F:Addr->Prop) (Z:St) (U:Nat->Addr) (s:ce) (k:K1) (x:KX) (r:Result) (s':ce):Prop:=match r with
 | .ok (.ret v)=>Po g F aL Z U s k v s'
 | .ok _=>False
 | .error e=>PX g F aL Z U s x e s'
def FL (F:Addr->Prop) (L:Addr):Addr->Prop:=fun b=>F b\/b=L
theorem kY {n:Nat} {L:Addr} (AO:AOq A F n) (hk:env.scope.kind=.function) (hf:env.frame=some L):Frs (A.deeper env) (FL F L) (some L):=by
 refine ai AO.fr fun l e a=>?_
 refine⟨fun i c=>?_,⟨env::l,by simp[ef.deeper,e],fun c m=>?_⟩⟩
 ·cases c;exact⟨env,l,by simp[ef.deeper,e],hf⟩
 ·rcases gg.mp m with rfl|m
  ·exact⟨by refine aa hk ?_;decide,L,hf,.inr rfl⟩
  ·refine am (a c m) fun h d=>?_;refine ai d fun b g f=>?_
   exact⟨h,b,g,.inl f⟩
theorem uL {n:Nat} {b:List Stmt} {d:DS} {EP:Env->Prop} (AO:AOq A F n) (hS:KT g gT fd.scope EP b d) (hcd:EP env) (W:R g Z U s.heap) (hk:env.scope.kind=.function) (hf:env.frame=some env.locals) (nL:s.heap.get? env.locals=none)
  (C:Cs g gT call ch (A.deeper env) (FL F env.locals) env fd.scope) (G:Go g (FL F env.locals) (XL env) Z U s Z1 U1 s1) (E:EnvS g env fd.scope Z1 U1 s1.heap cs vs) (h:d call ch cs vs Z1 (fun u_ Z=>k .none Z) k x=true) :
  dk g.m (A.deeper env) (execs b env) (fun f s'=>Po g F aL Z U s k (match f with|.ret v=>v|_=>.none) s')
   (fun e s'=>dk g.m (A.deeper env) (leaving env e) (fun u_ s''=>PX g F aL Z U s x e s'') (fun e' s''=>PX g F aL Z U s x e' s'') s') s1:=by
 have j:∀b,FL F env.locals b->F b\/s.heap.get? b=none:=fun b z=>by
  rcases z with z|z
  ·exact .inl z
  ·exact .inr (aa z nL)
 have c:∀b,XL env b->aL b\/s.heap.get? b=none:=fun b z=>.inr (aa (show b=env.locals from z) nL)
 have u:=kY AO hk hf
 refine dt (hS hcd C G.r G.p E h) (fun f s' q=>?_) fun e s' q=>?_
 ·cases f with
  | next =>
   obtain⟨i,l,t,o,_,hk⟩:=q
   exact⟨i,l,.none,(G.trans W o).drop j c (fun u_ h=>.inl h) (fun u_ h=>h.elim),rfl,hk⟩
  | ret v =>
   obtain⟨i,l,a,o,r,hk⟩:=q
   exact⟨i,l,a,(G.trans W o).drop j c (fun u_ h=>.inl h) (fun u_ h=>h.elim),r,hk⟩
  | brk=>exact q.elim
  | cont=>exact q.elim
 ·exact wx G.r u hf q fun s'' q=>(q.from W G).drops j c (fun u_ h=>.inl h) (fun u_ h=>h.elim)
theorem DJ {n:Nat} {st:Sx} (AO:AOq A F n) (hS:wB g gT fd.scope st) (W:R g Z U s.heap) (hk:env.scope.kind=.function) (hf:env.frame=some env.locals) (nL:s.heap.get? env.locals=none)
  (C:Cs g gT call ch (A.deeper env) (FL F env.locals) env fd.scope) (G:Go g (FL F env.locals) (XL env) Z U s Z1 U1 s1) (E:EnvS g env fd.scope Z1 U1 s1.heap cs vs) (h:eN st call ch cs vs Z1 (fun u_ Z=>k .none Z) k x=true) :
  dk g.m (A.deeper env) (execs (fm st) env) (fun f s'=>Po g F aL Z U s k (match f with|.ret v=>v|_=>.none) s')
   (fun e s'=>dk g.m (A.deeper env) (leaving env e) (fun u_ s''=>PX g F aL Z U s x e s'') (fun e' s''=>PX g F aL Z U s x e' s'') s') s1 :=
 uL (EP:=fun u_=>True) AO (fun u_=>hS) trivial W hk hf nL C G E h
end
theorem eg {sc:Scope} {y:Nat} {k:i3} (h:aP sc y k=true):sc.names.lookup (nm y)=some k:=by
 simp only[aP,h9] at h
 have a:=h.1.1.1
 induction q:sc.names.lookup (nm y) using cN with
 | none=>replace a:=q▸a;exact aS a
 | some j=>replace a:=q▸a;cases j<;>cases k<;>first | rfl | exact aS a
theorem fi {x:Str}:∀{names:List (Str×i3)} {n:Nat} {acc:List (Str×Addr)},((x,i3.cell)∈names\/(acc.lookup x).isSome=true)->((cellsFrom n names acc).lookup x).isSome=true
 | [],n,acc,h=>h.elim (fun m=>by cases m) id
 | (y,k)::r,n,acc,h=>by
  unfold cellsFrom
  split
  ·refine fi ?_
   rcases h with h|h
   ·rcases gg.mp h with e|h
    ·cases e;exact .inr (by refine aa kV ?_;simp)
    ·exact .inl h
   ·right
    refine aa kV ?_
    split
    ·rfl
    ·exact h
  ·rename_i hk
   refine fi ?_
   rcases h with h|h
   ·rcases gg.mp h with e|h
    ·cases e;exact absurd rfl hk
    ·exact .inl h
   ·exact .inr h
theorem pW {A:ef} {F F':Addr->Prop} {n:Nat} (AO:AOk A F n) (h:∀b,F b->F' b):AOk A F' n :=
 ⟨AO.d,AO.u,ai AO.fr fun l e a=>⟨l,e,fun x m=>⟨(a x m).1,ai (a x m).2 fun b c f=>⟨b,c,h b f⟩⟩⟩⟩
theorem i9 {A:ef} {F:Addr->Prop} {n:Nat} {env:Env} {L:Addr} (AO:AOq A F n) (hk:env.scope.kind=.function) (hf:env.frame=some L):AOk (A.deeper env) (FL F L) n:=by
 refine⟨by have:=AO.d;simp only[ef.deeper];lia,by have:=AO.u;simp only[ef.deeper];lia,?_⟩
 refine ai AO.fr fun l e a=>?_
 refine⟨env::l,by simp[ef.deeper,e],fun x m=>?_⟩
 rcases gg.mp m with rfl|m
 ·exact⟨by refine aa hk ?_;decide,L,hf,.inr rfl⟩
 ·refine am (a x m) fun k c=>?_;refine ai c fun b g f=>?_;exact⟨k,b,g,.inl f⟩
structure AOi (A:ef) (F:Addr->Prop) (n:Nat):Prop where
 d:A.depth+3*n+10<recursionLimit
 u:A.units+40*n+210<cLine
 fr:∃l,A.frames=some l/\∀e∈l,e.scope.kind≠.module/\∃b,e.frame=some b/\F b
theorem DK {A:ef} {F:Addr->Prop} {n:Nat} (AO:AOi A F n):AOk A.in1.in1 F n:=⟨AO.d,by have:=AO.u;show A.units+1+1+40*n+200<cLine;lia,AO.fr⟩
theorem uM {A:ef} {F:Addr->Prop} {n:Nat} {env:Env} {L:Addr} (AO:AOq A F n) (hk:env.scope.kind=.function) (hf:env.frame=some L):AOi (A.deeper env) (FL F L) n :=
 ⟨(i9 AO hk hf).d,by have:=AO.u;simp only[ef.deeper];lia,(i9 AO hk hf).fr⟩
theorem uN {A:ef} {F:Addr->Prop} {n:Nat} {e:Option bo} (AO:AOk A F n):AOk (A.mark e) F n:=⟨AO.d,AO.u,AO.fr⟩
section
variable {g:Gd} {gT:Tx} {F:Addr->Prop} {s:ce} {U:Nat->Addr} {Z:St} {A:ef} {k:K1} {x:KX} {call ch:Call}
structure Under (g:Gd) (gT:Tx) (A:ef) (F:Addr->Prop) (n:Nat) (call ch:Call):Prop where
 base:BaseOk g gT
 ao:AOq A F n
 hd:gT.lp=true->A.handled=none
 c:∀{A':ef} {F':Addr->Prop},AOk A' F' n->A'.handled=A.handled->lR g A' F' call
 h:gT.lp=true->∀{A':ef} {F':Addr->Prop} {e:bo},AOk A' F' n->lR g (A'.mark (some e)) F' ch
theorem Under.cs {n:Nat} (ρ:Under g gT A F n call ch) {env:Env} {sc:Scope} (hsc:env.scope=sc) (hk:sc.kind=.function) (hf:env.frame=some env.locals):Cs g gT call ch (A.deeper env) (FL F env.locals) env sc where
 x:={
  base:=ρ.base
  hu:=Oo ρ.ao.u
  call:=ρ.c (i9 ρ.ao (aa hsc hk) hf) rfl
  call2:=fun a=>ρ.c (DK (uM ρ.ao (aa hsc hk) hf)) rfl
  fl:=.inr rfl
  hd:=fun e=>ρ.hd e
  fr:=⟨_,hf,kY (n:=n) ρ.ao (aa hsc hk) hf⟩}
 c:=fun y h=>by show env.scope.names.lookup _=_;exact aa hsc (eg h)
 k:=by exact aa hsc hk
 h:=fun e v=>ρ.h e (i9 ρ.ao (aa hsc hk) hf)
theorem wF {env:Env} {sc:Scope} {h:Heap} {cs:List (Nat×Nat)} {vs:aO} {m:Str->Option bo} (hsc:env.scope=sc) (hk:sc.kind=.function) (hg:env.globals=mainGlobals) (hb:env.builtins=builtinsNs) (N:h.Ns env.locals m)
  (lk:∀y v,az y vs=some v->gE y/\∃u,m (nm y)=some u/\VR g h U Z.nx v u) (cl:∀y i,az y cs=some i->i<Z.nx/\env.cells.lookup (nm y)=some (U i)) (ca:∀n,sc.names.lookup n=some .cell->∃a,env.cells.lookup n=some a):EnvS g env sc Z U h cs vs :=
 ⟨⟨by refine aa hsc ?_;exact hk,⟨m,N,fun y v e=>(lk y v e).2⟩,fun y i b e=>cl y i e,fun y e=>by show env.scope.names.lookup _=_;refine aa hsc ?_;exact eg e,
  fun y e=>by
   show env.scope.names.lookup _=_\/env.scope.names.lookup _=_
   refine aa hsc ?_
   rcases l8.mp e with e|e
   ·exact .inl (eg e)
   ·exact .inr (eg e),
  fun y e=>by show env.scope.names.lookup _=_;refine aa hsc ?_;exact eg e,hg,hb,fun n e=>⟨by show env.scope.names.lookup _=_;refine aa hsc ?_;exact e,ca n e⟩⟩,fun y v e=>(lk y v e).1⟩
theorem A1 {n i:Nat} {fn:Fn} {fd:C4} {ds:List bo} {l:List V} {us:List bo} {vs:aO} (FO:FnOk g i fn fd ds) (hc:fn.cl=[]) (ρ:Under g gT A F n call ch) (hS:wB g gT fd.scope fn.bd) (W:R g Z U s.heap) (P:Pv g F aL Z U s.heap) (r:VRs g s.heap U Z.nx l us)
  (hb:nw fn.ps l fn.ds=some vs) (h:eN fn.bd call ch [] vs Z (fun u_ Z=>k .none Z) k x=true):z9 g.m A (.call (.ref (g.fa i)) ⟨us,[]⟩) (pV g F Z U s k x) s:=by
 refine ai FO.obj fun o hB hd=>?_
 have ho:=W.base _ _ hB
 have dv:=FO.dv s.heap U Z.nx W.base
 refine cE (pU FO.dl hb) ?_;rintro l1 Y rfl
 have c:=r.length
 have f:=dv.length
 have hB:=pT (us:=us) FO.ps (FO.df _ W.base) (aa (jb _) (aa c l1)) (aa (jb _) (aa c (aa f Y))) (aa (jb _) (aa f FO.dl))
 have H:Al g s.heap U Z.nx (fn.ps.zip (l++fn.ds.drop (fn.ds.length - (fn.ps.length - l.length)))) ((fn.ps.map nm).zip (us++ds.drop (ds.length - ((fn.ps.map nm).length - us.length)))):=by
  refine aa (jb _) (aa c (aa f ?_))
  exact Al.zip (r.append (dv.drop _))
 generalize hbs:(fn.ps.map nm).zip (us++ds.drop (ds.length - ((fn.ps.map nm).length - us.length)))=binds at hB H
 have J:∀p∈(fn.ps.zip (l++fn.ds.drop (fn.ds.length - (fn.ps.length - l.length)))).reverse,gE p.1:=fun p m=>FO.nmo _ (AQ (List.mem_reverse.mp m)).1
 refine codeAny_call_def (by have:=ρ.ao.d;lia) ho hd (ρ.base.nolim _ W.base) (FO.code _ W.base) FO.body hB (FO.noc hc) (fun p m=>?_) (fun w N a=>?_) FO.co FO.gen FO.kind
 ·have:p.1∈binds.map (·.1):=mc.mpr ⟨p,m,rfl⟩
  replace this:=H.keys▸this
  refine ai (mc.mp this) fun q mq e=>?_
  refine bw e ?_
  rcases FO.kin q.1 (AQ mq).1 with z|z
  ·exact z.2
  ·replace z:=hc▸z;cases z.1
 ·generalize he:callEnv fd s.heap.objs.size (g.fa i)=env
  have Q:env.locals=s.heap.objs.size:=by exact bw he rfl
  have S:env.frame=some env.locals:=by exact bw he rfl
  have j:env.scope=fd.scope:=by exact bw he rfl
  rw[<-Q] at N
  have E:s.heap.get? env.locals=none:=by exact aa Q (cn _)
  have L:Later s.heap w:=.of_keeps a
  have P1:Pv g (FL F env.locals) (XL env) Z U w:=fun b q=>by
   have t:b=env.locals->NF w b/\g.B b=none/\∀i,i<Z.nx->U i≠b:=by
    rintro rfl
    refine⟨.of_ns N,?_,fun i hi z=>?_⟩
    ·induction z:g.B env.locals using cN with
     | none=>rfl
     | some M=>have:=W.base _ M z;replace this:=E▸this;exact bj this
    ·refine aG (W.ex i hi) fun M I=>?_;replace I:=E▸z▸I;exact bj I
   rcases q with (q|q)|q
   ·refine am (P b (.inl q)) fun C y=>?_;refine ai C fun K e nf=>?_;exact⟨⟨K,a b K e,nf⟩,y⟩
   ·exact t q
   ·exact t q
  have G:Go g (FL F env.locals) (XL env) Z U s Z U {s with heap:=w,toks:=s.toks+binds.length}:=.growP W a P1
  refine DJ (n:=n) ρ.ao hS W (aa j FO.kind) S E (ρ.cs j FO.kind S) G (wF j FO.kind (bw he FO.glob) (bw he FO.blt) N (fun y v e=>?_) (fun y i e=>by exact bj e) fun n e=>absurd rfl (FO.noc hc _ (mem_of_lookup e))) h
  refine dS ((H.reverse).look J e) fun u e1 e2 e3=>?_
  refine ai (mc.mp e3) fun p mp ep=>?_
  exact⟨ep▸J p mp,u,e1,G.vr e2⟩
end
theorem nA {x n:Str} {v:bo} (l:List (Str×bo)):(l++[(n,v)]).lookup x=(l.lookup x).or (if x=n then some v else none):=by
 refine aa List.lookup_append (aa kV ?_)
 by_cases h:x=n
 ·subst h;simp
 ·exact aa (if_neg h) (aa (beq_eq_false_iff_ne.mpr h) rfl)
theorem uO {kindOf:Str->Option i3} {x:Str} (hx:kindOf x=some .local):∀(bs:List (Str×bo)) (m:Str->Option bo),bindL kindOf bs m x=(bs.reverse.lookup x).or (m x)
 | [],m=>rfl
 | (n,v)::r,m=>by
  rewrite[bindL];refine aa (uO hx r _) (aa kf (aa (nA _) (aa Option.or_assoc ?_)))
  congr 1
  by_cases h:x=n
  ·subst h;refine aa (if_pos hx) ?_;simp
  ·refine aa (if_neg h) ?_
   split
   ·simp[h]
   ·rfl
theorem uP {kindOf:Str->Option i3} {x:Str} (hx:kindOf x≠some .local):∀(bs:List (Str×bo)) (m:Str->Option bo),bindC kindOf bs m x=(bs.reverse.lookup x).or (m x)
 | [],m=>rfl
 | (n,v)::r,m=>by
  rewrite[bindC];refine aa (uP hx r _) (aa kf (aa (nA _) (aa Option.or_assoc ?_)))
  congr 1
  by_cases h:x=n
  ·subst h;refine aa (if_neg hx) ?_;simp
  ·refine aa (if_neg h) ?_
   split
   ·rfl
   ·simp[h]
section
variable {g:Gd} {h:Heap} {U:Nat->Addr} {n:Nat}
theorem Al.look_none {l:List (Nat×V)} {bs:List (Str×bo)} {y:Nat} (ok:∀p∈l,gE p.1) (oy:gE y) (r:Al g h U n l bs) (e:Mine.az y l=none):bs.lookup (nm y)=none:=by
 revert ok e;refine r.ind (fun _ _=>rfl) fun{k a r u q} d c b ok e=>?_
 rw[ax] at e
 by_cases hk:k=y
 ·replace e:=if_pos hk▸e;exact t9 e
 ·replace e:=if_neg hk▸e
  have:(nm y==nm k)=false:=beq_eq_false_iff_ne.mpr fun z=>hk (kX (ok (k,a) (.head _)) oy z.symm)
  refine aa kV (aa this ?_)
  exact b (fun p m=>ok p (.tail _ m)) e
theorem pX {cl:List Nat} {y:Nat} {v:V}:∀{vs:aO},az y (Hy cl vs)=some v->y∉cl/\az y vs=some v
 | [],e=>by exact bj e
 | (k,a)::r,e=>by
  have e:az y (af (q6 k cl) (Hy cl r) ((k,a)::Hy cl r))=some v:=e
  rw[ax]
  induction q:q6 k cl using dI with
  | true =>
   replace e:=q▸e
   refine am (pX e) fun b c=>?_
   refine⟨b,?_⟩
   refine aa (if_neg fun z:k=y=>b (bw z ((lP k cl).mp q))) ?_
   exact c
  | false =>
   replace e:=q▸e
   have e:az y ((k,a)::Hy cl r)=some v:=e
   rw[ax] at e
   by_cases hk:k=y
   ·rw[if_pos hk] at e ⊢
    refine⟨fun m=>?_,e⟩
    rewrite[<-hk,<-lP] at m;replace m:=(q)▸m;exact aS m
   ·rw[if_neg hk] at e ⊢
    exact pX e
end
section
variable {g:Gd} {gT:Tx} {F X:Addr->Prop} {s s1:ce} {U U1:Nat->Addr} {Z Z1:St} {A:ef} {k:K1} {x:KX} {call ch:Call}
theorem pY {vs:aO} {cells:List (Str×Addr)} {cm:Str->Option bo} (vr:∀y v,az y vs=some v->∃u,cm (nm y)=some u/\VR g s.heap U Z.nx v u) (vn:∀y,gE y->az y vs=none->cm (nm y)=none)
  (ap:cells.Pairwise fun x y=>x.2≠y.2):∀{cl:List Nat} {Z1:St} {U1:Nat->Addr} {kk:List (Nat×Nat)->St->Bool},(∀y∈cl,gE y/\∃c,cells.lookup (nm y)=some c/\s.heap.get? c=none/\g.B c=none/\(¬F c/\¬X c)/\s1.heap.IsCell c (cm (nm y)))->cl.Nodup ->
   Go g F X Z U s Z1 U1 s1->(∀y∈cl,∀c,cells.lookup (nm y)=some c->∀j,j<Z1.nx->U1 j≠c)->j8 cl vs Z1 kk=true ->
   ∃Z2 U2 cs,Go g F X Z U s Z2 U2 s1/\(∀y i,az y cs=some i->i<Z2.nx/\cells.lookup (nm y)=some (U2 i))/\kk cs Z2=true/\Z1.nx<=Z2.nx/\∀i,i<Z1.nx->U2 i=U1 i
 | [],Z1,U1,kk,_,_,G,_,h=>⟨Z1,U1,[],G,(fun y i e=>by exact bj e),h,e5 _,fun k k=>rfl⟩
 | y::cl,Z1,U1,kk,hy,hn,G,ne,h=>by
  refine am (hy y (.head _)) fun C n=>?_;refine zW n fun c p J L W t=>?_;refine ai t fun E o A=>?_
  rw[rc] at hn
  have h:j8 cl vs (Z1.new (@Option.rec V (fun k=>O) .unb (fun v=>.cel v) (az y vs))) (fun cs M=>kk ((y,Z1.nx)::cs) M)=true:=h
  have Y:Go g F X Z U s (Z1.new (@Option.rec V (fun k=>O) .unb (fun v=>.cel v) (az y vs))) (i6 U1 Z1.nx c) s1:=by
   refine G.adopt J (ne y (.head _) c p) L W o ?_
   induction q:az y vs using cN with
   | none=>exact⟨E,o,aa A (aa (vn y C q) rfl)⟩
   | some v =>
    refine ai (vr y v q) fun u S P=>?_
    exact⟨u,⟨E,o,aa A (aa S rfl)⟩,(G.vr P).mono Later.refl (fun i f=>bu f) (sr _)⟩
  have r:∀z∈cl,∀l,cells.lookup (nm z)=some l->∀j,j<(Z1.new (@Option.rec V (fun k=>O) .unb (fun v=>.cel v) (az y vs))).nx->i6 U1 Z1.nx c j≠l:=fun z m l b j d=>by
   have w:j<Z1.nx+1:=d
   rcases ja.mp w with d|rfl
   ·exact aa (bu d) (ne z (.tail _ m) l b j d)
   ·refine aa upd_at ?_
    rintro rfl
    have:=name_of_addr ap (mem_of_lookup p) (mem_of_lookup b)
    exact hn.1 (kX C (hy z (.tail _ m)).1 this▸m)
  refine GU (pY vr vn ap (fun z m=>hy z (.tail _ m)) hn.2 Y r h) ?_;intro Z2 U2 cs I Q K N H
  have a:Z1.nx+1<=Z2.nx:=N
  refine⟨Z2,U2,(y,Z1.nx)::cs,I,fun z i e=>?_,K,Nat.le_of_succ_le a,fun i f=>(H i (vb f)).trans (bu f)⟩
  rw[ax] at e
  by_cases hz:y=z
  ·subst hz;replace e:=if_pos rfl▸e;cases e
   refine⟨a,?_⟩
   exact aa (H Z1.nx (f2 _)) (aa upd_at p)
  ·replace e:=if_neg hz▸e;exact Q z i e
theorem ro {n i:Nat} {fn:Fn} {fd:C4} {ds:List bo} {l:List V} {us:List bo} {vs:aO} {d:DS} (FO:FnOk g i fn fd ds) (ρ:Under g gT A F n call ch) (hS:KT g gT fd.scope (fun env=>env.code=fd.code/\env.qual=fd.qualname++".<locals>.") (fm fn.bd) d) (W:R g Z U s.heap) (P:Pv g F aL Z U s.heap) (r:VRs g s.heap U Z.nx l us)
  (hb:nw fn.ps l fn.ds=some vs) (h:j8 fn.cl vs Z (fun cs Z=>d call ch cs (Hy fn.cl vs) Z (fun u_ Z=>k .none Z) k x)=true):z9 g.m A (.call (.ref (g.fa i)) ⟨us,[]⟩) (pV g F Z U s k x) s:=by
 refine ai FO.obj ?_;intro o hB hd
 have ho:=W.base _ _ hB
 have dv:=FO.dv s.heap U Z.nx W.base
 refine cE (pU FO.dl hb) ?_;rintro l1 l2 rfl
 have C:=r.length
 have I:=dv.length
 have hB:=pT (us:=us) FO.ps (FO.df _ W.base) (by refine aa (jb _) (aa C ?_);exact l1) (by refine aa (jb _) (aa C (aa I ?_));exact l2) (by refine aa (jb _) (aa I ?_);exact FO.dl)
 have K:Al g s.heap U Z.nx (fn.ps.zip (l++fn.ds.drop (fn.ds.length - (fn.ps.length - l.length)))) ((fn.ps.map nm).zip (us++ds.drop (ds.length - ((fn.ps.map nm).length - us.length)))):=by
  refine aa (jb _) (aa C (aa I ?_))
  exact Al.zip (r.append (dv.drop _))
 generalize hbs:(fn.ps.map nm).zip (us++ds.drop (ds.length - ((fn.ps.map nm).length - us.length)))=binds at hB K
 have S:∀p∈(fn.ps.zip (l++fn.ds.drop (fn.ds.length - (fn.ps.length - l.length)))).reverse,gE p.1:=fun p m=>FO.nmo _ (AQ (List.mem_reverse.mp m)).1
 generalize hvs:(fn.ps.zip (l++fn.ds.drop (fn.ds.length - (fn.ps.length - l.length)))).reverse=vs at h S
 have a1:∀{m:Nat} {y:Nat},y∈fn.cl->((cellsFrom m fd.scope.names []).lookup (nm y)).isSome=true:=fun m=>fi (.inl (FO.cel _ m).2)
 refine codeAny_call_function (by have:=ρ.ao.d;lia) ho hd FO.co FO.gen FO.body (FO.code _ W.base) (hB _ _ _ _ ?_)
 refine aa FO.clo ?_
 refine wpAny_newFunctionEnv_cells FO.kind (fun p m=>?_) fun env H s1 M=>?_
 ·have:p.1∈binds.map (·.1):=mc.mpr ⟨p,m,rfl⟩
  replace this:=K.keys▸this
  refine ai (mc.mp this) ?_;intro q mq e
  refine bw e ?_
  rcases FO.kin q.1 (AQ mq).1 with z|z
  ·exact .inl z.2
  ·exact .inr ⟨z.2,a1 z.1⟩
 ·have hl:env.locals=s.heap.objs.size:=by refine aa H ?_;rfl
  have hf:env.frame=some env.locals:=by refine aa H ?_;rfl
  have w:env.scope=fd.scope:=by refine aa H ?_;rfl
  have a3:env.cells=cellsFrom (s.heap.objs.size+1) fd.scope.names []:=by refine aa H ?_;rfl
  have a6:env.globals=mainGlobals:=by refine aa H ?_;exact FO.glob
  have a5:env.builtins=builtinsNs:=by refine aa H ?_;exact FO.blt
  have a2:env.code=fd.code/\env.qual=fd.qualname++".<locals>.":=by refine aa H ?_;exact⟨rfl,rfl⟩
  clear H
  have N:=M.toInCall.ns
  have keep:=M.toInCall.keep
  refine eM M.toInCall.same ?_;rintro a9 tk rfl
  refine⟨(ρ.base.nolim _ W.base).keeps keep,codeAny_func ?_⟩
  have nL:s.heap.get? env.locals=none:=by refine aa hl ?_;exact cn _
  have P1:Pv g (FL F env.locals) (XL env) Z U a9:=fun b q=>by
   have Y:b=env.locals->NF a9 b/\g.B b=none/\∀i,i<Z.nx->U i≠b:=by
    rintro rfl
    refine⟨.of_ns N,?_,fun i hi z=>?_⟩
    ·induction z:g.B env.locals using cN with
     | none=>rfl
     | some Q=>have:=W.base _ Q z;replace this:=nL▸this;exact bj this
    ·refine aG (W.ex i hi) ?_;intro Q J;replace J:=nL▸z▸J;exact bj J
   rcases q with (q|q)|q
   ·refine am (P b (.inl q)) ?_;intro t y;refine ai t ?_;clear t;intro ob e nf;exact⟨⟨ob,keep b ob e,nf⟩,y⟩
   ·exact Y q
   ·exact Y q
  have G:Go g (FL F env.locals) (XL env) Z U s Z U {s with heap:=a9,toks:=tk}:=.growP W keep P1
  have kin:∀{z:Str} {kk:i3},fd.scope.names.lookup z=some kk->env.kindOf z=some kk:=fun e=>by show env.scope.names.lookup _=_;refine aa w ?_;exact e
  have above:∀{z:Str} {c:Addr},env.cells.lookup z=some c->env.locals<c:=fun e=>M.above _ _ (mem_of_lookup e)
  have E:∀{c:Addr},env.locals<c->s.heap.get? c=none:=fun{c} a=>by
   induction z:s.heap.get? c using cN with
   | none=>rfl
   | some Q=>replace a:=hl▸a;exact absurd (l4 z) (Nat.not_lt_of_lt a)
  have a7:∀{y:Nat} {v:V},az y vs=some v->y∈fn.ps:=fun{y v} e=>by
   refine dS ((K.reverse).look (by refine aa hvs ?_;exact S) (by refine aa hvs ?_;exact e)) ?_;intro u e1 e2 e3
   replace e3:=hvs▸e3
   refine ai (mc.mp e3) ?_;intro p mp ep
   rw[<-hvs] at mp
   exact ep▸(AQ (List.mem_reverse.mp mp)).1
  have a8:∀{y:Nat},fd.scope.names.lookup (nm y)≠some .local->bindC env.kindOf binds (fun u_=>none) (nm y)=binds.reverse.lookup (nm y):=fun ab=>by
   refine aa (uP (by show env.scope.names.lookup _≠_;refine aa w ?_;exact ab) _ _) ?_;simp
  have a4:∀{y:Nat},fd.scope.names.lookup (nm y)=some .local->bindL env.kindOf binds (fun u_=>none) (nm y)=binds.reverse.lookup (nm y):=fun H=>by
   refine aa (uO (kin H) _ _) ?_;simp
  refine GU (pY (cm:=fun z=>binds.reverse.lookup z) (fun y v e=>by
    refine dS ((K.reverse).look (by refine aa hvs ?_;exact S) (by refine aa hvs ?_;exact e)) ?_;intro u e1 e2 e3
    exact⟨u,e1,e2⟩) (fun y oy e=>(K.reverse).look_none (by refine aa hvs ?_;exact S) oy (by refine aa hvs ?_;exact e)) M.apart (fun y m=>by
    refine aG (Option.isSome_iff_exists.mp (a1 (m:=s.heap.objs.size+1) m)) ?_;intro c L
    rw[<-a3] at L
    have a:=above L
    have fc:=E a
    refine⟨FO.nmc y m,c,L,fc,?_,⟨?_,?_⟩,?_⟩
    ·induction z:g.B c using cN with
     | none=>rfl
     | some Q=>have:=W.base _ Q z;replace this:=fc▸this;exact bj this
    ·rintro(f|rfl)
     ·refine am (P c (.inl f)) ?_;intro t ah;refine ai t ?_;clear t;intro ob e ag;replace e:=fc▸e;exact bj e
     ·exact nY _ a
    ·intro z
     have z:c=env.locals:=z
     replace a:=z▸a;exact nY _ a
    ·have:=M.cell _ c L
     rwa [a8 (by refine aa ((FO.cel y m).1) ?_;decide)] at this) FO.cnd G (fun y m c L j hj z=>by
    refine aG (W.ex j hj) ?_;intro Q J
    replace J:=E (above L)▸z▸J;exact bj J) h) ?_
  intro Z2 U2 cs G2 i1 i2 al ad
  refine uL (n:=n) ρ.ao hS a2 W (by refine aa w ?_;exact FO.kind) hf nL (ρ.cs w FO.kind hf) G2 (wF w FO.kind a6 a5 N (fun y v e=>?_) i1 fun n e=>Option.isSome_iff_exists.mp (by refine aa a3 ?_;exact fi (.inl (mem_of_lookup e)))) i2
  refine am (pX e) ?_;clear e;intro nc e
  refine dS ((K.reverse).look (by refine aa hvs ?_;exact S) (by refine aa hvs ?_;exact e)) ?_;intro u e1 e2 e3
  have mp:=a7 e
  refine⟨FO.nmo y mp,u,?_,G2.vr e2⟩
  refine aa (a4 ((FO.kin y mp).resolve_right fun z=>nc z.1).2) ?_
  exact e1
theorem A2 {n i:Nat} {fn:Fn} {fd:C4} {ds:List bo} {l:List V} {us:List bo} {vs:aO} (FO:FnOk g i fn fd ds) (ρ:Under g gT A F n call ch) (hS:wB g gT fd.scope fn.bd) (W:R g Z U s.heap) (P:Pv g F aL Z U s.heap) (r:VRs g s.heap U Z.nx l us)
  (hb:nw fn.ps l fn.ds=some vs) (h:j8 fn.cl vs Z (fun cs Z=>eN fn.bd call ch cs (Hy fn.cl vs) Z (fun u_ Z=>k .none Z) k x)=true):z9 g.m A (.call (.ref (g.fa i)) ⟨us,[]⟩) (pV g F Z U s k x) s :=
 ro (d:=eN fn.bd) FO ρ (fun u_=>hS) W P r hb h
theorem DL {n i:Nat} {fn:Fn} {fd:C4} {ds:List bo} {l:List V} {us:List bo} (FO:FnOk g i fn fd ds) (hi:nQ i=some fn) (ρ:Under g gT A F n call ch) (hS:wB g gT fd.scope fn.bd) (W:R g Z U s.heap) (P:Pv g F aL Z U s.heap) (r:VRs g s.heap U Z.nx l us)
  (h:mO call ch i l Z k x=true):z9 g.m A (.call (.ref (g.fa i)) ⟨us,[]⟩) (pV g F Z U s k x) s:=by
 refine bS h fun b e h=>?_
 replace e:=hi▸e;cases e
 refine bS h fun c a h=>?_
 induction q:fn.cl using fV with
 | nil =>
  refine A1 FO q ρ hS W P r a ?_
  unfold Hz at h
  replace h:=q▸h;exact h
 | cons y cl =>
  refine A2 FO ρ hS W P r a ?_
  unfold Hz at h
  rw[q] at h ⊢;exact h
end
structure MkOk (g:Gd) (K:Frag):Prop where
 mks:∀c,g6 c=true->makesIn K (g.ca c)=true
 fn:∀c i,g6 c=true->az aH (kt c)=some i->findIn K (.ref (g.ca c)) "__init__"=some (some (.ref (g.fa i)))/\typeIn K (.ref (g.fa i))=some (.type "function")
section
variable {g:Gd} {gT:Tx} {F X:Addr->Prop} {s s1:ce} {U U1:Nat->Addr} {Z Z1:St} {A:ef} {k:K1} {x:KX} {call ch:Call} {K:Frag} {aT:List Nat}
theorem pZ {n:Nat} {C:Addr} {rest:List bo} {kw:List (Str×bo)} (AO:AOk A F (n+1)):AOq (A.under (.builtin "type.__call__" ⟨.ref C::rest,kw⟩)) F n:=by
 have g:(Code.builtin "type.__call__" ⟨.ref C::rest,kw⟩).weight<=1:=by
  have c:(Code.builtin "type.__call__" ⟨.ref C::rest,kw⟩).frames=0:=rfl
  have f:(Code.builtin "type.__call__" ⟨.ref C::rest,kw⟩).isGuard=false:=by show guardIds.contains "type.__call__"=false;decide
  have b:(Code.builtin "type.__call__" ⟨.ref C::rest,kw⟩).isCaller=false:=rfl
  unfold Code.weight
  refine aa c (aa f (aa b ?_))
  split<;>simp
 refine⟨by have:=AO.d;simp only[ef.under];lia,by have:=AO.u;have e:(Code.builtin "type.__call__" ⟨.ref C::rest,kw⟩).cUnits=1:=rfl;simp only[ef.under,e];lia,?_⟩
 refine ai AO.fr fun l e a=>?_
 exact⟨l,e,a⟩
theorem jP {C:Addr} {rest:List bo} {kw:List (Str×bo)}:(A.under (.builtin "type.__call__" ⟨.ref C::rest,kw⟩)).handled=A.handled:=rfl
theorem DM {n c i:Nat} {l:List V} {us:List bo} (KO:ClsOk g K aT) (MO:MkOk g K) (hc:g6 c=true) (AO:AOk A F (n+1)) (W:R g Z U s.heap) (P:Pv g F aL Z U s.heap) (r:VRs g s.heap U Z.nx l us) (hm:az aH (kt c)=some i)
  (run:∀{A':ef} {Z':St} {U':Nat->Addr} {s':ce} {l':List V} {us':List bo} {k':K1},AOq A' F n->A'.handled=A.handled->R g Z' U' s'.heap->Pv g F aL Z' U' s'.heap->VRs g s'.heap U' Z'.nx l' us'->mO call ch i l' Z' k' x=true->z9 g.m A' (.call (.ref (g.fa i)) ⟨us',[]⟩) (pV g F Z' U' s' k' x) s')
  (h:Md call ch (fun d=>.ins c d) i l Z k x=true):z9 g.m A (.call (.ref (g.ca c)) ⟨us,[]⟩) (pV g F Z U s k x) s:=by
 have h:mO call ch i (.obj (Nat.succ Z.nx)::l) ((Z.new (.dic [])).new (.ins c Z.nx)) (fun v Z'=>fO v (k (.obj (Nat.succ Z.nx)) Z')) x=true:=h
 refine am (MO.fn c i hc hm) fun H N=>?_
 have B:=KO.hK _ W.base
 obtain⟨b,j,d,t,u⟩:=s
 refine make_core (makes_of B (MO.mks c hc)) (looks_findIn B H) (fun w=>bind_fn B w N) (.inl rfl) ?_
 have C:Go g F aL Z U ⟨b,j,d,t,u⟩ (Z.new (.dic [])) (i6 U Z.nx b.objs.size) ⟨b.push emptyDict,j,d,t,u⟩ :=
  Go.push (s:=⟨b,j,d,t,u⟩) (t:=t) W P emptyDict (o:=.dic []) ⟨[],⟨_,#[],0,fI _ rfl,⟨rfl,rfl,rfl⟩,rfl,fun e L=>by simp at L,.nil,by simp⟩,rfl⟩ rfl
 have J:(b.push emptyDict).objs.size=b.objs.size+1:=I2 ..
 have E:Go g F aL (Z.new (.dic [])) (i6 U Z.nx b.objs.size) ⟨b.push emptyDict,j,d,t,u⟩ ((Z.new (.dic [])).new (.ins c Z.nx)) (i6 (i6 U Z.nx b.objs.size) (Z.nx+1) (b.objs.size+1)) ⟨(b.push emptyDict).push (instObj (g.ca c) b.objs.size),j,d,t,u⟩:=by
  have:=Go.push (s:=⟨b.push emptyDict,j,d,t,u⟩) (t:=t) C.r C.p (instObj (g.ca c) b.objs.size) (o:=.ins c Z.nx) ⟨by
   refine aa (show(i6 (i6 U Z.nx b.objs.size) (Z.new (.dic [])).nx (b.push emptyDict).objs.size) Z.nx=b.objs.size from(bu (f2 _)).trans upd_at) ?_
   exact fI _ rfl,vb (f2 _)⟩ rfl
  replace this:=J▸this
  exact this
 have G:=C.trans W E
 have I:VRs g ((b.push emptyDict).push (instObj (g.ca c) b.objs.size)) (i6 (i6 U Z.nx b.objs.size) (Z.nx+1) (b.objs.size+1)) ((Z.new (.dic [])).new (.ins c Z.nx)).nx (.obj (Nat.succ Z.nx)::l) (.ref (b.objs.size+1)::us) :=
  ⟨_,_,rfl,⟨congrArg bo.ref upd_at.symm,f2 _⟩,G.vrs r⟩
 refine codeAny_mono (run (Z':=(Z.new (.dic [])).new (.ins c Z.nx)) (s':=⟨(b.push emptyDict).push (instObj (g.ca c) b.objs.size),j,d,t,u⟩) (pZ AO) jP E.r E.p I h) fun r s' q=>?_
 ·cases r with
  | error e=>exact PX.from W G q
  | ok f =>
   cases f with
   | ret v =>
    obtain⟨Z',U',a,z,M,y⟩:=q
    refine f7 y ?_;clear y;rintro rfl y
    cases M
    refine⟨rfl,Z',U',.obj (Nat.succ Z.nx),G.trans W z,⟨?_,f3 (f2 _) z.sp.nx⟩,y⟩
    refine aa (z.sp.ag _ (f2 _)) ?_
    exact congrArg bo.ref upd_at.symm
   | _=>exact q.elim
end
def ItY (g:Gd) (h:Heap) (U:Nat->Addr) (n:Nat) (I:Addr) (Y:Addr->Prop) (i:Nat):Src->Prop
 | .live k=>ItR g h U n I i (.live k)/\∀b,Y b<->b=I
 | .seq l=>ItR g h U n I i (.seq l)/\∀b,Y b<->b=I
 | .enm (.live k)=>∃it old,(∀b,Y b<->(b=I\/b=it))/\I≠it/\IsEnum h I it i old/\h.IsListIter it (U k) i/\k<n
 | .zip (.seq []) (.seq [])=>∃i1,(∀b,Y b<->(b=I\/b=i1))/\i=0/\yW h I i1
 | _=>False
def Mr (g:Gd) (h:Heap) (U:Nat->Addr) (n:Nat) (I:Addr) (Y:Addr->Prop) (i:Nat) (v:bo):Src->Prop
 | .enm (.live k)=>∃it T x,v=.ref T/\(∀b,Y b<->(b=I\/b=it))/\I≠it/\IsEnumOut h I it ((i:Int)+1) x T/\h.IsListIter it (U k) (i+1)/\k<n
 | src=>ItY g h U n I Y (i+1) src
section
variable {g:Gd} {F X Y:Addr->Prop} {s s':ce} {U U':Nat->Addr} {Z Z':St} {A:ef} {E:bo->ce->Prop} {t:Nat} {I:Addr} {i:Nat} {src:Src}
@[elab_as_elim] theorem ItY.zp {n:Nat} {h:Heap} {M:Src->Src->Prop} {a b:Src} (x:ItY g h U n I Y i (.zip a b)) (K:ItY g h U n I Y i (.zip (.seq []) (.seq []))->M (.seq []) (.seq [])):M a b:=by
 cases a with
 | seq l =>
  cases l with
  | nil =>
   cases b with
   | seq r =>
    cases r with
    | nil=>exact K x
    | cons=>exact x.elim
   | _=>exact x.elim
  | cons=>exact x.elim
 | _=>exact x.elim
theorem ItY.nf {n:Nat} {h:Heap} (x:ItY g h U n I Y i src):(∀b,Y b->NF h b)/\Y I:=by
 cases src with
 | live k=>exact⟨fun b c=>aa ((x.2 b).mp c) x.1.nf,(x.2 I).mpr rfl⟩
 | seq l=>exact⟨fun b c=>aa ((x.2 b).mp c) x.1.nf,(x.2 I).mpr rfl⟩
 | enm a =>
  cases a with
  | live k =>
   refine qH x fun z s f u q j B=>?_;refine dS j fun o r t m=>?_
   refine⟨fun b c=>?_,(f I).mpr (.inl rfl)⟩
   rcases(f b).mp c with rfl|rfl
   ·exact bR q rfl
   ·exact bR r m
  | _=>exact x.elim
 | zip a b =>
  refine ItY.zp x fun x=>?_
  refine dS x fun A f _ x=>?_;refine lc x fun w v y p _ x=>?_
  refine⟨fun b c=>?_,(f I).mpr (.inl rfl)⟩
  rcases(f b).mp c with rfl|rfl
  ·exact bR p rfl
  ·rcases x.1 with ⟨l,⟨o,e,_,d⟩,_⟩|⟨l,⟨o,e,_,d⟩,_⟩<;>exact bR e d
theorem EndedAt.later {h h':Heap} (L:∀b o,h.get? b=some o->h'.get? b=some o) {i:Addr} (x:EndedAt h i):EndedAt h' i:=by
 rcases x with ⟨l,a,b⟩|⟨l,a,b⟩
 ·exact .inl ⟨l,a.at fun o e=>L _ o e,b.at fun o e=>L _ o e⟩
 ·exact .inr ⟨l,ai a fun o e r=>⟨o,L _ _ e,r⟩,b.at fun o e=>L _ o e⟩
theorem ItY.grow {h h':Heap} {n:Nat} (x:ItY g h U n I Y i src) (k:∀b o,h.get? b=some o->h'.get? b=some o):ItY g h' U n I Y i src:=by
 have one:∀{src:Src},ItR g h U n I i src->ItR g h' U n I i src:=fun{src} x=>by
  cases src with
  | live t=>refine am x fun d p=>?_;refine ai d fun o e r=>?_;exact⟨⟨o,k _ _ e,r⟩,p⟩
  | seq l =>
   rcases x with ⟨a,z,H,r,⟨o,e,q⟩⟩|⟨m,a,c,y,e⟩
   ·exact .inl ⟨a,z,f8 (.of_keeps k) H,r.mono (.of_keeps k) (fun C C=>rfl) (e5 _),⟨o,k _ _ e,q⟩⟩
   ·exact .inr ⟨m,a,c,y,k _ _ e⟩
  | zip _ _=>exact x.elim
  | enm _=>exact x.elim
 cases src with
 | live t=>exact⟨one x.1,x.2⟩
 | seq l=>exact⟨one x.1,x.2⟩
 | enm a =>
  cases a with
  | live t =>
   refine qH x fun K s f A w j p=>?_;refine ai j fun o M r=>?_
   exact⟨K,s,f,A,k _ _ w,⟨o,k _ _ M,r⟩,p⟩
  | _=>exact x.elim
 | zip a b =>
  refine ItY.zp x fun x=>?_
  refine dS x fun L f J x=>?_;refine lf x fun u B E F v G x=>?_
  exact⟨L,f,J,u,B,E,k _ _ F,k _ _ v,G.later k,x⟩
theorem ItY.go (x:ItY g s.heap U Z.nx I Y (i+1) src) (G:Go g F X Z U s Z' U' s') (hI:∀b,Y b->∀o,s.heap.get? b=some o->s'.heap.get? b=some o):ItY g s'.heap U' Z'.nx I Y (i+1) src:=by
 cases src with
 | live k=>exact⟨x.1.go G (hI I ((x.2 I).mpr rfl)),x.2⟩
 | seq l=>exact⟨x.1.go G (hI I ((x.2 I).mpr rfl)),x.2⟩
 | enm a =>
  cases a with
  | live k =>
   refine qH x fun n e c h j d f=>?_;refine ai d fun o p r=>?_
   exact⟨n,e,c,h,hI _ ((c _).mpr (.inl rfl)) _ j,⟨o,hI _ ((c _).mpr (.inr rfl)) _ p,aa (G.sp.ag k f) r⟩,f3 f G.sp.nx⟩
  | _=>exact x.elim
 | zip a b =>
  refine ItY.zp x fun x=>?_
  refine ai x fun q c m=>?_;cases m.1
theorem Go.priv (W:R g Z U s.heap) (P:Pv g F X Z U s.heap) {h':Heap} (hY:∀b,Y b->X b) (N':∀b,Y b->NF h' b) (k:∀b o,¬Y b->s.heap.get? b=some o->h'.get? b=some o):Go g F X Z U s Z U {s with heap:=h',toks:=t}:=by
 have u:Later s.heap h':=fun b o e f=>by
  by_cases d:Y b
  ·refine am (P b (.inr (hY b d))) fun l x=>?_;refine ai l fun J w m=>?_;replace e:=w▸e;cases e;exact absurd f m
  ·exact k b o d e
 have n:∀i,i<Z.nx->¬Y (U i):=fun i E z=>(P _ (.inr (hY _ z))).2.2 i E rfl
 refine⟨rfl,⟨e5 _,fun h h=>rfl,fun b o e n H=>.inl (k b o (fun z=>H (hY b z)) e),fun h a b=>absurd b (ji a),fun j c h e=>⟨_,e⟩,fun b o e=>?_,fun b d C=>ai C fun c e m=>?_,⟨rfl,rfl⟩,fun h h h=>rfl⟩,
  ⟨fun b o e=>k b o (fun z=>?_) (W.base b o e),W.fresh,W.inj,fun j r=>?_,fun j c e=>?_⟩,fun b q=>?_,u⟩
 ·by_cases d:Y b
  ·refine ai (N' b d) fun c A G=>?_;exact⟨c,A⟩
  ·exact⟨o,k b o d e⟩
 ·by_cases hb':Y b
  ·exact N' b hb'
  ·exact⟨c,k b c hb' e,m⟩
 ·replace e:=(P b (.inr (hY b z))).2.1▸e;exact bj e
 ·refine aG (W.ex j r) fun v I=>?_;exact⟨v,k _ _ (n j r) I⟩
 ·have p:=aC W e
  exact⟨p,(aB W e).mono u (fun h h=>rfl) (e5 _) fun o e=>k _ o (n j p) e⟩
 ·refine cE (P b q) fun l B y=>?_;refine ai l fun c e m=>?_
  refine⟨?_,B,y⟩
  by_cases d:Y b
  ·exact N' b d
  ·exact⟨c,k b c d e,m⟩
theorem uR {it:Option V} {Q:Option bo->ce->Prop} (hh:A.handled=none) (W:R g Z U s.heap) (P:Pv g F X Z U s.heap) (hX:∀b,Y b->X b) (x:ItY g s.heap U Z.nx I Y i src) (q:src.at i Z=some it)
  (h0:it=none->∀h',(∀b o,¬Y b->s.heap.get? b=some o->h'.get? b=some o)->Q none {s with heap:=h'})
  (h1:∀a,it=some a->∀v s',Go g F X Z U s Z U s'->(∀b o,¬Y b->s.heap.get? b=some o->s'.heap.get? b=some o)->VR g s'.heap U Z.nx a v->Mr g s'.heap U Z.nx I Y i v src->Q (some v) s') :
  dk g.m A (pyNext (.ref I)) Q E s:=by
 have w:∀{src:Src},ItR g s.heap U Z.nx I i src->(∀b,Y b<->b=I)->src.at i Z=some it->(∀a v s',ItR g s'.heap U Z.nx I (i+1) src->Go g F X Z U s Z U s'->it=some a->(∀b o,¬Y b->s.heap.get? b=some o->s'.heap.get? b=some o)->VR g s'.heap U Z.nx a v->Q (some v) s') ->
   dk g.m A (pyNext (.ref I)) Q E s:=fun{src} x c q k =>
  DD (F:=F) (X:=X) hh W P (hX I ((c I).mpr rfl)) x q (fun e h' C=>h0 e h' fun b o f e=>C b o (fun z=>f ((c b).mpr z)) e) fun a e v s' G n r h=>k a v s' h G e (fun b o f e=>n b o (fun z=>f ((c b).mpr z)) e) r
 cases src with
 | live k=>exact w x.1 x.2 q fun a v s' h G e n r=>h1 a e v s' G n r ⟨h,x.2⟩
 | seq l=>exact w x.1 x.2 q fun a v s' h G e n r=>h1 a e v s' G n r ⟨h,x.2⟩
 | enm b =>
  cases b with
  | live k =>
   refine qH x fun j N c ne M t K=>?_
   have pI:=P I (.inr (hX _ ((c I).mpr (.inl rfl))))
   have B:=P j (.inr (hX _ ((c j).mpr (.inr rfl))))
   have q:(match (match Z.get k with|some (.lst l)=>some (dG l i)|_=>none) with|some (some x)=>some (some (V.tup [.int i,x]))|r=>r)=some it:=q
   induction J:Z.get k using cN with
   | none=>replace q:=J▸q;exact bj q
   | some ob =>
    replace q:=J▸q
    induction ob using eO with
    | lst l =>
     dsimp only at q
     refine ai (aB W J) fun vs hl r=>?_
     rw[eJ] at q
     have p:=r.length
     replace p:=ir▸p
     have a1:U k≠I:=pI.2.2 k K
     have L:U k≠j:=B.2.2 k K
     induction y:l[i]? using cN with
     | none =>
      replace q:=y▸q;cases q
      have hv:vs[i]?=none:=by
       have:l.length<=i:=by simpa using y
       simp only[Array.getElem?_eq_none_iff];lia
      exact wpAny_pyNext_enum_end hh M t hl.isList hv fun h' C=>h0 rfl h' fun b o f e=>C b o (fun z=>f ((c b).mpr (.inr z))) e
     | some a =>
      replace q:=y▸q;cases q
      refine ai (r.get y) fun v ev rv=>?_
      rw[u3] at ev
      refine wpAny_pyNext_enum_item M t hl.isList ev ne fun h' S u hT hz H=>?_
      have n:∀b o,¬Y b->s.heap.get? b=some o->h'.get? b=some o:=fun b o f e=>H b o (fun z=>f ((c b).mpr (.inl z))) (fun z=>f ((c b).mpr (.inr z))) e
      have G:Go g F X Z U s Z U {s with heap:=h',toks:=s.toks+1}:=.priv W P hX (fun b hb=>by
       rcases(c b).mp hb with rfl|rfl
       ·exact bR S rfl
       ·refine dS u fun o e a2 d=>?_;exact bR e d) n
      exact h1 _ rfl _ _ G n ⟨_,_,rfl,⟨_,_,hT,rfl,rfl⟩,_,_,rfl,⟨_,rfl⟩,_,_,rfl,G.vr rv,rfl⟩ ⟨j,_,_,rfl,c,ne,S,u,K⟩
    | _=>exact bj q
  | _=>exact x.elim
 | zip a b =>
  revert q;refine ItY.zp x fun x q=>?_
  cases q
  refine dS x fun i1 c _ hz=>?_
  exact yX hh hz fun h' k=>h0 rfl h' fun b o f e=>k b o (fun z=>f ((c b).mpr (.inl z))) (fun z=>f ((c b).mpr (.inr z))) e
noncomputable def isMany:Tg->Bool
 | .one _=>false
 | .many _ _ _=>true
noncomputable def nB:Src->Tg->Bool
 | .enm _,tg=>isMany tg
 | _,_=>true
theorem A3 {tg:Tg} {v:bo} {Q:Unit->ce->Prop} (W:R g Z U s.heap) (P:Pv g F X Z U s.heap) (hX:∀b,Y b->X b) (x:Mr g s.heap U Z.nx I Y i v src) (ht:nB src tg=true)
  (h:∀s',Go g F X Z U s Z U s'->(∀b o,¬Y b->s.heap.get? b=some o->s'.heap.get? b=some o)->ItY g s'.heap U Z.nx I Y (i+1) src->Q () s'):dk g.m A (letOwnedTupleGo tg.e (.ref I) v) Q E s:=by
 have r:∀{src:Src},ItR g s.heap U Z.nx I (i+1) src->ItY g s.heap U Z.nx I Y (i+1) src->(ItY g s.heap U Z.nx I Y (i+1) src->Q () s)->dk g.m A (letOwnedTupleGo tg.e (.ref I) v) Q E s:=fun x y q=>y9 x (q y)
 cases src with
 | live k=>have c:ItY g s.heap U Z.nx I Y (i+1) (.live k):=x;exact r c.1 c fun y=>h s (.refl W P) (fun f f f e=>e) y
 | seq l=>have c:ItY g s.heap U Z.nx I Y (i+1) (.seq l):=x;exact r c.1 c fun y=>h s (.refl W P) (fun f f f e=>e) y
 | enm a =>
  cases a with
  | live k =>
   cases tg with
   | one t=>exact aS ht
   | many l w p =>
    refine zX x ?_;clear x;rintro J T L rfl C G M B hk
    refine wpAny_letOwnedTupleGo_enum M fun H j u=>?_
    have n:H.IsListIter J (U k) (i+1):=B.extBut u.extBut (Ne.symm G)
    have w:∀b o,¬Y b->s.heap.get? b=some o->H.get? b=some o:=fun b o nb e=>u.extBut b o (fun z=>nb ((C b).mpr (.inl z))) e
    refine h _ (.priv (t:=s.toks) W P hX (fun b S=>?_) w) w ⟨J,L,C,G,j,n,hk⟩
    rcases(C b).mp S with rfl|rfl
    ·exact bR j rfl
    ·refine dS n fun o e a2 d=>?_;exact bR e d
  | seq _=>exact(show False from x).elim
  | zip _ _=>exact(show False from x).elim
  | enm _=>exact(show False from x).elim
 | zip a b =>
  have c:ItY g s.heap U Z.nx I Y (i+1) (.zip a b):=x
  clear x
  revert ht;refine ItY.zp c fun x ht=>?_
  refine dS x fun K N e a1=>?_
  cases e
theorem Ms {Q:bo->ce->Prop} (x:ItY g s.heap U Z.nx I Y i src) (h:Q (.ref I) s):dk g.m A (pyIter (.ref I)) Q E s:=by
 cases src with
 | live k=>exact wpAny_pyIter_listiter x.1.1 h
 | seq l =>
  rcases x.1 with ⟨a,r,_,_,d⟩|⟨m,a,c,_,d⟩
  ·exact wpAny_pyIter_tupleiter d h
  ·exact wpAny_pyIter_rangeiter d h
 | enm a =>
  cases a with
  | live k=>refine iE x fun q o p n j e=>?_;exact wpAny_pyIter_enum j h
  | _=>exact(show False from x).elim
 | zip a b =>
  refine ItY.zp x fun x=>?_
  refine dS x fun _ _ _ x=>?_;refine hU x fun _ _ _ f _=>?_
  exact wpAny_pyIter_zip f h
def uS (g:Gd) (U:Nat->Addr) (n:Nat) (sc s:ce) (v:bo) (src:Src):Prop:=∀⦃A:ef⦄ ⦃E Q:bo->ce->Prop⦄,
 (∀I Y h' tk,(∀b o,s.heap.get? b=some o->h'.get? b=some o)->(∀b,Y b->sc.heap.get? b=none)->ItY g h' U n I Y 0 src->Q (.ref I) {s with heap:=h',toks:=tk})->dk g.m A (pyIter v) Q E s
theorem za {a:V} {u:bo} {k:Src->Bool} (W:R g Z U s.heap) (r:VR g s.heap U Z.nx a u) (h:ul a Z k=true):∃src,uS g U Z.nx s s u src/\k src=true/\∀tg,nB src tg=true:=by
 refine dS (A0 W r h) fun src i e t=>?_
 have n:∀tg,nB src tg=true:=by cases src<;>first|exact fun f=>rfl|exact(show False from i).elim
 refine⟨src,fun A E Q q=>?_,t,n⟩
 refine xF (l:=none) W i e fun I j m d p c=>q I (·=I) j m d (fun b o=>aa o p) ?_
 cases src with
 | live k=>exact⟨c,fun f=>Iff.rfl⟩
 | seq l=>exact⟨c,fun f=>Iff.rfl⟩
 | enm _=>exact(show False from c).elim
 | zip _ _=>exact(show False from c).elim
theorem lS {i:Int} (h:0<=i/\i<=100000):je.Range.rangeFitsLong i=true:=by
 unfold je.Range.rangeFitsLong
 refine aa (h9 _ _) (aa decide_eq_true_eq (aa decide_eq_true_eq ?_))
 exact Oh (by assumption)
theorem xJ (a n c:Nat):H1 (a:Int) n ((c+1:Nat):Int)=(((n - a+c) / (c+1):Nat):Int):=by
 unfold H1
 refine aa (if_pos (by lia)) ?_
 by_cases h:a<n
 ·refine aa (if_pos (by lia)) ?_
  have e:(n:Int) - a - 1=((n - a - 1:Nat):Int):=Ql h
  refine aa e (bw (Int.natCast_ediv _ _) ?_)
  have b:n - a+c=(n - a - 1)+(c+1):=Qm h
  refine aa b (aa (Nat.add_div_right _ (show 0<c+1 from Nat.succ_pos c)) ?_)
  rfl
 ·refine aa (if_neg (by lia)) ?_
  have e:n - a+c=c:=Qn h
  exact aa e (aa (Nat.div_eq_of_lt (f2 c)) rfl)
theorem A4 {a n c:Nat} (h:n+(a+c)<=4000):je.Range.small (a:Int) n ((c+1:Nat):Int)=true:=by
 unfold je.Range.small
 rw[xJ]
 have b:(n - a+c) / (c+1)<=4000:=hD (Nat.div_le_self _ _) (N2 h)
 generalize (n - a+c) / (c+1)=m at b ⊢
 rewrite[lS (by lia),lS (by lia),lS (by lia),lS (by lia),if_pos (by lia),lS (by lia)]
 simp
theorem uT {a n c:Nat} {t u w':Tok} {r:Addr} (W:R g Z U s.heap) (hz:n+(a+c)<=4000) (hr:IsRange s.heap r a n ((c+1:Nat):Int) t u w'):uS g U Z.nx s s (.ref r) (.seq (gz ((n - a+c) / (c+1)) a ((c+1:Nat):Int))):=by
 intro A E Q q
 have j:=A4 hz
 refine xF (l:=none) (src:=.seq (gz ((n - a+c) / (c+1)) a ((c+1:Nat):Int))) W (.inr ⟨r,a,n,_,t,u,w',_,rfl,rfl,hr,j,xJ a n c⟩) ⟨_,rfl⟩ fun I f i d h e=>q I (·=I) f i d (fun b k=>aa k h) ⟨e,fun m=>Iff.rfl⟩
def uU (g:Gd) (Z:St) (U:Nat->Addr) (s:ce) (k:Src->St->Bool) (b:Bi) (v:bo) (s':ce):Prop:=∃src,(∃h' tk,s'={s with heap:=h',toks:=tk}/\∀b o,s.heap.get? b=some o->h'.get? b=some o)/\uS g U Z.nx s s' v src/\k src Z=true/\(b≠.enumerate->∀tg,nB src tg=true)
theorem Iy (W:R g Z U s.heap) (P:Pv g F X Z U s.heap) {k:Src->St->Bool} {us:List bo} {n:Nat} (r:VRs g s.heap U Z.nx [.int (.ofNat n)] us) (h:af (eL n 4000) (k (.seq (gz n 0 1)) Z) false=true):dk g.m A (f5 (jK .range) us) (uU g Z U s k .range) E s:=by
 refine ak h fun e h=>?_
 have e:=bY e
 refine aA r ?_;clear r;rintro v q rfl d rfl;refine aG d ?_;clear d;rintro t rfl
 refine call_range_1 ?_
 have G:Go g F X Z U s Z U {s with heap:=s.heap.push {cls:=.type "range",data:=.fields #[.int 0 s.toks,.int n t,.int 1 (s.toks+1)]},toks:=s.toks+1+1}:=.grow W P (aF _ _)
 refine⟨_,⟨_,_,rfl,aF _ _⟩,?_,h,fun j j=>rfl⟩
 have:=uT (a:=0) (c:=0) (n:=n) G.r (by lia) (IsRange.new s.heap 0 n 1 s.toks t (s.toks+1))
 replace this:=(show(n - 0+0) / (0+1)=n by simp)▸this
 intro A E Q q
 exact this fun I Y f i p u x=>q I Y f i p (fun b l=>by
  induction z:s.heap.get? b using cN with
  | none=>rfl
  | some o=>have:=u b l;replace this:=aF _ _ _ _ z▸this;exact t9 this) x
theorem Iz (W:R g Z U s.heap) (P:Pv g F X Z U s.heap) {k:Src->St->Bool} {us:List bo} {a n c:Nat} (r:VRs g s.heap U Z.nx [.int (.ofNat a),.int (.ofNat n),.int (.ofNat (c+1))] us) (h:af (eL (jf n (jf a c)) 4000) (k (.seq (gz ((n - a+c) / (c+1)) a (c+1))) Z) false=true):dk g.m A (f5 (jK .range) us) (uU g Z U s k .range) E s:=by
 refine ak h fun f h=>?_
 have f:n+(a+c)<=4000:=bY f
 refine aA r ?_;clear r;rintro K q rfl d e;refine aG d ?_;clear d;rintro j rfl;refine aA e ?_;clear e;rintro H C rfl d e;refine aG d ?_;clear d;rintro i rfl;refine aA e ?_;clear e;rintro B J rfl d rfl;refine aG d ?_;clear d;rintro l rfl
 refine call_range_3 (by simp only[Int.ofNat_eq_natCast];lia) ?_ (.inl (PyProof.noPylong_small (N1 f)))
 have G:Go g F X Z U s Z U {s with heap:=s.heap.push {cls:=.type "range",data:=.fields #[.int (x0 a) j,.int (x0 n) i,.int (x0 (c+1)) l]},toks:=s.toks}:=.grow W P (aF _ _)
 refine⟨_,⟨_,_,rfl,aF _ _⟩,?_,h,fun u u=>rfl⟩
 have:=uT (a:=a) (c:=c) (n:=n) G.r f (IsRange.new s.heap (a:Int) n ((c+1:Nat):Int) j i l)
 intro A E Q q
 exact this fun I Y p t w y x=>q I Y p t w (fun b v=>by
  induction z:s.heap.get? b using cN with
  | none=>rfl
  | some o=>have:=y b v;replace this:=aF _ _ _ _ z▸this;exact t9 this) x
theorem DN (W:R g Z U s.heap) (P:Pv g F X Z U s.heap) {k:Src->St->Bool} {us:List bo} {l:List V} (r:VRs g s.heap U Z.nx l us) (h:F1 l Z k=true):dk g.m A (f5 (jK .zip) us) (uU g Z U s k .zip) E s:=by
 refine pF (l:=l) h ?_;clear h;rintro u v rfl h
 refine aA r ?_;clear r;rintro x q rfl rx c;refine aA c ?_;clear c;rintro y q' rfl M rfl
 refine oO (pN W rx h) fun l1 a o T c=>?_;refine oN c ?_;clear c;rintro G n rfl Y C H L rl c;refine am c fun h j=>?_
 refine fg h ?_;clear h;rintro l2 rfl h
 refine uB h ?_;clear h;rintro rfl h
 refine aA M ?_;clear M;rintro a2 a1 rfl B f;refine aA B fun N n2 p t w=>?_
 have hv:G=#[]:=by
  have:G.toList=[]:=rl
  simpa using this
 subst hv
 have s1:Sq s.heap (.ref a) #[]:=by
  rcases Y with rfl|rfl
  ·exact⟨a,rfl,.inl ⟨o,C,H,n,L⟩⟩
  ·exact⟨a,rfl,.inr ⟨o,C,H,n,L⟩⟩
 refine y0 s1 ⟨N,p,t,n2,w⟩ fun I z K J kp nz ni=>⟨_,⟨I,s.toks,rfl,kp⟩,fun A E Q q=>?_,h,fun d d=>rfl⟩
 refine hU (id J) fun S j a3 i f=>?_
 exact wpAny_pyIter_zip i (q z (fun b=>b=z\/b=K) I s.toks (fun d d e=>e) (fun b hb=>by rcases hb with rfl|rfl<;>assumption) ⟨K,fun d=>Iff.rfl,rfl,J⟩)
theorem DO (W:R g Z U s.heap) (P:Pv g F X Z U s.heap) {k:Src->St->Bool} {us:List bo} {l:List V} (r:VRs g s.heap U Z.nx l us) (h:As l Z k=true):dk g.m A (f5 (jK .enumerate) us) (uU g Z U s k .enumerate) E s:=by
 refine g7 (l:=l) h ?_;clear h;rintro u rfl h
 refine aA r ?_;clear r;rintro x q rfl j rfl
 refine cA h ?_;clear h;rintro i rfl h
 refine fz h fun B y h=>?_
 refine am j ?_;clear j;rintro rfl w
 refine ai (aB W y) fun C o p=>?_
 refine call_enumerate_list o.isList fun c f a z v=>⟨_,⟨c,s.toks,rfl,v⟩,fun A E Q q=>?_,h,fun n=>absurd rfl n⟩
 refine wpAny_pyIter_enum f (q (s.heap.objs.size+1) (fun b=>b=s.heap.objs.size+1\/b=s.heap.objs.size) c s.toks (fun d d e=>e) (fun b t=>by rcases t with rfl|rfl;exact E8 (sr _);exact cn _) ⟨s.heap.objs.size,_,fun d=>Iff.rfl,Nat.succ_ne_self _,f,a,w⟩)
theorem DP {b:Bi} {l:List V} {us:List bo} {k:Src->St->Bool} (W:R g Z U s.heap) (P:Pv g F X Z U s.heap) (r:VRs g s.heap U Z.nx l us) (h:At b l Z k=true) :
  dk g.m A (f5 (jK b) us) (uU g Z U s k b) E s:=by
 cases b with
 | range =>
  refine fR (show xr l Z k=true from h) (fun d h=>?_) (fun d h=>?_)
  ·refine g7 h ?_;clear h;rintro v rfl h
   refine pG h ?_;clear h;rintro n rfl h
   exact Iy W P r h
  ·refine sT h ?_;clear h;rintro a b c rfl h
   refine pG h ?_;clear h;rintro a rfl h
   refine pG h ?_;clear h;rintro b rfl h
   refine pG h ?_;clear h;rintro c rfl h
   refine HJ h ?_;clear h;rintro c rfl h
   exact Iz W P r h
 | zip=>exact DN W P r h
 | enumerate=>exact DO W P r h
 | _=>exact aS h
end
section
variable {prog:KE} {w:World} {A:ef} {R:Result->ce->Prop} {s:ce}
noncomputable def A5 (ifs:List Expr) (env:Env):Sem Bool:=forIn ifs true fun c r=>if r=true then do let ok <-isTrue c env (eval c env);pure (ForInStep.yield ok) else pure (ForInStep.yield r)
theorem tz {elt target iter:Expr} {ifs:List Expr} {scope:Scope} {pos:Pos} {it acc:bo} {env:Env} (I:Nat->ce->Prop)
  (turn:∀n s,I n s->dk (model prog w) A (pyNext it) (fun r s₁=>match r with
   | none=>R (.ok .next) s₁
   | some v=>dk (model prog w) A (letOwnedTupleGo target it v) (fun u_ s₁=>dk (model prog w) A (assign target env v) (fun u_ s₂ =>
     dk (model prog w) A (A5 ifs env) (fun ok s₃ =>
      if ok=true then dk (model prog w) A (eval elt env) (fun x s₄ =>
       dk (model prog w) A (call (.builtin "list.append") [acc,x]) (fun u_ s₅=>∃m,m<n/\I m s₅) (notedBy (model prog w) A env fun e s'=>R (.error e) s') s₄) (notedBy (model prog w) A env fun e s'=>R (.error e) s') s₃
      else ∃m,m<n/\I m s₃) (notedBy (model prog w) A env fun e s'=>R (.error e) s') s₂) (notedBy (model prog w) A env fun e s'=>R (.error e) s') s₁) (notedBy (model prog w) A env fun e s'=>R (.error e) s') s₁) (notedBy (model prog w) A env fun e s'=>R (.error e) s') s)
  (n:Nat) (h:I n s):z9 (model prog w) A (.compLoop (.ListComp elt [⟨target,iter,ifs,0⟩] scope pos) 0 it acc env) R s:=by
 refine codeAny_loop rfl I (fun n s i=>?_) n h
 show dk _ A ((compTurn (.ListComp elt [⟨target,iter,ifs,0⟩] scope pos) 0 it acc env).onRaise (fun x=>do noteFrame x env;theTreesLotGoes x)) _ _ s
 refine wpAny_noted ?_
 rw[compTurn_list]
 refine b9 (io (b9 (dt (turn n s i) (fun r s₁ b=>?_) fun u_ u_ a=>a)))
 induction r using cN with
 | none=>exact ct b
 | some v =>
  refine b9 (dt b (fun u_ s₁ b=>b9 (dt b (fun u_ s₂ g=>b9 (dt g (fun ok s₃ c=>?_) fun u_ u_ a=>a)) fun u_ u_ a=>a)) fun u_ u_ a=>a)
  induction ok using dI with
  | false=>exact ct ⟨rfl,c⟩
  | true=>exact b9 (b9 (dt c (fun x s₄ d=>b9 (dt d (fun u_ s₅ f=>ct (ct ⟨rfl,f⟩)) fun u_ u_ a=>a)) fun u_ u_ a=>a))
theorem lT:∀(l:List Expr) (env:Env),(forIn l false fun c r=>if r=true then do let ok <-isTrue c env (eval c env);pure (ForInStep.yield ok) else pure (ForInStep.yield r):Sem Bool)=pure false
 | [],_=>rfl
 | c::l,env=>by
  rw[tc]
  show(forIn l false _:Sem Bool)=_
  exact lT l env
end
section
variable {g:Gd} {gT:Tx} {sc:Scope} {F X X' F':Addr->Prop} {s s':ce} {U U':Nat->Addr} {Z Z':St}
theorem Go.conv (G:Go g F X Z U s Z' U' s') (W:R g Z U s.heap) (P':Pv g F' X' Z U s.heap) (hF:∀b,F b->F' b\/X' b) (hX:∀b,X b->X' b):Go g F' X' Z U s Z' U' s':=by
 have c:∀b,(F' b\/X' b)->NF s'.heap b/\∀i,i<Z'.nx->U' i≠b:=fun b q=>by
  refine cE (P' b q) fun d B k=>?_;refine ai d fun h e c=>?_
  have j:NF s'.heap b:=by
   by_cases z:X b
   ·exact G.sp.pv b z ⟨h,e,c⟩
   ·rcases G.sp.kp b h e (fun v=>bx v fun i y u z=>k i (aC W u) z.1) z with a|⟨_,m,a⟩
    ·exact⟨h,a,c⟩
    ·exact⟨_,a,fun f=>c f⟩
  refine⟨j,fun i w z=>?_⟩
  by_cases hi':i<Z.nx
  ·replace z:=G.sp.ag i hi'▸z;exact k i hi' z
  ·have:=G.sp.new i (ot hi') w
   replace this:=e▸z▸this;exact t9 this
 refine⟨G.same,⟨G.sp.nx,G.sp.ag,fun b o e p n=>?_,G.sp.new,G.sp.old,G.sp.ex,fun b t A=>(c b (.inr t)).1,G.sp.fx,G.sp.im⟩,G.r,fun b q=>⟨(c b q).1,(P' b q).2.1,(c b q).2⟩,G.l⟩
 rcases G.sp.kp b o e p (fun z=>n (hX b z)) with a|⟨f,m,a⟩
 ·exact .inl a
 ·rcases hF b f with f|x
  ·exact .inr ⟨f,m,a⟩
  ·exact absurd x n
end
section
variable {g:Gd} {gT:Tx} {sc:Scope} {Z:St}
def IA (g:Gd) (gT:Tx) (sc:Scope) (e:X):Prop:=∀{call:Call} {A:ef} {F:Addr->Prop} {env:Env} {cs:List (Nat×Nat)} {vs cv:aO} {Z:St} {k:Bool->St->Bool} {x:KX} {s:ce} {U:Nat->Addr},
 Cx g gT call A F env->R g Z U s.heap->Pv g F aL Z U s.heap->EnvR g env sc Z U s.heap cs cv->dR e call cs vs cv Z (fun v Z=>fB v fun b=>k b Z) x=true ->
  dk g.m A (A5 (bg e) env) (PoB g F aL Z U s k) (PX g F aL Z U s x) s
theorem DQ:IA g gT sc .inil:=by
 intro a A F b c e d Z k x s U C W P E h
 exact ct ⟨Z,U,.refl W P,h⟩
theorem A6 {h t:X} (hh:ST g gT false sc h) (ht:IA g gT sc t):IA g gT sc (.icons h t):=by
 intro a A F u d vs i Z k x s U C W P E j
 have e:(fun(v:V) (Z:St)=>fB v fun b=>af b (dR t a d vs i Z (fun v Z=>fB v fun b=>k b Z) x) ((fun v Z=>fB v fun b=>k b Z) (.bool false) Z))=(fun v Z=>fB v fun b=>af b (dR t a d vs i Z (fun v Z=>fB v fun b=>k b Z) x) (k false Z)):=by
  funext v Z;cases v<;>rfl
 have j:dR h a d vs i Z (fun v Z=>fB v fun b=>af b (dR t a d vs i Z (fun v Z=>fB v fun b=>k b Z) x) (k false Z)) x=true:=by exact bw e j
 show dk _ _ (forIn (aX h::bg t) true _:Sem Bool) _ _ s
 rw[tc]
 refine b9 ?_
 refine aa (if_pos rfl) ?_
 refine b9 (dt (hh (vs:=vs) (k:=fun b Z=>af b (dR t a d vs i Z (fun v Z=>fB v fun b=>k b Z) x) (k false Z)) C W P E j) (fun b n o=>?_) fun f f q=>q)
 obtain⟨m,w,c,l⟩:=o
 induction b using dI with
 | true =>
  refine ct ?_
  exact dt (ht (vs:=vs) C c.r c.p (E.go W P C.fl c) l) (fun f f q=>q.from W c) fun f f q=>q.from W c
 | false =>
  refine ct ?_
  show dk _ _ (forIn (bg t) false _:Sem Bool) _ _ n
  refine aa (lT _ _) ?_
  exact ct ⟨m,w,c,l⟩
def wfC (sc:Scope) (t:Tn):Prop:=gE t.2.1/\t.1=false/\aP sc t.2.1 .local=true
def A7 (sc:Scope):Tg->Prop
 | .one t=>wfC sc t
 | .many l _ _=>∀t∈l,wfC sc t
theorem wfC.t {t:Tn} (h:wfC sc t):ub sc t:=⟨h.1,fun a=>h.2.2,fun e=>by replace e:=h.2.1▸e;exact aS e⟩
theorem p5 {cs:List (Nat×Nat)} {k:aO->St->Bool}:∀{l:List Tn} {vs:List V} {m:aO},(∀t∈l,t.1=false)->cM (Ar l vs m) (fun vs=>k vs Z)=true->zV cs l vs m Z k=true
 | [],vs,m,_,h=>by
  induction vs using fV with
  | nil=>exact h
  | cons _ _=>exact aS h
 | t::l,vs,m,ht,h=>by
  induction vs using fV with
  | nil=>exact aS h
  | cons v r =>
   obtain⟨c,y,p⟩:=t
   have:c=false:=ht _ (.head _)
   subst this
   exact p5 (l:=l) (fun t m=>ht t (.tail _ m)) h
theorem zb {cs:List (Nat×Nat)} {k:aO->St->Bool} {tg:Tg} {v:V} (hw:A7 sc tg) (h:F0 tg v (fun vs=>k vs Z)=true):wE sc tg/\NG cs tg v [] Z k=true:=by
 cases tg with
 | one t =>
  obtain⟨c,y,p⟩:=t
  have:c=false:=hw.2.1
  subst this
  exact⟨hw.t,h⟩
 | many l a p =>
  refine⟨fun t m=>(hw t m).t,?_⟩
  refine fg (v:=v) h ?_;clear h;rintro r rfl h
  exact p5 (fun t m=>(hw t m).2.1) h
end
def tA (ifs:X) (call:Call) (cs:List (Nat×Nat)) (vs:aO) (x:KX):aO->St->(Bool->St->Bool)->Bool:=fun a Z k=>dR ifs call cs vs a Z (fun v Z=>fB v fun b=>k b Z) x
def tB (e:X) (call:Call) (cs:List (Nat×Nat)) (vs:aO) (x:KX):aO->St->K1->Bool:=fun a Z k=>dR e call cs vs a Z k x
section
variable {g:Gd} {gT:Tx} {sc:Scope} {F Y:Addr->Prop} {env cenv:Env} {s s' s₀:ce} {U U' U₀:Nat->Addr} {Z Z' Z₀:St} {A:ef} {cs:List (Nat×Nat)} {vs lv:aO} {I D:Addr} {x:KX} {call:Call} {i:Nat} {src:Src} {t:Nat}
theorem uV {F':Addr->Prop} {fr:Option Addr} (h:Frs A F fr) (hF:∀b,F b->F' b):Frs A F' fr:=⟨h.top,ai h.all fun l e a=>⟨l,e,fun x m=>⟨(a x m).1,ai (a x m).2 fun b c f=>⟨b,c,hF b f⟩⟩⟩⟩
theorem DR (C:Cx g gT call A F env) (hf:cenv.frame=env.frame):Cx g gT call A (FL F cenv.locals) cenv where
 base:=C.base
 hu:=C.hu
 call:=fun a=>C.call fun b h=>a b (.inl h)
 call2:=fun c=>fun a=>C.call2 c fun b h=>a b (.inl h)
 fl:=.inr rfl
 hd:=C.hd
 fr:=ai C.fr fun L e f=>⟨L,hf.trans e,uV f fun d h=>.inl h⟩
def XC (Y:Addr->Prop) (D C:Addr):Addr->Prop:=fun b=>Y b\/b=D\/b=C
structure Cw (g:Gd) (F Y:Addr->Prop) (cenv:Env) (sc:Scope) (Z₀:St) (U₀:Nat->Addr) (s₀:ce) (cs:List (Nat×Nat)) (src:Src) (I D:Addr) (i:Nat) (l:List V) (Z:St) (U:Nat->Addr) (s:ce):Prop where
 go:Go g F (XC Y D cenv.locals) Z₀ U₀ s₀ Z U s
 it:ItY g s.heap U Z.nx I Y i src
 d:∃us,s.heap.PlainList D us/\VRs g s.heap U Z.nx l us.toList/\us.size<=i
 c:EnvS g cenv sc Z U s.heap cs []
structure Cn (F Y:Addr->Prop) (s₀:ce) (D C:Addr):Prop where
 new:∀b,XC Y D C b->s₀.heap.get? b=none/\¬F b
 yd:¬Y D
 yc:¬Y C
 dc:D≠C
def RC (g:Gd) (F:Addr->Prop) (C D:Addr) (Z₀:St) (U₀:Nat->Addr) (s₀:ce) (k:K1) (x:KX):Result->ce->Prop
 | .ok f,s'=>f=.next/\∃Z U l us,Go g F (fun b=>b=D\/b=C) Z₀ U₀ s₀ Z U s'/\s'.heap.PlainList D us/\VRs g s'.heap U Z.nx l us.toList/\(∃m,s'.heap.Ns C m)/\e9 l Z k=true
 | .error e,s'=>(∃fl,PN g F (fun b=>b=D\/b=C) Z₀ U₀ s₀ x fl e s')/\∃m,s'.heap.Ns C m
theorem PN.outer {X X' F':Addr->Prop} {fl e:bo} (W₀:R g Z₀ U₀ s₀.heap) (G:Go g F X' Z₀ U₀ s₀ Z U s) (hF:∀b,F' b->F b\/X' b) (hX:∀b,X b->X' b) (p:PN g F' X Z U s x fl e s'):PN g F X' Z₀ U₀ s₀ x fl e s':=by
 obtain⟨o,y,i,B,a,ex,⟨n,t,E,T,f,l,h,k,j,q,v,m,A,w,C,c⟩,hx⟩:=p
 have d:∀b,s.heap.get? b=none->s₀.heap.get? b=none:=fun b z=>by
  induction u:s₀.heap.get? b using cN with
  | none=>rfl
  | some H=>refine aG (G.sp.ex _ _ u) fun I a=>?_;replace a:=z▸a;exact bj a
 exact⟨o,y,i,G.trans W₀ (B.conv G.r G.p hF hX),a,ex,⟨d _ n,t,E,T,f,l,h,k,j,d _ q,v,m,A,w,C,c⟩,hx⟩
theorem PN.drops {X X':Addr->Prop} {fl e:bo} (p:PN g F X' Z U s x fl e s') (hX:∀b,X' b->X b\/s.heap.get? b=none) (sX:∀b,X b->X' b):PN g F X Z U s x fl e s':=by
 obtain⟨d,a,i,G,r,y,z,w⟩:=p
 exact⟨d,a,i,G.drop (fun c h=>.inl h) hX (fun c h=>h) sX,r,y,z,w⟩
theorem tC {X:Addr->Prop} {L:Addr} {m:Str->Option bo} (G:Go g F X Z U s Z' U' s') (W:R g Z U s.heap) (nd:∀i,i<Z.nx->U i≠L) (nX:¬X L) (N:s.heap.Ns L m):s'.heap.Ns L m:=by
 refine hU N fun c b d h r=>?_
 rcases G.sp.kp L c h (fun f=>bx f fun i j e z=>nd i (aC W e) z.1) nX with a|⟨_,k,a⟩
 ·exact⟨c,b,d,a,r⟩
 ·exact⟨_,b,d,a,r⟩
theorem uW {e:bo} {kk:K1} (C:Cx g gT call A F env) (hf:cenv.frame=env.frame) (N:Cn F Y s₀ D cenv.locals) (W₀:R g Z₀ U₀ s₀.heap) (G:Go g F (XC Y D cenv.locals) Z₀ U₀ s₀ Z U s) {m:Str->Option bo} (hm:s.heap.Ns cenv.locals m)
  (p:PX g (FL F cenv.locals) aL Z U s x e s'):notedBy g.m A cenv (fun e s''=>RC g F cenv.locals D Z₀ U₀ s₀ kk x (.error e) s'') e s':=by
 refine ai C.fr fun L a d=>?_
 refine kc (M:=g.m) G.r (uV d fun c h=>.inl h) (hf.trans a) p fun s'' q=>⟨⟨rawInt L,?_⟩,m,?_⟩
 ·exact(PN.outer W₀ G (fun b h=>h.imp id fun z=>.inr (.inr z)) (fun c h=>h.elim) q).drops (fun b h=>by
   rcases h with h|h|h
   ·exact .inr (N.new b (.inl h)).1
   ·exact .inl (.inl h)
   ·exact .inl (.inr h)) (fun b h=>.inr h)
 ·obtain⟨i,k,j,f,_⟩:=q
  exact tC f G.r (G.p _ (.inr (.inr (.inr rfl)))).2.2 (fun h=>h) hm
theorem Go.ends {X X':Addr->Prop} {h':Heap} {tk:Nat} (W₀:R g Z₀ U₀ s₀.heap) (G:Go g F X' Z₀ U₀ s₀ Z U s) (sX:∀b,X b->X' b) (hX':∀b,X' b->X b\/s₀.heap.get? b=none) (hY:∀b,Y b->X' b/\¬X b/\¬F b/\s₀.heap.get? b=none)
  (k:∀b o,¬Y b->s.heap.get? b=some o->h'.get? b=some o):Go g F X Z₀ U₀ s₀ Z U {s with heap:=h',toks:=tk}:=by
 have P:=G.p
 have x:∀i,i<Z.nx->¬Y (U i):=fun i m z=>(P _ (.inr (hY _ z).1)).2.2 i m rfl
 have J:∀b,Y b->g.B b=none:=fun b z=>(P b (.inr (hY b z).1)).2.1
 have t:∀b o,s₀.heap.get? b=some o->¬Y b:=fun b o e z=>by replace e:=(hY b z).2.2.2▸e;exact bj e
 have a:Later s.heap h':=fun b o e f=>by
  by_cases c:Y b
  ·refine ai ((P b (.inr (hY b c).1)).1) fun j d h=>?_;replace e:=d▸e;cases e;exact absurd f h
  ·exact k b o c e
 refine⟨aa G.same rfl,⟨G.sp.nx,G.sp.ag,fun b o e v K=>?_,G.sp.new,G.sp.old,fun b o e=>?_,fun b c n=>?_,G.sp.fx,G.sp.im⟩,⟨fun b o e=>k b o (fun z=>?_) (G.r.base b o e),G.r.fresh,G.r.inj,fun i m=>?_,fun i o e=>?_⟩,fun b q=>?_,fun b o e f=>a b o (G.l b o e f) f⟩
 ·rcases G.sp.kp b o e v (fun z=>(hX' b z).elim K fun n=>by replace e:=n▸e;exact bj e) with r|⟨f,C,r⟩
  ·exact .inl (k b _ (t b o e) r)
  ·exact .inr ⟨f,C,k b _ (t b o e) r⟩
 ·refine aG (G.sp.ex b o e) fun A H=>?_
  exact⟨A,k b _ (t b o e) H⟩
 ·refine ai (G.sp.pv b (sX b c) n) fun j d h=>?_
  exact⟨j,k b _ (fun z=>(hY b z).2.1 c) d,h⟩
 ·replace e:=J b z▸e;exact bj e
 ·refine aG (G.r.ex i m) fun o e=>?_
  exact⟨o,k _ _ (x i m) e⟩
 ·have w:=aC G.r e
  exact⟨w,(aB G.r e).mono a (fun E E=>rfl) (e5 _) fun o e=>k _ o (x i w) e⟩
 ·refine cE (P b (q.imp id (sX b))) fun u I y=>?_;refine ai u fun j d h=>?_
  exact⟨⟨j,k b _ (fun z=>q.elim (hY b z).2.2.1 (hY b z).2.1) d,h⟩,I,y⟩
theorem EnvS.nil (E:EnvS g env sc Z U s.heap cs lv):EnvS g env sc Z U s.heap cs [] :=
 ⟨⟨E.e.kind,let ⟨m,N,_⟩:=E.e.loc;⟨m,N,fun y v e=>by exact bj e⟩,E.e.cel,E.e.knL,E.e.knC,E.e.knG,E.e.glob,E.e.blt,E.e.cla⟩,fun y v e=>by exact bj e⟩
theorem EnvS.at {h h':Heap} (E:EnvS g env sc Z U h cs []) (k:∀o,h.get? env.locals=some o->h'.get? env.locals=some o):EnvS g env sc Z U h' cs [] :=
 ⟨⟨E.e.kind,aG E.e.loc fun m x=>⟨m,x.1.at' k,fun y v e=>by exact bj e⟩,E.e.cel,E.e.knL,E.e.knC,E.e.knG,E.e.glob,E.e.blt,E.e.cla⟩,fun y v e=>by exact bj e⟩
theorem jQ {h h':Heap} {us:Array bo} (x:h.PlainList D us) (k:∀o,h.get? D=some o->h'.get? D=some o):h'.PlainList D us:=aG x fun n e=>⟨n,k _ e⟩
theorem wG {e ifs:X} {tg:Tg} {iterE:Expr} {pos:Pos} {k0:K1} {n:Nat} {l0:List V} {cv0:aO} (hE:SV g gT false sc e) (hI:IA g gT sc ifs) (ht:A7 sc tg) (ho:nB src tg=true)
  (C:Cx g gT call A F env) (hh:A.handled=none) (CS:pQ g cenv sc) (hf:cenv.frame=env.frame) (N:Cn F Y s₀ D cenv.locals) (W₀:R g Z₀ U₀ s₀.heap)
  (w:Cw g F Y cenv sc Z₀ U₀ s₀ cs src I D i l0 Z U s) (hb:n+i<=4002)
  (h:sP src tg (tA ifs call cs vs x) (tB e call cs vs x) n i Z (fun r Z=>e9 (l0++r) Z k0)=true) :
  z9 g.m A (.compLoop (.ListComp (aX e) [⟨tg.e,iterE,bg ifs,0⟩] sc pos) 0 (.ref I) (.ref D) cenv) (RC g F cenv.locals D Z₀ U₀ s₀ k0 x) s:=by
 have CC:=DR C hf
 obtain⟨J,mk,un⟩:∃J:Nat->ce->Prop,(∀{n s Z U i l0},Cw g F Y cenv sc Z₀ U₀ s₀ cs src I D i l0 Z U s->n+i<=4002->sP src tg (tA ifs call cs vs x) (tB e call cs vs x) n i Z (fun r Z=>e9 (l0++r) Z k0)=true->J n s)/\∀{n s},J n s->∃Z U i l0,Cw g F Y cenv sc Z₀ U₀ s₀ cs src I D i l0 Z U s/\n+i<=4002/\sP src tg (tA ifs call cs vs x) (tB e call cs vs x) n i Z (fun r Z=>e9 (l0++r) Z k0)=true:=⟨fun n s=>∃Z U i l0,Cw g F Y cenv sc Z₀ U₀ s₀ cs src I D i l0 Z U s/\n+i<=4002/\sP src tg (tA ifs call cs vs x) (tB e call cs vs x) n i Z (fun r Z=>e9 (l0++r) Z k0)=true,fun w b h=>⟨_,_,_,_,w,b,h⟩,fun h=>h⟩
 refine tz J ?_ n (mk w hb h)
 clear h w hb;intro n s z;refine vM (un z) ?_;clear z un;intro Z U i l0 w hb h
 induction n using jq with
 | zero=>exact aS h
 | succ n =>
  refine bS (o:=src.at i Z) h fun it q h=>?_
  have S:∀b,Y b->¬F b/\b≠cenv.locals/\b≠D:=fun b hb=>⟨(N.new b (.inl hb)).2,fun z=>N.yc (z▸hb),fun z=>N.yd (z▸hb)⟩
  refine ai w.c.e.loc fun m0 a3 a4=>?_
  refine uR (F:=F) (X:=XC Y D cenv.locals) hh w.go.r w.go.p (fun b hb=>.inl hb) w.it q (fun e h' kk=>?_) fun a e v s1 G1 k1 r1 ad=>?_
  ·subst e
   have h:e9 (l0++[]) Z k0=true:=h
   refine dS w.d fun W dp dv aT=>?_
   have LL:Later s.heap h':=fun b o j f=>by
    by_cases hb':Y b
    ·refine am (w.go.p b (.inr (.inl hb'))) fun a8 aM=>?_;refine ai a8 fun ob eb nf=>?_;replace j:=eb▸j;cases j;exact absurd f nf
    ·exact kk b o hb' j
   refine⟨rfl,Z,U,l0++[],W,Go.ends (Y:=Y) (tk:=s.toks) W₀ w.go (fun b hb=>.inr hb) (fun b hb=>by
     rcases hb with hb|hb|hb
     ·exact .inr (N.new b (.inl hb)).1
     ·exact .inl (.inl hb)
     ·exact .inl (.inr hb)) (fun b hb=>⟨.inl hb,fun z=>z.elim (S b hb).2.2 (S b hb).2.1,(S b hb).1,(N.new b (.inl hb)).1⟩) kk,jQ dp fun o j=>kk D o N.yd j,?_,⟨m0,a3.at' fun o j=>kk _ o N.yc j⟩,h⟩
   refine aa (sz _) ?_
   exact dv.mono LL (fun u_ u_=>rfl) (e5 _)
  ·subst e
   refine am (zb (cs:=cs) (Z:=Z) (k:=fun cv Z=>dR ifs call cs vs cv Z (fun v Z=>fB v fun b=>af b (dR e call cs vs cv Z (fun u Z=>sP src tg (tA ifs call cs vs x) (tB e call cs vs x) n (Nat.succ i) Z fun l Z=>e9 (l0++(u::l)) Z k0) x)
    (sP src tg (tA ifs call cs vs x) (tB e call cs vs x) n (Nat.succ i) Z fun l Z=>e9 (l0++l) Z k0)) x) ht h) ?_
   clear h
   intro wt h
   have G01:=w.go.trans W₀ G1
   refine A3 (F:=F) (X:=XC Y D cenv.locals) G1.r G1.p (fun b hb=>.inl hb) ad ho fun s2 G k2 ar=>?_
   have G02:=G01.trans W₀ G
   have L:∀b o,¬Y b->s.heap.get? b=some o->s2.heap.get? b=some o:=fun b o nb e=>k2 b o nb (k1 b o nb e)
   have as:s2.heap.Ns cenv.locals m0:=a3.at' fun o j=>L _ o N.yc j
   have E2:EnvS g cenv sc Z U s2.heap cs []:=w.c.at fun o j=>L _ o N.yc j
   have PL:∀{Z:St} {U:Nat->Addr} {h:Heap},Pv g F (XC Y D cenv.locals) Z U h->Pv g (FL F cenv.locals) (XL cenv) Z U h:=fun P b q=>P b (by
    rcases q with (q|q)|q
    ·exact .inl q
    ·exact .inr (.inr (.inr q))
    ·exact .inr (.inr (.inr q)))
   have PN0:∀{Z:St} {U:Nat->Addr} {h:Heap},Pv g F (XC Y D cenv.locals) Z U h->Pv g (FL F cenv.locals) aL Z U h:=fun P b q=>PL P b (q.imp id fun z=>z.elim)
   have cF:∀b,FL F cenv.locals b->F b\/XC Y D cenv.locals b:=fun b h=>h.imp id fun z=>.inr (.inr z)
   have zG:∀b,(Y b\/b=D)->¬FL F cenv.locals b:=fun b hb z=>by
    rcases hb with hb|rfl
    ·exact z.elim (S b hb).1 (S b hb).2.1
    ·exact z.elim (N.new _ (.inr (.inl rfl))).2 N.dc
   refine AZ (F:=FL F cenv.locals) hh G.r (PL G.p) E2 CS (.inr rfl) wt ((G.vr r1)) h fun s3 Z3 a1 H E3 h3=>?_
   have G3':=H.conv G.r G.p cF fun b hb=>.inr (.inr hb)
   have B:∀b,(Y b\/b=D)->∀o,s2.heap.get? b=some o->s3.heap.get? b=some o:=fun b hb=>H.keepsAt G.r (G.p b (.inr (hb.imp id .inl))).2.2 (zG b hb) fun z=>by
    rcases hb with hb|rfl
    ·exact(S b hb).2.1 z
    ·exact N.dc z
   have ap:=ar.go H fun b hb=>B b (.inl hb)
   have G03:=G02.trans W₀ G3'
   refine dS w.d fun W dp dv dz=>?_
   have ah:=jQ dp fun o j=>B D (.inr rfl) o (L D o N.yd j)
   have a7:=H.vrs (G.vrs (G1.vrs dv))
   refine ai E3.e.loc fun m3 a9 a4=>?_
   have P3:=PN0 G3'.p
   have ag:dR ifs call cs vs a1 Z3 (fun v Z=>fB v fun b=>(fun b Z=>af b (dR e call cs vs a1 Z (fun u Z=>sP src tg (tA ifs call cs vs x) (tB e call cs vs x) n (Nat.succ i) Z fun l Z=>e9 (l0++(u::l)) Z k0) x)
    (sP src tg (tA ifs call cs vs x) (tB e call cs vs x) n (Nat.succ i) Z fun l Z=>e9 (l0++l) Z k0)) b Z) x=true:=h3
   refine dt (hI (vs:=vs) CC H.r P3 E3.e ag) (fun b s4 z_=>?_) fun e s' p=>uW C hf N W₀ G03 a9 p
   obtain⟨Z4,U4,E,h4⟩:=z_
   have G4':=E.conv H.r G3'.p cF fun b hb=>hb.elim
   have G04:=G03.trans W₀ G4'
   have E4:=E3.go H.r P3 (.inr rfl) (fun z=>z) E
   have t:∀b,(Y b\/b=D)->∀o,s3.heap.get? b=some o->s4.heap.get? b=some o:=fun b hb=>E.keepsAt H.r (G3'.p b (.inr (hb.imp id .inl))).2.2 (zG b hb) fun z=>z
   have a5:=ap.go E fun b hb=>t b (.inl hb)
   have a2:=jQ ah fun o j=>t D (.inr rfl) o j
   have a6:=E.vrs a7
   induction b using dI with
   | false =>
    refine aa (if_neg (by decide)) ?_
    exact⟨n,f2 n,mk (i:=i+1) ⟨G04,a5,⟨W,a2,a6,Nat.le_succ_of_le dz⟩,E4.nil⟩ (by lia) h4⟩
   | true =>
    refine aa (if_pos rfl) ?_
    have P4:=PN0 G4'.p
    refine ai E4.e.loc fun m4 ab a4=>?_
    refine dt (hE (vs:=vs) CC E.r P4 E4.e h4) (fun u K z_=>?_) fun e s' p=>uW C hf N W₀ G04 ab p
    obtain⟨Z5,U5,au,G5,r5,h5⟩:=z_
    have G5':=G5.conv E.r G4'.p cF fun b hb=>hb.elim
    have G05:=G04.trans W₀ G5'
    have E5:=E4.go E.r P4 (.inr rfl) (fun z=>z) G5
    have y:∀b,(Y b\/b=D)->∀o,s4.heap.get? b=some o->K.heap.get? b=some o:=fun b hb=>G5.keepsAt E.r (G4'.p b (.inr (hb.imp id .inl))).2.2 (zG b hb) fun z=>z
    have al:=a5.go G5 fun b hb=>y b (.inl hb)
    refine aG (jQ a2 fun o j=>y D (.inr rfl) o j) ?_;intro nn M
    have ao:=G5.vrs a6
    refine call_meets PySem.F.slot_list_append ⟨_,M,rfl⟩ PySem.F.entry_list_append (PySem.F.args_list_append_2 _ _) (list_append D W nn u (by refine aa sizeLine_eq ?_;lia)) ⟨M,?_⟩
    refine aG (jJ W nn (fun Q=>Q.push u)) fun mm em=>?_
    have e1:(K.heap.update D (jj fun Q=>Q.push u)).get? D=some {cls:=.type "list",data:=.seq (W.push u) mm}:=by
     rw[l5 _ M (aa em rfl),em]
    have kD:∀b o,¬(b=D)->K.heap.get? b=some o->(K.heap.update D (jj fun Q=>Q.push u)).get? b=some o:=fun b o nb e=>(ix _ _ (Ne.symm nb)).trans e
    have G6:Go g F (XC Y D cenv.locals) Z5 U5 K Z5 U5 {K with heap:=K.heap.update D (jj fun Q=>Q.push u),toks:=K.toks} :=
     .priv (Y:=fun b=>b=D) G5.r G5'.p (fun b hb=>.inr (.inl hb)) (fun b hb=>by refine aa hb ?_;exact⟨_,e1,fun f=>by rcases f with ⟨c,_⟩|⟨c,_⟩<;>exact fW (by decide) c⟩) kD
    refine⟨n,f2 n,mk (i:=i+1) (l0:=l0++[au]) ⟨G05.trans W₀ G6,al.go G6 fun b hb o e=>kD b o (S b hb).2.2 e,⟨_,⟨mm,e1⟩,?_,?_⟩,E5.nil.at fun o e=>kD _ o (Ne.symm N.dc) e⟩ (by lia) ?_⟩
    ·exact aa Array.toList_push ((G6.vrs ao).snoc (G6.vr r5))
    ·refine aa (Array.size_push _) ?_;lia
    ·have e2:(fun(l:List V) (Z:St)=>e9 ((l0++[au])++l) Z k0)=fun l Z=>e9 (l0++(au::l)) Z k0:=by
      funext l Z;rw[List.append_assoc];rfl
     exact aa e2 h5
end
theorem tD {env:Env}:∀(names:List (Str×i3)) (acc:List (Str×Addr)),(∀x∈names,x.2=.free->∃a,env.cells.lookup x.1=some a) ->
  ∃cl,(forIn names acc fun(x:Str×i3) (cs:List (Str×Addr))=>if(x.2==i3.free)=true then(do let a <-cellOf env x.1;pure (ForInStep.yield ((x.1,a)::cs))) else pure (ForInStep.yield cs):Sem (List (Str×Addr)))=pure cl /\
   ∀n,((n,i3.free)∈names->cl.lookup n=env.cells.lookup n)/\((n,i3.free)∉names->cl.lookup n=acc.lookup n)
 | [],acc,_=>⟨acc,rfl,fun n=>⟨(fun m=>by cases m),fun p=>rfl⟩⟩
 | (m,k)::r,acc,h=>by
  have c:∀x∈r,x.2=.free->∃a,env.cells.lookup x.1=some a:=fun x j=>h x (.tail _ j)
  by_cases hk:k=.free
  ·subst hk
   refine aG (h (m,.free) (.head _) rfl) fun a d=>?_
   refine ai (tD r ((m,a)::acc) c) fun cl e i=>?_
   refine⟨cl,?_,fun n=>⟨fun b=>?_,fun b=>?_⟩⟩
   ·rw[tc]
    have f:cellOf env m=pure a:=by unfold cellOf;exact aa d rfl
    show((do let a <-cellOf env m;pure (ForInStep.yield ((m,a)::acc))) >>= _)=_
    exact aa f e
   ·by_cases hn:(n,i3.free)∈r
    ·exact(i n).1 hn
    ·refine aa ((i n).2 hn) (aa kV ?_)
     rcases gg.mp b with e|b
     ·cases e;simp[d]
     ·exact absurd b hn
   ·have g:(n,i3.free)∉r:=fun z=>b (.tail _ z)
    have o:n≠m:=fun z=>b (aa z (.head _))
    exact aa ((i n).2 g) (aa kV (aa (beq_eq_false_iff_ne.mpr o) rfl))
  ·refine ai (tD r acc c) fun cl e i=>?_
   refine⟨cl,?_,fun n=>⟨fun b=>?_,fun b=>?_⟩⟩
   ·rw[tc]
    have:(k==i3.free)=false:=by cases k<;>first|rfl|exact absurd rfl hk
    show((if(k==i3.free)=true then _ else pure (ForInStep.yield acc)) >>= _)=_
    exact aa this e
   ·rcases gg.mp b with l|b
    ·cases l;exact absurd rfl hk
    ·exact(i n).1 b
   ·exact(i n).2 fun z=>b (.tail _ z)
structure ScOk (sc s':Scope):Prop where
 kind:s'.kind=.function
 nd:∀x∈s'.names,x.2=.local->s'.names.lookup x.1=some .local
 noc:∀x∈s'.names,x.2≠.cell
 free:∀x∈s'.names,x.2=.free->sc.names.lookup x.1=some .cell
 nmk:∀y,s'.names.lookup (nm y)=some .free->(nm y,i3.free)∈s'.names
theorem lU {env:Env} {x:Str}:∀{names:List (Str×i3)} {k:i3},names.lookup x=some k ->
  (names.map fun(n,k)=>if(k==i3.free&&env.scope.kind==.function&&env.kindOf n==some .cell) then(n,i3.cell) else(n,k)).lookup x=some (if(k==i3.free&&env.scope.kind==.function&&env.kindOf x==some .cell)=true then .cell else k)
 | [],_,h=>by exact bj h
 | (n,k')::r,k,h=>by
  show List.lookup x ((if(k'==i3.free&&env.scope.kind==.function&&env.kindOf n==some .cell)=true then(n,i3.cell) else(n,k'))::_)=_
  induction a:x==n using dI with
  | true =>
   rewrite[kV] at h;replace h:=(a)▸h
   cases h
   have:=beq_iff_eq.mp a
   subst this
   split<;>simp[kV]
  | false =>
   rewrite[kV] at h;replace h:=(a)▸h
   have e:(if(k'==i3.free&&env.scope.kind==.function&&env.kindOf n==some .cell)=true then(n,i3.cell) else(n,k')).1=n:=by split<;>rfl
   refine aa (show(if(k'==i3.free&&env.scope.kind==.function&&env.kindOf n==some .cell)=true then(n,i3.cell) else(n,k'))=(n,(if(k'==i3.free&&env.scope.kind==.function&&env.kindOf n==some .cell)=true then(n,i3.cell) else(n,k')).2) from Prod.ext e rfl) (aa kV (aa a ?_))
   exact lU (names:=r) h
section
variable {g:Gd} {gT:Tx} {sc scC:Scope} {F:Addr->Prop} {env:Env} {s:ce} {U:Nat->Addr} {Z:St} {cs:List (Nat×Nat)} {lv:aO} {h:Heap}
theorem p9 (SO:ScOk sc scC) (E:EnvR g env sc Z U h cs lv):∃cl,closureFor scC env=pure cl/\∀n,(n,i3.free)∈scC.names->cl.lookup n=env.cells.lookup n:=by
 refine ai (tD (env:=env) scC.names [] fun x d c=>(E.cla _ (SO.free x d c)).2) ?_;intro cl e i
 refine⟨cl,?_,fun n a=>(i n).1 a⟩
 unfold closureFor
 refine Eq.trans (b:=Bind.bind _ Pure.pure) ?_ (congrArg (fun z:Sem (List (Str×Addr))=>Bind.bind z Pure.pure) e)
 rfl
theorem A8 {cl:List (Str×Addr)} {C:Addr} {h0:Heap} {m:Str->Option bo} (SO:ScOk sc scC) (hcl:∀n,(n,i3.free)∈scC.names->cl.lookup n=env.cells.lookup n) (E:EnvR g env sc Z U h0 cs lv) (hC:h.Ns C m) :
  EnvS g (compEnvC scC cl C env) scC Z U h cs []/\pQ g (compEnvC scC cl C env) scC:=by
 have az:∀{y:Nat} {k:i3},scC.names.lookup (nm y)=some k->(compEnvC scC cl C env).kindOf (nm y)=some (if(k==i3.free&&env.scope.kind==.function&&env.kindOf (nm y)==some .cell)=true then .cell else k):=fun e=>lU e
 have c:∀{y:Nat},scC.names.lookup (nm y)≠some .cell:=fun e=>SO.noc _ (mem_of_lookup e) rfl
 have j:∀{y:Nat},aP scC y .free=true->(compEnvC scC cl C env).kindOf (nm y)=some .cell/\aP sc y .cell=true:=fun{y} e=>by
  have o:=eg e
  have l:=SO.free _ (SO.nmk y o) rfl
  have q:env.kindOf (nm y)=some .cell:=(E.cla _ l).1
  refine⟨?_,?_⟩
  ·exact aa (az o) (aa q (aa E.kind rfl))
  ·simp only[aP,h9] at e ⊢
   exact⟨⟨⟨by refine aa l ?_;decide,e.1.1.2⟩,e.1.2⟩,e.2⟩
 refine⟨⟨⟨by show scC.kind=_;exact SO.kind,⟨m,hC,fun y v e=>by exact bj e⟩,fun y i d e=>?_,fun y e=>?_,fun y e=>?_,fun y e=>?_,E.glob,E.blt,fun n e=>absurd rfl (SO.noc _ (mem_of_lookup e))⟩,fun y v e=>by exact bj e⟩,fun y e=>absurd (eg e) c⟩
 ·rcases l8.mp d with d|d
  ·exact absurd (eg d) c
  ·refine am (j d) fun p f=>?_
   refine am (E.cel y i (aa f rfl) e) fun a b=>?_
   refine⟨a,?_⟩
   show cl.lookup (nm y)=_
   exact aa (hcl _ (SO.nmk y (eg d))) b
 ·exact aa (az (eg e)) rfl
 ·rcases l8.mp e with e|e
  ·exact absurd (eg e) c
  ·exact .inl (j e).1
 ·exact aa (az (eg e)) rfl
end
section
variable {g:Gd} {gT:Tx} {sc scC:Scope} {F σ σ' Y:Addr->Prop} {env:Env} {s s' s₀:ce} {U U₀:Nat->Addr} {Z Z₀:St} {A:ef} {cs:List (Nat×Nat)} {lv vs:aO} {call:Call} {x:KX} {src:Src} {E:bo->ce->Prop}
theorem jR (W:R g Z U s.heap) {b:Addr} (n:s.heap.get? b=none):g.B b=none/\∀i,i<Z.nx->U i≠b:=by
 refine⟨?_,fun i a z=>?_⟩
 ·induction z:g.B b using cN with
  | none=>rfl
  | some o=>have:=W.base _ _ z;replace this:=n▸this;exact bj this
 ·refine aG (W.ex i a) fun o e=>?_;replace e:=n▸z▸e;exact bj e
theorem qc {e ifs:X} {tg:Tg} {iterE:Expr} {pos:Pos} {k:K1} {v:bo} {cl:List (Str×Addr)} {h':Heap} {tk:Nat} {RR:bo->Addr->Result->ce->Prop} (SO:ScOk sc scC) (hE:SV g gT false scC e) (hI:IA g gT scC ifs) (ht:A7 scC tg) (ho:nB src tg=true)
  (C:Cx g gT call A F env) (hh:A.handled=none) (W:R g Z U s.heap) (P:Pv g F aL Z U s.heap) (EE:EnvR g env sc Z U s.heap cs lv) (hcl:∀n,(n,i3.free)∈scC.names->cl.lookup n=env.cells.lookup n)
  (keep:∀b o,s.heap.get? b=some o->h'.get? b=some o) (so:uS g U Z.nx s {s with heap:=h',toks:=tk} v src)
  (h:xt src tg (tA ifs call cs vs x) (tB e call cs vs x) Z k=true)
  (hR:∀D C' r s'',s.heap.get? D=none->s.heap.get? C'=none->D≠C'->RC g F C' D Z U s k x r s''->RR (.ref D) C' r s'') :
  dk g.m A (pyIter v) (fun it s₂=>dk g.m A (newList []) (fun acc s₃=>dk g.m A (newFunctionEnv scC env.globals cl [] env.qual none .none (some env)) (fun cenv s₄ =>
   z9 g.m A (.compStart (.ListComp (aX e) [⟨tg.e,iterE,bg ifs,0⟩] scC pos) 0 it acc {cenv with scope:=relabel scC env}) (RR acc cenv.locals) s₄) E s₃) E s₂) E {s with heap:=h',toks:=tk}:=by
 refine ak h fun hz h=>?_
 have hz:=bY hz
 refine so fun I Y l S a fY M=>?_
 have a:∀b o,h'.get? b=some o->l.get? b=some o:=a
 refine GX (wpAny_newFunctionEnv SO.noc (by intro y hy;simp at hy) (fun J j d=>?_) SO.kind)
 dsimp only at j d ⊢
 generalize hH2:l.push {cls:=.type "list",dict:=none,data:=.seq ([]:List bo).toArray}=H2 at j d ⊢
 have hC:H2.objs.size=l.objs.size+1:=by exact bw hH2 (aa (I2 _ _) rfl)
 have K:l.objs.size≠H2.objs.size:=by exact aa hC (rd (f2 _))
 have G:∀b o,l.get? b=some o->J.get? b=some o:=fun b o e=>d.extBut b o (aa hC (rd (vb (l4 e)))) (f4 _ (hH2▸f4 _ e))
 have a1:∀b o,s.heap.get? b=some o->J.get? b=some o:=fun b o e=>G b o (a b o (keep b o e))
 have u:J.PlainList l.objs.size #[]:=⟨_,d.extBut _ _ K (f4 _ (hH2▸fI _ rfl))⟩
 have t:∀b,l.objs.size<=b->s.heap.get? b=none:=fun b B=>by
  induction z:s.heap.get? b using cN with
  | none=>rfl
  | some o=>exact absurd (l4 (a b o (keep b o z))) (Nat.not_lt.mpr B)
 have fD:=t l.objs.size (e5 _)
 have fC:=t H2.objs.size (aa hC (sr _))
 have L:ItY g J U Z.nx I Y 0 src:=M.grow G
 have nF:∀b,s.heap.get? b=none->¬F b:=fun b n f=>by refine am (P b (.inl f)) fun H a3=>?_;refine ai H fun o e a2=>?_;replace e:=n▸e;exact bj e
 have p:∀b,XC Y l.objs.size H2.objs.size b->s.heap.get? b=none:=fun b B=>by
  rcases B with B|rfl|rfl
  ·exact fY b B
  ·exact fD
  ·exact fC
 have P1:Pv g F (XC Y l.objs.size H2.objs.size) Z U J:=fun b q=>by
  rcases q with q|q
  ·refine am (P b (.inl q)) fun H y=>?_;refine ai H fun ob e nf=>?_;exact⟨⟨ob,a1 b ob e,nf⟩,y⟩
  ·refine⟨?_,jR W (p b q)⟩
   rcases q with q|rfl|rfl
   ·exact L.nf.1 b q
   ·refine aG u fun n e=>?_
    exact⟨_,e,fun f=>by rcases f with ⟨c,_⟩|⟨c,_⟩<;>exact fW (by decide) c⟩
   ·exact .of_ns j
 have N:Cn F Y s l.objs.size H2.objs.size:=⟨fun b B=>⟨p b B,nF b (p b B)⟩,fun z=>by refine ai (M.nf.1 _ z) fun o e a2=>?_;exact absurd (l4 e) (nY _),fun z=>by
  refine ai (M.nf.1 _ z) fun o e a2=>?_
  have:=l4 e
  replace this:=hC▸this;exact absurd (Nat.lt_of_succ_lt this) (nY _),K⟩
 have Q:=A8 (U:=U) (Z:=Z) SO hcl EE j
 have w:∀s4:ce,s4={s with heap:=J,toks:=S+([]:List (Str×bo)).length} ->
   z9 g.m A (.compLoop (.ListComp (aX e) [⟨tg.e,iterE,bg ifs,0⟩] scC pos) 0 (.ref I) (.ref l.objs.size) (compEnvC scC cl H2.objs.size env)) (RR (.ref l.objs.size) H2.objs.size) s4:=by
  rintro s4 rfl
  have G0:Go g F (XC Y l.objs.size H2.objs.size) Z U s Z U {s with heap:=J,toks:=S+([]:List (Str×bo)).length}:=Go.growP W a1 P1
  exact codeAny_mono (wG (cv0:=[]) (cenv:=compEnvC scC cl H2.objs.size env) (k0:=k) (n:=Nat.succ (src.size Z)) (i:=0) (l0:=[]) hE hI ht ho C hh Q.2 rfl N W ⟨G0,L,⟨_,u,rfl,e5 _⟩,Q.1⟩ (by lia) h) fun r s'' q=>hR _ _ r s'' fD fC K q
 exact codeAny_compStart_list (w _ rfl) (Ms L (w _ rfl))
theorem PN.ends {h':Heap} {tk:Nat} {fl e:bo} (W₀:R g Z₀ U₀ s₀.heap) (p:PN g F σ' Z₀ U₀ s₀ x fl e s) (sX:∀b,σ b->σ' b) (hX':∀b,σ' b->σ b\/s₀.heap.get? b=none) (hY:∀b,Y b->σ' b/\¬σ b/\¬F b/\s₀.heap.get? b=none)
  (nT:∀T oT ts,s.heap.get? T=some oT->oT.data=.fields ts->¬Y T)
  (k:∀b o,¬Y b->s.heap.get? b=some o->h'.get? b=some o):PN g F σ Z₀ U₀ s₀ x fl e {s with heap:=h',toks:=tk}:=by
 obtain⟨q,v,i,G,rfl,j,⟨n,t,y,T,oT,ts,c,d,l,r,u,m,w,f,h,a⟩,hx⟩:=p
 exact⟨q,v,i,Go.ends (tk:=tk) W₀ G sX hX' hY k,rfl,j,⟨n,t,y,T,oT,ts,k _ _ (nT _ _ _ c d) c,d,l,r,u,m,w,k _ _ (nT _ _ _ f h) f,h,a⟩,hx⟩
theorem rp {α:Type} {fl e:bo} {what:String} {Q:α->ce->Prop} (W:R g Z U s.heap) (p:PN g F σ Z U s x fl e s') (cenv:Env):dk g.m A (PySem.passOn what e cenv:Sem α) Q (PX g F σ Z U s x) s':=by
 unfold PySem.passOn
 have a:=p
 obtain⟨k,j,i,G,rfl,⟨c,d,f,h⟩,⟨n,oe,vs,T,oT,ts,a1,a2,a3,a4⟩,hx⟩:=p
 refine b9 (B2 a1 a2 a3 ?_)
 refine aa (if_neg (show ¬(bo.ref T==bo.none)=true from by simp)) ?_
 refine b9 (iB W a _ fun b q=>?_)
 exact wpAny_throw q.px
theorem uX {e:bo} {D C':Addr} {k:K1} (W:R g Z U s.heap) (P:Pv g F aL Z U s.heap) (fD:s.heap.get? D=none) (fC:s.heap.get? C'=none) (dc:D≠C') (q:RC g F C' D Z U s k x (.error e) s') :
  ∃m,s'.heap.Ns C' m/\∀h',Heap.SameBut C' s'.heap h'->∀cenv:Env,cenv.locals=C'->dk g.m A (PySem.passOn "comprehension.variables-let-go" e cenv:Sem bo) (fun u_ u_=>False) (PX g F aL Z U s x) {s' with heap:=h'}:=by
 refine am q ?_;clear q;intro a c;refine aG a ?_;clear a;intro l p;refine aG c ?_;clear c;intro m N
 have C:∀b,s.heap.get? b=none->¬F b:=fun b n f=>by refine am (P b (.inl f)) ?_;intro a j;refine ai a ?_;clear a;intro o e B;replace e:=n▸e;exact bj e
 refine⟨m,N,fun h' t cenv u_=>?_⟩
 have w:=PN.ends (h':=h') (tk:=s'.toks) (σ:=fun b=>b=D) (Y:=fun b=>b=C') W p (fun b h=>.inl h) (fun b h=>h.imp id fun z=>by refine aa z ?_;exact fC) (fun b h=>⟨.inr h,fun z=>dc (z.symm.trans h),C b (h▸fC),h▸fC⟩) (fun T E I e d z=>by
   refine lc N ?_;clear N;intro H G J i v r
   replace e:=i▸z▸e;cases e
   replace d:=v▸d;cases d) fun b o y e=>t.extBut b o y e
 have u:PN g F aL Z U s x l e {s' with heap:=h',toks:=s'.toks}:=w.drops (fun b h=>.inr (h▸fD)) fun u_ h=>h.elim
 exact rp W u cenv
theorem A9 {D C':Addr} {k:K1} {f:Flow} (W:R g Z U s.heap) (P:Pv g F aL Z U s.heap) (fD:s.heap.get? D=none) (fC:s.heap.get? C'=none) (dc:D≠C') (q:RC g F C' D Z U s k x (.ok f) s') :
  ∃m,s'.heap.Ns C' m/\∀h',Heap.SameBut C' s'.heap h'->Po g F aL Z U s k (.ref D) {s' with heap:=h'}:=by
 refine am q ?_;clear q;intro a c;refine GW c ?_;clear c;intro r y l w G M I t u;refine aG t ?_;clear t;intro m N
 have H:∀b,s.heap.get? b=none->¬F b:=fun b n f=>by refine am (P b (.inl f)) ?_;intro a K;refine ai a ?_;clear a;intro o e S;replace e:=n▸e;exact bj e
 refine⟨m,N,fun h' A=>?_⟩
 refine ak u ?_;clear u;intro a u
 have C:=(G.p D (.inr (.inl rfl))).2
 have G1:Go g F (fun b=>b=D) Z U s r y {s' with heap:=h',toks:=s'.toks}:=Go.ends (Y:=fun b=>b=C') (X:=fun b=>b=D) W G (fun b h=>.inl h) (fun b h=>h.imp id fun z=>by refine aa z ?_;exact fC) (fun b h=>⟨.inr h,fun z=>dc (z.symm.trans h),H b (h▸fC),h▸fC⟩) fun b o nb e=>A.extBut b o nb e
 have G2:Go g F aL Z U s r y {s' with heap:=h',toks:=s'.toks}:=G1.drop (fun E h=>.inl h) (fun b h=>.inr (h▸fD)) (fun E h=>h) fun E h=>h.elim
 have j:h'.PlainList D w:=jQ M fun o e=>A.extBut D o dc e
 have L:Later s'.heap h':=fun b o e f=>by
  by_cases hb:b=C'
  ·refine lc N ?_;clear N;intro ob es ep J dd a1
   replace e:=J▸hb▸e;cases e
   rcases f with ⟨_,_,_,d⟩|⟨_,_,d⟩<;>(replace d:=dd▸d)<;>cases d
  ·exact A.extBut b o hb e
 have v:VRs g h' (i6 y r.nx D) (r.nx+1) l w.toList:=I.mono L (fun i Q=>bu Q) (sr _)
 refine aG j ?_;clear j;intro nn B
 exact⟨_,_,.obj r.nx,G2.adopt fD C.2 C.1 ⟨H D fD,fun z=>z⟩ B (o:=.lst l) ⟨w,⟨nn,B⟩,v⟩,⟨by refine aa upd_at ?_;rfl,f2 _⟩,u⟩
end
section
variable {g:Gd} {gT:Tx} {fn:Bool} {sc scC:Scope} {F Y:Addr->Prop} {env:Env} {s s' s'':ce} {U U' U'':Nat->Addr} {Z Z' Z'':St} {A:ef} {cs:List (Nat×Nat)} {lv vs cv:aO} {call:Call} {x:KX}
theorem Ba {as:X} {kl:List V->St->Bool} {pos pos':Pos} {f:bo} {first:List bo} {Q:bo->ce->Prop} (SA:SArgs g gT fn sc as) (C:Cx g gT call A F env) (W:R g Z U s.heap) (P:Pv g F aL Z U s.heap) (E:EnvR g env sc Z U s.heap cs (af fn vs cv))
  (h:dR as call cs vs cv Z (fun v Z=>bL v fun l=>kl l Z) x=true)
  (kp:∀{Z' U' s'},Go g F aL Z U s Z' U' s'->fS g.m f s'.heap)
  (n:∀{Z' U' s' l us},Go g F aL Z U s Z' U' s'->VRs g s'.heap U' Z'.nx l us->kl l Z'=true->dk g.m A (f5 f (first++us)) Q (PX g F aL Z U s x) s') :
  dk g.m A (callWith pos f first (backTo pos' (starEach (bg as) env)) []) Q (PX g F aL Z U s x) s:=by
 refine callWith_of (P:=fS g.m f) (aa (SA.plain pos' env) rfl) (fun h p=>p) ?_
 have a:dk g.m A (spliced (backTo pos' (starEach (bg as) env))) (fun us s'=>fS g.m f s'.heap/\dk g.m A (f5 f (first++us)) Q (PX g F aL Z U s x) s') (PX g F aL Z U s x) s :=
  dt (SA.sl (k:=kl) C W P E h) (fun us s' ⟨Z',U',l,G,r,b⟩=>⟨kp G,n G r b⟩) fun c c q=>q
 rcases SA.shape with e|e
 ·subst e
  have b:kl [] Z=true:=h
  have G:Go g F aL Z U s Z U s:=.refl W P
  exact evalArgs_nil3 ⟨kp G,n (l:=[]) (us:=[]) G rfl b⟩
 ·refine eM (e env) fun t r e=>?_
  rw[e] at a ⊢
  exact evalArgs_plain a
abbrev DI:=Call->List (Nat×Nat)->aO->aO->St->(Src->St->Bool)->KX->Bool
def uY (it:X):DI:=fun c b e d Z k x=>dR it c b e d Z (fun v Z=>ul v Z fun a=>k a Z) x
def Bb (b:Bi) (as:X):DI:=fun c a e d Z k x=>dR as c a e d Z (fun v Z=>bL v fun l=>At b l Z k) x
inductive PoI (g:Gd) (F:Addr->Prop) (Z:St) (U:Nat->Addr) (s:ce) (k:Src->St->Bool) (tg:Tg) (v:bo) (s':ce):Prop
 | mk (Z1:St) (U1:Nat->Addr) (s1:ce) (src:Src) (h':Heap) (tk:Nat) (a1:Go g F aL Z U s Z1 U1 s1) (a2:s'={s1 with heap:=h',toks:=tk}) (a3:(∀b o,s1.heap.get? b=some o->h'.get? b=some o)) (a4:uS g U1 Z1.nx s1 {s1 with heap:=h',toks:=tk} v src) (a5:k src Z1=true) (a6:nB src tg=true)
structure SI (g:Gd) (gT:Tx) (sc:Scope) (iterE:Expr) (d:DI) (tg:Tg):Prop where
 h:∀{call:Call} {A:ef} {F:Addr->Prop} {env:Env} {cs:List (Nat×Nat)} {vs cv:aO} {Z:St} {k:Src->St->Bool} {x:KX} {s:ce} {U:Nat->Addr},
  Cx g gT call A F env->R g Z U s.heap->Pv g F aL Z U s.heap->EnvR g env sc Z U s.heap cs vs->d call cs vs cv Z k x=true->dk g.m A (eval iterE env) (PoI g F Z U s k tg) (PX g F aL Z U s x) s
 fs:∀env x,foldedSetIterable iterE env x=pure x
theorem Bc {it:X} {tg:Tg} (hit:SV g gT true sc it) (fs:∀env x,foldedSetIterable (aX it) env x=pure x):SI g gT sc (aX it) (uY it) tg:=by
 refine⟨?_,fs⟩
 intro j A F env w vs u Z k x s U C W P E h
 refine dt (hit (vs:=vs) C W P E h) (fun v d o=>?_) fun f f q=>q
 obtain⟨i,t,a,l,m,c⟩:=o
 refine dS (za (k:=fun b=>k b i) l.r m c) ?_;clear c;intro b p c n
 exact⟨i,t,d,b,d.heap,d.toks,l,rfl,fun f f e=>e,p,c,n tg⟩
theorem Gb {b:Bi} {as:X} {tg:Tg} {bp ip:Pos} (hk:aP sc (oB b) .globalImplicit=true) (SA:SArgs g gT true sc as) (hm:b≠.enumerate\/isMany tg=true):SI g gT sc (.Call (.Name (nm (oB b)) bp) (bg as) [] ip) (Bb b as) tg:=by
 refine⟨?_,fun d v=>?_⟩
 ·intro f A F d J vs I Z k x s U C W P E h
  rw[arm_eval_Call_Name']
  refine b9 (oE hk C W E ?_)
  refine Ba (vs:=vs) (kl:=fun l Z=>At b l Z k) (first:=[]) SA C W P E h (fun G=>xE) fun{i z n l B} G r hk=>?_
  refine dt (DP (E:=PX g F aL Z U s x) G.r G.p r hk) (fun v H o=>?_) fun w w q=>q
  refine qG o fun a c y hk m=>?_;refine bx c fun u j e t=>?_
  subst e
  refine⟨i,z,n,a,u,j,G,rfl,t,y,hk,?_⟩
  rcases hm with hm|hm
  ·exact m hm tg
  ·cases a<;>first|rfl|exact hm
 ·rfl
structure LcOk (g:Gd) (gT:Tx) (sc scC:Scope) (e ifs:X) (tg:Tg):Prop where
 so:ScOk sc scC
 e:SV g gT false scC e
 i:IA g gT scC ifs
 t:A7 scC tg
 lp:gT.lp=true
def Mt (e:X) (tg:Tg) (d:DI) (ifs:X):D:=fun c f h a Z k x=>d c f h a Z (fun g Z=>xt g tg (fun a Z k=>dR ifs c f h a Z (fun v Z=>fB v fun b=>k b Z) x) (fun a Z k=>dR e c f h a Z k x) Z k) x
theorem Gc {e ifs:X} {tg:Tg} {pos:Pos} {iterE:Expr} {d:DI} (L:LcOk g gT sc scC e ifs tg) (hit:SI g gT sc iterE d tg) {k:K1} (C:Cx g gT call A F env) (W:R g Z U s.heap) (P:Pv g F aL Z U s.heap) (E:EnvR g env sc Z U s.heap cs vs)
  (h:Mt e tg d ifs call cs vs cv Z k x=true):dk g.m A (eval (.ListComp (aX e) [⟨tg.e,iterE,bg ifs,0⟩] scC pos) env) (Po g F aL Z U s k) (PX g F aL Z U s x) s:=by
 rw[PySem.eval_ListComp]
 refine ai (p9 L.so E) fun cl w B=>?_
 refine wpAny_comprehension_free (use:=none) rfl (hit.fs env) w L.so.kind L.so.nd ?_
 refine dt (hit.h C W P E h) (fun v H G=>?_) fun c c q=>q
 obtain⟨Z1,U1,s1,K,j,tk,a,M,I,so,Q,ok⟩:=G
 subst M
 have Y:=E.go W P C.fl a
 refine qc L.so L.e L.i L.t ok C (C.hd L.lp) a.r a.p Y B I so Q fun D C' r S o u n q=>?_
 cases r with
 | ok f =>
  refine ai (A9 a.r a.p o u n q) fun m N z=>?_
  exact⟨m,N,fun j l=>(z j l).from W a⟩
 | error y =>
  refine ai (uX (A:=A) a.r a.p o u n q) fun m N z=>?_
  exact⟨m,N,fun j l b J=>dt (z j l b J) (fun c c f=>f) fun c c q=>q.from W a⟩
theorem IB {e ifs it:X} {tg:Tg} {pos:Pos} (L:LcOk g gT sc scC e ifs tg) (hit:SI g gT sc (aX it) (uY it) tg):SV g gT true sc (.lcm e tg it ifs scC pos):=by
 intro a A F b c vs d Z k x s U C W P E h
 exact Gc (vs:=vs) L hit C W P E h
theorem ID {e ifs as:X} {b:Bi} {tg:Tg} {bp ip pos:Pos} (L:LcOk g gT sc scC e ifs tg) (hit:SI g gT sc (.Call (.Name (nm (oB b)) bp) (bg as) [] ip) (Bb b as) tg):SV g gT true sc (.lcz e tg b as ifs scC bp ip pos):=by
 intro a A F c d vs f Z k x s U C W P E h
 exact Gc (vs:=vs) L hit C W P E h
theorem Go.addX {σ σ':Addr->Prop} (G:Go g F σ Z U s Z' U' s') (hX:∀b,σ' b->σ b\/F b) (sX:∀b,σ b->σ' b):Go g F σ' Z U s Z' U' s' :=
 ⟨G.same,⟨G.sp.nx,G.sp.ag,fun b o e a n=>G.sp.kp b o e a fun z=>n (sX b z),G.sp.new,G.sp.old,G.sp.ex,fun b c n=>(hX b c).elim (fun z=>G.sp.pv b z n) fun z=>(G.p b (.inl z)).1,G.sp.fx,G.sp.im⟩,G.r,fun b q=>q.elim (fun z=>G.p b (.inl z)) fun z=>G.p b ((hX b z).symm),G.l⟩
theorem EnvS.keeps {h h':Heap} (E:EnvS g env sc Z U h cs lv) (L:Later h h') (k:∀o,h.get? env.locals=some o->h'.get? env.locals=some o):EnvS g env sc Z U h' cs lv :=
 ⟨⟨E.e.kind,aG E.e.loc fun m x=>⟨m,x.1.at' k,fun y v a=>aG (x.2 y v a) fun u z=>⟨u,z.1,z.2.mono L (fun b b=>rfl) (e5 _)⟩⟩,E.e.cel,E.e.knL,E.e.knC,E.e.knG,E.e.glob,E.e.blt,E.e.cla⟩,E.ok⟩
def qd (t:Tn) (scC:Scope) (pos p:Pos):Bool:=(t.2.2.line==pos.line)&&!(scC.names.any fun(n,k)=>n==nm t.2.1&&(k==.local||k==.cell))
theorem Ge {e ifs:X} {tg:Tg} {pos p:Pos} {iterE:Expr} {d:DI} {t:Tn} {ch:Call} {kn:KN} {kr:K1} (L:LcOk g gT sc scC e ifs tg) (hit:SI g gT sc iterE d tg) (ht:ub sc t) (tl:t.1=false) (sw:qd t scC pos p=true)
  (C:Cs g gT call ch A F env sc) (W:R g Z U s.heap) (P:Pv g F (XL env) Z U s.heap) (E:EnvS g env sc Z U s.heap cs vs) (h:Mt e tg d ifs call cs vs [] Z (fun v Z=>Ho cs t v vs Z kn) x=true) :
  dk g.m A (exec (.Assign [t.e] (.ListComp (aX e) [⟨tg.e,iterE,bg ifs,0⟩] scC pos) p) env) (PoS g F env sc Z U s cs kn kr) (PX g F (XL env) Z U s x) s:=by
 have kl:=E.e.knL t.2.1 (ht.2.1 tl)
 have a6:swapsWith (.ListComp (aX e) [⟨tg.e,iterE,bg ifs,0⟩] scC pos) (some (.Name (nm t.2.1) t.2.2)) p.line env=pure true:=by
  show(pure (env.blockKind==.function&&env.kindOf (nm t.2.1)==some .local&&t.2.2.line==pos.line&&!(scC.names.any fun(n,k)=>n==nm t.2.1&&(k==.local||k==.cell))):Sem Bool)=_
  have e1:env.blockKind=.function:=by unfold Env.blockKind;exact aa C.k rfl
  refine aa e1 (aa kl ?_)
  simp only[qd] at sw
  have:(ScopeKind.function==ScopeKind.function&&some i3.local==some i3.local)=true:=rfl
  rewrite[this,Bool.true_and,sw];rfl
 show dk _ _ (exec (.Assign [.Name (nm t.2.1) t.2.2] _ p) env) _ _ s
 refine aa (exec_Assign_Name_used _ _ _ _ a6) ?_
 refine b9 (io (b9 ?_))
 show dk _ A (do let _ <-comprehension (.ListComp (aX e) [⟨tg.e,iterE,bg ifs,0⟩] scC pos) scC env _ (newList []) false (eval iterE env) (some (assign t.e env))) _ _ s
 refine ai (p9 L.so E.e) fun cl c1 c2=>?_
 refine b9 (dt (wpAny_comprehension_free (use:=some (assign t.e env)) (E:=PX g F (XL env) Z U s x) (Q:=fun j s'=>PoS g F env sc Z U s cs kn kr .next s') rfl (hit.fs env) c1 L.so.kind L.so.nd ?_) (fun j s' hq=>ct (ct hq)) fun j j e=>e)
 refine uH W P (hit.h C.x W P.noX E.e h) (fun v ab z_=>?_)
 obtain⟨Z1,U1,s1,a7,h',tk,H,e1,kp,so,K,ok⟩:=z_
 subst e1
 have X1:=H.xl W P
 have E1:=E.go W P.noX C.x.fl (fun z=>z) H
 refine qc L.so L.e L.i L.t ok C.x (C.x.hd L.lp) H.r H.p E1.e c2 kp so K fun D B r w fD M dc q=>?_
 cases r with
 | error y =>
  refine ai (uX (A:=A) H.r H.p fD M dc q) fun m N z=>?_
  exact⟨m,N,fun h' sb a2 hc=>dt (z h' sb a2 hc) (fun j j f=>f) fun j j q=>(q.xl X1.r X1.p).from W X1⟩
 | ok f =>
  refine am q fun I a1=>?_;refine GW a1 ?_;clear a1;intro u J l us G dp dv a5 K;refine aG a5 fun m N=>?_
  have nF:∀b,s1.heap.get? b=none->¬F b:=fun b n f=>by refine am (H.p b (.inl f)) fun I a9=>?_;refine ai I fun o e a8=>?_;replace e:=n▸e;exact bj e
  refine ak K fun I K=>?_
  have bD:=(G.p D (.inr (.inl rfl))).2
  have bC:=(G.p B (.inr (.inr rfl))).2
  have G2:Go g F (fun b=>b=B) Z1 U1 s1 u J w:=G.drop (fun j h=>.inl h) (fun b h=>h.elim (fun z=>.inr (z▸fD)) .inl) (fun j h=>h) fun j h=>.inr h
  have a4:VRs g w.heap (i6 J u.nx D) (u.nx+1) l us.toList:=dv.mono (fun j j e j=>e) (fun i hi=>bu hi) (sr _)
  refine aG dp fun nn ed=>?_
  have G3:=G2.adopt fD bD.2 bD.1 ⟨nF D fD,dc⟩ ed (o:=.lst l) ⟨us,⟨nn,ed⟩,a4⟩
  have nL:B≠env.locals:=fun z=>nF B M (z▸C.x.fl)
  have S:Go g F (fun b=>b=B\/XL env b) Z1 U1 s1 (u.new (.lst l)) (i6 J u.nx D) w:=G3.addX (fun b h=>h.imp id fun z=>aa (show b=env.locals from z) C.x.fl) fun b h=>.inl h
  have G5:Go g F aL Z1 U1 s1 (u.new (.lst l)) (i6 J u.nx D) w:=G3.drop (fun j h=>.inl h) (fun b h=>.inr (aa (show b=B from h) M)) (fun j h=>h) fun j h=>h.elim
  have PL:Pv g F (XL env) (u.new (.lst l)) (i6 J u.nx D) w.heap:=fun b q=>S.p b (q.imp id .inr)
  have E2:=E1.go H.r H.p C.x.fl (fun z=>z) G5
  show dk _ A (assign t.e env (.ref D)) _ _ w
  refine tx (k:=kn) G3.r PL E2 C.c C.x.fl ht (a:=.obj u.nx) ⟨aa upd_at rfl,f2 _⟩ K fun s3 Z3 a3 G6 E3 K=>?_
  have dC:∀i,i<(u.new (.lst l)).nx->i6 J u.nx D i≠B:=(S.p B (.inr (.inl rfl))).2.2
  have N3:s3.heap.Ns B m:=tC G6 G3.r dC nL N
  refine⟨m,N3,fun h3 sb=>?_⟩
  have G7:=S.trans H.r (G6.wide (F':=F) (X':=fun b=>b=B\/XL env b) S.r (fun j h=>h) (fun j h=>.inr h) S.p)
  have G8:Go g F (XL env) Z1 U1 s1 Z3 (i6 J u.nx D) {s3 with heap:=h3,toks:=s3.toks}:=Go.ends (Y:=fun b=>b=B) (X:=XL env) H.r G7 (fun b h=>.inr h) (fun b h=>h.elim (fun z=>.inr (z▸M)) .inl) (fun b h=>⟨.inl h,fun z=>nL (h.symm.trans z),nF b (h▸M),h▸M⟩) fun b o nb e=>sb.extBut b o nb e
  have LL:Later s3.heap h3:=fun b o e f=>by
   by_cases hb:b=B
   ·refine lc N3 fun ob es ep eo dd ad=>?_
    replace e:=eo▸hb▸e;cases e
    rcases f with ⟨_,_,_,d⟩|⟨_,_,d⟩<;>(replace d:=dd▸d)<;>cases d
   ·exact sb.extBut b o hb e
  exact⟨Z3,_,a3,X1.trans W G8,E3.keeps LL fun o e=>sb.extBut _ o (Ne.symm nL) e,K⟩
theorem Bd {e ifs it:X} {tg:Tg} {pos p:Pos} {t:Tn} (L:LcOk g gT sc scC e ifs tg) (hit:SI g gT sc (aX it) (uY it) tg) (ht:ub sc t) (tl:t.1=false) (sw:qd t scC pos p=true):SS g gT sc (.asg t (.lcm e tg it ifs scC pos) p):=by
 intro a f A F b c j Z d i x s U C W P E h
 exact Ge L hit ht tl sw C W P E h
theorem Be {e ifs as:X} {b:Bi} {tg:Tg} {bp ip pos p:Pos} {t:Tn} (L:LcOk g gT sc scC e ifs tg) (hit:SI g gT sc (.Call (.Name (nm (oB b)) bp) (bg as) [] ip) (Bb b as) tg) (ht:ub sc t) (tl:t.1=false) (sw:qd t scC pos p=true):SS g gT sc (.asg t (.lcz e tg b as ifs scC bp ip pos) p):=by
 intro a i A F c d k Z f j x s U C W P E h
 exact Ge L hit ht tl sw C W P E h
end
def XW (env:Env) (Y:Addr->Prop):Addr->Prop:=fun b=>XL env b\/Y b
section
variable {g:Gd} {gT:Tx} {sc:Scope} {F Y:Addr->Prop} {env:Env} {s s' s₀:ce} {U U' U₀:Nat->Addr} {Z Z' Z₀:St} {A:ef} {cs:List (Nat×Nat)} {lv:aO} {I:Addr} {x:KX} {call ch:Call}
structure Wk2 (g:Gd) (F Y:Addr->Prop) (env:Env) (sc:Scope) (Z₀:St) (U₀:Nat->Addr) (s₀:ce) (cs:List (Nat×Nat)) (src:Src) (I:Addr) (i:Nat) (Z:St) (U:Nat->Addr) (s:ce) (lv:aO):Prop where
 go:Go g F (XW env Y) Z₀ U₀ s₀ Z U s
 e:EnvS g env sc Z U s.heap cs lv
 it:ItY g s.heap U Z.nx I Y i src
theorem Go.dropY (G:Go g F (XW env Y) Z₀ U₀ s₀ Z U s) (fY:∀b,Y b->s₀.heap.get? b=none):Go g F (XL env) Z₀ U₀ s₀ Z U s :=
 G.drop (fun a h=>.inl h) (fun b h=>h.imp id (fY b)) (fun a h=>h) fun a h=>.inl h
theorem Go.wideY (G:Go g F (XL env) Z U s Z' U' s') (W:R g Z U s.heap) (P:Pv g F (XW env Y) Z U s.heap):Go g F (XW env Y) Z U s Z' U' s':=G.wide W (fun a h=>h) (fun a h=>.inl h) P
theorem wH {t:Tg} {src:Src} {body:Sx} {kn:KN} {kr:K1} {n:Nat} {i:Nat} (hB:wB g gT sc body) (C:Cs g gT call ch A F env sc) (hh:A.handled=none) (ht:wE sc t) (ho:nB src t=true) (W₀:R g Z₀ U₀ s₀.heap) (fY:∀b,Y b->s₀.heap.get? b=none) (nF:∀b,Y b->¬F b)
  (w:Wk2 g F Y env sc Z₀ U₀ s₀ cs src I i Z U s lv) (h:sQ src t cs (fun vs Z kn=>eN body call ch cs vs Z kn kr x) n i lv Z kn=true) :
  z9 g.m A (.forLoop t.e (.ref I) (fm body) [] env) (fun r s'=>match r with|.ok f=>PoS g F env sc Z₀ U₀ s₀ cs kn kr f s'|.error e=>cameBackBy g.m A env (PX g F (XL env) Z₀ U₀ s₀ x) e s') s:=by
 have B:∀b,Y b->b≠env.locals:=fun b d z=>nF b d (z▸C.x.fl)
 obtain⟨J,mk,un⟩:∃J:Nat->ce->Prop,(∀{n s Z U lv i},Wk2 g F Y env sc Z₀ U₀ s₀ cs src I i Z U s lv->sQ src t cs (fun vs Z kn=>eN body call ch cs vs Z kn kr x) n i lv Z kn=true->J n s)/\∀{n s},J n s->∃Z U lv i,Wk2 g F Y env sc Z₀ U₀ s₀ cs src I i Z U s lv/\sQ src t cs (fun vs Z kn=>eN body call ch cs vs Z kn kr x) n i lv Z kn=true:=⟨fun n s=>∃Z U lv i,Wk2 g F Y env sc Z₀ U₀ s₀ cs src I i Z U s lv/\sQ src t cs (fun vs Z kn=>eN body call ch cs vs Z kn kr x) n i lv Z kn=true,fun w h=>⟨_,_,_,_,w,h⟩,fun h=>h⟩
 refine uJ J ?_ n (mk w h)
 clear h w;intro n s z;refine GV (un z) ?_;clear z un;intro Z U lv i w h
 induction n using jq with
 | zero=>exact aS h
 | succ n =>
  have h:cM (src.at i Z) (forTurn (sQ src t cs (fun vs Z kn=>eN body call ch cs vs Z kn kr x) n) t cs (fun vs Z kn=>eN body call ch cs vs Z kn kr x) i lv Z kn)=true:=h
  refine bS h fun it q h=>?_
  have LLof:∀{E:Heap},(∀b o,¬Y b->s.heap.get? b=some o->E.get? b=some o)->Later s.heap E:=fun{E} y b o j f=>by
   by_cases d:Y b
   ·refine ai (w.it.nf.1 b d) fun ob eb nf=>?_;replace j:=eb▸j;cases j;exact absurd f nf
   ·exact y b o d j
  refine uR (F:=F) (X:=XW env Y) hh w.go.r w.go.p (fun b d=>.inr d) w.it q (fun e E y=>?_) fun a e v s1 G1 k1 r1 M=>?_
  ·subst e
   have G:Go g F (XL env) Z₀ U₀ s₀ Z U {s with heap:=E,toks:=s.toks}:=Go.ends (Y:=Y) W₀ w.go (fun u_ z=>.inl z) (fun b z=>z.imp id (fY b)) (fun b d=>⟨.inr d,B b d,nF b d,fY b d⟩) y
   exact ct ⟨Z,U,lv,G,w.e.keeps (LLof y) fun o j=>y _ o (fun z=>B _ z rfl) j,h⟩
  ·subst e
   have h:NG cs t a lv Z (fun vs Z=>eN body call ch cs vs Z (fun vs Z=>sQ src t cs (fun vs Z kn=>eN body call ch cs vs Z kn kr x) n (Nat.succ i) vs Z kn) kr x)=true:=h
   have G01:=w.go.trans W₀ G1
   refine A3 (F:=F) (X:=XW env Y) G1.r G1.p (fun b d=>.inr d) M ho fun N k k2 a1=>?_
   have H:∀b o,¬Y b->s.heap.get? b=some o->N.heap.get? b=some o:=fun b o nb e=>k2 b o nb (k1 b o nb e)
   have G02:=G01.trans W₀ k
   have E2:EnvS g env sc Z U N.heap cs lv:=w.e.keeps (LLof H) fun o j=>H _ o (fun z=>B _ z rfl) j
   have P2:Pv g F (XL env) Z U N.heap:=fun b q=>k.p b (q.imp id .inl)
   refine AZ (F:=F) hh k.r P2 E2 C.c C.x.fl ht (k.vr r1) h fun s3 Z3 a5 u E3 h3=>?_
   have G3w:=u.wideY k.r k.p
   have P:=a1.go u fun b d=>u.keepsAt k.r (k.p b (.inr (.inr d))).2.2 (nF b d) (B b d)
   have G03:=G02.trans W₀ G3w
   refine dt (hB C u.r u.p E3 h3) (fun fl s4 p=>?_) fun e s4 p=>C.x.thru W₀ (?_:PX g F (XL env) Z₀ U₀ s₀ x e s4)
   ·cases fl with
    | next =>
     obtain⟨K,L,a3,l,E4,S⟩:=p
     exact⟨n,f2 n,mk (i:=i+1) ⟨G03.trans W₀ (l.wideY G3w.r G3w.p),E4,P.go l fun b d=>l.keepsAt u.r (G3w.p b (.inr (.inr d))).2.2 (nF b d) (B b d)⟩ S⟩
    | ret v =>
     obtain⟨K,L,a4,l,r4,S⟩:=p
     exact⟨K,L,a4,(G03.trans W₀ (l.wideY G3w.r G3w.p)).dropY fY,r4,S⟩
    | brk=>exact p.elim
    | cont=>exact p.elim
   ·obtain⟨K,L,i4,l,e4,Q,a2,W⟩:=p
    exact⟨K,L,i4,(G03.trans W₀ (l.wideY G3w.r G3w.p)).dropY fY,e4,Q,a2.back G03.sp.ex,W⟩
theorem xK {t:Tg} {body:Sx} {p:Pos} {iterE:Expr} {d:DI} {vs:aO} {kn:KN} {kr:K1} (hlp:gT.lp=true) (hit:SI g gT sc iterE d t) (hB:wB g gT sc body) (ht:wE sc t)
  (C:Cs g gT call ch A F env sc) (W:R g Z U s.heap) (P:Pv g F (XL env) Z U s.heap) (E:EnvS g env sc Z U s.heap cs vs)
  (h:d call cs vs [] Z (fun src Z=>sQ src t cs (fun vs Z kn=>eN body call ch cs vs Z kn kr x) (Nat.succ (src.size Z)) 0 vs Z kn) x=true) :
  dk g.m A (exec (.For t.e iterE (fm body) [] p) env) (PoS g F env sc Z U s cs kn kr) (PX g F (XL env) Z U s x) s:=by
 refine wpAny_For (uH W P (hit.h C.x W P.noX E.e h) fun u Q M=>?_) (hs:=fun v=>hit.fs env v)
 obtain⟨n,B,G,src,h',tk,L,e1,S,so,hk,ok⟩:=M
 subst e1
 have i:=L.xl W P
 have E1:=E.go W P.noX C.x.fl (fun z=>z) L
 refine so fun I Y w K j H l=>?_
 have a:∀b o,G.heap.get? b=some o->w.get? b=some o:=fun b o e=>j b o (S b o e)
 have nF:∀b,Y b->¬F b:=fun b hb f=>by refine am (i.p b (.inl f)) fun c N=>?_;refine ai c fun k e a1=>?_;replace e:=H b hb▸e;exact bj e
 have P2:Pv g F (XW env Y) n B w:=fun b q=>by
  rcases q with q|q|q
  ·refine am (i.p b (.inl q)) fun c y=>?_;refine ai c fun k e nf=>?_;exact⟨⟨k,a b k e,nf⟩,y⟩
  ·refine am (i.p b (.inr q)) fun c y=>?_;refine ai c fun k e nf=>?_;exact⟨⟨k,a b k e,nf⟩,y⟩
  ·exact⟨l.nf.1 b q,jR i.r (H b q)⟩
 have G2:Go g F (XW env Y) n B G n B {G with heap:=w,toks:=K}:=Go.growP i.r a P2
 have E2:EnvS g env sc n B w cs vs:=E1.keeps (.of_keeps a) fun o e=>a _ o e
 refine codeAny_mono (wH (kr:=kr) (x:=x) hB C (C.x.hd hlp) ht ok i.r H nF ⟨G2,E2,l⟩ hk) fun r s3 q=>?_
 cases r with
 | ok f=>exact q.from W i
 | error e=>exact dt q (fun J J q=>q.from W i) fun J J q=>q.from W i
theorem DU {t:Tg} {it:X} {body:Sx} {p:Pos} (hlp:gT.lp=true) (hit:SI g gT sc (aX it) (uY it) t) (hB:wB g gT sc body) (ht:wE sc t):SS g gT sc (.forr t it body p):=by
 intro a e A F b c i Z d f x s U C W P E h
 exact xK hlp hit hB ht C W P E h
theorem DV {t:Tg} {q:Bi} {as:X} {bp ip:Pos} {body:Sx} {p:Pos} (hlp:gT.lp=true) (hit:SI g gT sc (.Call (.Name (nm (oB q)) bp) (bg as) [] ip) (Bb q as) t) (hB:wB g gT sc body) (ht:wE sc t):SS g gT sc (.forz t q as bp ip body p):=by
 intro a e A F b c i Z d f x s U C W P E h
 exact xK hlp hit hB ht C W P E h
end
section
variable {g:Gd} {gT:Tx} {sc:Scope} {F:Addr->Prop} {env:Env} {s s' s₀:ce} {U U' U₀:Nat->Addr} {Z Z' Z₀:St} {A:ef} {cs:List (Nat×Nat)} {lv vs:aO} {x:KX} {call ch:Call}
theorem IE {t:X} {body:Sx} {p:Pos} (ht:ST g gT true sc t) (hB:wB g gT sc body):SS g gT sc (.whl t body p):=by
 intro c y A F f m d Z i B x G U C w P E h
 refine wpAny_While ?_
 obtain⟨J,M,H⟩:∃J:Nat->ce->Prop,(∀{n s j u l},Go g F (XL f) Z U G j u s->EnvS g f sc j u s.heap m l->Aw (fun d Z k=>dR t c m d [] Z (fun v Z=>fB v fun z=>k z Z) x) (fun d Z i=>eN body c y m d Z i B x) n l j i=true->J n s)/\∀{n s},J n s->∃j u l,Go g F (XL f) Z U G j u s/\EnvS g f sc j u s.heap m l/\Aw (fun d Z k=>dR t c m d [] Z (fun v Z=>fB v fun z=>k z Z) x) (fun d Z i=>eN body c y m d Z i B x) n l j i=true:=⟨fun n s=>∃j u l,Go g F (XL f) Z U G j u s/\EnvS g f sc j u s.heap m l/\Aw (fun d Z k=>dR t c m d [] Z (fun v Z=>fB v fun z=>k z Z) x) (fun d Z i=>eN body c y m d Z i B x) n l j i=true,fun a b h=>⟨_,_,_,a,b,h⟩,fun h=>h⟩
 refine codeAny_whileLoop J ?_ 60 (M (.refl w P) E h)
 clear h;intro n s z;refine lc (H z) ?_;clear z H;intro j u l o N h
 induction n using jq with
 | zero=>exact aS h
 | succ n =>
  refine dt (uH o.r o.p (ht (k:=fun z Z=>af z (eN body c y m l Z (fun d Z=>Aw (fun d Z k=>dR t c m d [] Z (fun v Z=>fB v fun z=>k z Z) x) (fun d Z i=>eN body c y m d Z i B x) n d Z i) B x) (i l Z)) C.x o.r o.p.noX N.e h) fun z K q=>q) (fun z K z_=>?_) fun e K p=>C.x.thru w (p.from w o)
  obtain⟨Z2,U2,Q,L⟩:=z_
  have X2:=Q.xl o.r o.p
  have G02:=o.trans w X2
  have I:=N.go o.r o.p.noX C.x.fl (fun z=>z) Q
  induction z using dI with
  | false =>
   refine aa (if_neg (by decide)) ?_
   exact ct ⟨Z2,U2,l,G02,I,L⟩
  | true =>
   refine aa (if_pos rfl) ?_
   refine dt (hB C G02.r G02.p I L) (fun fl S p=>?_) fun e S p=>C.x.thru w (p.from w G02)
   cases fl with
   | next =>
    obtain⟨Z3,U3,W,Y,E3,h3⟩:=p
    exact⟨n,f2 n,M (G02.trans w Y) E3 h3⟩
   | ret v=>exact Po.from w G02 p
   | brk=>exact p.elim
   | cont=>exact p.elim
structure FnEnv (env:Env) (sc:Scope):Prop where
 c:∀y,aP sc y .cell=true->env.kindOf (nm y)=some .cell
 l:∀y,aP sc y .local=true->env.kindOf (nm y)=some .local
 b:env.blockKind=.function
theorem Cs.fe {ch:Call} (C:Cs g gT call ch A F env sc) (E:EnvS g env sc Z U s.heap cs lv):FnEnv env sc:=⟨C.c,E.e.knL,by unfold Env.blockKind;refine aa C.k ?_;rfl⟩
theorem xL {ts:List Tn} {kk:Nat} {tp:Pos} {e:X} {p:Pos} (hlp:gT.lp=true) (he:SV g gT true sc e) (ht:∀t∈ts,ub sc t) (hw:∀env,FnEnv env sc->swapsWithSole [.Tuple (ts.map Tn.e) kk tp] (aX e) p.line env=pure false)
  (hs:∀env,FnEnv env sc->swappedStores [.Tuple (ts.map Tn.e) kk tp] (aX e) env=pure none):SS g gT sc (.asgT ts kk tp e p):=by
 intro i I A F env L K Z o M x s U C W P E h
 have fe:=C.fe E
 show dk _ _ (exec (.Assign [.Tuple (ts.map Tn.e) kk tp] (aX e) p) env) _ _ s
 rewrite[PyProof.Rows.exec_Assign];refine aa (hw env fe) ?_
 refine b9 (io (b9 (ct ?_)))
 refine aa (if_neg (by decide)) ?_
 refine b9 (uH W P (he C.x W P.noX E.e h) fun v H m=>?_)
 obtain⟨G,B,a,j,l,f⟩:=m
 have b:=j.xl W P
 have w:=E.go W P.noX C.x.fl (fun z=>z) j
 refine aa (hs env fe) ?_
 refine b9 (ct ?_)
 have q:assignStores env v none ((assignEach [.Tuple (ts.map Tn.e) kk tp] env).map (·.2))=(do assignAll v [assign (.Tuple (ts.map Tn.e) kk tp) env];pure Flow.next):=rfl
 refine aa q ?_
 refine b9 (AZ (t:=.many ts kk tp) (k:=o) (C.x.hd hlp) b.r b.p w C.c C.x.fl ht l f fun J u d y n f=>ct ⟨u,B,d,b.trans W y,n,f⟩)
theorem lV {α:Type} {y:Nat}:∀(l r:List (Nat×α)),az y (l++r)=(az y l).or (az y r)
 | [],r=>rfl
 | (k,a)::l,r=>by
  refine aa List.cons_append ?_;rewrite[ax,ax];refine aa (lV l r) ?_
  by_cases h:k=y
  ·exact aa (if_pos h) (aa (if_pos h) rfl)
  ·exact aa (if_neg h) (aa (if_neg h) rfl)
theorem uZ {α:Type} {y:Nat}:∀{l:List (Nat×α)},y∉l.map (·.1)->az y l=none
 | [],_=>rfl
 | (k,a)::l,h=>by
  rewrite[ax];refine aa (if_neg (fun e=>h (by refine aa e ?_;exact .head _))) (aa (uZ fun m=>h (.tail _ m)) ?_);rfl
theorem u4 {α:Type} {y:Nat}:∀{l:List (Nat×α)},(l.map (·.1)).Nodup->az y l.reverse=az y l
 | [],_=>rfl
 | (k,a)::l,h=>by
  have b:=rc.mp h
  refine aa kf (aa (lV _ _) (aa (u4 b.2) ?_));rw[ax,ax]
  by_cases e:k=y
  ·subst e;rw[uZ b.1,if_pos rfl,if_pos rfl];rfl
  ·refine aa (if_neg e) (aa (if_neg e) ?_);show(az y l).or none=_;cases az y l<;>rfl
theorem EnvS.look_eq {h:Heap} {lv lv':aO} (E:EnvS g env sc Z U h cs lv) (e:∀y,az y lv'=az y lv):EnvS g env sc Z U h cs lv' :=
 ⟨⟨E.e.kind,ai E.e.loc fun m N b=>⟨m,N,fun y v a=>b y v ((e y).symm.trans a)⟩,E.e.cel,E.e.knL,E.e.knC,E.e.knG,E.e.glob,E.e.blt,E.e.cla⟩,fun y v a=>E.ok y v ((e y).symm.trans a)⟩
theorem xM {k:aO->St->Bool}:∀{ts:List Tn} {l:List V} {lv:aO},(∀t∈ts,t.1=false)->zV cs ts l lv Z k=true->ts.length=l.length/\k (((ts.map (·.2.1)).zip l).reverse++lv) Z=true
 | [],l,lv,_,h=>by refine uB (l:=l) h ?_;clear h;rintro rfl h;exact⟨rfl,h⟩
 | t::ts,[],lv,_,h=>by exact aS h
 | t::ts,a::l,lv,ht,h=>by
  obtain⟨c,y,p⟩:=t
  have:c=false:=ht _ (.head _)
  subst this
  have h:zV cs ts l ((y,a)::lv) Z k=true:=h
  refine am (xM (fun t m=>ht t (.tail _ m)) h) fun e h=>?_
  refine⟨congrArg Nat.succ e,?_⟩
  show k ((((y,a)::(ts.map (·.2.1)).zip l).reverse)++lv) Z=true
  refine aa kf ?_;rw[List.append_assoc]
  exact h
theorem u5 {M:Model} {E':bo->ce->Prop}:∀{ys:List Nat} {l:List V} {us:List bo} {s:ce} {lv:aO} {Q:Unit->ce->Prop},(∀y∈ys,gE y/\aP sc y .local=true)->ys.length=l.length->R g Z U s.heap->Pv g F (XL env) Z U s.heap->EnvS g env sc Z U s.heap cs lv ->
  VRs g s.heap U Z.nx l us->(∀s',Go g F (XL env) Z U s Z U s'->EnvS g env sc Z U s'.heap cs ((ys.zip l).reverse++lv)->Q () s')->dk M A (assignInOrder (ys.map fun y=>bindName env (nm y)) us) Q E' s
 | [],l,us,s,lv,Q,_,hl,W,P,E,r,hq=>by
  induction l using fV with
  | nil=>cases r;exact ct (hq s (.refl W P) E)
  | cons _ _=>cases hl
 | y::ys,l,us,s,lv,Q,hy,hl,W,P,E,r,hq=>by
  induction l using fV with
  | nil=>cases hl
  | cons a l =>
   refine aA r ?_;clear r;rintro v q rfl rv rq
   refine am (hy y (.head _)) fun n kl=>?_
   show dk M A (assignInOrder (bindName env (nm y)::ys.map fun y=>bindName env (nm y)) (v::q)) Q E' s
   refine b9 (gv (wpAny_bindName (jN W P E kl n rv fun s1 G1 E1=>?_)))
   refine u5 (fun y m=>hy y (.tail _ m)) (Nat.succ.inj hl) G1.r G1.p E1 (G1.vrs rq) fun s2 G2 E2=>hq s2 (G1.trans W G2) ?_
   show EnvS g env sc Z U s2.heap cs ((((y,a)::ys.zip l).reverse)++lv)
   refine aa kf ?_;rw[List.append_assoc]
   exact E2
theorem VRs.rev {h:Heap} {n:Nat} {l:List V} {us:List bo} (r:VRs g h U n l us):VRs g h U n l.reverse us.reverse:=by
 induction l generalizing us with
 | nil=>cases r;rfl
 | cons a l c =>
  refine aA r ?_;clear r;rintro v q rfl b d
  refine aa kf (aa kf ?_)
  exact(c d).snoc b
theorem xN {α β:Type}:∀{a:List α} {b:List β},a.length=b.length->a.reverse.zip b.reverse=(a.zip b).reverse
 | [],[],_=>rfl
 | x::a,y::b,h=>by
  have c:=Nat.succ.inj h
  refine aa kf (aa kf (aa (List.zip_append (by refine aa C5 (aa C5 ?_);exact c)) (aa (xN c) ?_)))
  show _=((x,y)::a.zip b).reverse
  refine aa kf ?_
  rfl
 | [],_::_,h=>by cases h
 | _::_,[],h=>by cases h
theorem Bf {ts:List Tn} {kk:Nat} {tp:Pos} {e:X} {p:Pos} (hlp:gT.lp=true) (he:SV g gT true sc e) (ht:∀t∈ts,ub sc t) (tl:∀t∈ts,t.1=false) (nd:(ts.map (·.2.1)).Nodup)
  (hw:∀env,FnEnv env sc->swapsWithSole [.Tuple (ts.map Tn.e) kk tp] (aX e) p.line env=pure false)
  (hs:∀env,FnEnv env sc->swappedStores [.Tuple (ts.map Tn.e) kk tp] (aX e) env=pure (some (ts.map fun t=>nm t.2.1))):SS g gT sc (.asgT ts kk tp e p):=by
 intro L ch A F env cs vs Z kn kr x s U C W P E h
 have fe:=C.fe E
 show dk _ _ (exec (.Assign [.Tuple (ts.map Tn.e) kk tp] (aX e) p) env) _ _ s
 rewrite[PyProof.Rows.exec_Assign];refine aa (hw env fe) ?_
 refine b9 (io (b9 (ct ?_)))
 refine aa (if_neg (by decide)) ?_
 refine b9 (uH W P (he C.x W P.noX E.e h) fun v c Q=>?_)
 obtain⟨j,u,a,M,K,i⟩:=Q
 have f:=M.xl W P
 have E1:=E.go W P.noX C.x.fl (fun z=>z) M
 refine aa (hs env fe) ?_
 refine b9 (ct ?_)
 refine fg i ?_;clear i;rintro l rfl i
 refine aA K ?_;clear K;rintro ad B rfl J r;refine aA J fun o n S hc hd=>?_
 refine am (xM tl i) fun H i=>?_
 unfold assignStores
 refine b9 ?_
 have q:B.length=ts.length:=by exact aa r.length H.symm
 refine wpAny_rule (b9 ?_)
 have e1:(ts.map fun t=>nm t.2.1).length=B.toArray.size:=by exact aa (jb _) (aa oL (aa q rfl))
 refine aa e1 ?_
 refine unpackItems_tuple (items:=B.toArray) (C.x.hd hlp) ⟨o,S,hc,n,hd⟩ fun G he=>?_
 have d:∀b o,c.heap.get? b=some o->G.get? b=some o:=fun b o e=>he b o (fun z=>by replace e:=(z)▸e;rewrite[cn] at e;exact bj e) e
 have w:Go g F (XL env) j u c j u {c with heap:=G,toks:=c.toks}:=.grow f.r f.p d
 have Y:=E1.go f.r f.p.noX C.x.fl (fun z=>z) (.grow (t:=c.toks) f.r f.p.noX d:Go g F aL j u c j u {c with heap:=G,toks:=c.toks})
 have e2:((ts.map fun t=>nm t.2.1).reverse.map fun n=>bindName env n)=((ts.map (·.2.1)).reverse.map fun y=>bindName env (nm y)):=by
  exact bw List.map_reverse (bw List.map_reverse (aa List.map_map (aa List.map_map rfl)))
 refine aa e2 ?_
 refine b9 (u5 (ys:=(ts.map (·.2.1)).reverse) (l:=l.reverse) (fun y m=>?_) (aa C5 (aa C5 (aa (jb _) (aa H rfl)))) w.r w.p Y (w.vrs r).rev fun s3 N E3=>ct ⟨j,u,_,(f.trans W w).trans W N,?_,i⟩)
 ·refine ai (mc.mp (List.mem_reverse.mp m)) fun t I e=>?_
  subst e
  exact⟨(ht t I).1,(ht t I).2.1 (tl t I)⟩
 ·refine E3.look_eq fun y=>?_
  have k:(ts.map (·.2.1)).length=l.length:=by exact aa (jb _) (aa H rfl)
  refine aa (xN k) (aa (List.reverse_reverse _) (aa (lV _ _) (aa (lV _ _) ?_)));rw[u4]
  refine aa (List.map_fst_zip (Nat.le_of_eq k)) ?_
  exact nd
end
section
variable {g:Gd} {gT:Tx} {fn:Bool} {sc:Scope} {F:Addr->Prop} {env:Env} {s s':ce} {U U':Nat->Addr} {Z Z':St} {A:ef} {cs:List (Nat×Nat)} {vs cv:aO} {call:Call} {x:KX}
theorem ERs.merge {h:Heap} {n:Nat} {q:List (Nat×V)} {kvs:List (Str×bo)} {l:List (Nat×V)} {old:List (Str×bo)} (r:ERs g h U n l old) (nd:(old.map (·.1)).Nodup) (e:ERs g h U n q kvs):ERs g h U n (fJ l q) (merged old kvs):=by
 revert l old;refine no_implicit_lambda% (e.ind ?_ ?_)
 ·intro l old r _;exact r
 ·intro p _ _ _ _ c a _ b l old r nd
  exact b (l:=Mine.put p.1 p.2 l) (ERs.put c a r nd) (i8 nd).1
noncomputable def Gf (ps:List (bo×bo)):List bo:=ps.flatMap fun p=>[p.1,p.2]
theorem DW {h:Heap} {n:Nat}:∀{l:List V} {ps:List (bo×bo)} {q:List (Nat×V)},VRs g h U n l (Gf ps)->yD l=some q->∃kvs,Carries (strKind g.prog g.w) ps kvs/\ERs g h U n q kvs:=by
 intro l ps
 induction ps generalizing l with
 | nil =>
  intro q r e
  induction l using fV with
  | nil=>cases e;exact⟨[],trivial,rfl⟩
  | cons a l=>refine eM r ?_;rintro _ _ ⟨z,_⟩;cases z
 | cons p ps v =>
  intro q r e
  induction l using fV with
  | nil=>cases r
  | cons a l =>
   refine aA r fun E i y x r=>?_
   induction l using fV with
   | nil=>cases a<;>exact bj e
   | cons b l =>
    refine aA r fun C m o A B=>?_
    cases y;cases o
    induction a using eV with
    | str c =>
     have e:(match yD l with|some q=>some ((c,b)::q)|none=>none)=some q:=e
     induction d:yD l using cN with
     | none=>replace e:=d▸e;exact bj e
     | some F =>
      replace e:=d▸e;cases e
      refine ai (v B d) fun kvs j k=>?_
      refine bx x fun i t f s=>?_
      obtain⟨u,w⟩:=p
      subst f
      exact⟨(i,w)::kvs,⟨lQ,rfl,j⟩,i,w,kvs,rfl,s,A,k⟩
    | _=>exact bj e
def SP (g:Gd) (gT:Tx) (fn:Bool) (sc:Scope) (e:X):Prop:=((nR e).all (·.isSome)=true/\(nR e).length=(yH e).length)/\∀{call:Call} {A:ef} {F:Addr->Prop} {env:Env} {cs:List (Nat×Nat)} {vs cv:aO} {Z:St} {k:List V->St->Bool} {x:KX} {s:ce} {U:Nat->Addr} {pos:Pos},
 Cx g gT call A F env->R g Z U s.heap->Pv g F aL Z U s.heap->EnvR g env sc Z U s.heap cs (af fn vs cv)->dR e call cs vs cv Z (fun v Z=>bL v fun l=>k l Z) x=true ->
  dk g.m A (evalPairs (pairTrees (nR e) (yH e) env pos)) (fun b a=>∃Z' U' l,Go g F aL Z U s Z' U' a/\VRs g a.heap U' Z'.nx l (Gf b)/\k l Z'=true) (PX g F aL Z U s x) s
theorem IF:SP g gT fn sc .nil:=by
 refine⟨⟨rfl,rfl⟩,?_⟩
 intro a A F c d f e Z k x s U b C W P E h
 exact pairTrees_nil_walk ⟨Z,U,[],.refl W P,rfl,h⟩
theorem DX {a b t:X} (ha:SV g gT fn sc a) (hb:SV g gT fn sc b) (ht:SP g gT fn sc t):SP g gT fn sc (.cons a (.cons b t)):=by
 refine⟨⟨?_,congrArg Nat.succ ht.1.2⟩,?_⟩
 ·show((some (aX a)::nR t).all (·.isSome))=true
  exact aa List.all_cons (aa ht.1.1 rfl)
 intro d A F m G vs cv Z k x s U pos C W P E h
 show dk _ _ (evalPairs (pairTrees (some (aX a)::nR t) (aX b::yH t) m pos)) _ _ s
 refine pairTrees_cons_walk ?_
 refine dt (ha (vs:=vs) (cv:=cv) C W P E h) (fun u Q c=>?_) fun e e q=>q
 obtain⟨M,U1,j,f,y,B⟩:=c
 refine dt (hb (vs:=vs) (cv:=cv) (k:=fun v Z=>dR t d G vs cv Z (fun w Z=>bL w fun l=>(fun w Z=>bL w fun l=>k (j::l) Z) (.tup (v::l)) Z) x) C f.r f.p (E.go W P C.fl f) B) (fun w s2 c=>?_) fun e e q=>q.from W f
 obtain⟨Z2,Y,n,o,J,K⟩:=c
 have G12:=f.trans W o
 refine dt (ht.2 (vs:=vs) (cv:=cv) (k:=fun l Z=>k (j::n::l) Z) (pos:=pos) C G12.r G12.p (E.go W P C.fl G12) K) (fun S N c=>?_) fun e e q=>q.from W G12
 refine lc c ?_;clear c;intro L H l i I z
 exact⟨L,H,j::n::l,G12.trans W i,⟨u,_,rfl,(i.vr (o.vr y)),w,_,rfl,i.vr J,I⟩,z⟩
theorem IG {es:X} {p:Pos} (hs:SP g gT fn sc es) (hn:es=.nil\/(nR es≠[]/\(nR es).length<=15)):SV g gT fn sc (.dct es p):=by
 intro a5 A F a4 cs vs cv Z k x s U C W P E h
 show dk _ _ (eval (.Dict (nR es) (yH es) p) a4) _ _ s
 have v:∀b o,s.heap.get? b=some o->(s.heap.push {cls:=.type "dict",data:=.dict #[]}).get? b=some o:=aF _ _
 have j:Go g F aL Z U s Z U {s with heap:=s.heap.push {cls:=.type "dict",data:=.dict #[]},toks:=s.toks}:=.grow W P v
 have K:=cn s.heap
 have y:=jR W K
 have nF:¬F s.heap.objs.size:=fun f=>by refine am (P _ (.inl f)) fun d M=>?_;refine ai d fun o e a1=>?_;replace e:=K▸e;exact bj e
 have Q:(s.heap.push {cls:=.type "dict",data:=.dict #[]}).get? s.heap.objs.size=some {cls:=.type "dict",data:=.dict #[]}:=fI _ rfl
 have dD:(s.heap.push {cls:=.type "dict",data:=.dict #[]}).DictOf (strKind g.prog g.w) s.heap.objs.size []:=Heap.DictOf.new s.heap
 rcases hn with rfl|⟨n0,nl⟩
 ·refine wpAny_Dict_empty ?_
  have h:ut [] Z k=true:=h
  refine ak h fun d h=>?_
  exact⟨_,_,.obj Z.nx,j.adopt K y.2 y.1 ⟨nF,fun z=>z⟩ Q (o:=.dic []) ⟨[],dD,rfl⟩,⟨aa upd_at rfl,f2 _⟩,h⟩
 ·refine wpAny_Dict_walk (knd:=strKind g.prog g.w) hs.1.1 hs.1.2 n0 nl ?_
  have E0:=E.go W P C.fl j
  refine dt (hs.2 (vs:=vs) (cv:=cv) (k:=fun l Z=>cM (yD l) fun q=>ut (fJ [] q) Z k) (pos:=p) C j.r j.p E0 h) (fun ps u z_=>?_) fun a a q=>q.from W j
  refine lc z_ ?_;clear z_;intro t G l B r1 H
  refine bS H fun q eq H=>?_
  refine ai (DW r1 eq) fun N c1 c2=>?_
  refine ak H fun hz H=>?_
  have L:∀i,i<t.nx->G i≠s.heap.objs.size:=fun i hi z=>by
   by_cases hi':i<Z.nx
   ·replace z:=B.sp.ag i hi'▸z;exact y.2 i hi' z
   ·have:=B.sp.new i (ot hi') hi
    replace this:=Q▸z▸this;exact t9 this
  have I:=B.keepsAt j.r y.2 nF (fun z=>z) _ Q
  have S:u.heap.DictOf (strKind g.prog g.w) s.heap.objs.size []:=dD.at fun o e=>by replace e:=Q▸e;cases e;exact I
  refine⟨N,c1,S,fun J hd sb=>?_⟩
  have kb:∀b o,b≠s.heap.objs.size->u.heap.get? b=some o->J.get? b=some o:=fun b o nb e=>sb.extBut b o nb e
  have G01:=j.trans W B
  refine hU hd fun ob a3 ep eo n=>?_
  have P1:Pv g F (fun b=>b=s.heap.objs.size) t G u.heap:=fun b q=>q.elim (fun f=>B.p b (.inl f)) fun z=>by
   have z:b=s.heap.objs.size:=z
   subst z
   exact⟨⟨_,I,fun f=>by rcases f with ⟨c,_⟩|⟨c,_⟩<;>exact fW (by decide) c⟩,y.1,L⟩
  have a2:NF J s.heap.objs.size:=⟨ob,eo,fun f=>by
   refine am n fun d M=>?_;refine cE d fun c0 M a1=>?_
   rcases f with ⟨c,_⟩|⟨c,_⟩<;>((replace c:=c0▸c);exact fW (by decide) c)⟩
  have G2:Go g F (fun b=>b=s.heap.objs.size) t G u t G {u with heap:=J,toks:=u.toks+ps.length}:=.priv (Y:=fun b=>b=s.heap.objs.size) B.r P1 (fun a h=>h) (fun b hb=>aa (show b=s.heap.objs.size from hb) a2) fun b o nb e=>kb b o nb e
  have P01:Pv g F (fun b=>b=s.heap.objs.size) Z U (s.heap.push {cls:=.type "dict",data:=.dict #[]}):=fun b q=>q.elim (fun f=>j.p b (.inl f)) fun z=>by
   have z:b=s.heap.objs.size:=z
   subst z
   exact⟨⟨_,Q,fun f=>by rcases f with ⟨c,_⟩|⟨c,_⟩<;>exact fW (by decide) c⟩,y⟩
  have G0':Go g F (fun b=>b=s.heap.objs.size) Z U s Z U {s with heap:=s.heap.push {cls:=.type "dict",data:=.dict #[]},toks:=s.toks}:=.growP W v P01
  have G3:=(G0'.trans W (B.wide (F':=F) (X':=fun b=>b=s.heap.objs.size) j.r (fun a h=>h) (fun a h=>h.elim) P01)).trans W G2
  have G4:Go g F aL Z U s t G {u with heap:=J,toks:=u.toks+ps.length}:=G3.drop (fun a h=>.inl h) (fun b h=>.inr (aa (show b=s.heap.objs.size from h) K)) (fun a h=>h) fun a h=>h.elim
  have m:ERs g J (i6 G t.nx s.heap.objs.size) (t.nx+1) (fJ [] q) (merged [] N) :=
   ERs.merge (l:=[]) (old:=[]) rfl (by simp) ((c2.mono G2.l (fun a a=>rfl) (e5 _)).mono (fun a a e a=>e) (fun i hi=>bu hi) (sr _))
  exact⟨_,_,.obj t.nx,G4.adopt K L y.1 ⟨nF,fun z=>z⟩ eo (o:=.dic (fJ [] q)) ⟨_,⟨ob,a3,ep,eo,n⟩,m⟩,⟨aa upd_at rfl,f2 _⟩,H⟩
end
section
variable {prog:KE} {w:World} {A:ef} {E:bo->ce->Prop} {h:Heap} {g:Array GenState} {d:Drawn} {t:Nat} {os:OsState}
variable {nm q:Str} {C N:Addr} {bs bm Pa:List bo} {hdct:Bool} {sn:List Str} {sub:List bo} {ab:Bool} {col:Option Bool} {dd:Option Addr} {k0 k1 k2 k3 k5:Option bo} {B Bn newId nid initId q6:String} {bmN:List bo}
noncomputable abbrev g8 (C T:Addr):Obj:={cls:=.ref C,data:=.fields #[.ref T,.none,.none,.none,.bool false,.none]}
structure ExcIn (Bn:String) (C:Addr) (bm:List bo):Prop where
 base:(bo.ref C::bm).contains (.type Bn)=true
 attr:(bo.ref C::bm).contains (.type "AttributeError")=false
 name:(bo.ref C::bm).contains (.type "NameError")=false
 top:(bo.ref C::bm).contains (.type "BaseException")=true
theorem qT {M:Model} (Fn:ExcBaseFacts Bn newId q6 bmN) (I:ExcIn Bn C bm) {rest:List bo} {Q:Unit->ce->Prop} (hC:h.get? C=some (excClassObj nm q C N bs bm hdct sn sub ab col dd k0 k1 k2 k3 k5 newId))
  (hq:Q () ⟨h,g,d,t,os⟩):dk M A (checkBuiltinCall newId ⟨.ref C::rest,[]⟩) Q E ⟨h,g,d,t,os⟩:=by
 exact wpAny_check_new_subU Fn (by have:=I.base;rw[List.contains_cons] at this;exact this) .base hC hq
theorem DY (Fn:ExcBaseFacts Bn newId q6 bmN) (I:ExcIn Bn C bm) {rest:List bo} {R:Result->ce->Prop} (hC:h.get? C=some (excClassObj nm q C N bs bm hdct sn sub ab col dd k0 k1 k2 k3 k5 newId))
  (hrest:rest.length<=sizeLine) (hq:R (.ok (.ret (.ref (h.objs.size+1)))) ⟨(h.push {cls:=.type "tuple",data:=.seq rest.toArray}).push (g8 C h.objs.size),g,d,t,os⟩) :
  z9 (model prog w) A (.builtin newId ⟨.ref C::rest,[]⟩) R ⟨h,g,d,t,os⟩:=by
 have f:=Fn.ends
 have b:=I.base
 have e:=I.attr
 have c:=I.name
 refine codeAny_builtinAt Fn.entry ?_
 unfold je.«BaseException.__new__»
 refine PySem.wpAt_bind ?_
 show PySem.wpAt _ _ _ (stack >>= _) _ _ _
 refine PySem.wpAt_bind (PySem.wpAt_stack fun p a=>PySem.wpAt_of_wpAny ?_)
 wp_walk
 refine PySem.wpAt_of_wpAny ?_
 refine Mine.aa Fn.owner ?_
 repeat (first|with_reducible refine wpAny_madeHere_exc Fn.canon hC ?_|with_reducible refine H4 hC ?_|(with_reducible refine wpAny_isSubtype_exc hC ?_;first|rewrite[b]|rewrite[e]|rewrite[c])|wp_step)
 show R _ _
 refine Mine.aa (I2 _ _) ?_
 exact hq
theorem tE {init:bo} (Fn:ExcBaseFacts Bn newId q6 bmN) (I:ExcIn Bn C bm) {rest:List bo} {R:Result->ce->Prop}
  (hC:h.get? C=some (excClassObj nm q C N bs bm hdct sn sub ab col dd k0 k1 k2 k3 k5 newId)) (hi:Looks (model prog w) h (typeLookup (.ref C) "__init__") (some init))
  (hb:∀self,Looks (model prog w) h (bindSpecial init self) (init,[self])) (hrest:rest.length<=sizeLine)
  (hq:z9 (model prog w) (A.under (.builtin "type.__call__" ⟨.ref C::rest,[]⟩)) (.call init ⟨.ref (h.objs.size+1)::rest,[]⟩) (InitBack (h.objs.size+1) R) ⟨(h.push {cls:=.type "tuple",data:=.seq rest.toArray}).push (g8 C h.objs.size),g,d,t,os⟩) :
  z9 (model prog w) A (.call (.ref C) ⟨rest,[]⟩) R ⟨h,g,d,t,os⟩:=by
 have l:=tc_lookup
 have j:=tc_bind (.ref C)
 have m:(⟨h,g,d,t,os⟩:ce).TypeIs (.ref C) "type":=⟨_,hC,rfl⟩
 refine codeAny_of_tree ?_
 show dk _ _ (callAny (.ref C) _) _ _ _
 repeat (any_goals (first|assumption|with_reducible refine H4 hC ?_|wp_step))
 refine⟨rfl,?_⟩
 refine codeAny_call_builtin_at (Code.quiet_builtin _ (by decide +kernel)) entry_typeCall (wpAny_check_type_call_sub hC ?_)
 unfold je.«type.__call__»
 repeat (first|with_reducible refine H4 hC ?_|with_reducible refine wpAny_madeBy_exc hC ?_|wp_step)
 refine codeAny_call_builtin_code (Code.quiet_builtin _ Fn.quiet) (qT Fn I hC ?_)
 refine DY Fn I hC hrest ?_
 show dk _ _ _ _ _ _
 have k:∀b o,h.get? b=some o->((h.push {cls:=.type "tuple",data:=.seq rest.toArray}).push (g8 C h.objs.size)).get? b=some o:=fun b o e=>f4 _ (f4 _ e)
 have c:=k _ _ hC
 have a:((h.push {cls:=.type "tuple",data:=.seq rest.toArray}).push (g8 C h.objs.size)).get? (h.objs.size+1)=some (g8 C h.objs.size):=by heap_get
 have f:(bo.ref C::bm).contains (.ref C)=true:=by simp
 have i:Looks (model prog w) ((h.push {cls:=.type "tuple",data:=.seq rest.toArray}).push (g8 C h.objs.size)) (typeOf (.ref (h.objs.size+1))) (.ref C):=(Looks.ld a).andThen .now
 have p:=hi.keeps k
 have n:=(hb (.ref (h.objs.size+1))).keeps k
 unfold isInstance callSpecial? specialOf
 refine b9 (b9 (i.at ?_))
 refine wpAny_isSubtype_exc c ?_
 refine Mine.aa f ?_
 repeat (first|with_reducible refine wpAny_call ?_|lk)
 refine codeAny_mono hq fun r s z=>?_
 rcases r with e|(v|_|_|_)<;>first|exact z|exact z.elim|skip
 refine Mine.am z ?_;clear z;rintro rfl z
 exact ct (ct z)
end
inductive ExcO (C:Addr) (o:Obj):Prop
 | mk (nm q:Str) (N:Addr) (bs bm:List bo) (hdct:Bool) (sn:List Str) (sub:List bo) (ab:Bool) (col:Option Bool) (dd:Option Addr) (k0 k1 k2 k3 k5:Option bo) (e:o=excClassObj nm q C N bs bm hdct sn sub ab col dd k0 k1 k2 k3 k5 "Exception.__new__") (I:ExcIn "Exception" C bm)
structure ExcCls (g:Gd) (K:Frag):Prop where
 cls:∀c,jG c=true->∃o,g.B (g.ca c)=some o/\ExcO (g.ca c) o
 fn:∀c i,jG c=true->az aH (kt c)=some i->findIn K (.ref (g.ca c)) "__init__"=some (some (.ref (g.fa i)))/\typeIn K (.ref (g.fa i))=some (.type "function")
section
variable {g:Gd} {gT:Tx} {F X:Addr->Prop} {s s1:ce} {U U1:Nat->Addr} {Z Z1:St} {A:ef} {k:K1} {x:KX} {call ch:Call} {K:Frag} {aT:List Nat}
theorem DZ {n c i:Nat} {l:List V} {us:List bo} (KO:ClsOk g K aT) (EO:ExcCls g K) (hc:jG c=true) (AO:AOk A F (n+1)) (W:R g Z U s.heap) (P:Pv g F aL Z U s.heap) (r:VRs g s.heap U Z.nx l us) (hm:az aH (kt c)=some i)
  (run:∀{A':ef} {Z':St} {U':Nat->Addr} {s':ce} {l':List V} {us':List bo} {k':K1},AOq A' F n->A'.handled=A.handled->R g Z' U' s'.heap->Pv g F aL Z' U' s'.heap->VRs g s'.heap U' Z'.nx l' us'->mO call ch i l' Z' k' x=true->z9 g.m A' (.call (.ref (g.fa i)) ⟨us',[]⟩) (pV g F Z' U' s' k' x) s')
  (h:Me call ch c i l Z k x=true):z9 g.m A (.call (.ref (g.ca c)) ⟨us,[]⟩) (pV g F Z U s k x) s:=by
 refine ak (b:=ua l) h fun H h=>?_
 have H:=fA H
 have h:mO call ch i (.obj Z.nx::l) (Z.new (.exn (jf c 300) Z.nx)) (fun v Z'=>fO v (k (.obj Z.nx) Z')) x=true:=h
 refine am (EO.fn c i hc hm) fun S m2=>?_
 refine ai (EO.cls c hc) fun oC hB C=>?_
 obtain⟨nm,q,N,bs,bm,M,sn,Q,ab,a2,dd,k0,k1,k2,k3,k5,C,I⟩:=C
 replace hB:=C▸hB
 have L:=KO.hK _ W.base
 have hC:=W.base _ _ hB
 obtain⟨j,w,d,t,u⟩:=s
 refine tE PySem.F.excBase_Exception I hC (looks_findIn L S) (fun y=>bind_fn L y m2) (aa r.length (dw H)) ?_
 have J:Go g F aL Z U ⟨j,w,d,t,u⟩ Z U ⟨j.push {cls:=.type "tuple",data:=.seq us.toArray},w,d,t,u⟩:=.grow (s:=⟨j,w,d,t,u⟩) (t:=t) W P (aF _ _)
 have Y:(j.push {cls:=.type "tuple",data:=.seq us.toArray}).objs.size=j.objs.size+1:=I2 ..
 have a1:c<=2:=bY hc
 have E:Go g F aL Z U ⟨j.push {cls:=.type "tuple",data:=.seq us.toArray},w,d,t,u⟩ (Z.new (.exn (jf c 300) Z.nx)) (i6 U Z.nx (j.objs.size+1)) ⟨(j.push {cls:=.type "tuple",data:=.seq us.toArray}).push (g8 (g.ca c) j.objs.size),w,d,t,u⟩:=by
  have:=Go.push (s:=⟨j.push {cls:=.type "tuple",data:=.seq us.toArray},w,d,t,u⟩) (t:=t) J.r J.p (g8 (g.ca c) j.objs.size) (o:=.exn (jf c 300) Z.nx) ⟨⟨_,_,fI _ rfl,by
   have:(jf c 300)%100=c:=F4 (p0 (bY hc) (by decide))
   refine aa this ?_;rfl,rfl,by simp,aa (if_neg (ji (hD (by decide) (Nat.le_add_left 300 c)))) rfl,fun u_=>rfl,by simp,fun u_=>rfl⟩,f2 _,hD (Nat.le_of_eq (F4 (p0 (bY hc) (by decide)))) (bY hc)⟩ rfl
  replace this:=Y▸this
  exact this
 have G:=J.trans W E
 have rl:VRs g ((j.push {cls:=.type "tuple",data:=.seq us.toArray}).push (g8 (g.ca c) j.objs.size)) (i6 U Z.nx (j.objs.size+1)) (Z.new (.exn (jf c 300) Z.nx)).nx (.obj Z.nx::l) (.ref (j.objs.size+1)::us) :=
  ⟨_,_,rfl,⟨congrArg bo.ref upd_at.symm,f2 _⟩,G.vrs r⟩
 refine codeAny_mono (run (Z':=Z.new (.exn (jf c 300) Z.nx)) (s':=⟨(j.push {cls:=.type "tuple",data:=.seq us.toArray}).push (g8 (g.ca c) j.objs.size),w,d,t,u⟩) (pZ AO) jP E.r E.p rl h) fun r s' q=>?_
 cases r with
 | error e=>exact PX.from W G q
 | ok f =>
  cases f with
  | ret v =>
   obtain⟨Z',U',a,B,ra,z⟩:=q
   refine f7 z ?_;clear z;rintro rfl z
   cases ra
   refine⟨rfl,Z',U',.obj Z.nx,G.trans W B,⟨?_,f3 (f2 _) B.sp.nx⟩,z⟩
   refine aa (B.sp.ag _ (f2 _)) ?_
   exact congrArg bo.ref upd_at.symm
  | _=>exact q.elim
end
noncomputable def tF:List bo:=[.type "Exception",.type "BaseException",.type "object"]
def Gg (v:bo):Bool:=bo.casesOn v false false false ac aJ aJ aJ aJ ac ac ge
def fK (l:List bo):Bool:=@List.rec bo (fun c=>Bool) false (fun a r b=>(Gg a&&b)||((a::r)==tF)) l
theorem rt {a:bo} {r:List bo} {G:Prop} (e:fK (a::r)=true) (K:a::r=tF->G) (L:∀c,a=.ref c->fK r=true->G):G:=by
 rcases l8.mp (show((Gg a&&fK r)||((a::r)==tF))=true from e) with h|h
 ·have h:=kF.mp h
  cases a<;>first|exact L _ rfl h.2|cases h.1
 ·exact K (beq_iff_eq.mp h)
theorem wI (self:bo) {l:List bo} (e:fK l=true):refuseLoop self "__setattr__" l=pure ():=by
 induction l with
 | nil=>exact aS e
 | cons a r b =>
  refine rt e (fun h=>?_) fun c h e=>?_
  ·exact aa h (PySem.F.store_Exception.passes self)
  ·refine aa h ?_;rw[refuseLoop_ref];exact b e
theorem qe {l:List bo} (e:fK l=true):l.isEmpty=false:=by cases l<;>first|rfl|exact aS e
theorem nC {l:List bo} (e:fK l=true):l.contains (.type "object")=true/\l.contains (.type "BaseException")=true:=by
 induction l with
 | nil=>exact aS e
 | cons a r b =>
  refine rt e (fun h=>?_) fun c h e=>?_
  ·exact aa h ⟨by decide,by decide⟩
  ·have z:=b e
   exact⟨aa List.contains_cons (aa z.1 (aa (Bool.or_true _) rfl)),aa List.contains_cons (aa z.2 (aa (Bool.or_true _) rfl))⟩
structure ExcAcc (g:Gd) (K:Frag) (aT:List Nat):Prop where
 hK:∀h,Bh g h->K.In h
 names:∀a,aT.contains a=true->SR (nm a) a
 mro:∀c,c<=2->∃cd,clsIn K (g.ca c)=some cd/\cd.hasDict=true/\fK cd.mro=true
 ga:∀c,c<=2->findIn K (.ref (g.ca c)) "__getattribute__"=some (some (.builtin "BaseException.__getattribute__"))
 gt:∀c,c<=2->findIn K (.ref (g.ca c)) "__getattr__"=some none
 sa:∀c,c<=2->findIn K (.ref (g.ca c)) "__setattr__"=some (some (.builtin "object.__setattr__"))
 att:∀c a,c<=2->aT.contains a=true->q9 K (g.ca c) (nm a)=true/\takerIn K (g.ca c) (nm a)=some none
section
variable {g:Gd} {F X:Addr->Prop} {s:ce} {U:Nat->Addr} {Z:St} {A:ef} {E:bo->ce->Prop} {t:Nat} {K:Frag} {aT:List Nat} {R':Result->ce->Prop}
theorem D3 {x C:Addr} {ox:Obj} {od:Option Obj} {cd:ClassData} {name:Str} {v:bo} {expr:Bool} {Q:bo->ce->Prop} (XK:K.In s.heap) (I:InstAt s.heap x ox C od) (hcd:clsIn K C=some cd) (ho:fK cd.mro=true)
  (hga:findIn K (.ref C) "__getattribute__"=some (some (.builtin "BaseException.__getattribute__"))) (hgt:findIn K (.ref C) "__getattr__"=some none)
  (hf:findObj K C od name=some (.value v)) (hh:handedIn v=true) (h:Q v {s with toks:=s.toks+1}):dk g.m A (getAttr (.ref x) name expr) Q E s:=by
 have e:=PySem.F.attrBase_Exception
 obtain⟨a,j,d,t,l⟩:=s
 have c:=I.type (M:=g.m)
 have k:=looks_findIn (M:=g.m) XK hga
 have n:=looks_findIn (M:=g.m) XK hgt
 have i:=looks_find (M:=g.m) XK I hf
 have b:Looks g.m a (isInstance (.ref x) (.type "BaseException")) true:=c.andThen (looks_mroIn XK (by unfold mroIn;refine aa hcd (aa (Option.bind_some _ _) (aa (if_neg (by refine aa (qe ho) ?_;decide)) (aa ((nC ho).2) ?_)));rfl))
 unfold getAttr getAttrBy
 refine b9 (wpAny_mkText (gv (b9 (c.at (b9 (k.at ?_))))))
 show dk _ _ (getAttrByItsOwn _ _ (.ref C) (.builtin "BaseException.__getattribute__") true expr) _ _ _
 unfold getAttrByItsOwn hookBefore
 refine b9 (n.at (b9 (wpAny_attempt (gv ?_))))
 unfold callGetattribute
 have f:(expr&&onTheHeap (bo.builtin "BaseException.__getattribute__"))=false:=by cases expr<;>rfl
 refine aa f (aa (if_neg (by decide)) ?_)
 unfold boundAndCalled
 refine aa (e.ga.bind (.ref x)) ?_
 refine b9 (ct (wpAny_call (codeAny_call_builtin e.ga.plain PySem.F.entry_bexc_ga (@check_slot g.m _ _ ⟨a,j,d,t+1,l⟩ "BaseException.__getattribute__" "BaseException" "__getattribute__" (.ref x) [.str name t] [] _ (by decide +kernel) (by decide +kernel) b (PySem.F.args_bexc_ga (.ref x) (.str name t)) ?_))))
 unfold je.«object.__getattribute__»
 refine b9 (ct (b9 (ct (b9 (c.at (b9 (i.at ?_)))))))
 refine ct ?_
 show dk _ _ (handedOut v) _ _ _
 exact aa (handedOut_of hh) (ct h)
theorem rz {x C:Addr} {cd:ClassData} {name:Str} {tk:Tok} {v:bo} (XK:K.In s.heap) (L0:Looks g.m s.heap (typeOf (.ref x)) (.ref C)) (hcd:clsIn K C=some cd) (ho:fK cd.mro=true) (ht:takerIn K C name=some none)
  (h:∀b,dk g.m A.in1 (je.ObjectAttr.storeInOwnDict (.ref x) (.ref C) (.str name tk) name v b)
   (fun fin s'=>match fin with|.done f=>R' (.ok f) s'|.again c'=>c'.quiet=true/\z9 g.m A c' R' s') (fun e s'=>R' (.error e) s') s) :
  z9 g.m A (.call (.builtin "object.__setattr__") ⟨[.ref x,.str name tk,v],[]⟩) R' s:=by
 have d:=PySem.F.store_object
 have i:Looks g.m s.heap (isInstance (.ref x) (.type "object")) true:=L0.andThen (looks_mroIn XK (by unfold mroIn;refine aa hcd (aa (Option.bind_some _ _) (aa (if_neg (by refine aa (qe ho) ?_;decide)) (aa ((nC ho).1) ?_)));rfl))
 refine codeAny_call_builtin d.slot.plain d.entry (@check_slot g.m _ _ s "object.__setattr__" "object" "__setattr__" (.ref x) [.str name tk,v] [] _ d.kind d.split i (d.args (.ref x) (.str name tk) v) ?_)
 refine ai (Option.bind_eq_some_iff.mp ht) fun c o j=>?_
 have n:Looks g.m s.heap (mroOf (.ref C)) cd.mro:=(looks_clsIn XK hcd).andThen .now
 have k:Looks g.m s.heap (je.ObjectAttr.storeTaker? c) none:=by
  induction c using cN with
  | none=>exact .now
  | some a =>
   refine ai (Option.map_eq_some_iff.mp j) fun b l e=>?_
   refine(looks_takesIn XK l).andThen ?_
   induction b using dI with
   | true=>exact t9 e
   | false=>exact .now
 rewrite[osa_eq];refine aa (refuse_eq _ _) ?_
 refine b9 (b9 (L0.here (b9 (n.here ?_))))
 refine aa (wI _ ho) ?_
 refine ct (b9 (L0.here (b9 ((looks_findIn XK o).here (b9 (k.here ?_))))))
 exact h _
theorem xO {x C:Addr} {name:Str} {v:bo} {Q:Unit->ce->Prop} (XK:K.In s.heap) (L0:Looks g.m s.heap (typeOf (.ref x)) (.ref C))
  (hs:findIn K (.ref C) "__setattr__"=some (some (.builtin "object.__setattr__")))
  (h:z9 g.m A (.call (.builtin "object.__setattr__") ⟨[.ref x,.str name s.toks,v],[]⟩) (fun r s'=>match r with|.ok (.ret _)=>Q () s'|.ok _=>False|.error e=>E e s') {s with toks:=s.toks+1}) :
  dk g.m A (setAttr (.ref x) name v) Q E s:=by
 refine b9 (wpAny_mkText (b9 (b9 (b9 (L0 _ _ _ _ (fun a a e=>e) (looks_findIn XK hs _ _ _ _ (fun a a e=>e) (gv ?_)))))))
 refine aa (PySem.F.store_object.slot.bind _) ?_
 refine b9 (ct (b9 (wpAny_call (codeAny_mono h fun r s' z=>?_))))
 rcases r with e|(v|_|_|_)<;>first|exact z|exact ct (ct z)
theorem OS (EA:ExcAcc g K aT):ExcP g aT where
 get:=by
  intro A F X E Z k U s i c d a l u b Y W P N H ed eu h
  refine vN (xD W N H ed) fun ox es n al I aM ao gl re a5=>?_
  refine ai (dn (EA.names a Y) re eu) fun w hw a2=>?_
  have y:=EA.hK _ W.base
  have j:=(aB W H).2.2
  refine dS (EA.mro _ j) fun cd e1 J e3=>?_
  exact D3 y I e1 e3 (EA.ga _ j) (EA.gt _ j) (kW (by unfold hasDictIn;refine aa e1 ?_;exact J) (EA.att _ a j Y).1 (by rewrite[lookIn_dict];refine aa (gl _) (aa hw ?_);rfl)) (mS a2) (.now W P a2 h)
 set:=by
  intro A F X E Z U s i c d a l u v Q Y W P N H hm ed ru hz hq
  refine vN (xD W N H ed) fun ox es n al I f ao as au a5=>?_
  have y:=EA.hK _ W.base
  have j:=(aB W H).2.2
  refine dS (EA.mro _ j) fun cd e1 J e3=>?_
  have L0:=I.type (M:=g.m)
  refine xO y L0 (EA.sa _ j) ?_
  have C:Go g F X Z U s Z U {s with toks:=s.toks+1}:=.tok W P _
  refine rz (s:={s with toks:=s.toks+1}) y L0 e1 e3 (EA.att _ a j Y).2 fun b=>?_
  exact rk (s:={s with toks:=s.toks+1}) C.r C.p (EA.names a Y) I.at_ I.cls f (looks_clsIn y e1) J hm ed (C.vr ru) hz (fun S G=>hq S (C.trans W G))
 set0:=by
  intro A F X E Z U s i c d a u v Q Y W P N h4 H a9 hm ru hq
  refine cE (aB W H) fun a6 hd j=>?_;refine oN a6 fun oe vs J B x hv f ap ab=>?_;refine am ab fun ag a3=>?_
  replace f:=if_neg (ji N)▸f
  have y:=EA.hK _ W.base
  refine dS (EA.mro _ j) fun cd c1 c2 c3=>?_
  have L0:Looks g.m s.heap (typeOf (.ref (U i))) (.ref (g.ca (c%100))):=B▸(Looks.ld J).andThen .now
  refine xO y L0 (EA.sa _ j) ?_
  have C:Go g F X Z U s Z U {s with toks:=s.toks+1}:=.tok W P _
  refine rz (s:={s with toks:=s.toks+1}) y L0 c1 c3 (EA.att _ a j Y).2 fun b=>?_
  have hi:=aC W H
  have G1:Go g F X Z U {s with toks:=s.toks+1} (Z.new (.dic [])) (i6 U Z.nx s.heap.objs.size) {s with heap:=s.heap.push emptyDict,toks:=s.toks+1} :=
   Go.push (s:={s with toks:=s.toks+1}) (t:=s.toks+1) C.r C.p emptyDict (o:=.dic []) ⟨[],⟨_,#[],0,fI _ rfl,⟨rfl,rfl,rfl⟩,rfl,fun e he=>by simp at he,.nil,by simp⟩,rfl⟩ rfl
  have a1:(s.heap.push emptyDict).get? (U i)=some oe:=aF _ _ _ _ J
  have ad:({oe with dict:=some s.heap.objs.size}:Obj).isFreed=false:=by
   have:=(Heap.get?_some_iff.mp a1).2
   obtain⟨oc,od,ah,a7⟩:=oe
   dsimp only at x;subst x;rfl
  have a4:=l5 (fun o=>{o with dict:=some s.heap.objs.size}) a1 ad
  have ar:U i≠s.heap.objs.size:=rd (l4 J)
  have kk:∀b o,b≠U i->(s.heap.push emptyDict).get? b=some o->((s.heap.push emptyDict).update (U i) fun o=>{o with dict:=some s.heap.objs.size}).get? b=some o:=fun b o nb e=>(ix _ _ (Ne.symm nb)).trans e
  have ri:i6 U Z.nx s.heap.objs.size i=U i:=bu hi
  have gi:(Z.new (.dic [])).get i=some (.exn c d):=by rewrite[dM];exact aa (if_neg (H5 hi)) H
  have G2:Go g F X (Z.new (.dic [])) (i6 U Z.nx s.heap.objs.size) {s with heap:=s.heap.push emptyDict,toks:=s.toks+1} ((Z.new (.dic [])).set i (.exn (c - 200) Z.nx)) (i6 U Z.nx s.heap.objs.size) {s with heap:=(s.heap.push emptyDict).update (U i) fun o=>{o with dict:=some s.heap.objs.size},toks:=s.toks+1}:=by
   refine Go.set (s:={s with heap:=s.heap.push emptyDict,toks:=s.toks+1}) (t:=s.toks+1) G1.r G1.p (i:=i) a9 gi (h':=(s.heap.push emptyDict).update (U i) fun o=>{o with dict:=some s.heap.objs.size}) (fun b o hb e=>kk b o (by rwa [ri] at hb) e) (ob:={oe with dict:=some s.heap.objs.size}) (aa ri a4) fun L=>⟨⟨{oe with dict:=some s.heap.objs.size},vs,aa ri a4,?_,x,hv,?_,fun z=>ap (hD (by decide) N),ag,fun z=>a3 (AB N▸z)⟩,f2 _,?_⟩
   ·show oe.cls=_;exact aa B (aa (AB (by assumption)) rfl)
   ·exact aa upd_at (aa (if_pos (Nat.sub_lt_right_of_lt_add N (by assumption))) rfl)
   ·show(c - 200)%100<=2;refine aa (AB (by assumption)) ?_;assumption
  refine b9 (ct (b9 ?_))
  show dk _ _ (instanceDict (U i) true) _ _ _
  unfold instanceDict
  refine b9 (wpAny_loadPart J ?_)
  obtain⟨oc,od,ah,a7⟩:=oe
  dsimp only at B x f
  subst B x f
  dsimp only
  refine b9 ((looks_clsIn y c1).here (s:={s with toks:=s.toks+1}) ?_)
  refine aa c2 ?_
  refine b9 (wpAny_alloc (b9 (wpAny_update a1 (ct ?_))))
  have hr:i6 U Z.nx s.heap.objs.size Z.nx=s.heap.objs.size:=upd_at
  have a8:∀(D:Addr),D=s.heap.objs.size->∀{Q':Fin->ce->Prop} {E':bo->ce->Prop},(∀S,Q () S->Q' (.done (.ret .none)) S)->dk g.m A.in1 (je.ObjectAttr.storeInDict D (.str (nm a) s.toks) (nm a) v) Q' E' {s with heap:=(s.heap.push emptyDict).update (U i) fun o=>{o with dict:=some s.heap.objs.size},toks:=s.toks+1}:=by
   intro D eD Q' E' q
   refine aa eD (bw hr ?_)
   have:=pR (A:=A.in1) (E:=E') (Q:=Q') (tk:=s.toks) (d:=Z.nx) (l:=[]) (u:=u) G2.r G2.p (EA.names a Y) hm (by rewrite[dL];refine aa (if_neg (rd hi)) ?_;rewrite[dM];refine aa (if_pos rfl) ?_;rfl) (G2.vr (G1.vr (C.vr ru))) (by simp[put]) fun S G=>q S (hq _ S (((C.trans W G1).trans W G2).trans W G))
   rw[hr] at this ⊢
   exact this
  exact a8 _ rfl fun S q=>q
end
def IH:List Str->List Nat->Prop
 | [],cs=>cs=[]
 | u::us,cs=>∃c r,cs=c::r/\SR u c/\IH us r
section
variable {g:Gd} {h:Heap} {U:Nat->Addr} {m:Nat}
theorem tG {l:List V} {vs:List bo} {cs:List Nat} (e:jg l=some cs) (r:VRs g h U m l vs):∃us,StrsAre vs us/\IH us cs:=by
 revert cs;refine no_implicit_lambda% (r.ind ?_ ?_)
 ·intro cs e;cases e;exact⟨[],.nil,rfl⟩
 ·intro a l v q f o n cs e
  induction a using eV with
  | str c =>
   have e:(match jg l with|some l=>some (c::l)|none=>none)=some cs:=e
   induction b:jg l using cN with
   | none=>replace e:=b▸e;exact bj e
   | some d =>
    replace e:=b▸e;cases e
    refine bx f ?_;clear f;rintro u t rfl k
    refine ai (n b) fun us i j=>?_
    exact⟨u::us,.cons u t i,c,d,rfl,k,j⟩
  | _=>exact bj e
end
theorem D4 {u:Str} {c:Nat} (hu:SR u c) {us:List Str} {cs:List Nat} {vs:List bo} {n j:Nat} (e:IH us cs) (hs:StrsAre vs us) (q:Hl c cs n=some j) :
  ∃i x,j=n+i/\vs[i]?=some x/\isStrOf u x=true/\∀k y,k<i->vs[k]?=some y->isStrOf u y=false:=by
 induction hs generalizing cs n with
 | nil=>cases e;exact bj q
 | cons w t hs r =>
  refine aA e ?_;clear e;rintro d cs rfl l p
  have f:isStrOf u (.str w t)=c6 d c:=l.eq_iff hu
  refine fR (show af (c6 d c) (some n) (Hl c cs (Nat.succ n))=some j from q) (fun a q=>?_) fun a q=>?_
  ·cases q;exact⟨0,_,rfl,rfl,f.trans a,fun k y b=>absurd b (Nat.not_lt_zero k)⟩
  ·refine iE (r p q) fun i x m o s h=>?_
   refine⟨i+1,x,aa m (aa (Nat.succ_add _ _) rfl),o,s,fun k y b g=>?_⟩
   induction k using jq with
   | zero=>cases g;exact f.trans a
   | succ k=>exact h k y (Nat.lt_of_succ_lt_succ b) g
section
variable {g:Gd} {F X:Addr->Prop} {s:ce} {U:Nat->Addr} {Z:St} {A:ef} {E:bo->ce->Prop} {k:K1} {t:Nat}
theorem zc (W:R g Z U s.heap) (P:Pv g F X Z U s.heap) {i:Nat} {r l:List V} {us:List bo} (ei:Z.get i=some (.lst r)) (rl:VRs g s.heap U Z.nx l us) (h:ux i r l Z k=true) :
  dk g.m A (call (.builtin "list.extend") (.ref (U i)::us)) (Po g F X Z U s k) E s:=by
 refine g7 h ?_;clear h;rintro v rfl h
 refine aA rl ?_;clear rl;rintro x J rfl u rfl
 refine cA h ?_;clear h;rintro j rfl h
 refine fz h fun q B h=>?_
 refine ak h fun c h=>?_
 refine ak h fun I h=>?_
 have c:=fA c
 refine am u ?_;clear u;rintro rfl K
 refine ai (aB W ei) fun y b t=>?_;refine aG b fun n o=>?_
 refine ai (aB W B) fun d b w=>?_;refine aG b fun z H=>?_
 have G:=dH t
 have f:=dH w
 replace c:=sh▸c
 have C:y.size+d.size<=sizeLine:=by exact aa G (aa f (dw c))
 have e:Po g F X Z U s k .none {s with heap:=s.heap.update (U i) (jj fun p=>p++d),toks:=s.toks} :=
  th W P (a:=.none) (v:=.none) (fun p=>p++d) I ei o (aa Array.toList_append (t.append w)) rfl h
 exact call_meets PySem.F.slot_list_extend ⟨_,o,rfl⟩ PySem.F.entry_list_extend (PySem.F.args_list_extend_2 _ _) (AutoSeq1.list_extend_list_list_0 (U i) y n (U j) d z (extend_door C) (by lia) (by lia)) ⟨o,H,e⟩
theorem Bg (W:R g Z U s.heap) (P:Pv g F X Z U s.heap) {i:Nat} {r l:List V} {us:List bo} (ei:Z.get i=some (.lst r)) (rl:VRs g s.heap U Z.nx l us) (h:xq r l Z k=true) :
  dk g.m A (call (.builtin "list.index") (.ref (U i)::us)) (Po g F X Z U s k) E s:=by
 refine g7 h ?_;clear h;rintro v rfl h
 refine gC h ?_;clear h;rintro c rfl h
 refine bS h fun Y Q h=>?_
 refine bS h fun j L h=>?_
 refine ak h fun w h=>?_
 have w:=fA w
 refine aA rl ?_;clear rl;rintro x q rfl b rfl;refine bx b ?_;clear b;rintro u t rfl M
 refine ai (aB W ei) fun K o z=>?_;refine aG o fun n B=>?_
 have hz:=dH z
 refine ai (tG Q z) fun S C H=>?_
 refine iE (D4 M H C L) fun i' y G d f e=>?_
 rw[Nat.zero_add] at G
 subst G
 rw[u3] at d
 refine aG (C2.mp d) ?_;intro I J
 refine call_meets PySem.F.slot_list_index ⟨_,B,rfl⟩ PySem.F.entry_list_index (PySem.F.args_list_index_2 _ _)
  (MeetsSeq.list_index (U i) K n (.str u t) (isStrOf u) (fun y d=>eq_isStrOf u t C y (by simpa using d)) j I (by lia) (aa J f) (fun k N p=>e k _ p (by simp[N]))) ⟨B,?_⟩
 exact .now (a:=.int j) W P ⟨_,rfl⟩ h
theorem II (B:kT g) (W:R g Z U s.heap) (P:Pv g F X Z U s.heap) {i:Nat} {r:List (Nat×V)} {l:List V} {us:List bo} (ei:Z.get i=some (.dic r)) (rl:VRs g s.heap U Z.nx l us) (h:FX r l Z k=true) :
  dk g.m A (call (.builtin "dict.get") (.ref (U i)::us)) (Po g F X Z U s k) E s:=by
 refine ai (aB W ei) fun G p o=>?_
 have C:=jH B W (aC W ei)
 refine fR h (fun H h=>?_) (fun H h=>?_)
 ·refine g7 h ?_;clear h;rintro a rfl h
  refine gC h ?_;clear h;rintro c rfl h
  refine aA rl ?_;clear rl;rintro x q rfl b rfl;refine bx b ?_;clear b;rintro u t rfl n
  refine call_meetsIn PySem.F.slot_dict_get p.typeIs PySem.F.entry_dict_get (PySem.F.args_dict_get_2 _ _) (meets_dict_get (strKind g.prog g.w) _ lQ C) ⟨_,p.mapOf,?_⟩
  unfold Dp at h
  induction e:az c r using cN with
  | some v =>
   replace h:=e▸h
   refine ai (dn n o e) fun w z f=>?_
   exact aa z (.now W P f h)
  | none=>replace h:=e▸h;exact aa (look_none n o e) (.now (a:=.none) W P rfl h)
 ·refine pF h ?_;clear h;rintro a d rfl h
  refine gC h ?_;clear h;rintro c rfl h
  refine aA rl ?_;clear rl;rintro x q rfl b j;refine bx b ?_;clear b;rintro u t rfl n;refine aA j ?_;clear j;rintro y J rfl I rfl
  refine call_meetsIn PySem.F.slot_dict_get p.typeIs PySem.F.entry_dict_get (PySem.F.args_dict_get_3 _ _ _) (meets_dict_get_default (strKind g.prog g.w) _ lQ C y) ⟨_,p.mapOf,?_⟩
  unfold Dp at h
  induction e:az c r using cN with
  | some v =>
   replace h:=e▸h
   refine ai (dn n o e) fun w z f=>?_
   exact aa z (.now W P f h)
  | none=>replace h:=e▸h;exact aa (look_none n o e) (.now W P I h)
theorem D5 (B:kT g) (W:R g Z U s.heap) (P:Pv g F X Z U s.heap) {i:Nat} {r:List (Nat×V)} {l:List V} {us:List bo} (ei:Z.get i=some (.dic r)) (rl:VRs g s.heap U Z.nx l us) (h:FY i r l Z k=true) :
  dk g.m A (call (.builtin "dict.pop") (.ref (U i)::us)) (Po g F X Z U s k) E s:=by
 refine ai (aB W ei) fun n p C=>?_
 have lo:=jH B W (aC W ei)
 refine pF h ?_;clear h;rintro a d rfl h
 refine gC h ?_;clear h;rintro c rfl h
 refine aA rl ?_;clear rl;rintro x q rfl z f;refine bx z ?_;clear z;rintro u t rfl M;refine aA f ?_;clear f;rintro y q' rfl ry rfl
 induction H:az c r using cN with
 | some v =>
  replace h:=H▸h
  refine ak h fun K h=>?_
  refine ak h fun S h=>?_
  have K:=bY K
  rw[bB] at K
  refine ai (dn M C H) fun w e1 J=>?_
  refine call_meetsIn PySem.F.slot_dict_pop p.typeIs PySem.F.entry_dict_pop (by rfl) (meets_dict_pop_there (strKind g.prog g.w) _ lQ [y] (.inr ⟨_,rfl⟩) rfl) ⟨n,w,p,aa C.length (dw (by lia)),e1,fun h' I Q=>?_⟩
  refine hU I fun o Y ep N j=>?_
  have G:Go g F X Z U s (Z.set i (.dic (del c r))) U {s with heap:=h',toks:=s.toks+1} :=
   .set W P S ei (fun b o hb e=>(Q.2 b hb).trans e) N fun L=>⟨_,⟨o,Y,ep,N,j⟩,(C.del M (DictOf.nodup p)).mono L (fun u_ u_=>rfl) (e5 _)⟩
  exact⟨_,_,v,G,G.vr J,h⟩
 | none =>
  replace h:=H▸h
  refine call_meetsIn PySem.F.slot_dict_pop p.typeIs PySem.F.entry_dict_pop (by rfl) (meets_dict_pop_default (strKind g.prog g.w) _ lQ lo rfl y) ⟨n,p,look_none M C H,?_⟩
  exact .now W P ry h
theorem D6 (B:kT g) (W:R g Z U s.heap) (P:Pv g F X Z U s.heap) {i:Nat} {r:List (Nat×V)} {l:List V} {us:List bo} (ei:Z.get i=some (.dic r)) (rl:VRs g s.heap U Z.nx l us) (h:uy i r l Z k=true) :
  dk g.m A (call (.builtin "dict.update") (.ref (U i)::us)) (Po g F X Z U s k) E s:=by
 refine g7 h ?_;rintro v rfl S
 refine cA S ?_;rintro j rfl c
 induction a:c6 i j using dI with
 | true=>replace c:=a▸c;exact aS c
 | false =>
  replace c:=a▸c
  refine gD (show eP (Z.get j) _=true from c) fun q u Q=>?_
  refine ak Q fun C h4=>?_
  refine ak h4 fun hm h5=>?_
  have C:len r+len q<=900:=bY C
  rw[bB,bB] at C
  refine aA rl ?_;clear rl;rintro x N rfl n rfl;refine am n ?_;clear n;rintro rfl Y
  refine ai (aB W ei) fun y H I=>?_
  refine ai (aB W u) fun f t J=>?_
  have ne:U i≠U j:=fun z=>xy a (W.inj i j (aC W ei) (aC W u) z)
  refine call_meetsIn PySem.F.slot_dict_update H.typeIs PySem.F.entry_dict_update (PySem.F.args_dict_update_2 _ _) (meets_dict_update (strKind g.prog g.w) _ _ ne (jH B W (aC W u))) ⟨y,f,H,t,aa I.length (aa J.length (dw (by lia))),fun h' p K hs=>?_⟩
  refine hU p fun o es ep M d=>?_
  have G:Go g F X Z U s (Z.set i (.dic (fJ r q))) U {s with heap:=h',toks:=s.toks} :=
   .set W P hm ei (fun b o hb e=>(hs.2 b hb).trans e) M fun L=>⟨_,⟨o,es,ep,M,d⟩,(I.merge (DictOf.nodup H) J).mono L (fun K K=>rfl) (e5 _)⟩
  exact⟨_,_,.none,G,rfl,h5⟩
end
theorem xP:∀a b:List Nat,Dm a b=decide (a<b)
 | [],[]=>(decide_eq_false (List.not_lt_nil _)).symm
 | _::_,[]=>(decide_eq_false (List.not_lt_nil _)).symm
 | [],_::_=>(decide_eq_true (List.nil_lt_cons ..)).symm
 | a::r,b::s=>by
  rewrite[StrLaws.lt_cons_cons];refine bw (xP r s) ?_
  have c:l9 a b=decide (a<b):=by
   induction h:l9 a b using dI with
   | true=>exact(decide_eq_true (bY h)).symm
   | false=>exact(decide_eq_false fun z=>by replace h:=(show l9 a b=true from iw z)▸h;cases h).symm
  show(match l9 a b with|true=>true|false=>match c6 a b with|true=>Dm r s|false=>false)=_
  refine aa c ?_
  by_cases h:a<b
  ·simp[h]
  ·by_cases h2:a=b
   ·subst h2;simp[h,xd]
   ·simp[h,h2,bG h2]
theorem tH (a b:Nat):uk a b=decide (sdec a<sdec b):=xP _ _
section
variable {α:Type}
def LeK (p q:Nat×α):Prop:=uk q.1 p.1=false
theorem LeK.iff {p q:Nat×α}:LeK p q<->sdec p.1<=sdec q.1:=by
 unfold LeK
 refine aa (tH _ _) ?_;rw[decide_eq_false_iff_not]
 exact List.not_lt
theorem LeK.trans {p q r:Nat×α} (h:LeK p q) (k:LeK q r):LeK p r:=LeK.iff.mpr (List.le_trans (LeK.iff.mp h) (LeK.iff.mp k))
theorem mU (x:Nat×α):∀l,(mE x l).Perm (x::l)
 | []=>.refl _
 | y::r=>by
  show(match uk x.1 y.1 with|true=>x::y::r|false=>y::mE x r).Perm _
  cases uk x.1 y.1 with
  | true=>exact .refl _
  | false=>exact((mU x r).cons y).trans (.swap x y r)
theorem nD (x:Nat×α):∀{l},l.Pairwise LeK->(mE x l).Pairwise LeK
 | [],_=>List.pairwise_singleton _ _
 | y::r,h=>by
  refine am (C8.mp h) fun c d=>?_
  show(match uk x.1 y.1 with|true=>x::y::r|false=>y::mE x r).Pairwise LeK
  induction q:uk x.1 y.1 using dI with
  | true =>
   have b:LeK x y:=LeK.iff.mpr (List.le_of_lt (by rw[tH] at q;exact of_decide_eq_true q))
   refine C8.mpr ⟨fun z a=>?_,h⟩
   rcases gg.mp a with rfl|a
   ·exact b
   ·exact b.trans (c z a)
  | false =>
   refine C8.mpr ⟨fun z a=>?_,nD x d⟩
   rcases gg.mp ((mU x r).mem_iff.mp a) with rfl|a
   ·exact q
   ·exact c z a
theorem qf:∀(l acc:List (Nat×α)),acc.Pairwise LeK->(eI l acc).Perm (l++acc)/\(eI l acc).Pairwise LeK
 | [],acc,h=>⟨.refl _,h⟩
 | x::r,acc,h=>by
  refine am (qf r (mE x acc) (nD x h)) fun i1 i2=>?_
  exact⟨i1.trans (((mU x acc).append_left r).trans List.perm_middle),i2⟩
def All2 {α β:Type} (T:α->β->Prop):List α->List β->Prop
 | [],bs=>bs=[]
 | a::r,bs=>∃b q,bs=b::q/\T a b/\All2 T r q
@[elab_as_elim] theorem All2.ind {α β:Type} {T:α->β->Prop} {M:List α->List β->Prop} {l:List α} {r:List β} (x:All2 T l r) (h0:M [] []) (h1:∀{a l b q},T a b->All2 T l q->M l q->M (a::l) (b::q)):M l r:=by
 induction l generalizing r with
 | nil=>cases x;exact h0
 | cons p l c=>refine aA x ?_;rintro b q rfl t y;exact h1 t y (c y)
theorem All2.perm {β:Type} {T:α->β->Prop}:∀{bs bs':List β},bs.Perm bs'->∀{as:List α},All2 T as bs->∃as',as.Perm as'/\All2 T as' bs':=by
 intro bs bs' h
 induction h with
 | nil=>intro as x;exact⟨as,.refl _,x⟩
 | cons b _ j =>
  intro as x
  induction as using fV with
  | nil=>cases x
  | cons a r =>
   refine aA x fun m q e t x=>?_
   cases e
   refine ai (j x) fun w p y=>?_
   exact⟨a::w,p.cons a,b,_,rfl,t,y⟩
 | swap b c l =>
  intro as x
  induction as using fV with
  | nil=>cases x
  | cons a r =>
   refine aA x fun m q e t x=>?_
   cases e
   induction r using fV with
   | nil=>cases x
   | cons d r =>
    refine aA x fun B z k f x=>?_
    cases k
    exact⟨d::a::r,.swap d a r,_,_,rfl,f,_,_,rfl,t,x⟩
 | trans _ _ v o =>
  intro as x
  refine ai (v x) fun A u i=>?_
  refine ai (o i) fun g s n=>?_
  exact⟨g,u.trans s,n⟩
theorem All2.pairwise {β:Type} {T:α->β->Prop} {L:α->α->Prop} {L':β->β->Prop} (h:∀a b c d,T a b->T c d->L' b d->L a c) {as:List α} {bs:List β} (x:All2 T as bs) (w:bs.Pairwise L'):as.Pairwise L:=by
 revert w;refine x.ind (fun _=>.nil) fun{a r b q} t x f w=>?_
 refine am (C8.mp w) fun k j=>?_
 refine C8.mpr ⟨fun z e=>?_,f j⟩
 have:z∈r->∃y,y∈q/\T z y:=x.ind (fun e=>nomatch e) fun{c r y l} t x f e=>by
  rcases gg.mp e with rfl|e
  ·exact⟨y,.head _,t⟩
  ·refine ai (f e) fun i m t=>?_;exact⟨i,.tail _ m,t⟩
 refine ai (this e) fun y m g=>?_
 exact h _ _ _ _ t g (k y m)
end
section
variable {g:Gd} {h:Heap} {U:Nat->Addr} {m:Nat}
def KR (g:Gd) (h:Heap) (U:Nat->Addr) (m:Nat) (p:Nat×V) (x:Keyed):Prop:=(∃u t,x.1=.str u t/\SR u p.1)/\VR g h U m p.2 x.2
theorem qg {ps:List (Nat×V)} {keys vs:List bo} {xs:List Keyed} (r:All2 (KR g h U m) ps (keys.zip vs)) (hp:xs.Perm (keys.zip vs)) (hs:xs.Pairwise fun x y=>∀a b t u,x.1=.str a t->y.1=.str b u->decide (b.cps.toList<a.cps.toList)=false)
  (un:∀p q,p∈ps->q∈ps->p.1=q.1->p=q):All2 (KR g h U m) (eI ps []) xs:=by
 refine ai (r.perm hp.symm) fun n B v=>?_
 refine am (qf ps [] .nil) fun o G=>?_
 rw[sz] at o
 have L:n.Pairwise LeK:=v.pairwise (fun a b c d ⟨⟨u,t,J,j⟩,_⟩ ⟨⟨w,C,I,f⟩,_⟩ z=>by
  have:=z u w t C J I
  rw[<-j.sdec,<-f.sdec] at this
  show uk c.1 a.1=false
  refine aa (tH _ _) ?_;exact this) hs
 have k:∀a∈ps,∃u,SR u a.1:=by
  have:∀{l:List (Nat×V)} {x:List Keyed},All2 (KR g h U m) l x->∀a∈l,∃u,SR u a.1:=by
   intro l
   induction l with
   | nil=>intro x _ a i;cases i
   | cons c l F =>
    rintro x ⟨b,q,e,⟨⟨u,t,_,j⟩,_⟩,y⟩ a i
    rcases gg.mp i with rfl|i
    ·exact⟨u,j⟩
    ·exact F y a i
  exact this r
 have e:eI ps []=n:=by
  refine List.Perm.eq_of_pairwise (le:=LeK) (fun a b i H E K=>?_) G L (o.trans B)
  have A:=o.mem_iff.mp i
  have s:=B.mem_iff.mpr H
  refine un a b A s ?_
  refine aG (k a A) fun u j=>?_
  refine aG (k b s) fun w f=>?_
  have:=List.le_antisymm (LeK.iff.mp E) (LeK.iff.mp K)
  replace this:=f.sdec▸j.sdec▸this
  exact bw j.2 (bw f.2 (aa this rfl))
 exact aa e v
theorem All2.vrs {ps:List (Nat×V)} {xs:List Keyed} (x:All2 (KR g h U m) ps xs):VRs g h U m (ps.map (·.2)) (xs.map (·.2)):=x.ind rfl fun t _ a=>⟨_,_,rfl,t.2,a⟩
theorem rA {xs:Array Keyed} {n:Nat} (hn:n=xs.size) (hs:SortedToK PyProof.Rows.strKind xs n):xs.toList.Pairwise fun x y=>∀a b t u,x.1=.str a t->y.1=.str b u->decide (b.cps.toList<a.cps.toList)=false:=by
 rw[List.pairwise_iff_getElem]
 intro i j l k e a b t u h g
 have d:i<xs.size:=by simpa using l
 have c:j<xs.size:=by simpa using k
 have f:=hs i j (Nat.le_of_lt e) (aa hn c)
 rw[Array.getElem_toList] at h g
 replace f:=(KK_str c (x:=b) (t:=u) (q:=xs[j].2) (Prod.ext g rfl))▸(KK_str d (x:=a) (t:=t) (q:=xs[i].2) (Prod.ext h rfl))▸f
 exact f
theorem qh:∀{l:List V} {vs:List bo} {cs:List Nat},jg l=some cs->VRs g h U m l vs->All2 (KR g h U m) (cs.map fun c=>(c,V.str c)) (vs.zip vs)/\l=cs.map V.str
 | [],vs,cs,e,r=>by cases e;cases r;exact⟨rfl,rfl⟩
 | a::l,vs,cs,e,⟨v,q,ev,ra,rq⟩=>by
  subst ev
  induction a using eV with
  | str c =>
   have e:(match jg l with|some l=>some (c::l)|none=>none)=some cs:=e
   induction b:jg l using cN with
   | none=>replace e:=b▸e;exact bj e
   | some j =>
    replace e:=b▸e;cases e
    refine bx (id ra) fun u t f k=>?_
    refine am (qh b rq) fun d i=>?_
    exact⟨⟨(v,v),_,rfl,⟨⟨u,t,f,k⟩,ra⟩,d⟩,aa i rfl⟩
  | _=>exact bj e
theorem u6 {α β:Type} (f:α->β) (x:Nat×α):∀l,mE (x.1,f x.2) (l.map fun p=>(p.1,f p.2))=(mE x l).map fun p=>(p.1,f p.2)
 | []=>rfl
 | y::r=>by
  show(match uk x.1 y.1 with|true=>_|false=>_)=List.map _ (match uk x.1 y.1 with|true=>_|false=>_)
  cases uk x.1 y.1 with
  | true=>rfl
  | false=>exact congrArg _ (u6 f x r)
theorem rB {α β:Type} (f:α->β):∀(l acc:List (Nat×α)),eI (l.map fun p=>(p.1,f p.2)) (acc.map fun p=>(p.1,f p.2))=(eI l acc).map fun p=>(p.1,f p.2)
 | [],_=>rfl
 | x::r,acc=>by
  show eI (r.map _) (mE (x.1,f x.2) (acc.map _))=_
  refine aa (u6 f x acc) ?_
  exact rB f r _
theorem Bj {l:List V} {q:List V} (e:xo l=some q):∃cs,jg l=some cs/\cs.length<=60/\q=(eI (cs.map fun c=>(c,V.str c)) []).map (·.2):=by
 unfold xo at e
 split at e
 ·rename_i cs f
  refine am (nV e) fun d e=>?_
  have d:=bY d
  rw[bB] at d
  cases e
  refine⟨cs,f,d,?_⟩
  have k:=rB (fun(p:Unit)=>()) (cs.map fun c=>(c,())) []
  have j:∀(l a:List (Nat×Unit)),eI (l.map fun p=>(p.1,V.str p.1)) (a.map fun p=>(p.1,V.str p.1))=(eI l a).map fun p=>(p.1,V.str p.1):=by
   have g:∀(x:Nat×Unit) (l:List (Nat×Unit)),mE (x.1,V.str x.1) (l.map fun p=>(p.1,V.str p.1))=(mE x l).map fun p=>(p.1,V.str p.1):=by
    intro x l
    induction l with
    | nil=>rfl
    | cons y r h =>
     show(match uk x.1 y.1 with|true=>_|false=>_)=List.map _ (match uk x.1 y.1 with|true=>_|false=>_)
     cases uk x.1 y.1 with
     | true=>rfl
     | false=>exact congrArg _ h
   intro l
   induction l with
   | nil=>intro _;rfl
   | cons x r h =>
    intro a
    show eI (r.map _) (mE (x.1,V.str x.1) (a.map _))=_
    exact aa (g x a) (h _)
  have b:=j (cs.map fun c=>(c,())) []
  replace b:=List.map_map▸b
  show _=List.map _ (eI (List.map _ cs) _)
  have i:(cs.map ((fun p:Nat×Unit=>(p.1,V.str p.1))∘fun c=>(c,())))=cs.map fun c=>(c,V.str c):=rfl
  replace b:=i▸b
  refine aa (show([]:List (Nat×V))=([]:List (Nat×Unit)).map fun p=>(p.1,V.str p.1) from rfl) (aa b (aa List.map_map ?_))
  rfl
 ·exact bj e
end
section
variable {g:Gd} {F X:Addr->Prop} {s:ce} {U:Nat->Addr} {Z:St} {A:ef} {E:bo->ce->Prop} {k:K1} {t:Nat}
theorem zd (B:kT g) (hh:A.handled=none) (W:R g Z U s.heap) (P:Pv g F X Z U s.heap) {l:List V} {us:List bo} (r:VRs g s.heap U Z.nx l us) (h:uv l Z k=true):dk g.m A (call (.builtin "sorted") us) (Po g F X Z U s k) E s:=by
 refine g7 h ?_;clear h;rintro v rfl h
 refine cA h ?_;clear h;rintro i rfl h
 refine aA r ?_;clear r;rintro x q rfl I rfl;refine am I ?_;clear I;rintro rfl hi
 have h:FS (Z.get i) Z k=true:=h
 induction K:Z.get i using cN with
 | none=>replace h:=K▸h;exact aS h
 | some o =>
  replace h:=K▸h
  induction o using eO with
  | lst r =>
   have h:cM (xo r) (fun q=>e9 q Z k)=true:=h
   refine bS h fun q eq h=>?_
   refine dS (Bj eq) fun cs ec ez e2=>?_
   refine ai (aB W K) fun vs hl L=>?_
   refine ai (tG ec L) fun ss a1 a2=>?_
   refine am (qh ec L) fun b1 b2=>?_
   have Q:cs.length=r.length:=by exact aa b2 (aa (jb _) rfl)
   have a3:vs.toList.length<64:=by refine aa L.length (bw Q ?_);have:=ez;lia
   refine sortedK (κ:=PyProof.Rows.strKind) strKind_oneLt (l:=U i) (vs:=vs.toList) (aa B1 hl.isList) a1.keysOf (fun a7 a8 a5 e=>keyKind_strs (bw e a1)) a3 fun a j hs=>?_
   have N:(arrOf a).toList.Perm (vs.toList.zip vs.toList):=by exact bw (pairsOf_toList _) (Array.perm_iff_toList_perm.mp j)
   have y:=(qg b1 N (rA j.size_eq.symm hs) fun p q j hq e=>by
    refine ai (mc.mp j) ?_;rintro c Y rfl
    refine ai (mc.mp hq) ?_;rintro d Y rfl
    refine aa (show c=d from e) ?_;rfl).vrs
   rw[<-e2] at y
   refine aG (sortedAll_at s.heap vs.toList ((arrOf a).map (·.2))) fun ep ea=>?_
   have C:∀b o,s.heap.get? b=some o->(sortedAll s.heap vs.toList ((arrOf a).map (·.2))).get? b=some o:=fun b o e=>sortedAll_old e
   refine ak h fun a6 h=>?_
   have H:VRs g (sortedAll s.heap vs.toList ((arrOf a).map (·.2))) (i6 U Z.nx (s.heap.objs.size+1)) (Z.nx+1) q ((arrOf a).map (·.2)).toList:=by
    exact aa Array.toList_map (y.mono (.of_keeps C) (fun i hi=>bu hi) (sr _))
   exact⟨_,_,.obj Z.nx,.new (t:=s.toks) W P C _ (E8 (sr _)) ea (o:=.lst q) ⟨_,⟨ep,ea⟩,H⟩,⟨aa upd_at rfl,f2 _⟩,h⟩
  | dic r =>
   induction r using fV with
   | cons _ _=>exact aS h
   | nil =>
    have h:k (.obj Z.nx) (Z.new (.lst []))=true:=h
    refine ai (aB W K) fun kvs hd re=>?_
    cases re
    refine aG hd.dictAt fun ep S=>?_
    have lo:=jH B W hi
    refine call_function_entry kind_sorted plain_sorted entry_sorted (args_sorted1 _) ?_
    unfold je.«sorted»
    refine b9 (m:=checkCount "sorted" 1 1 _) (ct ?_)
    refine b9 (kdu_collect (A:=A.in1) (kdl_dict (knd:=L1 g.prog g.w) (kvs:=[]) (ep:=ep) lo) hh S (L2 _) fun f M a4 hk u=>?_)
    have e0:a4.toList=[]:=List.length_eq_zero_iff.mp (aa ir u.1)
    refine aa e0 ?_
    refine b9 (wpAny_newList ?_)
    have n:(f.push (seqObj "list" ([]:List bo).toArray 0)).get? f.objs.size=some (seqObj "list" ([]:List bo).toArray 0):=fI _ rfl
    show dk _ _ _ _ _ {s with heap:=f.push (seqObj "list" ([]:List bo).toArray 0),toks:=M}
    have G:Go g F X Z U s Z U {s with heap:=f,toks:=M}:=.grow W P hk
    refine b9 (gv (wpAny_call_entry slot_list_sort ⟨_,n,rfl⟩ entry_list_sort (list_sort_treeK (κ:=PyProof.Rows.strKind) (vs:=[]) strKind_oneLt n (fun p j=>by simp[pairsOf] at j) (fun u_ u_ u_ e=>by cases e) (by decide) fun a j hs=>⟨_,rfl,?_⟩) (args_list_sort _)))
    have e1:(arrOf a).map (·.2)=#[]:=by
     have:=j.size_eq
     rw[pairsOf_size] at this
     have:(arrOf a).size=0:=this
     refine aa (Array.size_eq_zero_iff.mp this) ?_;simp
    refine aG (sortedHeap_at (vs:=[]) (out:=(arrOf a).map (·.2)) n) fun e J=>?_
    replace J:=e1▸J
    have C:∀b o,s.heap.get? b=some o->(sortedHeap (f.push (seqObj "list" ([]:List bo).toArray 0)) f.objs.size [] ((arrOf a).map (·.2))).get? b=some o:=fun b o e=>by
     have h1:=hk b o e
     have h2:(f.push (seqObj "list" ([]:List bo).toArray 0)).get? b=some o:=f4 _ h1
     exact aa (sortedHeap_old (rd (l4 h1)) (l4 h2)) h2
    have fa:s.heap.get? f.objs.size=none:=by
     induction z:s.heap.get? f.objs.size using cN with
     | none=>rfl
     | some o=>exact absurd (l4 (hk _ _ z)) (nY _)
    rw[e1] at C ⊢
    exact ct ⟨_,rfl,_,_,.obj Z.nx,.new (t:=M) W P C _ fa J (o:=.lst []) ⟨#[],⟨e,J⟩,rfl⟩,⟨aa upd_at rfl,f2 _⟩,h⟩
  | _=>exact aS h
end
theorem u7:entryFor table "dict.update.loop"=some je.«dict.update.loop»:=entryFor_of_fast (by kernel_rfl)
theorem lW:plainId "dict.update.loop"=true:=by decide +kernel
theorem qi:typeLookup (.type "list") (dX "keys")=pure none:=am_miss_of_fast (by kernel_rfl)
def RowsAt (h:Heap):List bo->List (Str×bo)->Prop
 | [],ps=>ps=[]
 | v::r,ps=>∃a u t x q,v=.ref a/\h.TupAt a [.str u t,x]/\ps=(u,x)::q/\RowsAt h r q
theorem RowsAt.mono {h h':Heap} (k:∀a vs,h.TupAt a vs->h'.TupAt a vs) {l:List bo} {ps:List (Str×bo)} (r:RowsAt h l ps):RowsAt h' l ps:=by
 induction l generalizing ps with
 | nil=>exact r
 | cons v l c=>refine oO r fun a u t x b=>?_;refine qG b fun q d f e r=>?_;exact⟨a,u,t,x,q,d,k _ _ f,e,c r⟩
section
variable {prog:KE} {w:World} {A:ef} {R:Result->ce->Prop} {L I D:Addr} {vs:Array bo} {res:bo}
theorem Bk {h:Heap} {a b:Addr} {us:List bo} {o:Obj} (x:h.TupAt a us) (e:h.get? b=some o) (hc:o.cls≠.type "tuple"):a≠b:=fun z=>by
 refine aA x fun g n d c f=>?_
 replace d:=e▸z▸d;cases d;exact hc c
theorem xQ (hh:A.handled=none) (nLI:L≠I) (nLD:L≠D) (nID:I≠D):∀(rest:List bo) (i:Nat) (s:ce) (kvs ps:List (Str×bo)),vs.toList.drop i=rest->s.heap.PlainList L vs->s.heap.IsListIter I L i->s.heap.DictOf (L1 prog w) D kvs->RowsAt s.heap rest ps ->
  kvs.length+rest.length<=6000->(∀h' tk,h'.DictOf (L1 prog w) D (merged kvs ps)->(∀b o,b≠I->b≠D->s.heap.get? b=some o->h'.get? b=some o)->R (.ok (.ret res)) {s with heap:=h',toks:=tk}) ->
  z9 (model prog w) A (.builtin "dict.update.loop" ⟨[.ref D,.ref I,rawInt i,res],[]⟩) R s
 | [],i,s,kvs,ps,hr,hl,hit,hd,hp,hz,hq=>by
  cases hp
  refine codeAny_builtin u7 ?_
  refine aa (ef.under_plainId lW _) ?_
  show dk _ A.in1 (pyNext (.ref I) >>= _) _ _ s
  have J:vs[i]?=none:=by
   rw[<-u3]
   have:=List.drop_eq_nil_iff.mp hr
   simpa using this
  refine b9 (wpAny_pyNext_list_end hh hit hl.isList J fun h' Q=>?_)
  refine b9 (ct (ct (hq h' s.toks (hd.extBut Q (Ne.symm nID)) fun b o z u_ e=>Q b o z e)))
 | v::rest,i,s,kvs,_,hr,hl,hit,hd,rr,hz,hq=>by
  refine oO rr fun a u t x j=>?_;refine qG j ?_;clear j;rintro q rfl e2 rfl r
  refine codeAny_builtin u7 ?_
  refine aa (ef.under_plainId lW _) ?_
  show dk _ A.in1 (pyNext (.ref I) >>= _) _ _ s
  have J:vs[i]?=some (.ref a):=by
   rw[<-u3]
   have:(vs.toList.drop i)[0]?=some (.ref a):=by exact aa hr rfl
   rw[List.getElem?_drop] at this
   simpa using this
  refine b9 (wpAny_pyNext_list_item hit hl.isList J fun B F g=>?_)
  have H:∀{h:Heap} {b:Addr} {d:List bo},h.TupAt b d->h.IsListIter I L i\/h.IsListIter I L (i+1)->b≠I:=fun x y=>by
   rcases y with ⟨o,e,c,_⟩|⟨o,e,c,_⟩<;>exact Bk x e (by(refine aa c ?_);exact fW (by decide))
  have G:∀{h:Heap} {b:Addr} {d:List bo} {kv:List (Str×bo)},h.TupAt b d->h.DictOf (L1 prog w) D kv->b≠D:=fun x ⟨o,es,ep,e,c,_⟩=>Bk x e (aa c.1 (fW (by decide)))
  have l:∀b d,s.heap.TupAt b d->B.TupAt b d:=fun b d y=>by
   refine bx (id y) fun o n e c=>?_
   exact⟨o,n,g.extBut b o (H y (.inl hit)) e,c⟩
  have p:B.DictOf (L1 prog w) D kvs:=hd.extBut g.extBut (Ne.symm nID)
  refine aA (l _ _ e2) fun W nt S Y Z=>?_
  refine b9 (gv (b9 ?_))
  refine wpAny_tryCatch ?_
  unfold je.Dict.pairItems
  refine b9 (wpAny_typeOf (show({s with heap:=B}:ce).TypeIs (.ref a) "tuple" from⟨W,S,Y⟩) ?_)
  refine aa (if_pos (by decide)) ?_
  refine b9 (wpAny_seqItems S Z (ct ?_))
  show dk _ _ (holding [.str u t,x] (dictSet D (.str u t) x)) _ _ _
  refine(gv (wpAny_dictSet_pairs (knd:=L1 prog w) lQ p (fun N K f=>?_) (by refine aa sizeLine_eq ?_;simp only[l7] at hz;lia)))
  refine ct ⟨plainId_quiet lW _,?_⟩
  have E:∀b d,B.TupAt b d->N.TupAt b d:=fun b d y=>by
   refine bx (id y) fun o n e c=>?_
   exact⟨o,n,f.extBut b o (G y p) e,c⟩
  have P:vs.toList.drop (i+1)=rest:=by
   have:(vs.toList.drop i).drop 1=rest:=by exact aa hr rfl
   rwa [List.drop_drop] at this
  have M:N.PlainList L vs:=(hl.at fun o e=>g.extBut _ o nLI e).at fun o e=>f.extBut _ o nLD e
  have C:N.IsListIter I L (i+1):=F.extBut f.extBut nID
  have ei:rawInt ((i:Int)+1)=rawInt ((i+1:Nat):Int):=by congr 1
  show z9 _ A (.builtin "dict.update.loop" ⟨[.ref D,.ref I,rawInt ((i:Int)+1),res],[]⟩) R _
  refine aa ei ?_
  refine xQ hh nLI nLD nID rest (i+1) _ (stored kvs u x) q P M C K (r.mono fun b d y=>E b d (l b d y)) ?_ fun h' tk m k=>hq h' tk m fun b o z U e=>k b o z U (f.extBut b o U (g.extBut b o z e))
  have:(stored kvs u x).length<=kvs.length+1:=by
   unfold stored
   split
   ·exact aa (jb _) (sr _)
   ·exact aa sh (e5 _)
  simp only[l7] at hz
  lia
end
section
variable {g:Gd} {F X:Addr->Prop} {s:ce} {U:Nat->Addr} {Z:St} {A:ef} {E:bo->ce->Prop} {k:K1} {t:Nat}
theorem xR {h:Heap} {m:Nat}:∀{l:List V} {vs:List bo} {ps:List (Nat×V)},kP l=some ps->VRs g h U m l vs->∃q,RowsAt h vs q/\ERs g h U m ps q
 | [],vs,ps,e,r=>by cases e;cases r;exact⟨[],rfl,rfl⟩
 | a::l,vs,ps,e,rr=>by
  refine aA rr ?_;clear rr;rintro v q rfl p F
  have:∃c x,a=.tup [.str c,x]/\∃f,kP l=some f/\ps=(c,x)::f:=by
   induction a using eV with
   | tup i =>
    induction i using fV with
    | nil=>exact bj e
    | cons b i =>
     induction b using eV with
     | str c =>
      induction i using fV with
      | nil=>exact bj e
      | cons x i =>
       induction i using fV with
       | nil =>
        have e:(match kP l with|some l=>some ((c,x)::l)|none=>none)=some ps:=e
        induction o:kP l using cN with
        | none=>replace e:=o▸e;exact bj e
        | some f=>replace e:=o▸e;cases e;exact⟨_,_,rfl,f,rfl,rfl⟩
       | cons _ _=>exact bj e
     | _=>exact bj e
   | _=>exact bj e
  refine bx this ?_;clear this;rintro c x rfl d;refine ai d ?_;clear d;rintro f C rfl
  refine ai (xR C F) fun k B y=>?_
  refine aA p ?_;clear p;rintro b i rfl z d;refine aA d fun I H A j d=>?_;refine bx j ?_;clear j;rintro w t rfl u;refine aA d fun n J E G s=>?_
  subst A E s
  exact⟨(w,n)::k,⟨b,w,t,n,k,rfl,z,rfl,B⟩,w,n,k,rfl,u,G,y⟩
theorem ze {a:Addr} {xs:Array bo} {Q:Option bo->ce->Prop} (hl:s.heap.PlainList a xs) (hA:A.handled=none) (h:∀h' tk,(∀b o,s.heap.get? b=some o->h'.get? b=some o)->Q none {s with heap:=h',toks:=tk}) :
  dk g.m A (getAttr? (.ref a) (dX "keys")) Q E s:=by
 refine aG hl fun k j=>?_
 obtain⟨n,l,d,tk,p⟩:=s
 have i:∀c,(⟨n,l,d,c,p⟩:ce).TypeIs (.ref a) "list":=fun t=>⟨_,j,rfl⟩
 have u:=sub_AttributeError
 have y:=F.slot_list_getattribute.lookup
 have v:=F.slot_list_getattribute.bind (.ref a)
 have q:=am_list_getattr_none
 unfold getAttr? getAttrBy? getAttrBy
 refine b9 (wpAny_mkText ?_)
 refine b9 (wpAny_attempt ?_)
 repeat (any_goals (first|assumption|exact i _|((with_reducible show dk _ _ (call (bo.builtin "list.__getattribute__") _ _) _ _ _);refine call_meets F.slot_list_getattribute (i _) am_entry_list_getattribute (F.args_list_getattribute_2 _ _) (meets_getattribute_miss_list a xs k #[] (dX "keys") _ qi (by decide) (by decide)) ⟨j,hA,fun h' c e f=>?_⟩)|wp_step))
 refine eM f.there fun r x w=>?_
 show dk _ _ (getattributeRaised _ _ _ _ _ _ _) _ _ _
 unfold getattributeRaised
 repeat (any_goals (first|assumption|wp_step))
 exact h _ _ f.of.keeps
theorem D7 (B:kT g) (hh:A.handled=none) (W:R g Z U s.heap) (P:Pv g F X Z U s.heap) {l:List V} {us:List bo} (r:VRs g s.heap U Z.nx l us) (h:Aq l Z k=true):dk g.m A (call (.type "dict") us) (Po g F X Z U s k) E s:=by
 refine g7 h ?_;clear h;rintro v rfl h
 refine cA h ?_;clear h;rintro i rfl h
 refine aA r ?_;clear r;rintro x q rfl K rfl;refine am K ?_;clear K;rintro rfl hi
 have h:FQ (Z.get i) Z k=true:=h
 have L:∀{p:List (Nat×V)} {d:List (Str×bo)} {G:Heap} {tk:Nat},ut p Z k=true->ERs g s.heap U Z.nx p d->G.DictOf (L1 g.prog g.w) s.heap.objs.size d->(∀b o,s.heap.get? b=some o->G.get? b=some o)->Po g F X Z U s k (.ref s.heap.objs.size) {s with heap:=G,toks:=tk}:=by
  intro p d G tk h N hd f
  refine ak h fun a6 h=>?_
  refine hU hd fun o es ep e H=>?_
  exact⟨_,_,.obj Z.nx,.new W P f _ (cn _) e (o:=.dic p) ⟨d,⟨o,es,ep,by rw[<-upd_at (U:=U) (n:=Z.nx) (a:=s.heap.objs.size)] at e;simpa [upd_at] using e,H⟩,N.mono (.of_keeps f) (fun i hi=>bu hi) (sr _)⟩,⟨aa upd_at rfl,f2 _⟩,h⟩
 induction Q:Z.get i using cN with
 | none=>replace h:=Q▸h;exact aS h
 | some o =>
  replace h:=Q▸h
  induction o using eO with
  | dic r =>
   have h:ut r Z k=true:=h
   refine ai (aB W Q) fun d hd N=>?_
   have hz:=bY (cb h).1
   rw[bB] at hz
   exact kt_call_dict (jH B W hi) hd (aa N.length (dw (by lia))) fun G j hs=>L (tk:=s.toks) h N j fun b o e=>hs.extBut b o (rd (l4 e)) (f4 _ e)
  | lst r =>
   have h:af (ua r) (cM (kP r) fun p=>ut (fJ [] p) Z k) false=true:=h
   refine ak h fun t h=>?_
   have t:=fA t
   refine bS h fun p ep h=>?_
   refine ai (aB W Q) fun vs hl Y=>?_
   refine ai (xR ep Y) fun q i1 i2=>?_
   refine callType_codes (Q₁:=fun u a4=>u=.ref s.heap.objs.size/\a4={s with heap:=s.heap.push {cls:=.type "dict",data:=.dict #[]}}) PySem.F.kt_called_dict (PySem.F.kt_typeCall_dict_1 _) PySem.F.entry_dict_init (kt_code_dict_new _ ⟨rfl,rfl⟩) ?_
   rintro u a4 ⟨rfl,rfl⟩
   have c:(s.heap.push {cls:=.type "dict",data:=.dict #[]}).DictOf (L1 g.prog g.w) s.heap.objs.size []:=Heap.DictOf.new s.heap
   refine⟨c.typeIs,PySem.F.args_dict_init_2 _ _,?_⟩
   unfold je.«dict.__init__»
   refine b9 ?_
   unfold je.Dict.selfAndRest
   refine b9 (wpAny_notOrdered_dict c.typeIs ?_)
   show dk _ _ (pure (s.heap.objs.size,[bo.ref (U i)])) _ _ _
   refine ct ?_
   show dk _ _ (je.Dict.updateFrom "dict.__init__" s.heap.objs.size (.ref (U i)) [] .none) _ _ _
   unfold je.Dict.updateFrom
   have C:(s.heap.push {cls:=.type "dict",data:=.dict #[]}).PlainList (U i) vs:=hl.at fun o e=>f4 _ e
   refine b9 (wpAny_typeOf (show({s with heap:=s.heap.push {cls:=.type "dict",data:=.dict #[]}}:ce).TypeIs (.ref (U i)) "list" from C.isList.typeIs) ?_)
   refine aa (if_pos (by decide)) ?_
   refine b9 (ze (E:=_) C hh fun S tk f=>?_)
   refine aa (if_pos (show(none:Option bo).isNone=true from rfl)) ?_
   refine b9 (wpAny_rule ?_)
   have J:S.PlainList (U i) vs:=C.at fun o e=>f _ o e
   refine b9 (wpAny_pyIter_list J.isList ?_)
   refine ct ⟨plainId_quiet lW _,?_⟩
   have M:∀b o,(s.heap.push {cls:=.type "dict",data:=.dict #[]}).get? b=some o->(S.push {cls:=.type "list_iterator",data:=.fields #[.ref (U i),.int 0 0]}).get? b=some o:=fun b o e=>f4 _ (f b o e)
   have I:∀b o,s.heap.get? b=some o->(S.push {cls:=.type "list_iterator",data:=.fields #[.ref (U i),.int 0 0]}).get? b=some o:=fun b o e=>M b o (f4 _ e)
   refine hU (id c) fun oD a8 a9 eD a7=>?_
   have a3:=l4 (f _ _ eD)
   refine aG (id hl) fun nl el=>?_
   have a1:=l4 (f _ _ (f4 _ el))
   have a2:=l4 el
   have ab:=dH Y
   have hz:=bY (cb h).1
   have a5:vs.toList.length<=5000:=by exact aa Y.length t
   refine xQ (A:=A.in1) (s:={s with heap:=S.push {cls:=.type "list_iterator",data:=.fields #[.ref (U i),.int 0 0]},toks:=tk}) (vs:=vs) hh (rd a1) (rd a2) (H5 a3) vs.toList 0 [] q rfl (J.at fun o e=>f4 _ e) ⟨_,fI _ rfl,rfl,rfl⟩ (c.at fun o e=>M _ o e) (i1.mono fun a us y=>f8 (.of_keeps I) y) (by simp only[List.length_nil];lia) fun G ad j k3=>⟨rfl,?_⟩
   refine L h ?_ j fun b o e=>k3 b o (fun z=>?_) (fun z=>?_) (I b o e)
   ·exact ERs.merge (l:=[]) (old:=[]) rfl (by simp) i2
   ·have:=l4 (f _ _ (f4 _ e));replace this:=z▸this;exact absurd this (nY _)
   ·have:=l4 e;replace this:=z▸this;exact absurd this (nY _)
  | _=>exact aS h
end
theorem qU {n:Nat} (h:n<=16777216):je.Str.tooLong n=false:=by
 unfold je.Str.tooLong
 exact decide_eq_false (by have:=sizeLine_eq;unfold sizeLine at *;lia)
theorem u8 (m:Nat):∀(l:List Str) (a:Nat),l.foldl (fun(n:Nat) (s:Str)=>n+s.length+m) a=a+(l.map (·.length)).sum+l.length*m
 | [],a=>by simp
 | s::l,a=>by
  refine aa List.foldl_cons (aa (u8 m l _) ?_)
  simp only[ol,List.sum_cons,l7,Nat.add_mul,Nat.one_mul]
  lia
theorem zf {vs:List bo} {us:List Str} (h:StrsAre vs us):∃l:List (Str×Tok),vs=strValues l/\l.map (·.1)=us:=by
 induction h with
 | nil=>exact⟨[],rfl,rfl⟩
 | cons u t h a=>refine ai a fun l b c=>?_;exact⟨(u,t)::l,aa b rfl,bw c rfl⟩
section
variable {g:Gd} {F X:Addr->Prop} {s:ce} {U:Nat->Addr} {Z:St} {A:ef} {E:bo->ce->Prop} {k:K1} {t:Nat}
theorem IJ (W:R g Z U s.heap) (P:Pv g F X Z U s.heap) {l:List V} {us:List bo} (r:VRs g s.heap U Z.nx l us) (h:FU l Z k=true):dk g.m A (call (.type "str") us) (Po g F X Z U s k) E s:=by
 refine g7 h ?_;clear h;rintro v rfl h
 refine aA r ?_;clear r;rintro x q rfl d rfl
 induction v using eV with
 | int i =>
  cases i with
  | ofNat n =>
   have h:af (eL n 9) (k (.str (SB+48+n)) Z) false=true:=h
   refine ak h fun b h=>?_
   have b:=bY b
   refine aG d ?_;clear d;rintro t rfl
   refine PySem.P.str_of_int (a:=x0 n) ?_ (.now (a:=.str (SB+48+n)) W P ⟨_,_,rfl,?_⟩ h)
   ·have:n<10:=by lia
    exact(show ∀m,m<10->(x0 m).natAbs.log2<1920 by decide) n this
   ·have:n<10:=by lia
    have c:∀n,n<10->SR (dX (toString (x0 n))) (SB+48+n):=by
     intro n b
     have:∀n,n<10->((dX (toString (x0 n))).cps.toList.all (fun x=>l9 x 0x110000)&&c6 (hV (dX (toString (x0 n))).cps.toList) (SB+48+n))=true:=by decide +kernel
     refine am (kF.mp (this n b)) fun f e=>?_
     exact⟨fun x j=>bY (dV.mp f x j),bz e⟩
    exact c n this
  | negSucc n=>exact aS h
 | _=>exact aS h
def OT (c:Nat) (cs:List Nat):Prop:=∀u,SR u c->∃ps:List Str,Txt.split u (dX ".")=ps/\IH ps cs/\u.length<=100
def IK (c:Nat):Str:=⟨(sdec c).toArray⟩
theorem D8 {c:Nat} (h:(sdec c).all (fun x=>l9 x 0x110000)=true) (h2:c6 (hV (sdec c)) c=true):SR (IK c) c :=
 ⟨fun x a=>bY (dV.mp h x a),bz h2⟩
def PI (u:Str) (c:Nat):Bool:=u.cps.toList.all (fun x=>l9 x 0x110000)&&c6 (hV u.cps.toList) c
def IL (us:List Str):List Nat->Bool:=@List.rec Str (fun b=>List Nat->Bool) (fun a=>a.isEmpty) (fun u b d a=>@List.rec Nat (fun b=>Bool) false (fun c a b=>PI u c&&d a) a) us
theorem D9 {us:List Str} {cs:List Nat} (h:IL us cs=true):IH us cs:=by
 induction us generalizing cs with
 | nil=>cases cs<;>first | rfl | exact aS h
 | cons u us a =>
  induction cs using fV with
  | nil=>exact aS h
  | cons c cs =>
   have h:=kF.mp (show(PI u c&&IL us cs)=true from h)
   have k:=kF.mp h.1
   exact⟨c,cs,rfl,⟨fun x b=>bY (dV.mp k.1 x b),bz k.2⟩,a h.2⟩
theorem Ea:∀p∈splT,OT p.1 p.2:=by
 have:splT.all (fun p=>(sdec p.1).all (fun x=>l9 x 0x110000)&&c6 (hV (sdec p.1)) p.1&&IL (Txt.split (IK p.1) (dX ".")) p.2&&eL (IK p.1).length 100)=true:=by decide +kernel
 intro p a u b
 have h:=dV.mp this p a
 simp only[h9] at h
 obtain rfl:=b.inj (D8 h.1.1.1 h.1.1.2)
 exact⟨_,rfl,D9 h.1.2,bY h.2⟩
theorem u9 {α:Type} {c:Nat} {a:α}:∀{l:List (Nat×α)},az c l=some a->(c,a)∈l
 | [],e=>by exact bj e
 | (j,b)::l,e=>by
  rw[ax] at e
  by_cases h:j=c
  ·replace e:=if_pos h▸e;cases e;subst h;exact .head _
  ·replace e:=if_neg h▸e;exact .tail _ (u9 e)
theorem Bl {h:Heap} {m:Nat} {vs:List bo} {us:List Str} {cs:List Nat} (hs:StrsAre vs us) (e:IH us cs):VRs g h U m (cs.map V.str) vs:=by
 induction hs generalizing cs with
 | nil=>cases e;exact rfl
 | cons u t hs b =>
  refine aA e ?_;clear e;rintro c r rfl d a
  exact⟨_,_,rfl,⟨u,t,rfl,d⟩,b a⟩
theorem Bm (W:R g Z U s.heap) (P:Pv g F X Z U s.heap) {c:Nat} {u:Str} {tk:Tok} (hu:SR u c) {l:List V} {us:List bo} (r:VRs g s.heap U Z.nx l us) (h:sO c l Z k=true):dk g.m A (call (.builtin "str.split") (.str u tk::us)) (Po g F X Z U s k) E s:=by
 refine g7 h ?_;clear h;rintro v rfl h
 refine gC h ?_;clear h;rintro d rfl h
 refine ak h fun H h=>?_
 refine bS h fun n L h=>?_
 refine aA r ?_;clear r;rintro x q rfl f rfl;refine bx f ?_;clear f;rintro y i rfl C
 have j:SR (dX ".") d:=by exact aa (bz H) ⟨by decide +kernel,by decide +kernel⟩
 obtain rfl:=C.inj j
 refine dS (Ea _ (u9 L) u hu) fun G p B M=>?_
 refine ak h fun w h=>?_
 have I:u.length+2<=sizeLine:=by refine aa sizeLine_eq ?_;lia
 have e:((dX ".").length==0)=false:=by decide +kernel
 have a:∀(l:List (Str×Tok)) (b:Nat),l.map (·.1)=Txt.split u (dX ".")->Po g F X Z U s k (.ref s.heap.objs.size) {s with heap:=s.heap.push {cls:=.type "list",data:=.seq (strValues l).toArray},toks:=b}:=by
  intro l b J
  have K:StrsAre (strValues l) G:=by exact bw p (bw J (strsAre_of_values l))
  have t:VRs g (s.heap.push {cls:=.type "list",data:=.seq (strValues l).toArray}) (i6 U Z.nx s.heap.objs.size) (Z.nx+1) (n.map V.str) (strValues l).toArray.toList:=by exact aa List.toList_toArray (Bl K B)
  exact⟨_,_,.obj Z.nx,.push W P _ (o:=.lst (n.map V.str)) ⟨_,⟨_,fI _ rfl⟩,t⟩ rfl,⟨aa upd_at rfl,f2 _⟩,h⟩
 have z:(je.Str.partsBetween u (je.Str.occurrences u (dX ".") 0 u.length (u.length+1)) (dX ".").length).length<=sizeLine:=by
  have p:=StrLaws.occ_length_le u (dX ".") 0 u.length (u.length+1)
  rw[length_partsBetween];lia
 cases h1:(decide (u.length<(dX ".").length)||decide (je.Str.strKind u<je.Str.strKind (dX ".")))
 ·cases hf:(je.Str.occurrences u (dX ".") 0 u.length (u.length+1)).isEmpty
  ·refine call_meets PySem.F.slot_str_split (typeIs_str _ _ _) PySem.F.entry_str_split (PySem.F.args_str_split_2 _ _) (meets_str_split_sep u (dX ".") tk i h1 e hf (by lia) z) ?_
   show wants _ _ _ {s with toks:=_,heap:=s.heap.push {cls:=.type "list",data:=.seq (strsFrom s.toks (je.Str.partsBetween u (je.Str.occurrences u (dX ".") 0 u.length (u.length+1)) (dX ".").length)).toArray}}
   refine aa (strsFrom_eq _ _) ?_
   exact a (numbered s.toks _) _ ((numbered_texts _ _).trans ((if_neg (ne_true_of_eq_false h1)).trans (if_neg (ne_true_of_eq_false hf))).symm)
  ·exact call_meets PySem.F.slot_str_split (typeIs_str _ _ _) PySem.F.entry_str_split (PySem.F.args_str_split_2 _ _) (meets_str_split_not_found u (dX ".") tk i h1 e hf)
    (a [(u,tk)] s.toks ((if_neg (ne_true_of_eq_false h1)).trans (if_pos hf)).symm)
 ·exact call_meets PySem.F.slot_str_split (typeIs_str _ _ _) PySem.F.entry_str_split (PySem.F.args_str_split_2 _ _) (meets_str_split_cannot_occur u (dX ".") tk i h1)
   (a [(u,tk)] s.toks (if_pos h1).symm)
theorem vc {u:Str} {c:Nat} (hu:SR u c):∀{us:List Str} {cs:List Nat},IH us cs->SR (E9 u us) (pe c cs)
 | [],_,e=>by cases e;exact⟨fun x g=>(by cases g),rfl⟩
 | [a],_,⟨b,r,e,ha,hr⟩=>by subst e;cases hr;exact ha
 | a::b::us,_,⟨x,r,e,ha,hr⟩=>by
  subst e
  refine aA (id hr) fun y f d i h=>?_
  subst d
  show SR (a++u++E9 u (b::us)) (uj x (uj c (pe c (y::f))))
  have:=ha.cat (hu.cat (vc hu hr))
  have e:a++u++E9 u (b::us)=a++(u++E9 u (b::us)):=by
   show Str.mk ((a.cps++u.cps)++(E9 u (b::us)).cps)=Str.mk (a.cps++(u.cps++(E9 u (b::us)).cps))
   exact aa Array.append_assoc rfl
  exact aa e this
theorem Bo {h:Heap} {m:Nat}:∀{l:List V} {vs:List bo} {n:Nat},VRs g h U m l vs->NE l=some n->∃us,StrsAre vs us/\(us.map (·.length)).sum<=n/\∀u∈us,∀y∈u.cps.toList,y<55296
 | [],vs,n,r,e=>by cases r;cases e;exact⟨[],.nil,e5 _,fun u p=>by cases p⟩
 | a::l,vs,n,⟨v,q,ev,ra,rq⟩,e=>by
  subst ev
  have e:@Option.rec Nat (fun i=>Option Nat) none (fun m=>@Option.rec Nat (fun i=>Option Nat) none (fun n=>some (jf m n)) (NE l)) (FN a)=some n:=e
  induction d:FN a using cN with
  | none=>replace e:=d▸e;exact bj e
  | some z =>
   replace e:=d▸e
   induction c:NE l using cN with
   | none=>replace e:=c▸e;exact bj e
   | some x =>
    replace e:=c▸e;cases e
    refine aA (pL ra d) ?_;rintro u t rfl j f
    refine dS (Bo rq c) fun us s k o=>?_
    refine⟨u::us,.cons u t s,?_,fun w b=>?_⟩
    ·exact aa ol (aa List.sum_cons (Nat.add_le_add j k))
    ·rcases gg.mp b with rfl|b
     ·exact f
     ·exact o w b
theorem qj {u:Str} (hu:∀y∈u.cps.toList,y<55296):∀{us:List Str},(∀w∈us,∀y∈w.cps.toList,y<55296)->∀y∈(E9 u us).cps.toList,y<55296
 | [],_,y,c=>by cases c
 | [a],h,y,c=>h a (.head _) y c
 | a::b::us,h,y,c=>by
  have e:(E9 u (a::b::us)).cps.toList=a.cps.toList++u.cps.toList++(E9 u (b::us)).cps.toList:=by
   show((a.cps++u.cps)++(E9 u (b::us)).cps).toList=_
   simp
  replace c:=e▸c
  rcases List.mem_append.mp c with c|c
  ·rcases List.mem_append.mp c with c|c
   ·exact h a (.head _) y c
   ·exact hu y c
  ·exact qj hu (fun w m=>h w (.tail _ m)) y c
theorem vd {m:Made} {w:Str} {Q:bo->ce->Prop} (e:m=.str w) (hz:w.length<=sizeLine) (h:∀t n,Q (.str w t) {s with toks:=n}):m.post Q s:=by
 subst e
 exact⟨hz,h _ _⟩
theorem Eb (W:R g Z U s.heap) (P:Pv g F X Z U s.heap) {c:Nat} {u:Str} {tk:Tok} (hu:SR u c) {l:List V} {us:List bo} (r:VRs g s.heap U Z.nx l us) (h:wl c l Z k=true):dk g.m A (call (.builtin "str.join") (.str u tk::us)) (Po g F X Z U s k) E s:=by
 refine g7 h ?_;clear h;rintro v rfl h
 refine cA h ?_;clear h;rintro i rfl h
 refine fz h fun l el h=>?_
 refine aA r ?_;clear r;rintro x q rfl y rfl;refine am y ?_;clear y;rintro rfl hi
 refine ak h fun M h=>?_
 have M:=fA M
 refine ai (aB W el) fun vs hl H=>?_
 have go:∀{d:List Str} {a:V},StrsAre vs.toList d->(d.map (·.length)).sum+d.length*u.length<=16777216->(∀w t,w=E9 u d->VR g s.heap U Z.nx a (.str w t))->k a Z=true->dk g.m A (call (.builtin "str.join") [.str u tk,.ref (U i)]) (Po g F X Z U s k) E s:=by
  intro d a sa f Q hk
  refine ai (zf sa) fun J L j=>?_
  have K:s.heap.IsList (U i) (strValues J).toArray:=by
   exact bw L (aa B1 hl.isList)
  refine call_meets PySem.F.slot_str_join (typeIs_str _ _ _) PySem.F.entry_str_join (PySem.F.args_str_join_2 _ _) (meets_str_join_list u tk (U i) J ?_) ⟨K,?_⟩
  ·refine aa j ?_;rw[List.foldl_toArray,u8]
   exact qU (by lia)
  ·have o:(E9 u d).length<=sizeLine:=by
    refine bw (StrLaws.glued_eq_join _ _) (aa (size_glued _ _) (aa sizeLine_eq ?_))
    have:(d.length - 1)*u.length<=d.length*u.length:=w7 _ (Nat.sub_le _ _)
    lia
   have z:∀{t n:Nat},Po g F X Z U s k (.str (E9 u d) t) {s with toks:=n}:=fun{t n}=>.now W P (Q _ t rfl) hk
   match J,j with
   | [p],j =>
    subst j
    exact Po.here W P (Q _ _ rfl) hk
   | [],j =>
    have:je.Str.glued u []=E9 u d:=by exact bw j (bw (StrLaws.glued_eq_join _ _) rfl)
    refine vd (w:=E9 u d) ?_ o fun t n=>z
    exact bw this rfl
   | p::q::r,j =>
    have:je.Str.glued u ((p::q::r).map (·.1))=E9 u d:=by exact aa j (aa (StrLaws.glued_eq_join _ _) rfl)
    refine vd (w:=E9 u d) ?_ o fun t n=>z
    exact bw this rfl
 induction I:jg l using cN with
 | some Y =>
  replace h:=I▸h
  refine ak h fun f h=>?_
  have f:jm (pe c Y)+jm c<=100000:=bY f
  refine ai (tG I H) fun d G N=>?_
  have C:=vc hu N
  replace f:=(C.len)▸f;replace f:=(hu.len)▸f;rewrite[<-StrLaws.glued_eq_join,size_glued] at f
  refine go (a:=.str (pe c Y)) G ?_ (fun w t e=>by subst e;exact⟨_,t,rfl,C⟩) h
  induction d using fV with
  | nil=>simp
  | cons a b =>
   simp only[l7,Nat.add_sub_cancel] at f ⊢
   have:(b.length+1)*u.length=b.length*u.length+u.length:=by rewrite[Nat.add_mul];exact aa (Nat.one_mul _) rfl
   lia
 | none =>
  replace h:=I▸h
  have h:FZ c l Z k=true:=h
  refine bS h fun m L h=>?_
  refine bS h fun n j h=>?_
  refine ak h fun f h=>?_
  have f:n+m*len l<=10000:=bY f
  rw[bB] at f
  refine aA (pL (g:=g) (h:=s.heap) (U:=U) (m:=Z.nx) (a:=.str c) ⟨u,tk,rfl,hu⟩ L) fun u' t' e3 l1 c1=>?_
  cases e3
  refine dS (Bo H j) fun d G N a3=>?_
  have B:d.length=l.length:=by exact bw G.length (aa H.length rfl)
  have S:d.length*u.length<=m*l.length:=by exact aa B (aa (Nat.mul_comm _ _) (w7 _ l1))
  have C:(E9 u d).length<=n+m*len l:=by
   refine aa (bB _) (bw (StrLaws.glued_eq_join _ _) (aa (size_glued _ _) ?_))
   have:(d.length - 1)*u.length<=d.length*u.length:=w7 _ (Nat.sub_le _ _)
   lia
  exact go (a:=.ab 2 (n+m*len l)) G (by lia) (fun w t e=>by subst e;exact⟨_,t,rfl,C,qj c1 a3⟩) h
end
theorem Bp (y:Nat):(Str.utf8Of y).length<=4:=by
 unfold Str.utf8Of
 split<;>(try split)<;>(try split)<;>simp
theorem rD:∀(l:List Nat) (a:Array UInt8),(l.foldl (fun acc y=>acc++(Str.utf8Of y).toArray) a).size<=a.size+4*l.length
 | [],a=>by simp
 | y::l,a=>by
  refine aa List.foldl_cons ?_
  have b:=rD l (a++(Str.utf8Of y).toArray)
  have e:=Bp y
  have c:(a++(Str.utf8Of y).toArray).size=a.size+(Str.utf8Of y).length:=by simp
  replace b:=c▸b
  have d:(y::l).length=l.length+1:=rfl
  lia
theorem rE:(dX "utf-8").cps.any (fun x=>decide (x>=128))=false/\(dX "utf-8").cps.contains 0=false:=by decide +kernel
section
variable {prog:KE} {w:World} {A:ef} {E:bo->ce->Prop} {s:ce}
theorem ve {x:Str} {t u:Tok} {Q:PySem.Fin->ce->Prop} (h:dk (model prog w) A (do ret (<-je._codecs.encodeRoad "str.encode" (.str x t) x (dX "utf-8") none)) Q E s) :
 dk (model prog w) A (je.«str.encode» ⟨[.str x t,.str (dX "utf-8") u],[]⟩) Q E s:=by
 have a:=typeIs_str s (dX "utf-8") u
 unfold je.«str.encode»
 simp only[je.Str.strSelf,je.Str.bindOptional,je.Str.codecArg]
 repeat (first|assumption|wp_step)
 refine aa rE.1 (aa rE.2 ?_)
 simp only[B0,if_false]
 exact ct h
theorem zg {cs:Array Nat} (hp:∀y∈cs.toList,y<55296):cs.findIdx? Str.isSurrogate=none:=by
 rw[Array.findIdx?_eq_none_iff]
 intro y a
 have:=hp y (by simpa using a)
 unfold Str.isSurrogate
 simp only[Bool.and_eq_false_iff,decide_eq_false_iff_not]
 left;lia
theorem OU {α:Type} {c:Prop} {_:Decidable c} {ρ D r:α} {o:Option Nat} {x:Nat} {f:Nat->α} (hc:¬c) (ho:o=some x) (hf:f x=r):(if c then ρ else match (generalizing:=false) o with|some x=>f x|_=>D)=r:=by exact aa (if_neg hc) (aa ho hf)
theorem OV {α:Type} {c:Prop} {_:Decidable c} {ρ D:α} {o:Option Nat} {f:Nat->α} (hc:¬c) (ho:o=none):(if c then ρ else match (generalizing:=false) o with|some x=>f x|_=>D)=D:=by exact aa (if_neg hc) (aa ho rfl)
theorem Mu {S:Type} {N:Nat} {a b:S} {B:Nat->S->Sem (ForInStep S)} {Q:S->ce->Prop} (h0:N=0->Q a s) (h1:0<N->B 0 a=pure (.yield b)/\B 1 b=pure (.done b)/\Q b s):dk (model prog w) A (forIn [0:N] a B) Q E s:=by
 rw[Std.Legacy.Range.forIn_eq_forIn_range',Std.Legacy.Range.size,Nat.sub_zero,Nat.add_sub_cancel,Nat.div_one]
 induction N using jq with
 | zero=>exact ct (h0 rfl)
 | succ n =>
  refine cE (h1 (Nat.succ_pos n)) fun d c q=>?_
  show dk _ _ (forIn (List.range' 0 (n+1)) a B) _ _ _
  refine aa List.range'_succ ?_;rewrite[tc];refine aa d ?_
  refine b9 (ct ?_)
  dsimp only
  induction n using jq with
  | zero=>exact ct q
  | succ n =>
   refine aa List.range'_succ ?_;rewrite[tc];refine aa c ?_
   exact b9 (ct (ct q))
theorem nW {u:Str} {id:String} {self:bo} (hp:∀y∈u.cps.toList,y<55296) (hz:u.length<=10000) {Q:Array UInt8->ce->Prop} (h:∀b,b.size<=40000->Q b s) :
  dk (model prog w) A (je._codecs.encodeNarrow id nI none self u) Q E s:=by
 have d:u.cps.extract 0 u.cps.size=u.cps:=by simp
 have f:(u.cps.extract 0 u.cps.size).findIdx? nI.bad=none:=by exact aa d (zg hp)
 have g:(Array.foldl (fun a y=>a++(nI.bytesOf y).toArray) (#[]:Array UInt8) ((u.cps.extract 0 u.cps.size).extract 0 (((u.cps.extract 0 u.cps.size).findIdx? nI.bad).getD (u.cps.extract 0 u.cps.size).size))).size<=40000:=by
  refine aa f (aa d (aa Option.getD_none (aa d (bw (Array.foldl_toList _) ?_))))
  have:=rD u.cps.toList #[]
  have l:u.cps.toList.length=u.length:=ir
  have k:(#[]:Array UInt8).size=0:=rfl
  replace this:=k▸l▸this
  exact hD this (by lia)
 refine b9 (Mu (b:=(0+((u.cps.extract 0 u.cps.size).findIdx? nI.bad).getD (u.cps.extract 0 u.cps.size).size,Array.foldl (fun a y=>a++(nI.bytesOf y).toArray) (#[]:Array UInt8) ((u.cps.extract 0 u.cps.size).extract 0 (((u.cps.extract 0 u.cps.size).findIdx? nI.bad).getD (u.cps.extract 0 u.cps.size).size)),{})) (fun _=>ct (h _ (L2 _))) fun e=>?_)
 obtain⟨x,i,m⟩:∃x,u.cps[0]?=some x/\x<55296:=by
  have e:0<u.cps.size:=e
  exact⟨u.cps[0],by simp[e],hp _ (by simp)⟩
 have c:(!nI.bad x)=true:=by
  show(!Str.isSurrogate _)=true
  unfold Str.isSurrogate
  simp only[C3,Bool.and_eq_false_iff,decide_eq_false_iff_not]
  left;lia
 have j:u.cps[0+((u.cps.extract 0 u.cps.size).findIdx? nI.bad).getD (u.cps.extract 0 u.cps.size).size]?=none:=by refine aa f (aa d ?_);simp
 refine⟨?_,?_,ct (h _ g)⟩
 ·dsimp only
  refine OU ?_ i ?_
  ·exact Nat.not_lt_zero _
  ·exact if_pos c
 ·dsimp only
  refine OV ?_ j
  exact ji (hD g (show 40000<=sizeLine by refine aa sizeLine_eq ?_;decide))
end
section
variable {g:Gd} {F X:Addr->Prop} {s:ce} {U:Nat->Addr} {Z:St} {A:ef} {E:bo->ce->Prop} {k:K1} {t:Nat}
theorem Ec:SR (dX "utf-8") j3:=⟨by decide +kernel,by decide +kernel⟩
theorem rF (W:R g Z U s.heap) (P:Pv g F X Z U s.heap) {v:V} {u:Str} {tk:Tok} {l:List V} {us:List bo} (hv:VR g s.heap U Z.nx v (.str u tk)) (r:VRs g s.heap U Z.nx l us) (h:gA v l Z k=true):dk g.m A (call (.builtin "str.encode") (.str u tk::us)) (Po g F X Z U s k) E s:=by
 refine g7 h ?_;clear h;rintro a rfl h
 refine gC h ?_;clear h;rintro d rfl h
 refine ak h fun t h=>?_
 refine bS h fun n p h=>?_
 refine ak h fun f h=>?_
 have f:=bY f
 refine aA r ?_;clear r;rintro x q rfl c rfl;refine bx c ?_;clear c;rintro y C rfl i
 replace i:=bz t▸i
 obtain rfl:=i.inj Ec
 refine aA (pL hv p) fun B w e o j=>?_
 cases e
 refine wpAny_call_entry PySem.F.slot_str_encode (typeIs_str _ _ _) PySem.F.entry_str_encode (ve ?_) (PySem.F.args_str_encode_2 _ _)
 rw[encodeRoad_utf8]
 refine b9 (b9 (nW j (hD o f) fun b z=>wpAny_mkBytes ?_ (by refine aa sizeLine_eq ?_;lia)))
 exact ct ⟨_,rfl,.now (a:=.byt 0) W P ⟨_,_,rfl⟩ h⟩
end
theorem zh:nm cG=dX "append":=rfl
theorem Bq:nm jd=dX "pop":=rfl
theorem zi:nm hW=dX "update":=rfl
theorem zj:nm eQ=dX "extend":=rfl
theorem Br:nm j0=dX "index":=rfl
theorem IM:nm oR=dX "get":=rfl
theorem Bs:nm iF=dX "split":=rfl
theorem rG:nm dU=dX "encode":=rfl
theorem Ed:nm iG=dX "join":=rfl
theorem wJ {b:Bool} {x:Bool} (h:af b true x=true):b=true\/(b=false/\x=true):=by cases b<;>simp[af] at h ⊢;exact h
section
variable {g:Gd} {s:ce} {U:Nat->Addr} {Z:St} {A:ef} {E:bo->ce->Prop} {i:Nat} {pl:Sem Bool}
theorem xS {r:List V} {name:Str} {id:String} {Q:bo×List bo->ce->Prop} (W:R g Z U s.heap) (ei:Z.get i=some (.lst r)) (slot:Slot "list" name id) (hty:typeOf (.builtin id)=pure (.type "method_descriptor"))
  (h:Q (.builtin id,[.ref (U i)]) s):dk g.m A (getMethod (.ref (U i)) name pl) Q E s:=by
 refine ai (aB W ei) fun f b d=>?_;refine aG b fun n c=>?_
 exact getMethod_builtin ⟨_,c,rfl⟩ PySem.F.plainAttrs_list slot hty (fun a e=>by cases e;exact⟨_,c,rfl⟩) h
theorem Bt {r:List (Nat×V)} {name:Str} {id:String} {Q:bo×List bo->ce->Prop} (W:R g Z U s.heap) (ei:Z.get i=some (.dic r)) (slot:Slot "dict" name id) (hty:typeOf (.builtin id)=pure (.type "method_descriptor"))
  (h:Q (.builtin id,[.ref (U i)]) s):dk g.m A (getMethod (.ref (U i)) name pl) Q E s:=by
 refine ai (aB W ei) fun b a c=>?_
 exact getMethod_builtin a.typeIs PySem.F.plainAttrs_dict slot hty a.mapOf.noDict h
theorem xT {u:Str} {t:Tok} {name:Str} {id:String} {Q:bo×List bo->ce->Prop} (slot:Slot "str" name id) (hty:typeOf (.builtin id)=pure (.type "method_descriptor"))
  (h:Q (.builtin id,[.str u t]) s):dk g.m A (getMethod (.str u t) name pl) Q E s :=
 getMethod_builtin (typeIs_str _ _ _) PySem.F.plainAttrs_str slot hty (fun a e=>by cases e) h
end
theorem OW {c:Nat} {l:List V} {Z:St} {k:K1} (h:yJ dU c l Z k=true):gA (.str c) l Z k=true:=h
theorem OX {c:Nat} {l:List V} {Z:St} {k:K1} (h:yJ iF c l Z k=true):sO c l Z k=true:=h
theorem OY {c:Nat} {l:List V} {Z:St} {k:K1} (h:yJ iG c l Z k=true):wl c l Z k=true:=h
theorem IN {g:Gd} {F X:Addr->Prop} {s:ce} {U:Nat->Addr} {Z:St} {A:ef} {E:bo->ce->Prop} {l:List V} {us:List bo} {k:K1} (W:R g Z U s.heap) (P:Pv g F X Z U s.heap) (r:VRs g s.heap U Z.nx l us) (h:FV l Z k=true) :
  dk g.m A (f5 (jK .int) us) (Po g F X Z U s k) E s:=by
 refine g7 h ?_;clear h;rintro v rfl h
 refine kR h ?_;clear h;rintro i rfl h
 refine aA r ?_;clear r;rintro w q rfl b c;refine aG b ?_;clear b;rintro t rfl
 cases c
 exact PySem.call_int_int (.here (a:=.int i) W P ⟨t,rfl⟩ h)
theorem OZ {g:Gd} (B:kT g):Prim g where
 bi:=by
  intro A F X E b l Z k U s m n p h W P r
  cases b with
  | tuple=>exact AK W P r h
  | list=>exact Dy W P r h
  | len=>exact HW B W P r h
  | dict=>exact D7 B (p rfl) W P r h
  | sorted=>exact zd B (p rfl) W P r h
  | str=>exact IJ W P r h
  | int=>exact IN W P r h
  | _=>exact aS h
 lm:=by
  intro A E a Z U s i r o j W d
  rcases wJ j with e|⟨w,j⟩
  ·obtain rfl:=bz e
   refine⟨"list.append",by intro Q h;refine aa zh ?_;exact xS W d PySem.F.slot_list_append PySem.F.type_list_append h,?_⟩
   intro A F X E Z U s i r l k m n d h W P f
   exact yU W P d f h
  rcases wJ j with e|⟨q,j⟩
  ·obtain rfl:=bz e
   refine⟨"list.pop",by intro Q h;refine aa Bq ?_;exact xS W d PySem.F.slot_list_pop PySem.F.type_list_pop h,?_⟩
   intro A F X E Z U s i r l k m n d h W P f
   exact HX W P d f h
  rcases wJ j with e|⟨z,j⟩
  ·obtain rfl:=bz e
   refine⟨"list.extend",by intro Q h;refine aa zj ?_;exact xS W d PySem.F.slot_list_extend PySem.F.type_list_extend h,?_⟩
   intro A F X E Z U s i r l k m n d h W P f
   exact zc W P d f h
  ·obtain rfl:=bz j
   refine⟨"list.index",by intro Q h;refine aa Br ?_;exact xS W d PySem.F.slot_list_index PySem.F.type_list_index h,?_⟩
   intro A F X E Z U s i r l k m n d h W P f
   exact Bg W P d f h
 dm:=by
  intro A E a Z U s i r o j W d
  rcases wJ j with e|⟨w,j⟩
  ·obtain rfl:=bz e
   refine⟨"dict.get",by intro Q h;refine aa IM ?_;exact Bt W d PySem.F.slot_dict_get PySem.F.type_dict_get h,?_⟩
   intro A F X E Z U s i r l k m n d h W P f
   exact II B W P d f h
  rcases wJ j with e|⟨q,j⟩
  ·obtain rfl:=bz e
   refine⟨"dict.pop",by intro Q h;refine aa Bq ?_;exact Bt W d PySem.F.slot_dict_pop PySem.F.type_dict_pop h,?_⟩
   intro A F X E Z U s i r l k m n d h W P f
   exact D5 B W P d f h
  ·obtain rfl:=bz j
   refine⟨"dict.update",by intro Q h;refine aa zi ?_;exact Bt W d PySem.F.slot_dict_update PySem.F.type_dict_update h,?_⟩
   intro A F X E Z U s i r l k m n d h W P f
   exact D6 B W P d f h
 sm:=by
  intro A E a s c u t o j n
  rcases wJ j with e|⟨w,j⟩
  ·obtain rfl:=bz e
   refine⟨"str.split",by intro Q h;refine aa Bs ?_;exact xT (name:=dX "split") (id:="str.split") PySem.F.slot_str_split PySem.F.type_str_split h,?_⟩
   intro A F X E Z U s l k m _ h W P f
   exact Bm W P n f (OX h)
  rcases wJ j with e|⟨q,j⟩
  ·obtain rfl:=bz e
   refine⟨"str.encode",by intro Q h;refine aa rG ?_;exact xT (name:=dX "encode") (id:="str.encode") PySem.F.slot_str_encode PySem.F.type_str_encode h,?_⟩
   intro A F X E Z U s l k m _ h W P f
   exact rF W P (v:=.str c) (u:=u) (tk:=t) ⟨u,t,rfl,n⟩ f (OW h)
  ·obtain rfl:=bz j
   refine⟨"str.join",by intro Q h;refine aa Ed ?_;exact xT (name:=dX "join") (id:="str.join") PySem.F.slot_str_join PySem.F.type_str_join h,?_⟩
   intro A F X E Z U s l k m _ h W P f
   exact Eb W P n f (OY h)
 en:=by
  intro A E s c u t o x y
  refine⟨"str.encode",by intro Q h;refine aa rG ?_;exact xT (name:=dX "encode") (id:="str.encode") PySem.F.slot_str_encode PySem.F.type_str_encode h,?_⟩
  intro A F X E Z U s l k m _ h W P f
  exact rF W P (v:=.ab 2 c) ⟨u,t,rfl,x,y⟩ f h
section
variable {g:Gd} {F X:Addr->Prop} {s:ce} {U:Nat->Addr} {Z:St} {A:ef} {E:bo->ce->Prop} {k:K1} {t:Nat} {K:Frag}
theorem Bu {c:Nat} (h:c%100<=2):jG (c%100)=true:=iw h
theorem Go.exnField (W:R g Z U s.heap) (P:Pv g F X Z U s.heap) {i c d:Nat} (ei:Z.get i=some (.exn c d)) {oe:Obj} {vs:Array bo} (e:s.heap.get? (U i)=some oe) (dv:oe.data=.fields vs) {j:Nat} {v:bo} (h1:j≠1\/c<100) (h2:j≠2\/c%100=2) :
  Go g F X Z U s Z U {s with heap:=s.heap.update (U i) (B4 (·.setIfInBounds j v)),toks:=t}:=by
 refine cE (aB W ei) fun a C p=>?_;refine oN a fun n r h q k y m B f=>?_;refine am f fun w G=>?_
 replace h:=e▸h;cases h
 replace k:=dv▸k;cases k
 have l:=l5 (B4 (·.setIfInBounds j v)) e (IC (q0 dv _))
 refine .same' W P ei (fun b o x e=>(ix _ _ (Ne.symm x)).trans e) l fun I=>⟨⟨_,_,l,(Obj.cls_mapFields _ _).trans q,q0 dv _,by simpa using y,?_,fun z=>?_,by simpa using w,fun z=>?_⟩,C,p⟩
 ·obtain⟨H,A,u,E⟩:=oe
  simp only at dv m;subst dv
  exact m
 ·rcases h1 with h1|h1
  ·rw[C6 h1];exact B z
  ·lia
 ·rcases h2 with h2|h2
  ·rw[C6 h2];exact G z
  ·exact absurd h2 z
theorem vf (EO:ExcCls g K) (W:R g Z U s.heap) (P:Pv g F X Z U s.heap) {i c d:Nat} {v:bo} (ei:Z.get i=some (.exn c d)) (h:k .none Z=true) :
  dk g.m A (call (.builtin "Exception.__init__") [.ref (U i),v]) (Po g F X Z U s k) E s:=by
 have l:=PySem.F.excBase_Exception
 refine cE (aB W ei) fun z hd Y=>?_;refine qH z fun oe M B x2 G x4 x5=>?_
 refine ai (EO.cls _ (Bu Y)) fun oC hB C=>?_
 obtain⟨nm,q,N,bs,bm,Q,sn,S,ab,a1,dd,k0,k1,k2,k3,k5,C,I⟩:=C
 replace hB:=C▸hB
 have J:=W.base _ _ hB
 have L:=I.base
 have y:=l.noStar
 obtain⟨b,n,o,e,u⟩:=s
 dsimp only at B J
 refine wpAny_call (codeAny_call_builtin l.init.plain l.initEntry ?_)
 simp only[checkBuiltinCall,l.initKind,l.initSplit,l.initRow]
 repeat (first|(with_reducible refine H4 B ?_;refine aa x2 ?_)|with_reducible refine H4 J ?_|(with_reducible refine wpAny_isSubtype_exc J ?_;refine aa L ?_)|wp_step)
 have H:Go g F X Z U ⟨b,n,o,e,u⟩ Z U ⟨b.push {cls:=.type "tuple",data:=.seq [v].toArray},n,o,e,u⟩:=.grow (s:=⟨b,n,o,e,u⟩) (t:=e) W P (aF _ _)
 have w:=aF b {cls:=.type "tuple",data:=.seq [v].toArray} _ _ B
 obtain⟨f,e0⟩:∃f,M[0]?=some f:=⟨M[0],by simp⟩
 refine aa G ?_
 refine ct ?_
 refine aa e0 ?_
 refine ct ?_
 refine b9 (wpAny_setField w G (by lia) ?_)
 have G2:=Go.exnField (t:=e) (j:=0) (v:=.ref b.objs.size) (s:=⟨b.push {cls:=.type "tuple",data:=.seq [v].toArray},n,o,e,u⟩) H.r H.p ei w G (.inl (by decide)) (.inl (by decide))
 have x:Po g F X Z U ⟨b,n,o,e,u⟩ k .none ⟨(b.push {cls:=.type "tuple",data:=.seq [v].toArray}).update (U i) (B4 (·.setIfInBounds 0 (.ref b.objs.size))),n,o,e,u⟩ :=
  ⟨Z,U,.none,H.trans W G2,rfl,h⟩
 cases f with
 | ref a=>exact wpAny_letGo (ct x)
 | _=>exact ct (ct x)
end
structure ClsM (g:Gd) (K:Frag) (cc a i:Nat):Prop where
 reads:readsIn K (g.ca cc) (.type "type")=true
 find:findCls K (.ref (g.ca cc)) (.type "type") (nm a)=some (.val (.ref (g.fa i)))
 ga:specialIn K (.ref (g.ca cc)) "__getattribute__"=some (some (.builtin "type.__getattribute__"))
section
variable {prog:KE} {w:World} {A:ef} {E:bo->ce->Prop} {s:ce} {K:Frag}
theorem Bv {C:Addr} {name:Str} {v:bo} {pl:Sem Bool} {Q:bo×List bo->ce->Prop} (X:K.In s.heap) (h1:readsIn K C (.type "type")=true) (h2:findCls K (.ref C) (.type "type") name=some (.val v)) (hh:handedIn v=true)
  (h3:specialIn K (.ref C) "__getattribute__"=some (some (.builtin "type.__getattribute__"))) (h:Q (v,[]) {s with toks:=s.toks+1}):dk (model prog w) A (getMethod (.ref C) name pl) Q E s :=
 method_cls X h3 (cls_value X h1 h2 hh h)
theorem zk {T:String} {name:Str} {v:bo} {pl:Sem Bool} {Q:bo×List bo->ce->Prop} (X:K.In s.heap) (ht:typeOf (.type T)=pure (.type "type")) (hs:Manifest.isStub T=false)
  (e:findCls K (.type T) (.type "type") name=some (.val v)) (hh:handedIn v=true) (h:Q (v,[]) {s with toks:=s.toks+1}):dk (model prog w) A (getMethod (.type T) name pl) Q E s:=by
 have a:opaqueClassAbove (.type T)=pure none:=by unfold opaqueClassAbove;dsimp only;exact aa hs rfl
 have c:Looks (model prog w) s.heap (typeOf (.type T)) (.type "type"):=Looks.of_pure ht
 have d:findIn K (.type "type") "__getattribute__"=some (some (.builtin "type.__getattribute__")):=type_tga
 unfold getMethod specialOf
 refine b9 (b9 (c.here ((looks_findIn X d).here ?_)))
 dsimp only
 refine aa (if_pos canon_tga) ?_
 refine b9 (dt (Q:=fun v=>Q (v,[])) (E:=E) ?_ (fun b b z=>ct z) fun b b z=>z)
 have f:Looks (model prog w) s.heap (opaqueClassAbove (.type T)) none:=Looks.of_pure a
 exact cls_open X f c d (looks_hook X (r:=none) (by rfl)) (by show subIn K _ _=_;rfl) e
  (ct (by show dk _ _ (handedOut v) _ _ _;refine aa (handedOut_of hh) ?_;exact ct h))
end
section
variable {g:Gd} {gT:Tx} {fn:Bool} {sc:Scope} {K:Frag} {aT:List Nat}
theorem Gh {fE:Expr} {a:Nat} {as:X} {ap p:Pos} {call:Call} {A:ef} {F:Addr->Prop} {env:Env} {cs:List (Nat×Nat)} {vs cv:aO} {Z:St} {k:K1} {x:KX} {s:ce} {U:Nat->Addr} {f v:bo} {kl:List V->St->Bool}
  (SA:SArgs g gT fn sc as) (hb:∀env w,attributeBase fE (nm a) env w=w) (hl:(ap.endLine==p.line)=true) (hn:(bg as).length<30) (C:Cx g gT call A F env) (W:R g Z U s.heap) (P:Pv g F aL Z U s.heap) (E:EnvR g env sc Z U s.heap cs (af fn vs cv))
  (ev:∀{Q:bo->ce->Prop} {E':bo->ce->Prop},Q v s->dk g.m A (eval fE env) Q E' s)
  (gm:∀{Q:bo×List bo->ce->Prop} {E':bo->ce->Prop} {pl:Sem Bool},Q (f,[]) {s with toks:=s.toks+1}->dk g.m A (getMethod v (nm a) pl) Q E' s)
  (h:dR as call cs vs cv Z (fun v Z=>bL v fun l=>kl l Z) x=true)
  (kp:∀{Z' U' s'},Go g F aL Z U {s with toks:=s.toks+1} Z' U' s'->fS g.m f s'.heap)
  (n:∀{Z' U' s' l us},Go g F aL Z U {s with toks:=s.toks+1} Z' U' s'->VRs g s'.heap U' Z'.nx l us->kl l Z'=true->dk g.m A (f5 f us) (Po g F aL Z' U' s' k) (PX g F aL Z' U' s' x) s') :
  dk g.m A (eval (.Call (.Attribute fE (nm a) ap) (bg as) [] p) env) (Po g F aL Z U s k) (PX g F aL Z U s x) s:=by
 rewrite[arm_eval_Call];refine aa (hb _ _) ?_
 refine b9 (ev (b9 (io ?_)))
 have d:methodCallForm ((bg as).length+([]:List Keyword).length) (backTo p (starEach (bg as) env)) (backToKw p (keywordEach [] env))=true:=by
  unfold methodCallForm
  have j:(backTo p (starEach (bg as) env)).all (fun x=>!x.1)=true:=by
   have:=SA.plain p env
   rw[List.any_eq_false] at this
   rw[dV]
   intro y i
   have:=this y i
   simpa using this
  refine aa j ?_
  exact decide_eq_true hn
 unfold methodCall
 refine aa d ?_
 have c:∀{Q:Pos->ce->Prop} {s:ce} {E':bo->ce->Prop},Q p s->dk g.m A (methodCallPos true fE env ap p) Q E' s:=fun q=>by
  unfold methodCallPos
  refine aa hl ?_
  exact ct q
 have b:Go g F aL Z U s Z U {s with toks:=s.toks+1}:=.tok W P _
 refine b9 (gv (gm ?_))
 refine b9 (c ?_)
 exact dt (jM (kl:=kl) (first:=[]) SA C b.r b.p (E.go W P C.fl b) h kp n) (fun e e q=>q.from W b) fun e e q=>q.from W b
theorem Ee {i c a cc:Nat} {as:X} {cp ap p:Pos} (KO:ClsOk g K aT) (CM:ClsM g K cc a i) (hk:aP sc c .globalImplicit=true) (hg:az c gT.t=some (.cls cc)) (SA:SArgs g gT fn sc as) (hb:∀env w,attributeBase (.Name (nm c) cp) (nm a) env w=w)
  (hl:(ap.endLine==p.line)=true) (hn:(bg as).length<30):SV g gT fn sc (.mthc i c a as cp ap p):=by
 intro call A F env I H B Z k x s U C W P E h
 refine aA C.base.ns fun L z b d e=>?_
 refine ai (d c _ hg) fun u o r=>?_
 have y:(nm c==("__debug__":Str))=false:=by simp only[aP,h9,C3] at hk;exact hk.1.2
 have m:u=.ref (g.ca cc):=r s.heap U 0 W.base
 subst m
 have j:=KO.hK _ W.base
 exact Gh (f:=.ref (g.fa i)) (v:=.ref (g.ca cc)) (kl:=fun l Z=>call (.fn i) l Z k x) SA hb hl hn C W P E
  (fun q=>Name_function_global E.kind (E.knG c hk) (loadGlobal_global (E.glob▸(b _ W.base).1) o q) y)
  (fun q=>Bv j CM.reads CM.find rfl CM.ga q) h
  (fun G=>oF (fv:=.fn i) (n:=0) (U:=U) KO G.r.base rfl rfl) fun G r hk=>C.call (fun J h=>h) hk G.r G.p (f:=.ref (g.fa i)) rfl r
theorem Ef {as:X} {cp ap p:Pos} (KO:ClsOk g K aT) (EO:ExcCls g K) (hf:findCls K (.type "Exception") (.type "type") (nm aH)=some (.val (.builtin "Exception.__init__"))) (hk:aP sc (oB .exception) .globalImplicit=true) (SA:SArgs g gT fn sc as)
  (hb:∀env w,attributeBase (.Name (nm a0) cp) (nm aH) env w=w) (hl:(ap.endLine==p.line)=true) (hn:(bg as).length<30):SV g gT fn sc (.mthx as cp ap p):=by
 intro m A F env L J I Z k x s U C W P E h
 have y:=KO.hK _ W.base
 refine Gh (f:=.builtin "Exception.__init__") (v:=.type "Exception") (kl:=fun l Z=>yB l fun u n=>db u fun i=>ng (Z.get i) fun n n=>k .none Z) SA hb hl hn C W P E
  (fun q=>oE (b:=.exception) hk C W E q)
  (fun q=>zk y (kitMeta_of (by decide +kernel)) (by decide +kernel) hf rfl q) h
  (fun G=>dN) fun{M H N l B} G r hk=>?_
 refine pF hk ?_;clear hk;rintro u w rfl hk
 refine cA hk ?_;clear hk;rintro i rfl hk
 refine mP hk fun c d t hk=>?_
 refine aA r ?_;clear r;rintro o j rfl a e;refine am a ?_;clear a;rintro rfl j;refine aA e ?_;clear e;rintro z j rfl a rfl
 exact vf EO G.r G.p t hk
end
theorem qV:entryFor table "proto.unchain"=some je.«proto.unchain»:=entryFor_of_fast (by kernel_rfl)
section
variable {g:Gd} {gT:Tx} {sc:Scope} {K:Frag} {F X:Addr->Prop} {env:Env} {s:ce} {U:Nat->Addr} {Z:St} {A:ef} {E:bo->ce->Prop}
def IP (A:ef) (Z:St) (U:Nat->Addr) (i:Nat):Prop:=A.handled=none\/∃j c d,j≠i/\A.handled=some (.ref (U j))/\Z.get j=some (.exn c d)/\c%100≠2
theorem vg {x:Sem bo} {Z0:St} {U0:Nat->Addr} {s0:ce} {kx:KX} {Q:Flow->ce->Prop} (EO:ExcCls g K) (W0:R g Z0 U0 s0.heap)
  (h:dk g.m A x (fun v s1=>∃Z1 U1 i c d,Go g F X Z0 U0 s0 Z1 U1 s1/\v=.ref (U1 i)/\Z0.nx<=i/\i<Z1.nx/\Z1.get i=some (.exn c d)/\100<=c/\c<=199/\Z1.mut i=true/\IP A Z1 U1 i/\(A.handled=none\/c%100=2)/\kx i (Z1.set i (.exn (c - 100) d))=true)
   (PX g F X Z0 U0 s0 kx) s0):dk g.m A (raiseStmt env (some x) none) Q (PX g F X Z0 U0 s0 kx) s0:=by
 unfold raiseStmt
 refine b9 (dt h (fun v s1 z_=>?_) fun u_ u_ q=>q)
 refine oO z_ ?_;clear z_;intro Z1 U1 i c a;refine NU a fun d l hv L hi W H a=>?_;refine GT a fun h2 hm C y hk=>?_
 subst hv
 refine cE (aB l.r W) fun f hd hc=>?_;refine oN f fun oe ws w x2 E x4 x5 x6 a=>?_;refine am a fun x7 x8=>?_
 refine ai (EO.cls _ (Bu hc)) fun oC hB eC=>?_
 obtain⟨nm,q,N,bs,bm,a8,sn,ad,ab,ah,dd,k0,k1,k2,k3,k5,eC,I⟩:=eC
 replace hB:=eC▸hB
 have hC:=l.r.base _ _ hB
 have a6:(bo.ref (g.ca (c%100))::bm).contains (.type "BaseException")=true:=I.top
 have a7:s0.heap.get? (U1 i)=none:=l.sp.new i L hi
 have M:∀u n k,Go g F X Z1 U1 s1 Z1 U1 u->u.heap.get? (U1 i)=some n->n.data=.fields k->1<k.size->k[1]?=some .none->PX g F X Z0 U0 s0 kx (.ref (U1 i)) u:=by
  intro u n k Y y1 y2 y3 y4
  refine cE (aB Y.r W) fun f a5 a9=>?_;refine oN f fun a3 a4 z1 z2 z3 z4 z5 z6 a=>?_;refine am a fun z7 z8=>?_
  have G4:Go g F X Z1 U1 u (Z1.set i (.exn (c - 100) d)) U1 u :=
   .set (h':=u.heap) (t:=u.toks) Y.r Y.p hm W (fun b o u_ e=>e) z1 fun u_=>⟨⟨a3,a4,z1,aa (AA H) z2,z3,z4,by refine aa (if_pos (N4 (Nat.lt_succ_of_le h2))) ?_;rw[if_pos (Nat.lt_succ_of_le h2)] at z5;exact z5,fun z=>z6 H,z7,fun z=>z8 (PA H▸z)⟩,a5,Oq H (by assumption)⟩
  exact⟨_,U1,i,(l.trans W0 Y).trans W0 G4,rfl,⟨c - 100,d,by rewrite[dL];refine aa (if_pos rfl) ?_;rfl,by lia⟩,⟨a7,n,k,y1,y2,y3,.inl y4⟩,hk⟩
 have f1:ws[1]?=some .none:=x6 H
 obtain⟨S,P,J,B,U⟩:=s1
 dsimp only at w hC
 have G:dk g.m A (do setFlight (.ref (U1 i)) none;raiseNew (.ref (U1 i)):Sem Flow) Q (PX g F X Z0 U0 s0 kx) ⟨S,P,J,B,U⟩:=by
  unfold setFlight
  refine b9 (b9 (B2 (s:=⟨S,P,J,B,U⟩) w E f1 ?_))
  refine aa (if_neg (show ¬(bo.none !=bo.none)=true by decide)) ?_
  refine ct ?_
  rcases C with C|⟨j,cj,dj,nj,C,ej,a2⟩
  ·exact wpAny_raiseNew_none C (M _ _ _ (.refl l.r l.p) w E x4 f1)
  ·refine b9 (wpAny_handled ?_)
   refine aa C ?_
   replace y:=C▸y
   have a1:c%100=2:=y.resolve_left (by intro z;exact t9 z)
   have hj:=aC l.r ej
   have Z:U1 j≠U1 i:=fun z=>nj (l.r.inj j i hj hi z)
   refine wpAny_ite_true (decide_eq_true (show((bo.ref (U1 j) !=bo.ref (U1 i))=true) from by simpa using Z)) ?_
   refine am (aB l.r ej) fun f ag=>?_;refine oN f fun oj wj y1 y2 y3 y4 y5 y6 a=>?_;refine am a fun y7 y8=>?_
   refine b9 (gv (wpAny_runValue (codeAny_builtin qV ?_)))
   show dk _ _ (field (.ref (U1 j)) 2 >>= _) _ _ _
   refine b9 (B2 (s:=⟨S,P,J,B,U⟩) y1 y3 (y8 a2) ?_)
   refine aa (if_pos (show(bo.none==bo.none)=true by decide)) ?_
   refine b9 (ct (ct ?_))
   refine b9 ?_
   show dk _ _ (setField (.ref (U1 i)) 2 (.ref (U1 j))) _ _ _
   refine wpAny_setField (s:=⟨S,P,J,B,U⟩) w E x7 (wpAny_throw ?_)
   have e4:=l5 (B4 (·.setIfInBounds 2 (bo.ref (U1 j)))) w (IC (q0 E _))
   exact M _ _ _ (Go.exnField (s:=⟨S,P,J,B,U⟩) (t:=B) l.r l.p W w E (.inl (by decide)) (.inr a1)) e4 (q0 E _) (by simpa using x4) (by rw[C6 (by decide)];exact f1)
 repeat (first|exact G|(refine aa x2 ?_;with_reducible refine wpAny_isSubtype_exc hC ?_;refine aa a6 ?_)|with_reducible refine H4 w ?_|with_reducible refine H4 hC ?_|wp_step|(refine aa x2 ?_))
end
section
variable {g:Gd} {gT:Tx} {sc:Scope} {K:Frag} {F:Addr->Prop} {env:Env} {s:ce} {U:Nat->Addr} {Z:St} {A:ef} {E:bo->ce->Prop}
theorem IQ {e:X} {p:Pos} (EO:ExcCls g K) (hl:gT.lp=true) (he:SV g gT true sc e):SS g gT sc (.rai true e p):=by
 intro n G A F f I H Z J L x s U C W P E h
 show dk _ _ (exec (.Raise (some (aX e)) none p) f) _ _ s
 rw[arm_exec_Raise]
 refine b9 (io ?_)
 show dk _ _ (raiseStmt f (some (do let v <-eval (aX e) f;standAt p;pure v)) none) _ _ s
 refine vg EO W (b9 (uH W P (he C.x W P.noX E.e h) fun v B ⟨o,y,a,w,l,b⟩=>b9 (io (ct ?_))))
 refine cA b ?_;clear b;rintro i rfl b
 refine ak b fun j b=>?_
 refine mP b fun c d q b=>?_
 refine ak b fun r b=>?_
 refine ak b fun k b=>?_
 refine ak k fun k z=>?_
 refine ak b fun t b=>?_
 refine am l ?_;clear l;rintro rfl u
 have m:=C.x.hd hl
 exact⟨o,y,i,c,d,w.xl W P,rfl,bY j,u,q,bY r,bY k,t,.inl m,.inl m,b⟩
def SH (g:Gd) (gT:Tx) (sc:Scope) (st:Sx):Prop:=(∃b r,fm st=b::r)/\∀{call ch:Call} {A:ef} {F:Addr->Prop} {env:Env} {cs:List (Nat×Nat)} {vs:aO} {Z:St} {kn:KN} {kr:K1} {x:KX} {s:ce} {U:Nat->Addr} {i0:Nat},
 Cx g gT call A F env->A.handled=some (.ref (U i0))->i0<Z.nx->(∀i Z',x i Z'=true->∃c d,Z'.get i0=some (.exn c d)/\c%100≠2)->R g Z U s.heap->Pv g F aL Z U s.heap->EnvR g env sc Z U s.heap cs vs->eN st call ch cs vs Z kn kr x=true ->
  dk g.m A (execs (fm st) env) (fun a e=>∃v,a=.ret v/\Po g F aL Z U s kr v e) (PX g F aL Z U s x) s
theorem IR {e:X} {p:Pos} (he:SV g gT true sc e):SH g gT sc (.cons (.ret e p) .nil):=by
 refine⟨⟨_,_,rfl⟩,?_⟩
 intro b n A F a i r Z m o x s U j C d c l W P E h
 show dk _ _ (execs [.Return (some (aX e)) p] a) _ _ s
 rw[arm_execs_cons]
 refine b9 (wpAny_Return_some (dt (he C W P E h) (fun v k q=>?_) fun f f q=>q))
 exact ct ⟨v,rfl,q⟩
theorem IS {e:X} {p:Pos} (EO:ExcCls g K) (he:SV g gT true sc e):SH g gT sc (.cons (.rai false e p) .nil):=by
 refine⟨⟨_,_,rfl⟩,?_⟩
 intro u ch A F j cs vs Z kn kr x s U m C n k J W P E h
 show dk _ _ (execs [.Raise (some (aX e)) none p] j) _ _ s
 rw[arm_execs_cons]
 refine b9 ?_
 rw[arm_exec_Raise]
 refine b9 (io ?_)
 show dk _ _ (raiseStmt j (some (do let v <-eval (aX e) j;standAt p;pure v)) none) _ _ s
 refine vg EO W (b9 (dt (he C W P E h) (fun v Y ⟨z,S,a,y,t,b⟩=>b9 (io (ct ?_))) fun Q Q q=>q))
 refine cA b ?_;clear b;rintro i rfl b
 refine ak b fun f b=>?_
 refine mP b fun c d B b=>?_
 refine ak b fun I b=>?_
 refine ak b fun r b=>?_
 refine ak r fun r H=>?_
 refine ak b fun M b=>?_
 refine am t ?_;clear t;rintro rfl N
 have f:=bY f
 have w:m≠i:=rd (f3 k f)
 refine bx (J _ _ b) fun G L l o=>?_
 rewrite[dL] at l;replace l:=(if_neg (Ne.symm w))▸l
 exact⟨z,S,i,c,d,y,rfl,f,N,B,bY I,bY r,M,.inr ⟨m,G,L,w,aa (y.sp.ag m k) n,l,o⟩,.inr (bz H),b⟩
end
section
variable {g:Gd} {F X:Addr->Prop} {s s' s₀:ce} {U U' U₀:Nat->Addr} {Z Z' Z₀:St} {x x':KX} {env:Env} {fl e:bo} {fr:Option Addr} {t:Nat}
theorem PN.loc {L:Addr} (W₀:R g Z₀ U₀ s₀.heap) (P₀:Pv g F X Z₀ U₀ s₀.heap) (hL:X L) (p:PN g F X Z₀ U₀ s₀ x fl e s) {h':Heap} (N':NF h' L) (k:∀b o,b≠L->s.heap.get? b=some o->h'.get? b=some o):PN g F X Z₀ U₀ s₀ x fl e {s with heap:=h',toks:=t}:=by
 obtain⟨N,l,i,G,rfl,m,⟨n,P,E,T,q,K,I,u,J,f,Q,M,B,A,W,j⟩,hx⟩:=p
 refine bx m fun c d a H=>?_
 have C:=aC G.r a
 have w:l i≠L:=(G.p L (.inr hL)).2.2 i C
 have S:T≠L:=fun z=>by
  refine am (P₀ L (.inr hL)) fun h y=>?_;refine ai h fun Y v U=>?_
  replace f:=v▸z▸f;exact t9 f
 exact⟨N,l,i,G.trans W₀ (Go.loc G.r G.p hL N' k),rfl,⟨c,d,a,H⟩,⟨n,P,E,T,q,K,k _ _ w I,u,J,f,Q,M,B,k _ _ S A,W,j⟩,hx⟩
theorem PX.xmono (h:∀i Z,x i Z=true->x' i Z=true) (p:PX g F X Z U s x e s'):PX g F X Z U s x' e s':=by
 obtain⟨j,f,i,a,b,c,d,k⟩:=p
 exact⟨j,f,i,a,b,c,d,h _ _ k⟩
theorem Gi {i0 i:Nat} (h:yK i0 x i Z=true):(∃c d,Z.get i0=some (.exn c d)/\c%100≠2)/\x i Z=true:=by
 refine mP h fun c d e h=>?_
 refine ak h fun a h=>?_
 have a:c%100<2:=bY a
 exact⟨⟨c,d,e,by lia⟩,h⟩
end
section
variable {g:Gd} {gT:Tx} {sc:Scope} {K:Frag}
theorem IT {r:Bool} {e:X} {ep tp hp p:Pos} {cc tn n:Nat} {h:Sx} (EO:ExcCls g K) (hlp:gT.lp=true) (he:SV g gT true sc e) (hs:r=false->∀env,swapsWith (aX e) none ep.line env=pure false) (hk:aP sc tn .globalImplicit=true) (hg:az tn gT.t=some (.cls cc)) (hcc:jG cc=true)
  (hn:gE n) (hnk:aP sc n .local=true) (hh:SH g ⟨gT.t,false⟩ sc h):SS g gT sc (.tri r e ep cc tn tp n h hp p):=by
 intro aT Y A F env cs vs Z kn kr x s U C W P E hd
 refine am hh fun G hh=>?_;refine eM G fun b0 br eh=>?_
 refine ai C.x.fr fun L hf FR=>?_
 have FRm:∀v,Frs (A.mark v) F (some L):=fun v=>⟨FR.top,FR.all⟩
 have j:∀v B,PX g F aL Z U s (fun i Z=>ng (Z.get i) fun c' l=>af (c6 c' cc) (eN h Y Y cs ((n,.obj i)::vs) Z (fun l l=>false) kr (yK i x)) false) v B ->
   dk g.m A (noteFrame v env) (fun l s2=>dk g.m A (setFlight v none) (fun l H=>dk g.m A (handleBy v env [.ExceptHandler (some (.Name (nm tn) tp)) (some (nm n)) (fm h) hp]) (PoS g F env sc Z U s cs kn kr) (PX g F (XL env) Z U s x) H) (PX g F (XL env) Z U s x) s2) (PX g F (XL env) Z U s x) B:=by
  intro v B p1
  refine kc W FR hf p1 fun s2 p2=>iB W p2 none fun H p3=>?_
  have a6:=p3
  obtain⟨Z3,U3,i,S,rfl,⟨c,d,ex,hc⟩,_,hx⟩:=a6
  refine mP hx fun c' d' J hx=>?_
  replace J:=ex▸J;cases J
  refine ak hx fun al hx=>?_
  obtain rfl:=bz al
  have hi:=aC S.r ex
  have E3:=E.go W P.noX C.x.fl (fun z=>z) S
  refine aa eh ?_
  refine wpAny_handleBy_cons (codeAny_handlers_test ?_) (by intro q;cases q)
  refine aA C.x.base.ns fun mg mb as ah b4=>?_
  refine ai (ah tn _ hg) fun u hu ru=>?_
  have a3:(nm tn==("__debug__":Str))=false:=by simp only[aP,h9,C3] at hk;exact hk.1.2
  have eu:u=.ref (g.ca c):=ru H.heap U 0 S.r.base
  subst eu
  refine Name_function_global E.e.kind (E.e.knG tn hk) (loadGlobal_global (E.e.glob▸(as _ S.r.base).1) hu ?_) a3
  have a2:c%100=c:=by have:c<=2:=bY hcc;lia
  refine cE (aB S.r ex) fun G a5 au=>?_;refine qH G fun oe ws x1 x2 x3 x4 x5=>?_
  replace x2:=a2▸x2
  refine ai (EO.cls _ hcc) fun oC hB eC=>?_
  obtain⟨b5,q,N,bs,bm,b1,sn,b3,ab,b6,dd,k0,k1,k2,k3,k5,eC,I⟩:=eC
  replace hB:=eC▸hB
  have hC:=S.r.base _ _ hB
  have a7:bm.contains (.type "BaseException")=true:=by
   have:=I.top
   rw[List.contains_cons,Bool.or_eq_true] at this
   rcases this with z|z
   ·exact absurd (beq_iff_eq.mp z) (by intro z;cases z)
   ·exact z
  refine wpAny_excMatches_sub_self (h:=H.heap) (g:=H.gens) (d:=H.drawn) (t:=H.toks) (os:=H.os) hC x1 x2 a7 ?_
  show z9 g.m (A.mark (some (.ref (U3 i)))) (.handlers (.ref (U3 i)) [.ExceptHandler none (some (nm n)) (b0::br) hp] env) _ H
  refine codeAny_handlers_suite_as ?_
  refine iB W p3 none fun s4 p4=>?_
  have ag:=p4
  obtain⟨Z4,U4,i4,G4,e4,_,_,w⟩:=ag
  refine aa e4 ?_
  clear p3 p4 x1 x2 x3 x4 x5 a5 hC hB au
  refine mP w fun c4 d4 ao w=>?_
  refine ak w fun G w=>?_
  have a1:=aC G4.r ao
  have X4:=G4.xl W P
  have E4:=E.go W P.noX C.x.fl (fun z=>z) G4
  refine jN X4.r X4.p E4 hnk hn (a:=.obj i4) ⟨rfl,a1⟩ fun s5 y E5=>?_
  have Cm:Cx g ⟨gT.t,false⟩ Y (A.mark (some (.ref (U4 i4)))) F env:=⟨⟨C.x.base.sys,C.x.base.nolim,C.x.base.ns⟩,C.x.hu,fun z=>(by exact aS z),C.h hlp _,C.x.fl,fun z=>(by exact aS z),⟨L,hf,FRm _⟩⟩
  have X5:=X4.trans W y
  refine bw eh ?_
  refine dt (hh (x:=yK i4 x) Cm rfl a1 (fun i Z q=>(Gi q).1) y.r y.p.noX E5.e w) (fun fl s6 ⟨v,aM,Z6,U6,a,G6,r6,ad⟩=>?_) fun v2 s6 p6=>?_
  ·subst aM
   have E6:=E5.go y.r y.p.noX C.x.fl (fun z=>z) G6
   refine ai E6.e.loc fun m6 N6 ar=>?_
   have X6:=X5.trans W (G6.xl y.r y.p)
   refine wpAny_nameGoes (E.e.knL n hnk) N6 (aa C.k rfl) fun h' m' N' sb=>?_
   have G7:Go g F (XL env) Z6 U6 s6 Z6 U6 {s6 with heap:=h',toks:=s6.toks+1}:=.loc X6.r X6.p rfl (.of_ns N') fun b o hb e=>sb.extBut b o hb e
   exact⟨Z6,U6,a,X6.trans W G7,G7.vr r6,ad⟩
  ·refine kc y.r (FRm _) hf p6 fun s7 p7=>?_
   have a4:PN g F (XL env) Z U s (yK i4 x) (rawInt L) v2 s7:=PN.outer W X5 (fun l h=>.inl h) (fun l h=>h.elim) p7
   obtain⟨Z7,U7,i7,G7,_⟩:=p7
   refine ai E5.e.loc fun m5 N5 ar=>?_
   have a9:∀i,i<Z4.nx->U4 i≠env.locals:=(y.p env.locals (.inr rfl)).2.2
   have N7:s7.heap.Ns env.locals m5:=tC G7 y.r a9 (fun z=>z) N5
   refine wpAny_nameGoes (E.e.knL n hnk) N7 (aa C.k rfl) fun h' m' N' sb=>?_
   have p8:=PN.loc (t:=s7.toks+1) W P (L:=env.locals) rfl a4 (h':=h') (.of_ns N') fun b o hb e=>sb.extBut b o hb e
   refine dt (rp W p8 env) (fun l l f=>f) fun v3 s9 q=>?_
   have q:PX g F (XL env) Z U s x v3 s9:=q.xmono fun i Z z=>(Gi z).2
   refine kc W (FRm _) hf q fun b2 a8=>?_
   have:=ny (M:=g.m) (A:=A) W hf a8
   exact this
 have ev:=he (k:=fun v Z=>af r (kr v Z) (kn vs Z)) (x:=fun i Z=>ng (Z.get i) fun c' l=>af (c6 c' cc) (eN h Y Y cs ((n,.obj i)::vs) Z (fun l l=>false) kr (yK i x)) false) C.x W P.noX E.e hd
 induction r using dI with
 | true =>
  show dk _ _ (exec (.Try [.Return (some (aX e)) ep] [.ExceptHandler (some (.Name (nm tn) tp)) (some (nm n)) (fm h) hp] [] [] p) env) _ _ s
  refine wpAny_Try_except ?_
  rw[arm_execs_cons]
  refine b9 (wpAny_Return_some (dt ev (fun v B z_=>?_) fun v B q=>j v B q))
  obtain⟨Z1,U1,a,G1,r1,Q⟩:=z_
  exact ct ⟨Z1,U1,a,G1.xl W P,r1,Q⟩
 | false =>
  show dk _ _ (exec (.Try [.Expr (aX e) ep] [.ExceptHandler (some (.Name (nm tn) tp)) (some (nm n)) (fm h) hp] [] [] p) env) _ _ s
  refine wpAny_Try_except ?_
  rw[arm_execs_cons]
  refine aa (exec_Expr env (aX e) ep (by unfold interactive;refine aa C.k ?_;rfl) (hs rfl env)) ?_
  refine b9 (b9 (io (b9 (dt ev (fun v B z_=>?_) fun v B q=>j v B q))))
  obtain⟨Z1,U1,a,G1,r1,Q⟩:=z_
  have ap:dk g.m A (execs [] env) (PoS g F env sc Z U s cs kn kr) (PX g F (XL env) Z U s x) B:=ct ⟨Z1,U1,vs,G1.xl W P,E.go W P.noX C.x.fl (fun z=>z) G1,Q⟩
  exact wpAny_dropValue (ct ap)
end
theorem zl {g:Gd} {h:Heap} {U:Nat->Addr} {n:Nat} {fv:V} {f:bo} (hc:uz fv=true) (r:VR g h U n fv f):∃q,f=.ref q:=by
 induction fv using eV with
 | fn i=>exact⟨_,r⟩
 | cls c=>exact⟨_,r⟩
 | clo k i=>refine am r fun b d=>?_;refine bx b ?_;clear b;rintro a o rfl e;exact⟨_,rfl⟩
 | _=>exact aS hc
def Bw (c:Nat×V) (x:bo):Prop:=∃u t,x=.str u t/\SR u c.1
theorem All2.snoc {α β:Type} {T:α->β->Prop} {a:α} {b:β} (h:T a b) {l:List α} {r:List β} (x:All2 T l r):All2 T (l++[a]) (r++[b]):=All2.ind (M:=fun l r=>All2 T (l++[a]) (r++[b])) x ⟨b,[],rfl,h,rfl⟩ fun t _ c=>⟨_,_,rfl,t,c⟩
theorem All2.length {α β:Type} {T:α->β->Prop} {l:List α} {r:List β} (x:All2 T l r):l.length=r.length:=x.ind rfl fun _ _ a=>congrArg Nat.succ a
theorem Bx {g:Gd} {h:Heap} {U:Nat->Addr} {m:Nat} {ps:List (Nat×V)} {ks vs:List bo} (a:All2 Bw ps ks) (b:VRs g h U m (ps.map (·.2)) vs):All2 (KR g h U m) ps (ks.zip vs):=by
 induction ps generalizing ks vs with
 | nil=>cases a;cases b;exact rfl
 | cons p ps d =>
  refine aA a ?_;clear a;rintro k ks rfl e a
  refine aA b ?_;clear b;rintro v vs rfl c b
  exact⟨(k,v),_,rfl,⟨e,c⟩,d a b⟩
theorem rH {ps:List (Nat×V)} {ks:List bo} (a:All2 Bw ps ks):∃us,StrsAre ks us:=by
 induction ps generalizing ks with
 | nil=>cases a;exact⟨[],.nil⟩
 | cons p ps c =>
  refine aA a ?_;clear a;rintro k ks rfl b a;refine bx b fun u t d b=>?_
  subst d
  refine aG (c a) fun us h=>?_
  exact⟨u::us,.cons u t h⟩
theorem vh:∀{l:List (Nat×V)},wm l=true->l.Pairwise LeK->∀p q,p∈l->q∈l->(∀x∈l,∃u,SR u x.1)->p.1=q.1->p=q
 | [],_,_,p,q,hp,_,_,_=>by cases hp
 | a::r,h,w,p,q,hp,hq,hs,e=>by
  refine am (C8.mp w) fun y i=>?_
  have c:∀z∈r,z.1≠a.1:=by
   induction r using fV with
   | nil=>intro z d;cases d
   | cons b r =>
    have h:af (uk a.1 b.1) (wm (b::r)) false=true:=h
    refine ak h fun f v=>?_
    intro z d t
    have s:LeK b z:=by
     rcases gg.mp d with rfl|d
     ·exact LeK.iff.mpr (List.le_refl _)
     ·exact(C8.mp i).1 z d
    rw[tH] at f
    have f:=of_decide_eq_true f
    have g:=LeK.iff.mp s
    replace g:=t▸g
    exact absurd f (List.not_lt.mpr g)
  have o:wm r=true:=by
   induction r using fV with
   | nil=>rfl
   | cons b r=>have h:af (uk a.1 b.1) (wm (b::r)) false=true:=h;exact(cb h).2
  rcases gg.mp hp with n|mp<;>rcases gg.mp hq with k|j
  ·exact aa n (aa k rfl)
  ·replace e:=n▸e;exact absurd e.symm (c q j)
  ·replace e:=k▸e;exact absurd e (c p mp)
  ·exact vh o i p q mp j (fun x m=>hs x (.tail _ m)) e
section
variable {g:Gd} {F:Addr->Prop} {s s' s0:ce} {U U' U0:Nat->Addr} {Z Z' Z0:St} {A:ef} {E:bo->ce->Prop} {k:K1} {t:Nat} {call:Call}
def XS (a kS:Addr):Addr->Prop:=fun b=>b=a\/b=kS
structure Sw (g:Gd) (F:Addr->Prop) (a kS:Addr) (e1:Nat) (Z0:St) (U0:Nat->Addr) (s0:ce) (ps:List (Nat×V)) (dv:List bo) (kA:Array bo) (Z:St) (U:Nat->Addr) (s:ce):Prop where
 go:Go g F (XS a kS) Z0 U0 s0 Z U s
 k:∃e,s.heap.get? kS=some (seqObj "list" kA e)
 a:s.heap.get? a=some (seqObj "list" #[] e1)
 ks:All2 Bw ps kA.toList
 vs:VRs g s.heap U Z.nx (ps.map (·.2)) dv
theorem lX {h:Heap} {b:Addr} {xs:Array bo} {n:Nat} (e:h.get? b=some (seqObj "list" xs n)):NF h b:=⟨_,e,fun f=>by rcases f with ⟨c,_⟩|⟨c,_⟩<;>exact fW (by decide) c⟩
theorem qk {a kS:Addr} {e1:Nat} {fv:V} {f:bo} {items:Array bo} {kk:List (Nat×V)->St->Bool} {Q:PUnit->ce->Prop} (hC:lR g A F call) (W0:R g Z0 U0 s0.heap) (na:s0.heap.get? a=none/\¬F a) (nk:s0.heap.get? kS=none/\¬F kS) (hne:kS≠a)
  (rf:VR g s0.heap U0 Z0.nx fv f):∀(l:List V) (us:List bo) (ps:List (Nat×V)) (dv:List bo) (kA:Array bo) (Z:St) (U:Nat->Addr) (s:ce),Sw g F a kS e1 Z0 U0 s0 ps dv kA Z U s->VRs g s.heap U Z.nx l us->ps.length+l.length<=100 ->
   Au call fv l Z (fun qs Z=>kk (ps++qs) Z) noX=true ->
   (∀Z2 U2 s2 ps2 kA2,Sw g F a kS e1 Z0 U0 s0 ps2 (dv++us) kA2 Z2 U2 s2->kk ps2 Z2=true->Q ⟨⟩ s2) ->
   dk g.m A (forIn us PUnit.unit fun x r=>do
    match <-(f5 f [x]).attempt with
    | .ok k=>do
     je.List.listUpdate (.ref kS) (·.push k)
     pure (ForInStep.yield PUnit.unit)
    | .error e=>do
     rule "list.sort.key-raised"
     let made <-je.List.listItems (.ref kS)
     je.List.listUpdate (.ref kS) fun u_=>#[]
     letGo made.toList.reverse [e]
     je.List.listUpdate (.ref a) fun u_=>items
     let __r <-(throw e:Sem PUnit)
     pure (ForInStep.yield __r)) Q E s
 | [],us,ps,dv,kA,Z,U,s,w,r,hz,h,hq=>by
  cases r
  refine aa List.forIn_nil ?_
  have h:kk (ps++[]) Z=true:=h
  rw[sz] at h
  refine ct (hq Z U s ps kA ?_ h)
  exact aa (sz _) w
 | v::l,us,ps,dv,kA,Z,U,s,w,⟨u,q,e,ru,rq⟩,hz,h,hq=>by
  subst e
  rw[tc]
  have h:call fv [v] Z (fun S Z=>gf S fun c=>Au call fv l Z (fun l Z=>kk (ps++(c,v)::l) Z) noX) noX=true:=h
  have P:=w.go.p
  have PN:Pv g F aL Z U s.heap:=fun b q=>P b (q.imp id fun z=>z.elim)
  refine b9 (b9 (wpAny_attempt (dt (hC (fun u_ h=>h) h w.go.r PN (w.go.vr rf) ⟨u,[],rfl,ru,rfl⟩) (fun S d ⟨G,J,va,W,K,B⟩=>?_) fun e d p=>?_)))
  ·refine gC B ?_;clear B;rintro c rfl B
   refine bx K ?_;clear K;rintro j t rfl hw
   have i:∀b,XS a kS b->∀o,s.heap.get? b=some o->d.heap.get? b=some o:=fun b n=>W.keepsAt w.go.r (P b (.inr n)).2.2 (by rcases n with rfl|rfl;exact na.2;exact nk.2) fun z=>z
   refine aG w.k fun e2 k2=>?_
   have M:=i kS (.inr rfl) _ k2
   have a3:=i a (.inl rfl) _ w.a
   have a1:kA.size=ps.length:=by exact bw ir (aa w.ks.length rfl)
   refine b9 (listUpdate_at M rfl ?_ (by refine aa sizeLine_eq ?_;simp only[l7] at hz;lia) (by refine aa (Array.size_push _) (aa sizeLine_eq ?_);simp only[l7] at hz;lia))
   refine ct ?_
   obtain⟨H,y⟩:∃H,(d.heap.update kS (jj (·.push (.str j t)))).get? kS=some (seqObj "list" (kA.push (.str j t)) H):=⟨_,get?_update_seq M (·.push (.str j t))⟩
   have N:∀b o,b≠kS->d.heap.get? b=some o->(d.heap.update kS (jj (·.push (.str j t)))).get? b=some o:=fun b o nb e=>(ix _ _ (Ne.symm nb)).trans e
   have G1x:=W.wide (F':=F) (X':=XS a kS) w.go.r (fun u_ h=>h) (fun u_ h=>h.elim) P
   have C:Go g F (XS a kS) G J d G J {d with heap:=d.heap.update kS (jj (·.push (.str j t))),toks:=d.toks} :=
    .priv (Y:=fun b=>b=kS) G1x.r G1x.p (fun b n=>.inr n) (fun b n=>aa n (lX y)) N
   have G02:=(w.go.trans W0 G1x).trans W0 C
   have r3:=(G1x.trans w.go.r C).vrs rq
   refine qk hC W0 na nk hne rf l q (ps++[(c,v)]) (dv++[u]) (kA.push (.str j t)) G J _ ⟨G02,⟨H,y⟩,N a _ (Ne.symm hne) a3,?_,?_⟩ r3 (by simp only[sh,l7,List.length_nil] at hz ⊢;lia) ?_ fun Z2 U2 s2 ps2 kA2 L I=>hq Z2 U2 s2 ps2 kA2 (by rw[List.append_assoc] at L;exact L) I
   ·exact aa Array.toList_push (w.ks.snoc ⟨j,t,rfl,hw⟩)
   ·exact aa List.map_append (((G1x.trans w.go.r C).vrs w.vs).snoc ((G1x.trans w.go.r C).vr ru))
   ·have e:(fun(qs:List (Nat×V)) (Z:St)=>kk ((ps++[(c,v)])++qs) Z)=fun qs Z=>kk (ps++(c,v)::qs) Z:=by funext qs Z;rw[List.append_assoc];rfl
    exact aa e B
  ·obtain⟨_,_,_,_,_,_,_,hx⟩:=p
   exact aS hx
end
section
variable {g:Gd} {F:Addr->Prop} {s:ce} {U:Nat->Addr} {Z:St} {A:ef} {E:bo->ce->Prop} {k:K1} {call:Call}
theorem wK {ps:List (Nat×V)} {ks vs:List bo} (h:All2 Bw ps ks):KeysOf PyProof.Rows.strKind (ks.toArray.zip vs.toArray):=by
 intro p a
 have a:p∈ks.zip vs:=by simpa using a
 refine aG (rH h) fun c b=>?_
 refine eM (b.all _ (AQ a).1) fun x t e=>?_
 exact⟨x.cps.toList,aa e rfl⟩
theorem By {fv u:V} {f v:bo} (B:kT g) (hC:lR g A.in1.in1 F call) (W:R g Z U s.heap) (P:Pv g F aL Z U s.heap) (rf:VR g s.heap U Z.nx fv f) (ru:VR g s.heap U Z.nx u v) (h:wn call fv u Z k=true) :
  dk g.m A (f5 (.builtin "sorted") [v] [(dX "key",f)]) (Po g F aL Z U s k) E s:=by
 refine ak h fun hc h=>?_
 refine cA h ?_;clear h;rintro i rfl h
 refine fz h fun l el h=>?_
 refine ak h fun hn h=>?_
 have hn:=bY hn
 rw[bB] at hn
 refine aG (zl hc rf) ?_;rintro q rfl
 refine am ru ?_;clear ru;rintro rfl hi
 refine ai (aB W el) fun vs hl r1=>?_
 have hz:=dH r1
 have b2:s.heap.IsList (U i) vs.toList.toArray:=by exact aa B1 hl.isList
 have b8:vs.toList.length=l.length:=r1.length
 refine call_function_entry_kw kind_sorted plain_sorted entry_sorted (ksk_s1 _ _) ?_
 unfold je.«sorted»
 refine b9 (m:=checkCount "sorted" 1 1 _) (ct ?_)
 refine b9 (collect_list b2 ?_ (by refine aa sizeLine_eq ?_;lia))
 refine b9 (wpAny_newList ?_ (by refine aa sizeLine_eq ?_;lia))
 have a9:((s.heap.push (seqObj "list" #[] 0)).update s.heap.objs.size (jj (·++vs.toList.toArray))).objs.size=s.heap.objs.size+1:=by
  rewrite[Heap.size_update];exact aa (size_push' _ _) rfl
 generalize hH:((s.heap.push (seqObj "list" #[] 0)).update s.heap.objs.size (jj (·++vs.toList.toArray))).push (seqObj "list" vs.toList.toArray 0)=H
 have L:H.get? (s.heap.objs.size+1)=some (seqObj "list" vs.toList.toArray 0):=by
  refine bw hH (bw a9 ?_);exact fI _ rfl
 have as:∀b o,s.heap.get? b=some o->H.get? b=some o:=fun b o q=>by
  have ad:b<s.heap.objs.size:=l4 q
  rw[<-hH,Heap.get?_push_ne _ _ _ (aa a9 (rd (vb ad))),Heap.get?_update_ne _ _ _ _ (rd ad),Heap.get?_push_ne _ _ _ (rd ad)]
  exact q
 show dk _ _ _ _ _ {s with heap:=_}
 refine aa a9 ?_
 refine b9 (gv (wpAny_call_entry_kw slot_list_sort ⟨_,L,rfl⟩ entry_list_sort ?_ (ksk_l1 _ _)))
 refine aa (ksk_t1 _ _) ?_
 unfold ksk_tree
 generalize ha:s.heap.objs.size+1=a at L ⊢
 have fa:s.heap.get? a=none:=by refine bw ha ?_;exact E8 (sr _)
 refine b9 (listItems_at L rfl ?_)
 refine b9 (listUpdate_at L rfl ?_ (by refine aa oL (aa sizeLine_eq ?_);lia) (L2 _))
 obtain⟨e1,a6⟩:∃e1,(H.update a (jj fun d=>(#[]:Array bo))).get? a=some (seqObj "list" #[] e1):=⟨_,get?_update_seq L fun d=>#[]⟩
 refine b9 (seqEpoch_at a6 rfl ?_)
 refine b9 (wpAny_newTuple ?_ (by show vs.toList.length<=_;refine aa sizeLine_eq ?_;lia))
 refine b9 (wpAny_newList ?_ (L2 _))
 refine gv ?_
 have al:∀b o,s.heap.get? b=some o->(H.update a (jj fun d=>(#[]:Array bo))).get? b=some o:=fun b o e=>(ix _ _ (fun z=>by rewrite[<-z] at e;replace e:=(fa)▸e;exact bj e)).trans (as b o e)
 generalize hH2:H.update a (jj fun d=>(#[]:Array bo))=H2 at a6 al ⊢
 generalize hH3:(H2.push ({cls:=.type "tuple",data:=.seq vs.toList.toArray.toList.toArray}:Obj)).push (seqObj "list" #[] 0)=H3
 show dk _ _ (ksk_rest a (.ref q) false _ e1 (.ref (H2.push ({cls:=.type "tuple",data:=.seq vs.toList.toArray.toList.toArray}:Obj)).objs.size)) _ _ {s with heap:=H3}
 generalize hkS:(H2.push ({cls:=.type "tuple",data:=.seq vs.toList.toArray.toList.toArray}:Obj)).objs.size=kS
 have au:H3.get? kS=some (seqObj "list" #[] 0):=by refine bw hH3 (bw hkS ?_);exact fI _ rfl
 have ar:H3.get? a=some (seqObj "list" #[] e1):=by refine bw hH3 ?_;exact f4 _ (f4 _ a6)
 have ap:∀b o,s.heap.get? b=some o->H3.get? b=some o:=fun b o e=>by refine bw hH3 ?_;exact f4 _ (f4 _ (al b o e))
 have fk:s.heap.get? kS=none:=by
  induction z:s.heap.get? kS using cN with
  | none=>rfl
  | some o =>
   have:=l4 (f4 ({cls:=.type "tuple",data:=.seq vs.toList.toArray.toList.toArray}:Obj) (al _ _ z))
   replace this:=hkS▸this;exact absurd this (nY _)
 have ab:kS≠a:=fun z=>by
  have:=l4 (f4 ({cls:=.type "tuple",data:=.seq vs.toList.toArray.toList.toArray}:Obj) a6)
  replace this:=z▸hkS▸this;exact absurd this (nY _)
 have nF:∀b,s.heap.get? b=none->¬F b:=fun b n f=>by refine am (P b (.inl f)) fun N b7=>?_;refine ai N fun o e b6=>?_;replace e:=n▸e;exact bj e
 have P3:Pv g F (XS a kS) Z U H3:=fun b hb=>by
  rcases hb with hb|rfl|rfl
  ·refine am (P b (.inl hb)) fun N y=>?_;refine ai N fun ob e nf=>?_;exact⟨⟨ob,ap b ob e,nf⟩,y⟩
  ·exact⟨lX ar,jR W fa⟩
  ·exact⟨lX au,jR W fk⟩
 have G3:Go g F (XS a kS) Z U s Z U {s with heap:=H3,toks:=s.toks}:=.growP W ap P3
 unfold ksk_rest
 refine b9 (wpAny_rule ?_)
 rw[List.forIn_toArray]
 refine b9 (qk (call:=call) (kk:=fun(M:List (Nat×V)) (Z:St)=>af (wm (eI M [])) (e9 ((eI M []).map (fun(x:Nat×V)=>x.2)) Z k) false) hC W ⟨fa,nF a fa⟩ ⟨fk,nF kS fk⟩ ab rf l vs.toList [] [] #[] Z U {s with heap:=H3,toks:=s.toks} ⟨G3,⟨_,au⟩,ar,rfl,rfl⟩ (G3.vrs r1) (by simp only[List.length_nil];lia) h fun Z2 U2 G M I w hk=>?_)
 rw[List.nil_append] at w
 refine ak hk fun b1 hk=>?_
 refine aG w.k fun e2 k2=>?_
 refine b9 (listItems_at k2 rfl ?_)
 have ag:I.size=M.length:=by exact bw ir (aa w.ks.length rfl)
 have a8:vs.toList.length=M.length:=by exact aa w.vs.length (aa (jb _) rfl)
 have a5:(I.zip vs.toList.toArray).size=M.length:=by exact aa Array.size_zip (aa ag (aa oL (aa a8 (aa (Nat.min_self _) rfl))))
 have K:∀st:SortSt,(arrOf st).Perm (I.zip vs.toList.toArray)->SortedToK PyProof.Rows.strKind (arrOf st) (I.zip vs.toList.toArray).size->failedOf st=none->dk g.m A.in1.in1 (ksk_tail a false e1 (.ref kS) st) (fun K s'=>∃v,K=.done (.ret v)/\dk g.m A.in1 (ret (.ref a)) (fun K s'=>∃v,K=.done (.ret v)/\Po g F aL Z U s k v s') E s') E G:=by
  intro st hp hs hf
  have b0:(arrOf st).toList.Perm (I.toList.zip vs.toList):=by
   have:=Array.perm_iff_toList_perm.mp hp
   simpa using this
  have ao:(arrOf st).size=M.length:=by exact aa hp.size_eq (aa a5 rfl)
  have aT:=(qg (Bx w.ks w.vs) b0 (rA hp.size_eq.symm hs) fun p q hp hq e=>by
   refine am (qf M [] .nil) fun s1 G=>?_
   rw[sz] at s1
   exact vh b1 G p q (s1.mem_iff.mpr hp) (s1.mem_iff.mpr hq) (fun x S=>by
    have S:=s1.mem_iff.mp S
    have:∀{l:List (Nat×V)} {r:List bo},All2 Bw l r->∀x∈l,∃u,SR u x.1:=by
     intro l
     induction l with
     | nil=>intro _ _ x S;cases S
     | cons c l ih =>
      rintro _ ⟨b,q,e,⟨u,t,_,hu⟩,y⟩ x S
      rcases gg.mp S with rfl|S
      ·exact⟨u,hu⟩
      ·exact ih y x S
    exact this w.ks x S) e).vrs
  unfold ksk_tail
  try dsimp only
  refine b9 (listUpdate_at k2 rfl ?_ (by refine aa ag (aa sizeLine_eq ?_);lia) (L2 _))
  refine b9 (wpAny_letGo ?_)
  have kD:∀b o,b≠kS->G.heap.get? b=some o->(G.heap.update kS (jj fun d=>(#[]:Array bo))).get? b=some o:=fun b o nb e=>(ix _ _ (Ne.symm nb)).trans e
  have a4:=kD a _ (Ne.symm ab) w.a
  refine b9 (seqEpoch_at a4 rfl ?_)
  refine b9 (listUpdate_at a4 rfl ?_ (L2 _) (by simp only[B0,if_false,Array.size_map];refine aa ao (aa sizeLine_eq ?_);lia))
  refine aa hf ?_
  simp only[bne_self_eq_false,B0,if_false]
  refine ct ⟨_,rfl,ct ⟨_,rfl,?_⟩⟩
  refine ak hk fun N hk=>?_
  obtain⟨c4,ah⟩:∃c4,((G.heap.update kS (jj fun d=>(#[]:Array bo))).update a (jj fun d=>(arrOf st).map (·.2))).get? a=some (seqObj "list" ((arrOf st).map (·.2)) c4):=⟨_,get?_update_seq a4 fun d=>(arrOf st).map (·.2)⟩
  have kE:∀b o,¬XS a kS b->G.heap.get? b=some o->((G.heap.update kS (jj fun d=>(#[]:Array bo))).update a (jj fun d=>(arrOf st).map (·.2))).get? b=some o:=fun b o nb e=>(ix _ _ (fun z=>nb (.inl z.symm))).trans (kD b o (fun z=>nb (.inr z)) e)
  have k4:((G.heap.update kS (jj fun d=>(#[]:Array bo))).update a (jj fun d=>(arrOf st).map (·.2))).get? kS=some (seqObj "list" #[] (if(#[]:Array bo).size==I.size then e2 else e2+1)):=(ix _ _ (Ne.symm ab)).trans (get?_update_seq k2 fun d=>#[])
  have G4:Go g F (XS a kS) Z2 U2 G Z2 U2 {G with heap:=(G.heap.update kS (jj fun d=>(#[]:Array bo))).update a (jj fun d=>(arrOf st).map (·.2)),toks:=G.toks} :=
   .priv (Y:=XS a kS) w.go.r w.go.p (fun b hb=>hb) (fun b hb=>by rcases hb with rfl|rfl;exact lX ah;exact lX k4) kE
  have G5:=w.go.trans W G4
  have b4:∀j,j<Z2.nx->U2 j≠a:=(w.go.p a (.inr (.inl rfl))).2.2
  have ba:=(w.go.p a (.inr (.inl rfl))).2.1
  have G6:Go g F aL Z U s Z2 U2 {G with heap:=(G.heap.update kS (jj fun d=>(#[]:Array bo))).update a (jj fun d=>(arrOf st).map (·.2)),toks:=G.toks} :=
   G5.drop (fun d h=>.inl h) (fun b h=>.inr (by rcases h with rfl|rfl<;>assumption)) (fun d h=>h) fun d h=>h.elim
  have rv:VRs g ((G.heap.update kS (jj fun d=>(#[]:Array bo))).update a (jj fun d=>(arrOf st).map (·.2))) (i6 U2 Z2.nx a) (Z2.nx+1) ((eI M []).map (·.2)) ((arrOf st).map (·.2)).toList:=by
   exact aa Array.toList_map ((G4.vrs aT).mono (fun d d e d=>e) (fun i hi=>bu hi) (sr _))
  exact⟨_,_,.obj Z2.nx,G6.adopt fa b4 ba ⟨nF a fa,fun z=>z⟩ ah (o:=.lst ((eI M []).map (·.2))) ⟨_,⟨c4,ah⟩,rv⟩,⟨aa upd_at rfl,f2 _⟩,hk⟩
 unfold ksk_end
 try dsimp only
 simp only[B0,if_false]
 by_cases h2:vs.toList.toArray.size<2
 ·refine aa (if_pos h2) (aa (if_pos h2) ?_)
  refine b9 (ct ?_)
  refine aa (StateT.run_pure _ _) ?_
  refine b9 (ct ?_)
  try dsimp only
  refine K (SortSt.mk' general' (I.zip vs.toList.toArray) #[] 7 none) (Array.Perm.refl _) ?_ rfl
  intro i j b5 hj
  replace hj:=a5▸hj
  replace h2:=a8▸oL▸h2
  have:i=j:=by lia
  subst this;exact KeyOrd.kle_refl _
 ·refine aa (if_neg h2) (aa (if_neg h2) ?_)
  replace h2:=a8▸oL▸h2
  refine aG (rH w.ks) fun us a7=>?_
  have b3:keyKind' I=pure oneType':=by
   obtain⟨v₁,aM,C,e⟩:∃v₁ aM C,I.toList=v₁::aM::C:=by
    have hl:2<=I.toList.length:=by refine aa ir (aa ag ?_);lia
    match I.toList,hl with
    | v₁::aM::C,_=>exact⟨v₁,aM,C,rfl⟩
   have ek:I=(v₁::aM::C).toArray:=by exact bw e (aa B1 rfl)
   replace a7:=e▸a7
   exact aa ek (keyKind_strs a7)
  refine aa b3 ?_
  refine b9 (ct ?_)
  refine b9 (dt (wpS_sortRunsK (κ:=PyProof.Rows.strKind) strKind_oneLt (a₀:=I.zip vs.toList.toArray) (st:=SortSt.mk' oneType' (I.zip vs.toList.toArray) #[] 7 none)
   (Q:=fun d J=>(arrOf J).Perm (I.zip vs.toList.toArray)/\failedOf J=none/\SortedToK PyProof.Rows.strKind (arrOf J) (I.zip vs.toList.toArray).size)
   (by have:=wK (vs:=vs.toList) w.ks;rwa [B1] at this) ⟨Array.Perm.refl _,rfl,rfl,rfl⟩ (by refine aa a5 ?_;lia) (by refine aa a5 ?_;lia) fun J a1 a2 a3=>⟨a1,a2,a3⟩) ?_ fun d d e=>e)
  rintro⟨⟨⟩,J⟩ s' ⟨rfl,hp,hf,hs⟩
  try dsimp only
  exact K J hp hs hf
end
section
variable {g:Gd} {gT:Tx} {fn:Bool} {sc:Scope} {K:Frag} {aT:List Nat}
theorem IU:nm ue=dX "key":=rfl
theorem Bz {h kv:X} {bp kp p:Pos} (B:kT g) (hlp:gT.lp=true) (hk:aP sc jr .globalImplicit=true) (ns:pO h) (hh:SV g gT fn sc h) (hv:SV g gT fn sc kv):SV g gT fn sc (.sortk (.cons h .nil) kv bp kp p):=by
 intro call A F b j i e Z k x s U C W P E q
 have q:dR h call j i e Z (fun u Z=>dR kv call j i e Z (fun m Z=>wn call m u Z k) x) x=true:=q
 show dk _ _ (eval (.Call (.Name (nm (oB .sorted)) bp) [aX h] [⟨some (nm ue),aX kv,kp⟩] p) b) _ _ s
 rw[arm_eval_Call_Name']
 refine b9 (oE hk C W E ?_)
 have l:backTo p (starEach [aX h] b)=[(false,eval (aX h) b)]:=by exact aa (ns _ _) rfl
 refine PyProof.Rows.callWith_kw ?_ (aa (ns _ _) rfl) (aa l rfl) rfl rfl
 refine aa l ?_
 refine spliced_cons (dt (hh C W P E q) (fun u H t=>?_) fun c c q=>q)
 obtain⟨z,L,a,d,o,v⟩:=t
 refine spliced_nil ?_
 refine evalAll_cons (b9 (dt (hv C d.r d.p (E.go W P C.fl d) v) (fun f J ⟨K,I,m,n,w,y⟩=>b9 (io (ct (evalAll_nil ?_)))) fun c c q=>q.from W d))
 have G:=d.trans W n
 show dk _ _ (f5 (.builtin "sorted") [u] [(nm ue,f)]) _ _ _
 refine aa IU ?_
 exact dt (By B (C.call2 hlp) G.r G.p w (n.vr o) y) (fun c c q=>q.from W G) fun c c q=>q
end
def O0 (v:V) (k:Nat->Nat->Bool):Bool:=V.casesOn v false ac ac (fun c=>k 0 c) ac ac (fun c=>k 1 c) (fun c=>k 2 c) (fun c=>k 3 c) aJ (fun c=>k 4 c) aJ
def zm (t c:Nat) (v:V):Bool:=O0 v fun a b=>af (c6 t a) (c6 c b) false
noncomputable def O1 (t c:Nat):V:=L3 t (.str c) fun t=>L3 t (.obj c) fun t=>L3 t (.fn c) fun t=>L3 t (.cls c) fun a=>.sym c
theorem kZ {t c:Nat} {v:V} (h:zm t c v=true):O1 t c=v:=by
 have d:∀{t' c':Nat},af (c6 t t') (c6 c c') false=true->O1 t c=O1 t' c':=fun h=>by
  refine ak h fun a b=>?_
  exact aa (bz a) (aa (bz b) rfl)
 cases v<;>first|((first|exact aS h|cases h);done)|exact d (t':=0) h|exact d (t':=1) h|exact d (t':=2) h|exact d (t':=3) h|exact d (t':=4) h
def BA (v:V) (k:Nat->Nat->Bool):Bool:=V.casesOn v false ac ac ac ac ac ac ac ac (fun w j=>k w j) ac aJ
theorem IV {v:V} {k:Nat->Nat->Bool} {G:Prop} (h:BA v k=true) (K:∀w j,v=.clo w j->k w j=true->G):G:=by cases v<;>first|(first|exact aS h|cases h);done|exact K _ _ rfl h
def xU {α:Type} (f:α->Bool) (g:List α->Bool) (r:List α):Bool:=@List.rec α (fun a=>Bool) false (fun b s a=>af (f b) (g s) false) r
def rI (a:V):V->Bool:=@V.rec (fun d=>V->Bool) (fun d=>List V->Bool) r7 (fun x b=>fB b (Dg x)) (fun x b=>oP b fun y=>decide (x=y)) (zm 0) aJ (fun d e b=>bL b e)
 (zm 1) (zm 2) (zm 3) (fun a c b=>BA b fun i h=>af (c6 a i) (c6 c h) false) (zm 4) jp (fun r=>GY r true) (fun d d f g=>xU f g) a
def wL (l:List V):List V->Bool:=@V.rec_1 (fun d=>V->Bool) (fun d=>List V->Bool) r7 (fun x b=>fB b (Dg x)) (fun x b=>oP b fun y=>decide (x=y)) (zm 0) aJ (fun d e b=>bL b e)
 (zm 1) (zm 2) (zm 3) (fun a c b=>BA b fun i h=>af (c6 a i) (c6 c h) false) (zm 4) jp (fun r=>GY r true) (fun d d f g=>xU f g) l
theorem qm {α:Type} {a:α} {l r:List α} {f:α->Bool} {g:List α->Bool} (hf:∀b,f b=true->a=b) (hg:∀s,g s=true->l=s) (h:xU f g r=true):a::l=r:=by
 induction r using fV with
 | nil=>exact aS h
 | cons b s=>refine ak (show af (f b) (g s) false=true from h) fun d c=>?_;exact aa (hf _ d) (aa (hg _ c) rfl)
theorem lY {a b:V} (h:rI a b=true):a=b:=by
 revert b
 refine @V.rec (fun a=>∀b,rI a b=true->a=b) (fun l=>∀r,wL l r=true->l=r) (fun b h=>(pH h).symm) (fun x b h=>?_) (fun x b h=>?_) (fun d d h=>kZ h) (fun d d h=>by exact aS h) (fun d i b h=>?_) (fun d d h=>kZ h) (fun d d h=>kZ h) (fun d d h=>kZ h)
  (fun a c b h=>?_) (fun d d h=>kZ h) (fun d d d h=>by exact aS h) (fun r h=>(uB h fun e d=>e).symm) (fun d d f g r h=>qm f g h) a
 ·refine nU h ?_;clear h;rintro y rfl h;exact aa (mR h) rfl
 ·refine kR h ?_;clear h;rintro y rfl h;exact aa (of_decide_eq_true h) rfl
 ·refine fg h ?_;clear h;rintro y rfl h;exact aa (i _ h) rfl
 ·refine IV h ?_;clear h;rintro j k rfl h
  refine ak h fun x y=>?_
  exact aa (bz x) (aa (bz y) rfl)
theorem zn {l r:List V} (h:wL l r=true):l=r:=by
 induction l generalizing r with
 | nil=>exact(uB h fun e b=>e).symm
 | cons a l c=>exact qm (fun b=>lY) (fun b=>c) h
def NJ (o:Option V) (v:V):Bool:=@Option.rec V (fun a=>Bool) false (fun u=>rI u v) o
theorem wM {o:Option V} {v:V} (h:NJ o v=true):o=some v:=by
 induction o using cN with
 | none=>exact aS h
 | some u=>exact aa (lY h) rfl
def nE (y:Nat):Bool:=(nm y).cps.toList.all (fun x=>l9 x 0x110000)&&c6 (hV (nm y).cps.toList) y
theorem fN {y:Nat} (h:nE y=true):gE y:=by
 refine am (kF.mp h) fun c a=>?_
 exact⟨fun x b=>bY (dV.mp c x b),bz a⟩
inductive Mo where
 | v | a | b (op:BoolOp) | i | p | q | s
noncomputable def mV (m:Mo) (b:Bool):Bool:=match m with|.v=>b|_=>false
noncomputable def mB (m:Mo) (f:BoolOp->Bool):Bool:=match m with|.b op=>f op|_=>false
noncomputable def BB (a b:BoolOp):Bool:=BoolOp.casesOn a (BoolOp.casesOn b true false) (BoolOp.casesOn b false true)
theorem zo {a b:BoolOp} (h:BB a b=true):a=b:=by cases a<;>cases b<;>first|rfl|exact aS h
noncomputable def xV:X->Bool|.non=>true|_=>false
noncomputable def BC:X->Bool|.nil=>true|_=>false
noncomputable def Mw:X->Bool
 | .loc ..=>true | .cel ..=>true | .cvr ..=>true | .glo ..=>true | _=>false
noncomputable def IW:X->Bool
 | .loc ..=>true | .cel ..=>true | .cvr ..=>true | .glo ..=>true | .cst ..=>true | .att ..=>true | .idx ..=>true | .slc ..=>true | .mth ..=>true | .mthc ..=>true | _=>false
noncomputable def nolc:X->Bool|.lcm ..=>false|.lcz ..=>false|_=>true
noncomputable def kK:X->Bool
 | .raw _=>false | .non=>false | .nil=>false | .inil=>false | .cons ..=>false | .icons ..=>false | .bone _=>false | .bcons ..=>false | _=>true
theorem qn {e:X} (h:xV e=true):e=.non:=by cases e<;>first|rfl|exact aS h
theorem vj {e:X} (h:BC e=true):e=.nil:=by cases e<;>first|rfl|exact aS h
theorem Eg {e:X} (h:Mw e=true):∃id q,aX e=.Name id q:=by cases e<;>first|exact⟨_,_,rfl⟩|exact aS h
theorem xW {e:X} (h:IW e=true) (a:Str):∀env w,attributeBase (aX e) a env w=w:=by cases e<;>first|exact fun b b=>rfl|exact aS h
@[elab_as_elim] theorem vE {P:Expr->Prop} {e:X} (h:kK e=true) (c:∀v k p,P (.Constant v k p)) (n:∀y p,P (.Name y p)) (t:(∃l k p,e=.tup l k p)->∀l k p,P (.Tuple l k p)) (l:∀l p,P (.List l p)) (d:∀a b p,P (.Dict a b p)) (b:∀a o c p,P (.BinOp a o c p)) (m:∀l op r p,P (.Compare l [op] [r] p))
  (o:∀op l p,P (.BoolOp op l p)) (u:∀op a p,P (.UnaryOp op a p)) (i:∀a b c p,P (.IfExp a b c p)) (a:∀o a p,P (.Attribute o a p)) (s:∀o i p,P (.Subscript o i p)) (f:∀f as ks p,P (.Call f as ks p)) (z:nolc e=false->∀e gs sc p,P (.ListComp e gs sc p)):P (aX e):=by
 cases e<;>first|exact c _ _ _|exact n _ _|exact t ⟨_,_,_,rfl⟩ _ _ _|exact l _ _|exact d _ _ _|exact b _ _ _ _|exact m _ _ _ _|exact o _ _ _|exact u _ _ _|exact i _ _ _ _|exact a _ _ _|exact s _ _ _|exact f _ _ _ _|exact z rfl _ _ _ _|exact aS h
theorem tI {e:X} (h:kK e=true) (hn:nolc e=true) (t:Option Expr) (n:Nat):∀env,swapsWith (aX e) t n env=pure false:=fun env=>vE h (fun a a a=>rfl) (fun a a=>rfl) (fun a a a a=>rfl) (fun a a=>rfl) (fun a a a=>rfl) (fun a a a a=>rfl) (fun a a a a=>rfl) (fun a a a=>rfl) (fun a a a=>rfl) (fun a a a a=>rfl) (fun a a a=>rfl) (fun a a a=>rfl) (fun a a a a=>rfl) (fun q=>aS (q.symm.trans hn))
theorem rJ {e:X} (h:kK e=true):pO e:=fun r b=>vE (P:=fun e=>starEach (e::r) b=(false,eval e b)::starEach r b) h (fun a a a=>rfl) (fun a a=>rfl) (fun a a a a=>rfl) (fun a a=>rfl) (fun a a a=>rfl) (fun a a a a=>rfl) (fun a a a a=>rfl) (fun a a a=>rfl) (fun a a a=>rfl) (fun a a a a=>rfl) (fun a a a=>rfl) (fun a a a=>rfl) (fun a a a a=>rfl) (fun a a a a a=>rfl)
theorem rK {e:X} (h:kK e=true):∀env x,foldedSetIterable (aX e) env x=pure x:=fun env x=>vE (P:=fun e=>foldedSetIterable e env x=pure x) h (fun a a a=>rfl) (fun a a=>rfl) (fun a a a a=>rfl) (fun a a=>rfl) (fun a a a=>rfl) (fun a a a a=>rfl) (fun a a a a=>rfl) (fun a a a=>rfl) (fun a a a=>rfl) (fun a a a a=>rfl) (fun a a a=>rfl) (fun a a a=>rfl) (fun a a a a=>rfl) (fun a a a a a=>rfl)
theorem wN {e:X} (h:kK e=true):∀u v,∃ops,subscripted (aX e) false u v=operate ops (getItem u v):=fun u v=>vE (P:=fun e=>∃ops,subscripted e false u v=operate ops (getItem u v)) h (fun a a a=>⟨_,rfl⟩) (fun a a=>⟨_,rfl⟩) (fun a a a a=>⟨_,rfl⟩) (fun a a=>⟨_,rfl⟩) (fun a a a=>⟨_,rfl⟩) (fun a a a a=>⟨_,rfl⟩) (fun a a a a=>⟨_,rfl⟩) (fun a a a=>⟨_,rfl⟩) (fun a a a=>⟨_,rfl⟩) (fun a a a a=>⟨_,rfl⟩) (fun a a a=>⟨_,rfl⟩) (fun a a a=>⟨_,rfl⟩) (fun a a a a=>⟨_,rfl⟩) (fun a a a a a=>⟨_,rfl⟩)
theorem zq {e:X} (h:kK e=true) (op:CmpOp):behindInMarks op (aX e)=false:=vE (P:=fun e=>behindInMarks op e=false) h (fun a a a=>rfl) (fun a a=>rfl) (fun a a a a=>rfl) (fun a a=>rfl) (fun a a a=>rfl) (fun a a a a=>rfl) (fun a a a a=>rfl) (fun a a a=>rfl) (fun a a a=>rfl) (fun a a a a=>rfl) (fun a a a=>rfl) (fun a a a=>rfl) (fun a a a a=>rfl) (fun a a a a a=>rfl)
def tJ (sc:Scope) (t:Tn):Bool:=nE t.2.1&&aP sc t.2.1 (match t.1 with|true=>.cell|false=>.local)
theorem lZ {sc:Scope} {t:Tn} (h:tJ sc t=true):ub sc t:=by
 obtain⟨c,y,p⟩:=t
 refine am (kF.mp h) fun b a=>?_
 cases c
 ·exact⟨fN b,fun d=>a,fun e=>by exact aS e⟩
 ·exact⟨fN b,fun e=>by(cases e),fun d=>a⟩
def Eh (sc:Scope) (t:Tn):Bool:=!t.1&&tJ sc t
theorem xX {sc:Scope} {t:Tn} (h:Eh sc t=true):wfC sc t:=by
 refine am (kF.mp h) fun d e=>?_
 refine cE (lZ e) fun a b c=>?_
 have d:t.1=false:=by simpa using d
 exact⟨a,d,b d⟩
noncomputable def rM (f:Tn->Bool):Tg->Bool
 | .one t=>f t
 | .many l _ _=>l.all f
theorem vk {sc:Scope} {t:Tg} (h:rM (tJ sc) t=true):wE sc t:=by
 cases t with
 | one t=>exact lZ h
 | many l _ _=>exact fun t m=>lZ (dV.mp h t m)
theorem vl {sc:Scope} {t:Tg} (h:rM (Eh sc) t=true):A7 sc t:=by
 cases t with
 | one t=>exact xX h
 | many l _ _=>exact fun t m=>xX (dV.mp h t m)
noncomputable def isKind (o:Option i3) (k:i3):Bool:=o==some k
noncomputable def BD (sc s':Scope):Bool:=(s'.kind==.function)&&s'.names.all (fun x=>(!(x.2==.local)||isKind (s'.names.lookup x.1) .local)&&!(x.2==.cell)&&(!(x.2==.free)||isKind (sc.names.lookup x.1) .cell))
theorem Mx {a b:i3} (h:(a==b)=true):a=b:=by cases a<;>cases b<;>first|rfl|exact aS h
theorem kd (a:i3):(a==a)=true:=by cases a<;>rfl
theorem rN {o:Option i3} {b:i3} (h:isKind o b=true):o=some b:=by
 induction o using cN with
 | none=>exact aS h
 | some a=>exact congrArg some (Mx h)
theorem BE {a b:ScopeKind} (h:(a==b)=true):a=b:=by cases a<;>cases b<;>first|rfl|exact aS h
theorem k8 {x:Str} {k:i3}:∀{l:List (Str×i3)},l.lookup x=some k->(x,k)∈l
 | [],h=>by exact bj h
 | (n,k')::r,h=>by
  rw[kV] at h
  induction q:x==n using dI with
  | true=>replace h:=q▸h;cases h;have:=beq_iff_eq.mp q;subst this;exact .head _
  | false=>replace h:=q▸h;exact .tail _ (k8 h)
theorem vm {sc s':Scope} (h:BD sc s'=true):ScOk sc s':=by
 refine am (kF.mp h) fun i g=>?_
 have g:=dV.mp g
 have f:∀x∈s'.names,(x.2=.local->s'.names.lookup x.1=some .local)/\x.2≠.cell/\(x.2=.free->sc.names.lookup x.1=some .cell):=fun x d=>by
  have:=g x d
  refine am (kF.mp this) fun t c=>?_
  refine am (kF.mp t) fun a b=>?_
  refine⟨fun e=>?_,fun e=>?_,fun e=>?_⟩
  ·replace a:=(e)▸a;rewrite[kd] at a;exact rN a
  ·replace b:=(e)▸b;rewrite[kd] at b;exact aS b
  ·replace c:=(e)▸c;rewrite[kd] at c;exact rN c
 exact⟨BE i,fun x d=>(f x d).1,fun x d=>(f x d).2.1,fun x d=>(f x d).2.2,fun y e=>k8 e⟩
noncomputable def wO:Bi->Bool|.enumerate=>false|_=>true
abbrev Wf:=Mo->Scope->Bool->Bool
def Ei (ap p:Pos) (as:X):Bool:=(ap.endLine==p.line)&&l9 (bg as).length 30
section
variable (lp:Bool) (T:List (Nat×V)) (aT:List Nat)
noncomputable def Gj (w:Wf):Wf:=fun m c b=>mV m (w .a c b)
noncomputable def BF (l r:Wf):Wf:=fun m b a=>mV m (l .v b a&&r .v b a)
noncomputable def Gk (l:Wf):Wf:=fun m b a=>mV m (l .v b a)
def wf (e:X):Wf:=@X.rec (fun d=>Wf)
 (fun c d v d=>fun m d d=>mV m (F8 c v)) (fun y d=>fun m g j=>mV m (j&&aP g y .local)) (fun y d=>fun m g d=>mV m (aP g y .cell||aP g y .free)) (fun y d=>fun m g j=>mV m (!j&&aP g y .local))
 (fun v y d=>fun m g d=>mV m (aP g y .globalImplicit&&NJ (az y T) v))
 (fun d d d E=>Gj E) (fun d d E=>Gj E) (fun C d w=>fun m g j=>mV m (w .p g j&&(BC C||(eL 1 (nR C).length&&eL (nR C).length 15))))
 (fun d d d d l r=>BF l r) (fun d d d d l r=>BF l r) (fun B d d H=>fun m g j=>mV m (H (.b B) g j))
 (fun B d d h t=>fun m g j=>mB m fun F=>BB B F&&(h .v g j&&t (.b B) g j)) (fun d h=>fun m g j=>mB m fun d=>h .v g j)
 (fun d d a=>Gk a) (fun d d a=>Gk a) (fun d d d d c a b=>fun m g j=>mV m (c .v g j&&(a .v g j&&b .v g j))) (fun o a d w=>fun m g j=>mV m (aT.contains a&&(IW o&&w .v g j))) (fun d d d o i=>BF o i)
 (fun d J G K d d o l h s=>fun m g j=>mV m (o .v g j&&((xV J||l .v g j)&&((xV G||h .v g j)&&(xV K||s .v g j)))))
 (fun f d d wf n=>fun m g j=>mV m (Mw f&&(wf .v g j&&n .a g j)))
 (fun b d d d n=>fun m g j=>mV m ((!wz b||lp)&&(aP g (oB b) .globalImplicit&&n .a g j)))
 (fun d d d d d n I=>fun m g j=>mV m (lp&&(aP g jr .globalImplicit&&(n .s g j&&I .v g j))))
 (fun o a n x p w z=>fun m g j=>mV m (aT.contains a&&(IW o&&(w .v g j&&(z .a g j&&Ei x p n)))))
 (fun n d x p z=>fun m g j=>mV m (aP g (oB .exception) .globalImplicit&&(z .a g j&&Ei x p n)))
 (fun i c a n d x p z=>fun m g j=>mV m (aP g c .globalImplicit&&(NJ (az c T) (.cls 0)&&(c6 a aH&&(c6 i 0&&(z .a g j&&Ei x p n))))))
 (fun d A d d k d e L u=>fun m g j=>mV m (j&&(lp&&(BD g k&&(e .v k false&&(u .i k false&&(rM (Eh k) A&&L .v g true)))))))
 (fun d A b d d k d d d e n u=>fun m g j=>mV m (j&&(lp&&(BD g k&&(e .v k false&&(u .i k false&&(rM (Eh k) A&&(aP g (oB b) .globalImplicit&&(n .a g true&&(wO b||isMany A))))))))))
 jp (fun m d d=>match m with|.a=>true|.p=>true|_=>false)
 (fun d t h w=>fun m g j=>match m with|.a=>h .v g j&&w .a g j|.p=>h .v g j&&w .q g j|.q=>h .v g j&&w .p g j|.s=>h .v g j&&BC t|_=>false)
 (fun m d d=>match m with|.i=>true|_=>false) (fun d d h w=>fun m g j=>match m with|.i=>h .v g j&&w .i g j|_=>false) (fun d d d d=>false) e
end
structure Facts (g:Gd) (K:Frag) (aT:List Nat):Prop where
 B:kT g
 KO:ClsOk g K aT
 XP:ExcP g aT
 EO:ExcCls g K
 PM:Prim g
 CM:ClsM g K 0 aH 0
 hf:findCls K (.type "Exception") (.type "type") (nm aH)=some (.val (.builtin "Exception.__init__"))
def IX (g:Gd) (gT:Tx) (m:Mo) (fn:Bool) (sc:Scope) (e:X):Prop:=match m with
 | .v=>SV g gT fn sc e/\ST g gT fn sc e
 | .a=>SArgs g gT fn sc e
 | .b op=>Mn g gT fn sc op e/\Mp g gT fn sc op e
 | .i=>fn=false->IA g gT sc e
 | .p=>SP g gT fn sc e
 | .q=>∃b t,e=.cons b t/\SV g gT fn sc b/\SP g gT fn sc t
 | .s=>∃h,e=.cons h .nil/\pO h/\SV g gT fn sc h
theorem nZ {m:Mo} {b:Bool} {G:Prop} (h:mV m b=true) (K:m=.v->b=true->G):G:=by cases m<;>first|exact K rfl h|exact aS h
theorem PJ {m:Mo} {f:BoolOp->Bool} {G:Prop} (h:mB m f=true) (K:∀op,m=.b op->f op=true->G):G:=by cases m<;>first|exact K _ rfl h|exact aS h
theorem an {a b:Bool} (h:(a&&b)=true):a=true/\b=true:=kF.mp h
theorem bI {a b:Bool} {G:Prop} (h:(a&&b)=true) (K:a=true->b=true->G):G:=(an h).elim K
theorem cT {lp:Bool} {T:List (Nat×V)} {aT:List Nat} {e:X} {sc:Scope} {fn:Bool} (h:wf lp T aT e .v sc fn=true):kK e=true:=by cases e<;>first|rfl|exact aS h
section
variable {g:Gd} {K:Frag} {aT:List Nat} {gT:Tx}
theorem rO {b:Bi} {t:Bool} (h:(wO b||t)=true):b≠.enumerate\/t=true:=by
 cases b
 case enumerate=>exact .inr h
 all_goals exact .inl (fun e=>by cases e)
theorem BG {e it ifs:X} {tg:Tg} {scC sc:Scope} {p:Pos} {fn:Bool} (ie:∀{m:Mo} {sc fn},wf gT.lp gT.t aT e m sc fn=true->IX g gT m fn sc e) (ii:∀{m:Mo} {sc fn},wf gT.lp gT.t aT it m sc fn=true->IX g gT m fn sc it)
  (iif:∀{m:Mo} {sc fn},wf gT.lp gT.t aT ifs m sc fn=true->IX g gT m fn sc ifs) (h:wf gT.lp gT.t aT (.lcm e tg it ifs scC p) .v sc fn=true):fn=true/\LcOk g gT sc scC e ifs tg/\SI g gT sc (aX it) (uY it) tg:=by
 refine bI (show(_&&_)=true from h) fun b h=>?_
 refine bI h fun j h=>?_
 refine bI h fun c h=>?_
 refine bI h fun f h=>?_
 refine bI h fun d h=>?_
 refine bI h fun i a=>?_
 exact⟨b,⟨vm c,(ie f).1,iif d rfl,vl i,j⟩,Bc (ii a).1 (rK (cT a))⟩
theorem BH {e as ifs:X} {tg:Tg} {b:Bi} {scC sc:Scope} {bp ip p:Pos} {fn:Bool} (ie:∀{m:Mo} {sc fn},wf gT.lp gT.t aT e m sc fn=true->IX g gT m fn sc e) (ii:∀{m:Mo} {sc fn},wf gT.lp gT.t aT as m sc fn=true->IX g gT m fn sc as)
  (iif:∀{m:Mo} {sc fn},wf gT.lp gT.t aT ifs m sc fn=true->IX g gT m fn sc ifs) (h:wf gT.lp gT.t aT (.lcz e tg b as ifs scC bp ip p) .v sc fn=true):fn=true/\LcOk g gT sc scC e ifs tg/\SI g gT sc (.Call (.Name (nm (oB b)) bp) (bg as) [] ip) (Bb b as) tg:=by
 refine bI (show(_&&_)=true from h) fun a h=>?_
 refine bI h fun n h=>?_
 refine bI h fun f h=>?_
 refine bI h fun k h=>?_
 refine bI h fun j h=>?_
 refine bI h fun l h=>?_
 refine bI h fun d h=>?_
 refine bI h fun i c=>?_
 exact⟨a,⟨vm f,(ie k).1,iif j rfl,vl l,n⟩,Gb d (ii i) (rO c)⟩
theorem g9 {e:X} {fn:Bool} {sc:Scope} (h:SV g gT fn sc e) (hd:∀env t,isTrue (aX e) env t=(do let v <-t;standAt (aX e).pos;holding [v] (truthy v))):SV g gT fn sc e/\ST g gT fn sc e:=⟨h,AP h hd⟩
theorem rP {ap p:Pos} {as:X} (h:Ei ap p as=true):(ap.endLine==p.line)=true/\(bg as).length<30:=⟨(an h).1,bY (an h).2⟩
theorem gO (FC:Facts g K aT) (e:X):∀{m:Mo} {sc:Scope} {fn:Bool},wf gT.lp gT.t aT e m sc fn=true->IX g gT m fn sc e:=by
 induction e with
 | cst c kk v p =>
  intro m sc fn h
  refine nZ h ?_;clear h;rintro rfl h
  exact g9 (H7 h) fun d d=>rfl
 | loc y p =>
  intro m sc fn h
  refine nZ h ?_;clear h;rintro rfl h
  exact g9 (HY (an h).1 (an h).2) fun d d=>rfl
 | cel y p =>
  intro m sc fn h
  refine nZ h ?_;clear h;rintro rfl h
  exact g9 (AR h) fun d d=>rfl
 | cvr y p =>
  intro m sc fn h
  refine nZ h ?_;clear h;rintro rfl h
  exact g9 (HZ (by simpa using(an h).1) (an h).2) fun d d=>rfl
 | glo v y p =>
  intro m sc fn h
  refine nZ h ?_;clear h;rintro rfl h
  exact g9 (H0 (an h).1 (wM (an h).2)) fun d d=>rfl
 | tup es kk p u =>
  intro m sc fn h
  refine nZ h ?_;clear h;rintro rfl h
  exact g9 (Il (u h).sl) fun d d=>rfl
 | lis es p u =>
  intro m sc fn h
  refine nZ h ?_;clear h;rintro rfl h
  exact g9 (Im (u h).sl) fun d d=>rfl
 | dct ps p u =>
  intro m sc fn h
  refine nZ h ?_;clear h;rintro rfl h
  refine bI h fun k n=>?_
  refine g9 (IG (u k) ?_) fun d d=>rfl
  rcases l8.mp n with h|h
  ·exact .inl (vj h)
  ·have j:=bY (an h).1
   exact .inr ⟨fun e=>by replace j:=e▸j;exact absurd j (by decide),bY (an h).2⟩
 | bin G l r p F I =>
  intro m sc fn h
  refine nZ h ?_;clear h;rintro rfl h
  exact g9 (H8 (F (an h).1).1 (I (an h).2).1) fun d d=>rfl
 | cmp G l r p F I =>
  intro m sc fn h
  refine nZ h ?_;clear h;rintro rfl h
  have hm:=zq (cT (an h).2) G
  exact⟨H9 (F (an h).1).1 (I (an h).2).1 hm,Ia (F (an h).1).1 (I (an h).2).1 hm⟩
 | boo G vs p u =>
  intro m sc fn h
  refine nZ h ?_;clear h;rintro rfl h
  exact⟨Ii (u h).1,Ij (u h).2⟩
 | bcons G x t u A =>
  intro m sc fn h
  refine PJ h ?_;clear h;rintro Z rfl h
  refine bI h fun k n=>?_
  refine bI n fun j z=>?_
  have eo:=zo k
  subst eo
  have r1:=u (m:=.v) j
  have r2:=A (m:=.b G) z
  exact⟨AS r1.1 r2.1,AT r1.2 r2.2⟩
 | bone x u =>
  intro m sc fn h
  refine PJ h ?_;clear h;rintro Z rfl h
  exact⟨Dz (u h).1,DA (u h).2⟩
 | nott a p u =>
  intro m sc fn h
  refine nZ h ?_;clear h;rintro rfl h
  exact⟨Ib (u h).1,Ic (u h).2⟩
 | neg a p u =>
  intro m sc fn h
  refine nZ h ?_;clear h;rintro rfl h
  exact g9 (Ie (u h).1) fun d d=>rfl
 | ite c a b p ic ia ib =>
  intro m sc fn h
  refine nZ h ?_;clear h;rintro rfl h
  refine bI h fun k h=>?_
  refine bI h fun n j=>?_
  exact⟨Ig (ic k).2 (ia n).1 (ib j).1,Ih (ic k).2 (ia n).2 (ib j).2⟩
 | att o a p u =>
  intro m sc fn h
  refine nZ h ?_;clear h;rintro rfl h
  refine bI h fun k h=>?_
  refine bI h fun n j=>?_
  exact g9 (Iq FC.KO FC.XP k (u j).1 (xW n _)) fun d d=>rfl
 | idx o i p P ii =>
  intro m sc fn h
  refine nZ h ?_;clear h;rintro rfl h
  exact g9 (Io (P (an h).1).1 (ii (an h).2).1 (wN (cT (an h).2))) fun d d=>rfl
 | slc o lo hi st sp p P F Y is =>
  intro m sc fn h
  refine nZ h ?_;clear h;rintro rfl h
  refine bI h fun k h=>?_
  refine bI h fun n h=>?_
  refine bI h fun j z=>?_
  exact g9 (Ir (P k).1 ((l8.mp n).imp qn fun h=>(F (m:=.v) h).1) ((l8.mp j).imp qn fun h=>(Y (m:=.v) h).1) ((l8.mp z).imp qn fun h=>(is (m:=.v) h).1)) fun d d=>rfl
 | cal f E p H w =>
  intro m sc fn h
  refine nZ h ?_;clear h;rintro rfl h
  refine bI h fun k h=>?_
  refine bI h fun n j=>?_
  exact g9 (It FC.KO (H n).1 (Eg k) (w j)) fun d d=>rfl
 | calb b E bp p w =>
  intro m sc fn h
  refine nZ h ?_;clear h;rintro rfl h
  refine bI h fun k h=>?_
  refine bI h fun n j=>?_
  refine g9 (DC FC.PM (fun e=>?_) n (w j)) fun d d=>rfl
  replace k:=e▸k
  simpa using k
 | sortk E kv bp kp p w jk =>
  intro m sc fn h
  refine nZ h ?_;clear h;rintro rfl h
  refine bI h fun k h=>?_
  refine bI h fun n h=>?_
  refine bI h fun j z=>?_
  refine dS (w j) ?_;rintro x rfl ns hx
  exact g9 (Bz FC.B k n ns hx (jk z).1) fun d d=>rfl
 | mth o a E ap p jo w =>
  intro m sc fn h
  refine nZ h ?_;clear h;rintro rfl h
  refine bI h fun k h=>?_
  refine bI h fun n h=>?_
  refine bI h fun j h=>?_
  refine bI h fun z J=>?_
  exact g9 (Iu FC.KO FC.PM k (jo j).1 (w z) (xW n _) (rP J).1 (rP J).2) fun d d=>rfl
 | mthx E cp ap p w =>
  intro m sc fn h
  refine nZ h ?_;clear h;rintro rfl h
  refine bI h fun k h=>?_
  refine bI h fun n j=>?_
  exact g9 (Ef FC.KO FC.EO FC.hf k (w n) (fun d d=>rfl) (rP j).1 (rP j).2) fun d d=>rfl
 | mthc i c a E cp ap p w =>
  intro m sc fn h
  refine nZ h ?_;clear h;rintro rfl h
  refine bI h fun k h=>?_
  refine bI h fun n h=>?_
  refine bI h fun j h=>?_
  refine bI h fun z h=>?_
  refine bI h fun J h6=>?_
  cases bz j
  cases bz z
  exact g9 (Ee FC.KO FC.CM k (wM n) (w J) (fun d d=>rfl) (rP h6).1 (rP h6).2) fun d d=>rfl
 | lcm e tg A Q a1 p U N H =>
  intro m sc fn h
  have M:=h
  refine nZ M ?_;rintro rfl W
  refine cE (BG U N H h) ?_;rintro rfl L S
  exact g9 (IB L S) fun d d=>rfl
 | lcz e tg b E Q a1 bp ip p U N H =>
  intro m sc fn h
  have M:=h
  refine nZ M ?_;rintro rfl W
  refine cE (BH U N H h) ?_;rintro rfl L S
  exact g9 (ID L S) fun d d=>rfl
 | non=>intro m sc fn h;exact aS h
 | raw e=>intro m sc fn h;exact aS h
 | nil =>
  intro m sc fn h
  cases m with
  | a=>exact .nil
  | p=>exact IF
  | _=>exact aS h
 | inil =>
  intro m sc fn h
  cases m with
  | i=>exact fun d=>DQ
  | _=>exact aS h
 | cons x t C A =>
  intro m sc fn h
  cases m with
  | a=>exact .cons (rJ (cT (an h).1)) (C (an h).1).1 (A (an h).2)
  | p =>
   refine aA (A (an h).2) ?_;rintro b t' rfl hb ht
   exact DX (C (an h).1).1 hb ht
  | q=>exact⟨x,t,rfl,(C (an h).1).1,A (an h).2⟩
  | s=>exact⟨x,aa (vj (an h).2) rfl,rJ (cT (an h).1),(C (an h).1).1⟩
  | _=>exact aS h
 | icons x t C A =>
  intro m sc fn h
  cases m with
  | i =>
   intro e
   subst e
   exact A6 (C (an h).1).2 (A (an h).2 rfl)
  | _=>exact aS h
end
noncomputable def xY:X->Option (Scope×Pos)
 | .lcm _ _ _ _ sc p=>some (sc,p)
 | .lcz _ _ _ _ _ sc _ _ p=>some (sc,p)
 | _=>none
noncomputable def My (t:Tn) (n:Nat):Bool:=!t.1&&(t.2.2.line==n)
noncomputable def PK:List Tn->Nat
 | []=>0
 | t::_=>t.2.2.line
def KU:List Nat->Bool
 | []=>true
 | a::l=>!(q6 a l)&&KU l
noncomputable def NK (n:Nat):Bool:=n==2||n==3
def IY (ts:List Tn) (es:X):Bool:=!(NK ts.length)||((bg es).length !=ts.length)||(ts.any (·.1)||(bg es).all (foldedForSure 8))
def doSw (ts:List Tn) (es:X):Bool:=NK ts.length&&(((bg es).length==ts.length)&&(ts.all (fun t=>My t (PK ts))&&(KU (ts.map (·.2.1))&&(!((bg es).all (foldedForSure 8))&&!((bg es).all (constantsAlone 8))))))
def PO (ts:List Tn) (e:X):Bool:=match e with
 | .tup es _ _=>IY ts es||doSw ts es
 | _=>true
noncomputable def O2 {α:Type} (n:Str->Pos->α) (s:Expr->Pos->α) (l:Arguments->Expr->Scope->Pos->α) (z:α) (e:Expr):α:=Expr.casesOn e (fun a a a=>z) (fun a a a=>z) (fun a a a a=>z) (fun a a a=>z) l (fun a a a a=>z) (fun a a a=>z) (fun a a a=>z) (fun a a a a=>z) (fun a a a a=>z) (fun a a a a a=>z) (fun a a a a=>z) (fun a a=>z) (fun a a=>z) (fun a a=>z) (fun a a a a=>z) (fun a a a a=>z) (fun a a a a=>z) (fun a a=>z) (fun a a a=>z) (fun a a a=>z) (fun a a a=>z) s n (fun a a=>z) (fun a a a=>z) (fun a a a a=>z)
def O3 (e:Expr):Bool:=PySem.swappedStores.match_5 (fun a=>Bool) e uc fun a=>false
theorem qo {aT:List Nat} {lp:Bool} {T:List (Nat×V)} {sc:Scope} {fn:Bool}:∀{es:X},wf lp T aT es .a sc fn=true->((bg es).any O3)=false:=by
 intro es
 induction es with
 | cons h t _ c =>
  intro w
  refine bI (show(_&&_)=true from w) fun e d=>?_
  show(List.any (aX h::bg t) _)=false
  refine aa List.any_cons (aa (c d) (aa (Bool.or_false _) ?_))
  have f:=cT e
  clear e d c w
  exact vE f (fun b b b=>rfl) (fun b b=>rfl) (fun b b b b=>rfl) (fun b b=>rfl) (fun b b b=>rfl) (fun b b b b=>rfl) (fun b b b b=>rfl) (fun b b b=>rfl) (fun b b b=>rfl) (fun b b b b=>rfl) (fun b b b=>rfl) (fun b b b=>rfl) (fun b b b b=>rfl) (fun b b b b b=>rfl)
 | nil=>intro _;rfl
 | _=>intro w;exact aS w
theorem tK {y:Nat}:∀{l:List Nat},y∈l->q6 y l=true
 | a::l,h=>by
  show af (c6 a y) true (q6 y l)=true
  rcases gg.mp h with rfl|h
  ·exact aa (show c6 y y=true from xd y) rfl
  ·refine aa (tK h) ?_;cases c6 a y<;>rfl
theorem mW:∀{l:List Nat},KU l=true->l.Nodup
 | [],_=>List.nodup_nil
 | a::l,h=>by
  refine bI (show(_&&_)=true from h) fun b c=>?_
  refine rc.mpr ⟨fun m=>?_,mW c⟩
  replace b:=tK m▸b;exact aS b
theorem ke {f:Nat->Str}:∀{l:List Nat},(∀x∈l,∀y∈l,f x=f y->x=y)->l.Nodup->(l.map f).Nodup
 | [],_,_=>List.nodup_nil
 | a::l,hf,h=>by
  refine am (rc.mp h) fun i g=>?_
  refine rc.mpr ⟨fun m=>?_,ke (fun x j y d=>hf x (.tail _ j) y (.tail _ d)) g⟩
  refine ai (mc.mp m) fun b c e=>?_
  replace c:=hf b (.tail _ c) a (.head _) e▸c
  exact i c
theorem n7 {l:List Str} (h:l.Nodup):l.eraseDups=l:=by
 induction l with
 | nil=>rfl
 | cons a l c =>
  refine am (rc.mp h) fun g d=>?_
  refine aa List.eraseDups_cons ?_
  have:l.filter (fun b=>!b==a)=l:=List.filter_eq_self.mpr fun b f=>by
   have:(b==a)=false:=beq_eq_false_iff_ne.mpr fun e=>g (e▸f)
   exact aa this rfl
  exact aa this (aa (c d) rfl)
section
variable {sc:Scope} {env:Env}
noncomputable def vo (env:Env) (line:Nat) (e:Expr):Option Str:=PySem.swappedStores.match_8 (fun c=>Option Str) e (fun b a=>if env.kindOf b==some .local&&a.line==line then some b else none) fun c=>none
theorem zr (FE:FnEnv env sc) {ts:List Tn} (ht:∀t∈ts,ub sc t) (line:Nat) (h:ts.any (·.1)=true):((ts.map Tn.e).filterMap (vo env line)).length<ts.length:=by
 induction ts with
 | nil=>exact aS h
 | cons t ts a =>
  have w:=ht t (.head _)
  have b:∀t∈ts,ub sc t:=fun t m=>ht t (.tail _ m)
  have le:∀l:List Tn,((l.map Tn.e).filterMap (vo env line)).length<=l.length:=fun l=>by
   have:=List.length_filterMap_le (vo env line) (l.map Tn.e);simpa using this
  refine aa ol (aa List.filterMap_cons ?_)
  obtain⟨c,y,p⟩:=t
  induction c using dI with
  | true =>
   have e:vo env line (Tn.e (true,y,p))=none:=by
    show(if(env.kindOf (nm y)==some .local&&p.line==line)=true then some (nm y) else none)=none
    exact aa (FE.c y (w.2.2 rfl)) rfl
   refine aa e ?_
   exact Nat.lt_succ_of_le (le ts)
  | false =>
   have h:ts.any (·.1)=true:=by simpa using h
   have:=a b h
   cases vo env line (Tn.e (false,y,p)) with
   | none=>exact vb this
   | some z=>exact Nat.succ_lt_succ this
theorem zt (FE:FnEnv env sc) {ts:List Tn} (ht:∀t∈ts,ub sc t) (line:Nat) (h:ts.all (fun t=>My t line)=true):(ts.map Tn.e).filterMap (vo env line)=ts.map fun t=>nm t.2.1:=by
 induction ts with
 | nil=>rfl
 | cons t ts b =>
  have w:=ht t (.head _)
  replace h:=List.all_cons▸h
  refine bI h fun i f=>?_
  obtain⟨c,y,p⟩:=t
  refine bI i fun d a=>?_
  have g:c=false:=by simpa using d
  subst g
  refine aa ol (aa List.filterMap_cons ?_)
  have e:vo env line (Tn.e (false,y,p))=some (nm y):=by
   show(if(env.kindOf (nm y)==some .local&&p.line==line)=true then some (nm y) else none)=some (nm y)
   refine aa (FE.l y (w.2.1 rfl)) ?_
   have a:(p.line==line)=true:=a
   exact aa a rfl
  refine aa e (aa (b (fun t m=>ht t (.tail _ m)) f) ?_);rfl
theorem zu (ts:List Tn):(((ts.map Tn.e).head?.map (·.pos.line)).getD 0)=PK ts:=by cases ts<;>rfl
theorem nG {ts:List Tn} {kk kk':Nat} {tp p:Pos} {es:List Expr}:swappedStores [.Tuple (ts.map Tn.e) kk tp] (.Tuple es kk' p) env =
  (if !(((ts.map Tn.e).length==2||(ts.map Tn.e).length==3))||es.length !=(ts.map Tn.e).length||env.blockKind !=.function then return none
  else if(es.any O3) then return none
  else if((ts.map Tn.e).filterMap (vo env (((ts.map Tn.e).head?.map (·.pos.line)).getD 0))).length !=(ts.map Tn.e).length||((ts.map Tn.e).filterMap (vo env (((ts.map Tn.e).head?.map (·.pos.line)).getD 0))).eraseDups.length !=((ts.map Tn.e).filterMap (vo env (((ts.map Tn.e).head?.map (·.pos.line)).getD 0))).length then return none
  else if es.all (foldedForSure 8) then return none
  else if es.all (constantsAlone 8) then(do let _:Unit <-unsupported "assign.tuple-of-constant-expressions:order-of-the-stores";return some ((ts.map Tn.e).filterMap (vo env (((ts.map Tn.e).head?.map (·.pos.line)).getD 0))))
  else return some ((ts.map Tn.e).filterMap (vo env (((ts.map Tn.e).head?.map (·.pos.line)).getD 0)))):=by
 rfl
theorem BI (FE:FnEnv env sc):(env.blockKind !=ScopeKind.function)=false:=by exact aa FE.b rfl
theorem Ej (FE:FnEnv env sc) {aT:List Nat} {lp:Bool} {T:List (Nat×V)} {ts:List Tn} {kk kk':Nat} {tp p:Pos} {es:X} (ht:∀t∈ts,ub sc t) (we:wf lp T aT es .a sc true=true) (h:IY ts es=true) :
  swappedStores [.Tuple (ts.map Tn.e) kk tp] (.Tuple (bg es) kk' p) env=pure none:=by
 refine aa nG (aa (jb _) (aa (BI FE) (aa (Bool.or_false _) (aa (qo we) ?_))))
 by_cases b:(!(ts.length==2||ts.length==3)||(bg es).length !=ts.length)=true
 ·exact aa (if_pos b) rfl
 ·refine aa (if_neg b) (aa (if_neg (by decide)) ?_)
  have b:=Bool.eq_false_iff.mpr b
  have h:(!(NK ts.length)||((bg es).length !=ts.length)||(ts.any (·.1)||(bg es).all (foldedForSure 8)))=true:=h
  have c:(!(NK ts.length)||((bg es).length !=ts.length))=false:=b
  replace h:=(c)▸h;rewrite[Bool.false_or] at h
  rcases l8.mp h with h|h
  ·rw[if_pos]
   have:=zr FE ht (((ts.map Tn.e).head?.map (·.pos.line)).getD 0) h
   rw[l8]
   exact .inl (bne_iff_ne.mpr (rd this))
  ·refine aa (if_pos h) ?_;split<;>rfl
theorem Ek (FE:FnEnv env sc) {aT:List Nat} {lp:Bool} {T:List (Nat×V)} {ts:List Tn} {kk kk':Nat} {tp p:Pos} {es:X} (ht:∀t∈ts,ub sc t) (we:wf lp T aT es .a sc true=true) (h:doSw ts es=true) :
  swappedStores [.Tuple (ts.map Tn.e) kk tp] (.Tuple (bg es) kk' p) env=pure (some (ts.map fun t=>nm t.2.1)):=by
 refine bI h fun b h=>?_
 refine bI h fun m h=>?_
 refine bI h fun g h=>?_
 refine bI h fun n h=>?_
 refine bI h fun d c=>?_
 have f:(ts.map fun t=>nm t.2.1).Nodup:=by
  have:(ts.map fun t=>nm t.2.1)=(ts.map (·.2.1)).map nm:=by exact aa List.map_map rfl
  refine aa this ?_
  refine ke (fun x j y l e=>?_) (mW n)
  refine ai (mc.mp j) ?_;rintro t i rfl
  refine ai (mc.mp l) ?_;rintro u o rfl
  exact kX (ht t i).1 (ht u o).1 e
 refine aa nG (aa (jb _) (aa (BI FE) (aa (Bool.or_false _) (aa (qo we) (aa (zu _) (aa (zt FE ht _ g) (aa (n7 f) (aa (jb _) ?_))))))))
 have k:(!(ts.length==2||ts.length==3)||(bg es).length !=ts.length)=false:=by
  have b:(ts.length==2||ts.length==3)=true:=b
  refine aa b (aa Bool.not_true (aa (Bool.false_or _) ?_));rewrite[bne];exact aa m rfl
 refine aa k (aa (if_neg (by decide)) (aa (if_neg (by decide)) (aa (bne_self_eq_false _) (aa (Bool.false_or _) (aa (if_neg (by decide)) ?_)))))
 have d:(bg es).all (foldedForSure 8)=false:=by simpa using d
 have c:(bg es).all (constantsAlone 8)=false:=by simpa using c
 refine aa d (aa c ?_)
 rfl
end
def Gl (s:Sx) (k:Sx->Sx->Bool):Bool:=Sx.casesOn s jp (fun a a a a a=>false) (fun a a a a a=>false) (fun a a a a a=>false) aJ aJ jp (fun a a a a=>false) jp (fun a a a a=>false) (fun a a a a a a a=>false) (fun a a a a a a a a a a=>false) false (fun h t=>k h t) ac
def Mz (s:Sx):Bool:=Sx.casesOn s jp (fun a a a a a=>false) (fun a a a a a=>false) (fun a a a a a=>false) aJ aJ jp (fun a a a a=>false) jp (fun a a a a=>false) (fun a a a a a a a=>false) (fun a a a a a a a a a a=>false) true aJ ac
def PP (f:X->Bool) (s:Sx):Bool:=Sx.casesOn s jp (fun a a a a a=>false) (fun a a a a a=>false) (fun a a a a a=>false) aJ (fun e a=>f e) (fun b e a=>af b false (f e)) (fun a a a a=>false) jp (fun a a a a=>false) (fun a a a a a a a=>false) (fun a a a a a a a a a a=>false) false aJ ac
def hB (f:X->Bool) (s:Sx):Bool:=Gl s fun h t=>af (Mz t) (PP f h) false
theorem IZ {s:Sx} {k:Sx->Sx->Bool} {G:Prop} (h:Gl s k=true) (K:∀a b,s=.cons a b->k a b=true->G):G:=by cases s<;>first|(first|exact aS h|cases h);done|exact K _ _ rfl h
theorem MA {s:Sx} (h:Mz s=true):s=.nil:=by cases s<;>first|rfl|exact aS h
theorem O4 {f:X->Bool} {s:Sx} {G:Prop} (h:PP f s=true) (K:∀e p,s=.ret e p->f e=true->G) (L:∀e p,s=.rai false e p->f e=true->G):G:=by
 cases s<;>first|(first|exact aS h|cases h);done|exact K _ _ rfl h|skip
 case rai lp e p=>cases lp<;>first|exact L _ _ rfl h|exact aS h
section
variable (lp:Bool) (T:List (Nat×V)) (aT:List Nat) (sc:Scope)
def wv (e:X):Bool:=wf lp T aT e .v sc true
abbrev WS:=Bool->Bool
noncomputable def one (b:Bool):WS:=fun l=>!l&&b
def wfS (s:Sx):WS:=@Sx.rec (fun d=>WS)
 (fun t e d=>one (tJ sc t&&wv lp T aT sc e))
 (fun f d d e d=>one (lp&&(f.all (tJ sc)&&(PO f e&&wv lp T aT sc e))))
 (fun o a d e d=>one (aT.contains a&&(wv lp T aT sc e&&wv lp T aT sc o)))
 (fun o i d e d=>one (wv lp T aT sc e&&(wv lp T aT sc o&&wv lp T aT sc i)))
 (fun e d=>one (nolc e&&wv lp T aT sc e)) (fun e d=>one (wv lp T aT sc e)) (fun r e d=>one (r&&(lp&&wv lp T aT sc e)))
 (fun c d d d a b=>one (wv lp T aT sc c&&(a true&&b true))) (fun c d d b=>one (wv lp T aT sc c&&b true))
 (fun t m d d b=>one (lp&&(wv lp T aT sc m&&(b true&&rM (tJ sc) t))))
 (fun t q k d d d d b=>one (lp&&(aP sc (oB q) .globalImplicit&&(wf lp T aT k .a sc true&&((wO q||isMany t)&&(b true&&rM (tJ sc) t))))))
 (fun r e d g j d n h d d d=>one (lp&&(wv lp T aT sc e&&((r||nolc e)&&(aP sc j .globalImplicit&&(NJ (az j T) (.cls g)&&(jG g&&(nE n&&(aP sc n .local&&hB (wv false T aT sc) h)))))))))
 (fun l=>l) (fun d d a b l=>l&&(a false&&b true)) (fun d=>one true) s
end
theorem mX {b l:Bool} {G:Prop} (h:one b l=true) (K:l=false->b=true->G):G:=by cases l<;>first|exact K rfl h|exact aS h
section
variable {g:Gd} {K:Frag} {aT:List Nat} {gT:Tx} {sc:Scope}
theorem Gm {e:X} {scC:Scope} {pos:Pos} (he:xY e=some (scC,pos)) (t:Tn) (n:Nat) (env:Env):swapsWithSole [t.e] (aX e) n env=pure (env.blockKind==.function&&env.kindOf (nm t.2.1)==some .local&&t.2.2.line==pos.line&&!(scC.names.any fun(n,k)=>n==nm t.2.1&&(k==.local||k==.cell))):=by
 cases e<;>first|((first|exact bj he|cases he);done)|skip
 all_goals
  cases he
  rfl
theorem MB {e:X} (h:nolc e=false):∃scC pos,xY e=some (scC,pos):=by
 cases e<;>first|exact⟨_,_,rfl⟩|(cases h;done)
theorem I0 (FC:Facts g K aT) {t:Tn} {e:X} {p:Pos} (h1:tJ sc t=true) (h2:wv gT.lp gT.t aT sc e=true):SS g gT sc (.asg t e p):=by
 have z:SV g gT true sc e:=(gO FC e (gT:=gT) (m:=.v) h2).1
 have f:=lZ h1
 induction G:nolc e using dI with
 | true =>
  intro c q A F a u r Z w y x s U C W P E d
  exact wC z f (fun a I=>tI (cT h2) G (some t.e) p.line a) C W P E d
 | false =>
  obtain⟨l,h,o⟩:=MB G
  induction B:t.1 using dI with
  | true =>
   intro c q A F a u r Z w y x s U C W P E d
   refine wC z f (fun a H=>?_) C W P E d
   rewrite[Gm o];refine aa (H _ (f.2.2 B)) ?_
   have:(some i3.cell==some i3.local)=false:=rfl
   refine aa this ?_;simp
  | false =>
   induction i:qd t l h p using dI with
   | false =>
    intro c q A F a u r Z w y x s U C W P E d
    refine wC z f (fun a I=>?_) C W P E d
    rw[Gm o]
    have i:((t.2.2.line==h.line)&&!(l.names.any fun(n,k)=>n==nm t.2.1&&(k==.local||k==.cell)))=false:=i
    rewrite[Bool.and_assoc];refine aa i ?_;simp
   | true =>
    cases e<;>first|(cases o;done)|skip
    case lcm e tg it ifs sc' p' =>
     cases o
     obtain⟨_,L,S⟩:=BG (fun{m sc j}=>gO FC e) (fun{m sc j}=>gO FC it) (fun{m sc j}=>gO FC ifs) h2
     intro c q A F a u r Z w y x s U C W P E d
     exact Bd L S f B i C W P E d
    case lcz e tg b as ifs sc' bp ip p' =>
     cases o
     obtain⟨_,L,S⟩:=BH (fun{m sc j}=>gO FC e) (fun{m sc j}=>gO FC as) (fun{m sc j}=>gO FC ifs) h2
     intro c q A F a u r Z w y x s U C W P E d
     exact Be L S f B i C W P E d
theorem md (e:X) (hv:kK e=true) (ts:List Expr) (kk:Nat) (tp:Pos) (n:Nat) (env:Env):swapsWithSole [.Tuple ts kk tp] (aX e) n env=pure false:=vE (P:=fun e=>swapsWithSole [.Tuple ts kk tp] e n env=pure false) hv (fun a a a=>rfl) (fun a a=>rfl) (fun a a a a=>rfl) (fun a a=>rfl) (fun a a a=>rfl) (fun a a a a=>rfl) (fun a a a a=>rfl) (fun a a a=>rfl) (fun a a a=>rfl) (fun a a a a=>rfl) (fun a a a=>rfl) (fun a a a=>rfl) (fun a a a a=>rfl) (fun a a a a a=>rfl)
theorem MC {e:X} (hv:kK e=true) (h:∀es kk p,e≠.tup es kk p) (ts:List Expr) (kk:Nat) (tp:Pos) (env:Env):swappedStores [.Tuple ts kk tp] (aX e) env=pure none:=vE (P:=fun e=>swappedStores [.Tuple ts kk tp] e env=pure none) hv (fun a a a=>rfl) (fun a a=>rfl) (fun⟨l,k,p,q⟩=>absurd q (h l k p)) (fun a a=>rfl) (fun a a a=>rfl) (fun a a a a=>rfl) (fun a a a a=>rfl) (fun a a a=>rfl) (fun a a a=>rfl) (fun a a a a=>rfl) (fun a a a=>rfl) (fun a a a=>rfl) (fun a a a a=>rfl) (fun a a a a a=>rfl)
theorem El (FC:Facts g K aT) {ts:List Tn} {kk:Nat} {tp:Pos} {e:X} {p:Pos} (hl:gT.lp=true) (h1:ts.all (tJ sc)=true) (h2:PO ts e=true) (h3:wv gT.lp gT.t aT sc e=true):SS g gT sc (.asgT ts kk tp e p):=by
 intro o y A F b G B Z I J x s U C W P E l
 have k:SV g gT true sc e:=(gO FC e (gT:=gT) (m:=.v) h3).1
 have f:∀t∈ts,ub sc t:=fun t m=>lZ (dV.mp h1 t m)
 have j:=cT h3
 by_cases hq:∃c kk p,e=.tup c kk p
 ·refine NW hq ?_;clear hq;rintro c r H rfl
  have n:wf gT.lp gT.t aT c .a sc true=true:=h3
  rcases l8.mp (show(IY ts c||doSw ts c)=true from h2) with h|h
  ·exact xL hl k f (fun b q=>md _ j _ _ _ _ b) (fun b i=>Ej i f n h) C W P E l
  ·refine bI h fun z d=>?_
   refine bI d fun d2 d=>?_
   refine bI d fun d3 d=>?_
   refine bI d fun w u=>?_
   refine Bf hl k f (fun t m=>?_) (mW w) (fun b q=>md _ j _ _ _ _ b) (fun b i=>Ek i f n h) C W P E l
   have:=(an (dV.mp d3 t m)).1
   simpa using this
 ·exact xL hl k f (fun b q=>md _ j _ _ _ _ b) (fun b i=>MC j (fun c kk p h=>hq ⟨c,kk,p,h⟩) _ _ _ b) C W P E l
theorem xZ {e:X} (hv:kK e=true) {t:Expr} (ht:∀i p,t≠.Name i p) (n:Nat) (env:Env):swapsWith (aX e) (some t) n env=pure false:=vE (P:=fun e=>swapsWith e (some t) n env=pure false) hv (fun a a a=>rfl) (fun a a=>rfl) (fun a a a a=>rfl) (fun a a=>rfl) (fun a a a=>rfl) (fun a a a a=>rfl) (fun a a a a=>rfl) (fun a a a=>rfl) (fun a a a=>rfl) (fun a a a a=>rfl) (fun a a a=>rfl) (fun a a a=>rfl) (fun a a a a=>rfl) (fun a a a a a=>by cases t<;>first|rfl|exact absurd rfl (ht _ _))
theorem MD (FC:Facts g K aT) {h:Sx} (w:hB (wv false gT.t aT sc) h=true):SH g ⟨gT.t,false⟩ sc h:=by
 refine IZ w ?_;clear w;rintro a b rfl w
 refine ak w fun c w=>?_
 obtain rfl:=MA c
 refine O4 w (fun e p z w=>?_) fun e p z w=>?_
 ·subst z;exact IR (gO FC _ (gT:=⟨gT.t,false⟩) (m:=.v) w).1
 ·subst z;exact IS FC.EO (gO FC _ (gT:=⟨gT.t,false⟩) (m:=.v) w).1
def ME (g:Gd) (gT:Tx) (sc:Scope) (s:Sx):Bool->Prop
 | true=>wB g gT sc s
 | false=>SS g gT sc s
theorem tL (FC:Facts g K aT) (s:Sx):∀l,wfS gT.lp gT.t aT sc s l=true->ME g gT sc s l:=by
 have V:∀{e:X},wv gT.lp gT.t aT sc e=true->SV g gT true sc e/\ST g gT true sc e:=fun{e} h=>gO FC e (gT:=gT) (m:=.v) h
 induction s with
 | asg t e p =>
  intro l h
  refine no_implicit_lambda% ((mX h) ?_);clear h;rintro rfl h
  intro f w A F d z y Z B G x s U C W P E j
  exact I0 FC (an h).1 (an h).2 C W P E j
 | asgT ts kk tp e p =>
  intro l h
  refine no_implicit_lambda% ((mX h) ?_);clear h;rintro rfl h
  refine no_implicit_lambda% ((bI h) ?_);clear h;intro k h
  refine no_implicit_lambda% ((bI h) ?_);clear h;intro u h
  intro f w A F d z y Z B G x s U C W P E j
  exact El FC k u (an h).1 (an h).2 C W P E j
 | asgA o a ap e p =>
  intro l h
  refine no_implicit_lambda% ((mX h) ?_);clear h;rintro rfl h
  refine no_implicit_lambda% ((bI h) ?_);clear h;intro k h
  refine no_implicit_lambda% ((bI h) ?_);intro u H
  intro f w A F d z y Z B G x s U C W P E j
  exact DG FC.KO FC.XP k (V u).1 (V H).1 (fun d=>xZ (cT u) (fun N N e=>by cases e) _ d) C W P E j
 | asgI o i ip e p =>
  intro l h
  refine no_implicit_lambda% ((mX h) ?_);clear h;rintro rfl h
  refine no_implicit_lambda% ((bI h) ?_);clear h;intro k h
  refine no_implicit_lambda% ((bI h) ?_);intro u H
  intro f w A F d z y Z B G x s U C W P E j
  exact DF (V k).1 (V u).1 (V H).1 (fun d=>xZ (cT k) (fun N N e=>by cases e) _ d) C W P E j
 | exp e p =>
  intro l h
  refine no_implicit_lambda% ((mX h) ?_);clear h;rintro rfl h
  intro f w A F d z y Z B G x s U C W P E j
  exact Iv (V (an h).2).1 (fun d=>tI (cT (an h).2) (an h).1 _ _ d) C W P E j
 | ret e p =>
  intro l h
  refine no_implicit_lambda% ((mX h) ?_);clear h;rintro rfl h
  intro f w A F d z y Z B G x s U C W P E j
  exact Iw (V h).1 C W P E j
 | rai r e p =>
  intro l h
  refine no_implicit_lambda% ((mX h) ?_);clear h;rintro rfl h
  refine no_implicit_lambda% ((bI h) ?_);intro k u
  have k:r=true:=k
  subst k
  intro f w A F d z y Z B G x s U C W P E j
  exact IQ FC.EO (an u).1 (V (an u).2).1 C W P E j
 | iff c a b p L I =>
  intro l h
  refine no_implicit_lambda% ((mX h) ?_);clear h;rintro rfl h
  refine no_implicit_lambda% ((bI h) ?_);clear h;intro k h
  refine no_implicit_lambda% ((bI h) ?_);intro u H
  intro f w A F d z y Z B G x s U C W P E j
  exact Ix (V k).2 (L true u) (I true H) C W P E j
 | whl c b p I =>
  intro l h
  refine no_implicit_lambda% ((mX h) ?_);clear h;rintro rfl h
  refine no_implicit_lambda% ((bI h) ?_);intro k u
  intro f w A F d z y Z B G x s U C W P E j
  exact IE (V k).2 (I true u) C W P E j
 | forr t it b p I =>
  intro l h
  refine no_implicit_lambda% ((mX h) ?_);clear h;rintro rfl h
  refine no_implicit_lambda% ((bI h) ?_);clear h;intro k h
  refine no_implicit_lambda% ((bI h) ?_);clear h;intro u h
  refine no_implicit_lambda% ((bI h) ?_);intro H J
  intro f w A F d z y Z B G x s U C W P E j
  exact DU k (Bc (V u).1 (rK (cT u))) (I true H) (vk J) C W P E j
 | forz t q as bp ip b p I =>
  intro l h
  refine no_implicit_lambda% ((mX h) ?_);clear h;rintro rfl h
  refine no_implicit_lambda% ((bI h) ?_);clear h;intro k h
  refine no_implicit_lambda% ((bI h) ?_);clear h;intro u h
  refine no_implicit_lambda% ((bI h) ?_);clear h;intro H h
  refine no_implicit_lambda% ((bI h) ?_);clear h;intro J h
  refine no_implicit_lambda% ((bI h) ?_);intro M Q
  intro f w A F d z y Z B G x s U C W P E j
  exact DV k (Gb u (gO FC as (gT:=gT) (m:=.a) H) (rO J)) (I true M) (vk Q) C W P E j
 | tri r e ep cc tn tp n h hp p ih =>
  intro l h
  refine no_implicit_lambda% ((mX h) ?_);clear h;rintro rfl h
  refine no_implicit_lambda% ((bI h) ?_);clear h;intro k h
  refine no_implicit_lambda% ((bI h) ?_);clear h;intro u h
  refine no_implicit_lambda% ((bI h) ?_);clear h;intro H h
  refine no_implicit_lambda% ((bI h) ?_);clear h;intro J h
  refine no_implicit_lambda% ((bI h) ?_);clear h;intro M h
  refine no_implicit_lambda% ((bI h) ?_);clear h;intro Q h
  refine no_implicit_lambda% ((bI h) ?_);clear h;intro S h
  refine no_implicit_lambda% ((bI h) ?_);intro h8 Y
  intro f w A F d z y Z B G x s U C W P E j
  refine IT FC.EO k (V u).1 (fun er d=>?_) J (wM M) Q (fN S) h8 (MD FC Y) C W P E j
  subst er
  exact tI (cT u) H _ _ d
 | nil =>
  intro l h
  have h:l=true:=h
  subst h
  intro f w A F d z y Z B G x s U C W P E j
  exact DE C W P E j
 | cons a b L I =>
  intro l h
  refine no_implicit_lambda% ((bI h) ?_);clear h;intro k h
  have k:l=true:=k
  subst k
  intro f w A F d z y Z B G x s U C W P E j
  exact AW (L false (an h).1) (I true (an h).2) C W P E j
 | raw st =>
  intro l h
  refine no_implicit_lambda% ((mX h) ?_);clear h;rintro rfl h
  intro f w A F d z y Z B G x s U C W P E j
  exact aS j
end
def vp (call ch:Call) (f:V) (l:List V) (Z:St) (k:K1) (x:KX):Bool:=V.casesOn f false ac ac ac ac ac ac
 (fun i=>mO call ch i l Z k x) (fun c=>HA call ch c l Z k x) aJ ac aJ
def fX (n:Nat):Call:=@Nat.rec (fun a=>Call) (fun a a a a a=>false) (fun a b f l Z k x=>af (quiet f) (vp b b f l Z k x) false) n
def fZ (isS:V->Bool) (sp:Call) (n:Nat):Call:=@Nat.rec (fun a=>Call) (fun a a a a a=>false) (fun n b f l Z k x=>af (isS f) (sp f l Z k x) (vp b (fX n) f l Z k x)) n
structure Prog (g:Gd) (K:Frag) (T:List (Nat×V)) (aT:List Nat):Prop where
 fc:Facts g K aT
 mki:MkOk g K
 base:∀lp,BaseOk g ⟨T,lp⟩
 fns:∀i fn,nQ i=some fn->∃fd ds,FnOk g i fn fd ds/\wfS true T aT fd.scope fn.bd true=true/\(NH fn.bd=true->wfS false T aT fd.scope fn.bd true=true)
 ini:∀c i,az aH (kt c)=some i->g6 c=!(jG c)/\(eL c 2=true->lpF i=true)
section
variable {g:Gd} {K:Frag} {T:List (Nat×V)} {aT:List Nat} {F:Addr->Prop} {s:ce} {U:Nat->Addr} {Z:St} {A:ef} {k:K1} {x:KX} {call ch:Call} {l:List V} {us:List bo}
def wP (g:Gd) (isS:V->Bool) (sp:Call) (n:Nat):Prop:=∀{A:ef} {F:Addr->Prop} {fv:V} {l:List V} {Z:St} {k:K1} {x:KX} {U:Nat->Addr} {s:ce} {f:bo} {us:List bo},AOk A F n->A.handled=none->isS fv=true->sp fv l Z k x=true->R g Z U s.heap->Pv g F aL Z U s.heap ->
 VR g s.heap U Z.nx fv f->VRs g s.heap U Z.nx l us->dk g.m A (f5 f us) (Po g F aL Z U s k) (PX g F aL Z U s x) s
theorem kg {f:bo} (h:z9 g.m A (.call f ⟨us,[]⟩) (pV g F Z U s k x) s):dk g.m A (f5 f us) (Po g F aL Z U s k) (PX g F aL Z U s x) s:=by
 refine wpAny_call (codeAny_mono h fun r a q=>?_)
 cases r with
 | error e=>exact q
 | ok v=>cases v<;>exact q
theorem wQ (PR:Prog g K T aT) {n i:Nat} {lp:Bool} (hlp:lp=false->lpF i=true) (ρ:Under g ⟨T,lp⟩ A F n call ch) (W:R g Z U s.heap) (P:Pv g F aL Z U s.heap) (r:VRs g s.heap U Z.nx l us) (h:mO call ch i l Z k x=true) :
  z9 g.m A (.call (.ref (g.fa i)) ⟨us,[]⟩) (pV g F Z U s k x) s:=by
 have e:=h
 refine bS e fun a c o=>?_
 refine aA (PR.fns i a c) fun b u d f p=>?_
 have j:ME g ⟨T,lp⟩ b.scope a.bd true:=by
  induction lp using dI with
  | true=>exact @tL g K aT ⟨T,true⟩ b.scope PR.fc a.bd true f
  | false =>
   have:=hlp rfl
   unfold lpF at this
   replace this:=c▸this
   have q:wfS (Tx.mk T false).lp (Tx.mk T false).t aT b.scope a.bd true=true:=p this
   exact @tL g K aT ⟨T,false⟩ b.scope PR.fc a.bd true q
 exact DL d c ρ j W P r h
theorem I4 (PR:Prog g K T aT) {n c:Nat} {lp:Bool} (hlp:lp=false->eL c 2=true) (AO:AOk A F (n+1)) (ρ:∀{A'},AOq A' F n->A'.handled=A.handled->Under g ⟨T,lp⟩ A' F n call ch) (W:R g Z U s.heap) (P:Pv g F aL Z U s.heap) (r:VRs g s.heap U Z.nx l us) (h:HA call ch c l Z k x=true) :
  z9 g.m A (.call (.ref (g.ca c)) ⟨us,[]⟩) (pV g F Z U s k x) s:=by
 refine bS (o:=az aH (kt c)) h fun i b h=>?_
 refine am (PR.ini c i b) fun j f=>?_
 induction q:jG c using dI with
 | true =>
  replace h:=q▸h
  refine DZ PR.fc.KO PR.fc.EO q AO W P r b (fun a d W P r h=>wQ PR (fun e=>f (hlp e)) (ρ a d) W P r h) h
 | false =>
  replace h:=q▸h
  refine DM PR.fc.KO PR.mki (aa j (aa q rfl)) AO W P r b (fun a d W P r h=>wQ PR (fun e=>f (hlp e)) (ρ a d) W P r h) h
theorem x9 (PR:Prog g K T aT) {n:Nat} {lp:Bool} {fv:V} {f:bo} (hlp:lp=false->quiet fv=true) (AO:AOk A F (n+1)) (ρ:∀{A'},AOq A' F n->A'.handled=A.handled->Under g ⟨T,lp⟩ A' F n call ch) (W:R g Z U s.heap) (P:Pv g F aL Z U s.heap) (rf:VR g s.heap U Z.nx fv f) (r:VRs g s.heap U Z.nx l us)
  (h:vp call ch fv l Z k x=true):dk g.m A (f5 f us) (Po g F aL Z U s k) (PX g F aL Z U s x) s:=by
 induction fv using eV with
 | fn i =>
  have h:mO call ch i l Z k x=true:=h
  cases rf
  exact kg (wQ PR (fun e=>hlp e) (ρ AO.q rfl) W P r h)
 | cls c =>
  have h:HA call ch c l Z k x=true:=h
  cases rf
  exact kg (I4 PR (fun e=>hlp e) AO ρ W P r h)
 | _=>exact aS h
theorem me (PR:Prog g K T aT) (n:Nat):∀{A:ef} {F:Addr->Prop},AOk A F n->lR g A F (fX n):=by
 induction n with
 | zero=>intro A F c j a l Z k x U s f i _ h;exact aS h
 | succ n o =>
  intro A F c j a l Z k x U s f i q h W P p r
  refine ak (show af (quiet a) (vp (fX n) (fX n) a l Z k x) false=true from h) fun m h=>?_
  exact x9 PR (lp:=false) (fun b=>m) (pW c q) (fun d b=>⟨PR.base false,d,fun e=>(by exact aS e),fun AO' b=>o AO',fun e=>by exact aS e⟩) W P p r h
end
section
def Gd.lt (g:Gd) (f:Nat->Nat) (hf:∀k,f k∈nm6):Gd:={g with nam:=f,hnam:=hf}
def MF (m w k:Nat):Bool:=af (c6 w 2) true (c6 w 4)
def iD (m:Nat) (v:V):Bool:=@V.rec (fun c=>Bool) (fun c=>Bool) true ge ge ge ge (fun c h=>h) (fun k=>l9 k m) ge ge (fun w i=>af (l9 i m) (l9 (jf 1032 w) m) false) ge (fun w k=>MF m w k) true (fun c c a b=>af a b false) v
def qq (m:Nat) (l:List V):Bool:=@V.rec_1 (fun c=>Bool) (fun c=>Bool) true ge ge ge ge (fun c h=>h) (fun k=>l9 k m) ge ge (fun w i=>af (l9 i m) (l9 (jf 1032 w) m) false) ge (fun w k=>MF m w k) true (fun c c a b=>af a b false) l
theorem dO {a b:Nat} (h:l9 a b=true):a<b:=bY h
section
variable {g:Gd} {h h':Heap} {U U':Nat->Addr} {n m:Nat} {f:Nat->Nat} {hf:∀k,f k∈nm6}
mutual
theorem VR.cut:∀{x:V} {v:bo},iD m x=true->VR g h U n x v->VR (g.lt f hf) h U m x v
 | .none,_,_,e=>e
 | .bool _,_,_,e=>e
 | .int _,_,_,e=>e
 | .str _,_,_,e=>e
 | .byt _,_,_,e=>e
 | .tup l,v,c,⟨a,vs,e,t,r⟩=>⟨a,vs,e,t,VRs.cut (show qq m l=true from c) r⟩
 | .obj k,v,c,⟨e,hk⟩=>⟨e,dO c⟩
 | .fn _,_,_,e=>e
 | .cls _,_,_,e=>e
 | .clo k i,v,c,⟨x,hk⟩=>⟨x,dO (cb (show af (l9 i m) (l9 (jf 1032 k) m) false=true from c)).1,dO (cb (show af (l9 i m) (l9 (jf 1032 k) m) false=true from c)).2⟩
 | .sym _,_,_,e=>e
 | .ab w k,v,c,e=>by
  have c:af (c6 w 2) true (c6 w 4)=true:=c
  induction q:c6 w 2 using dI with
  | true=>cases bz q;exact e
  | false=>replace c:=q▸c;cases bz (show c6 w 4=true from c);exact e
theorem VRs.cut:∀{x:List V} {v:List bo},qq m x=true->VRs g h U n x v->VRs (g.lt f hf) h U m x v
 | [],_,_,e=>e
 | x::r,vs,c,⟨v,q,e,a,b⟩=>by
  refine ak (show af (iD m x) (qq m r) false=true from c) fun c1 c2=>?_
  exact⟨v,q,e,VR.cut c1 a,VRs.cut c2 b⟩
end
theorem VR.any {x:V} {v:bo} (e:VR g h U n x v):handedIn v=true:=by
 cases x with
 | none=>cases e;rfl
 | bool _=>cases e;rfl
 | int _=>refine aG e ?_;rintro _ rfl;rfl
 | str _=>refine eM e ?_;rintro _ _ ⟨rfl,_⟩;rfl
 | byt _=>refine eM e ?_;rintro _ _ rfl;rfl
 | tup l=>refine eM e ?_;rintro _ _ ⟨rfl,_⟩;rfl
 | obj k=>cases e.1;rfl
 | fn _=>cases e;rfl
 | cls _=>cases e;rfl
 | clo k i=>refine eM e.1 ?_;rintro _ _ ⟨rfl,_⟩;rfl
 | sym _=>exact e
 | ab w k =>
  refine AbR.cs e ?_ ?_
  ·rintro _ _ rfl;rfl
  ·rintro _ _ rfl;rfl
theorem VR.to_sym {k:Nat} {x:V} {v:bo} (r:VR g h U n x v):VR (g.lt f hf) h U' m (.sym k) v:=r.any
theorem VRs.to_sym {l:List V} {vs:List bo} (r:VRs g h U n l vs):VRs (g.lt f hf) h U' m (l.map fun u_=>.sym 0) vs:=r.ind rfl fun a _ b=>⟨_,_,rfl,a.any,b⟩
def blank (m:Nat) (v:V):V:=af (iD m v) v (.sym 0)
theorem VR.blank {x:V} {v:bo} (r:VR g h U n x v):VR (g.lt f hf) h U m (Mine.blank m x) v:=by
 show VR _ h U m (af (iD m x) x (.sym 0)) v
 induction q:iD m x using dI with
 | true=>exact r.cut q
 | false=>exact r.to_sym
def qt (m:Nat) (l:List (Nat×V)):List (Nat×V):=l.map fun p=>(p.1,blank m p.2)
theorem ERs.blank {l:List (Nat×V)} {q:List (Str×bo)} (r:ERs g h U n l q):ERs (g.lt f hf) h U m (qt m l) q:=r.ind rfl fun a b _ c=>⟨_,_,_,rfl,a,b.blank,c⟩
theorem jS {c:Nat}:∀{l:List (Nat×V)},az c (qt m l)=(az c l).map (blank m)
 | []=>rfl
 | (k,v)::l=>by
  show az c ((k,Mine.blank m v)::qt m l)=_
  rw[ax,ax]
  by_cases e:k=c
  ·exact aa (if_pos e) (aa (if_pos e) rfl)
  ·exact aa (if_neg e) (aa (if_neg e) jS)
def cJ (m:Nat) (l:List (Nat×V)):Bool:=@List.rec (Nat×V) (fun b=>Bool) true (fun p b a=>af (iD m p.2) a false) l
theorem ERs.cut {l:List (Nat×V)} {q:List (Str×bo)} (z:cJ m l=true) (r:ERs g h U n l q):ERs (g.lt f hf) h U m l q:=by
 revert z;refine r.ind (fun _=>rfl) fun{p l} _ _ _ a b _ c z=>?_
 refine ak (show af (iD m p.2) (cJ m l) false=true from z) fun d e=>?_
 exact⟨_,_,_,rfl,a,b.cut d,c e⟩
def BJ (m:Nat) (o:O):Bool:=O.casesOn o (fun l=>qq m l) (fun l=>cJ m l) (fun a d=>l9 d m) aJ (fun v=>iD m v) true ac ac ac ge
theorem OR.cut {a:Addr} {o:O} (c:BJ m o=true) (x:OR g h U n a o):OR (g.lt f hf) h U m a o:=by
 cases o with
 | lst l=>exact x.elim fun e x=>⟨e,x.1,x.2.cut c⟩
 | dic l=>exact x.elim fun b x=>⟨b,x.1,x.2.cut c⟩
 | ins k d=>exact⟨x.1,dO c⟩
 | cel v=>exact x.elim fun y x=>⟨y,x.1,x.2.cut c⟩
 | unb=>exact x
 | tab n=>exact x
 | _=>exact aS c
theorem OR.cut_pd {a:Addr} {l kn:List (Nat×V)} (hk:∀c v,az c kn=some v->az c l=some v/\iD m v=true) (x:OR g h U n a (.dic l)):OR (g.lt f hf) h U m a (.pd kn):=by
 refine ai x fun b x r=>?_
 refine⟨b,qt m l,x,r.blank,fun c v e=>?_⟩
 refine am (hk c v e) fun d i=>?_
 refine aa jS (aa d ?_)
 show some (af (iD m v) v (.sym 0))=_
 exact aa i rfl
end
def T.allI (p:Nat->O->Bool) (t:T):Nat->Nat->Bool:=@T.rec (fun b=>Nat->Nat->Bool) uc (fun v b b l r a s=>af (@Option.rec O (fun b=>Bool) true (p a) v) (af (l (jf a s) (Nat.mul s 2)) (r (jf a (Nat.mul s 2)) (Nat.mul s 2)) false) false) t
theorem T.allI_get {p:Nat->O->Bool}:∀{t:T} {a s i:Nat} {o:O},t.allI p a s=true->t.get i=some o->p (a+s*i) o=true
 | .nil,_,_,_,_,_,e=>by exact bj e
 | .node v l r,a,s,i,o,h,e=>by
  refine ak (show af (@Option.rec O (fun n=>Bool) true (p a) v) (af (l.allI p (a+s) (s*2)) (r.allI p (a+s*2) (s*2)) false) false=true from h) fun f h=>?_
  refine ak h fun k g=>?_
  have e:af (c6 i 0) v (af (c6 (i%2) 1) (l.get (i / 2)) (r.get (i / 2 - 1)))=some o:=e
  induction q:c6 i 0 using dI with
  | true =>
   replace e:=q▸e;have e:v=some o:=e;replace f:=e▸f
   cases bz q
   exact aa (Nat.mul_zero _) (aa (Nat.add_zero _) f)
  | false =>
   replace e:=q▸e
   have b:i≠0:=xy q
   induction c:c6 (i%2) 1 using dI with
   | true =>
    replace e:=c▸e
    have:=T.allI_get k e
    have m:=bz c
    have b:i=1+2*(i / 2):=Qk (by assumption)
    have d:a+s+s*2*(i / 2)=a+s*i:=by
     generalize i / 2=j at b
     subst b
     rewrite[Nat.mul_add];refine aa (Nat.mul_one _) ?_;rw[Nat.mul_assoc,Nat.add_assoc]
    replace this:=d▸this;exact this
   | false =>
    replace e:=c▸e
    have:=T.allI_get g e
    have m:=xy c
    have b:i=2+2*(i / 2 - 1):=PB (by assumption) (by assumption)
    have d:a+s*2+s*2*(i / 2 - 1)=a+s*i:=by
     generalize i / 2 - 1=j at b
     subst b
     rw[Nat.mul_add,Nat.mul_assoc,Nat.add_assoc]
    replace this:=d▸this;exact this
section
variable {g:Gd} {F X:Addr->Prop} {s s':ce} {U ρi U':Nat->Addr} {Z τ τ' Z':St} {f:Nat->Nat} {hf:∀k,f k∈nm6}
theorem R.view {h:Heap} (W:R g Z U h) (nx:τ.nx<=Z.nx) (ob:∀i o,τ.get i=some o->i<τ.nx/\OR (g.lt f hf) h U τ.nx (U i) o):R (g.lt f hf) τ U h :=
 ⟨W.base,fun i a=>W.fresh i (f3 a nx),fun i j a b=>W.inj i j (f3 a nx) (f3 b nx),fun i a=>W.ex i (f3 a nx),ob⟩
theorem Pv.view {h:Heap} (P:Pv g F X Z U h) (nx:τ.nx<=Z.nx):Pv (g.lt f hf) F X τ U h:=fun b q =>
 cE (P b q) fun a c d=>⟨a,c,fun i e=>d i (f3 e nx)⟩
theorem Go.frame (W:R g Z U s.heap) (P:Pv g F X Z U s.heap) (WT:R (g.lt f hf) τ U s.heap) (G:Go (g.lt f hf) F X τ U s τ' ρi s') (nx:τ.nx<=Z.nx)
  (dom:∀i o,τ.get i=some o->(τ.mut i=true\/∃c d,o=.exn c d)->Z.mut i=true/\∃o',Z.get i=some o')
  (nx':Z.nx<=Z'.nx) (mu:Z'.mu=Z.mu) {J:Nat->Nat} (hJ:∀i,Z.nx<=i->i<Z'.nx->τ.nx<=J i/\J i<τ'.nx) (inj:∀i j,Z.nx<=i->i<Z'.nx->Z.nx<=j->j<Z'.nx->J i=J j->i=j)
  (hρ:∀i,U' i=if i<Z.nx then U i else ρi (J i))
  (ob:∀i o,Z'.get i=some o->i<Z'.nx/\((i<Z.nx/\Z.get i=some o/\(∀o',τ.get i=some o'->τ.mut i=false/\∀c d,o'≠.exn c d))\/((i<Z.nx->∃o',Z.get i=some o')/\OR g s'.heap U' Z'.nx (U' i) o)))
  (im:∀i,Z.mut i=false->i<Z.nx->Z'.get i=Z.get i):Go g F X Z U s Z' U' s':=by
 have p:∀i,i<Z.nx->U' i=U i:=fun i a=>by exact aa (hρ _) (aa (if_pos a) rfl)
 have n:∀i,Z.nx<=i->U' i=ρi (J i):=fun i a=>by exact aa (hρ _) (aa (if_neg (ji a)) rfl)
 have new:∀i,Z.nx<=i->i<Z'.nx->s.heap.get? (U' i)=none:=fun i v y=>by
  exact aa (n i v) (G.sp.new _ (hJ i v y).1 (hJ i v y).2)
 have kp:Kp (HC Z U) F X s.heap s'.heap:=fun b o e A S=>by
  refine G.sp.kp b o e ?_ S
  rintro⟨i,o',t,rfl,u⟩
  refine am (dom i o' t u) fun m B=>?_;refine aG B fun E I=>?_
  exact A ⟨i,E,I,rfl,.inl m⟩
 have L:Later s.heap s'.heap:=G.l
 have sp:Sp g F X Z U s.heap Z' U' s'.heap:=by
  refine⟨nx',p,kp,new,fun i o a e=>?_,G.sp.ex,G.sp.pv,⟨mu,mu⟩,im⟩
  rcases(ob i o e).2 with ⟨_,t,_⟩|⟨t,_⟩
  ·exact⟨o,t⟩
  ·exact t a
 refine⟨G.same,sp,⟨G.r.base,fun i a=>?_,fun i j a w e=>?_,fun i a=>?_,fun i o e=>?_⟩,sp.pvs W P,L⟩
 ·by_cases h:i<Z.nx
  ·exact aa (p i h) (W.fresh i h)
  ·have h:=ot h
   exact aa (n i h) (G.r.fresh _ (hJ i h a).2)
 ·by_cases h:i<Z.nx
  ·by_cases k:j<Z.nx
   ·replace e:=p j k▸p i h▸e;exact W.inj i j h k e
   ·have z:=new j (ot k) w
    refine aG (W.ex i h) fun Y H=>?_
    replace e:=p i h▸e;rewrite[<-e] at z;replace z:=(H)▸z;exact t9 z
  ·by_cases k:j<Z.nx
   ·have z:=new i (ot h) a
    refine aG (W.ex j k) fun Y H=>?_
    replace e:=p j k▸e;replace z:=H▸e▸z;exact t9 z
   ·have h:=ot h
    have k:=ot k
    replace e:=n j k▸n i h▸e
    exact inj i j h a k w (G.r.inj _ _ (hJ i h a).2 (hJ j k w).2 e)
 ·by_cases h:i<Z.nx
  ·refine aa (p i h) ?_;refine aG (W.ex i h) fun o e=>?_;exact G.sp.ex _ o e
  ·have h:=ot h
   exact aa (n i h) (G.r.ex _ (hJ i h a).2)
 ·refine am (ob i o e) fun v y=>?_
  refine⟨v,?_⟩
  rcases y with ⟨a,t,nt⟩|⟨_,x⟩
  ·refine aa (p i a) ?_
   refine(aB W t).mono L p nx' fun ob N=>?_
   have K:∀b,(F b\/X b)->U i≠b:=fun b q=>(P b q).2.2 i a
   have A:¬HC τ U (U i):=by
    rintro⟨j,o',M,C,u⟩
    have w:j<τ.nx:=aC WT M
    have:j=i:=W.inj j i (f3 w nx) a C
    subst this
    refine am (nt o' M) fun n1 Q=>?_
    rcases u with u|⟨c,d,rfl⟩
    ·replace u:=n1▸u;exact aS u
    ·exact Q c d rfl
   rcases G.sp.kp (U i) ob N A (fun q=>K _ (.inr q) rfl) with r|⟨q,_⟩
   ·exact r
   ·exact absurd rfl (K _ (.inl q))
  ·exact x
end
end
noncomputable abbrev lawP:KE:=PySem.Challenge.pw_pq0716_01
def O5 (p:KE) (w:World) (n₀:Nat) (ann:Option bo) (N:Nat):SharedT->Thread->Option SharedT :=
 @Nat.rec (fun b=>SharedT->Thread->Option SharedT) gQ (fun b a s t=>match through t with
  | true=>some s
  | false=>match PySem.W.Fast.tw6613529449190102663 n₀ ann t with
   | false=>none
   | true=>match PySem.W.Fast.tw10156331382660048174 (PySem.W.Fast.tw11892475500146522536 PySem.W.Fast.tw14364793385576792824) p w s t with
    | some r=>a r.1 r.2
    | none=>none) N
theorem BK {p:KE} {w:World} {n₀:Nat} {ann:Option bo}:∀{n:Nat} {s s':SharedT} {t:Thread},O5 p w n₀ ann n s t=some s'->topRun treeTable p w n₀ ann n s.abs t=some s'.abs
 | 0,_,_,_,h=>by cases h
 | n+1,s,s',t,h=>by
  have h:(match through t with
  | true=>some s
  | false=>match PySem.W.Fast.tw6613529449190102663 n₀ ann t with
   | false=>none
   | true=>match PySem.W.Fast.tw10156331382660048174 (PySem.W.Fast.tw11892475500146522536 PySem.W.Fast.tw14364793385576792824) p w s t with
    | some r=>O5 p w n₀ ann n r.1 r.2
    | none=>none)=some s':=h
  rewrite[<-PySem.W.Fast.te6613529449190102663,<-PySem.W.Fast.te10156331382660048174,<-PySem.W.Fast.te11892475500146522536,<-PySem.W.Fast.te14364793385576792824] at h
  unfold topRun
  induction c:through t using dI with
  | true=>rewrite[c] at h;cases h;rfl
  | false =>
   rewrite[c] at h
   induction b:stepOk n₀ ann t using dI with
   | false=>rewrite[b] at h;cases h
   | true =>
    rewrite[b] at h
    induction a:stepT (denote treeTable) p w s t using cN with
    | none=>rewrite[a] at h;cases h
    | some r =>
     obtain⟨e,d⟩:=r
     rewrite[a] at h
     rewrite[stepT_spec a]
     exact BK h
def I5 (l:List Obj):Nat->BT->BT:=@List.rec Obj (fun a=>Nat->BT->BT) (fun a t=>t) (fun o a b n t=>b (Nat.succ n) (t.ins n o)) l
def Gn (w:World) (os:OsState):SharedT:=⟨I5 (boot_heap w.params).objs.toList 0 .nil,11,(boot_heap w.params).life,Array.mk [],boot_drawn,boot_toks,os⟩
theorem zv (w:World) (os:OsState):(Gn w os).abs=⟨boot_heap w.params,Array.mk [],boot_drawn,boot_toks,os⟩:=by kernel_rfl
theorem wR:opening lawP=plainProg lawP.main.scope.names:=by kernel_rfl
theorem BL (s:ce):fenceModules? lawP s=some s:=by kernel_rfl
theorem Em (w:World):((boot_heap w.params).isNs mainGlobals&&(Array.mk []:Array GenState).size==0,(boot_heap w.params).objs.size,(boot_heap w.params).nsMap mainGlobals "__annotations__")=(true,11,some (.ref 6)):=by kernel_rfl
noncomputable def En:KE:=view lawP [84]
noncomputable def mf:List Str:=lawP.boundNames.filter fun s=>!(s==dX "law")
noncomputable def faL:List (Nat×Nat):=[(0,36),(1,68),(2,81),(3,88),(4,95),(5,102),(6,109),(7,126),(8,149),(9,157),(10,164),(11,171),(12,178),(13,183),(14,188),(15,200),(16,207),(17,271),(18,299),(19,351),(20,361),(21,386),(22,393),(23,400),(24,407),(25,429),(26,441),(27,446),(28,453),(29,499),(30,520),(31,525),(32,530),(33,558),(34,563),(35,577),(36,584),(37,591),(38,619),(39,639),(40,646),(41,653),(42,660),(43,667),(44,674),(45,679),(46,686),(47,693),(48,700),(49,705),(50,712),(51,719),(52,726),(53,733),(54,742),(55,749),(56,756),(57,763),(58,770),(59,777),(60,782),(61,787),(62,792),(63,797),(64,804),(65,809),(66,21),(67,133),(68,195),(69,221),(70,228),(71,235),(72,242),(73,249),(74,278),(75,285),(76,292),(77,306),(78,313),(79,320),(80,332),(81,339),(82,346),(83,356),(84,368),(85,414),(86,419),(87,424),(88,434),(89,458),(90,472),(91,479),(92,486),(93,491),(94,537),(95,570),(96,598),(97,605),(98,612),(99,624)]
noncomputable def caL:List (Nat×Nat):=[(0,39),(1,52),(2,71),(3,136),(4,252),(5,323),(6,461),(7,540),(8,627)]
def O6 (o:Option Nat) (d:Nat):Nat:=@Option.rec Nat (fun b=>Nat) d (fun a=>a) o
def qF (i:Nat):Addr:=O6 (az i faL) 809
def mY (c:Nat):Addr:=O6 (az c caL) 136
noncomputable def jT:List Nat:=[39,38,52,51,71,70,136,135,252,251,323,322,461,460,540,539,627,626,2]++faL.map (·.2)
abbrev Hk:=Addr->Option Obj
def cB (L:Hk):List Nat->Frag:=@List.rec Nat (fun c=>Frag) [] (fun a c b=>@Option.rec Obj (fun c=>Frag) b (fun o=>(a,o)::b) (L a))
theorem kh {L:Hk} {a:Addr} {o:Obj}:∀{l:List Nat},(cB L l).lookup a=some o->L a=some o
 | [],h=>by exact bj h
 | b::l,h=>by
  have h:(@Option.rec Obj (fun d=>Frag) (cB L l) (fun o=>(b,o)::cB L l) (L b)).lookup a=some o:=h
  induction q:L b using cN with
  | none=>replace h:=q▸h;exact kh h
  | some c =>
   replace h:=q▸h
   have h:List.lookup a ((b,c)::cB L l)=some o:=h
   rw[kV] at h
   induction z:a==b using dI with
   | true=>replace h:=z▸h;cases h;exact aa (beq_iff_eq.mp z) q
   | false=>replace h:=z▸h;exact kh h
theorem eK {α:Type} {k:Nat} {a:α}:∀{l:List (Nat×α)},az k l=some a->(k,a)∈l
 | [],h=>by exact bj h
 | p::l,h=>by
  have h:af (c6 p.1 k) (some p.2) (az k l)=some a:=h
  induction q:c6 p.1 k using dI with
  | true=>replace h:=q▸h;cases h;exact bw (bz q) (.head _)
  | false=>replace h:=q▸h;exact .tail _ (eK h)
theorem ya {l:List (Nat×Nat)} {d:Nat} {p:Nat->Bool} (hd:p d=true) (h:(l.all fun x=>p x.2)=true) (i:Nat):p (O6 (az i l) d)=true:=by
 induction q:az i l using cN with
 | none=>exact hd
 | some a=>exact dV.mp h _ (eK q)
def MG (s:Str) (c:Nat):Bool:=s.cps.toList.all (fun x=>l9 x 0x110000)&&c6 (hV s.cps.toList) c
theorem Eo {s:Str} {c:Nat} (h:MG s c=true):SR s c:=by
 refine bI h fun d a=>?_
 exact⟨fun x b=>bY (dV.mp d x b),bz a⟩
noncomputable def wS (f:V->bo->Bool):List V->List bo->Bool
 | [],[]=>true
 | a::l,v::r=>f a v&&wS f l r
 | _,_=>false
def I6 (v:bo) (k:Str->Bool):Bool:=bo.casesOn v false false false ac aJ aJ (fun s a=>k s) aJ ac ac ac
theorem Gp {v:bo} {k:Str->Bool} {G:Prop} (h:I6 v k=true) (K:∀s t,v=.str s t->k s=true->G):G:=by cases v<;>first|exact K _ _ rfl h|exact aS h
def wT (v:bo) (k:Addr->Bool):Bool:=bo.casesOn v false false false ac aJ aJ aJ aJ ac ac (fun a=>k a)
theorem rQ {v:bo} {k:Addr->Bool} {G:Prop} (h:wT v k=true) (K:∀a,v=.ref a->k a=true->G):G:=by cases v<;>first|exact K _ rfl h|exact aS h
def Gq (v:bo) (k:Bool->Bool):Bool:=bo.casesOn v false false false (fun b=>k b) aJ aJ aJ aJ ac ac ac
theorem I7 {v:bo} {k:Bool->Bool} {G:Prop} (h:Gq v k=true) (K:∀b,v=.bool b->k b=true->G):G:=by cases v<;>first|exact K _ rfl h|exact aS h
def MH (v:bo) (k:Int->Bool):Bool:=bo.casesOn v false false false ac (fun i a=>k i) aJ aJ aJ ac ac ac
theorem MI {v:bo} {k:Int->Bool} {G:Prop} (h:MH v k=true) (K:∀b t,v=.int b t->k b=true->G):G:=by cases v<;>first|exact K _ _ rfl h|exact aS h
def I8 (d:Data) (k:Array bo->Bool):Bool:=Data.casesOn d false ac (fun a b=>k a) aJ jp aJ ac ac ac ac false
theorem Gr {d:Data} {k:Array bo->Bool} {G:Prop} (h:I8 d k=true) (K:∀vs n,d=.seq vs n->k vs=true->G):G:=by cases d<;>first|exact K _ _ rfl h|exact aS h
def I9 (L:Hk) (v:bo) (k:List bo->Bool):Bool:=wT v fun a=>cM (L a) fun o=>I8 o.data fun b=>o.cls==.type "tuple"&&k b.toList
theorem Ep {L:Hk} {v:bo} {k:List bo->Bool} {G:Prop} (h:I9 L v k=true) (K:∀a o vs n,v=.ref a->L a=some o->o.data=.seq vs n->o.cls=.type "tuple"->k vs.toList=true->G):G:=by
 refine rQ h fun a e h=>?_
 refine bS h fun o d h=>?_
 refine Gr h fun vs n b h=>?_
 refine bI h fun f c=>?_
 exact K a o vs n e d b (beq_iff_eq.mp f) c
def Ja (L:Hk):Nat->V->bo->Bool
 | 0,_,_=>false
 | n+1,x,v=>V.casesOn x (bo.casesOn v true false false ac aJ aJ aJ aJ ac ac ac) (fun a=>Gq v fun b=>Dg a b) (fun i=>MH v fun j=>decide (i=j)) (fun c=>I6 v fun s=>MG s c) ac (fun l=>I9 L v (wS (Ja L n) l)) ac (fun i=>wT v fun a=>c6 a (qF i)) (fun c=>wT v fun a=>c6 a (mY c)) aJ ac aJ
section
variable {g:Gd} (hf:g.fa=qF) (hc:g.ca=mY)
include hf hc
theorem BM {h:Heap} (hB:Bh g h) {U:Nat->Addr} {m:Nat}:∀(n:Nat) {x:V} {v:bo},Ja g.B n x v=true->VR g h U m x v:=by
 intro n
 induction n with
 | zero=>intro x v h;exact aS h
 | succ n p =>
  intro x v e
  have u:∀{l:List V} {d:List bo},wS (Ja g.B n) l d=true->VRs g h U m l d:=by
   intro l
   induction l with
   | nil=>intro d e;cases d<;>first | rfl | exact aS e
   | cons a l y =>
    intro d e
    induction d using fV with
    | nil=>exact aS e
    | cons v r=>exact⟨v,r,rfl,p (an e).1,y (an e).2⟩
  induction x using eV with
  | none=>cases v<;>first | rfl | exact aS e
  | bool a=>refine I7 e ?_;rintro b rfl e;exact congrArg bo.bool (mR e).symm
  | int i=>refine MI e ?_;rintro j t rfl e;exact⟨t,congrArg (bo.int · t) (of_decide_eq_true e).symm⟩
  | str c=>refine Gp e ?_;rintro s t rfl e;exact⟨_,_,rfl,Eo e⟩
  | tup l =>
   refine Ep (show I9 g.B v (wS (Ja g.B n) l)=true from e) ?_;rintro a o d k rfl w q f e
   exact⟨a,d.toList,rfl,⟨o,k,hB _ _ w,f,aa q rfl⟩,u e⟩
  | fn i=>refine rQ e ?_;rintro a rfl e;exact congrArg bo.ref (by(refine aa hf ?_);exact bz e)
  | cls c=>refine rQ e ?_;rintro a rfl e;exact congrArg bo.ref (by(refine aa hc ?_);exact bz e)
  | _=>exact aS e
end
theorem vq {f:V->bo->Bool}:∀{l:List V} {vs:List bo},wS f l vs=true->vs.length=l.length
 | [],[],_=>rfl
 | _::_,_::_,e=>congrArg (·+1) (vq (an e).2)
 | [],_::_,e=>by exact aS e
 | _::_,[],e=>by exact aS e
theorem PQ {a b c d e f g i j:Bool} {G:Prop} (h:(a&&b&&c&&d&&e&&f&&g&&i&&j)=true) (K:a=true->b=true->c=true->d=true->e=true->f=true->g=true->i=true->j=true->G):G :=
 bI h fun h s=>bI h fun h m=>bI h fun h n=>bI h fun h r=>bI h fun h q=>bI h fun h k=>bI h fun h l=>bI h fun o p=>K o p l k q r n m s
theorem nt {b:Bool} (h:(!b)=true):b=false:=by cases b<;>first|rfl|exact aS h
def PS (v:bo) (z:Bool) (k:Addr->Bool):Bool:=bo.casesOn v z false false ac aJ aJ aJ aJ ac ac (fun a=>k a)
theorem O7 {v:bo} {z:Bool} {k:Addr->Bool} {G:Prop} (h:PS v z k=true) (N:v=.none->z=true->G) (K:∀a,v=.ref a->k a=true->G):G:=by cases v<;>first|exact N rfl h|exact K _ rfl h|exact aS h
def Jb (d:Data) (k:Array bo->Bool):Bool:=Data.casesOn d false ac aJ aJ jp aJ ac ac ac (fun a=>k a) false
def MJ (d:Data) (k:List FB->Bool):Bool:=Data.casesOn d false ac aJ (fun a b=>k a.toList) jp aJ ac ac ac ac false
theorem MK {d:Data} {k:List FB->Bool} {G:Prop} (h:MJ d k=true) (K:∀es n,d=.dict es n->k es.toList=true->G):G:=by cases d<;>first|exact K _ _ rfl h|exact aS h
def PU (d:Data):Bool:=Data.casesOn d true ac aJ aJ jp aJ ac ac ac ac false
theorem O8 {d:Data} (h:PU d=true):d=.plain:=by cases d<;>first|rfl|exact aS h
def ML (d:Data):Option C4:=Data.casesOn d none bb gQ gQ (fun a a a=>none) gQ bb (fun f=>some f) bb bb none
theorem MM {d:Data} {f:C4} (h:ML d=some f):d=.func f:=by cases d<;>first|exact bj h|exact congrArg _ (ma h)
theorem Gs {d:Data} {k:Array bo->Bool} {G:Prop} (h:Jb d k=true) (K:∀vs,d=.fields vs->k vs=true->G):G:=by cases d<;>first|exact K _ rfl h|exact aS h
def PV (L:Hk) (v:bo) (k:List bo->Bool):Bool:=PS v (k []) fun a=>cM (L a) fun o=>I8 o.data fun b=>k b.toList
theorem Jc {L:Hk} {v:bo} {k:List bo->Bool} {G:Prop} (h:PV L v k=true) (K:∀ds,k ds=true->((v=.none/\ds=[])\/∃a o n,v=.ref a/\L a=some o/\o.data=.seq ds.toArray n)->G):G:=by
 refine O7 h (fun e h=>K _ h (.inl ⟨e,rfl⟩)) fun a e h=>?_
 refine bS h fun o c h=>?_
 refine Gr h fun d n b h=>?_
 exact K d.toList h (.inr ⟨a,o,n,e,c,b⟩)
def Gu (L:Hk) (fd:C4):Bool:=wT fd.code fun c=>cM (L c) fun o=>Jb o.data fun a=>cM a[1]? fun v=>I6 v fun q=>q==fd.qualname
theorem BN {L:Hk} {fd:C4} {G:Prop} (h:Gu L fd=true) (K:∀c o vs t,fd.code=.ref c->L c=some o->o.data=.fields vs->vs[1]?=some (.str fd.qualname t)->G):G:=by
 refine rQ h fun c b h=>?_
 refine bS h fun o e h=>?_
 refine Gs h fun vs d h=>?_
 refine bS h fun v a h=>?_
 refine Gp h ?_;clear h;rintro q t rfl h
 exact K c o vs t b e d (aa a (aa (beq_iff_eq.mp h) rfl))
def tM (L:Hk) (a:Addr):Option C4:=(L a).bind fun o=>ML o.data
theorem tN {L:Hk} {a:Addr} {fd:C4} (h:tM L a=some fd):∃o,L a=some o/\o.data=.func fd:=ai (Option.bind_eq_some_iff.mp h) fun o b c=>⟨o,b,MM c⟩
def Jd (cl:List Nat) (sc:Scope) (y:Nat):Bool:=af (q6 y cl) (isKind (sc.names.lookup (nm y)) .cell) (isKind (sc.names.lookup (nm y)) .local)
noncomputable def noCell (sc:Scope):Bool:=sc.names.all fun x=>!(x.2==.cell)
theorem inN_m {y:Nat} {l:List Nat}:q6 y l=true<->y∈l:=by
 constructor
 ·intro h
  induction l with
  | nil=>exact aS h
  | cons a l b =>
   have h:af (c6 a y) true (q6 y l)=true:=h
   induction q:c6 a y using dI with
   | true=>exact bw (bz q) (.head _)
   | false=>replace h:=q▸h;exact .tail _ (b h)
 ·exact tK
def Gv (fn:Fn) (fd:C4):Bool:=fd.params.posonlyargs.isEmpty&&(fd.params.args.map (·.arg)==fn.ps.map nm)&&fd.params.vararg.isNone&&fd.params.kwonlyargs.isEmpty&&fd.params.kwarg.isNone&&(KU fn.ps&&fn.ps.all nE)
def NL (L:Hk) (fn:Fn) (fd:C4):Bool :=
 Gu L fd&&fd.closure.isEmpty&&!fd.scope.isCoroutine&&!fd.scope.isGenerator&&(fd.scope.kind==.function)&&c6 fd.globals mainGlobals&&c6 fd.builtins builtinsNs&&Gv fn fd
  && fn.cl.all nE&&fn.ps.all (Jd fn.cl fd.scope)&&fn.cl.all (fun y=>isKind (fd.scope.names.lookup (nm y)) .cell)&&(!fn.cl.isEmpty||noCell fd.scope)&&KU fn.cl
  && PV L fd.defaults (wS (Ja L 6) fn.ds)&&eL fn.ds.length fn.ps.length
  && wfS true glT aTl fd.scope fn.bd true&&(!NH fn.bd||wfS false glT aTl fd.scope fn.bd true)
def BO (L:Hk) (a:Addr) (k:C4->Bool):Bool:=@Option.rec C4 (fun b=>Bool) false k (tM L a)
noncomputable def idsL:List Nat:=[0,1,2,3,4,5,6,7,8,9,10,11,12,13,14,15,16,17,18,19,20,21,22,23,24,25,26,27,28,29,30,31,32,33,34,35,36,37,38,39,40,41,42,43,44,45,46,47,48,49,50,51,52,53,54,55,56,57,58,59,60,61,62,63,64,65]
def MN (L:Hk):Bool:=idsL.all fun i=>@Option.rec Fn (fun b=>Bool) true (fun a=>BO L (qF i) (NL L a)) (nQ i)
def nH (L:Hk):List Nat->List (Option FuncBody):=@List.rec Nat (fun b=>List (Option FuncBody)) [] (fun i b a=>(tM L (qF i)).map (·.body)::a)
def nJ:List Nat->List (Option FuncBody):=@List.rec Nat (fun c=>List (Option FuncBody)) [] (fun i c a=>(nQ i).map (fun b=>FuncBody.stmts (fm b.bd))::a)
theorem yb {L:Hk} {i:Nat}:∀{l:List Nat},nH L l=nJ l->i∈l->(tM L (qF i)).map (·.body)=(nQ i).map (fun fn=>FuncBody.stmts (fm fn.bd))
 | a::l,h,m=>by
  have h:(tM L (qF a)).map (·.body)::nH L l=(nQ a).map (fun fn=>FuncBody.stmts (fm fn.bd))::nJ l:=h
  refine am (List.cons.inj h) fun b c=>?_
  rcases gg.mp m with rfl|m
  ·exact b
  ·exact yb c m
def FT.dep (t:FT):Nat:=@FT.rec (fun a=>Nat) 0 (fun a a a l r=>Nat.succ (af (eL l r) r l)) t
theorem FT.lt:∀(t:FT) {i:Nat} {v:Fn},t.get i=some v->i+2<=2 ^ t.dep
 | .nil,i,v,h=>by exact bj h
 | .node o l r,i,v,h=>by
  have h:af (c6 i 0) o (af (c6 (i%2) 1) (l.get (i / 2)) (r.get (Nat.pred (i / 2))))=some v:=h
  have c:l.dep+1<=(FT.node o l r).dep/\r.dep+1<=(FT.node o l r).dep:=by
   show l.dep+1<=Nat.succ (af (eL l.dep r.dep) r.dep l.dep)/\r.dep+1<=Nat.succ (af (eL l.dep r.dep) r.dep l.dep)
   induction q:eL l.dep r.dep using dI with
   | true=>exact⟨Nat.succ_le_succ (bY q),e5 _⟩
   | false =>
    have:¬l.dep<=r.dep:=fun z=>by replace q:=iw z▸q;cases q
    exact⟨e5 _,Nat.succ_le_succ (Nat.le_of_lt (Nat.lt_of_not_le this))⟩
  have a:2 ^ (l.dep+1)<=2 ^ (FT.node o l r).dep:=Nat.pow_le_pow_right (by decide) c.1
  have d:2 ^ (r.dep+1)<=2 ^ (FT.node o l r).dep:=Nat.pow_le_pow_right (by decide) c.2
  induction z:c6 i 0 using dI with
  | true =>
   have:=bz z
   subst this
   have:1<=2 ^ l.dep:=Nat.one_le_two_pow
   rw[Nat.pow_succ] at a
   lia
  | false =>
   replace h:=z▸h
   have e:i≠0:=xy z
   induction b:c6 (i%2) 1 using dI with
   | true =>
    replace h:=b▸h
    have:=FT.lt l h
    rw[Nat.pow_succ] at a
    exact Oi a this
   | false =>
    replace h:=b▸h
    have:=FT.lt r (i:=i / 2 - 1) h
    rw[Nat.pow_succ] at d
    exact K6 d e this (xy b)
theorem Er:fnT.dep=7:=by kernel_rfl
def MP:Bool:=([66,67,68,69,70,71,72,73,74,75,76,77,78,79,80,81,82,83,84,85,86,87,88,89,90,91,92,93,94,95,96,97,98,99,100,101,102,103,104,105,106,107,108,109,110,111,112,113,114,115,116,117,118,119,120,121,122,123,124,125,126]:List Nat).all fun i=>(nQ i).isNone
theorem BP:MP=true:=by kernel_rfl
theorem Je {i:Nat} {fn:Fn} (h:nQ i=some fn):i∈idsL:=by
 have lt:=FT.lt fnT h
 replace lt:=Er▸lt
 by_cases q:i<66
 ·have:∀j,j<66->j∈idsL:=by
   intro j b
   have e:idsL=List.range 66:=by decide
   exact aa e (List.mem_range.mpr b)
  exact this i q
 ·exfalso
  have d:i+2<=128:=lt
  obtain⟨j,rfl⟩:∃j,i=j+66:=⟨i - 66,(Nat.sub_add_cancel (ot q)).symm⟩
  have a:j<61:=by
   have:j+68<=128:=d
   exact Nat.lt_of_add_lt_add_right (n:=68) (p0 this (by decide))
  have c:j+66∈([66,67,68,69,70,71,72,73,74,75,76,77,78,79,80,81,82,83,84,85,86,87,88,89,90,91,92,93,94,95,96,97,98,99,100,101,102,103,104,105,106,107,108,109,110,111,112,113,114,115,116,117,118,119,120,121,122,123,124,125,126]:List Nat):=by
   have e:([66,67,68,69,70,71,72,73,74,75,76,77,78,79,80,81,82,83,84,85,86,87,88,89,90,91,92,93,94,95,96,97,98,99,100,101,102,103,104,105,106,107,108,109,110,111,112,113,114,115,116,117,118,119,120,121,122,123,124,125,126]:List Nat)=(List.range 61).map (·+66):=by decide
   refine aa e ?_
   exact mc.mpr ⟨j,List.mem_range.mpr a,rfl⟩
  have r:=dV.mp BP (j+66) c
  replace r:=h▸r;exact aS r
section
variable {g:Gd} (hf:g.fa=qF) (hc:g.ca=mY)
include hf hc
theorem Jf (h:MN g.B=true) (hb:nH g.B idsL=nJ idsL):∀i fn,nQ i=some fn->∃fd ds,FnOk g i fn fd ds/\wfS true glT aTl fd.scope fn.bd true=true/\(NH fn.bd=true->wfS false glT aTl fd.scope fn.bd true=true):=by
 intro i fn e
 have P:=Je e
 have h:=dV.mp h i P
 replace h:=e▸h
 have h:BO g.B (qF i) (NL g.B fn)=true:=h
 unfold BO at h
 have hb:=yb hb P
 induction q:tM g.B (qF i) using cN with
 | none=>replace h:=q▸h;exact aS h
 | some fd =>
  rw[q] at h hb
  replace hb:=e▸hb
  have hb:some fd.body=some (FuncBody.stmts (fm fn.bd)):=hb
  have hb:=ma hb
  have h:NL g.B fn fd=true:=h
  unfold NL at h
  refine PQ h fun h C p L E j H I w=>?_
  refine PQ h fun S F s G h5 h6 h7 u Q=>?_
  replace F:=List.isEmpty_iff.mp F;replace s:=nt s;replace G:=nt G
  refine ai (tN q) fun o ho hd=>?_
  refine BN S fun c oc d t c1 c2 c3 c4=>?_
  refine Jc j fun ds M J=>?_
  have N:=vq M
  unfold Gv at u
  simp only[h9,List.isEmpty_iff,Option.isNone_iff_eq_none,beq_iff_eq] at u
  refine cE u fun b a6 Z=>?_;refine am b fun b a5=>?_;refine am b fun b a4=>?_;refine am b fun b a3=>?_;refine am b fun a1 a2=>?_
  have f:∀y∈fn.ps,gE y:=fun y m=>fN (dV.mp Z y m)
  refine⟨fd,ds,⟨⟨o,aa hf ho,hd⟩,fun h hB=>⟨c,oc,d,t,c1,hB _ _ c2,c3,c4⟩,hb,F,s,G,BE h5,bz h6,bz h7,
   ⟨a1,a2,a3,a4,a5,ke (fun x W y hy z=>kX (f x W) (f y hy) z) (mW a6)⟩,f,fun y m=>fN (dV.mp Q y m),fun y m=>?_,fun y m=>?_,fun z x m=>?_,mW E,
   fun h hB=>?_,fun h U n hB=>?_,bY H⟩,I,fun z=>?_⟩
  ·have k:=dV.mp C y m
   unfold Jd at k
   induction z:q6 y fn.cl using dI with
   | true=>replace k:=z▸k;exact .inr ⟨inN_m.mp z,rN k⟩
   | false=>replace k:=z▸k;exact .inl ⟨fun mm=>(by replace z:=inN_m.mpr mm▸z;cases z),rN k⟩
  ·have k:=rN (dV.mp p y m)
   exact⟨k,k8 k⟩
  ·have k:noCell fd.scope=true:=by
    rcases l8.mp L with k|k
    ·replace k:=z▸k;exact aS k
    ·exact k
   have k:=dV.mp k x m
   intro zz
   replace k:=(zz)▸k;rewrite[kd] at k;exact aS k
  ·rcases J with ⟨K,A⟩|⟨a,oo,n,K,A,Y⟩
   ·exact .inl ⟨K,A⟩
   ·exact .inr ⟨a,oo,n,K,hB _ _ A,Y⟩
  ·have zs:∀{l:List V} {d:List bo},wS (Ja g.B 6) l d=true->VRs g h U n l d:=by
    intro l
    induction l with
    | nil=>intro d e;cases d<;>first | rfl | exact aS e
    | cons a l il =>
     intro d e
     induction d using fV with
     | nil=>exact aS e
     | cons v r=>exact⟨v,r,rfl,BM hf hc hB 6 (an e).1,il (an e).2⟩
   exact zs M
  ·rcases l8.mp w with k|k
   ·replace k:=z▸k;exact aS k
   ·exact k
end
noncomputable def BQ (e:FB):Bool:=match e.key with|.str _ _=>true|_=>false
noncomputable def mh (es:List FB) (x:Str):Option bo:=(es.find? fun e=>e.key.isStr x).map (·.val)
def MR (L:Hk) (a:Addr) (k:List FB->Bool):Bool:=cM (L a) fun o=>MJ o.data fun b=>b.all BQ&&k b
theorem tO {L:Hk} {a:Addr} {k:List FB->Bool} (h:MR L a k=true):∃l,k l=true/\∀hp:Heap,(∀b o,L b=some o->hp.get? b=some o)->hp.Ns a (mh l):=by
 refine bS h fun o j h=>?_
 refine MK h fun d n f h=>?_
 refine bI h fun i g=>?_
 refine⟨d.toList,g,fun hp hB=>⟨o,d,n,hB _ _ j,f,fun e m=>?_,fun c=>?_⟩⟩
 ·have:=dV.mp i e (by simpa using m)
  unfold BQ at this
  cases hk:e.key<;>(replace this:=hk▸this)<;>first|exact⟨_,_,rfl⟩|exact aS this
 ·show findBy _ d c=_
  unfold findBy mh
  rw[<-Array.find?_toList]
noncomputable def allBi:List Bi:=[.tuple,.list,.len,.dict,.sorted,.str,.range,.zip,.enumerate,.int,.exception]
theorem rR (b:Bi):b∈allBi:=by unfold allBi;cases b<;>(repeat (first|exact List.Mem.head _|apply List.Mem.tail))
def Gw (L:Hk) (es:List FB) (p:Nat×V):Bool:=match mh es (nm p.1) with
 | some u=>Ja L 6 p.2 u
 | none=>false
def BR (L:Hk):Bool:=(L sysModules).isSome&&MR L cStatics (fun a=>(mh a "sys.recursionlimit").isNone) &&
 MR L mainGlobals (fun a=>glT.all (Gw L a)&&allBi.all fun b=>(mh a (nm (oB b))).isNone)&&MR L builtinsNs (fun a=>allBi.all fun b=>mh a (nm (oB b))==some (jK b))
section
variable {g:Gd} (hf:g.fa=qF) (hc:g.ca=mY)
include hf hc
theorem Es (h:BR g.B=true) (lp:Bool):BaseOk g ⟨glT,lp⟩:=by
 unfold BR at h
 simp only[h9] at h
 refine am h fun a r=>?_;refine am a fun a j=>?_;refine am a fun k q=>?_
 refine ai (tO q) fun t o p=>?_
 refine ai (tO j) fun w c f=>?_
 refine ai (tO r) fun s i d=>?_
 refine bI c fun c l=>?_
 refine⟨Option.isSome_iff_exists.mp k,fun h hB=>⟨_,p h hB,Option.isNone_iff_eq_none.mp o⟩,_,_,fun h hB=>⟨f h hB,d h hB⟩,fun y v e=>?_,fun b=>?_⟩
 ·have:=dV.mp c _ (eK e)
  unfold Gw at this
  split at this
  ·rename_i u m
   exact⟨u,m,fun h U n hB=>BM hf hc hB 6 this⟩
  ·exact aS this
 ·exact⟨Option.isNone_iff_eq_none.mp (dV.mp l b (rR b)),beq_iff_eq.mp (dV.mp i b (rR b))⟩
end
noncomputable def insL:List Nat:=[3,4,5,6,7,8]
theorem BS {c:Nat} (h:g6 c=true):c∈insL:=by
 refine ak h fun b a=>?_
 have b:=bY b
 have a:=bY a
 have:c=3\/c=4\/c=5\/c=6\/c=7\/c=8:=N8 (by assumption) (by assumption)
 rcases this with rfl|rfl|rfl|rfl|rfl|rfl<;>decide
noncomputable def excL:List Nat:=[0,1,2]
theorem BU {c:Nat} (h:c<=2):c∈excL:=by
 have:c=0\/c=1\/c=2:=by lia
 rcases this with rfl|rfl|rfl<;>decide
noncomputable def Gx (K:Frag) (v:bo):Bool:=typeIn K v==some (.type "function")
def MS (K:Frag) (c:Nat):Bool:=uG K (mY c)&&makesIn K (mY c)&&plainOver K (mY c)&&(findIn K (.ref (mY c)) "__setattr__"==some (some (.builtin "object.__setattr__"))) &&
 aTl.all (fun a=>q9 K (mY c) (nm a)&&((az a (kt c)).isSome||findIn K (.ref (mY c)) (nm a)==some none)&&(takerIn K (mY c) (nm a)==some none)) &&
 (kt c).all (fun p=>(findIn K (.ref (mY c)) (nm p.1)==some (some (.ref (qF p.2))))&&Gx K (.ref (qF p.2)))
def BV (L:Hk) (a:Addr):Bool:=(tM L a).isSome
def Jg (L:Hk) (K:Frag):Bool:=insL.all (MS K)&&aTl.all nE&&(BV L 809&&faL.all fun x=>BV L x.2)&&(keepIn K (.ref 136)&&caL.all fun x=>keepIn K (.ref x.2))
theorem Et:nm aH="__init__":=by kernel_rfl
section
variable {g:Gd} (hf:g.fa=qF) (hc:g.ca=mY)
include hf hc
theorem Jh {l:List Nat} (h:Jg g.B (cB g.B l)=true):ClsOk g (cB g.B l) aTl/\MkOk g (cB g.B l):=by
 unfold Jg at h
 simp only[h9] at h
 refine cE h fun b u f=>?_;refine cE b fun b x m=>?_;refine am b fun t z=>?_
 have s:∀h,Bh g h->(cB g.B l).In h:=fun h hB a o e=>hB a o (kh e)
 generalize cB g.B l=K at t u f s
 have C:∀c,g6 c=true->_:=fun c q=>by
  have:=dV.mp t c (BS q)
  unfold MS at this
  simp only[h9] at this
  exact this
 have j:∀{a},aTl.contains a=true->a∈aTl:=fun h=>List.contains_iff_mem.mp h
 refine⟨⟨s,fun c q=>?_,fun c a q d=>?_,fun a d=>fN (dV.mp z a (j d)),fun c a q d v=>?_,fun c a i q e=>?_,fun c a q d=>?_,fun i h hB=>?_,fun c=>?_⟩,⟨fun c q=>?_,fun c i q e=>?_⟩⟩
 ·exact aa hc ((C c q).1.1.1.1.1)
 ·have:=dV.mp (C c q).1.2 a (j d)
  simp only[h9] at this
  exact aa hc this.1.1
 ·have:=dV.mp (C c q).1.2 a (j d)
  simp only[h9] at this
  refine aa hc ?_
  rcases l8.mp this.1.2 with k|k
  ·replace k:=v▸k;exact aS k
  ·exact beq_iff_eq.mp k
 ·have:=dV.mp (C c q).2 _ (eK e)
  refine bI this fun r n=>?_
  refine aa hc (aa hf ?_)
  exact⟨beq_iff_eq.mp r,beq_iff_eq.mp n⟩
 ·have:=dV.mp (C c q).1.2 a (j d)
  simp only[h9] at this
  refine aa hc ?_
  exact⟨beq_iff_eq.mp (C c q).1.1.2,(C c q).1.1.1.2,beq_iff_eq.mp this.2⟩
 ·have:=ya (p:=BV g.B) x m i
  refine aG (Option.isSome_iff_exists.mp this) fun w e=>?_
  refine ai (tN e) fun o A y=>?_
  refine aa hf ?_
  exact⟨o,w,hB _ _ A,y⟩
 ·exact aa hc (ya (p:=fun a=>keepIn K (.ref a)) u f c)
 ·exact aa hc ((C c q).1.1.1.1.2)
 ·have:=dV.mp (C c q).2 _ (eK e)
  refine bI this fun r n=>?_
  refine aa hc (aa hf (bw Et ?_))
  exact⟨beq_iff_eq.mp r,beq_iff_eq.mp n⟩
end
noncomputable def Ji (C:Addr) (bm:List bo):Bool:=(bo.ref C::bm).contains (.type "Exception")&&!(bo.ref C::bm).contains (.type "AttributeError")&&!(bo.ref C::bm).contains (.type "NameError")&&(bo.ref C::bm).contains (.type "BaseException")
noncomputable def wU (C:Addr) (l:List bo):Bool:=(l.head?==some (.ref C))&&Ji C l.tail
noncomputable def Gy (l:List (Option bo)):Bool:=(l.length==6)&&(l[4]?==some (some (.builtin "Exception.__new__")))
noncomputable def MT (C:Addr) (d:Data):Bool:=match d with
 | .cls cd=>!cd.hasDel&&wU C cd.mro
 | _=>false
noncomputable def wV (C:Addr) (o:Obj):Bool:=(o.cls==.type "type")&&(MT C o.data&&Gy o.slots.toList)
theorem zw {C:Addr} {l:List bo} (h:wU C l=true):∃bm,l=.ref C::bm/\ExcIn "Exception" C bm:=by
 refine bI h fun c b=>?_
 induction l using fV with
 | nil=>exact bj (beq_iff_eq.mp c)
 | cons a bm =>
  refine bI b fun b g=>?_;refine bI b fun b e=>?_;refine bI b fun d f=>?_
  exact⟨bm,congrArg (·::bm) (ma (beq_iff_eq.mp c)),d,nt f,nt e,g⟩
theorem rS {α:Type} {l:List α} {n:Nat} (h:l.length=n+1):∃a r,l=a::r/\r.length=n:=by
 induction l using fV with
 | nil=>cases h
 | cons a r=>exact⟨a,r,rfl,Nat.succ.inj h⟩
theorem BW {l:List (Option bo)} (h:Gy l=true):∃k0 k1 k2 k3 k5,l=[k0,k1,k2,k3,some (.builtin "Exception.__new__"),k5]:=by
 refine bI h fun a b=>?_
 refine bx (rS (beq_iff_eq.mp a)) ?_;rintro k0 r rfl a
 refine bx (rS a) ?_;clear a;rintro k1 r rfl a
 refine bx (rS a) ?_;clear a;rintro k2 r rfl a
 refine bx (rS a) ?_;clear a;rintro k3 r rfl a
 refine bx (rS a) ?_;clear a;rintro c r rfl a
 refine bx (rS a) ?_;clear a;rintro k5 r rfl a
 obtain rfl:=List.eq_nil_of_length_eq_zero a
 have d:c=some (.builtin "Exception.__new__"):=ma (beq_iff_eq.mp b)
 refine aa d ?_
 exact⟨k0,k1,k2,k3,k5,rfl⟩
theorem zx {C:Addr} {o:Obj} (h:wV C o=true):ExcO C o:=by
 obtain⟨A,G,p,m⟩:=o
 unfold wV at h
 refine bI h fun s h=>?_
 refine bI h fun l r=>?_
 have z:A=.type "type":=beq_iff_eq.mp s
 refine oO (BW r) fun g i j f d=>?_;refine aG d fun k t=>?_
 have x:m=#[g,i,j,f,some (.builtin "Exception.__new__"),k]:=Array.toList_inj.mp t
 cases p with
 | cls w =>
  obtain⟨nm,y,c,N,q,a,E,b,u,e,del⟩:=w
  refine bI (show(!del&&wU C c)=true from l) fun F v=>?_
  refine ai (zw v) ?_;rintro n rfl I
  have B:del=false:=by simpa using F
  subst z x B
  exact⟨nm,q,N,y,n,a,E,b,u,e,G,g,i,j,f,k,rfl,I⟩
 | _=>exact aS l
def MU (L:Hk) (K:Frag) (c:Nat):Bool:=(@Option.rec Obj (fun d=>Bool) false (wV (mY c)) (L (mY c))) &&
 (kt c).all (fun p=>af (c6 p.1 aH) ((findIn K (.ref (mY c)) "__init__"==some (some (.ref (qF p.2))))&&Gx K (.ref (qF p.2))) true) &&
 ((clsIn K (mY c)).any fun b=>b.hasDict&&fK b.mro)&&(findIn K (.ref (mY c)) "__getattribute__"==some (some (.builtin "BaseException.__getattribute__")))&&(findIn K (.ref (mY c)) "__getattr__"==some none) &&
 (findIn K (.ref (mY c)) "__setattr__"==some (some (.builtin "object.__setattr__")))&&aTl.all (fun a=>q9 K (mY c) (nm a)&&(takerIn K (mY c) (nm a)==some none))
noncomputable def Jj (r:Option CFound) (v:bo):Bool:=match r with|some (.val u)=>u==v|_=>false
theorem ye {r:Option CFound} {v:bo} (h:Jj r v=true):r=some (.val v):=by
 cases r with
 | none=>exact aS h
 | some f =>
  cases f with
  | val u=>exact congrArg (fun u=>some (CFound.val u)) (beq_iff_eq.mp h)
  | _=>exact aS h
def Jk (L:Hk) (K:Frag):Bool:=excL.all (MU L K)&&aTl.all nE&&(readsIn K 39 (.type "type")&&Jj (findCls K (.ref 39) (.type "type") (nm aH)) (.ref 36)&&(specialIn K (.ref 39) "__getattribute__"==some (some (.builtin "type.__getattribute__")))) &&
 Jj (findCls K (.type "Exception") (.type "type") (nm aH)) (.builtin "Exception.__init__")
section
variable {g:Gd} (hf:g.fa=qF) (hc:g.ca=mY)
include hf hc
theorem Jl {l:List Nat} (h:Jk g.B (cB g.B l)=true):ExcCls g (cB g.B l)/\ExcAcc g (cB g.B l) aTl/\ClsM g (cB g.B l) 0 aH 0/\findCls (cB g.B l) (.type "Exception") (.type "type") (nm aH)=some (.val (.builtin "Exception.__init__")):=by
 unfold Jk at h
 simp only[h9] at h
 refine am h fun b t=>?_;refine cE b fun b f v=>?_;refine am b fun s A=>?_;refine am f fun p u=>?_
 have r:∀h,Bh g h->(cB g.B l).In h:=fun h hB a o e=>hB a o (kh e)
 generalize cB g.B l=K at s p u v t r
 have C:∀c,c<=2->_:=fun c q=>by
  have:=dV.mp s c (BU q)
  unfold MU at this
  simp only[h9] at this
  exact this
 have n:∀{a},aTl.contains a=true->a∈aTl:=fun h=>List.contains_iff_mem.mp h
 refine⟨⟨fun c q=>?_,fun c i q e=>?_⟩,⟨r,fun a m=>fN (dV.mp A a (n m)),fun c q=>?_,fun c q=>?_,fun c q=>?_,fun c q=>?_,fun c a q m=>?_⟩,⟨?_,?_,?_⟩,ye t⟩
 ·have:=(C c (bY q)).1.1.1.1.1.1
  refine aa hc ?_
  induction z:g.B (mY c) using cN with
  | none=>replace this:=z▸this;exact aS this
  | some o =>
   replace this:=z▸this
   exact⟨o,rfl,zx this⟩
 ·have:=dV.mp (C c (bY q)).1.1.1.1.1.2 _ (eK e)
  dsimp only at this
  rw[xd] at this
  refine bI (show(_&&_)=true from this) fun k j=>?_
  refine aa hc (aa hf ?_)
  exact⟨beq_iff_eq.mp k,beq_iff_eq.mp j⟩
 ·refine ai (any_some (C c q).1.1.1.1.2) fun w x d=>?_
  refine bI d fun d y=>?_
  exact aa hc ⟨w,x,d,y⟩
 ·exact aa hc (beq_iff_eq.mp (C c q).1.1.1.2)
 ·exact aa hc (beq_iff_eq.mp (C c q).1.1.2)
 ·exact aa hc (beq_iff_eq.mp (C c q).1.2)
 ·have:=dV.mp (C c q).2 a (n m)
  refine bI this fun k j=>?_
  exact aa hc ⟨k,beq_iff_eq.mp j⟩
 ·exact aa hc p
 ·exact aa hc (aa hf (ye u))
 ·exact aa hc (beq_iff_eq.mp v)
end
def O9:Bool:=mthA.all fun r=>r.2.all fun p=>af (c6 p.1 aH) (Dg (g6 r.1) (not (jG r.1))&&(!(eL r.1 2)||lpF p.2)) true
theorem Eu:O9=true:=by kernel_rfl
theorem Jm:∀c i,az aH (kt c)=some i->g6 c=!(jG c)/\(eL c 2=true->lpF i=true):=by
 intro c i e
 unfold kt at e
 induction q:az c mthA using cN with
 | none=>replace e:=q▸e;exact bj e
 | some l =>
  replace e:=q▸e
  have h:=dV.mp (dV.mp Eu _ (eK q)) _ (eK e)
  dsimp only at h
  rw[xd] at h
  refine bI (show(_&&_)=true from h) fun b a=>?_
  refine⟨mR b,fun z=>?_⟩
  replace a:=z▸a
  simpa using a
def zy (L:Hk):Bool:=MN L&&BR L&&Jg L (cB L jT)&&Jk L (cB L jT)
theorem Ev {g:Gd} (hf:g.fa=qF) (hc:g.ca=mY) (h:zy g.B=true) (hb:nH g.B idsL=nJ idsL):Prog g (cB g.B jT) glT aTl:=by
 unfold zy at h
 simp only[h9] at h
 refine am h fun a k=>?_;refine am a fun a l=>?_;refine am a fun n i=>?_
 refine am (Jh hf hc l) fun d c=>?_
 refine oM (Jl hf hc k) fun e m f j=>?_
 have b:=Es hf hc i
 exact⟨⟨(b true).sys,d,OS m,e,OZ (b true).sys,f,j⟩,c,b,Jf hf hc n hb,Jm⟩
def MV (v:bo):Bool:=bo.casesOn v false false false ac aJ aJ uc aJ ac ac ac
theorem MW {v:bo} (h:MV v=true):∃s t,v=.str s t:=by cases v<;>first|exact⟨_,_,rfl⟩|exact aS h
def Jn (v:bo):Bool:=bo.casesOn v false false false ac uc aJ aJ aJ ac ac ac
theorem Gz {v:bo} (h:Jn v=true):∃s t,v=.int s t:=by cases v<;>first|exact⟨_,_,rfl⟩|exact aS h
def MX (v:bo):Bool:=bo.casesOn v false false false ge aJ aJ aJ aJ ac ac ac
theorem MY {v:bo} (h:MX v=true):∃s,v=.bool s:=by cases v<;>first|exact⟨_,rfl⟩|exact aS h
def Qs (P:Addr) (vs:Array bo):Bool:=(vs[11]?==some (.ref P))&&((vs.getD 11 .none==.ref P)&&(MV (vs.getD 18 .none)&&(Jn (vs.getD 7 .none)&&(MX (vs.getD 9 .none)&&Jn (vs.getD 10 .none)))))
def Qt (P:Addr) (o:Obj):Bool:=(o.cls==.type "code")&&Jb o.data fun a=>Qs P a
def PW (L:Hk) (cd:bo) (P:Addr):Bool:=wT cd fun c=>!(c==P)&&cM (L c) (Qt P)
theorem Jo {L:Hk} {cd:bo} {P:Addr} (h:PW L cd P=true):∃c,cd=.ref c/\∀hp:Heap,(∀b o,L b=some o->hp.get? b=some o)->CodeHd hp c P:=by
 refine rQ h fun c a h=>?_
 refine bI h fun r h=>?_
 refine bS h fun o y h=>?_
 refine bI h fun x h=>?_
 refine Gs h fun A u h=>?_
 refine bI h fun e h=>?_
 refine bI h fun f h=>?_
 refine bI h fun g h=>?_
 refine bI h fun p h=>?_
 refine bI h fun q n=>?_
 refine eM (MW g) fun l w v=>?_
 refine eM (Gz p) fun s j i=>?_
 refine aG (MY q) fun t z=>?_
 refine eM (Gz n) fun m d B=>?_
 exact⟨c,a,fun hp k=>⟨o,A,l,w,s,j,t,m,d,k _ _ y,beq_iff_eq.mp x,u,beq_iff_eq.mp e,beq_iff_eq.mp f,v,i,z,B,beq_eq_false_iff_ne.mp (nt r)⟩⟩
def Qu (o:Obj):Bool:=(o.cls==.type "module")&&((o.dict==some builtinsNs)&&PU o.data)
def Pa (L:Hk) (P:Addr) (v:Option bo):Bool:=cM v fun u=>wT u fun a=>!(a==builtinsNs)&&(!(a==mainGlobals)&&(!(a==P)&&cM (L a) Qu))
theorem Jp {L:Hk} {P:Addr} {mg:Str->Option bo} (h:Pa L P (mg "__builtins__")=true):∀hp:Heap,(∀b o,L b=some o->hp.get? b=some o)->hp.BuiltinsAt mg P:=by
 intro hp k
 refine bS h fun u e h=>?_
 refine rQ h ?_;clear h;rintro a rfl h
 refine bI h fun l h=>?_
 refine bI h fun g h=>?_
 refine bI h fun j h=>?_
 refine bS h fun o i h=>?_
 refine bI h fun c h=>?_
 refine bI h fun d f=>?_
 exact⟨a,o,e,beq_eq_false_iff_ne.mp (nt l),beq_eq_false_iff_ne.mp (nt g),beq_eq_false_iff_ne.mp (nt j),k _ _ i,beq_iff_eq.mp c,beq_iff_eq.mp d,O8 f⟩
def Ew:X:=.tup (.cons (.cal (.glo (.fn 40) g4 ⟨622,32,622,43⟩) .nil ⟨622,32,622,45⟩) (.cons (.dct .nil ⟨622,47,622,49⟩) .nil)) 0 ⟨622,31,622,50⟩
def BX (L:Hk):Bool:=BO L (qF 55) (fun a=>(a.qualname==dX "_law_image")&&(PW L a.code 744&&(wf true glT aTl Ew .v a.scope true&&aP a.scope aq .cell)))&&MR L mainGlobals fun b=>Pa L 744 (mh b "__builtins__")&&(mh b "law"==some (.ref 809))
theorem tP {L:Hk} (h:BX L=true):(∃fd,tM L (qF 55)=some fd/\fd.qualname=dX "_law_image"/\(wf true glT aTl Ew .v fd.scope true=true/\aP fd.scope aq .cell=true)/\∃c,fd.code=.ref c/\∀hp:Heap,(∀b o,L b=some o->hp.get? b=some o)->CodeHd hp c 744) /\
  ∃mg,mg "law"=some (.ref 809)/\∀hp:Heap,(∀b o,L b=some o->hp.get? b=some o)->hp.Ns mainGlobals mg/\hp.BuiltinsAt mg 744:=by
 refine bI h fun a j=>?_
 constructor
 ·unfold BO at a
  induction q:tM L (qF 55) using cN with
  | none=>replace a:=q▸a;exact aS a
  | some fd =>
   replace a:=q▸a
   refine bI (show(_&&_)=true from a) fun e d=>?_
   refine bI d fun d f=>?_
   exact⟨fd,rfl,beq_iff_eq.mp e,an f,Jo d⟩
 ·refine ai (tO j) fun l k n=>?_
  refine bI k fun g i=>?_
  exact⟨_,beq_iff_eq.mp i,fun hp hB=>⟨n hp hB,Jp (mg:=mh l) g hp hB⟩⟩
def rU (o:Option Obj):Option Obj:=@Option.rec Obj (fun b=>Option Obj) none (fun a=>af (a.cls==.type "list") none (some a)) o
theorem BY {o:Option Obj} {ob:Obj} (h:rU o=some ob):o=some ob/\ob.cls≠.type "list":=by
 induction o using cN with
 | none=>exact bj h
 | some x =>
  have h:af (x.cls==.type "list") none (some x)=some ob:=h
  induction q:x.cls==.type "list" using dI with
  | true=>replace h:=q▸h;exact bj h
  | false=>replace h:=q▸h;cases h;exact⟨rfl,fun e=>by replace q:=(e)▸q;rewrite[beq_self_eq_true] at q;cases q⟩
def MZ (r:SharedT):Hk:=fun a=>af (c6 a 744) none (rU (af (l9 a r.n) (alive (@Option.rec Obj (fun b=>Obj) default (fun o=>o) (r.tree.get a))) none))
def M0 (h:Heap):Hk:=fun a=>af (c6 a 744) none (rU (h.get? a))
theorem M1 (r:SharedT) (a:Addr):(absHeap r.tree r.n r.life).get? a=af (l9 a r.n) (alive (@Option.rec Obj (fun u_=>Obj) default (fun o=>o) (r.tree.get a))) none:=by
 induction q:l9 a r.n using dI with
 | true =>
  have b:a<r.n:=bY q
  show _=alive (@Option.rec Obj (fun u_=>Obj) default (fun o=>o) (r.tree.get a))
  induction g:r.tree.get a using cN with
  | some o=>exact abs_get b g
  | none =>
   unfold Heap.get?
   rewrite[absHeap_at];refine aa (if_pos b) (aa g ?_)
   rfl
 | false=>exact abs_get_none fun b=>by replace q:=(show l9 a r.n=true from iw b)▸q;cases q
theorem M2 (r:SharedT):M0 r.abs.heap=MZ r:=by
 funext a
 show af (c6 a 744) none (rU ((absHeap r.tree r.n r.life).get? a))=_
 unfold MZ
 cases c6 a 744 with
 | true=>rfl
 | false =>
  exact congrArg rU (M1 r a)
abbrev GC:=Bool×List (Option FuncBody)×Option Obj
def yf (s:ce):GC:=(zy (M0 s.heap)&&BX (M0 s.heap),nH (M0 s.heap) idsL,s.heap.get? 744)
def vt:GC:=(true,nJ idsL,some (tabObj #[]))
theorem Ex:(fun(w:World) (os:OsState)=>(O5 lawP w 11 (some (.ref 6)) 5300 (Gn w os) (topStub lawP)).map fun r =>
 ((staticsOk (importedModules lawP.main.body) (boot_heap w.params) r.abs.heap&&namesBound lawP r.abs.heap&&gensDone r.abs&&laidKept (boot_heap w.params) r.abs.heap),
  PySem.W.Fast.tw4187177175401517315 En mf (importedModules lawP.main.body) (fun u_=>true) true r.abs,(zy (MZ r)&&BX (MZ r),nH (MZ r) idsL,af (l9 744 r.n) (alive (@Option.rec Obj (fun u_=>Obj) default (fun o=>o) (r.tree.get 744))) none)))=fun w os=>some (true,openGood En mf,vt):=by kernel_rfl
theorem Ey {p q:KE} {loose:List Str} {Xt:ce->Bool} {α:Type} {Yf:ce->α} {Ya:World->α} {N:Nat} {g0:Bool} {M m₀:Nat} {ann:Option bo} {H₀:Params->Heap} {gs₀:Array GenState} {d₀:Drawn} {k₀:Nat}
  (open_:∀w:World,(fencedOpening treeTable p w N).map (fun s=>(s.heap,s.gens,s.drawn,s.toks))=some (H₀ w.params,gs₀,d₀,k₀))
  (size:∀w:World,((H₀ w.params).isNs mainGlobals&&gs₀.size==0,(H₀ w.params).objs.size,(H₀ w.params).nsMap mainGlobals "__annotations__")=(true,m₀,ann)) (le:eL M N=true)
  (run:∀(w:World) (os:OsState),∃s₁,topRun treeTable p w m₀ ann M ⟨H₀ w.params,gs₀,d₀,k₀,os⟩ (topStub p)=some s₁ /\
   (staticsOk (importedModules p.main.body) (H₀ w.params) s₁.heap&&namesBound p s₁.heap&&gensDone s₁&&laidKept (H₀ w.params) s₁.heap)=true/\openSeen q loose (importedModules p.main.body) Xt g0 s₁=openGood q loose/\Yf s₁=Ya w):LeftO p q loose Xt Yf Ya N g0:=fun w=>by
 refine ai (Option.map_eq_some_iff.mp (open_ w)) fun a e j=>?_;obtain⟨h,b,d,k,os⟩:=a
 obtain⟨rfl,rfl,rfl,rfl⟩:h=H₀ w.params/\b=gs₀/\d=d₀/\k=k₀:=by simpa using j
 obtain⟨l,m,c⟩:_/\_/\_:=by simpa only[Prod.mk.injEq] using size w
 refine qG (run w os) ?_;intro s₁ r f g i
 have r:=topRun_mono (N - M) _ _ _ _ r
 replace r:=(show M+(N - M)=N by exact Nat.add_sub_cancel' (bY le))▸r
 have t:topFrom treeTable p w N ⟨H₀ w.params,b,d,k,os⟩=some s₁:=by
  unfold topFrom
  dsimp only
  refine aa l (aa m (aa c (aa r ?_)))
  show(match staticsOk (importedModules p.main.body) (H₀ w.params) s₁.heap&&namesBound p s₁.heap&&gensDone s₁&&laidKept (H₀ w.params) s₁.heap with|true=>_|false=>_)=_
  exact aa f rfl
 unfold openEnds
 refine aa e ?_
 show(topFrom treeTable p w N _).map _=_
 refine aa t ?_
 exact congrArg some (Prod.ext g i)
theorem BZ:LeftO lawP En mf (fun u_=>true) yf (fun u_=>vt) 6000 true:=by
 refine Ey (boot_open wR rfl BL) Em (M:=5300) rfl fun w f=>?_
 refine ai (Option.map_eq_some_iff.mp (congrFun (congrFun Ex w) f)) fun r a g=>?_
 have a:=BK a
 rw[zv] at a
 refine am (Prod.mk.inj g) fun e c=>?_
 refine am (Prod.mk.inj c) fun c b=>?_
 refine am (Prod.mk.inj b) fun b d=>?_
 refine am (Prod.mk.inj d) fun d h=>?_
 refine⟨r.abs,a,e,aa PySem.W.Fast.te4187177175401517315 c,?_⟩
 unfold yf vt
 refine aa (M2 _) (aa b (aa d (bw h ?_)))
 exact congrArg (fun x=>(true,nJ idsL,x)) (M1 r 744)
def qW (w:Nat):X:=af (c6 w 0) Li Ll
def n8 (w:Nat):List Nat:=af (c6 w 0) Lj Lm
def M3 (st:Stmt):Option (Arguments×Expr×Scope×Pos):=Stmt.casesOn st (fun c c c c c c c c c c=>none) (fun c c c c c c c c c c=>none) (fun c c c c c c c c c c c=>none) gQ gQ (fun c v c=>O2 gQ gQ (fun a b s p=>some (a,b,s,p)) none v) (fun c c c c c c c=>none) (fun c c c c=>none) (fun c c c c c=>none) (fun c c c c c=>none) (fun c c c c c=>none) (fun c c c c=>none) (fun c c c c=>none) (fun c c c=>none) (fun c c c=>none) (fun c c c=>none) (fun c c c=>none) (fun c c c c c=>none) (fun c c c c c=>none) (fun c c c=>none) gQ (fun c c c c=>none) gQ gQ gQ bb bb bb
def qX (w:Nat):Option (Arguments×Expr×Scope×Pos):=((fm fM)[w+2]?).bind M3
noncomputable def Jq:Str:=dX "<lambda>"
def Jr (o:Obj) (w:Nat) (c d:Addr):Prop:=w<2/\∃q pm ctv,qX w=some q/\o=kla_obj Jq yL q.1 q.2.1 q.2.2.1 [(nm aq,c)] pm d ctv
theorem Js:(qX 0).map (·.2.1)=some (aX (qW 0)):=by kernel_rfl
theorem Jt:(qX 1).map (·.2.1)=some (aX (qW 1)):=by kernel_rfl
def Ju (ps:List Nat) (a:Arguments):Bool:=a.posonlyargs.isEmpty&&(a.args.map (·.arg)==ps.map nm)&&a.vararg.isNone&&a.kwonlyargs.isEmpty&&a.kwarg.isNone&&(KU ps&&ps.all nE)
def Jv (w:Nat) (q:Arguments×Expr×Scope×Pos):Bool:=Ju (n8 w) q.1&&(noCell q.2.2.1&&((n8 w).all (Jd [] q.2.2.1)&&(!q.2.2.1.isCoroutine&&(!q.2.2.1.isGenerator&&((q.2.2.1.kind==.function)&&wf false glT aTl (qW w) .v q.2.2.1 true)))))
theorem Jw:(qX 0).map (Jv 0)=some true:=by kernel_rfl
theorem Jx:(qX 1).map (Jv 1)=some true:=by kernel_rfl
theorem Jy {w:Nat} {q:Arguments×Expr×Scope×Pos} (h:w<2) (e:qX w=some q):q.2.1=aX (qW w)/\Jv w q=true:=by
 have:w=0\/w=1:=by lia
 rcases this with rfl|rfl
 ·have a:=Js;have b:=Jw
  rw[e] at a b
  exact⟨ma a,ma b⟩
 ·have a:=Jt;have b:=Jx
  rw[e] at a b
  exact⟨ma a,ma b⟩
theorem B5 {prog:KE} {wd:World} {A:ef} {s:ce} {R:Result->ce->Prop} {a:Addr} {o:Obj} {fd:C4} {body:Expr} {args:Args} {binds:List (Str×bo)}
  (hroom:A.depth<recursionLimit) (ho:s.heap.get? a=some o) (hdata:o.data=.func fd) (hlim:s.heap.NoLimit) (hcd:s.heap.CodeRec fd.code fd.qualname)
  (hbody:fd.body=.expr body) (hbind:BindsTo s fd args binds) (hcell:∀x∈fd.scope.names,x.2≠.cell) (hloc:∀x∈binds,fd.scope.names.lookup x.1=some .local)
  (h:∀h₀,h₀.Ns s.heap.objs.size (fun x=>binds.reverse.lookup x)->(∀b o,s.heap.get? b=some o->h₀.get? b=some o) ->
   dk (model prog wd) (A.deeper (callEnv fd s.heap.objs.size a)) (eval body (callEnv fd s.heap.objs.size a)) (fun v s'=>R (.ok (.ret v)) s')
    (fun e s'=>dk (model prog wd) (A.deeper (callEnv fd s.heap.objs.size a)) (leaving (callEnv fd s.heap.objs.size a) e) (fun u_ s''=>R (.error e) s'') (fun e' s''=>R (.error e') s'') s')
    {s with heap:=h₀,toks:=s.toks+binds.length})
  (hco:fd.scope.isCoroutine=false) (hgen:fd.scope.isGenerator=false) (hk:fd.scope.kind=.function) :
  z9 (model prog wd) A (.call (.ref a) args) R s:=by
 refine kla_callFunE hroom ho hdata hco hgen hbody hcd (hbind _ _ _ _ ?_)
 refine wpAny_newFunctionEnv hcell hloc (fun h₀ d c=>⟨hlim.fresh _ c,kla_codeExpr (h h₀ d fun b o e=>?_)⟩) hk
 exact c.extBut b o (rd (l4 e)) (f4 _ e)
theorem B6:(fun(c ch:Call) (τ:St) (i:Nat) (t:Int) (K:K1) (x:KX)=>mO c ch 53 [.obj i,.int t] τ K x)=fun c ch τ i t K x =>
  cM (mN (.obj i) (.int 0) τ) fun a=>wi .Gt a (.int 0) τ fun b=>af b
   (cM (mN (.obj i) (.int 0) τ) fun a=>i5 .Mod a (.int t) τ fun d τ=>cM (mN (.obj i) (.int 0) τ) fun a=>i5 .FloorDiv a (.int t) τ fun q τ=>Av (τ.get i) i (.int 0) q τ fun τ=>K d τ)
   (cM (mN (.obj i) (.int 1) τ) fun a=>i5 .Mult a (.int 44485) τ fun a τ=>i5 .Add a (.int 709) τ fun a τ=>i5 .Mod a (.int 2147483647) τ fun q τ=>Av (τ.get i) i (.int 1) q τ fun τ =>
    cM (mN (.obj i) (.int 1) τ) fun a=>i5 .FloorDiv a (.int 13) τ fun a τ=>i5 .Mod a (.int t) τ fun d τ=>K d τ):=by kernel_rfl
theorem zA {α:Type} {b:Bool} {t e:α} (h:b=true):af b t e=t:=by exact aa h rfl
theorem da {Z:St} {i:Nat} {o:O}:(Z.set i o).get i=some o:=by rewrite[dL];exact aa (if_pos rfl) rfl
section
variable {Z:St} {i:Nat} {x y t:Int} {K:K1} {X:KX} {c ch:Call}
abbrev sk (Z:St) (i:Nat) (x y:Int):St:=Z.set i (.lst [.int x,.int y])
theorem yg:mN (.obj i) (.int 0) (sk Z i x y)=some (.int x):=by
 show An ((sk Z i x y).get i) (.int 0)=_
 exact aa da rfl
theorem yh:mN (.obj i) (.int 1) (sk Z i x y)=some (.int y):=by
 show An ((sk Z i x y).get i) (.int 1)=_
 exact aa da rfl
theorem zB (h:0<t) (h2:t<=4000000000):ff t=true:=by
 refine aG (Int.eq_ofNat_of_zero_le (Int.le_of_lt h)) ?_;rintro n rfl
 show af (eL 1 n) (eL n 4000000000) false=true
 refine aa (zA (iw (by lia))) ?_
 exact iw (by lia)
theorem wW {k:K1} (h:ff t=true):i5 .Mod (.int x) (.int t) Z k=k (.int (x.fmod t)) Z:=zA h
theorem B7 {k:K1} (h:ff t=true):i5 .FloorDiv (.int x) (.int t) Z k=k (.int (x.fdiv t)) Z:=zA h
theorem Jz {k:K1} (h:ff t=true):i5 .Mult (.int x) (.int t) Z k=k (.int (x*t)) Z:=zA h
theorem JA {k:K1}:i5 .Add (.int x) (.int t) Z k=k (.int (x+t)) Z:=rfl
theorem Ez {k:St->Bool} {q:Int} (hm:Z.mut i=true):Av ((sk Z i x y).get i) i (.int 0) (.int q) (sk Z i x y) k=k (sk (sk Z i x y) i q y):=by
 refine aa da ?_
 exact zA hm
theorem EB {k:St->Bool} {q:Int} (hm:Z.mut i=true):Av ((sk Z i x y).get i) i (.int 1) (.int q) (sk Z i x y) k=k (sk (sk Z i x y) i x q):=by
 refine aa da ?_
 exact zA hm
theorem B8 (hm:Z.mut i=true) (h:0<t) (h2:t<=4000000000):mO c ch 53 [.obj i,.int t] (sk Z i x y) K X=af (decide (0<x)) (K (.int (x.fmod t)) (sk (sk Z i x y) i (x.fdiv t) y))
  (K (.int ((((y*44485+709).fmod 2147483647).fdiv 13).fmod t)) (sk (sk Z i x y) i x ((y*44485+709).fmod 2147483647))):=by
 have e:=congrFun (congrFun (congrFun (congrFun (congrFun (congrFun (congrFun B6 c) ch) (sk Z i x y)) i) t) K) X
 refine e.trans ?_
 have a:=zB h h2
 simp only[yg,yh,cM]
 show af (decide (0<x)) (i5 .Mod (.int x) (.int t) _ _) (i5 .Mult (.int y) (.int 44485) _ _)=_
 refine aa (wW a) (aa (Jz rfl) ?_)
 congr 1
 ·simp only[yg,B7 a]
  exact Ez hm
 ·refine aa JA (aa (wW rfl) ?_)
  refine(EB hm).trans ?_
  simp only[yh]
  exact aa (B7 rfl) (aa (wW a) rfl)
end
theorem cK {A:ef} {F:Addr->Prop} {n m:Nat} (h:m<=n) (AO:AOk A F n):AOk A F m:=⟨K7 h AO.d,K7 h AO.u,AO.fr⟩
section
variable {g:Gd} {K:Frag} {T:List (Nat×V)} {aT:List Nat} {F:Addr->Prop} {s:ce} {U:Nat->Addr} {Z:St} {A:ef} {k:K1} {x:KX} {call ch:Call} {l:List V} {us:List bo}
theorem ki (PR:Prog g K T aT) {isS:V->Bool} {sp:Call} {D:Nat} (n:Nat) (SP:∀m,D<m->wP g isS sp m):∀{A:ef} {F:Addr->Prop},AOk A F (n+D)->A.handled=none->lR g A F (fZ isS sp n):=by
 induction n with
 | zero=>intro A F a c v b l Z k x U s f u d h;exact aS h
 | succ n w =>
  intro A F a c v b l Z k x U s f u d h W P o r
  replace a:=(show n+1+D=n+D+1 by lia)▸a
  have h:af (isS b) (sp b l Z k x) (vp (fZ isS sp n) (fX n) b l Z k x)=true:=h
  induction q:isS b using dI with
  | true =>
   replace h:=q▸h
   exact SP (n+D+1) (by lia) (pW a d) c q h W P o r
  | false =>
   replace h:=q▸h
   exact x9 PR (lp:=true) (fun e=>by cases e) (pW a d) (fun p j=>⟨PR.base true,p,fun t=>j.trans c,fun AO' i=>w AO' (i.trans (j.trans c)),
    fun t=>fun AO'=>me PR n (uN (cK (t6 _ _) AO'))⟩) W P o r h
end
structure Hd (g:Gd):Prop where
 fa:g.fa=qF
 ca:g.ca=mY
 chk:zy g.B=true
 bod:nH g.B idsL=nJ idsL
 clo:g.clo=Jr
 img:BX g.B=true
theorem Hd.pr {g:Gd} (H:Hd g):Prog g (cB g.B jT) glT aTl:=Ev H.fa H.ca H.chk H.bod
theorem Hd.lt {g:Gd} (H:Hd g) (f:Nat->Nat) (hf:∀k,f k∈nm6):Hd (g.lt f hf):=⟨H.fa,H.ca,H.chk,H.bod,H.clo,H.img⟩
section
variable {g:Gd} {F:Addr->Prop} {s s':ce} {U ρi:Nat->Addr} {Z τ τ':St} {f:Nat->Nat} {hf:∀k,f k∈nm6}
theorem Go.pure (W:R g Z U s.heap) (P:Pv g F aL Z U s.heap) (WT:R (g.lt f hf) τ U s.heap) (nx:τ.nx<=Z.nx) (q:∀i o,τ.get i=some o->i≠4->τ.mut i=false/\∀c d,o≠.exn c d)
  (q4:∀o,τ.get 4=some o->Z.mut 4=true/\Z.get 4=some (.sck [])/\τ'.get 4=some (.sck [])) (G:Go (g.lt f hf) F aL τ U s τ' ρi s'):∃U',(∀i,i<Z.nx->U' i=U i)/\Go g F aL Z U s Z U' s':=by
 refine⟨fun i=>if i<Z.nx then U i else ρi i,fun i E=>if_pos E,?_⟩
 refine Go.frame (J:=id) W P WT G nx (fun i o e m=>?_) (e5 _) rfl (fun i j n=>absurd n (ji j)) (fun i h j n=>absurd n (ji j)) (fun i=>rfl) (fun i o e=>⟨aC W e,?_⟩) fun h h h=>rfl
 ·by_cases h4:i=4
  ·subst h4;exact⟨(q4 o e).1,_,(q4 o e).2.1⟩
  ·refine am (q i o e h4) fun a b=>?_
   rcases m with m|⟨c,d,m⟩
   ·replace m:=a▸m;exact aS m
   ·exact absurd m (b c d)
 ·by_cases h4:i=4
  ·subst h4
   induction z:τ.get 4 using cN with
   | none=>exact .inl ⟨aC W e,e,fun p k=>by exact bj k⟩
   | some H =>
    refine cE (q4 H z) fun v l A=>?_
    replace e:=l▸e;cases e
    refine .inr ⟨fun h=>⟨_,l⟩,?_⟩
    refine vM (aB G.r A) fun x y t u w B C=>?_
    refine aa (if_pos (aC W l)) (bw (G.sp.ag 4 (aC WT z)) ?_)
    exact⟨x,y,t,u,w,B,trivial⟩
  ·exact .inl ⟨aC W e,e,fun p k=>q i p k h4⟩
end
section
variable {g:Gd} {F X:Addr->Prop} {s s':ce} {U U':Nat->Addr} {Z Z2 Z3:St} {i:Nat} {o0 o1 o2:O}
theorem R.told {h:Heap} (W:R g Z U h) (nx:Z3.nx=Z.nx) (hg:∀j,j≠i->Z3.get j=Z.get j) (hi:Z3.get i=some o2) (lt:i<Z.nx) (x:OR g h U Z.nx (U i) o2):R g Z3 U h:=by
 refine⟨W.base,fun j c=>W.fresh j (nx▸c),fun a b f d=>W.inj a b (nx▸f) (nx▸d),fun j c=>W.ex j (nx▸c),fun j o e=>?_⟩
 refine aa nx ?_
 by_cases c:j=i
 ·subst c;replace e:=hi▸e;cases e;exact⟨lt,x⟩
 ·replace e:=hg j c▸e;exact W.ob j o e
theorem Go.retype (W:R g Z U s.heap) (P:Pv g F X Z U s.heap) (ei:Z.get i=some o0) (hm:Z.mut i=true) (G:Go g F X (Z.set i o1) U s Z2 U' s') (n2:Z2.nx=Z.nx) (m2:Z2.mu=Z.mu) (g2:∀j,j≠i->Z2.get j=Z.get j)
  (n3:Z3.nx=Z.nx) (m3:Z3.mu=Z.mu) (g3:∀j,j≠i->Z3.get j=Z.get j) (e3:Z3.get i=some o2) (x:OR g s'.heap U' Z.nx (U' i) o2):Go g F X Z U s Z3 U' s':=by
 have w:=aC W ei
 refine⟨G.same,⟨Nat.le_of_eq n3.symm,fun j f=>G.sp.ag j f,fun b o e n y=>G.sp.kp b o e (fun v=>aA v fun j m h z d=>n ?_) y,fun j t u=>absurd (n3▸u) (ji t),fun j o f e=>?_,G.sp.ex,G.sp.pv,⟨m3,m3⟩,fun j d A=>?_⟩,
  G.r.told (i:=i) (n3.trans n2.symm) (fun j f=>(g3 j f).trans (g2 j f).symm) e3 (n2▸w) (n2▸x),fun b q=>?_,G.l⟩
 ·by_cases f:i=j
  ·subst f;exact⟨i,_,ei,z,.inl hm⟩
  ·rewrite[dL] at h;replace h:=(if_neg f)▸h;exact⟨j,m,h,z,d⟩
 ·by_cases hj':j=i
  ·subst hj';exact⟨_,ei⟩
  ·replace e:=g3 j hj'▸e;exact⟨_,e⟩
 ·by_cases hj':j=i
  ·subst hj';replace d:=hm▸d;cases d
  ·exact g3 j hj'
 ·refine cE (G.p b q) fun a k c=>?_
  exact⟨a,k,fun j f=>c j (aa n2 (n3▸f))⟩
end
noncomputable def n9:KX:=fun a a=>false
theorem jU {g:Gd} {F X:Addr->Prop} {Z:St} {U:Nat->Addr} {s s':ce} {v:bo} {P:Prop} (p:PX g F X Z U s n9 v s'):P:=by
 obtain⟨_,_,_,_,_,_,_,z⟩:=p;exact aS z
open Classical in
def KV (a:V) (τ:St):K1:=fun b c=>decide (b=a/\c=τ)
open Classical in
theorem B9 {a b:V} {τ τ':St} (h:KV a τ b τ'=true):b=a/\τ'=τ:=of_decide_eq_true h
open Classical in
theorem qu {a:V} {τ:St}:KV a τ a τ=true:=decide_eq_true ⟨rfl,rfl⟩
theorem yi {g:Gd} {h:Heap} {U:Nat->Addr} {n:Nat} {x y:Int} {vs:Array bo} (r:VRs g h U n [.int x,.int y] vs.toList):∃t u,vs=#[.int x t,.int y u]:=by
 refine aA r fun v q e a b=>?_;refine aG a ?_;clear a;rintro t rfl;refine aA b ?_;clear b;rintro w c rfl a rfl;refine aG a ?_;clear a;rintro u rfl
 exact⟨t,u,Array.toList_inj.mp e⟩
theorem yj {g:Gd} (H:Hd g) {A:ef} {F:Addr->Prop} {Z Z3:St} {U:Nat->Addr} {s:ce} {us:List bo} {i n:Nat} {l r:List (Nat×V)} {k:K1} {x:KX} (AO:AOk A F 1) (W:R g Z U s.heap) (P:Pv g F aL Z U s.heap)
  (ru:VRs g s.heap U Z.nx [.obj i,.int n] us) (ei:Z.get i=some (.sck l)) (hm:Z.mut i=true) (h0:0<n) (h1:n<100) (n3:Z3.nx=Z.nx) (m3:Z3.mu=Z.mu) (g3:∀j,j≠i->Z3.get j=Z.get j) (e3:Z3.get i=some (.sck r))
  (hk:∀X Y,gB X Y->q7 g l X Y->q7 g r (lK X Y n) (lL X Y n)/\∃v,(∀h U m t,VR g h U m v (.int (fQ X Y n) t))/\k v Z3=true) :
  dk g.m A (f5 (.ref (g.fa 53)) us) (Po g F aL Z U s k) (PX g F aL Z U s x) s:=by
 refine vM (aB W ei) fun X Y t u N C Q=>?_
 refine am (hk X Y C Q) fun B z=>?_;refine ai z fun v hv hk=>?_
 have hi:=aC W ei
 have L:R g (sk Z i X Y) U s.heap:=W.told (i:=i) rfl (fun j q=>by rewrite[dL];refine aa (if_neg (Ne.symm q)) ?_;rfl) da hi ⟨_,N,_,_,rfl,⟨_,rfl⟩,_,_,rfl,⟨_,rfl⟩,rfl⟩
 have PT:Pv g F aL (sk Z i X Y) U s.heap:=P
 have f:∀{X' Y' d:Int} {w:bo} {o:ce},lK X Y n=X'->lL X Y n=Y'->fQ X Y n=d->Po g F aL (sk Z i X Y) U s (KV (.int d) (sk (sk Z i X Y) i X' Y')) w o->Po g F aL Z U s k w o:=by
  rintro _ _ _ w o rfl rfl rfl ⟨Z2,S,a,G,E,hz⟩
  refine am (B9 hz) ?_;rintro rfl rfl
  refine ai (aB G.r (i:=i) da) fun vs p2 M=>?_
  refine eM (yi M) ?_;rintro t' u' rfl
  refine aG E ?_;clear E;rintro tt rfl
  have so:gB (lK X Y n) (lL X Y n):=by
   refine cE C fun a b c=>?_
   have e:(0:Int)<n:=by lia
   unfold lK lL gB
   split
   ·exact⟨Int.ediv_nonneg a (Int.le_of_lt e),b,c⟩
   ·exact⟨a,Int.emod_nonneg _ (by decide),Int.emod_lt_of_pos _ (by decide)⟩
  refine⟨Z3,S,v,G.retype (i:=i) W P ei hm rfl rfl (fun j q=>?_) n3 m3 g3 e3 ⟨_,_,_,_,p2,so,B⟩,hv _ _ _ _,hk⟩
  rewrite[dL];refine aa (if_neg (Ne.symm q)) ?_;rewrite[dL];exact aa (if_neg (Ne.symm q)) rfl
 have J:∀{K:K1},fX 1 (.fn 53) [.obj i,.int n] (sk Z i X Y) K n9=af (decide (0<X)) (K (.int (X.fmod n)) (sk (sk Z i X Y) i (X.fdiv n) Y)) (K (.int ((((Y*44485+709).fmod 2147483647).fdiv 13).fmod n)) (sk (sk Z i X Y) i X ((Y*44485+709).fmod 2147483647))):=fun{K} =>
  (B8 (Z:=Z) (c:=fX 0) (ch:=fX 0) (K:=K) (X:=n9) hm (t:=n) (by lia) (by lia))
 have I:∀{d:Int} {τ2:St},fX 1 (.fn 53) [.obj i,.int n] (sk Z i X Y) (KV (.int d) τ2) n9=true->dk g.m A (f5 (.ref (g.fa 53)) us) (Po g F aL (sk Z i X Y) U s (KV (.int d) τ2)) (PX g F aL (sk Z i X Y) U s n9) s:=fun{d τ2} h =>
  me H.pr 1 AO (fun y h=>h) h L PT rfl ru
 have e:(0:Int)<=n:=by lia
 by_cases hx:0<X
 ·refine dt (I (d:=X.fmod n) (τ2:=sk (sk Z i X Y) i (X.fdiv n) Y) ?_) (fun w o p=>f ?_ ?_ ?_ p) fun y y p=>jU p
  ·exact aa J (aa (decide_eq_true hx) qu)
  ·unfold lK;exact aa (if_pos hx) (aa (Int.fdiv_eq_ediv_of_nonneg _ e) rfl)
  ·unfold lL;exact aa (if_pos hx) rfl
  ·unfold fQ;exact aa (if_pos hx) (aa (wa _ e) rfl)
 ·refine dt (I (d:=(((Y*44485+709).fmod 2147483647).fdiv 13).fmod n) (τ2:=sk (sk Z i X Y) i X ((Y*44485+709).fmod 2147483647)) ?_) (fun w o p=>f ?_ ?_ ?_ p) fun y y p=>jU p
  ·exact aa J (aa (decide_eq_false hx) qu)
  ·unfold lK;exact aa (if_neg hx) rfl
  ·unfold lL;exact aa (if_neg hx) (aa (wa _ (by decide)) rfl)
  ·unfold fQ;exact aa (if_neg hx) (aa (wa _ e) (aa (Int.fdiv_eq_ediv_of_nonneg _ (by decide)) (aa (wa _ (by decide)) rfl)))
def M4 (i t:Nat) (Z:St) (k:K1) (l:List (Nat×V)):Bool:=@List.rec (Nat×V) (fun a=>Bool) false (fun p r a=>af (c6 p.1 t) (wr i (.sck r) Z fun Z=>k p.2 Z) false) l
def yk (o:Option O) (k:List (Nat×V)->Bool):Bool:=cM o fun o=>O.casesOn o ac ac aJ aJ ac false (fun l=>k l) ac ac ac
theorem wX {o:Option O} {k:List (Nat×V)->Bool} {G:Prop} (h:yk o k=true) (K:∀l,o=some (.sck l)->k l=true->G):G:=by
 refine bS h ?_;clear h;rintro o rfl h
 cases o<;>first|(first|exact aS h|cases h);done|exact K _ rfl h
def Ca (t:Int) (k:Nat->Bool):Bool:=Int.rec (fun n=>k n) ac t
theorem Cb {t:Int} {k:Nat->Bool} {G:Prop} (h:Ca t k=true) (K:∀(n:Nat),t=n->k n=true->G):G:=by cases t<;>first|(first|exact aS h|cases h);done|exact K _ rfl h
def Cc (n:Nat):Bool:=af (l9 0 n) (l9 n 100) false
theorem wY {n:Nat} (h:Cc n=true):0<n/\n<100:=am (cb h) fun a b=>⟨dO a,dO b⟩
def rV (l:List V) (Z:St) (k:K1):Bool:=yB l fun u t=>db u fun i=>oP t fun t=>Ca t fun n=>yk (Z.get i) fun l=>M4 i n Z k l
def jV (n:Nat) (p:Nat->Bool):Bool:=@Nat.rec (fun b=>Bool) true (fun m a=>af (p m) a false) n
theorem fL {p:Nat->Bool}:∀{n:Nat},jV n p=true->∀m,m<n->p m=true
 | 0,_,m,h=>absurd h (Nat.not_lt_zero m)
 | n+1,h,m,hm=>by
  refine ak (show af (p n) (jV n p) false=true from h) fun h1 h2=>?_
  rcases ja.mp hm with hm|rfl
  ·exact fL h2 m hm
  ·exact h1
def wZ {α:Type} (l:List α):Bool:=@List.rec α (fun a=>Bool) true jp l
theorem mi {α:Type} {l:List α} (h:wZ l=true):l=[]:=by cases l<;>first|rfl|exact aS h
def Cd (l:List V) (Z:St) (k:K1):Bool:=yB l fun u t=>db u fun i=>oP t fun t=>Ca t fun n=>af (Cc n) (af (Z.mut i) (yk (Z.get i) fun r=>af (wZ r) (jV n fun d=>k (.int d) Z) false) false) false
section
variable {g:Gd} {A:ef} {F:Addr->Prop} {Z:St} {U:Nat->Addr} {s:ce} {us:List bo} {l:List V} {k:K1} {x:KX}
theorem qv (H:Hd g) (AO:AOk A F 1) (W:R g Z U s.heap) (P:Pv g F aL Z U s.heap) (ru:VRs g s.heap U Z.nx l us) (h:rV l Z k=true):dk g.m A (f5 (.ref (g.fa 53)) us) (Po g F aL Z U s k) (PX g F aL Z U s x) s:=by
 refine pF h ?_;clear h;rintro u t rfl h
 refine cA h ?_;clear h;rintro i rfl h
 refine kR h ?_;clear h;rintro t rfl h
 refine Cb h ?_;clear h;rintro n rfl h
 refine wX h fun q a h=>?_
 induction q using fV with
 | nil=>exact aS h
 | cons p r =>
  obtain⟨m,v⟩:=p
  refine ak (show af (c6 m n) (wr i (.sck r) Z fun Z=>k v Z) false=true from h) ?_;intro f B
  have o:=bz f
  subst o
  refine ak (show af (Z.mut i) (k v (Z.set i (.sck r))) false=true from B) fun E e=>?_
  refine GW (aB W a) fun X Y G z b c C d2 y=>?_
  exact yj (Z3:=Z.set i (.sck r)) H AO W P ru a E C d2 rfl rfl (fun j w=>by rewrite[dL];refine aa (if_neg (Ne.symm w)) ?_;rfl) da fun X Y I d=>⟨d.2.2.2,v,d.2.2.1,e⟩
theorem mj {X Y:Int} {n:Nat} (h:gB X Y) (h0:0<n):∃d:Nat,d<n/\fQ X Y n=d:=by
 have a:(0:Int)<n:=Int.ofNat_lt.mpr h0
 have:0<=fQ X Y n/\fQ X Y n<n:=by
  unfold fQ
  split<;>exact⟨Int.emod_nonneg _ (Int.ne_of_gt a),Int.emod_lt_of_pos _ a⟩
 exact⟨(fQ X Y n).toNat,Og this,Ol this⟩
theorem Ce (H:Hd g) (AO:AOk A F 1) (W:R g Z U s.heap) (P:Pv g F aL Z U s.heap) (ru:VRs g s.heap U Z.nx l us) (h:Cd l Z k=true):dk g.m A (f5 (.ref (g.fa 53)) us) (Po g F aL Z U s k) (PX g F aL Z U s x) s:=by
 refine pF h ?_;clear h;rintro u t rfl h
 refine cA h ?_;clear h;rintro i rfl h
 refine kR h ?_;clear h;rintro t rfl h
 refine Cb h ?_;clear h;rintro n rfl h
 refine ak h fun o h=>?_
 refine ak h fun v h=>?_
 refine wX h fun q a h=>?_
 refine ak h fun r h=>?_
 cases mi r
 refine am (wY o) fun b f=>?_
 refine yj H AO W P ru a v b f rfl rfl (fun j w=>rfl) a fun X Y p d=>⟨trivial,?_⟩
 refine ai (mj p b) fun d c e=>?_
 exact⟨.int d,fun h U m t=>⟨t,aa e rfl⟩,fL h d c⟩
end
inductive DT where
 | e (c:Nat)
 | n (t:Nat) (f:Nat->DT)
 | z (t:Nat) (a b:DT)
 | l3 (k:Nat) (a:DT)
 | l6 (k:Nat) (a b:DT)
def DT.all (t:DT):(Nat->List (Nat×V)->Bool)->Bool:=@DT.rec (fun e=>(Nat->List (Nat×V)->Bool)->Bool) (fun c p=>p c []) (fun t e f p=>jV t fun d=>f d fun c l=>p c ((t,.int d)::l))
 (fun t e e a b p=>af (a fun c l=>p c ((t,.int 0)::l)) (b fun c l=>p c ((t,.ab 4 0)::l)) false) (fun k e a p=>a fun c l=>p c ((3,.ab 3 k)::l)) (fun k e e a b p=>af (a fun c l=>p c ((7,.ab 1 k)::l)) (b fun c l=>p c ((7,.int 6)::l)) false) t
def DT.wf (t:DT):Nat->Bool:=@DT.rec (fun c=>Nat->Bool) uc (fun t c e j=>af (Cc t) (jV t fun d=>e d j) false) (fun t c c a b j=>af (Cc t) (af (a j) (b j) false) false)
 (fun k c a j=>af (eL j k) (a (Nat.succ k)) false) (fun k c c a b j=>af (eL j k) (af (a (Nat.succ k)) (b (Nat.succ k)) false) false) t
theorem gc {X Y:Int} {n:Nat} (ok:gB X Y) (h0:0<n):gB (lK X Y n) (lL X Y n):=by
 refine cE ok fun a b c=>?_
 have d:(0:Int)<n:=Int.ofNat_lt.mpr h0
 unfold lK lL gB
 split
 ·exact⟨Int.ediv_nonneg a (Int.le_of_lt d),b,c⟩
 ·exact⟨a,Int.emod_nonneg _ (by decide),Int.emod_lt_of_pos _ (by decide)⟩
theorem DT.pick (t:DT):∀{p:Nat->List (Nat×V)->Bool} {j:Nat} {X Y:Int} {f:Nat->Nat},t.all p=true->t.wf j=true->gB X Y->(∀k,f k∈nm6) ->
  ∃f' c l,(∀i,i<j->f' i=f i)/\(∀k,f' k∈nm6)/\p c l=true/\∀g:Gd,g.nam=f'->q7 g l X Y:=by
 induction t with
 | e c=>exact fun{p j X Y f} h _ _ u=>⟨f,c,[],fun L L=>rfl,u,h,fun L L=>trivial⟩
 | n t W Z =>
  intro p j X Y f h w q u
  refine ak (show af (Cc t) (jV t fun d=>(W d).wf j) false=true from w) ?_;intro B C
  refine am (wY B) fun y H=>?_
  refine ai (mj q y) fun d F e=>?_
  refine lf (Z d (fL (p:=fun d=>(W d).all fun c l=>p c ((t,.int d)::l)) h d F) (fL C d F) (gc q y) u) ?_;intro f' s l a b c v
  exact⟨f',s,_,a,b,c,fun g o=>⟨y,H,fun h U m t=>⟨t,aa e rfl⟩,v g o⟩⟩
 | z t a b E J =>
  intro p j X Y f h w q u
  refine ak (show af (Cc t) (af (a.wf j) (b.wf j) false) false=true from w) fun B w=>?_
  refine ak w fun C Q=>?_
  refine am (wY B) fun y H=>?_
  refine ak (show af (a.all fun c l=>p c ((t,.int 0)::l)) (b.all fun c l=>p c ((t,.ab 4 0)::l)) false=true from h) ?_;intro I N
  refine ai (mj q y) fun d F e=>?_
  by_cases G:d=0
  ·subst G
   refine lf (E I C (gc q y) u) fun f' s l r A x v=>?_
   exact⟨f',s,_,r,A,x,fun g o=>⟨y,H,fun h U m t=>⟨t,aa e rfl⟩,v g o⟩⟩
  ·refine lf (J N Q (gc q y) u) fun f' s l r A x v=>?_
   exact⟨f',s,_,r,A,x,fun g o=>⟨y,H,fun h U m t=>⟨_,t,rfl,by refine aa e ?_;lia⟩,v g o⟩⟩
 | l3 k a E =>
  intro p j X Y f h w q u
  refine ak (show af (eL j k) (a.wf (k+1)) false=true from w) fun B C=>?_
  have B:=bY B
  refine ai (mj (n:=3) q (by decide)) fun d F e=>?_
  have G:∃c,Lb[d]?=some c/\c∈nm6:=by
   have:d=0\/d=1\/d=2:=by lia
   unfold Lb nm6
   rcases this with rfl|rfl|rfl<;>exact⟨_,rfl,by simp⟩
  refine ai G fun c K M=>?_
  refine lf (E (f:=fun i=>if i=k then c else f i) h C (gc q (n:=3) (by decide)) (fun i=>by split;exact M;exact u i)) ?_;intro f' s l r A x v
  have P:f' k=c:=(r k (f2 k)).trans (if_pos rfl)
  exact⟨f',s,_,fun i S=>(r i (by lia)).trans (if_neg (by lia)),A,x,fun g o=>⟨show 0<3 by decide,show 3<100 by decide,fun h U m t=>⟨d,t,bw e rfl,aa o (aa P K)⟩,v g o⟩⟩
 | l6 k a b E J =>
  intro p j X Y f h w q u
  refine ak (show af (eL j k) (af (a.wf (k+1)) (b.wf (k+1)) false) false=true from w) fun B w=>?_
  refine ak w fun C Q=>?_
  have B:=bY B
  refine ak (show af (a.all fun c l=>p c ((7,.ab 1 k)::l)) (b.all fun c l=>p c ((7,.int 6)::l)) false=true from h) ?_;intro I N
  refine ai (mj (n:=7) q (by decide)) fun d F e=>?_
  by_cases hd6:d=6
  ·subst hd6
   refine lf (J N Q (gc q (n:=7) (by decide)) u) fun f' s l r A x v=>?_
   exact⟨f',s,_,fun i S=>r i (by lia),A,x,fun g o=>⟨show 0<7 by decide,show 7<100 by decide,fun h U m t=>⟨t,aa (show fQ X Y (7,V.int 6).1=fQ X Y 7 from rfl) (aa e rfl)⟩,v g o⟩⟩
  ·have G:∃c,nm6[d]?=some c/\c∈nm6:=by
    have:d=0\/d=1\/d=2\/d=3\/d=4\/d=5:=N9 (by assumption) (by assumption)
    unfold nm6
    rcases this with rfl|rfl|rfl|rfl|rfl|rfl<;>exact⟨_,rfl,by simp⟩
   refine ai G fun c K M=>?_
   refine lf (E (f:=fun i=>if i=k then c else f i) I C (gc q (n:=7) (by decide)) (fun i=>by split;exact M;exact u i)) ?_;intro f' s l r A x v
   have P:f' k=c:=(r k (f2 k)).trans (if_pos rfl)
   exact⟨f',s,_,fun i S=>(r i (by lia)).trans (if_neg (by lia)),A,x,fun g o=>⟨show 0<7 by decide,show 7<100 by decide,fun h U m t=>⟨d,t,bw e rfl,aa o (aa P K)⟩,v g o⟩⟩
def PY (i:Nat) (f:V):Bool:=V.casesOn f false ac ac ac ac ac ac (fun j=>c6 j i) ac aJ ac aJ
theorem JB {i:Nat} {f:V} (h:PY i f=true):f=.fn i:=by
 cases f<;>first|(first|exact aS h|cases h);done|exact congrArg V.fn (bz h)
def s0 (o:Option O):Bool:=yk o wZ
theorem vu {o:Option O} (h:s0 o=true):o=some (.sck []):=by
 refine wX h ?_;clear h;rintro l rfl h
 exact aa (mi h) rfl
def Di (w b:Bool) (v:V) (τ:St):Bool:=fB v fun c=>af (Dg c b) (af w (s0 (τ.get 4)) true) false
theorem kj {g:Gd} (H:Hd g) {A:ef} {F:Addr->Prop} {Z τ:St} {U:Nat->Addr} {s:ce} {us:List bo} {l:List V} {i:Nat} {k:K1} {x:KX} {f:Nat->Nat} {hf:∀k,f k∈nm6} {isS:V->Bool} {sp:Call} {D n:Nat} {w b:Bool}
  (W:R g Z U s.heap) (P:Pv g F aL Z U s.heap) (nx:τ.nx<=Z.nx) (ob:∀i o,τ.get i=some o->i<τ.nx/\OR (g.lt f hf) s.heap U τ.nx (U i) o) (q:∀i o,τ.get i=some o->i≠4->τ.mut i=false/\∀c d,o≠.exn c d)
  (q4:∀o,τ.get 4=some o->Z.mut 4=true/\Z.get 4=some (.sck [])/\w=true) (SP:∀m,D<m->wP (g.lt f hf) isS sp m) (AO:AOk A F (n+D)) (hh:A.handled=none) (r:VRs (g.lt f hf) s.heap U τ.nx l us)
  (run:fZ isS sp n (.fn i) l τ (Di w b) n9=true) (hk:k (.bool b) Z=true):dk g.m A (f5 (.ref (g.fa i)) us) (Po g F aL Z U s k) (PX g F aL Z U s x) s:=by
 have j:R (g.lt f hf) τ U s.heap:=R.view W nx ob
 have u:Pv (g.lt f hf) F aL τ U s.heap:=Pv.view P nx
 refine dt (ki (H.lt f hf).pr n SP AO hh (fun t h=>h) run j u (f:=.ref (g.fa i)) rfl r) (fun v M p=>?_) fun t t p=>jU p
 obtain⟨L,K,a,G,B,y⟩:=p
 refine nU y ?_;rintro c rfl h
 refine ak h fun z C=>?_
 cases mR z
 refine ai (Go.pure W P j nx q (fun o e=>by
  refine cE (q4 o e) fun a b c=>?_
  subst c
  exact⟨a,b,vu C⟩) G) ?_
 intro E J I
 exact⟨Z,E,.bool b,I,B,hk⟩
def NM:V->Bool:=PY 53
def NN:Call:=fun a l Z k a=>rV l Z k
theorem JC {g:Gd} (H:Hd g):∀m,0<m->wP g NM NN m:=fun m b A F j l Z k x U s f i a d e h W P c r=>by
 cases JB e
 cases c
 exact qv H (cK b a) W P r h
def Cf (dr:List (Nat×V)):Bool:=fZ NM NN 30 (.fn 63) [.obj 4,.obj 7] ⟨8,[(4,.sck dr)],0,33⟩ (Di true true) n9
noncomputable def ml (n:Nat):DT:=@Nat.rec (fun a=>DT) (.n 3 fun a=>.e 0) (fun a b=>.n 5 fun a=>b) n
noncomputable def rowD:DT:=.n 4 ml
theorem EC:rowD.wf 0=true:=by kernel_rfl
theorem oG {τ:St} {i j:Nat} {o o':O} {nx mu:Nat} (e:St.get ⟨nx,[(i,o)],0,mu⟩ j=some o'):j=i/\o'=o:=by
 have e:@Option.rec O (fun a=>Option O) none (fun o=>some o) (az j [(i,o)])=some o':=e
 rw[ax] at e
 by_cases h:i=j
 ·subst h;replace e:=if_pos rfl▸e;cases e;exact⟨rfl,rfl⟩
 ·replace e:=if_neg h▸e;exact bj e
theorem zC {g:Gd} (H:Hd g) (run:rowD.all (fun u_=>Cf)=true) {A:ef} {F:Addr->Prop} {Z:St} {U:Nat->Addr} {s:ce} {us:List bo} {k:K1} {x:KX} (W:R g Z U s.heap) (P:Pv g F aL Z U s.heap) (AO:AOk A F 31) (hh:A.handled=none)
  (r:VRs g s.heap U Z.nx [.obj 4,.obj 7] us) (nx:8<=Z.nx) (e4:Z.get 4=some (.sck [])) (m4:Z.mut 4=true) (hk:k (.bool true) Z=true) :
  dk g.m A (f5 (.ref (g.fa 63)) us) (Po g F aL Z U s k) (PX g F aL Z U s x) s:=by
 refine vM (aB W e4) fun X Y t u p h E=>?_
 refine lf (DT.pick rowD (f:=g.nam) run EC h g.hnam) fun f y l B hf j z=>?_
 have d:fZ NM NN 30 (.fn 63) [.obj 4,.obj 7] ⟨8,[(4,.sck l)],0,33⟩ (Di true true) n9=true:=j
 refine kj H (f:=f) (hf:=hf) (τ:=⟨8,[(4,.sck l)],0,33⟩) (D:=1) (isS:=NM) (sp:=NN) (n:=30) (i:=63) (w:=true) (b:=true) (l:=[.obj 4,.obj 7]) W P nx (fun i o e=>?_) (fun i o e G=>absurd (oG (τ:=Z) e).1 G) (fun o e=>⟨m4,e4,rfl⟩) (fun m C=>JC (H.lt f hf) m (Nat.lt_of_succ_lt C)) AO hh ?_ d hk
 ·refine am (oG (τ:=Z) e) ?_;rintro rfl rfl
  exact⟨show 4<8 by decide,X,Y,t,u,p,h,z _ rfl⟩
 ·refine aA r ?_;clear r;rintro v q rfl a c;refine aA c ?_;clear c;rintro I J rfl b rfl
  exact⟨v,_,rfl,⟨a.1,show 4<8 by decide⟩,I,_,rfl,⟨b.1,show 7<8 by decide⟩,rfl⟩
def Qv (c:Nat):List Nat:=af (c6 c av) [av,bh,du,aK] (af (c6 c gX) [gX,bh,du,aK] (af (c6 c bh) [bh,du,aK] (af (c6 c du) [du,aK] [c,aK])))
def mn (c d:Nat):Bool:=q6 d (Qv c)
abbrev Dj (c:Nat):V:=.tup [.str ae,.str c,.tup []]
noncomputable abbrev Dk:V->Bool:=fun a=>false
noncomputable abbrev mZ:Call:=fun a a a a a=>false
noncomputable abbrev tSub:St:=⟨1034,[],2,4136⟩
def ED (a b:V) (t:Bool):Bool:=fZ Dk mZ 24 (.fn 29) [.obj 9,a,b] tSub (Di false t) n9
def M5 (c d:Nat):Bool:=fZ Dk mZ 4 (.fn 57) [.str c,.str d] tSub (Di false (mn c d)) n9
def EF (l:List Nat) (p:Nat->Bool):Bool:=@List.rec Nat (fun c=>Bool) true (fun a c b=>af (p a) b false) l
theorem tQ {p:Nat->Bool}:∀{l:List Nat},EF l p=true->∀a∈l,p a=true
 | a::l,h,b,m=>by
  refine ak (show af (p a) (EF l p) false=true from h) fun h1 h2=>?_
  rcases gg.mp m with rfl|m
  ·exact h1
  ·exact tQ h2 b m
def JD:Bool:=EF nm6 fun c=>af (ED (.tup [.str aY]) (Dj c) true) (EF nm6 fun d=>af (ED (Dj c) (Dj d) (mn c d)) (M5 c d) false) false
def Pb (o:O):Bool:=O.casesOn o ge ge uc aJ ge true ac ac ac ac
def Qw (i:Nat) (o:O):Bool:=af (eL 5 i) (af (l9 i 1032) (af (BJ 1034 o) (Pb o) false) false) false
theorem EG:trC.allI Qw 0 1=true:=by kernel_rfl
theorem km:cJ 1034 fq=true:=by kernel_rfl
theorem jW {i:Nat} {o:O} (e:trC.get i=some o):5<=i/\i<1032/\BJ 1034 o=true/\Pb o=true:=by
 have:=T.allI_get EG e
 rw[Nat.zero_add,Nat.one_mul] at this
 refine ak (show af (eL 5 i) (af (l9 i 1032) (af (BJ 1034 o) (Pb o) false) false) false=true from this) fun d h=>?_
 refine ak h fun c h=>?_
 refine ak h fun b a=>?_
 exact⟨bY d,dO c,b,a⟩
theorem jc {m c:Nat} {v:V}:∀{l:List (Nat×V)},cJ m l=true->az c l=some v->iD m v=true
 | p::r,h,e=>by
  refine ak (show af (iD m p.2) (cJ m r) false=true from h) fun h1 h2=>?_
  rw[ax] at e
  split at e
  ·cases e;exact h1
  ·exact jc h2 e
section
variable {g:Gd} {h:Heap} {U:Nat->Addr} {n m:Nat} {f:Nat->Nat} {hf:∀k,f k∈nm6} {a:Addr}
theorem OR.pd_cut {kn:List (Nat×V)} (c:cJ m kn=true) (x:OR g h U n a (.pd kn)):OR (g.lt f hf) h U m a (.pd kn):=by
 refine aA x fun b d x r j=>?_
 refine⟨b,qt m d,x,r.blank,fun i v e=>?_⟩
 refine aa jS (aa (j i v e) ?_)
 show some (af (iD m v) v (.sym 0))=_
 exact aa (jc c e) rfl
theorem tR {i:Nat} {o:O} (e:su 2 i=some o):5<=i/\i<1032:=by
 have e:af (c6 i 15) (some (O.pd fq)) (af (c6 i 1031) (some (O.pd [])) (trC.get i))=some o:=e
 induction q:c6 i 15 using dI with
 | true=>cases bz q;exact⟨by decide,by decide⟩
 | false =>
  replace e:=q▸e
  induction c:c6 i 1031 using dI with
  | true=>cases bz c;exact⟨by decide,by decide⟩
  | false=>replace e:=c▸e;refine cE (jW e) fun a b d=>?_;exact⟨a,b⟩
theorem w0 {i:Nat} {o:O} (e:su 2 i=some o):5<=i/\i<1032/\(∀c d,o≠.exn c d)/\(OR g h U n a o->OR (g.lt f hf) h U 1034 a o):=by
 have e:af (c6 i 15) (some (O.pd fq)) (af (c6 i 1031) (some (O.pd [])) (trC.get i))=some o:=e
 induction q:c6 i 15 using dI with
 | true =>
  replace e:=q▸e;cases e
  cases bz q
  exact⟨by decide,by decide,fun j j z=>gR z rfl,OR.pd_cut km⟩
 | false =>
  replace e:=q▸e
  induction k:c6 i 1031 using dI with
  | true =>
   replace e:=k▸e;cases e
   cases bz k
   exact⟨by decide,by decide,fun j j z=>gR z rfl,fun x=>OR.pd_cut (show cJ 1034 []=true from rfl) x⟩
  | false =>
   replace e:=k▸e
   refine oM (jW e) fun a b c d=>?_
   exact⟨a,b,fun j j z=>(by replace d:=z▸d;exact aS d),fun x=>x.cut c⟩
end
def GD (k:Nat):Bool:=af (c6 k 4) true (eL 1032 k)
def tS (l:List (Nat×O)):Bool:=@List.rec (Nat×O) (fun b=>Bool) true (fun p b a=>af (GD p.1) a false) l
theorem nK {i:Nat} (h5:5<=i) (h6:i<1032):∀{l:List (Nat×O)},tS l=true->az i l=none
 | [],_=>rfl
 | p::r,h=>by
  refine ak (show af (GD p.1) (tS r) false=true from h) fun a c=>?_
  have b:p.1≠i:=fun e=>by
   replace a:=e▸a
   have a:af (c6 i 4) true (eL 1032 i)=true:=a
   rw[bG (by lia)] at a
   have:=bY (show eL 1032 i=true from a)
   lia
  show az i ((p.1,p.2)::r)=none
  rewrite[ax];exact aa (if_neg b) (nK h5 h6 c)
def JE (Z:St) (p:Nat->List (Nat×O)->Nat->Bool):Bool:=@St.rec (fun d=>Bool) (fun c a b d=>p c a b) Z
def qw (Z:St):Bool:=JE Z fun c b a=>af (eL 1034 c) (af (c6 a 2) (tS b) false) false
theorem Cg {Z:St} (h:qw Z=true):1034<=Z.nx/\∀i o,su 2 i=some o->Z.get i=some o:=by
 obtain⟨nx,c,g,l⟩:=Z
 refine ak (show af (eL 1034 nx) (af (c6 g 2) (tS c) false) false=true from h) fun j h=>?_
 refine ak h fun f d=>?_
 cases bz f
 refine⟨bY j,fun i o e=>?_⟩
 refine am (tR e) fun a b=>?_
 show @Option.rec O (fun k=>Option O) (su 2 i) (fun o=>some o) (az i c)=some o
 exact aa (nK a b d) e
def tT (g:Gd) (v:V):Option Nat:=V.casesOn v none bb bb (fun c=>some c) bb bb bb bb bb gQ bb (fun w k=>af (c6 w 0) (some (g.nam k)) none)
theorem Ch {g g':Gd} {h:Heap} {U U':Nat->Addr} {n m N:Nat} {x:V} {v:bo} (e:tT g x=some N) (r:VR g h U n x v):VR g' h U' m (.str N) v:=by
 induction x using eV with
 | str c=>cases e;exact r
 | ab w k =>
  refine fR (show af (c6 w 0) (some (g.nam k)) none=some N from e) (fun c e=>?_) fun a e=>by exact bj e
  obtain rfl:=bz c
  cases e;exact r
 | _=>exact bj e
theorem w4 {g g':Gd} {h:Heap} {U U':Nat->Addr} {n m N:Nat} {x:V} {v:bo} (e:tT g x=some N) (r:VR g h U n (.tup [.str ae,x,.tup []]) v):VR g' h U' m (Dj N) v:=by
 refine aA r ?_;clear r;rintro a w rfl t c;refine aA c ?_;clear c;rintro l u rfl f c;refine aA c ?_;clear c;rintro j q rfl k c;refine aA c ?_;clear c;rintro o s rfl d rfl
 refine aA d ?_;clear d;rintro b p rfl i rfl
 exact⟨a,_,rfl,t,l,_,rfl,f,j,_,rfl,Ch e k,_,_,rfl,⟨b,_,rfl,i,rfl⟩,rfl⟩
theorem EH:JD=true:=by kernel_rfl
theorem EI {i:Nat} (h:i<1032):tSub.mut i=false:=by
 show af (c6 i 0) false (af (eL 1034 i) true (af (c6 i 4) false (af (c6 i 15) false (af (c6 i 1031) false false))))=false
 cases c6 i 0 with
 | true=>rfl
 | false =>
  induction q:eL 1034 i using dI with
  | true=>have:=bY q;lia
  | false=>cases c6 i 4<;>cases c6 i 15<;>cases c6 i 1031<;>rfl
section
variable {g:Gd} {A:ef} {F:Addr->Prop} {Z:St} {U:Nat->Addr} {s:ce} {us:List bo} {l l':List V} {k:K1} {x:KX} {t:Bool}
theorem m7 (H:Hd g) {i n:Nat} (W:R g Z U s.heap) (P:Pv g F aL Z U s.heap) (AO:AOk A F n) (hh:A.handled=none) (hb:qw Z=true) (r:VRs (g.lt g.nam g.hnam) s.heap U 1034 l us)
  (run:fZ Dk mZ n (.fn i) l tSub (Di false t) n9=true) (hk:k (.bool t) Z=true):dk g.m A (f5 (.ref (g.fa i)) us) (Po g F aL Z U s k) (PX g F aL Z U s x) s:=by
 refine am (Cg hb) fun p u=>?_
 refine kj H (f:=g.nam) (hf:=g.hnam) (τ:=tSub) (D:=0) (isS:=Dk) (sp:=mZ) (n:=n) (i:=i) (w:=false) (b:=t) (l:=l) W P p (fun i o e=>?_) (fun i o e j=>?_) (fun o e=>?_) (fun m j=>?_) AO hh r run hk
 ·refine oM (w0 (g:=g) (h:=s.heap) (U:=U) (n:=Z.nx) (a:=U i) (f:=g.nam) (hf:=g.hnam) e) fun d q y c=>?_
  exact⟨Nat.lt_trans q (by decide),c (aB W (u i o e))⟩
 ·refine oM (w0 (g:=g) (h:=s.heap) (U:=U) (n:=Z.nx) (a:=U i) (f:=g.nam) (hf:=g.hnam) e) fun d q c v=>?_
  exact⟨EI q,c⟩
 ·exact absurd (tR (show su 2 4=some o from e)).1 (by decide)
 ·intro A F z l Z k x U s f us _ _ h
  exact aS h
theorem Ci {g':Gd} {h:Heap} {U':Nat->Addr} {n m j:Nat} {v:bo} (hj:j<m) (r:VR g h U' n (.obj j) v):VR g' h U' m (.obj j) v:=⟨r.1,hj⟩
theorem tU {c:Nat} (hc:c∈nm6):ED (.tup [.str aY]) (Dj c) true=true/\∀d∈nm6,ED (Dj c) (Dj d) (mn c d)=true/\M5 c d=true:=by
 refine ak (tQ EH c hc) fun e b=>?_
 exact⟨e,fun d a=>cb (tQ b d a)⟩
theorem EJ (H:Hd g) (W:R g Z U s.heap) (P:Pv g F aL Z U s.heap) (AO:AOk A F 24) (hh:A.handled=none) (hb:qw Z=true) {y:V} {M:Nat} (ey:tT g y=some M) (hM:M∈nm6)
  (r:VRs g s.heap U Z.nx [.obj 9,.tup [.str aY],.tup [.str ae,y,.tup []]] us) (hk:k (.bool true) Z=true):dk g.m A (f5 (.ref (g.fa 29)) us) (Po g F aL Z U s k) (PX g F aL Z U s x) s:=by
 refine aA r ?_;clear r;rintro d j rfl c a;refine aA a ?_;clear a;rintro f n rfl h a;refine aA a ?_;clear a;rintro b i rfl e rfl
 exact m7 H W P AO hh hb (l:=[.obj 9,.tup [.str aY],Dj M]) ⟨d,_,rfl,Ci (by decide) c,f,_,rfl,h,b,_,rfl,w4 ey e,rfl⟩ (tU hM).1 hk
theorem JF (H:Hd g) (W:R g Z U s.heap) (P:Pv g F aL Z U s.heap) (AO:AOk A F 24) (hh:A.handled=none) (hb:qw Z=true) {y z:V} {M N:Nat} (ey:tT g y=some M) (hM:M∈nm6) (ez:tT g z=some N) (hN:N∈nm6)
  (r:VRs g s.heap U Z.nx [.obj 9,.tup [.str ae,z,.tup []],.tup [.str ae,y,.tup []]] us) (hk:k (.bool (mn N M)) Z=true):dk g.m A (f5 (.ref (g.fa 29)) us) (Po g F aL Z U s k) (PX g F aL Z U s x) s:=by
 refine aA r ?_;clear r;rintro d j rfl c a;refine aA a ?_;clear a;rintro f n rfl h a;refine aA a ?_;clear a;rintro b i rfl e rfl
 exact m7 H W P AO hh hb (l:=[.obj 9,Dj N,Dj M]) ⟨d,_,rfl,Ci (by decide) c,f,_,rfl,w4 ez h,b,_,rfl,w4 ey e,rfl⟩ ((tU hN).2 M hM).1 hk
theorem JG (H:Hd g) (W:R g Z U s.heap) (P:Pv g F aL Z U s.heap) (AO:AOk A F 4) (hh:A.handled=none) (hb:qw Z=true) {y z:V} {M N:Nat} (ey:tT g y=some M) (hM:M∈nm6) (ez:tT g z=some N) (hN:N∈nm6)
  (r:VRs g s.heap U Z.nx [z,y] us) (hk:k (.bool (mn N M)) Z=true):dk g.m A (f5 (.ref (g.fa 57)) us) (Po g F aL Z U s k) (PX g F aL Z U s x) s:=by
 refine aA r ?_;clear r;rintro d h rfl e a;refine aA a ?_;clear a;rintro b f rfl c rfl
 exact m7 H W P AO hh hb (l:=[.str N,.str M]) ⟨d,_,rfl,Ch ez e,b,_,rfl,Ch ey c,rfl⟩ ((tU hN).2 M hM).2 hk
end
def nM (v:V) (k:Nat->Option Bool):Option Bool:=V.casesOn v none bb bb bb bb bb bb bb bb gQ bb (fun w j=>af (c6 w 0) (k j) none)
theorem w5 {v:V} {k:Nat->Option Bool} {t:Bool} {G:Prop} (h:nM v k=some t) (K:∀j,v=.ab 0 j->k j=some t->G):G:=by
 cases v<;>first|(first|exact bj h|cases h);done|skip
 case ab w j =>
  induction q:c6 w 0 using dI with
  | true=>cases bz q;exact K j rfl h
  | false=>replace h:=q▸(show nM (.ab w j) k=af (c6 w 0) (k j) none from rfl)▸h;exact bj h
def uQ (tp ti:List (Nat×Bool)) (a b:V):Option Bool:=V.casesOn a none bb bb (fun c=>af (c6 c av) (nM b fun j=>az j ti) none) bb bb bb bb bb gQ bb
 (fun w i=>af (c6 w 0) (nM b fun j=>af (c6 i (jf j 10)) (az i tp) none) none)
theorem JH {b:Bool} {x:Option Bool} {t:Bool} (h:af b x none=some t):b=true/\x=some t:=by cases b<;>first|(first|exact bj h|cases h);done|exact⟨rfl,h⟩
theorem M6 {tp ti:List (Nat×Bool)} {a b:V} {t:Bool} (h:uQ tp ti a b=some t):(∃j,a=.str av/\b=.ab 0 j/\az j ti=some t)\/∃j,a=.ab 0 (j+10)/\b=.ab 0 j/\az (j+10) tp=some t:=by
 cases a<;>first|(first|exact bj h|cases h);done|skip
 case str c =>
  refine am (JH (show af (c6 c av) (nM b fun j=>az j ti) none=some t from h)) ?_;intro f e
  refine w5 e ?_;rintro j rfl d
  refine aa (bz f) ?_
  exact .inl ⟨j,rfl,rfl,d⟩
 case ab w i =>
  refine am (JH (show af (c6 w 0) (nM b fun j=>af (c6 i (jf j 10)) (az i tp) none) none=some t from h)) ?_;intro f e
  refine w5 e ?_;rintro j rfl d
  refine am (JH d) fun g l=>?_
  have k:=bz g
  subst k
  refine aa (bz f) ?_
  exact .inr ⟨j,rfl,rfl,l⟩
def M7 (v:V) (k:V->Bool):Bool:=bL v fun l=>De l fun n a e=>af (zm 0 ae n) (bL e fun l=>GY l (k a)) false
def tV (v:V):Option V:=af (M7 v fun a=>true) (Qp v fun l=>dG l 1) none
theorem rW {v a:V} (h:tV v=some a):v=.tup [.str ae,a,.tup []]:=by
 refine fR h (fun c h=>?_) fun g h=>by exact bj h
 refine fg c ?_;clear c;rintro l rfl c
 refine sT c ?_;clear c;rintro n b e rfl c
 refine ak c fun f c=>?_
 refine fg c ?_;clear c;rintro l rfl c
 refine uB c ?_;rintro rfl d
 obtain rfl:=kZ f
 cases h;rfl
def GE (v:V):Bool:=bL v fun l=>oQ l (zm 0 aY)
theorem Cj {v:V} (h:GE v=true):v=.tup [.str aY]:=by
 refine fg h ?_;clear h;rintro l rfl h
 refine g7 h ?_;clear h;rintro n rfl h
 obtain rfl:=kZ h
 rfl
def EK (o:Option V) (k:V->Option Bool):Option Bool:=@Option.rec V (fun a=>Option Bool) none k o
theorem GF {o:Option V} {k:V->Option Bool} {t:Bool} {G:Prop} (h:EK o k=some t) (K:∀a,o=some a->k a=some t->G):G:=by cases o<;>first|(first|exact bj h|cases h);done|exact K _ rfl h
def M8 (tp ti:List (Nat×Bool)) (a b:V):Option Bool:=EK (tV b) fun y=>af (GE a) (nM y fun c=>some true) (EK (tV a) fun x=>uQ tp ti x y)
def Pc (tp ti:List (Nat×Bool)) (l:List V) (Z:St) (k:K1):Bool:=yB l fun a b=>af (qw Z) (cM (uQ tp ti a b) fun t=>k (.bool t) Z) false
def Pd (tp ti:List (Nat×Bool)) (l:List V) (Z:St) (k:K1):Bool:=De l fun u a b=>db u fun i=>af (c6 i 9) (af (qw Z) (cM (M8 tp ti a b) fun t=>k (.bool t) Z) false) false
def NO (f:V):Bool:=V.casesOn f false ac ac ac ac ac ac (fun i=>af (c6 i 53) true (af (c6 i 29) true (c6 i 57))) ac aJ ac aJ
def NP (tp ti:List (Nat×Bool)) (f:V) (l:List V) (Z:St) (k:K1) (_:KX):Bool:=V.casesOn f false ac ac ac ac ac ac (fun i=>af (c6 i 53) (rV l Z k) (af (c6 i 29) (Pd tp ti l Z k) (af (c6 i 57) (Pc tp ti l Z k) false))) ac aJ ac aJ
structure Cons (g:Gd) (tp ti:List (Nat×Bool)):Prop where
 p:∀j t,az (j+10) tp=some t->mn (g.nam (j+10)) (g.nam j)=t
 i:∀j t,az j ti=some t->mn av (g.nam j)=t
theorem Ck:av∈nm6:=by unfold nm6;exact .head _
theorem GG {g:Gd} {tp ti:List (Nat×Bool)} (C:Cons g tp ti) {a b:V} {t:Bool} (h:uQ tp ti a b=some t):∃N M,tT g a=some N/\N∈nm6/\tT g b=some M/\M∈nm6/\mn N M=t:=by
 rcases M6 h with ⟨j,rfl,rfl,e⟩|⟨j,rfl,rfl,e⟩
 ·exact⟨_,_,rfl,Ck,rfl,g.hnam _,C.i _ _ e⟩
 ·exact⟨_,_,rfl,g.hnam _,rfl,g.hnam _,C.p _ _ e⟩
theorem Cl {g:Gd} (H:Hd g) {tp ti:List (Nat×Bool)} (C:Cons g tp ti) {A:ef} {F:Addr->Prop} {l:List V} {Z:St} {k:K1} {x:KX} {U:Nat->Addr} {s:ce} {us:List bo} (AO:AOk A F 24) (hh:A.handled=none) (W:R g Z U s.heap) (P:Pv g F aL Z U s.heap) (r:VRs g s.heap U Z.nx l us) (h:Pd tp ti l Z k=true):dk g.m A (f5 (.ref (g.fa 29)) us) (Po g F aL Z U s k) (PX g F aL Z U s x) s:=by
 refine sT h ?_;clear h;rintro u a b rfl h
 refine cA h ?_;clear h;rintro j rfl h
 refine ak h ?_;clear h;intro E h
 cases bz E
 refine ak h ?_;clear h;intro i h
 refine bS (o:=M8 tp ti a b) h ?_;clear h;intro t c h
 refine GF c ?_;clear c;intro y f c
 have f:=rW f
 subst f
 refine fR c (fun q c=>?_) fun v c=>?_
 ·have z:=Cj q
  subst z
  refine w5 (show nM y (fun v=>some true)=some t from c) ?_;rintro p rfl e
  cases e
  exact EJ H W P AO hh i (y:=.ab 0 p) rfl (g.hnam _) r h
 ·refine GF (show EK (tV a) (fun x=>uQ tp ti x y)=some t from c) ?_;intro G d c
  have d:=rW d
  subst d
  refine qH (GG C c) ?_;rintro N M B w e n rfl
  exact JF H W P AO hh i e n B w r h
theorem Co {g:Gd} (H:Hd g) {tp ti:List (Nat×Bool)} (C:Cons g tp ti) {A:ef} {F:Addr->Prop} {l:List V} {Z:St} {k:K1} {x:KX} {U:Nat->Addr} {s:ce} {us:List bo} (AO:AOk A F 24) (hh:A.handled=none) (W:R g Z U s.heap) (P:Pv g F aL Z U s.heap) (r:VRs g s.heap U Z.nx l us) (h:Pc tp ti l Z k=true):dk g.m A (f5 (.ref (g.fa 57)) us) (Po g F aL Z U s k) (PX g F aL Z U s x) s:=by
 refine pF h ?_;clear h;rintro a b rfl h
 refine ak h fun f h=>?_
 refine bS (o:=uQ tp ti a b) h fun t i h=>?_
 refine qH (GG C i) ?_;rintro N M c j e d rfl
 exact JG H W P (cK (by lia) AO) hh f e d c j r h
theorem JI {g:Gd} (H:Hd g) {tp ti:List (Nat×Bool)} (C:Cons g tp ti):∀m,24<m->wP g NO (NP tp ti) m:=fun m t A F o l Z k x U s f d a c e h W P p r=>by
 cases o<;>first|(first|exact aS e|cases e);done|skip
 case fn i =>
  obtain rfl:f=.ref (g.fa i):=p
  have b:∀{j:Nat},c6 i j=true->dk g.m A (f5 (.ref (g.fa j)) d) (Po g F aL Z U s k) (PX g F aL Z U s x) s->dk g.m A (f5 (.ref (g.fa i)) d) (Po g F aL Z U s k) (PX g F aL Z U s x) s:=fun q w=>by rw[bz q];exact w
  refine fR (show af (c6 i 53) (rV l Z k) (af (c6 i 29) (Pd tp ti l Z k) (af (c6 i 57) (Pc tp ti l Z k) false))=true from h) (fun q h=>b q (qv H (cK (by lia) a) W P r h)) fun n h=>?_
  refine fR h (fun q h=>b q (Cl H C (cK (by lia) a) c W P r h)) fun n h=>?_
  exact ak h fun q h=>b q (Co H C (cK (by lia) a) c W P r h)
section
variable {g:Gd} {A:ef} {F:Addr->Prop} {Z:St} {U:Nat->Addr} {s:ce} {us:List bo} {l:List V} {k:K1} {x:KX} {f:bo}
theorem EL {ps:List Nat} {fd:C4} (h:Ju ps fd.params=true):PlainPs fd (ps.map nm)/\∀y∈ps,gE y:=by
 unfold Ju at h
 simp only[h9,List.isEmpty_iff,Option.isNone_iff_eq_none,beq_iff_eq] at h
 refine cE h fun a i g=>?_;refine am a fun a k=>?_;refine am a fun a j=>?_;refine am a fun a d=>?_;refine am a fun c e=>?_
 have b:∀y∈ps,gE y:=fun y m=>fN (dV.mp g y m)
 exact⟨⟨c,e,d,j,k,ke (fun x l y f z=>kX (b x l) (b y f) z) (mW i)⟩,b⟩
theorem Cp (H:Hd g) {w i:Nat} {vs:aO} (AO:AOk A F 2) (W:R g Z U s.heap) (P:Pv g F aL Z U s.heap) (rf:VR g s.heap U Z.nx (.clo w i) f) (r:VRs g s.heap U Z.nx l us) (ht:Z.get (1032+w)=some (.tab 2))
  (hb:nw (n8 w) l []=some vs) (h:dR (qW w) mZ [(aq,i)] vs [] Z k n9=true):dk g.m A (f5 f us) (Po g F aL Z U s k) (PX g F aL Z U s x) s:=by
 refine cE rf fun I hi ad=>?_;refine aA I ?_;clear I;rintro a o rfl ho hc
 replace hc:=H.clo▸hc
 refine am hc fun hw Q=>?_;refine hU Q ?_;clear Q;rintro q pm a6 e rfl
 refine am (Jy hw e) fun eb E=>?_
 obtain⟨qa,qb,J,qp⟩:=q
 have eb:qb=aX (qW w):=eb
 subst eb
 refine bI (show(_&&_)=true from E) fun c1 E=>?_
 refine bI E fun c2 E=>?_
 refine bI E fun c3 E=>?_
 refine bI E fun c4 E=>?_
 refine bI E fun c5 E=>?_
 refine bI E fun S c7=>?_
 have c4:J.isCoroutine=false:=by simpa using c4
 have c5:J.isGenerator=false:=by simpa using c5
 have S:J.kind=.function:=BE S
 have SVl:SV g ⟨glT,false⟩ true J (qW w):=(@gO g (cB g.B jT) aTl ⟨glT,false⟩ H.pr.fc (qW w) .v J true c7).1
 generalize hfd:kla_fn Jq yL qa (aX (qW w)) J [(nm aq,U i)] pm (.ref (U (1032+w))) a6=fd at ho
 have c:fd.scope=J:=by exact bw hfd rfl
 have a9:fd.params=qa:=by exact bw hfd rfl
 refine am (EL (fd:=fd) (aa a9 c1)) fun pp a5=>?_
 refine cE (pU (by simp) hb) ?_;rintro l1 l2 rfl
 have K:=r.length
 have hB:=pT (us:=us) (ds:=[]) (s:=s) pp (.inl ⟨bw hfd rfl,rfl⟩) (aa (jb _) (aa K l1)) (aa (jb _) (aa K l2)) (by simp)
 replace hB:=(List.drop_nil)▸hB;rewrite[sz] at hB
 have a8:([]:List V).drop (([]:List V).length - ((n8 w).length - l.length))=[]:=List.drop_nil
 replace h:=(a8)▸h;rewrite[sz] at h
 have AL:Al g s.heap U Z.nx ((n8 w).zip l) (((n8 w).map nm).zip us):=Al.zip r
 generalize hbs:((n8 w).map nm).zip us=binds at hB AL
 have ok:∀p∈((n8 w).zip l).reverse,gE p.1:=fun p m=>a5 _ (AQ (List.mem_reverse.mp m)).1
 have a7:∀y∈n8 w,J.names.lookup (nm y)=some .local:=fun y m=>by
  have:=dV.mp c3 y m
  exact rN this
 have a4:s.heap.CodeRec fd.code fd.qualname:=by
  refine lc (aB W ht:TabAt s.heap (U (1032+w)) 2) fun oc vs t a1 a2 a3=>?_
  refine bw hfd ?_
  exact⟨_,oc,vs,t,rfl,a1,a2,a3⟩
 refine kg (B5 (fd:=fd) (by have:=AO.d;lia) ho (bw hfd rfl) ((H.pr.base false).nolim _ W.base) a4 (bw hfd rfl) hB (fun x m=>?_) (fun p m=>?_) (fun Y N C=>?_) (aa c c4) (aa c c5) (aa c S))
 ·replace m:=c▸m
  have k:=dV.mp c2 x m
  intro zz
  replace k:=(zz)▸k;rewrite[kd] at k;exact aS k
 ·refine aa c ?_
  have:p.1∈binds.map (·.1):=mc.mpr ⟨p,m,rfl⟩
  replace this:=AL.keys▸this
  refine ai (mc.mp this) fun q mq e=>?_
  refine bw e ?_
  exact a7 q.1 (AQ mq).1
 ·generalize he:callEnv fd s.heap.objs.size a=env
  have hl:env.locals=s.heap.objs.size:=by exact bw he rfl
  have hf:env.frame=some env.locals:=by exact bw he rfl
  have M:env.scope=J:=by exact bw he c
  have ab:env.cells=[(nm aq,U i)]:=by exact bw he (bw hfd rfl)
  rw[<-hl] at N
  have nL:s.heap.get? env.locals=none:=by exact aa hl (cn _)
  have L:Later s.heap Y:=.of_keeps C
  have P1:Pv g (FL F env.locals) aL Z U Y:=fun b q=>by
   rcases q with (q|q)|q
   ·refine am (P b (.inl q)) fun I y=>?_;refine ai I fun ob e nf=>?_;exact⟨⟨ob,C b ob e,nf⟩,y⟩
   ·subst q
    refine⟨.of_ns N,?_,fun i hi z=>?_⟩
    ·induction z:g.B env.locals using cN with
     | none=>rfl
     | some oz=>have:=W.base _ oz z;replace this:=nL▸this;exact bj this
    ·refine aG (W.ex i hi) fun oz ez=>?_;replace ez:=nL▸z▸ez;exact bj ez
   ·exact q.elim
  have G:Go g (FL F env.locals) aL Z U s Z U {s with heap:=Y,toks:=s.toks+binds.length}:=.growP W C P1
  have dF:∀b,FL F env.locals b->F b\/s.heap.get? b=none:=fun b z=>z.imp id fun z=>by exact aa z nL
  have AO1:AOq A F 0:=⟨vO (u:=A.depth) AO.d (by decide),vO (u:=A.units) AO.u (by decide),AO.fr⟩
  have CX:Cx g ⟨glT,false⟩ mZ (A.deeper env) (FL F env.locals) env:={
   base:=H.pr.base false
   hu:=p0 (Nat.add_le_add_left (by decide:103<=280) A.units) AO.u
   call2:=fun e=>by exact aS e
   call:=fun u_ h=>by exact aS h
   fl:=.inr rfl
   hd:=fun e=>by exact aS e
   fr:=⟨_,hf,kY (n:=0) AO1 (aa M S) hf⟩}
  have ES:=wF (g:=g) (Z:=Z) (U:=U) (h:=Y) (cs:=[(aq,i)]) (vs:=((n8 w).zip l).reverse) M S (bw he (bw hfd rfl)) (bw he (bw hfd rfl)) N (fun y v e=>by
    refine dS ((AL.reverse).look ok e) fun u e1 e2 e3=>?_
    refine ai (mc.mp e3) fun p mp ep=>?_
    exact⟨ep▸ok p mp,u,e1,G.vr e2⟩) (fun y j e=>by
    rw[ax] at e
    by_cases hy:aq=y
    ·subst hy;replace e:=if_pos rfl▸e;cases e
     exact⟨hi,by refine aa ab ?_;simp⟩
    ·replace e:=if_neg hy▸e;exact bj e) fun n e=>by
    have k:=dV.mp c2 _ (mem_of_lookup e)
    rw[kd] at k;exact aS k
  refine dt (SVl (cv:=[]) (vs:=((n8 w).zip l).reverse) CX G.r G.p ES.e h) (fun v s' q=>?_) fun e s' q=>jU q
  obtain⟨Z',U',b,G2,rb,hk⟩:=q
  exact⟨Z',U',b,(G.trans W G2).drop dF (fun b z=>.inl z) (fun u_ h=>.inl h) (fun u_ h=>h),rb,hk⟩
end
def M9 (k:Nat):Bool:=af (eL k 4) true (af (c6 k 15) true (eL 1031 k))
def Cq (l:List (Nat×O)):Bool:=@List.rec (Nat×O) (fun b=>Bool) true (fun p b a=>af (M9 p.1) a false) l
theorem m8 {i:Nat} (h5:5<=i) (h6:i<1031) (h7:i≠15):∀{l:List (Nat×O)},Cq l=true->az i l=none
 | [],_=>rfl
 | p::r,h=>by
  refine ak (show af (M9 p.1) (Cq r) false=true from h) fun a c=>?_
  have b:p.1≠i:=fun e=>by
   replace a:=e▸a
   have a:af (eL i 4) true (af (c6 i 15) true (eL 1031 i))=true:=a
   replace a:=bG h7▸a
   induction q:eL i 4 using dI with
   | true=>have:=bY q;lia
   | false =>
    replace a:=q▸a
    have:=bY (show eL 1031 i=true from a)
    lia
  show az i ((p.1,p.2)::r)=none
  rewrite[ax];exact aa (if_neg b) (m8 h5 h6 h7 c)
def yl (a:V) (b:V):Bool:=V.casesOn a false ac ac ac ac ac (fun i=>V.casesOn b false ac ac ac ac ac (fun j=>c6 i j) ac ac aJ ac aJ)
 ac ac aJ ac aJ
theorem vv {a b:V} (h:yl a b=true):a=b:=by
 cases a<;>first|(first|exact aS h|cases h);done|skip
 cases b<;>first|(first|exact aS h|cases h);done|exact congrArg V.obj (bz h)
def JJ (a:List (Nat×V)):List (Nat×V)->Bool:=@List.rec (Nat×V) (fun b=>List (Nat×V)->Bool) ge (fun p b c l=>@List.rec (Nat×V) (fun b=>Bool) false (fun q r b=>af (c6 p.1 q.1) (af (yl p.2 q.2) (c r) false) false) l) a
theorem ym:∀{a l:List (Nat×V)},JJ a l=true->∀c v,az c a=some v->az c l=some v
 | [],_,_,_,_,e=>by exact bj e
 | p::a,[],h,_,_,_=>by exact aS h
 | p::a,q::l,h,c,v,e=>by
  refine ak (show af (c6 p.1 q.1) (af (yl p.2 q.2) (JJ a l) false) false=true from h) fun n h=>?_
  refine ak h fun i d=>?_
  obtain⟨f,b⟩:=p;obtain⟨j,k⟩:=q
  have g:f=j:=bz n
  have m:b=k:=vv i
  subst g m
  rw[ax] at e ⊢
  split
  ·rename_i z;replace e:=if_pos z▸e;exact e
  ·rename_i z;replace e:=if_neg z▸e;exact ym d c v e
def Cr (Z:St):Bool:=af (JE Z fun c a b=>af (eL 1034 c) (af (c6 b 1) (Cq a) false) false) (eP (Z.get 15) fun l=>af (JJ fq l) (eP (Z.get 1031) fun d=>true) false) false
theorem qx {Z:St} {p:Nat->List (Nat×O)->Nat->Bool} (h:JE Z p=true):p Z.nx Z.ob Z.tr=true:=h
theorem yn {Z:St} (h:Z.tr=1) {i:Nat} (e:az i Z.ob=none):Z.get i=trC.get i:=by
 obtain⟨b,ob,tr,a⟩:=Z
 cases h
 show @Option.rec O (fun c=>Option O) (su 1 i) (fun o=>some o) (az i ob)=_
 have e:az i ob=none:=e
 exact aa e rfl
theorem Ct {g:Gd} {Z:St} {h:Heap} {U:Nat->Addr} {f:Nat->Nat} {hf:∀k,f k∈nm6} (b:Cr Z=true) (W:R g Z U h):1034<=Z.nx/\∀i o,su 2 i=some o->OR (g.lt f hf) h U 1034 (U i) o:=by
 refine ak b fun j m=>?_
 have j:=qx j
 refine ak j fun s j=>?_
 refine ak j fun u t=>?_
 refine gD m fun l r m=>?_
 refine ak m fun w m=>?_
 refine gD m fun z p y=>?_
 refine⟨bY s,fun i o e=>?_⟩
 have e:af (c6 i 15) (some (O.pd fq)) (af (c6 i 1031) (some (O.pd [])) (trC.get i))=some o:=e
 induction q:c6 i 15 using dI with
 | true =>
  replace e:=q▸e;cases e
  cases bz q
  exact OR.cut_pd (fun c v e=>⟨ym w c v e,jc km e⟩) (aB W r)
 | false =>
  replace e:=q▸e
  induction n:c6 i 1031 using dI with
  | true =>
   replace e:=n▸e;cases e
   cases bz n
   exact OR.cut_pd (fun c v e=>by exact bj e) (aB W p)
  | false =>
   replace e:=n▸e
   refine oM (jW e) fun a b c d=>?_
   have x:=xy q
   have A:=xy n
   have:=yn (bz u) (m8 a (by lia) x t)
   exact(aB W (this.trans e)).cut c
def kN (n:Nat):Nat:=([Ha,G9,GZ]:List Nat).getD n 0
noncomputable def gG (n:Nat):Nat:=jf 1039 (Nat.mul 5 n)
def bW (n j lo k:Nat):V:=.tup [.str (vn n j),.str lo,.ab 0 k]
def EM (n:Nat):Nat->List Nat->List V
 | _,[]=>[]
 | j,lo::r=>bW n j lo (10+j)::EM n (j+1) r
def Cu (ks:List Nat):(List (Nat×Bool)->Bool)->Bool:=@List.rec Nat (fun b=>(List (Nat×Bool)->Bool)->Bool) (fun p=>p []) (fun k b a p=>af (a fun t=>p ((k,true)::t)) (a fun t=>p ((k,false)::t)) false) ks
theorem oH:∀{ks:List Nat} {p:List (Nat×Bool)->Bool},Cu ks p=true->∀v:Nat->Bool,p (ks.map fun k=>(k,v k))=true
 | [],_,h,_=>h
 | k::ks,p,h,v=>by
  refine ak (show af (Cu ks fun t=>p ((k,true)::t)) (Cu ks fun t=>p ((k,false)::t)) false=true from h) ?_;intro h1 h2
  show p ((k,v k)::_)=true
  cases v k with
  | true=>exact oH h1 v
  | false=>exact oH h2 v
theorem qy {v:Nat->Bool} {k:Nat} {t:Bool}:∀{ks:List Nat},az k (ks.map fun k=>(k,v k))=some t->v k=t
 | a::ks,e=>by
  replace e:=(ol)▸e;rewrite[ax] at e
  split at e
  ·rename_i z;subst z;exact ma e
  ·exact qy e
def Pe (v:V):Option Nat:=V.casesOn v none bb bb bb bb bb bb bb bb gQ bb (fun w k=>af (c6 w 1) (some k) none)
def NQ (m:Nat) (l:List (Nat×V)):List Nat:=@List.rec (Nat×V) (fun b=>List Nat) [] (fun p b a=>@Option.rec Nat (fun b=>List Nat) a (fun k=>af (l9 k m) (k::a) a) (Pe p.2)) l
def Na (ls:List Nat) (k:Nat):Bool:=cM (dG ls (Nat.sub k 20)) fun c=>c6 c av
def Nb (p:Nat->Bool) (l:List Nat):List Nat:=@List.rec Nat (fun c=>List Nat) [] (fun a c b=>af (p a) (a::b) b) l
noncomputable def Cv (n:Nat) (bs:List V) (l:List (Nat×V)):St:=⟨Nat.succ (gG n),[(4,.sck l),(gG n,.lst bs)],2,Nat.succ (Nat.mul 4 (Nat.succ (gG n)))⟩
def Pf (n:Nat) (tp ti:List (Nat×Bool)) (bs:List V) (l:List (Nat×V)):Bool:=fZ NO (NP tp ti) 30 (.fn 62) [.obj 4,.obj 7,.tup [.str (kN n),.obj (gG n),.sym 0]] (Cv n bs l) (Di true true) n9
def Pg (n:Nat) (ls:List Nat) (l:List (Nat×V)):Bool:=Cu (NQ (jf 20 (len ls)) l) fun a=>Cu (Nb (Na ls) (NQ (jf 20 (len ls)) l)) fun b=>Pf n a b (EM n 0 ls) l
noncomputable def Qx (c:Nat):Nat->DT:=@Nat.rec (fun b=>Nat->DT) (fun b=>.e 0) (fun b a k=>.l6 k (a (Nat.succ k)) (a (Nat.succ k))) c
noncomputable def JK (m:Nat):DT:=.n (jf m 2) fun c=>Qx c 20
def dQ (n:Nat) (ls:List Nat):Bool:=(JK (len ls)).all fun a=>Pg n ls
def GH (n:Nat):Nat->List Nat->List Nat->List V
 | j,lo::r,up::q=>bV n j lo up::GH n (j+1) r q
 | _,_,_=>[]
def jl:Nat->List (List Nat)
 | 0=>[[]]
 | 1=>[[1],[av]]
 | _=>[[1,1],[1,av],[av,1],[av,av]]
theorem w6 {u:Nat} (h:u∈los):u=1\/u=av:=by
 unfold los at h
 simpa using h
theorem Cy {n m:Nat} (hm:m<3) {l:List V} (h:l∈KM n m):∃ls ups,ls∈jl m/\ls.length=m/\ups.length=m/\(∀u∈ups,u∈nm6)/\l=GH n 0 ls ups:=by
 have:m=0\/m=1\/m=2:=by lia
 rcases this with rfl|rfl|rfl
 ·have h:l∈[[]]:=h
  exact⟨[],[],.head _,rfl,rfl,fun j m=>(by cases m),List.mem_singleton.mp h⟩
 ·have h:l∈los.flatMap fun b=>nm6.map fun c=>[bV n 0 b c]:=h
  refine ai (E7.mp h) fun b f h=>?_
  refine ai (mc.mp h) ?_;rintro c e rfl
  refine⟨[b],[c],?_,rfl,rfl,fun u m=>?_,rfl⟩
  ·show _∈[[1],[av]]
   rcases w6 f with rfl|rfl<;>simp
  ·exact aa (List.mem_singleton.mp m) e
 ·have h:l∈los.flatMap fun b=>nm6.flatMap fun c=>los.flatMap fun d=>nm6.map fun a=>[bV n 0 b c,bV n 1 d a]:=h
  refine ai (E7.mp h) fun b f h=>?_
  refine ai (E7.mp h) fun c e h=>?_
  refine ai (E7.mp h) fun d i h=>?_
  refine ai (mc.mp h) ?_;rintro a g rfl
  refine⟨[b,d],[c,a],?_,rfl,rfl,fun u m=>?_,rfl⟩
  ·show _∈[[1,1],[1,av],[av,1],[av,av]]
   rcases w6 f with rfl|rfl<;>rcases w6 i with rfl|rfl<;>simp
  ·rcases gg.mp m with rfl|m
   ·exact e
   ·exact aa (List.mem_singleton.mp m) g
section
variable {g:Gd} {h:Heap} {U:Nat->Addr} {n' m n:Nat} {f:Nat->Nat} {hf:∀k,f k∈nm6}
theorem Nc {j lo up k:Nat} {v:bo} (e:f k=up) (r:VR g h U n' (bV n j lo up) v):VR (g.lt f hf) h U m (bW n j lo k) v:=by
 refine aA r ?_;clear r;rintro a z rfl t b;refine aA b ?_;clear b;rintro p y rfl d b;refine aA b ?_;clear b;rintro l w rfl o b;refine aA b ?_;clear b;rintro u x rfl c rfl;refine bx c ?_;clear c;rintro s i rfl q
 exact⟨a,_,rfl,t,p,_,rfl,d,l,_,rfl,o,_,_,rfl,⟨s,i,rfl,by show SR s (f k);refine aa e ?_;exact q⟩,rfl⟩
theorem EN {ls ups:List Nat} {j:Nat} {vs:List bo} (hl:ups.length=ls.length) (hu:∀i u,ups[i]?=some u->f (10+(j+i))=u) (e:VRs g h U n' (GH n j ls ups) vs):VRs (g.lt f hf) h U m (EM n j ls) vs:=by
 induction ls generalizing ups j vs with
 | nil =>
  induction ups using fV with
  | nil=>exact e
  | cons _ _=>cases hl
 | cons l ls d =>
  induction ups using fV with
  | nil=>cases hl
  | cons k ups =>
   refine aA e ?_;rintro v q rfl a b
   have c:=hu 0 k rfl
   rw[Nat.add_zero] at c
   exact⟨v,q,rfl,Nc c a,d (Nat.succ.inj hl) (fun i u e=>(Nat.add_right_comm j 1 i▸hu (i+1) u e :)) b⟩
end
theorem yo {n:Nat} {bs:List V} {l:List (Nat×V)} {i:Nat} {o:O} (e:(Cv n bs l).get i=some o):(i=4/\o=.sck l)\/(i=gG n/\o=.lst bs)\/(su 2 i=some o/\i≠4/\i≠gG n):=by
 have e:@Option.rec O (fun a=>Option O) (su 2 i) (fun o=>some o) (az i [(4,.sck l),(gG n,.lst bs)])=some o:=e
 rw[ax] at e
 by_cases h:4=i
 ·subst h;replace e:=if_pos rfl▸e;cases e;exact .inl ⟨rfl,rfl⟩
 ·replace e:=(if_neg h)▸e;rewrite[ax] at e
  by_cases h2:gG n=i
  ·subst h2;replace e:=if_pos rfl▸e;cases e;exact .inr (.inl ⟨rfl,rfl⟩)
  ·replace e:=if_neg h2▸e;exact .inr (.inr ⟨e,Ne.symm h,Ne.symm h2⟩)
theorem yp {n:Nat} {bs:List V} {l:List (Nat×V)} {i:Nat} (h:i<=gG n) (h4:i≠4):(Cv n bs l).mut i=false:=by
 show Hc (Nat.succ (4*Nat.succ (gG n))) i=false
 unfold Hc
 cases c6 i 0 with
 | true=>rfl
 | false =>
  have a:Nat.div (Nat.succ (4*Nat.succ (gG n))) 4=Nat.succ (gG n):=by show(4*(gG n+1)+1) / 4=gG n+1;exact Oe
  have b:Nat.mod (Nat.succ (4*Nat.succ (gG n))) 4=1:=by show(4*(gG n+1)+1)%4=1;lia
  refine aa a (aa b (aa (bG h4) ?_))
  have:eL (Nat.succ (gG n)) i=false:=by
   induction q:eL (Nat.succ (gG n)) i using dI with
   | false=>rfl
   | true=>have:=bY q;lia
  refine aa this ?_
  cases c6 i 15<;>cases c6 i 1031<;>rfl
theorem JL (n:Nat):1039<=gG n:=t6 _ _
theorem EQ {m:Nat} (h:m<3):(JK m).wf 20=true:=by
 have:m=0\/m=1\/m=2:=by lia
 rcases this with rfl|rfl|rfl<;>kernel_rfl
theorem Cz {g:Gd} (H:Hd g) {A:ef} {F:Addr->Prop} {Z:St} {U:Nat->Addr} {s:ce} {us:List bo} {k:K1} {x:KX} {n m:Nat} {t:V} (W:R g Z U s.heap) (P:Pv g F aL Z U s.heap) (AO:AOk A F 54) (hh:A.handled=none)
  (hm:m<3) (run:∀ls∈jl m,dQ n ls=true) (r:VRs g s.heap U Z.nx [.obj 4,.obj 7,.tup [.str (kN n),.obj (gG n),t]] us) (hn:n<3) (eb:Z.get (gG n)=some (.cho (3*n+m))) (e4:Z.get 4=some (.sck [])) (m4:Z.mut 4=true) (b:Cr Z=true)
  (hk:k (.bool true) Z=true):dk g.m A (f5 (.ref (g.fa 62)) us) (Po g F aL Z U s k) (PX g F aL Z U s x) s:=by
 refine vM (aB W e4) ?_;intro X Y t1 u1 pl Q a3
 refine aA (aB W eb) ?_;intro bl vs p I rb
 have p:bl∈KM ((3*n+m) / 3) ((3*n+m)%3):=p
 rw[HE (by lia),HF (by lia)] at p
 refine qH (Cy hm p) ?_;rintro ls y L M N hu rfl
 have d:=run ls L
 unfold dQ at d
 rewrite[bB] at d;replace d:=(M)▸d
 have a1:=JL n
 refine lf (DT.pick (JK m) (f:=fun k=>(y[k - 10]?).getD (g.nam k)) d (EQ hm) Q (fun k=>by
  induction q:y[k - 10]? using cN with
  | none=>exact g.hnam k
  | some u=>exact hu u (List.mem_of_getElem? q))) ?_
 intro f a2 l ag hf hl dr
 have G:=oH (oH hl fun k=>mn (f k) (f (k - 10))) fun k=>mn av (f k)
 generalize htp:(NQ (jf 20 (len ls)) l).map (fun k=>(k,mn (f k) (f (k - 10))))=tp at G
 generalize hti:(Nb (Na ls) (NQ (jf 20 (len ls)) l)).map (fun k=>(k,mn av (f k)))=ti at G
 have C:Cons (g.lt f hf) tp ti:=⟨fun j t e=>by
   rw[<-htp] at e
   have:=qy (v:=fun k=>mn (f k) (f (k - 10))) e
   rwa [show j+10 - 10=j by lia] at this,fun j t e=>by
   rw[<-hti] at e
   exact qy (v:=fun k=>mn av (f k)) e⟩
 have K:fZ NO (NP tp ti) 30 (.fn 62) [.obj 4,.obj 7,.tup [.str (kN n),.obj (gG n),.sym 0]] (Cv n (EM n 0 ls) l) (Di true true) n9=true:=G
 refine am (Ct (f:=f) (hf:=hf) b W) ?_;intro b1 b2
 refine kj H (f:=f) (hf:=hf) (τ:=Cv n (EM n 0 ls) l) (D:=24) (isS:=NO) (sp:=NP tp ti) (n:=30) (i:=62) (w:=true) (b:=true) (l:=[.obj 4,.obj 7,.tup [.str (kN n),.obj (gG n),.sym 0]]) W P
  (aC W eb) (fun i o e=>?_) (fun i o e J=>?_) (fun o e=>⟨m4,e4,rfl⟩) (JI (H.lt f hf) C) AO hh ?_ K hk
 ·rcases yo e with ⟨rfl,rfl⟩|⟨rfl,rfl⟩|⟨e,_⟩
  ·exact⟨show 4<Nat.succ (gG n) by lia,X,Y,t1,u1,pl,Q,dr _ rfl⟩
  ·refine⟨f2 _,vs,I,EN (by refine aa M (aa N ?_);rfl) (fun i u e=>?_) rb⟩
   have li:i<m:=N▸(C7.mp e).1
   refine aa (ag _ (by lia)) (aa (show 10+(0+i) - 10=i by lia) (aa e ?_));rfl
  ·have lt:=(tR e).2
   exact⟨show i<Nat.succ (gG n) by lia,(b2 i o e).mono Later.refl (fun E E=>rfl) (show 1034<=Nat.succ (gG n) by lia) fun E e=>e⟩
 ·rcases yo e with ⟨rfl,rfl⟩|⟨rfl,rfl⟩|⟨e,_⟩
  ·exact absurd rfl J
  ·exact⟨yp (e5 _) J,fun E E z=>gR z rfl⟩
  ·have lt:=(tR e).2
   refine⟨yp (by lia) J,?_⟩
   exact(w0 (g:=g) (h:=s.heap) (U:=U) (n:=Z.nx) (a:=U i) (f:=g.nam) (hf:=g.hnam) e).2.2.1
 ·refine aA r ?_;clear r;rintro v1 q1 rfl S c;refine aA c ?_;clear c;rintro v2 q2 rfl r2 c;refine aA c ?_;clear c;rintro v3 q3 rfl B rfl;refine aA B ?_;clear B;rintro a ws rfl tt c;refine aA c ?_;clear c;rintro w1 p1 rfl s1 c;refine aA c ?_;clear c;rintro w2 p2 rfl s2 c;refine aA c ?_;clear c;rintro w3 p3 rfl s3 rfl
  exact⟨v1,_,rfl,⟨S.1,show 4<Nat.succ (gG n) by lia⟩,v2,_,rfl,⟨r2.1,show 7<Nat.succ (gG n) by lia⟩,_,_,rfl,⟨a,_,rfl,tt,w1,_,rfl,s1,w2,_,rfl,⟨s2.1,f2 _⟩,w3,_,rfl,s3.any,rfl⟩,rfl⟩
def CA (o:Option O) (k:Nat->Bool):Bool:=cM o fun o=>O.casesOn o ac ac aJ aJ ac false ac ac ac (fun n=>k n)
theorem CB {o:Option O} {k:Nat->Bool} {G:Prop} (h:CA o k=true) (K:∀n,o=some (.tab n)->k n=true->G):G:=by
 refine bS h ?_;clear h;rintro o rfl h
 cases o<;>first|(first|exact aS h|cases h);done|exact K _ rfl h
def Nd (w i:Nat) (l:List V) (Z:St) (k:K1):Bool:=CA (Z.get (jf 1032 w)) fun n=>af (c6 n 2) (cM (nw (n8 w) l []) fun a=>dR (qW w) mZ [(aq,i)] a [] Z k n9) false
def PZ (f:V):Bool:=V.casesOn f false ac ac ac ac ac ac (fun j=>c6 j 53) ac uc ac aJ
def P0 (f:V) (l:List V) (Z:St) (k:K1) (_:KX):Bool:=V.casesOn f false ac ac ac ac ac ac (fun j=>af (c6 j 53) (rV l Z k) false) ac (fun w i=>Nd w i l Z k) ac aJ
theorem JM {g:Gd} (H:Hd g):∀m,2<m->wP g PZ P0 m:=fun m z A F t l Z k x U s f y d v e h W P o r=>by
 cases t<;>first|(first|exact aS e|cases e);done|skip
 case fn j =>
  cases o
  refine ak (show af (c6 j 53) (rV l Z k) false=true from h) fun a c=>?_
  cases bz a
  exact qv H (cK (by lia) d) W P r c
 case clo w i =>
  refine CB (show Nd w i l Z k=true from h) fun n b a=>?_
  refine ak a fun c p=>?_
  refine bS p fun B q u=>?_
  replace b:=bz c▸b
  exact Cp H (cK (by lia) d) W P o r b q u
abbrev Hi:=List (Nat×Bool)
noncomputable def d7 (n:Nat):Nat:=jf 1036 (Nat.mul 5 n)
def vL:Nat->Hi->List (Nat×V)
 | _,[]=>[]
 | i,_::r=>(kN i,.obj (jf (d7 i) 2))::vL (i+1) r
def vw:Nat->Hi->List (Nat×V)
 | _,[]=>[]
 | i,_::r=>(kN i,.sym 0)::vw (i+1) r
def GI:Nat->Hi->List V
 | _,[]=>[]
 | i,p::r=>.tup [.str (kN i),.obj (gG i),.bool p.2]::GI (i+1) r
noncomputable def oa (m:Nat):List V:=@Nat.rec (fun b=>List V) [] (fun b a=>.sym 0::a) m
def GJ (q:Nat) (a:Bool):List (Nat×V):=[(ae,.sym 0),(ay,.obj q),(cz,.sym 0),(aw,.bool a),(aZ,.sym 0),(aR,.sym 0)]
def Ph (e nb:Nat):List (Nat×O):=[(d7 e,.lst (oa nb)),(jf (d7 e) 1,.dic (GJ (d7 e) true)),(jf (d7 e) 2,.ins bX (jf (d7 e) 1)),(gG e,.lst (oa nb))]
def Qy (c:Option (Nat×Nat)):List (Nat×O):=@Option.rec (Nat×Nat) (fun a=>List (Nat×O)) [] (fun p=>Ph p.1 p.2) c
def JN (h:Hi) (c:Option (Nat×Nat)) (l:List (Nat×V)):List (Nat×O):=(4,.sck l)::(15,.dic (fq++vL 0 h))::(1031,.dic (vw 0 h))::(1034,.lst (GI 0 h))::(1032,.tab 2)::(1033,.tab 2)::Qy c
def vx (h:Hi) (c:Option (Nat×Nat)) (l:List (Nat×V)):St:=⟨d7 (len h),JN h c l,1,jf (Nat.mul 4 (d7 (len h))) 2⟩
def isStr (v:V) (c:Nat):Bool:=V.casesOn v false ac ac (fun y=>c6 y c) ac ac ac ac ac aJ ac aJ
def GK (v:V):Bool:=V.casesOn v false ac ac (fun y=>af (c6 y 1) true (c6 y av)) ac ac ac ac ac aJ ac aJ
def GL (v:V) (k:Nat):Bool:=V.casesOn v false ac ac ac ac ac ac ac ac aJ ac (fun w j=>af (c6 w 0) (c6 j k) false)
def P8 (n j:Nat) (v:V):Bool:=bL v fun l=>De l fun a b c=>af (isStr a (vn n j)) (af (GK b) (GL c (jf 10 j)) false) false
def JO (n:Nat) (l:List V):Nat->Bool:=@List.rec V (fun b=>Nat->Bool) ge (fun v b a j=>af (P8 n j v) (a (Nat.succ j)) false) l
def GM (o:Option O) (k:Nat->Bool):Bool:=xc o fun c d=>af (c6 c bX) (k d) false
def decB (l:List (Nat×V)) (k:Nat->Bool->Bool):Bool:=af (keysAre [ae,ay,cz,aw,aZ,aR] l) (cM (az ay l) fun p=>db p fun q=>cM (az aw l) fun a=>fB a fun t=>k q t) false
where keysAre (ks:List Nat):List (Nat×V)->Bool:=@List.rec Nat (fun u_=>List (Nat×V)->Bool) wZ (fun k u_ ih l=>@List.rec (Nat×V) (fun u_=>Bool) false (fun p r u_=>af (c6 p.1 k) (ih r) false) l) ks
def tW (f:V->V->Bool) (pre:List (Nat×V)) (c:Nat) (k:V->Bool):List (Nat×V)->Bool:=@List.rec (Nat×V) (fun a=>List (Nat×V)->Bool) (fun l=>@List.rec (Nat×V) (fun a=>Bool) false (fun p r a=>af (c6 p.1 c) (af (wZ r) (k p.2) false) false) l)
 (fun p a b l=>@List.rec (Nat×V) (fun a=>Bool) false (fun q r a=>af (c6 p.1 q.1) (af (f p.2 q.2) (b r) false) false) l) pre
def Nf (τ:St) (u b:Nat) (tt:Bool) (bl:List V) (v:V):Bool:=db v fun i=>GM (τ.get i) fun d=>eP (τ.get d) fun a=>decB a fun q c=>af (Dg c tt) (gh (τ.get q) fun e=>af (c6 (len e) (len bl))
 (af (s0 (τ.get 4)) (af (eL u q) (af (eL u d) (af (eL u i) (af (eL u b) (not (c6 q b)) false) false) false) false) false) false) false
def Ng (n u:Nat) (p15 p31:List (Nat×V)) (a:V) (τ:St):Bool:=bL a fun l=>yB l fun x y=>fB x fun c=>af c (bL y fun q=>De q fun nm g h=>af (isStr nm (kN n)) (db g fun b=>fB h fun t=>gh (τ.get b) fun f=>af (JO n f 0) (af (eL (len f) 2)
 (eP (τ.get 15) fun e=>tW yl p15 (kN n) (fun v=>af (Nf τ u b t f v) (eP (τ.get 1031) fun d=>tW uc p31 (kN n) ge d) false) e) false) false) false) false
def tX (h:Hi) (c:Option (Nat×Nat)) (l:List (Nat×V)):Bool:=fZ PZ P0 34 (.fn 61) [.obj 4,.obj 7,.str (kN (len h)),.obj 1034] (vx h c l) (Ng (len h) (d7 (len h)) (fq++vL 0 h) (vw 0 h)) n9
noncomputable def KW (c:Nat) (t:DT):Nat->DT:=@Nat.rec (fun b=>Nat->DT) (fun b=>t) (fun b a k=>.l3 k (.z 4 (a (Nat.succ k)) (a (Nat.succ k)))) c
noncomputable def preT:DT:=.n 3 fun a=>KW a (.z 3 (.e a) (.e a)) 10
noncomputable def zG (m lab q:Nat):DT:=@Nat.rec (fun a=>DT) (.e lab) (fun a b=>.n m fun a=>b) q
def vy:Nat->Hi->List (Nat×Nat)
 | _,[]=>[]
 | i,p::r=>af p.2 ((i,p.1)::vy (i+1) r) (vy (i+1) r)
noncomputable def gF (h:Hi):Hi:=h.map fun p=>(0,p.2)
def ER (h:Hi):Bool:=preT.all fun a l=>tX h none l
def vz (h:Hi):Bool:=preT.all fun a l=>tX h none (l++[(3,.int 0)])
def kG (h:Hi) (c j e q:Nat):Bool:=preT.all fun b l=>(zG (Nat.succ b) (Nat.succ j) q).all fun d a=>tX h (some (e,q)) (l++(3,.ab 4 0)::(c,.int j)::a)
def DT.bind (t:DT) (k:Nat->DT):DT:=@DT.rec (fun d=>DT) (fun c=>k c) (fun t d e=>.n t e) (fun t d d a b=>.z t a b) (fun k d a=>.l3 k a) (fun k d d a b=>.l6 k a b) t
theorem qz {p q:Nat->Bool} (h:∀d,p d=q d) (n:Nat):jV n p=jV n q:=by refine aa (show p=q from funext h) ?_;rfl
theorem DT.all_bind {k:Nat->DT} (t:DT):∀{p:Nat->List (Nat×V)->Bool},(t.bind k).all p=t.all fun c l=>(k c).all fun c' l'=>p c' (l++l'):=by
 induction t with
 | e c=>intro p;rfl
 | n t f i=>intro p;exact qz (fun d=>i d) t
 | z t a b g h=>intro p;show af ((a.bind k).all _) ((b.bind k).all _) false=_;exact aa g (aa h rfl)
 | l3 j a g=>intro p;exact g
 | l6 j a b g h=>intro p;show af ((a.bind k).all _) ((b.bind k).all _) false=_;exact aa g (aa h rfl)
theorem bf {a b:Bool} (h1:a=true) (h2:b=true):af a b false=true:=by exact aa h1 (aa h2 rfl)
theorem gP {p:Nat->Bool}:∀{n:Nat},(∀m,m<n->p m=true)->jV n p=true
 | 0,_=>rfl
 | n+1,h=>bf (h n (f2 n)) (gP fun m hm=>h m (vb hm))
theorem DT.all_mono (t:DT):∀{p q:Nat->List (Nat×V)->Bool},(∀c l,p c l=true->q c l=true)->t.all p=true->t.all q=true:=by
 induction t with
 | e c=>exact fun h=>h c []
 | n t f j=>exact fun h e=>gP fun d m=>j d (fun c l=>h c _) (fL e d m)
 | z t a b g i=>exact fun h e=>bf (g (fun c l=>h c _) (cb e).1) (i (fun c l=>h c _) (cb e).2)
 | l3 k a g=>exact fun h e=>g (fun c l=>h c _) e
 | l6 k a b g i=>exact fun h e=>bf (g (fun c l=>h c _) (cb e).1) (i (fun c l=>h c _) (cb e).2)
theorem DT.all_and (t:DT):∀{p q:Nat->List (Nat×V)->Bool},t.all p=true->t.all q=true->t.all (fun c l=>af (p c l) (q c l) false)=true:=by
 induction t with
 | e c=>exact fun h g=>bf h g
 | n t f o=>exact fun h g=>gP fun d m=>o d (fL h d m) (fL g d m)
 | z t a b i j=>exact fun h g=>bf (i (cb h).1 (cb g).1) (j (cb h).2 (cb g).2)
 | l3 k a i=>exact fun h g=>i h g
 | l6 k a b i j=>exact fun h g=>bf (i (cb h).1 (cb g).1) (j (cb h).2 (cb g).2)
theorem DT.all_true (t:DT):t.all (fun u_ u_=>true)=true:=by
 induction t with
 | e c=>rfl
 | n t f i=>exact gP fun d u_=>i d
 | z t a b g h=>exact bf g h
 | l3 k a g=>exact g
 | l6 k a b g h=>exact bf g h
theorem DT.all_allN (t:DT) {q:Nat->Nat->List (Nat×V)->Bool}:∀{m:Nat},(∀j,j<m->t.all (fun c l=>q j c l)=true)->t.all (fun c l=>jV m fun j=>q j c l)=true
 | 0,_=>t.all_true
 | m+1,h=>t.all_and (h m (f2 m)) (DT.all_allN t fun j hj=>h j (vb hj))
theorem DT.wf_bind {k:Nat->DT} (hk:∀c j,(k c).wf j=true) (t:DT):∀{j:Nat},t.wf j=true->(t.bind k).wf j=true:=by
 induction t with
 | e c=>exact fun o=>hk c _
 | n t f l=>exact fun h=>bf (cb h).1 (gP fun d m=>l d (fL (cb h).2 d m))
 | z t a b g i=>exact fun h=>bf (cb h).1 (bf (g (cb (cb h).2).1) (i (cb (cb h).2).2))
 | l3 k a g=>exact fun h=>bf (cb h).1 (g (cb h).2)
 | l6 k a b g i=>exact fun h=>bf (cb h).1 (bf (g (cb (cb h).2).1) (i (cb (cb h).2).2))
theorem ET {m lab q:Nat} {p:Nat->List (Nat×V)->Bool}:(zG m lab q).all p=(zG m lab q).all fun u_ l=>p lab l:=by
 induction q generalizing p with
 | zero=>rfl
 | succ q a=>exact qz (fun d=>a) m
theorem JP {m lab q j:Nat} (h:Cc m=true):(zG m lab q).wf j=true:=by
 induction q with
 | zero=>rfl
 | succ q a=>exact bf h (gP fun b b=>a)
def P9 (L:List (Nat×Nat)) (nb:Nat):DT:=@List.rec (Nat×Nat) (fun a=>DT) (.e 0) (fun a a a=>.z 3 (.e 0) (.n L.length fun j=>zG (Nat.succ (Nat.min nb 2)) (Nat.succ j) ((L[j]?).getD (0,0)).2)) L
theorem CD {p:Nat×Nat} {L:List (Nat×Nat)} {nb:Nat} {r:Nat->List (Nat×V)->Bool}:(P9 (p::L) nb).all r =
  af (r 0 [(3,.int 0)]) (jV (p::L).length fun j=>(zG (Nat.succ (Nat.min nb 2)) (Nat.succ j) (((p::L)[j]?).getD (0,0)).2).all fun lab l=>r lab ((3,.ab 4 0)::((p::L).length,.int j)::l)) false:=rfl
def EU (h:Hi):DT:=preT.bind (P9 (vy 0 h))
def JQ (h:Hi) (lab:Nat):Option (Nat×Nat):=@Nat.rec (fun a=>Option (Nat×Nat)) none (fun j a=>(vy 0 h)[j]?) lab
structure RunB (h:Hi):Prop where
 n:vy 0 h=[]->ER (gF h)=true
 n0:vy 0 h≠[]->vz (gF h)=true
 c:∀j e q,(vy 0 h)[j]?=some (e,q)->kG (gF h) (vy 0 h).length j e q=true
theorem CE {p:Nat->List (Nat×V)->Bool} (h:preT.all p=true):preT.all (fun nb l=>af (eL nb 2) (p nb l) false)=true:=by
 have f:∀nb,nb<=2->∀c k {r:Nat->List (Nat×V)->Bool},(KW c (.z 3 (.e nb) (.e nb)) k).all r=true->(KW c (.z 3 (.e nb) (.e nb)) k).all (fun n l=>af (eL n 2) (r n l) false)=true:=by
  intro nb d c
  have e:eL nb 2=true:=iw d
  induction c with
  | zero=>exact fun k r h=>bf (bf e (cb h).1) (bf e (cb h).2)
  | succ c b=>exact fun k r h=>bf (b (k+1) (cb (show af ((KW c (.z 3 (.e nb) (.e nb)) (k+1)).all _) _ false=true from h)).1) (b (k+1) (cb (show af ((KW c (.z 3 (.e nb) (.e nb)) (k+1)).all _) _ false=true from h)).2)
 exact gP fun nb a=>f nb (by lia) nb 10 (fL (show jV 3 (fun nb=>(KW nb (.z 3 (.e nb) (.e nb)) 10).all fun c l=>p c ((3,.int nb)::l))=true from h) nb a)
theorem CF {h:Hi} (hl:(vy 0 h).length<=2) (RB:RunB h):(EU h).all (fun lab l=>tX (gF h) (JQ h lab) l)=true:=by
 unfold EU
 refine aa (DT.all_bind _) ?_
 induction d:vy 0 h using fV with
 | nil =>
  refine DT.all_mono _ (fun c l e=>?_) (RB.n d)
  show tX (gF h) (JQ h 0) (l++[])=true
  exact aa (sz _) e
 | cons b L =>
  have i:vy 0 h≠[]:=by exact aa d (List.cons_ne_nil _ _)
  have s:=RB.n0 i
  have m:∀j,j<(b::L).length->preT.all (fun a l=>(zG (Nat.succ (Nat.min a 2)) (Nat.succ j) (((b::L)[j]?).getD (0,0)).2).all fun lab f=>tX (gF h) (JQ h lab) (l++((3,.ab 4 0)::((b::L).length,.int j)::f)))=true:=by
   intro j t
   obtain⟨e,q,g⟩:∃e q,(b::L)[j]?=some (e,q):=⟨_,_,List.getElem?_eq_getElem t⟩
   have:=RB.c j e q (d▸g)
   refine DT.all_mono _ (fun a l z=>?_) (CE this)
   refine ak z fun k v=>?_
   have k:=bY k
   refine aa ET (aa g (aa (show Nat.min a 2=a from Nat.min_eq_left k) ?_))
   have r:JQ h (Nat.succ j)=some (e,q):=by show(vy 0 h)[j]?=_;exact aa d g
   refine aa r (bw d ?_)
   exact v
  have o:preT.all (fun w l=>tX (gF h) none (l++[(3,.int 0)]))=true:=s
  generalize hp:tX (gF h)=B at m o ⊢
  have u:=DT.all_allN preT (q:=fun j a l=>(zG (Nat.succ (Nat.min a 2)) (Nat.succ j) (((b::L)[j]?).getD (0,0)).2).all fun lab f=>B (JQ h lab) (l++((3,.ab 4 0)::((b::L).length,.int j)::f))) m
  have p:=DT.all_and preT o u
  refine DT.all_mono preT (fun c l z=>?_) p
  refine aa CD ?_
  exact z
theorem EV:preT.wf 0=true:=by kernel_rfl
theorem EW {h:Hi} (hl:(vy 0 h).length<=2):(EU h).wf 0=true:=by
 refine DT.wf_bind (fun c j=>?_) _ EV
 induction b:vy 0 h using fV with
 | nil=>rfl
 | cons p L =>
  have a:Cc (p::L).length=true:=bf (iw (Nat.succ_pos _)) (iw (by replace hl:=b▸hl;lia))
  have d:Cc (Nat.succ (Nat.min c 2))=true:=bf (iw (Nat.succ_pos _)) (iw (by have:Nat.min c 2<=2:=Nat.min_le_right _ _;lia))
  show af (Cc 3) (af true (af (Cc (p::L).length) (jV (p::L).length fun i=>(zG (Nat.succ (Nat.min c 2)) (Nat.succ i) (((p::L)[i]?).getD (0,0)).2).wf j) false) false) false=true
  exact bf rfl (bf rfl (bf a (gP fun i e=>JP d)))
section
theorem hG {n:Nat}:d7 n=1036+5*n:=rfl
theorem tY {n:Nat}:gG n=1039+5*n:=rfl
theorem tZ:∀{h:Hi} {i:Nat},vL i (gF h)=vL i h
 | [],_=>rfl
 | _::r,i=>congrArg (List.cons _) tZ
theorem t0:∀{h:Hi} {i:Nat},vw i (gF h)=vw i h
 | [],_=>rfl
 | _::r,i=>congrArg (List.cons _) t0
theorem yq:∀{h:Hi} {i:Nat},GI i (gF h)=GI i h
 | [],_=>rfl
 | _::r,i=>congrArg (List.cons _) yq
theorem oJ {h:Hi}:len (gF h)=h.length:=by exact aa (bB _) (jb ..)
theorem w8:∀{h:Hi} {i j e q:Nat},(vy i h)[j]?=some (e,q)->i<=e/\h[e - i]?=some (q,true)
 | [],_,_,_,_,z=>by exact bj z
 | (a,true)::r,i,0,e,q,z=>by cases z;exact⟨e5 _,aa (Nat.sub_self _) rfl⟩
 | (a,true)::r,i,j+1,e,q,z=>by
  refine am (w8 (h:=r) (i:=i+1) (j:=j) z) fun c b=>?_
  exact⟨by lia,by refine aa (K4 (show i+1<=e by lia)) ?_;exact b⟩
 | (a,false)::r,i,j,e,q,z=>by
  refine am (w8 (h:=r) (i:=i+1) (j:=j) z) fun c b=>?_
  exact⟨by lia,by refine aa (K4 (show i+1<=e by lia)) ?_;exact b⟩
theorem oK:∀{h:Hi} {i:Nat},(vy i h).length<=h.length
 | [],_=>e5 _
 | (a,true)::r,i=>Nat.succ_le_succ (oK (h:=r))
 | (a,false)::r,i=>Nat.le_succ_of_le (oK (h:=r))
theorem JR {h:Hi} {lab e q:Nat} (z:JQ h lab=some (e,q)):h[e]?=some (q,true):=by
 induction lab using jq with
 | zero=>exact bj z
 | succ j=>exact(w8 (show(vy 0 h)[j]?=some (e,q) from z)).2
structure LawSt (Z:St) (h:Hi):Prop where
 nx:Z.nx=d7 h.length
 e4:Z.get 4=some (.sck [])
 mt:Z.mut 4=true/\Z.mut 15=true/\Z.mut 1031=true
 tr:Z.tr=1
 ky:Cq Z.ob=true
 e15:Z.get 15=some (.dic (fq++vL 0 h))
 e31:Z.get 1031=some (.dic (vw 0 h))
 e34:Z.get 1034=some (.lst (GI 0 h))
 e32:Z.get 1032=some (.tab 2)
 e33:Z.get 1033=some (.tab 2)
 el:∀i p,h[i]?=some p->p.1<=2/\Z.get (d7 i)=some (.lst (oa p.1))/\Z.get (d7 i+1)=some (.dic (GJ (d7 i) p.2))/\Z.get (d7 i+2)=some (.ins bX (d7 i+1))/\Z.get (gG i)=some (.cho (3*i+p.1))
theorem jX {m:Nat}:∀{a b:List (Nat×V)},cJ m a=true->cJ m b=true->cJ m (a++b)=true
 | [],_,_,h=>h
 | p::a,b,h,h'=>bf (cb h).1 (jX (cb h).2 h')
mutual
theorem yr {m n:Nat} (hmn:m<=n):∀{v:V},iD m v=true->iD n v=true
 | .none,h=>h
 | .bool _,h=>h
 | .int _,h=>h
 | .str _,h=>h
 | .byt _,h=>h
 | .tup l,h=>yt hmn (show qq m l=true from h)
 | .obj k,h=>iw (hD (bY (show eL (k+1) m=true from h)) hmn)
 | .fn _,h=>h
 | .cls _,h=>h
 | .clo w i,h=>by
  refine ak (show af (l9 i m) (l9 (jf 1032 w) m) false=true from h) fun a b=>?_
  exact bf (iw (hD (bY a) hmn)) (iw (hD (bY b) hmn))
 | .sym _,h=>h
 | .ab _ _,h=>h
theorem yt {m n:Nat} (hmn:m<=n):∀{l:List V},qq m l=true->qq n l=true
 | [],h=>h
 | a::l,h=>bf (yr hmn (cb (show af (iD m a) (qq m l) false=true from h)).1) (yt hmn (cb (show af (iD m a) (qq m l) false=true from h)).2)
end
theorem k9 {m n:Nat} (hmn:m<=n):∀{l:List (Nat×V)},cJ m l=true->cJ n l=true
 | [],h=>h
 | p::l,h=>bf (yr hmn (cb h).1) (k9 hmn (cb h).2)
theorem t5 {a b:Nat} (h:a<b):l9 a b=true:=iw h
theorem t7 {m:Nat}:∀{h:Hi} {i:Nat},d7 (i+h.length)<=m->cJ m (vL i h)=true
 | [],_,_=>rfl
 | p::r,i,a=>by
  replace a:=hG▸l7▸a
  exact bf (t5 (show d7 i+2<m by refine aa hG ?_;lia)) (t7 (h:=r) (by refine aa hG ?_;lia))
theorem yu {m:Nat}:∀{h:Hi} {i:Nat},cJ m (vw i h)=true
 | [],_=>rfl
 | p::r,i=>bf rfl (yu (h:=r))
theorem yv {m:Nat}:∀{h:Hi} {i:Nat},d7 (i+h.length)<=m->qq m (GI i h)=true
 | [],_,_=>rfl
 | p::r,i,a=>by
  replace a:=hG▸l7▸a
  exact bf (bf rfl (bf (t5 (show gG i<m by refine aa tY ?_;lia)) (bf rfl rfl))) (yv (h:=r) (by refine aa hG ?_;lia))
theorem vA {m:Nat}:∀{q:Nat},qq m (oa q)=true
 | 0=>rfl
 | q+1=>bf rfl (vA (q:=q))
theorem CG:∀{q:Nat},(oa q).length=q
 | 0=>rfl
 | q+1=>congrArg Nat.succ CG
theorem qA {α:Type}:∀{l:List α},l.map (fun u_=>V.sym 0)=oa l.length
 | []=>rfl
 | _::l=>congrArg (List.cons _) qA
inductive BegEl (e q i:Nat) (o:O):Prop
 | k0 (z:d7 e=i) (w:.lst (oa q)=o)
 | k1 (z:d7 e+1=i) (w:.dic (GJ (d7 e) true)=o)
 | k2 (z:d7 e+2=i) (w:.ins bX (d7 e+1)=o)
 | k3 (z:gG e=i) (w:.lst (oa q)=o)
inductive BegO (h:Hi) (c:Option (Nat×Nat)) (l:List (Nat×V)) (i:Nat) (o:O):Prop
 | k0 (z:4=i) (w:.sck l=o)
 | k1 (z:15=i) (w:.dic (fq++vL 0 h)=o)
 | k2 (z:1031=i) (w:.dic (vw 0 h)=o)
 | k3 (z:1034=i) (w:.lst (GI 0 h)=o)
 | k4 (z:1032=i) (w:.tab 2=o)
 | k5 (z:1033=i) (w:.tab 2=o)
 | k6 (e q:Nat) (ec:c=some (e,q)) (he:BegEl e q i o)
 | k7 (z:trC.get i=some o) (n4:i≠4) (n15:i≠15) (n31:i≠1031)
section
variable {g:Gd} {s:ce} {U:Nat->Addr} {Z:St} {h:Hi} {f:Nat->Nat} {hf:∀k,f k∈nm6} {c:Option (Nat×Nat)} {l:List (Nat×V)}
theorem vB {i:Nat} {o:O} (e:(vx (gF h) c l).get i=some o):BegO h c l i o:=by
 have e:KS (su 1 i) (az i (JN (gF h) c l))=some o:=e
 unfold JN at e
 replace e:=yq▸t0▸tZ▸e
 refine kB e .k0 fun k e=>kB e .k1 fun j e=>kB e .k2 fun g e=>kB e .k3 fun d e=>kB e .k4 fun d e=>kB e .k5 fun d e=>?_
 have f:su 1 i=some o->BegO h c l i o:=fun e=>.k7 e (Ne.symm k) (Ne.symm j) (Ne.symm g)
 induction c using cN with
 | none=>exact f e
 | some p =>
  have e:KS (su 1 i) (az i (Ph p.1 p.2))=some o:=e
  unfold Ph at e
  exact kB e (fun a b=>.k6 _ _ rfl (.k0 a b)) fun d e=>kB e (fun a b=>.k6 _ _ rfl (.k1 a b)) fun d e=>kB e (fun a b=>.k6 _ _ rfl (.k2 a b)) fun d e=>kB e (fun a b=>.k6 _ _ rfl (.k3 a b)) fun d e=>f e
theorem CH {i:Nat} (hi:i<d7 h.length) (h4:i≠4) (h15:i≠15) (h31:i≠1031):(vx (gF h) c l).mut i=false:=by
 show Hc (jf (Nat.mul 4 (d7 (len (gF h)))) 2) i=false
 refine aa oJ ?_
 unfold Hc
 cases c6 i 0 with
 | true=>rfl
 | false =>
  have a:Nat.div (jf (Nat.mul 4 (d7 h.length)) 2) 4=d7 h.length:=by show(4*d7 h.length+2) / 4=_;exact K5
  have b:Nat.mod (jf (Nat.mul 4 (d7 h.length)) 2) 4=2:=by show(4*d7 h.length+2)%4=2;lia
  refine aa a (aa b (aa (bG h4) (aa (bG h15) (aa (bG h31) ?_))))
  have:eL (d7 h.length) i=false:=by
   induction q:eL (d7 h.length) i using dI with
   | false=>rfl
   | true=>have:=bY q;lia
  exact aa this rfl
end
end
theorem EX {m q:Nat} {a:Bool} (h:q<m):cJ m (GJ q a)=true:=by
 show af (l9 q m) true false=true
 exact aa (t5 h) rfl
section
variable {g:Gd} {s:ce} {U:Nat->Addr} {Z:St} {h:Hi} {f:Nat->Nat} {hf:∀k,f k∈nm6} {c:Option (Nat×Nat)} {l:List (Nat×V)}
theorem LawSt.tree (S:LawSt Z h) {i:Nat} {o:O} (e:trC.get i=some o) (h15:i≠15) (h31:i≠1031):Z.get i=some o:=by
 refine cE (jW e) fun a b c=>?_
 exact(yn S.tr (m8 a (by lia) h15 S.ky)).trans e
theorem zH (S:LawSt Z h) (W:R g Z U s.heap) (hc:∀e q,c=some (e,q)->h[e]?=some (q,true)) {X Y:Int} {t u:Tok} (pl:s.heap.PlainList (U 4) #[.int X t,.int Y u]) (so:gB X Y) (dr:q7 (g.lt f hf) l X Y) :
  R (g.lt f hf) (vx (gF h) c l) U s.heap:=by
 have m:(vx (gF h) c l).nx=d7 h.length:=by show d7 (len (gF h))=_;refine aa oJ ?_;rfl
 have d:∀{i o},Z.get i=some o->BJ (d7 h.length) o=true->i<d7 h.length/\OR (g.lt f hf) s.heap U (d7 h.length) (U i) o:=fun e k=>⟨S.nx▸aC W e,(aB W e).cut k⟩
 have u0:1036<=d7 h.length:=t6 _ _
 refine R.view W (by refine aa m (aa S.nx ?_);exact e5 _) fun i o P=>?_
 refine aa m ?_
 cases vB P with
 | k0 z w=>subst z w;exact⟨by lia,X,Y,t,u,pl,so,dr⟩
 | k1 z w=>subst z w;exact d S.e15 (jX (k9 (by lia) km) (t7 (by refine aa (Nat.zero_add _) ?_;exact e5 _)))
 | k2 z w=>subst z w;exact d S.e31 yu
 | k3 z w=>subst z w;exact d S.e34 (yv (by refine aa (Nat.zero_add _) ?_;exact e5 _))
 | k4 z w=>subst z w;exact d S.e32 rfl
 | k5 z w=>subst z w;exact d S.e33 rfl
 | k6 e q ec H =>
  have A:=hc e q ec
  have le:=(C7.mp A).1
  refine GT (S.el e _ A) ?_;intro hq L E M y
  have lu:d7 e+5<=d7 h.length:=by refine aa hG (aa hG ?_);lia
  cases H with
  | k0 z w=>subst z w;exact d L vA
  | k1 z w=>subst z w;exact d E (EX (by lia))
  | k2 z w=>subst z w;exact d M (t5 (show d7 e+1<d7 h.length by lia))
  | k3 z w =>
   subst z w
   refine aA (aB W y) ?_;intro G J j p r
   have j:G∈KM ((3*e+q) / 3) ((3*e+q)%3):=j
   rw[HE (by lia),HF (by lia)] at j
   refine qH (Cy (by lia) j) ?_;rintro K n a5 C F N rfl
   refine⟨S.nx▸aC W y,J,p,?_⟩
   have I:(GH e 0 K n).length=q:=by refine aa (bVs_len (by refine aa C (aa F ?_);rfl)) (aa C ?_);rfl
   refine bw I (bw qA ?_)
   exact r.to_sym
 | k7 e n4 v x =>
  refine oM (jW e) ?_;intro a b k Q
  exact⟨by lia,((aB W (S.tree e v x)).cut k).mono Later.refl (fun B B=>rfl) (by lia) fun B e=>e⟩
where bVs_len:∀{n j:Nat} {ls ups:List Nat},ups.length=ls.length->(GH n j ls ups).length=ls.length
 | _,_,[],[],_=>rfl
 | _,_,_::r,_::q,h=>congrArg Nat.succ (bVs_len (by simpa using h))
 | _,_,[],_::_,h=>by cases h
 | _,_,_::_,[],h=>by cases h
theorem mo {v:V} {c:Nat} (h:isStr v c=true):v=.str c:=by cases v<;>first|(first|exact aS h|cases h);done|exact congrArg V.str (bz h)
theorem CI {v:V} (h:GK v=true):∃lo,v=.str lo/\lo∈los:=by
 cases v<;>first|(first|exact aS h|cases h);done|skip
 case str y =>
  refine⟨y,rfl,?_⟩
  have h:af (c6 y 1) true (c6 y av)=true:=h
  unfold los
  induction q:c6 y 1 using dI with
  | true=>exact aa (bz q) (.head _)
  | false=>replace h:=q▸h;exact aa (bz (show c6 y av=true from h)) (.tail _ (.head _))
theorem CJ {v:V} {k:Nat} (h:GL v k=true):v=.ab 0 k:=by
 cases v<;>first|(first|exact aS h|cases h);done|skip
 case ab w j =>
  refine ak (show af (c6 w 0) (c6 j k) false=true from h) fun b a=>?_
  exact aa (bz b) (aa (bz a) rfl)
theorem yw {n:Nat}:∀{l:List V} {j:Nat},JO n l j=true->∃ls,(∀x∈ls,x∈los)/\l=EM n j ls
 | [],_,_=>⟨[],fun u_ m=>(by cases m),rfl⟩
 | v::l,j,h=>by
  refine ak (show af (P8 n j v) (JO n l (Nat.succ j)) false=true from h) fun h1 h2=>?_
  refine fg h1 ?_;rintro q rfl h3
  refine sT h3 ?_;rintro a b c rfl h4
  refine ak h4 fun h5 h6=>?_
  refine ak h6 fun h7 h8=>?_
  refine ai (CI h7) ?_;rintro lo rfl hlo
  refine ai (yw h2) ?_;rintro ls hl rfl
  refine aa (mo h5) (aa (CJ h8) ?_)
  refine⟨lo::ls,fun x m=>?_,rfl⟩
  rcases gg.mp m with rfl|m
  ·exact hlo
  ·exact hl x m
noncomputable def NR (f:Nat->Nat):Nat->List Nat->List Nat
 | _,[]=>[]
 | j,_::r=>f (10+j)::NR f (j+1) r
theorem t8 {n:Nat}:∀{ls:List Nat} {j:Nat},(EM n j ls).length=ls.length
 | [],_=>rfl
 | _::r,j=>congrArg Nat.succ t8
theorem yx {h':Heap} {U':Nat->Addr} {n n' m:Nat} {h:Heap} {U:Nat->Addr} (L:Later h h'):∀{ls:List Nat} {j:Nat} {vs:List bo},VRs (g.lt f hf) h U n' (EM n j ls) vs->VRs g h' U' m (GH n j ls (NR f j ls)) vs
 | [],_,_,e=>e
 | lo::ls,j,_,r=>by
  refine aA r fun v q e r b=>?_
  refine aA r fun a vs e1 t zqr=>?_;refine aA zqr fun v1 q1 e2 r1 zqr=>?_;refine aA zqr fun v2 q2 e3 r2 zqr=>?_;refine aA zqr fun v3 q3 e4 x e6=>?_
  exact⟨v,q,e,⟨a,vs,e1,f8 L t,v1,q1,e2,r1,v2,q2,e3,r2,v3,q3,e4,x,e6⟩,yx L b⟩
theorem EY {n:Nat} (hf:∀k,f k∈nm6):∀{ls:List Nat},ls.length<=2->(∀x∈ls,x∈los)->GH n 0 ls (NR f 0 ls)∈KM n ls.length
 | [],_,_=>List.mem_singleton.mpr rfl
 | [a],_,h=>by
  show _∈los.flatMap fun lo=>nm6.map fun up=>[bV n 0 lo up]
  exact E7.mpr ⟨a,h a (.head _),mc.mpr ⟨_,hf _,rfl⟩⟩
 | [a,b],_,h=>by
  show _∈los.flatMap fun lo=>nm6.flatMap fun up=>los.flatMap fun lo'=>nm6.map fun up'=>[bV n 0 lo up,bV n 1 lo' up']
  exact E7.mpr ⟨a,h a (.head _),E7.mpr ⟨_,hf _,E7.mpr ⟨b,h b (.tail _ (.head _)),mc.mpr ⟨_,hf _,rfl⟩⟩⟩⟩
 | _::_::_::_,h,_=>by simp only[l7] at h;lia
theorem m9 {F:V->V->Bool} {c:Nat} {k:V->Bool}:∀{pre l:List (Nat×V)},tW F pre c k l=true->∃q v,l=q++[(c,v)]/\k v=true/\q.length=pre.length/\∀(i:Nat) (p r:Nat×V),pre[i]?=some p->q[i]?=some r->p.1=r.1/\F p.2 r.2=true
 | [],[],h=>by exact aS h
 | [],p::r,h=>by
  refine ak (show af (c6 p.1 c) (af (wZ r) (k p.2) false) false=true from h) fun h1 h2=>?_
  refine ak h2 fun h3 h4=>?_
  refine aa (mi h3) ?_
  exact⟨[],p.2,bw (bz h1) rfl,h4,rfl,fun i p r e=>by exact bj e⟩
 | p::pre,[],h=>by exact aS h
 | p::pre,r::l,h=>by
  refine ak (show af (c6 p.1 r.1) (af (F p.2 r.2) (tW F pre c k l) false) false=true from h) fun h1 h2=>?_
  refine ak h2 fun h3 h4=>?_
  refine iE (m9 h4) ?_;rintro q v rfl hv hl hr
  refine⟨r::q,v,rfl,hv,congrArg Nat.succ hl,fun i p' r' e e'=>?_⟩
  induction i using jq with
  | zero=>cases e;cases e';exact⟨bz h1,h3⟩
  | succ i=>exact hr i p' r' e e'
theorem vC {a b:List (Nat×V)} (hl:b.length=a.length) (h:∀(i:Nat) (p r:Nat×V),a[i]?=some p->b[i]?=some r->p=r):b=a:=by
 refine List.ext_getElem? fun i=>?_
 induction q:a[i]? using cN with
 | none=>rw[List.getElem?_eq_none_iff] at q ⊢;lia
 | some p =>
  have c:=(C7.mp q).1
  have:b[i]?=some (b[i]'(by lia)):=List.getElem?_eq_getElem (by lia)
  exact aa this (aa (h i p _ q this) rfl)
theorem ERs.conv {g1 g2:Gd} {h1 h2:Heap} {U1 U2:Nat->Addr} {n1 n2:Nat} {φ:Nat×V->V} {l:List (Nat×V)} {kvs:List (Str×bo)} (r:ERs g1 h1 U1 n1 l kvs) (k:∀p v,p∈l->VR g1 h1 U1 n1 p.2 v->VR g2 h2 U2 n2 (φ p) v):ERs g2 h2 U2 n2 (l.map fun p=>(p.1,φ p)) kvs:=by
 revert k;refine r.ind (fun _=>rfl) fun a b _ c k=>?_
 exact⟨_,_,_,rfl,a,k _ _ (.head _) b,c fun p v m=>k p v (.tail _ m)⟩
end
def Pj (Z:St) (h:Hi) (nb:Nat) (a:Bool):List (Nat×O):=@St.rec (fun b=>List (Nat×O)) (fun b c b b=>(15,.dic (fq++vL 0 h++[(kN h.length,.obj (d7 h.length+2))]))::(1031,.dic (vw 0 h++[(kN h.length,.sym 0)]))::(d7 h.length,.lst (oa nb)) ::
 (d7 h.length+1,.dic (GJ (d7 h.length) a))::(d7 h.length+2,.ins bX (d7 h.length+1))::(gG h.length,.cho (3*h.length+nb))::c) Z
def mr (Z:St) (h:Hi) (nb:Nat) (a:Bool):St:=@St.rec (fun d=>St) (fun d e c b=>⟨d7 h.length+4,Pj Z h nb a,c,b⟩) Z
theorem EZ {Z:St} {h:Hi} {nb u:Nat} {a:Bool} {j:Nat} {o:O} {G:Prop} (hu:d7 h.length=u) (e:(mr Z h nb a).get j=some o) (k1:15=j->.dic (fq++vL 0 h++[(kN h.length,.obj (u+2))])=o->G) (k2:1031=j->.dic (vw 0 h++[(kN h.length,.sym 0)])=o->G)
  (k3:u=j->.lst (oa nb)=o->G) (k4:u+1=j->.dic (GJ u a)=o->G) (k5:u+2=j->.ins bX (u+1)=o->G) (k6:u+3=j->.cho (3*h.length+nb)=o->G)
  (k7:15≠j->1031≠j->Z.get j=some o->G):G:=by
 obtain⟨i,c,g,k⟩:=Z
 subst hu
 have e:KS (su g j) (az j (_::_::_::_::_::(gG h.length,_)::c))=some o:=e
 exact kB e k1 fun f e=>kB e k2 fun d e=>kB e k3 fun b e=>kB e k4 fun b e=>kB e k5 fun b e=>kB e (fun z=>k6 (by refine bw z (aa tY (aa hG ?_));lia)) fun b e=>k7 f d e
theorem zJ {Z:St} {h:Hi} {nb:Nat} {a:Bool} {j:Nat} (k1:15≠j) (k2:1031≠j) (hj:j<d7 h.length):(mr Z h nb a).get j=Z.get j:=by
 obtain⟨f,c,d,e⟩:=Z
 show KS (su d j) (az j (_::_::_::_::_::_::c))=_
 have n:∀{m},d7 h.length<=m->m≠j:=fun b=>(rd (f3 hj b)).symm
 rewrite[ax];refine aa (if_neg k1) ?_;rewrite[ax];refine aa (if_neg k2) ?_;rewrite[ax];refine aa (if_neg (n (e5 _))) ?_;rewrite[ax];refine aa (if_neg (n (sr _))) ?_;rewrite[ax];refine aa (if_neg (n (t6 _ 2))) ?_;rewrite[ax];refine aa (if_neg (n (by refine aa tY (aa hG ?_);lia))) ?_;rfl
theorem yy:∀{h:Hi} {i j:Nat} {p:Nat×V},(vw i h)[j]?=some p->p.2=.sym 0
 | _::_,_,0,_,e=>by cases e;rfl
 | _::r,i,j+1,_,e=>yy (h:=r) (i:=i+1) (j:=j) e
theorem Fa {h:Hi} {q31:List (Nat×V)} (ql:q31.length=(vw 0 h).length) (qr:∀(i:Nat) (p r:Nat×V),(vw 0 h)[i]?=some p->q31[i]?=some r->p.1=r.1):q31.map (fun p=>(p.1,V.sym 0))=vw 0 h:=by
 refine vC (aa (jb _) ql) fun i p r e a=>?_
 rw[List.getElem?_map] at a
 refine ai (Option.map_eq_some_iff.mp a) ?_;rintro b c rfl
 exact Prod.ext (qr i p b e c) (yy e)
theorem qB:∀{ks:List Nat} {l:List (Nat×V)},decB.keysAre ks l=true->l.map (·.1)=ks
 | [],l,h=>by exact aa (mi h) rfl
 | k::ks,[],h=>by exact aS h
 | k::ks,p::l,h=>by
  refine ak (show af (c6 p.1 k) (decB.keysAre ks l) false=true from h) fun h1 h2=>?_
  exact aa ol (aa (qB h2) (aa (bz h1) rfl))
theorem Fb:ae≠ay/\ae≠aw/\ay≠aw/\cz≠aw:=by decide
theorem rX {l:List (Nat×V)} {k:Nat} {ks:List Nat} (e:l.map (·.1)=k::ks):∃v r,l=(k,v)::r/\r.map (·.1)=ks:=by
 induction l using fV with
 | nil=>cases e
 | cons p r=>exact⟨p.2,r,bw ((List.cons.inj e).1) rfl,(List.cons.inj e).2⟩
theorem Fc {l:List (Nat×V)} {k:Nat->Bool->Bool} (h:decB l k=true):∃v0 q v2 a v4 v5,l=[(ae,v0),(ay,.obj q),(cz,v2),(aw,.bool a),(aZ,v4),(aR,v5)]/\k q a=true:=by
 refine ak (show af _ _ false=true from h) fun f i=>?_
 have e:=qB f
 refine bS i fun p c d=>?_
 refine cA d ?_;rintro q rfl j
 refine bS j fun a b m=>?_
 refine nU m ?_;rintro t rfl g
 refine bx (rX e) ?_;clear e;rintro v0 n rfl e
 refine bx (rX e) ?_;clear e;rintro x o rfl e
 refine bx (rX e) ?_;clear e;rintro v2 w rfl e
 refine bx (rX e) ?_;clear e;rintro r v rfl e
 refine bx (rX e) ?_;clear e;rintro v4 u rfl e
 refine bx (rX e) ?_;clear e;rintro v5 s rfl e
 obtain rfl:=List.map_eq_nil_iff.mp e
 rewrite[ax] at c;replace c:=(if_neg Fb.1)▸c;rewrite[ax] at c;replace c:=(if_pos rfl)▸c
 rewrite[ax] at b;replace b:=(if_neg Fb.2.1)▸b;rewrite[ax] at b;replace b:=(if_neg Fb.2.2.1)▸b;rewrite[ax] at b;replace b:=(if_neg Fb.2.2.2)▸b;rewrite[ax] at b;replace b:=(if_pos rfl)▸b
 cases c;cases b
 exact⟨v0,q,v2,t,v4,v5,rfl,g⟩
inductive BegR (n u:Nat) (pre p31:List (Nat×V)) (a:V) (τ:St):Prop
 | mk (b i d q:Nat) (t:Bool) (ls:List Nat) (pls:List V) (v0 v2 v4 v5 v31:V) (q31:List (Nat×V)) (ea:a=.tup [.bool true,.tup [.str (kN n),.obj b,.bool t]])
  (eb:τ.get b=some (.lst (EM n 0 ls))) (e15:τ.get 15=some (.dic (pre++[(kN n,.obj i)]))) (e31:τ.get 1031=some (.dic (q31++[(kN n,v31)])))
  (ql:q31.length=p31.length) (qr:∀(i:Nat) (p r:Nat×V),p31[i]?=some p->q31[i]?=some r->p.1=r.1) (ei:τ.get i=some (.ins bX d))
  (ed:τ.get d=some (.dic [(ae,v0),(ay,.obj q),(cz,v2),(aw,.bool t),(aZ,v4),(aR,v5)])) (eq:τ.get q=some (.lst pls))
  (hp:pls.length=ls.length) (hl:ls.length<=2) (hls:∀x∈ls,x∈los) (s4:τ.get 4=some (.sck [])) (gq:u<=q) (gd:u<=d) (gi:u<=i) (gb:u<=b) (ne:q≠b)
theorem Fd {τ:St} {u b:Nat} {t:Bool} {bl:List V} {v:V} (h:Nf τ u b t bl v=true):∃i d q v0 v2 v4 v5 pls,v=.obj i/\τ.get i=some (.ins bX d)/\τ.get d=some (.dic [(ae,v0),(ay,.obj q),(cz,v2),(aw,.bool t),(aZ,v4),(aR,v5)])/\τ.get q=some (.lst pls) /\
  pls.length=bl.length/\τ.get 4=some (.sck [])/\u<=q/\u<=d/\u<=i/\u<=b/\q≠b:=by
 refine cA h ?_;clear h;rintro i rfl h
 refine wu h ?_;clear h;intro x d n h
 refine ak h ?_;clear h;intro s h
 obtain rfl:=bz s
 refine gD h ?_;clear h;intro l o h
 refine oO (Fc h) ?_;clear h;intro v0 q v2 w a;refine bx a ?_;clear a;rintro v4 v5 rfl h
 refine ak h ?_;clear h;intro p h
 obtain rfl:=mR p
 refine fz h ?_;clear h;intro pls r h
 refine ak h ?_;clear h;intro e h
 refine ak h ?_;clear h;intro k h
 refine ak h ?_;clear h;intro j h
 refine ak h ?_;clear h;intro g h
 refine ak h ?_;clear h;intro f h
 refine ak h ?_;clear h;intro c h
 have m:=bz e
 rw[bB,bB] at m
 exact⟨i,d,q,v0,v2,v4,v5,pls,rfl,n,o,r,m,vu k,bY j,bY g,bY f,bY c,fun z=>by replace h:=(z)▸h;rewrite[xd] at h;exact aS h⟩
theorem Fe {n u:Nat} {h:Hi} {p31:List (Nat×V)} {a:V} {τ:St} (hK:Ng n u (fq++vL 0 h) p31 a τ=true):BegR n u (fq++vL 0 h) p31 a τ:=by
 refine fg hK ?_;rintro la rfl z
 clear hK
 refine pF z ?_;clear z;rintro y1 y2 rfl z
 refine nU z ?_;clear z;rintro cc rfl z
 refine ak z ?_;clear z;rintro rfl z
 refine fg z ?_;clear z;rintro lb rfl z
 refine sT z ?_;clear z;rintro a1 bv tv rfl z
 refine ak z ?_;clear z;intro G z
 obtain rfl:=mo G
 refine cA z ?_;clear z;rintro b rfl z
 refine nU z ?_;clear z;rintro t rfl z
 refine fz z ?_;clear z;intro bl Y z
 refine ak z ?_;clear z;intro o z
 refine ak z ?_;clear z;intro C z
 refine gD z ?_;clear z;intro Q v z
 refine iE (m9 z) ?_;clear z;rintro s vi rfl z H E
 obtain rfl:s=fq++vL 0 h:=vC H fun i p r e j=>Prod.ext (E i p r e j).1 (vv (E i p r e j).2)
 refine ak z ?_;clear z;intro x z
 refine gD z ?_;clear z;intro a2 m z
 refine iE (m9 z) ?_;rintro B w rfl a3 g f
 refine oO (Fd x) ?_;intro i d q S c;refine NY c ?_;clear c;rintro L M Z l rfl I J eq y P c;refine GT c ?_;clear c;intro K N gi F W
 refine ai (yw o) ?_;rintro U A rfl
 have k:=bY C
 rewrite[bB] at k;replace k:=(t8)▸k
 replace y:=t8▸y
 exact .mk b i d q t U l S L M Z w B rfl Y v m g (fun i p r e j=>(f i p r e j).1) I J eq y k A P K N gi F W
def jB (u q d i b j:Nat):Nat:=af (c6 j u) q (af (c6 j (u+1)) d (af (c6 j (u+2)) i b))
section
variable {u q d i b:Nat}
theorem KY:jB u q d i b u=q:=by unfold jB;exact aa (xd _) rfl
theorem KZ:jB u q d i b (u+1)=d:=by unfold jB;exact aa (bG (by lia:u+1≠u)) (aa (xd _) rfl)
theorem K0:jB u q d i b (u+2)=i:=by unfold jB;exact aa (bG (by lia:u+2≠u)) (aa (bG (by lia:u+2≠u+1)) (aa (xd _) rfl))
theorem K2:jB u q d i b (u+3)=b:=by unfold jB;exact aa (bG (by lia:u+3≠u)) (aa (bG (by lia:u+3≠u+1)) (aa (bG (by lia:u+3≠u+2)) rfl))
theorem jC {P:Nat->Prop} {j:Nat} (h1:u<=j) (h2:j<u+4) (a:P u) (b:P (u+1)) (c:P (u+2)) (d:P (u+3)):P j:=by
 have:j=u\/j=u+1\/j=u+2\/j=u+3:=Oa (by assumption) (by assumption)
 rcases this with rfl|rfl|rfl|rfl
 ·exact a
 ·exact b
 ·exact c
 ·exact d
theorem jL {m j:Nat} (h1:u<=j) (h2:j<u+4) (a:u<=q/\q<m) (b':u<=d/\d<m) (c:u<=i/\i<m) (d':u<=b/\b<m):u<=jB u q d i b j/\jB u q d i b j<m :=
 jC (P:=fun j=>u<=jB u q d i b j/\jB u q d i b j<m) h1 h2 (aa KY a) (aa KZ b') (aa K0 c) (aa K2 d')
theorem jI {j1 j2:Nat} (h1:u<=j1) (h2:j1<u+4) (h3:u<=j2) (h4:j2<u+4) (n1:q≠d) (n2:q≠i) (n3:q≠b) (n4:d≠i) (n5:d≠b) (n6:i≠b):jB u q d i b j1=jB u q d i b j2->j1=j2:=by
 refine jC (P:=fun j1=>jB u q d i b j1=jB u q d i b j2->j1=j2) h1 h2 ?_ ?_ ?_ ?_
 ·refine aa KY ?_;refine jC (P:=fun j=>q=jB u q d i b j->u=j) h3 h4 (fun a=>rfl) ?_ ?_ ?_
  ·exact aa KZ (fun e=>absurd e n1)
  ·exact aa K0 (fun e=>absurd e n2)
  ·exact aa K2 (fun e=>absurd e n3)
 ·refine aa KZ ?_;refine jC (P:=fun j=>d=jB u q d i b j->u+1=j) h3 h4 ?_ (fun a=>rfl) ?_ ?_
  ·exact aa KY (fun e=>absurd e.symm n1)
  ·exact aa K0 (fun e=>absurd e n4)
  ·exact aa K2 (fun e=>absurd e n5)
 ·refine aa K0 ?_;refine jC (P:=fun j=>i=jB u q d i b j->u+2=j) h3 h4 ?_ ?_ (fun a=>rfl) ?_
  ·exact aa KY (fun e=>absurd e.symm n2)
  ·exact aa KZ (fun e=>absurd e.symm n4)
  ·exact aa K2 (fun e=>absurd e n6)
 ·refine aa K2 ?_;refine jC (P:=fun j=>b=jB u q d i b j->u+3=j) h3 h4 ?_ ?_ ?_ (fun a=>rfl)
  ·exact aa KY (fun e=>absurd e.symm n3)
  ·exact aa KZ (fun e=>absurd e.symm n5)
  ·exact aa K0 (fun e=>absurd e.symm n6)
end
section
variable {g g':Gd} {h h':Heap} {U U':Nat->Addr} {n n':Nat}
theorem nN {q:List (Str×bo)} {c:Nat} {x y:V} {r r':List (Nat×V)} (e:ERs g h U n ((c,x)::r) q) (hd:∀w,VR g h U n x w->VR g' h U' n' y w) (tl:∀q,ERs g h U n r q->ERs g' h U' n' r' q):ERs g' h U' n' ((c,y)::r') q:=by
 refine lf e fun s v q e a b c=>?_
 exact⟨s,v,q,e,a,hd _ b,tl _ c⟩
theorem ms {q:List bo} {x y:V} {r r':List V} (e:VRs g h U n (x::r) q) (hd:∀w,VR g h U n x w->VR g' h U' n' y w) (tl:∀q,VRs g h U n r q->VRs g' h U' n' r' q):VRs g' h U' n' (y::r') q:=by
 refine aA e fun v q e a b=>?_
 exact⟨v,q,e,hd _ a,tl _ b⟩
theorem Nh {w:bo} {r r':List V} (e:VR g h U n (.tup r) w) (tl:∀q,VRs g h U n r q->VRs g' h U' n' r' q):VR g' h U' n' (.tup r') w:=by
 refine aA e fun a c e t b=>?_
 exact⟨a,c,e,t,tl _ b⟩
theorem CK {q:List (Str×bo)} {u c:Nat} {x y:V} {pre:List (Nat×V)} (e:ERs g h U n (pre++[(c,x)]) q) (back:∀{y w},iD u y=true->VR g h U n y w->VR g' h U' n' y w) (hd:∀w,VR g h U n x w->VR g' h U' n' y w) (ck:cJ u pre=true):ERs g' h U' n' (pre++[(c,y)]) q:=by
 induction pre generalizing q with
 | nil=>exact nN (r:=[]) (r':=[]) e hd fun a e=>e
 | cons p pre b =>
  refine ak (show af (iD u p.2) (cJ u pre) false=true from ck) fun f d=>?_
  exact nN (c:=p.1) e (fun a=>back f) fun a e=>b e d
end
theorem BegO.nx {h:Hi} {c:Option (Nat×Nat)} {l:List (Nat×V)} {i:Nat} {o:O} (x:BegO h c l i o) (k d:Nat) (z:o=.exn k d):False:=by
 cases x with
 | k0 _ w=>exact gR (z▸w) rfl
 | k1 _ w=>exact gR (z▸w) rfl
 | k2 _ w=>exact gR (z▸w) rfl
 | k3 _ w=>exact gR (z▸w) rfl
 | k4 _ w=>exact gR (z▸w) rfl
 | k5 _ w=>exact gR (z▸w) rfl
 | k6 _ _ _ j =>
  cases j with
  | k0 _ w=>exact gR (z▸w) rfl
  | k1 _ w=>exact gR (z▸w) rfl
  | k2 _ w=>exact gR (z▸w) rfl
  | k3 _ w=>exact gR (z▸w) rfl
 | k7 e _ _ _=>refine oM (jW e) fun b f g a=>?_;replace a:=z▸a;exact aS a
theorem vD {τ:St} {i j:Nat} {o o':O} (a:τ.get i=some o) (b:τ.get j=some o') (n:o≠o'):i≠j:=fun z=>n (ma (a.symm.trans (z▸b)))
theorem zK {g:Gd} {F:Addr->Prop} {Z τ τ':St} {U ρi:Nat->Addr} {s s':ce} {k:K1} {h:Hi} {f:Nat->Nat} {hf:∀k,f k∈nm6} {u:Nat} {a:V} {v:bo} (W:R g Z U s.heap) (P:Pv g F aL Z U s.heap) (S:LawSt Z h) (WT:R (g.lt f hf) τ U s.heap)
  (hu:d7 h.length=u) (u0:1036<=u) (nxe:τ.nx=u) (nex:∀{j o},τ.get j=some o->∀k d,o=.exn k d->False) (mt:∀{j},j<u->j≠4->j≠15->j≠1031->τ.mut j=false) (G:Go (g.lt f hf) F aL τ U s τ' ρi s')
  (σ:BegR h.length u (fq++vL 0 h) (vw 0 h) a τ') (ra:VR (g.lt f hf) s'.heap ρi τ'.nx a v) (hk:∀nb a,nb<=2->k (.tup [.bool true,.tup [.str (kN h.length),.obj (gG h.length),.bool a]]) (mr Z h nb a)=true):Po g F aL Z U s k v s':=by
 obtain⟨b,i,d,q,t,E,ah,v0,v2,v4,v5,ad,al,ea,Q,e15,e31,ql,qr,I,K,Y,hp,hl,ab,s4,gq,gd,gi,gb,ne⟩:=σ
 have a3:q≠d:=vD Y K fun z=>gR z rfl
 have a7:q≠i:=vD Y I fun z=>gR z rfl
 have a4:d≠i:=vD K I fun z=>gR z rfl
 have a2:d≠b:=vD K Q fun z=>gR z rfl
 have a8:i≠b:=vD I Q fun z=>gR z rfl
 have x:Z.nx=u:=S.nx.trans hu
 have a5:gG h.length=u+3:=by refine bw hu (aa tY (aa hG ?_));lia
 let U':Nat->Addr:=fun j=>if j<Z.nx then U j else ρi (jB u q d i b j)
 have oldρ:∀j,j<u->U' j=ρi j:=fun j A=>(if_pos (x▸A)).trans (G.sp.ag j (nxe▸A)).symm
 have newρ:∀j,u<=j->U' j=ρi (jB u q d i b j):=fun j A=>if_neg (x▸ji A)
 have ρq:U' u=ρi q:=(newρ u (e5 _)).trans (congrArg ρi KY)
 have ρd:U' (u+1)=ρi d:=(newρ _ (t6 _ _)).trans (congrArg ρi KZ)
 have ρin:U' (u+2)=ρi i:=(newρ _ (t6 _ _)).trans (congrArg ρi K0)
 have ρb:U' (u+3)=ρi b:=(newρ _ (t6 _ _)).trans (congrArg ρi K2)
 have N:∀{y:V} {w:bo},iD u y=true->VR (g.lt f hf) s'.heap ρi τ'.nx y w->VR g s'.heap U' (u+4) y w:=fun{y w} ck rr =>
  VR.mono (g:=g) (n:=u) Later.refl oldρ (t6 _ _) (VR.cut (g:=g.lt f hf) (f:=g.nam) (hf:=g.hnam) (m:=u) ck rr)
 have a1:OR g s'.heap U' (u+4) (U' 15) (.dic (fq++vL 0 h++[(kN h.length,.obj (u+2))])):=by
  refine ai (aB G.r e15) fun C L M=>?_
  refine aa (oldρ 15 (by lia)) ?_
  refine⟨C,L,?_⟩
  exact CK (y:=.obj (u+2)) M N (fun l r=>⟨r.1.trans (aa ρin rfl),by lia⟩) (jX (k9 (by lia) km) (t7 (aa (Nat.zero_add _) (aa hu (e5 _)))))
 have a6:OR g s'.heap U' (u+4) (U' 1031) (.dic (vw 0 h++[(kN h.length,.sym 0)])):=by
  refine ai (aB G.r e31) fun C L M=>?_
  refine aa (oldρ 1031 (by lia)) ?_
  have z:=ERs.conv (g2:=g) (h2:=s'.heap) (U2:=U') (n2:=u+4) (φ:=fun l=>.sym 0) M fun p v l r=>r.any
  replace z:=Fa ql qr▸List.map_append▸z
  exact⟨C,L,z⟩
 have oq:OR g s'.heap U' (u+4) (U' u) (.lst (oa E.length)):=by
  refine ai (aB G.r Y) fun vs xl rl=>?_
  refine aa ρq (bw hp (bw qA ?_))
  exact⟨vs,xl,VRs.to_sym (g:=g.lt f hf) (f:=g.nam) (hf:=g.hnam) rl⟩
 have od:OR g s'.heap U' (u+4) (U' (u+1)) (.dic (GJ u t)):=by
  refine ai (aB G.r K) fun C L M=>?_
  refine aa ρd ?_
  refine⟨C,L,?_⟩
  exact nN M (fun l r=>r.any) fun l e=>nN e (fun l r=>⟨r.1.trans (aa ρq rfl),by lia⟩) fun l e=>nN e (fun l r=>r.any) fun l e=>nN e (fun l r=>r) fun l e=>nN e (fun l r=>r.any) fun l e=>nN e (fun l r=>r.any) fun l e=>e
 have oi:OR g s'.heap U' (u+4) (U' (u+2)) (.ins bX (u+1)):=⟨aa ρin (aa ρd ((aB G.r I).1)),by lia⟩
 have ob:OR g s'.heap U' (u+4) (U' (u+3)) (.cho (3*h.length+E.length)):=by
  refine ai (aB G.r Q) fun vs xl rl=>?_
  refine aa ρb ?_
  refine⟨_,vs,?_,xl,yx Later.refl rl⟩
  show GH h.length 0 E (NR f 0 E)∈KM ((3*h.length+E.length) / 3) ((3*h.length+E.length)%3)
  refine aa (HE (by lia)) (aa (HF (by lia)) ?_)
  exact EY hf hl ab
 have o4:OR g s'.heap U' (u+4) (U' 4) (.sck []):=by
  refine vM (aB G.r s4) fun x1 y1 t2 u2 p2 a9 ao=>?_
  refine aa (oldρ 4 (by lia)) ?_
  exact⟨x1,y1,t2,u2,p2,a9,trivial⟩
 have B:(mr Z h E.length t).nx=u+4:=by exact bw hu rfl
 have G2:Go g F aL Z U s (mr Z h E.length t) U' s':=by
  refine Go.frame (J:=jB u q d i b) W P WT G (aa nxe (aa x (e5 _))) (fun j o e m=>?_) (by refine aa B (aa x ?_);lia) rfl (fun j H h2=>?_) (fun j1 j2 H h2 h3 h4 e=>?_) (fun j=>rfl) (fun j o e=>?_) fun j m A=>?_
  ·have m:τ.mut j=true:=m.elim id fun q_=>eM q_ fun c d m=>(nex e c d m).elim
   by_cases n4:j=4
   ·exact aa n4 ⟨S.mt.1,_,S.e4⟩
   by_cases n15:j=15
   ·exact aa n15 ⟨S.mt.2.1,_,S.e15⟩
   by_cases n31:j=1031
   ·exact aa n31 ⟨S.mt.2.2,_,S.e31⟩
   replace m:=(mt (nxe▸aC WT e) n4 n15 n31)▸m;exact aS m
  ·replace H:=x▸H;replace h2:=B▸h2;refine aa nxe ?_
   exact jL H h2 ⟨gq,aC G.r Y⟩ ⟨gd,aC G.r K⟩ ⟨gi,aC G.r I⟩ ⟨gb,aC G.r Q⟩
  ·rw[x] at H h3;rw[B] at h2 h4
   exact jI H h2 h3 h4 a3 a7 ne a4 a2 a8 e
  ·refine aa B (aa x ?_)
   refine EZ hu e (fun z w=>?_) (fun z w=>?_) (fun z w=>?_) (fun z w=>?_) (fun z w=>?_) (fun z w=>?_) fun k1 k2 e=>?_
   ·exact bw z (bw w (⟨by lia,.inr ⟨fun l=>⟨_,S.e15⟩,a1⟩⟩))
   ·exact bw z (bw w (⟨by lia,.inr ⟨fun l=>⟨_,S.e31⟩,a6⟩⟩))
   ·exact bw z (bw w (⟨by lia,.inr ⟨fun A=>absurd A (nY _),oq⟩⟩))
   ·exact bw z (bw w (⟨by lia,.inr ⟨fun A=>absurd A (by lia),od⟩⟩))
   ·exact bw z (bw w (⟨by lia,.inr ⟨fun A=>absurd A (by lia),oi⟩⟩))
   ·exact bw z (bw w (⟨by lia,.inr ⟨fun A=>absurd A (by lia),ob⟩⟩))
   have A:j<u:=x▸aC W e
   refine⟨by lia,?_⟩
   by_cases k7:j=4
   ·replace e:=S.e4▸k7▸e;cases e;refine aa k7 ?_
    exact .inr ⟨fun l=>⟨_,S.e4⟩,o4⟩
   ·exact .inl ⟨A,e,fun o' e'=>⟨mt A k7 (Ne.symm k1) (Ne.symm k2),nex e'⟩⟩
  ·exact zJ (fun z=>by rewrite[<-z] at m;replace m:=(S.mt.2.1)▸m;cases m) (fun z=>by rewrite[<-z] at m;replace m:=(S.mt.2.2)▸m;cases m) (aa hu (bw x A))
 replace ra:=ea▸ra
 refine⟨mr Z h E.length t,U',.tup [.bool true,.tup [.str (kN h.length),.obj (gG h.length),.bool t]],G2,?_,hk _ _ hl⟩
 refine aa B (aa a5 ?_)
 exact Nh ra fun l e=>ms e (fun l r=>r) fun l e=>ms e (fun l e=>Nh e fun l e=>ms e (fun l r=>r) fun l e=>ms e (fun l r=>⟨r.1.trans (aa ρb rfl),by lia⟩) fun l e=>ms e (fun l r=>r) fun l e=>e) fun l e=>e
theorem w9 {g:Gd} (H:Hd g) {A:ef} {F:Addr->Prop} {Z:St} {U:Nat->Addr} {s:ce} {us:List bo} {k:K1} {x:KX} {h:Hi} (W:R g Z U s.heap) (P:Pv g F aL Z U s.heap) (AO:AOk A F 36) (hh:A.handled=none) (S:LawSt Z h) (hl:h.length<=2) (RB:RunB h)
  (r:VRs g s.heap U Z.nx [.obj 4,.obj 7,.str (kN h.length),.obj 1034] us) (hk:∀nb a,nb<=2->k (.tup [.bool true,.tup [.str (kN h.length),.obj (gG h.length),.bool a]]) (mr Z h nb a)=true) :
  dk g.m A (f5 (.ref (g.fa 61)) us) (Po g F aL Z U s k) (PX g F aL Z U s x) s:=by
 refine vM (aB W S.e4) fun X Y t1 N w t L=>?_
 refine lf (DT.pick (EU h) (f:=g.nam) (CF (hD oK hl) RB) (EW (hD oK hl)) t g.hnam) fun f n l K hf b y=>?_
 generalize hc:JQ h n=c at b
 have j:∀e q,c=some (e,q)->h[e]?=some (q,true):=fun e q z=>JR (hc.trans z)
 have u:=zH (f:=f) (hf:=hf) S W j w t (y (g.lt f hf) rfl)
 clear w t y j hc
 unfold tX at b
 replace b:=t0▸tZ▸oJ▸b
 have i:(vx (gF h) c l).nx=d7 h.length:=by show d7 (len (gF h))=_;exact aa oJ rfl
 have I:1036<=d7 h.length:=t6 _ _
 have o:=S.nx
 have C:Pv (g.lt f hf) F aL (vx (gF h) c l) U s.heap:=Pv.view P (aa i (aa o (e5 _)))
 have B:VRs (g.lt f hf) s.heap U (vx (gF h) c l).nx [.obj 4,.obj 7,.str (kN h.length),.obj 1034] us:=by
  refine aa i ?_
  exact ms r (fun d r=>⟨r.1,by lia⟩) fun d e=>ms e (fun d r=>⟨r.1,by lia⟩) fun d e=>ms e (fun d r=>r) fun d e=>ms e (fun d r=>⟨r.1,by lia⟩) fun d e=>e
 refine dt (ki (H.lt f hf).pr 34 (D:=2) (JM (H.lt f hf)) AO hh (fun d h=>h) b u C (f:=.ref (g.fa 61)) rfl B) (fun v s' p=>?_) fun d d p=>jU p
 obtain⟨M,Q,a,G,J,E⟩:=p
 clear b C B
 exact zK W P S u rfl I i (fun e=>(vB e).nx) CH G (Fe E) J hk
def GN (a b:Nat×V):Bool:=af (c6 a.1 b.1) (rI a.2 b.2) false
def Pk {α:Type} (r:List α):Bool:=@List.rec α (fun a=>Bool) true jp r
def GO (l:List (Nat×V)):List (Nat×V)->Bool:=@List.rec (Nat×V) (fun b=>List (Nat×V)->Bool) Pk (fun a b g=>xU (GN a) g) l
theorem CL {a b:Nat×V} (h:GN a b=true):a=b:=by
 refine ak h fun d c=>?_
 exact Prod.ext (bz d) (lY c)
theorem CN {l r:List (Nat×V)} (h:GO l r=true):l=r:=by
 induction l generalizing r with
 | nil=>cases r<;>first | rfl | exact aS h
 | cons a l b=>exact qm (fun c=>CL) (fun c=>b) h
def CO (o:Option O) (k:Nat->Bool):Bool:=cM o fun o=>O.casesOn o ac ac aJ aJ ac false ac ac (fun n=>k n) ac
theorem CP {o:Option O} {k:Nat->Bool} {G:Prop} (h:CO o k=true) (K:∀n,o=some (.cho n)->k n=true->G):G:=by
 refine bS h ?_;clear h;rintro o rfl h
 cases o<;>first|(first|exact aS h|cases h);done|exact K _ rfl h
def vF (o:Option O) (l:List V):Bool:=gh o fun r=>wL r l
def rY (o:Option O) (l:List (Nat×V)):Bool:=eP o fun r=>GO r l
def GP (o:Option O) (d:Nat):Bool:=GM o fun a=>c6 a d
def GQ (o:Option O) (c:Nat):Bool:=CO o fun a=>c6 a c
def jY (o:Option O) (c:Nat):Bool:=CA o fun a=>c6 a c
theorem qC {o:Option O} {l:List V} (h:vF o l=true):o=some (.lst l):=by refine fz h ?_;clear h;rintro r rfl h;exact aa (zn h) rfl
theorem mw {o:Option O} {l:List (Nat×V)} (h:rY o l=true):o=some (.dic l):=by refine gD h ?_;clear h;rintro r rfl h;exact aa (CN h) rfl
theorem CQ {o:Option O} {d:Nat} (h:GP o d=true):o=some (.ins bX d):=by
 refine wu h ?_;clear h;rintro c e rfl h
 refine ak h fun b a=>?_
 exact aa (bz b) (aa (bz a) rfl)
theorem CR {o:Option O} {c:Nat} (h:GQ o c=true):o=some (.cho c):=by refine CP h ?_;clear h;rintro r rfl h;exact aa (bz h) rfl
theorem fj {o:Option O} {c:Nat} (h:jY o c=true):o=some (.tab c):=by refine CB h ?_;clear h;rintro r rfl h;exact aa (bz h) rfl
def Pl (Z:St) (i:Nat):Nat×Bool:=(match Z.get (d7 i) with|some (.lst l)=>len l|_=>0,match Z.get (jf (d7 i) 1) with|some (.dic l)=>(match az aw l with|some (.bool b)=>b|_=>false)|_=>false)
def Qa (Z:St):Nat->Nat->Hi:=@Nat.rec (fun a=>Nat->Hi) (fun a=>[]) (fun a b i=>Pl Z i::b (Nat.succ i))
def Qb (Z:St) (i:Nat) (p:Nat×Bool):Bool:=af (eL p.1 2) (af (vF (Z.get (d7 i)) (oa p.1)) (af (rY (Z.get (jf (d7 i) 1)) (GJ (d7 i) p.2)) (af (GP (Z.get (jf (d7 i) 2)) (jf (d7 i) 1)) (GQ (Z.get (gG i)) (jf (Nat.mul 3 i) p.1)) false) false) false) false
def JS (Z:St):Nat->Hi->Bool
 | _,[]=>true
 | i,p::r=>af (Qb Z i p) (JS Z (Nat.succ i) r) false
def Ni (Z:St) (h:Hi):Bool:=af (JE Z fun c b a=>af (c6 c (d7 (len h))) (af (c6 a 1) (Cq b) false) false) (af (s0 (Z.get 4)) (af (Z.mut 4) (af (Z.mut 15) (af (Z.mut 1031) (af (rY (Z.get 15) (fq++vL 0 h)) (af (rY (Z.get 1031) (vw 0 h)) (af (vF (Z.get 1034) (GI 0 h))
 (af (jY (Z.get 1032) 2) (af (jY (Z.get 1033) 2) (JS Z 0 h) false) false) false) false) false) false) false) false) false) false
theorem Ff {Z:St} {h:Hi} {i j:Nat} {p:Nat×Bool} (w:JS Z i h=true) (e:h[j]?=some p):Qb Z (i+j) p=true:=by
 induction h generalizing i j with
 | nil=>exact bj e
 | cons q r a =>
  induction j using jq with
  | zero=>cases e;exact(cb w).1
  | succ j=>exact(Nat.add_right_comm i 1 j▸a (i:=i+1) (j:=j) (cb w).2 e :)
theorem Fg {Z:St} {h:Hi} (b:Ni Z h=true):LawSt Z h:=by
 refine ak b fun a q=>?_
 have a:=qx a
 refine ak a fun z a=>?_
 refine ak a fun d A=>?_
 refine ak q fun o H=>?_
 refine ak H fun F m=>?_
 refine ak m fun n K=>?_
 refine ak K fun v w=>?_
 refine ak w fun G I=>?_
 refine ak I fun C j=>?_
 refine ak j fun x r=>?_
 refine ak r fun g l=>?_
 refine ak l fun E c=>?_
 refine⟨(bz z).trans (aa (bB _) rfl),vu o,⟨F,n,v⟩,bz d,A,mw G,mw C,qC x,fj g,fj E,fun i p e=>?_⟩
 have:=Ff c e
 rw[Nat.zero_add] at this
 refine ak this fun f u=>?_
 refine ak u fun k t=>?_
 refine ak t fun y s=>?_
 refine ak s fun J B=>?_
 exact⟨bY f,qC k,mw y,CQ J,CR B⟩
def CT (v:V) (i:Nat):Bool:=db v fun j=>c6 j i
theorem hO {v:V} {i:Nat} (h:CT v i=true):v=.obj i:=by refine cA h ?_;clear h;rintro j rfl h;exact aa (bz h) rfl
def Qc (l:List V) (k:V->V->V->V->Bool):Bool:=@List.rec V (fun b=>Bool) false (fun a r b=>De r (k a)) l
theorem Pm {l:List V} {k:V->V->V->V->Bool} {G:Prop} (h:Qc l k=true) (K:∀a b c d,l=[a,b,c,d]->k a b c d=true->G):G:=by
 induction l using fV with
 | nil=>exact aS h
 | cons a r=>refine sT h ?_;clear h;rintro b c d rfl h;exact K a b c d rfl h
def CU (Z:St) (h:Hi) (k:K1):Bool:=jV 3 fun a=>af (k (.tup [.bool true,.tup [.str (kN (len h)),.obj (gG (len h)),.bool true]]) (mr Z h a true)) (k (.tup [.bool true,.tup [.str (kN (len h)),.obj (gG (len h)),.bool false]]) (mr Z h a false)) false
def Pn (Z:St) (h:Hi) (c:V) (k:K1):Bool:=af (eL (len h) 2) (af (isStr c (kN (len h))) (af (Ni Z h) (CU Z h k) false) false) false
def begV (l:List V) (Z:St) (k:K1):Bool:=Qc l fun a b c d=>af (CT a 4) (af (CT b 7) (af (CT d 1034) (Pn Z (Qa Z (Nat.div (Nat.sub (stN Z) 1036) 5) 0) c k) false) false) false
where stN (Z:St):Nat:=@St.rec (fun u_=>Nat) (fun nx u_ u_ u_=>nx) Z
def Pp (Z:St) (n m:Nat) (q:List V):Bool:=De q fun c b a=>af (l9 n 3) (af (isStr c (kN n)) (CT b (gG n)) false) false
def JT (l:List V) (Z:St) (k:K1):Bool:=De l fun a b r=>af (CT a 4) (af (CT b 7) (bL r fun q=>De q fun e d e=>db d fun j=>CO (Z.get j) fun c=>af (Pp Z (Nat.div c 3) (Nat.mod c 3) q) (af (s0 (Z.get 4)) (af (Z.mut 4) (af (Cr Z) (k (.bool true) Z) false) false) false) false) false) false
def JU (l:List V) (Z:St) (k:K1):Bool:=yB l fun a b=>af (CT a 4) (af (CT b 7) (af (JE Z fun d c c=>eL 8 d) (af (s0 (Z.get 4)) (af (Z.mut 4) (k (.bool true) Z) false) false) false) false) false
def JV (l:List V) (Z:St) (k:K1):Bool:=oQ l fun a=>af (CT a 7) (af (JE Z fun b c c=>eL 8 b) (k (.bool true) Z) false) false
def Fh (l:List V) (Z:St) (k:K1):Bool:=oQ l fun a=>db a fun i=>af (Z.mut i) false (af (jY (Z.get i) 3) (k (.obj (begV.stN Z)) (Z.new (.sck []))) false)
def CV (Z:St):St:=@St.rec (fun a=>St) (fun a b a c=>⟨1034,(1,.tab 4)::(1032,.tab 2)::(1033,.tab 2)::b,1,c⟩) Z
def Fi (l:List (Nat×O)):Bool:=@List.rec (Nat×O) (fun b=>Bool) true (fun p b a=>af (l9 p.1 5) a false) l
def Fj (l:List V) (Z:St) (k:K1):Bool:=af (wZ l) (af (JE Z fun c b a=>af (c6 c 5) (af (c6 a 0) (Fi b) false) false) (af (jY (Z.get 1) 0) (af (Z.mut 1) (k (.obj 7) (CV Z)) false) false) false) false
def Qd (f:V) (l:List V) (Z:St) (k:K1) (_:KX):Bool:=V.casesOn f false ac ac ac ac ac ac (fun j=>af (c6 j 52) (Fh l Z k) (af (c6 j 53) (Cd l Z k) (af (c6 j 55) (Fj l Z k) (af (c6 j 61) (begV l Z k) (af (c6 j 62) (JT l Z k)
 (af (c6 j 63) (JU l Z k) (af (c6 j 64) (JV l Z k) false))))))) ac aJ ac aJ
def Qe (f:V):Bool:=V.casesOn f false ac ac ac ac ac ac (fun j=>af (eL 52 j) (af (c6 j 52) true (af (c6 j 53) true (af (c6 j 55) true (af (eL 61 j) (eL j 64) false)))) false) ac aJ ac aJ
def Qz (v:V) (τ:St):Bool:=fB v fun b=>af b (jY (τ.get 1) 4) false
noncomputable def lawS:St:=⟨2,[(0,.tab 3),(1,.tab 0)],0,0⟩
def Pq:Bool:=fZ Qe Qd 3 (.fn 65) [.obj 0] lawS Qz n9
theorem Fk:Pq=true:=by kernel_rfl
theorem Nj:jV 3 (fun d=>(ml d).all fun u_ l=>Cf ((4,.int d)::l))=true:=by kernel_rfl
def qD (j:Nat):Bool:=(ml 2).all fun a l=>Cf ((4,.int 3)::(5,.int j)::l)
theorem Nk:qD 0=true:=by kernel_rfl
theorem Nl:qD 1=true:=by kernel_rfl
theorem Nm:qD 2=true:=by kernel_rfl
theorem Nn:qD 3=true:=by kernel_rfl
theorem No:qD 4=true:=by kernel_rfl
theorem CW:rowD.all (fun u_=>Cf)=true:=by
 show af (jV 5 qD) (jV 3 fun d=>(ml d).all fun u_ l=>Cf ((4,.int d)::l)) false=true
 rewrite[Nj]
 show af (af (qD 4) (af (qD 3) (af (qD 2) (af (qD 1) (af (qD 0) true false) false) false) false) false) true false=true
 rewrite[Nk,Nl,Nm,Nn,No];rfl
theorem JW:dQ 0 []=true:=by kernel_rfl
theorem JX:dQ 0 [1]=true:=by kernel_rfl
theorem JY:dQ 0 [av]=true:=by kernel_rfl
theorem JZ:dQ 0 [1,1]=true:=by kernel_rfl
theorem J0:dQ 0 [1,av]=true:=by kernel_rfl
theorem J1:dQ 0 [av,1]=true:=by kernel_rfl
theorem J2:dQ 0 [av,av]=true:=by kernel_rfl
theorem J3:dQ 1 []=true:=by kernel_rfl
theorem J4:dQ 1 [1]=true:=by kernel_rfl
theorem J5:dQ 1 [av]=true:=by kernel_rfl
theorem J6:dQ 1 [1,1]=true:=by kernel_rfl
theorem J7:dQ 1 [1,av]=true:=by kernel_rfl
theorem J8:dQ 1 [av,1]=true:=by kernel_rfl
theorem J9:dQ 1 [av,av]=true:=by kernel_rfl
theorem Ka:dQ 2 []=true:=by kernel_rfl
theorem Kb:dQ 2 [1]=true:=by kernel_rfl
theorem Kc:dQ 2 [av]=true:=by kernel_rfl
theorem Kd:dQ 2 [1,1]=true:=by kernel_rfl
theorem Ke:dQ 2 [1,av]=true:=by kernel_rfl
theorem Kf:dQ 2 [av,1]=true:=by kernel_rfl
theorem Kg:dQ 2 [av,av]=true:=by kernel_rfl
theorem Kh:∀ls∈jl 0,dQ 0 ls=true:=by
 intro ls h
 have h:ls∈([[]]:List (List Nat)):=h
 simp only[gg,B3,or_false] at h
 exact aa h JW
theorem Ki:∀ls∈jl 1,dQ 0 ls=true:=by
 intro ls h
 have h:ls∈([[1],[av]]:List (List Nat)):=h
 simp only[gg,B3,or_false] at h
 rcases h with rfl|rfl
 ·exact JX
 ·exact JY
theorem Kj:∀ls∈jl 2,dQ 0 ls=true:=by
 intro ls h
 have h:ls∈([[1,1],[1,av],[av,1],[av,av]]:List (List Nat)):=h
 simp only[gg,B3,or_false] at h
 rcases h with rfl|rfl|rfl|rfl
 ·exact JZ
 ·exact J0
 ·exact J1
 ·exact J2
theorem Kk:∀ls∈jl 0,dQ 1 ls=true:=by
 intro ls h
 have h:ls∈([[]]:List (List Nat)):=h
 simp only[gg,B3,or_false] at h
 exact aa h J3
theorem Kl:∀ls∈jl 1,dQ 1 ls=true:=by
 intro ls h
 have h:ls∈([[1],[av]]:List (List Nat)):=h
 simp only[gg,B3,or_false] at h
 rcases h with rfl|rfl
 ·exact J4
 ·exact J5
theorem Km:∀ls∈jl 2,dQ 1 ls=true:=by
 intro ls h
 have h:ls∈([[1,1],[1,av],[av,1],[av,av]]:List (List Nat)):=h
 simp only[gg,B3,or_false] at h
 rcases h with rfl|rfl|rfl|rfl
 ·exact J6
 ·exact J7
 ·exact J8
 ·exact J9
theorem Kn:∀ls∈jl 0,dQ 2 ls=true:=by
 intro ls h
 have h:ls∈([[]]:List (List Nat)):=h
 simp only[gg,B3,or_false] at h
 exact aa h Ka
theorem Ko:∀ls∈jl 1,dQ 2 ls=true:=by
 intro ls h
 have h:ls∈([[1],[av]]:List (List Nat)):=h
 simp only[gg,B3,or_false] at h
 rcases h with rfl|rfl
 ·exact Kb
 ·exact Kc
theorem Kq:∀ls∈jl 2,dQ 2 ls=true:=by
 intro ls h
 have h:ls∈([[1,1],[1,av],[av,1],[av,av]]:List (List Nat)):=h
 simp only[gg,B3,or_false] at h
 rcases h with rfl|rfl|rfl|rfl
 ·exact Kd
 ·exact Ke
 ·exact Kf
 ·exact Kg
theorem Fm {n m:Nat} (hn:n<3) (hm:m<3):∀ls∈jl m,dQ n ls=true:=by
 have a:n=0\/n=1\/n=2:=by lia
 have b:m=0\/m=1\/m=2:=by lia
 rcases a with rfl|rfl|rfl<;>rcases b with rfl|rfl|rfl
 ·exact Kh
 ·exact Ki
 ·exact Kj
 ·exact Kk
 ·exact Kl
 ·exact Km
 ·exact Kn
 ·exact Ko
 ·exact Kq
theorem b_:ER []=true:=by kernel_rfl
theorem QA:ER [(0,false)]=true:=by kernel_rfl
theorem QB:vz [(0,true)]=true:=by kernel_rfl
theorem Np:kG [(0,true)] 1 0 0 0=true:=by kernel_rfl
theorem Nq:kG [(0,true)] 1 0 0 1=true:=by kernel_rfl
theorem Nr:kG [(0,true)] 1 0 0 2=true:=by kernel_rfl
theorem Pr:ER [(0,false),(0,false)]=true:=by kernel_rfl
theorem Ps:vz [(0,true),(0,false)]=true:=by kernel_rfl
theorem Pt:vz [(0,false),(0,true)]=true:=by kernel_rfl
theorem Pu:vz [(0,true),(0,true)]=true:=by kernel_rfl
theorem Kr:kG [(0,true),(0,false)] 1 0 0 0=true:=by kernel_rfl
theorem Ks:kG [(0,true),(0,false)] 1 0 0 1=true:=by kernel_rfl
theorem Kt:kG [(0,true),(0,false)] 1 0 0 2=true:=by kernel_rfl
theorem Ku:kG [(0,false),(0,true)] 1 0 1 0=true:=by kernel_rfl
theorem Kv:kG [(0,false),(0,true)] 1 0 1 1=true:=by kernel_rfl
theorem Kw:kG [(0,false),(0,true)] 1 0 1 2=true:=by kernel_rfl
theorem Fo:kG [(0,true),(0,true)] 2 0 0 0=true:=by kernel_rfl
theorem Fp:kG [(0,true),(0,true)] 2 0 0 1=true:=by kernel_rfl
theorem Fq:kG [(0,true),(0,true)] 2 0 0 2=true:=by kernel_rfl
theorem Fr:kG [(0,true),(0,true)] 2 1 1 0=true:=by kernel_rfl
theorem Fs:kG [(0,true),(0,true)] 2 1 1 1=true:=by kernel_rfl
theorem Ft:kG [(0,true),(0,true)] 2 1 1 2=true:=by kernel_rfl
theorem Nt {h:Hi} (hl:h.length<=2) (hb:∀(i:Nat) (p:Nat×Bool),h[i]?=some p->p.1<=2):RunB h:=by
 have g:∀{q:Nat},q<=2->q=0\/q=1\/q=2:=fun h=>(by decide:∀q,q<3->q=0\/q=1\/q=2) _ (Nat.lt_succ_of_le h)
 match h,hl,hb with
 | [],_,_=>exact⟨fun f=>b_,fun h=>absurd rfl h,fun j e q z=>by exact bj z⟩
 | [(a,false)],_,_=>exact⟨fun f=>QA,fun h=>absurd rfl h,fun j e q z=>by exact bj z⟩
 | [(a,true)],_,hb =>
  refine⟨fun z=>(by cases z),fun f=>QB,fun j e q z=>?_⟩
  have c:([(0,a)]:List (Nat×Nat))[j]?=some (e,q):=z
  have d:=hb 0 _ rfl
  induction j using jq with
  | zero =>
   cases c
   rcases g d with e|e|e<;>(have e:a=_:=e;subst e)
   ·exact Np
   ·exact Nq
   ·exact Nr
  | succ j=>exact bj c
 | [(a,false),(b,false)],_,_=>exact⟨fun f=>Pr,fun h=>absurd rfl h,fun j e q z=>by exact bj z⟩
 | [(a,true),(b,false)],_,hb =>
  refine⟨fun z=>(by cases z),fun f=>Ps,fun j e q z=>?_⟩
  have c:([(0,a)]:List (Nat×Nat))[j]?=some (e,q):=z
  have d:=hb 0 _ rfl
  induction j using jq with
  | zero =>
   cases c
   rcases g d with e|e|e<;>(have e:a=_:=e;subst e)
   ·exact Kr
   ·exact Ks
   ·exact Kt
  | succ j=>exact bj c
 | [(a,false),(b,true)],_,hb =>
  refine⟨fun z=>(by cases z),fun f=>Pt,fun j e q z=>?_⟩
  have c:([(1,b)]:List (Nat×Nat))[j]?=some (e,q):=z
  have d:=hb 1 _ rfl
  induction j using jq with
  | zero =>
   cases c
   rcases g d with e|e|e<;>(have e:b=_:=e;subst e)
   ·exact Ku
   ·exact Kv
   ·exact Kw
  | succ j=>exact bj c
 | [(a,true),(b,true)],_,hb =>
  refine⟨fun z=>(by cases z),fun f=>Pu,fun j e q z=>?_⟩
  have c:([(0,a),(1,b)]:List (Nat×Nat))[j]?=some (e,q):=z
  have d:=hb 0 _ rfl
  have hb:=hb 1 _ rfl
  induction j using jq with
  | zero =>
   cases c
   rcases g d with e|e|e<;>(have e:a=_:=e;subst e)
   ·exact Fo
   ·exact Fp
   ·exact Fq
  | succ j =>
   induction j using jq with
   | zero =>
    cases c
    rcases g hb with e|e|e<;>(have e:b=_:=e;subst e)
    ·exact Fr
    ·exact Fs
    ·exact Ft
   | succ j=>exact bj c
 | _::_::_::_,hl,_=>exact absurd hl (by simp only[l7];lia)
def Pw:Bool:=fZ Dk mZ 30 (.fn 64) [.obj 7] ⟨8,[],0,32⟩ (Di false true) n9
theorem Fu:Pw=true:=by kernel_rfl
section
variable {g:Gd} {A:ef} {F:Addr->Prop} {Z:St} {U:Nat->Addr} {s:ce} {us:List bo} {l:List V} {k:K1} {x:KX}
theorem CY (H:Hd g) (W:R g Z U s.heap) (P:Pv g F aL Z U s.heap) (AO:AOk A F 30) (hh:A.handled=none) (r:VRs g s.heap U Z.nx [.obj 7] us) (nx:8<=Z.nx) (hk:k (.bool true) Z=true) :
  dk g.m A (f5 (.ref (g.fa 64)) us) (Po g F aL Z U s k) (PX g F aL Z U s x) s:=by
 have j:fZ Dk mZ 30 (.fn 64) [.obj 7] ⟨8,[],0,32⟩ (Di false true) n9=true:=Fu
 have c:∀{i:Nat} {o:O},St.get ⟨8,[],0,32⟩ i=some o->False:=fun e=>by
  have e:(none:Option O)=some _:=e
  exact bj e
 refine kj H (f:=g.nam) (hf:=g.hnam) (τ:=⟨8,[],0,32⟩) (D:=0) (isS:=Dk) (sp:=mZ) (n:=30) (i:=64) (w:=false) (b:=true) (l:=[.obj 7]) W P nx (fun i o e=>(c e).elim) (fun i o e d=>(c e).elim) (fun o e=>(c e).elim) (fun m d=>?_) AO hh ?_ j hk
 ·intro A F p l Z k x U s f us _ _ h
  exact aS h
 ·refine aA r ?_;clear r;rintro v q rfl a rfl
  exact⟨v,_,rfl,⟨a.1,show 7<8 by decide⟩,rfl⟩
theorem zO (H:Hd g) (AO:AOk A F 60) (hh:A.handled=none) (W:R g Z U s.heap) (P:Pv g F aL Z U s.heap) {l:List V} (r:VRs g s.heap U Z.nx l us) (h:begV l Z k=true):dk g.m A (f5 (.ref (g.fa 61)) us) (Po g F aL Z U s k) (PX g F aL Z U s x) s:=by
 refine Pm h ?_;clear h;rintro a b c d rfl h
 refine ak h ?_;clear h;intro q h
 refine ak h ?_;clear h;intro w h
 refine ak h ?_;clear h;intro n h
 cases hO q
 cases hO w
 cases hO n
 generalize Qa Z (Nat.div (Nat.sub (begV.stN Z) 1036) 5) 0=hi at h
 refine ak h ?_;clear h;intro f h
 refine ak h ?_;clear h;intro o h
 refine ak h ?_;clear h;intro j h
 have f:=bY f
 rw[bB] at f
 cases mo o
 have S:=Fg j
 rw[bB] at r
 unfold CU at h
 rw[bB] at h
 refine w9 H W P (cK (by lia) AO) hh S f (Nt f fun i p e=>(S.el i p e).1) r fun v a y=>?_
 refine ak (fL h v (by lia)) ?_;intro u t
 induction a using dI with
 | true=>exact u
 | false=>exact t
theorem zP (H:Hd g) (AO:AOk A F 60) (hh:A.handled=none) (W:R g Z U s.heap) (P:Pv g F aL Z U s.heap) {l:List V} (r:VRs g s.heap U Z.nx l us) (h:JT l Z k=true):dk g.m A (f5 (.ref (g.fa 62)) us) (Po g F aL Z U s k) (PX g F aL Z U s x) s:=by
 refine sT h ?_;clear h;rintro a b c rfl h
 refine ak h ?_;clear h;intro B h
 refine ak h ?_;clear h;intro E h
 cases hO B
 cases hO E
 refine fg h ?_;clear h;rintro q rfl h
 refine sT h ?_;clear h;rintro J K G rfl h
 refine cA h ?_;clear h;rintro w rfl h
 refine CP h ?_;clear h;intro d C h
 refine ak h ?_;clear h;intro y h
 refine ak h ?_;clear h;intro u h
 refine ak h ?_;clear h;intro z h
 refine ak h ?_;clear h;intro p h
 refine sT y ?_;intro I M L f t
 simp only[List.cons.injEq,and_true] at f
 refine cE f ?_;clear f;rintro rfl rfl rfl
 refine ak t ?_;intro e v
 refine ak v ?_;intro o j
 have e:d / 3<3:=dO e
 cases mo o
 have i:=hO j
 have i:w=gG (d / 3):=by cases i;rfl
 subst i
 have n:Z.get (gG (d / 3))=some (.cho (3*(d / 3)+d%3)):=by rw[Nat.div_add_mod];exact C
 exact Cz H (m:=d%3) W P (cK (by lia) AO) hh (Nat.mod_lt _ (by decide)) (Fm e (Nat.mod_lt _ (by decide))) r e n (vu u) z p h
theorem zQ (H:Hd g) (AO:AOk A F 60) (hh:A.handled=none) (W:R g Z U s.heap) (P:Pv g F aL Z U s.heap) {l:List V} (r:VRs g s.heap U Z.nx l us) (h:JU l Z k=true):dk g.m A (f5 (.ref (g.fa 63)) us) (Po g F aL Z U s k) (PX g F aL Z U s x) s:=by
 refine pF h ?_;clear h;rintro a b rfl h
 refine ak h ?_;clear h;intro c h
 refine ak h ?_;clear h;intro i h
 cases hO c
 cases hO i
 refine ak h ?_;clear h;intro e h
 refine ak h ?_;clear h;intro d h
 refine ak h ?_;clear h;intro f h
 exact zC H CW W P (cK (by lia) AO) hh r (bY (qx e)) (vu d) f h
theorem zS (H:Hd g) (AO:AOk A F 60) (hh:A.handled=none) (W:R g Z U s.heap) (P:Pv g F aL Z U s.heap) {l:List V} (r:VRs g s.heap U Z.nx l us) (h:JV l Z k=true):dk g.m A (f5 (.ref (g.fa 64)) us) (Po g F aL Z U s k) (PX g F aL Z U s x) s:=by
 refine g7 h ?_;clear h;rintro a rfl h
 refine ak h ?_;clear h;intro c h
 cases hO c
 refine ak h ?_;clear h;intro b h
 exact CY H W P (cK (by lia) AO) hh r (bY (qx b)) h
theorem Kx (H:Hd g) (hS:∀{A:ef} {F:Addr->Prop} {Z:St} {U:Nat->Addr} {s:ce} {us:List bo} {l:List V} {k:K1} {x:KX},AOk A F 60->A.handled=none->R g Z U s.heap->Pv g F aL Z U s.heap->VRs g s.heap U Z.nx l us->Fh l Z k=true ->
   dk g.m A (f5 (.ref (g.fa 52)) us) (Po g F aL Z U s k) (PX g F aL Z U s x) s)
  (hI:∀{A:ef} {F:Addr->Prop} {Z:St} {U:Nat->Addr} {s:ce} {us:List bo} {l:List V} {k:K1} {x:KX},AOk A F 60->A.handled=none->R g Z U s.heap->Pv g F aL Z U s.heap->VRs g s.heap U Z.nx l us->Fj l Z k=true ->
   dk g.m A (f5 (.ref (g.fa 55)) us) (Po g F aL Z U s k) (PX g F aL Z U s x) s):∀m,60<m->wP g Qe Qd m:=fun m n A F o l Z k x U s f us a c e h W P p r=>by
 have a:=cK (m:=60) (Nat.le_of_lt n) a
 cases o<;>first|(first|exact aS e|cases e);done|skip
 case fn j =>
  obtain rfl:f=.ref (g.fa j):=p
  have b:∀{i:Nat},c6 j i=true->dk g.m A (f5 (.ref (g.fa i)) us) (Po g F aL Z U s k) (PX g F aL Z U s x) s->dk g.m A (f5 (.ref (g.fa j)) us) (Po g F aL Z U s k) (PX g F aL Z U s x) s:=fun q w=>by rw[bz q];exact w
  refine fR (show af (c6 j 52) (Fh l Z k) (af (c6 j 53) (Cd l Z k) (af (c6 j 55) (Fj l Z k) (af (c6 j 61) (begV l Z k) (af (c6 j 62) (JT l Z k) (af (c6 j 63) (JU l Z k) (af (c6 j 64) (JV l Z k) false))))))=true from h) (fun q h=>b q (hS a c W P r h)) fun d h=>?_
  refine fR h (fun q h=>b q (Ce H (cK (by lia) a) W P r h)) fun d h=>?_
  refine fR h (fun q h=>b q (hI a c W P r h)) fun d h=>?_
  refine fR h (fun q h=>b q (zO H a c W P r h)) fun d h=>?_
  refine fR h (fun q h=>b q (zP H a c W P r h)) fun d h=>?_
  refine fR h (fun q h=>b q (zQ H a c W P r h)) fun d h=>?_
  exact ak h fun q h=>b q (zS H a c W P r h)
end
def Qf (K:K1) (load first:V) (τ:St):Bool:=i5 .Mod load (.int 1000000033) τ fun m τ=>i5 .Add m (.int 71) τ fun y τ=>e9 [first,y] τ K
def Nu (K:K1) (load:V) (τ:St):Bool:=i5 .Pow (.int 10) (.int 18) τ fun p τ=>wi .GtE load p τ fun t=>af t (Qf K load load τ) (Qf K load (.int 0) τ)
def Ky (K:K1) (head:V) (τ:St):Bool:=wi .GtE head (.int 0) τ fun t=>af t (Nu K head τ) (i5 .Sub (.int 1) head τ fun l τ=>Nu K l τ)
theorem CZ:(fun(c ch:Call) (τ:St) (i:Nat) (K:K1) (x:KX)=>mO c ch 52 [.obj i] τ K x)=fun c ch τ i K x=>e9 [] τ fun v τ=>wi .NotEq (.obj i) v τ fun t=>af t (cM (mN (.obj i) (.int 0) τ) fun a=>KQ .int [a] τ fun b τ=>Ky K b τ) (Ky K (.int 0) τ):=by kernel_rfl
noncomputable def Fv (head:Int):Int:=if 0<=head then head else 1 - head
noncomputable def Nv (load:Int):Int:=if 1000000000000000000<=load then load else 0
theorem Fw {K:K1} {head:Int} {τ:St}:Ky K (.int head) τ=K (.obj τ.nx) (τ.new (.lst [.int (Nv (Fv head)),.int ((Fv head).fmod 1000000033+71)])):=by
 have b:∀a:Int,Nu K (.int a) τ=K (.obj τ.nx) (τ.new (.lst [.int (Nv a),.int (a.fmod 1000000033+71)])):=fun a=>by
  show af (decide (1000000000000000000<=a)) (K (.obj τ.nx) (τ.new (.lst [.int a,.int (a.fmod 1000000033+71)]))) (K (.obj τ.nx) (τ.new (.lst [.int 0,.int (a.fmod 1000000033+71)])))=_
  unfold Nv
  by_cases h:(1000000000000000000:Int)<=a
  ·exact aa (decide_eq_true h) (aa (if_pos h) rfl)
  ·exact aa (decide_eq_false h) (aa (if_neg h) rfl)
 show af (decide (0<=head)) (Nu K (.int head) τ) (Nu K (.int (1 - head)) τ)=_
 refine aa (b _) (aa (b _) ?_)
 unfold Fv
 by_cases h:(0:Int)<=head
 ·exact aa (decide_eq_true h) (aa (if_pos h) rfl)
 ·exact aa (decide_eq_false h) (aa (if_neg h) rfl)
theorem yz {g:Gd} {h:Heap} {U:Nat->Addr} {n:Nat}:∀{vs:List bo},(∀v∈vs,∃i t,v=.int i t)->∃L:List V,VRs g h U n L vs/\∀v∈L,∃i,v=.int i
 | [],_=>⟨[],rfl,fun c m=>by cases m⟩
 | v::vs,k=>by
  refine eM (k v (.head _)) ?_;rintro i t rfl
  refine ai (yz (g:=g) (h:=h) (U:=U) (n:=n) fun v m=>k v (.tail _ m)) ?_;intro L a b
  refine⟨.int i::L,⟨_,_,rfl,⟨t,rfl⟩,a⟩,fun v m=>?_⟩
  rcases gg.mp m with rfl|m
  ·exact⟨i,rfl⟩
  ·exact b v m
theorem zT {g:Gd} (H:Hd g) {A:ef} {F:Addr->Prop} {Z:St} {U:Nat->Addr} {s:ce} {us:List bo} {l:List V} {k:K1} {x:KX} (AO:AOk A F 60) (hh:A.handled=none) (W:R g Z U s.heap) (P:Pv g F aL Z U s.heap) (ru:VRs g s.heap U Z.nx l us) (h:Fh l Z k=true) :
  dk g.m A (f5 (.ref (g.fa 52)) us) (Po g F aL Z U s k) (PX g F aL Z U s x) s:=by
 refine g7 h ?_;rintro a rfl I
 refine cA I ?_;rintro i rfl w
 induction C:Z.mut i using dI with
 | true=>replace w:=C▸w;exact aS w
 | false =>
 replace w:=C▸w
 refine ak (show af (jY (Z.get i) 3) (k (.obj Z.nx) (Z.new (.sck []))) false=true from w) fun h3 hk=>?_
 have Y:=fj h3
 have hi:=aC W Y
 refine ai (aB W Y:TabAt s.heap (U i) 3) fun vs pl iv=>?_
 refine ai (yz (g:=g) (h:=s.heap) (U:=U) (n:=Z.nx) iv) fun L rL iL=>?_
 let τ:St:=⟨Z.nx,[(i,.lst L)],0,Z.mu⟩
 have tn:τ.nx=Z.nx:=rfl
 have N:∀{j o},τ.get j=some o->j=i/\o=.lst L:=fun e=>oG (τ:=Z) e
 have ti:τ.get i=some (.lst L):=by
  show @Option.rec O (fun y=>Option O) none (fun o=>some o) (az i [(i,.lst L)])=_
  rewrite[ax];exact aa (if_pos rfl) rfl
 have S:R g τ U s.heap:=R.view (f:=g.nam) (hf:=g.hnam) W (e5 _) fun j o e=>by
  refine am (N e) ?_;rintro rfl rfl
  exact⟨hi,vs,pl,rL⟩
 have PT:Pv g F aL τ U s.heap:=P
 have n1:(τ.new (.lst [])).get i=some (.lst L):=by rewrite[dM];exact aa (if_neg (H5 hi)) ti
 have n2:(τ.new (.lst [])).get τ.nx=some (.lst []):=by rewrite[dM];exact aa (if_pos rfl) rfl
 obtain⟨q,eh⟩:∃q:Int,∀{K:K1},fX 1 (.fn 52) [.obj i] τ K n9=Ky K (.int q) (τ.new (.lst [])):=by
  have e0:∀{K:K1},fX 1 (.fn 52) [.obj i] τ K n9=e9 [] τ fun v τ=>wi .NotEq (.obj i) v τ fun t=>af t (cM (mN (.obj i) (.int 0) τ) fun a=>KQ .int [a] τ fun b τ=>Ky K b τ) (Ky K (.int 0) τ):=fun{K} =>
   congrFun (congrFun (congrFun (congrFun (congrFun (congrFun CZ (fX 0)) (fX 0)) τ) i) K) n9
  have e1:FM (τ.new (.lst [])) (.obj i) (.obj τ.nx)=ND L []:=by
   show K9 ((τ.new (.lst [])).get i) (fun l=>K9 ((τ.new (.lst [])).get τ.nx) fun r=>ND l r)=_
   exact aa n1 (aa n2 rfl)
  have e2:mN (.obj i) (.int 0) (τ.new (.lst []))=dG L 0:=by
   show An ((τ.new (.lst [])).get i) (.int 0)=_
   exact aa n1 rfl
  induction L using fV with
  | nil =>
   refine⟨0,fun{K}=>e0.trans ?_⟩
   show cM (FM (τ.new (.lst [])) (.obj i) (.obj τ.nx)) (fun t=>af (not t) _ _)=_
   exact aa e1 rfl
  | cons v L =>
   refine aG (iL v (.head _)) ?_;rintro j rfl
   refine⟨j,fun{K}=>e0.trans ?_⟩
   show cM (FM (τ.new (.lst [])) (.obj i) (.obj τ.nx)) (fun t=>af (not t) (cM (mN (.obj i) (.int 0) (τ.new (.lst []))) fun a=>KQ .int [a] (τ.new (.lst [])) fun b τ=>Ky K b τ) _)=_
   exact aa e1 (aa e2 rfl)
 have u:=fun{K:K1}=>(eh (K:=K)).trans Fw
 generalize hx:Nv (Fv q)=X0 at u
 generalize hy:(Fv q).fmod 1000000033+71=Y0 at u
 have so:gB X0 Y0:=by
  have l0:0<=Fv q:=by unfold Fv;split<;>lia
  refine⟨?_,?_,?_⟩
  ·refine bw hx ?_;unfold Nv;split<;>lia
  ·have:=Int.emod_nonneg (Fv q) (show(1000000033:Int)≠0 by decide)
   refine bw hy (aa (wa _ (by decide)) ?_);lia
  ·have:=Int.emod_lt_of_pos (Fv q) (show(0:Int)<1000000033 by decide)
   refine bw hy (aa (wa _ (by decide)) ?_);lia
 have t1:(τ.new (.lst [])).nx=Z.nx+1:=rfl
 have E:fX 1 (.fn 52) [.obj i] τ (KV (.obj (Z.nx+1)) ((τ.new (.lst [])).new (.lst [.int X0,.int Y0]))) n9=true:=by exact aa u qu
 refine dt (me H.pr 1 (cK (by lia) AO) (fun y h=>h) E S PT rfl ru) (fun v s' p=>?_) fun y y p=>jU p
 obtain⟨a3,a2,a,G,ra,hz⟩:=p
 refine am (B9 hz) ?_;rintro rfl rfl
 refine ai (aB G.r (i:=Z.nx+1) (o:=.lst [.int X0,.int Y0]) (by rewrite[dM];refine aa t1 (aa (if_pos rfl) ?_);rfl)) ?_;intro a1 M r2
 refine eM (yi r2) ?_;rintro ta tb rfl
 have Q:(Z.new (.sck [])).nx=Z.nx+1:=rfl
 have G2:Go g F aL Z U s (Z.new (.sck [])) (fun j=>if j<Z.nx then U j else a2 (j+1)) s':=by
  refine Go.frame (f:=g.nam) (hf:=g.hnam) (J:=fun j=>j+1) W P S G (e5 _) (fun j o e m=>?_) (sr _) rfl (fun j I w=>?_) (fun j1 j2 y y y y e=>Nat.succ.inj e) (fun j=>rfl) (fun j o e=>?_) fun j m B=>?_
  ·refine am (N e) ?_;rintro rfl rfl
   rcases m with m|⟨c,d,m⟩
   ·replace m:=C▸(show τ.mut j=Z.mut j from rfl)▸m;exact aS m
   ·exact gR m rfl
  ·replace w:=Q▸w
   show Z.nx<=j+1/\j+1<Z.nx+2
   exact Op I w
  ·rw[dM] at e
   refine aa Q ?_
   by_cases B:Z.nx=j
   ·subst B
    replace e:=if_pos rfl▸e;cases e
    refine⟨by lia,.inr ⟨fun z=>absurd z (nY _),?_⟩⟩
    refine aa (if_neg (nY _)) ?_
    exact⟨X0,Y0,ta,tb,M,so,trivial⟩
   ·replace e:=if_neg B▸e
    have lj:=aC W e
    refine⟨by lia,.inl ⟨lj,e,fun o' e'=>?_⟩⟩
    refine am (N e') ?_;rintro rfl rfl
    exact⟨C,fun y y z=>gR z rfl⟩
  ·rewrite[dM];exact aa (if_neg (H5 B)) rfl
 refine⟨_,_,.obj Z.nx,G2,⟨?_,by refine aa Q ?_;lia⟩,hk⟩
 exact ra.1.trans (congrArg bo.ref (if_neg (nY Z.nx)).symm)
def Kz (g:Gd) (gT:Tx) (sc:Scope) (EP:Env->Prop) (st:Stmt) (d:DS):Prop:=∀{call ch:Call} {A:ef} {F:Addr->Prop} {env:Env} {cs:List (Nat×Nat)} {vs:aO} {Z:St} {kn:KN} {kr:K1} {x:KX} {s:ce} {U:Nat->Addr},
 EP env->Cs g gT call ch A F env sc->R g Z U s.heap->Pv g F (XL env) Z U s.heap->EnvS g env sc Z U s.heap cs vs->d call ch cs vs Z kn kr x=true ->
  dk g.m A (exec st env) (PoS g F env sc Z U s cs kn kr) (PX g F (XL env) Z U s x) s
section
variable {g:Gd} {gT:Tx} {sc:Scope} {EP:Env->Prop} {K:Frag} {aT:List Nat}
theorem GR {st:Sx} (h:SS g gT sc st):Kz g gT sc EP (Hg st) (eN st):=fun b C W P E a=>h C W P E a
theorem Fx:KT g gT sc EP [] Ax:=fun b C W P E a=>ct ⟨_,_,_,.refl W P,E,a⟩
theorem jZ {st:Stmt} {b:List Stmt} {d1 d2:DS} (hh:Kz g gT sc EP st d1) (ht:KT g gT sc EP b d2):KT g gT sc EP (st::b) (kQ d1 d2):=by
 intro d u A F j m y Z t w x s U e C W P E i
 rw[arm_execs_cons]
 refine b9 (dt (hh e C W P E i) (fun f o q=>?_) fun a a q=>q)
 cases f with
 | next =>
  obtain⟨n,z,h,c,l,k⟩:=q
  exact dt (ht e C c.r c.p l k) (fun a a q=>q.from W c) fun a a q=>q.from W c
 | ret v=>exact ct q
 | brk=>exact q.elim
 | cont=>exact q.elim
def KA (a:Nat) (b:V) (c:Call) (cs:List (Nat×Nat)) (vs:aO) (Z:St) (kn:KN) (x:KX):Bool:=F2 aq c cs vs [] Z (fun u Z=>db u fun i=>Hj (Z.get i) i a b Z (kn vs)) x
variable {call ch:Call} {A:ef} {F:Addr->Prop} {env:Env} {cs:List (Nat×Nat)} {vs:aO} {Z:St} {kn:KN} {kr:K1} {x:KX} {s:ce} {U:Nat->Addr}
theorem yA (KO:ClsOk g K aT) (XP:ExcP g aT) {a:Nat} (ha:aT.contains a=true) {fp:Pos} (ho:SV g gT true sc (.cel aq fp)) (C:Cs g gT call ch A F env sc) (W:R g Z U s.heap) (P:Pv g F (XL env) Z U s.heap) (E:EnvS g env sc Z U s.heap cs vs) {b:V} {v:bo}
  (r:VR g s.heap U Z.nx b v) (h:KA a b call cs vs Z kn x=true) {Q:Unit->ce->Prop} (hq:∀s' Z' U',Go g F (XL env) Z U s Z' U' s'->EnvS g env sc Z' U' s'.heap cs vs->kn vs Z'=true->Q () s') :
  dk g.m A (eval (aX (.cel aq fp)) env) (fun ov s2=>dk g.m A (setAttr ov (nm a) v) Q (PX g F (XL env) Z U s x) s2) (PX g F (XL env) Z U s x) s:=by
 refine uH W P (ho (cv:=[]) C.x W P.noX E.e (show dR (.cel aq fp) call cs vs [] Z _ x=true from h)) fun u s2 S=>?_
 obtain⟨y,Y,c,j,M,f⟩:=S
 have X2:=j.xl W P
 have E2:=E.go W P.noX C.x.fl (fun z=>z) j
 refine cA f ?_;clear f;rintro i rfl f
 have w:∀{I:St} {H:Nat->Addr} k,Go g F aL y Y s2 I H k->kn vs I=true->Q () k:=fun{I H} k n f =>
  hq k I H ((j.trans W n).xl W P) (E2.go j.r j.p C.x.fl (fun z=>z) n) f
 refine am M ?_;clear M;rintro rfl hi
 have o:∀{d:Nat},eP (y.get d) (fun l=>sN d (put a b l) y (kn vs))=true->∃l,y.get d=some (.dic l)/\y.mut d=true/\(put a b l).length<=900/\kn vs (y.set d (.dic (put a b l)))=true:=fun{d} f=>by
  refine gD f fun l B f=>?_
  refine ak f fun q f=>?_
  refine ak f fun t f=>?_
  have q:=bY q
  rw[bB] at q
  exact⟨l,B,t,q,f⟩
 rcases Ga f with ⟨N,d,G,L,f⟩|⟨N,d,G,hc,f⟩|⟨N,d,G,h2,h4,f⟩
 ·refine qG (o f) fun l B t q f=>?_
  exact rm KO j.r j.p ha L G t B (j.vr r) q fun k n=>w k n f
 ·refine qG (o f) fun l B t q f=>?_
  exact XP.set ha j.r j.p hc G t B (j.vr r) q fun k n=>w k n f
 ·refine ak f fun t f=>?_
  refine ak f fun J f=>?_
  exact XP.set0 ha j.r j.p h2 h4 G t J (j.vr r) fun H k n=>w k n f
theorem qE (KO:ClsOk g K aT) (XP:ExcP g aT) {a:Nat} (ha:aT.contains a=true) {fp ap:Pos} (ho:SV g gT true sc (.cel aq fp)) (C:Cs g gT call ch A F env sc) (W:R g Z U s.heap) (P:Pv g F (XL env) Z U s.heap) (E:EnvS g env sc Z U s.heap cs vs) {b:V} {v:bo}
  (r:VR g s.heap U Z.nx b v) (h:KA a b call cs vs Z kn x=true) {Q:Unit->ce->Prop} (hq:∀s' Z' U',Go g F (XL env) Z U s Z' U' s'->EnvS g env sc Z' U' s'.heap cs vs->kn vs Z'=true->Q () s') :
  dk g.m A (assign (.Attribute (aX (.cel aq fp)) (nm a) ap) env v) Q (PX g F (XL env) Z U s x) s:=by
 rw[arm_assign_Attribute]
 refine b9 (gv (dt (yA KO XP ha ho C W P E r h hq) (fun d e q=>?_) fun c c q=>q))
 refine b9 (io (b9 (gv (dt q (fun c f z=>?_) fun c c q=>q))))
 exact wpAny_release z
theorem vG {ts es:List Expr} {kk kk':Nat} {tp p:Pos}:swappedStores [.Tuple ts kk tp] (.Tuple es kk' p) env =
  (if !((ts.length==2||ts.length==3))||es.length !=ts.length||env.blockKind !=.function then return none
  else if(es.any O3) then return none
  else if(ts.filterMap (vo env ((ts.head?.map (·.pos.line)).getD 0))).length !=ts.length||(ts.filterMap (vo env ((ts.head?.map (·.pos.line)).getD 0))).eraseDups.length !=(ts.filterMap (vo env ((ts.head?.map (·.pos.line)).getD 0))).length then return none
  else if es.all (foldedForSure 8) then return none
  else if es.all (constantsAlone 8) then(do let _:Unit <-unsupported "assign.tuple-of-constant-expressions:order-of-the-stores";return some (ts.filterMap (vo env ((ts.head?.map (·.pos.line)).getD 0))))
  else return some (ts.filterMap (vo env ((ts.head?.map (·.pos.line)).getD 0)))):=by
 rfl
theorem KB {e1 e2:Expr} {a1 a2:Str} {p1 p2:Pos} {es:List Expr} {kk kk':Nat} {tp p:Pos}:swappedStores [.Tuple [.Attribute e1 a1 p1,.Attribute e2 a2 p2] kk tp] (.Tuple es kk' p) env=pure none:=by
 refine aa vG ?_
 split
 ·rfl
 ·split
  ·rfl
  ·exact if_pos rfl
noncomputable abbrev KC:Pos:=⟨622,4,622,9⟩
noncomputable abbrev K3:Pos:=⟨622,17,622,22⟩
def NS:Stmt:=.Assign [.Tuple [.Attribute (aX (.cel aq KC)) (nm aD) ⟨622,4,622,15⟩,.Attribute (aX (.cel aq K3)) (nm bP) ⟨622,17,622,28⟩] 0 ⟨622,4,622,28⟩] (aX Ew) ⟨622,4,622,50⟩
def d2:DS:=fun c g e d Z f g x=>dR Ew c e d [] Z (fun v Z=>bL v fun l=>yB l fun a b=>KA aD a c e d Z (fun d Z=>KA bP b c e d Z f x) x) x
theorem QC (KO:ClsOk g K aT) (XP:ExcP g aT) (hl:gT.lp=true) (h1:aT.contains aD=true) (h2:aT.contains bP=true) (hT:SV g gT true sc Ew) (ho:∀p,SV g gT true sc (.cel aq p)):Kz g gT sc EP NS d2:=by
 intro i ch A F c cs G Z kn kr x s U ep C W P E h
 have fe:=C.fe E
 unfold NS
 rewrite[PyProof.Rows.exec_Assign];refine aa (md Ew rfl _ _ _ _ c) ?_
 refine b9 (io (b9 (ct ?_)))
 refine aa (if_neg (by decide)) ?_
 refine b9 (uH W P (hT (cv:=[]) C.x W P.noX E.e h) fun v f z_=>?_)
 obtain⟨u,H,a,m,w,hk⟩:=z_
 have M:=m.xl W P
 have E1:=E.go W P.noX C.x.fl (fun z=>z) m
 have hs:∀{σ:List Expr},swappedStores [.Tuple [.Attribute (aX (.cel aq KC)) (nm aD) ⟨622,4,622,15⟩,.Attribute (aX (.cel aq K3)) (nm bP) ⟨622,17,622,28⟩] 0 ⟨622,4,622,28⟩] (aX Ew) c=pure none:=fun{σ}=>KB
 refine aa (hs (σ:=[])) ?_
 refine b9 (ct ?_)
 refine fg hk ?_;rintro l rfl Q
 refine pF Q ?_;rintro b1 b2 rfl J
 have a1:KA aD b1 i cs G u (fun G Z=>KA bP b2 i cs G Z kn x) x=true:=J
 refine aA w ?_;clear w;rintro ad us rfl Y d;refine aA Y fun o n S hc hd=>?_;refine aA d ?_;clear d;rintro v1 q1 rfl w d;refine aA d ?_;clear d;rintro y q2 rfl r2 rfl
 have e1:∀{T:Expr} {v:bo},assignStores c v none ((assignEach [T] c).map (·.2))=(do assignAll v ((assignEach [T] c).map (·.2));pure Flow.next):=rfl
 refine aa e1 ?_
 refine b9 ?_
 show dk _ _ (assign (.Tuple [.Attribute (aX (.cel aq KC)) (nm aD) ⟨622,4,622,15⟩,.Attribute (aX (.cel aq K3)) (nm bP) ⟨622,17,622,28⟩] 0 ⟨622,4,622,28⟩) c (.ref ad)) _ _ f
 refine assign_Tuple_tuple (items:=[v1,y].toArray) (C.x.hd hl) ⟨o,S,hc,n,hd⟩ rfl rfl fun I he=>?_
 have j:∀b o,f.heap.get? b=some o->I.get? b=some o:=fun b o e=>he b o (fun z=>by replace e:=(z)▸e;rewrite[cn] at e;exact bj e) e
 have t:Go g F (XL c) u H f u H {f with heap:=I,toks:=f.toks}:=.grow M.r M.p j
 have G0':Go g F aL u H f u H {f with heap:=I,toks:=f.toks}:=.grow m.r m.p j
 have E2:=E1.go m.r m.p C.x.fl (fun z=>z) G0'
 have GA:=M.trans W t
 show dk _ _ (do holding [y] (assign (.Attribute (aX (.cel aq KC)) (nm aD) ⟨622,4,622,15⟩) c v1);assignInOrder [assign (.Attribute (aX (.cel aq K3)) (nm bP) ⟨622,17,622,28⟩) c] [y]) _ _ _
 refine b9 (gv (dt (qE KO XP h1 (ho KC) C t.r t.p E2 (t.vr w) a1 fun s3 Z3 U3 B E3 L=>?_) (fun k k q=>q) fun k k q=>q.from W GA))
 have GB:=GA.trans W B
 show dk _ _ (do holding [] (assign (.Attribute (aX (.cel aq K3)) (nm bP) ⟨622,17,622,28⟩) c y);assignInOrder [] []) _ _ s3
 refine b9 (gv (dt (qE KO XP h2 (ho K3) C B.r B.p E3 (B.vr (t.vr r2)) L fun s4 Z4 U4 G4 E4 N=>?_) (fun k k q=>q) fun k k q=>q.from W GB))
 exact ct (ct ⟨Z4,U4,G,GB.trans W G4,E4,N⟩)
end
abbrev Lq:=Arguments×Expr×Scope×Pos
def cr (w:Nat):Lq:=@Option.rec Lq (fun a=>Lq) (⟨[],[],none,[],[],none,[]⟩,.Name (nm ae) KC,⟨.function,[],false,false,[]⟩,KC) (fun q=>q) (qX w)
theorem Nw:qX 0=some (cr 0):=by kernel_rfl
theorem Nx:qX 1=some (cr 1):=by kernel_rfl
theorem Fy:(fun env=>defaultsOf (cr 0).1 env)=fun env=>([],[]):=by kernel_rfl
theorem Fz:(fun env=>defaultsOf (cr 1).1 env)=fun env=>([],[]):=by kernel_rfl
theorem KD:(cr 0).2.2.1.names=[(nm ae,.local),(nm aq,.free)]:=by kernel_rfl
theorem KF:(cr 1).2.2.1.names=[(nm ae,.local),(nm bE,.local),(nm aq,.free)]:=by kernel_rfl
theorem KG:((cr 0).2.2.2.line,(cr 0).2.2.2.col)=(623,21):=by kernel_rfl
theorem KH:(cr 1).2.2.2.line=624:=by kernel_rfl
theorem C0:dX "_law_image"++".<locals>."++"<lambda>"=yL:=by kernel_rfl
theorem KI:("<lambda>":Str)=Jq:=by kernel_rfl
theorem QD {env:Env} {a:Addr} (h:env.cells.lookup (nm aq)=some a):closureFor (cr 0).2.2.1 env=pure [(nm aq,a)]:=by
 have b:cellOf env (nm aq)=pure a:=by unfold cellOf;exact aa h rfl
 unfold closureFor
 refine aa KD ?_
 simp only[tc,List.forIn_nil,b,show(i3.local==i3.free)=false from rfl,show(i3.free==i3.free)=true from rfl,if_true,B0,if_false,pure_bind]
theorem QE {env:Env} {a:Addr} (h:env.cells.lookup (nm aq)=some a):closureFor (cr 1).2.2.1 env=pure [(nm aq,a)]:=by
 have b:cellOf env (nm aq)=pure a:=by unfold cellOf;exact aa h rfl
 unfold closureFor
 refine aa KF ?_
 simp only[tc,List.forIn_nil,b,show(i3.local==i3.free)=false from rfl,show(i3.free==i3.free)=true from rfl,if_true,B0,if_false,pure_bind]
theorem Px {h:Heap} {a:Addr} (x:TabAt h a 0):∃ps,a=744/\h.get? a=some (tabObj ps)/\TriplesOk ps.toList/\codeAmong (cr 0).2.2.2 ps.toList=none/\∀(h':Heap) (c':Addr),h'.get? a=some (tabObj (ps++#[rawInt (cr 0).2.2.2.line,rawInt (cr 0).2.2.2.col,.ref c']))->TabAt h' a 1:=by
 refine⟨#[],x.1,x.2,trivial,rfl,fun h' c' e=>⟨x.1,c',?_⟩⟩
 refine am (Prod.mk.inj KG) fun b c=>?_
 replace e:=c▸b▸e
 exact e
theorem Py {h:Heap} {a:Addr} (x:TabAt h a 1):∃ps,a=744/\h.get? a=some (tabObj ps)/\TriplesOk ps.toList/\codeAmong (cr 1).2.2.2 ps.toList=none/\∀(h':Heap) (c':Addr),h'.get? a=some (tabObj (ps++#[rawInt (cr 1).2.2.2.line,rawInt (cr 1).2.2.2.col,.ref c']))->TabAt h' a 4:=by
 refine am x fun d b=>?_;refine aG b fun c e=>?_
 refine⟨_,d,e,trivial,?_,fun h' c' e=>⟨d,_,e⟩⟩
 show codeAmong (cr 1).2.2.2 [.int 623 0,.int 21 0,.ref c]=none
 unfold codeAmong
 refine aa KH ?_
 rfl
def d3 (w a nxt:Nat):DS:=fun c e b f Z d e x=>cM (az aq b) fun i=>af (c6 (begV.stN Z) (jf 1032 w)) (af (jY (Z.get 1) w) (af (Z.mut 1) (KA a (.clo w i) c b f ((Z.set 1 (.tab nxt)).new (.tab 2)) d x) false) false) false
section
variable {g:Gd} {gT:Tx} {sc:Scope} {EP:Env->Prop} {K:Frag} {aT:List Nat} {mg:Str->Option bo} {cd:Addr}
theorem Qg (hclo:g.clo=Jr) (KO:ClsOk g K aT) (XP:ExcP g aT) {w a nxt:Nat} (hw:w<2) (hq:qX w=some (cr w)) (hdf:∀env,defaultsOf (cr w).1 env=([],[])) (hcl:∀{env:Env} {a:Addr},env.cells.lookup (nm aq)=some a->closureFor (cr w).2.2.1 env=pure [(nm aq,a)])
  (htab:∀{h:Heap} {a:Addr},TabAt h a w->∃ps,a=744/\h.get? a=some (tabObj ps)/\TriplesOk ps.toList/\codeAmong (cr w).2.2.2 ps.toList=none/\∀(h':Heap) (c':Addr),h'.get? a=some (tabObj (ps++#[rawInt (cr w).2.2.2.line,rawInt (cr w).2.2.2.col,.ref c']))->TabAt h' a nxt)
  (hEP:∀env,EP env->env.code=.ref cd/\env.qual=dX "_law_image"++".<locals>.") (hHd:∀h,Bh g h->CodeHd h cd 744) (hmg:∀h,Bh g h->h.Ns mainGlobals mg/\h.BuiltinsAt mg 744) (ha:aT.contains a=true) (hk:aP sc aq .cell=true) (ho:∀p,SV g gT true sc (.cel aq p)) {fp ap p:Pos} :
  Kz g gT sc EP (.Assign [.Attribute (aX (.cel aq fp)) (nm a) ap] (.Lambda (cr w).1 (cr w).2.1 (cr w).2.2.1 (cr w).2.2.2) p) (d3 w a nxt):=by
 intro a9 ch A F env cs vs Z kn kr x s U ep C W P E h
 refine bS h ?_;intro i ei h1
 refine ak h1 ?_;intro h2 h3
 have nx:Z.nx=1032+w:=bz h2
 refine ak h3 ?_;intro h4 h5
 have et:=fj h4
 refine ak h5 ?_;intro hm h6
 refine am (hEP env ep) ?_;intro ec eq
 refine zW (htab (aB W et)) ?_;intro ps c hP hT hN a8
 refine am (E.e.cel aq i (by refine aa hk ?_;rfl) ei) ?_;intro hi el
 refine am (hmg s.heap W.base) ?_;intro a6 a5
 refine plainObj_wpAny_Assign_Attribute (kla_eval (hdf env) (kla_makeFunction (hcl el) E.e.glob a6 ec (hHd s.heap W.base) (c▸hP) hT hN (by decide) a5 fun c' G h' tk hx a1 ab t N=>?_)) rfl
 refine NX t ?_;clear t;intro ad oc a7 tq e2 Y a2 J
 cases e2
 replace J:=C0▸eq▸J
 refine aa eq (aa C0 ?_)
 generalize hF:h'.push (kla_obj "<lambda>" yL (cr w).1 (cr w).2.1 (cr w).2.2.1 [(nm aq,U i)] ((mg "__name__").getD .none) c' G)=hp
 have M:∀b o,h'.get? b=some o->hp.get? b=some o:=fun b o e=>by refine bw hF ?_;exact f4 _ e
 have eF:hp.get? h'.objs.size=some (kla_obj "<lambda>" yL (cr w).1 (cr w).2.1 (cr w).2.2.1 [(nm aq,U i)] ((mg "__name__").getD .none) c' G):=by refine bw hF ?_;exact fI _ rfl
 have S:=aC W et
 have G1:Go g F (XL env) Z U s (Z.set 1 (.tab nxt)) U {s with heap:=hp,toks:=tk} :=
  .set W P hm et (fun b o hb e=>M b o (hx b o (fun z=>hb (z.trans c.symm)) e)) (M _ _ (c▸N)) fun I=>a8 hp c' (M _ _ (c▸N))
 have k:∀b o,s.heap.get? b=some o->b≠c':=fun b o e z=>by
  exact absurd (f3 (l4 e) a1) (by refine aa z ?_;exact nY _)
 have fc:s.heap.get? c'=none:=E8 a1
 have bc:g.B c'=none:=by
  induction z:g.B c' using cN with
  | none=>rfl
  | some oz=>exact absurd rfl (k _ _ (W.base _ _ z))
 have pc:¬F c'/\¬XL env c':=⟨fun z=>(by refine am (P c' (.inl z)) ?_;intro d f;refine ai d ?_;clear d;intro ob e a4;exact k _ _ e rfl),fun z=>(by refine am (P c' (.inr z)) ?_;intro d f;refine ai d ?_;clear d;intro ob e a4;exact k _ _ e rfl)⟩
 have ne:∀j,j<(Z.set 1 (.tab nxt)).nx->U j≠c':=fun j hj=>by
  refine aG (W.ex j hj) ?_;intro oz ez
  exact k _ _ ez
 have n:=G1.adopt (a:=c') fc ne bc pc (M _ _ Y) (o:=.tab 2) ⟨oc,a7,tq,M _ _ Y,a2,J⟩
 have H:(Z.set 1 (.tab nxt)).nx=1032+w:=nx
 have rC:VR g hp (i6 U (Z.set 1 (.tab nxt)).nx c') ((Z.set 1 (.tab nxt)).new (.tab 2)).nx (.clo w i) (.ref h'.objs.size):=by
  refine⟨⟨_,_,rfl,eF,?_⟩,?_,?_⟩
  ·refine aa hclo (aa H (aa upd_at (aa (bu (by refine bw nx ?_;exact hi)) ?_)))
   exact⟨hw,cr w,_,G,hq,by refine bw KI ?_;rfl⟩
  ·show i<(Z.set 1 (.tab nxt)).nx+1
   refine aa H (bw nx ?_);exact vb hi
  ·show 1032+w<(Z.set 1 (.tab nxt)).nx+1
   refine aa H ?_;exact f2 _
 have E2:EnvS g env sc ((Z.set 1 (.tab nxt)).new (.tab 2)) (i6 U (Z.set 1 (.tab nxt)).nx c') hp cs vs:=by
  have L:=n.l
  refine⟨⟨E.e.kind,?_,fun y j hy hl=>?_,E.e.knL,E.e.knC,E.e.knG,E.e.glob,E.e.blt,E.e.cla⟩,E.ok⟩
  ·refine ai E.e.loc ?_;intro m f lk;refine hU f ?_;clear f;intro ob es a3 eo rr
   have nl:env.locals≠744:=fun z=>(P _ (.inr rfl)).2.2 1 S (c.trans z.symm)
   exact⟨m,⟨ob,es,a3,M _ _ (hx _ _ nl eo),rr⟩,fun y v hy=>ai (lk y v hy) fun u a b=>⟨u,a,n.vr b⟩⟩
  ·refine am (E.e.cel y j hy hl) ?_;intro a b
   exact⟨f3 a n.sp.nx,by refine aa (n.sp.ag j a) ?_;exact b⟩
 refine dt (yA KO XP ha (ho fp) C n.r n.p E2 rC h6 (Q:=fun I s'=>PoS g F env sc Z U s cs kn kr .next s') fun s3 Z3 U3 G3 E3 hk=>?_) (fun ov s2 q=>dt q (fun I I z=>z) fun I I q=>q.from W n) fun I I q=>q.from W n
 exact⟨Z3,U3,vs,n.trans W G3,E3,hk⟩
end
def Ny:Sx:=.asg (true,aq,⟨621,4,621,9⟩) (.cal (.glo (.cls lH) lD ⟨621,12,621,18⟩) .nil ⟨621,12,621,20⟩) ⟨621,4,621,20⟩
def Nz:Sx:=.ret (.cel aq ⟨625,11,625,16⟩) ⟨625,4,625,16⟩
theorem C9:fm fM=[Hg Ny,NS,.Assign [.Attribute (aX (.cel aq ⟨623,4,623,9⟩)) (nm cZ) ⟨623,4,623,18⟩] (.Lambda (cr 0).1 (cr 0).2.1 (cr 0).2.2.1 (cr 0).2.2.2) ⟨623,4,623,55⟩,
 .Assign [.Attribute (aX (.cel aq ⟨624,4,624,9⟩)) (nm eW) ⟨624,4,624,16⟩] (.Lambda (cr 1).1 (cr 1).2.1 (cr 1).2.2.1 (cr 1).2.2.2) ⟨624,4,624,72⟩,Hg Nz]:=by kernel_rfl
def NA:DS:=kQ (eN Ny) (kQ d2 (kQ (d3 0 cZ 1) (kQ (d3 1 eW 4) (kQ (eN Nz) Ax))))
def QF (o:Option O) (k:O->Bool):Bool:=cM o k
def GS (a b:O):Bool:=O.casesOn b (fun l=>vF (some a) l) (fun l=>rY (some a) l) (fun c d=>xc (some a) fun f e=>af (c6 f c) (c6 e d) false) aJ (fun v=>zY (some a) fun u=>rI u v) false ac ac ac ac
theorem Da {a b:O} (h:GS a b=true):a=b:=by
 cases b<;>first|((first|exact aS h|cases h);done)|skip
 case lst l=>exact ma (qC (show vF (some a) l=true from h))
 case dic l=>exact ma (mw (show rY (some a) l=true from h))
 case ins c d =>
  refine wu (show xc (some a) (fun g f=>af (c6 g c) (c6 f d) false)=true from h) fun g f e k=>?_
  cases e
  refine ak k fun j i=>?_
  exact aa (bz j) (aa (bz i) rfl)
 case cel v =>
  cases a<;>first|((first|exact aS h|cases h);done)|skip
  case cel u=>exact aa (lY (show rI u v=true from h)) rfl
def KJ (a:V) (τ:St):Bool:=af (CT a 7) (af (c6 (begV.stN τ) 1034) (af (jY (τ.get 1) 4) (af (jY (τ.get 1032) 2) (af (jY (τ.get 1033) 2) (trC.allI (fun i o=>QF (τ.get i) fun b=>GS b o) 0 1) false) false) false) false) false
noncomputable abbrev imgτ:St:=⟨5,[(1,.tab 0)],0,0⟩
def Pz:Bool:=j8 [aq] [] imgτ fun a Z=>NA (fZ Dk mZ 30) (fX 30) a [] Z (fun b Z=>KJ .none Z) KJ n9
theorem FA:Pz=true:=by kernel_rfl
theorem KK:nQ 55=some F_law_image:=by kernel_rfl
theorem QG:aTl.contains aD=true/\aTl.contains bP=true/\aTl.contains cZ=true/\aTl.contains eW=true:=by decide
theorem rZ {i:Nat} {o:O}:∀{l:List (Nat×O)},Fi l=true->az i l=some o->i<5
 | p::r,h,e=>by
  refine ak (show af (l9 p.1 5) (Fi r) false=true from h) fun a b=>?_
  have e:az i ((p.1,p.2)::r)=some o:=e
  rw[ax] at e
  split at e
  ·rename_i z;exact bw z (dO a)
  ·exact rZ b e
theorem vH {Z:St} (ht:Z.tr=0) (hk:Fi Z.ob=true) {j:Nat} {o:O} (e:(CV Z).get j=some o):(j=1/\o=.tab 4)\/(j=1032/\o=.tab 2)\/(j=1033/\o=.tab 2)\/(j≠1/\j<5/\Z.get j=some o)\/(j≠1/\5<=j/\trC.get j=some o):=by
 obtain⟨c,ob,tr,d⟩:=Z
 cases ht
 have e:@Option.rec O (fun a=>Option O) (su 1 j) (fun o=>some o) (az j ((1,.tab 4)::(1032,.tab 2)::(1033,.tab 2)::ob))=some o:=e
 rw[ax] at e
 by_cases h1:1=j
 ·subst h1;replace e:=if_pos rfl▸e;cases e;exact .inl ⟨rfl,rfl⟩
 replace e:=(if_neg h1)▸e;rewrite[ax] at e
 by_cases h2:1032=j
 ·subst h2;replace e:=if_pos rfl▸e;cases e;exact .inr (.inl ⟨rfl,rfl⟩)
 replace e:=(if_neg h2)▸e;rewrite[ax] at e
 by_cases h3:1033=j
 ·subst h3;replace e:=if_pos rfl▸e;cases e;exact .inr (.inr (.inl ⟨rfl,rfl⟩))
 replace e:=if_neg h3▸e
 induction q:az j ob using cN with
 | some b =>
  replace e:=q▸e
  refine .inr (.inr (.inr (.inl ⟨Ne.symm h1,rZ hk q,?_⟩)))
  show @Option.rec O (fun a=>Option O) (su 0 j) (fun o=>some o) (az j ob)=some o
  exact aa q e
 | none =>
  replace e:=q▸e
  have e:trC.get j=some o:=e
  exact .inr (.inr (.inr (.inr ⟨Ne.symm h1,(jW e).1,e⟩)))
theorem xa {g:Gd} (H:Hd g) {A:ef} {F:Addr->Prop} {Z:St} {U:Nat->Addr} {s:ce} {us:List bo} {l:List V} {k:K1} {x:KX} (AO:AOk A F 60) (hh:A.handled=none) (W:R g Z U s.heap) (P:Pv g F aL Z U s.heap) (ru:VRs g s.heap U Z.nx l us) (h:Fj l Z k=true) :
  dk g.m A (f5 (.ref (g.fa 55)) us) (Po g F aL Z U s k) (PX g F aL Z U s x) s:=by
 refine ak h ?_;intro h1 h2
 cases mi h1
 refine ak h2 ?_;intro Y h4
 have Y:=qx Y
 refine ak Y ?_;clear Y;intro a1 Y
 refine ak Y ?_;intro a2 a3
 have t:Z.nx=5:=bz a1
 have Q:Z.tr=0:=bz a2
 refine ak h4 ?_;intro h5 h6
 have e1:=fj h5
 refine ak h6 ?_;intro hm hk
 have I:=H.pr
 refine am (tP H.img) ?_;intro L M;refine qG L ?_;clear L;intro n ad b0 a9 M;refine am a9 ?_;clear a9;intro ao S;refine ai M ?_;clear M;intro c b5 a4;refine ai M ?_;clear M;intro mg aM a7
 refine aA (I.fns 55 F_law_image KK) ?_;intro b7 ds FO w1 w2
 refine ai FO.obj ?_;intro o1 b1 b2
 refine ai (tN ad) ?_;intro o2 b3 b4
 replace b1:=b3▸H.fa▸b1
 cases b1
 replace b2:=b4▸b2
 cases b2
 have wb:wfS true glT aTl n.scope fM true=true:=w1
 have u:∀{a b:Sx},wfS true glT aTl n.scope (.cons a b) true=true->wfS true glT aTl n.scope a false=true/\wfS true glT aTl n.scope b true=true:=fun{a b} h=>an (show(wfS true glT aTl n.scope a false&&wfS true glT aTl n.scope b true)=true from h)
 refine am (u (a:=Ny) wb) ?_;intro ar r1
 refine am (u r1) ?_;intro L r2
 refine am (u r2) ?_;intro L r3
 refine am (u r3) ?_;intro L r4
 refine am (u (a:=Nz) r4) ?_;intro ab aM
 have hT:SV g ⟨glT,true⟩ true n.scope Ew:=(@gO g (cB g.B jT) aTl ⟨glT,true⟩ I.fc Ew .v n.scope true ao).1
 have ho:∀p,SV g ⟨glT,true⟩ true n.scope (.cel aq p):=fun p=>AR (aa S rfl)
 have S1:SS g ⟨glT,true⟩ n.scope Ny:=@tL g (cB g.B jT) aTl ⟨glT,true⟩ n.scope I.fc Ny false ar
 have S5:SS g ⟨glT,true⟩ n.scope Nz:=@tL g (cB g.B jT) aTl ⟨glT,true⟩ n.scope I.fc Nz false ab
 refine oM QG ?_;intro t1 t2 t3 t4
 have a5:∀d:Env,(d.code=n.code/\d.qual=n.qualname++".<locals>.")->d.code=.ref c/\d.qual=dX "_law_image"++".<locals>.":=fun d z=>⟨z.1.trans b5,aa z.2 (aa b0 rfl)⟩
 have hS:KT g ⟨glT,true⟩ n.scope (fun d=>d.code=n.code/\d.qual=n.qualname++".<locals>.") (fm F_law_image.bd) NA:=by
  have D0:Kz g ⟨glT,true⟩ n.scope (fun d=>d.code=n.code/\d.qual=n.qualname++".<locals>.") (.Assign [.Attribute (aX (.cel aq ⟨623,4,623,9⟩)) (nm cZ) ⟨623,4,623,18⟩] (.Lambda (cr 0).1 (cr 0).2.1 (cr 0).2.2.1 (cr 0).2.2.2) ⟨623,4,623,55⟩) (d3 0 cZ 1):=by
   intro call ch A F d cs vs Z kn kr x s U ep C W P E h
   exact Qg H.clo I.fc.KO I.fc.XP (w:=0) (by decide) Nw (fun d=>congrFun Fy d) QD Px a5 a4 a7 t3 S ho ep C W P E h
  have D1:Kz g ⟨glT,true⟩ n.scope (fun d=>d.code=n.code/\d.qual=n.qualname++".<locals>.") (.Assign [.Attribute (aX (.cel aq ⟨624,4,624,9⟩)) (nm eW) ⟨624,4,624,16⟩] (.Lambda (cr 1).1 (cr 1).2.1 (cr 1).2.2.1 (cr 1).2.2.2) ⟨624,4,624,72⟩) (d3 1 eW 4):=by
   intro call ch A F d cs vs Z kn kr x s U ep C W P E h
   exact Qg H.clo I.fc.KO I.fc.XP (w:=1) (by decide) Nx (fun d=>congrFun Fz d) QE Py a5 a4 a7 t4 S ho ep C W P E h
  have D2:Kz g ⟨glT,true⟩ n.scope (fun d=>d.code=n.code/\d.qual=n.qualname++".<locals>.") NS d2:=by
   intro call ch A F d cs vs Z kn kr x s U ep C W P E h
   exact QC (EP:=fun d=>d.code=n.code/\d.qual=n.qualname++".<locals>.") I.fc.KO I.fc.XP rfl t1 t2 @hT ho ep C W P E h
  have e:fm F_law_image.bd=fm fM:=rfl
  refine aa e (aa C9 ?_)
  exact @jZ g ⟨glT,true⟩ n.scope _ _ _ _ _ (@GR g _ _ _ _ @S1) (@jZ g _ _ _ _ _ _ _ @D2 (@jZ g _ _ _ _ _ _ _ @D0 (@jZ g _ _ _ _ _ _ _ @D1 (@jZ g _ _ _ _ _ _ _ (@GR g _ _ _ _ @S5) (@Fx g _ _ _)))))
 have as:∀m,0<m->wP g Dk mZ m:=fun m K=>by
  intro A F fv l Z k x U s f us _ _ h
  exact aS h
 have ρ:Under g ⟨glT,true⟩ A F 59 (fZ Dk mZ 30) (fX 30):=⟨I.base true,AO.q,fun K=>hh,fun AO' eh=>ki I 30 (D:=0) as (cK (by lia) AO') (eh.trans hh),fun K=>fun AO'=>me I 30 (uN (cK (by lia) AO'))⟩
 have tg:∀{j o},imgτ.get j=some o->j=1/\o=.tab 0:=fun e=>oG (τ:=Z) e
 have WT:R g imgτ U s.heap:=R.view (f:=g.nam) (hf:=g.hnam) W (aa t (e5 _)) fun j o e=>by
  refine am (tg e) ?_;rintro rfl rfl
  exact⟨show 1<5 by decide,aB W e1⟩
 have PT:Pv g F aL imgτ U s.heap:=Pv.view (f:=g.nam) (hf:=g.hnam) P (aa t (e5 _))
 have rT:VRs g s.heap U imgτ.nx [] us:=ru
 have al:=ro (k:=KJ) (x:=n9) FO ρ @hS WT PT rT (show nw F_law_image.ps [] F_law_image.ds=some [] from rfl) FA
 refine dt (kg al) (fun v s' p=>?_) fun K K p=>jU p
 obtain⟨b6,a8,a,G,ra,hz⟩:=p
 refine ak hz ?_;intro z1 au
 refine ak au ?_;intro z2 aT
 have a6:b6.nx=1034:=bz z2
 refine ak aT ?_;intro z3 ap
 refine ak ap ?_;intro z4 ah
 refine ak ah ?_;intro z5 z6
 cases hO z1
 have N:∀j,(if j<Z.nx then U j else a8 j)=a8 j:=fun j=>by
  split
  ·rename_i hj;exact(G.sp.ag j (by replace hj:=t▸hj;exact hj)).symm
  ·rfl
 have y:∀{j o},b6.get j=some o->OR g s'.heap (fun j=>if j<Z.nx then U j else a8 j) 1034 (if j<Z.nx then U j else a8 j) o:=fun{j o} e=>by
  refine aa (N j) ?_
  have:=aB G.r e
  replace this:=a6▸this
  exact this.mono Later.refl (fun i K=>N i) (e5 _) fun K e=>e
 have G2:Go g F aL Z U s (CV Z) (fun j=>if j<Z.nx then U j else a8 j) s':=by
  refine Go.frame (f:=g.nam) (hf:=g.hnam) (J:=id) W P WT G (aa t (e5 _)) (fun j o e m=>?_) (by refine aa t ?_;show 5<=1034;decide) rfl (fun j h1 h2=>?_) (fun j1 j2 K K K K e=>e) (fun j=>rfl) (fun j o e=>?_) fun j m hj=>?_
  ·refine am (tg e) ?_;rintro rfl rfl
   exact⟨hm,_,e1⟩
  ·replace h1:=t▸h1
   have h2:j<1034:=h2
   exact⟨h1,aa a6 h2⟩
  ·rcases vH Q a3 e with ⟨rfl,rfl⟩|⟨rfl,rfl⟩|⟨rfl,rfl⟩|⟨n1,lj,ej⟩|⟨n1,lj,ej⟩
   ·exact⟨show 1<1034 by decide,.inr ⟨fun K=>⟨_,e1⟩,y (fj z3)⟩⟩
   ·exact⟨show 1032<1034 by decide,.inr ⟨fun z=>absurd z (by refine aa t ?_;decide),y (fj z4)⟩⟩
   ·exact⟨show 1033<1034 by decide,.inr ⟨fun z=>absurd z (by refine aa t ?_;decide),y (fj z5)⟩⟩
   ·exact⟨show j<1034 by lia,.inl ⟨aa t lj,ej,fun o' e'=>absurd (tg e').1 n1⟩⟩
   ·have l2:=(jW ej).2.1
    refine⟨show j<1034 by lia,.inr ⟨fun z=>absurd z (by refine aa t ?_;lia),?_⟩⟩
    have:=T.allI_get z6 ej
    rw[Nat.zero_add,Nat.one_mul] at this
    refine bS this ?_;intro o' eo so
    refine bw (Da so) ?_
    exact y eo
  ·replace hj:=t▸hj
   have n1:j≠1:=fun z=>by replace m:=hm▸z▸m;cases m
   induction q:(CV Z).get j using cN with
   | some o =>
    rcases vH Q a3 q with ⟨z,_⟩|⟨z,_⟩|⟨z,_⟩|⟨_,_,ej⟩|⟨_,lj,_⟩
    ·exact absurd z n1
    ·lia
    ·lia
    ·exact ej.symm
    ·lia
   | none =>
    induction q2:Z.get j using cN with
    | none=>rfl
    | some o =>
     exfalso
     obtain⟨nx,ob,tr,mu⟩:=Z
     cases Q
     have q2:@Option.rec O (fun K=>Option O) none (fun o=>some o) (az j ob)=some o:=q2
     have q:@Option.rec O (fun K=>Option O) (su 1 j) (fun o=>some o) (az j ((1,.tab 4)::(1032,.tab 2)::(1033,.tab 2)::ob))=none:=q
     rewrite[ax] at q;replace q:=(if_neg (Ne.symm n1))▸q;rewrite[ax,if_neg (by lia),ax,if_neg (by lia)] at q
     induction q3:az j ob using cN with
     | none=>replace q2:=q3▸q2;exact bj q2
     | some o'=>replace q:=q3▸q;exact t9 q
 refine⟨CV Z,_,.obj 7,G2,⟨?_,show 7<1034 by decide⟩,hk⟩
 exact ra.1.trans (congrArg bo.ref (N 7).symm)
def vI (h:Heap):Prop:=∃L:Hk,(∀b o,L b=some o->h.get? b=some o/\o.cls≠.type "list")/\L 744=none/\(zy L&&BX L)=true/\nH L idsL=nJ idsL/\h.get? 744=some (tabObj #[])
theorem FD (w:World) (s:ce) (e:yf s=vt):vI s.heap:=by
 refine am (Prod.mk.inj e) fun c a=>?_
 refine am (Prod.mk.inj a) fun a d=>?_
 refine⟨M0 s.heap,fun b o h=>?_,rfl,c,a,d⟩
 have h:af (c6 b 744) none (rU (s.heap.get? b))=some o:=h
 induction q:c6 b 744 using dI with
 | true=>replace h:=q▸h;exact bj h
 | false=>replace h:=q▸h;exact BY h
theorem xb (w:World) (h h':Heap) (x:vI h) (k:∀b o,h.get? b=some o->h'.get? b=some o):vI h':=by
 refine zW x fun L a b c d e=>?_
 exact⟨L,fun b o h=>⟨k _ _ (a b o h).1,(a b o h).2⟩,b,c,d,k _ _ e⟩
def NT (w:World) (L:Hk):Gd where
 prog:=lawP
 w:=w
 B:=L
 fa:=qF
 ca:=mY
 clo:=Jr
 cloF:=fun o k c d h=>by
  refine am h ?_;clear h;intro b a;refine hU a ?_;clear a;rintro q i f e rfl
  exact⟨rfl,_,rfl⟩
 nam:=fun g=>av
 hnam:=fun g=>Ck
theorem FF {h:Heap} {a:Addr} {m m':Str->Option bo} (x:h.Ns a m) (y:h.Ns a m') (n:Str):m n=m' n:=by
 refine lf x fun o l q e d g f=>?_
 refine lf y fun p k i b c g j=>?_
 replace b:=e▸b;cases b
 replace c:=d▸c;cases c
 exact bw (f n) (bw (j n) rfl)
theorem vJ {i:Nat} {o:O} (e:lawS.get i=some o):(i=0/\o=.tab 3)\/(i=1/\o=.tab 0):=by
 have e:@Option.rec O (fun a=>Option O) none (fun o=>some o) (az i [(0,.tab 3),(1,.tab 0)])=some o:=e
 rw[ax] at e
 by_cases h:0=i
 ·subst h;replace e:=if_pos rfl▸e;cases e;exact .inl ⟨rfl,rfl⟩
 ·replace e:=(if_neg h)▸e;rewrite[ax] at e
  by_cases h2:1=i
  ·subst h2;replace e:=if_pos rfl▸e;cases e;exact .inr ⟨rfl,rfl⟩
  ·replace e:=if_neg h2▸e;exact bj e
theorem Db {w:World} {s:ce} {mg:Str->Option bo} {fa a:Addr} {vs:List bo} (Y:vI s.heap) (hns:s.heap.Ns mainGlobals mg) (hmg:mg "law"=some (.ref fa)) (hl:s.heap.get? a=some {cls:=.type "list",data:=.seq vs.toArray}) (hi:∀v∈vs,∃i t,v=.int i t) :
  dk (model lawP w) callerA (f5 (.ref fa) [.ref a]) (fun v s'=>v=.bool true/\OldK s.heap s'.heap/\s'.os=s.os/\s'.gens=s.gens) (fun u_ u_=>False) s:=by
 refine zW Y fun L hB F hc I K=>?_
 refine bI hc fun a2 k=>?_
 have H:Hd (NT w L):=⟨rfl,rfl,a2,I,rfl,k⟩
 have l:∀b o,L b=some o->s.heap.get? b=some o:=fun b o e=>(hB b o e).1
 refine am (tP k) fun u d=>?_;refine ai d fun a5 E x=>?_
 have M:fa=809:=by
  have:=FF hns (x s.heap l).1 "law"
  replace this:=E▸hmg▸this
  exact bo.ref.inj (ma this)
 subst M
 have ne:a≠744:=fun z=>by
  replace hl:=K▸z▸hl
  cases hl
 let U:Nat->Addr:=fun i=>if i=0 then a else 744
 have W:R (NT w L) lawS U s.heap:=by
  refine⟨l,fun i g=>?_,fun i j g hj e=>?_,fun i g=>?_,fun i o e=>?_⟩
  ·show L (if i=0 then a else 744)=none
   split
   ·induction q:L a using cN with
    | none=>rfl
    | some o =>
     refine am (hB a o q) fun e n=>?_
     replace e:=hl▸e;cases e
     exact absurd rfl n
   ·exact F
  ·have g:i<2:=g
   have hj:j<2:=hj
   have e:(if i=0 then a else 744)=if j=0 then a else 744:=e
   split at e
   ·split at e
    ·lia
    ·exact absurd e ne
   ·split at e
    ·exact absurd e.symm ne
    ·lia
  ·show ∃o,s.heap.get? (if i=0 then a else 744)=some o
   split
   ·exact⟨_,hl⟩
   ·exact⟨_,K⟩
  ·rcases vJ e with ⟨rfl,rfl⟩|⟨rfl,rfl⟩
   ·exact⟨show 0<2 by decide,vs.toArray,⟨_,hl⟩,fun v m=>hi v (by simpa using m)⟩
   ·exact⟨show 1<2 by decide,rfl,K⟩
 have P:Pv (NT w L) aL aL lawS U s.heap:=fun b q=>q.elim (fun z=>z.elim) fun z=>z.elim
 have y:AOk callerA aL (3+60):=⟨by decide,by decide,[],rfl,fun u_ m=>by cases m⟩
 have rT:VRs (NT w L) s.heap U lawS.nx [.obj 0] [.ref a]:=⟨_,_,rfl,⟨rfl,show 0<2 by decide⟩,rfl⟩
 refine dt (ki H.pr 3 (D:=60) (Kx H (fun y Q W P r h=>zT H y Q W P r h) (fun y Q W P r h=>xa H y Q W P r h)) y rfl (fun u_ h=>h) Fk W P (f:=.ref 809) (F':=aL) rfl rT) (fun v s' p=>?_) fun u_ u_ p=>jU p
 obtain⟨ad,a8,b,G,rb,J⟩:=p
 refine nU J ?_;clear J;rintro c rfl J
 refine ak J fun N S=>?_
 subst N
 have d0:∀b,HC lawS U b->b=744:=fun b=>by
  rintro⟨i,o,e,rfl,m⟩
  rcases vJ e with ⟨rfl,rfl⟩|⟨rfl,rfl⟩
  ·rcases m with m|⟨_,_,m⟩
   ·exact aS m
   ·exact gR m rfl
  ·rfl
 have kp:∀b o,b≠744->s.heap.get? b=some o->s'.heap.get? b=some o:=fun b o nb e=>by
  rcases G.sp.kp b o e (fun z=>nb (d0 b z)) (fun z=>z) with r|⟨z,_⟩
  ·exact r
  ·exact z.elim
 have C:∃B,s'.heap.get? 744=some (tabObj B):=by
  refine am (aB G.r (fj S):TabAt s'.heap (a8 1) 4) fun z d=>?_;refine aG d fun B e=>?_
  exact⟨B,z▸e⟩
 refine⟨rb,⟨fun b o e=>?_,fun b o e=>G.sp.ex b o e⟩,aa G.same rfl,aa G.same rfl⟩
 by_cases I:b=744
 ·subst I
  replace e:=K▸e;cases e
  refine aG C fun B e'=>?_
  refine am (tP k) fun u A=>?_;refine qG u fun fd A a6 ab d=>?_;refine ai d fun c A a1=>?_
  refine oO (a1 s.heap l) fun o vs a3 tf d=>?_;refine oO d fun Z tg a7 a4 d=>?_;refine zW d fun tt q1 q2 q3 q4 a9=>?_
  exact .inr (.inl ⟨⟨c,o,vs,q1,q2,q3,q4⟩,rfl,#[],B,rfl,by refine aa e' ?_;simp⟩)
 ·exact .inl (kp b o I e)
theorem Dc {P:Params} {h:Heap} {R:WRecords} {v:bo} {d:WData} (w:Well P h v d) (e:WShape.has R d .int=true):∃i t,v=.int i t:=by
 cases w with
 | int i t=>exact⟨i,t,rfl⟩
 | _=>exact aS e
theorem zU {P:Params} {h:Heap} {R:WRecords}:∀{xs:List WData} {vs:List bo},WellAll P h vs xs->WShape.hasItems R xs .int=true->∀v∈vs,∃i t,v=.int i t:=by
 intro xs
 induction xs with
 | nil =>
  intro vs w _ v m
  cases w
  cases m
 | cons d xs a =>
  intro vs w e v m
  refine am (kF.mp (show(WShape.has R d .int&&WShape.hasItems R xs .int)=true from e)) fun b f=>?_
  cases w with
  | cons c g =>
   rcases gg.mp m with rfl|m
   ·exact Dc c b
   ·exact a g f v m
theorem vK {P:Params} {h:Heap} {R:WRecords} {vals:List bo} {args:List WData} (w:WellAll P h vals args) (e:WShape.hasAll R args [.list .int]=true) :
  ∃(a:Addr) (vs:List bo),vals=[.ref a]/\h.get? a=some {cls:=.type "list",data:=.seq vs.toArray}/\∀v∈vs,∃i t,v=.int i t:=by
 refine aA (hasAllW_cons e) ?_;rintro d r rfl b j
 induction r using fV with
 | cons _ _=>exact aS j
 | nil =>
  cases w with
  | cons g k =>
   cases k
   cases g with
   | list c f=>exact⟨_,_,rfl,c,zU (R:=R) f (by induction q:WShape.hasItems R _ .int using dI with | true=>rfl | false=>replace b:=q▸(show WShape.has R (.list _) (.list .int)=(WShape.hasItems R _ .int||false) from rfl)▸b;exact aS b)⟩
   | _=>exact aS b
theorem Dd:PySem.Challenge.rw_pq0716_01.wellSaid=true:=by
 unfold OpenLaw.wellSaid OpenRow.wellSaid OpenRow.partSaid looksOpen
 simp only[h9]
 repeat' (with_reducible apply And.intro)
 all_goals decide +kernel
end Mine
open PySem PySem.W PyProof.Rows PySem.Calls
set_option maxRecDepth 100000 in
set_option maxHeartbeats 8000000 in
theorem PySem.Challenge.cw_pq0716_01_holds : PySem.Challenge.rw_pq0716_01.Holds := by
 w_on
 refine holds_law Mine.Dd fun k=>?_
 refine holds_open (q:=Mine.En) (loose:=Mine.mf) (Xt:=fun b=>true) (XP:=fun b b=>True) (Yf:=Mine.yf) (Ya:=fun b=>Mine.vt) (YP:=fun b h=>Mine.vI h) (N:=6000) Mine.BZ Mine.FD Mine.xb (fun b b=>trivial) (fun b b b b b=>trivial) (by rfl) (by rfl) (by rfl) (fun s e=>recFacts_of (by rfl)) (by rfl) (by first|assumption|decide +kernel) (by decide +kernel) ⟨rfl,rfl,rfl,rfl,rfl,by decide +kernel⟩ ?hw ?hc
 case hw=>w_witness2
 case hc =>
  intro w Z F M H G Y E o S U u J I P W z K i n j l L c m x d C
  have f:=(pre_splitW c).1
  refine Mine.aA (Mine.vK d f) ?_;rintro a Q rfl y t
  refine dt (Mine.Db Y G.T.g i y t) (fun v s' q=>?_) fun b b q=>q.elim
  refine Mine.oM q ?_;clear q;rintro rfl B p A
  exact⟨.inl ⟨_,_,[],rfl,fun b=>rfl,ReadsW.bool true,(by first|rfl|wrow_post),fun b=>⟨List.nodup_nil,fun b r=>(nomatch r)⟩⟩,B,p,.of_eq (A.trans n)⟩
