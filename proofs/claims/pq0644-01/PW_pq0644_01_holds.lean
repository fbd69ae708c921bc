import PyProof.Rows.All
import Wide.All
import OpenK.AllK
import Wide.FinOn
import PySem.Challenge.RW_pq0644_01
open List renaming getElem?_eq_some_iff->QQ,length_append->QV,append_nil->QX,replicate->QK,append_assoc->QW,map_cons->QM,length_map->QH,isEmpty_iff->Qx,length_cons->Qw,size_toArray->Q0,getElem?_map->Q2,getElem?_append_left->Q3,map_append->Q5,flatMap_append->Q8,getElem?_append_right->JJ,all_cons->JX,mem_filter->JZ,getElem?_set_ne->JW,getElem?_eq_getElem->JN,mem_append_right->JH,map_inj_left->Jv,mem_map->Jz,filterMap_cons->Jk,mem_append_left->J0,getElem?_set_self->J1,length_set->J2,nodup_cons->J6,take_of_length_le->J7,mem_map_of_mem->VQ,cons_ne_nil->VU,map_map->VZ,getElem?_take_of_lt->VG,flatMap_cons->Vv,replicate_succ->Vk,map_eq_nil_iff->Vw,lookup_cons->V4,cons->V5,contains_cons->V9,set_append_right->UQ,getElem?_eq_none_iff->UX,head?_drop->UZ,not_mem_nil->Uz,map_replicate->U2,drop_eq_nil_of_le->U3,mem_cons->U8,length_replicate->HQ,contains_iff_mem->HJ,mem_of_getElem?->HX,length_take->HM,mem_append->Hx,mem_singleton->Hk,filter_cons_of_pos->Hw,flatten_cons->H9,append_eq_nil_iff->GQ,set_getElem_self->GX,cons_append->GH,any_cons->GG,map_congr_left->G5,flatMap->G7,range->Nx,sum_cons->MM,filter_cons_of_neg->Mk,nil_append->WX,take_left->RK,tail_drop->RW,set_append_left->RM,forall_mem_cons->RN,drop_zero->RH,lookup_append->K7,set_set->q7,reverse_cons->q8
open Nat renaming le_trans->QJ,le_refl->QN,le_add_right->QG,succ_pos->Qq,ne_of_gt->Qj,lt_of_le_of_lt->Q1,zero_le->Q4,add_le_add->Q6,le_of_eq->Q9,ble->JQ,add_le_add_right->JU,mul_le_mul_left->JK,lt_succ_self->J3,lt_irrefl->J4,ne_of_lt->VV,add_le_add_left->VK,add_right_comm->VH,lt_of_succ_lt_succ->V1,le_of_succ_le_succ->V2,add_zero->V3,succ_add->UN,sub_self->UH,add_sub_cancel_left->Uk,add_comm->U6,le_succ->HK,add_assoc->Gv,not_succ_le_zero->Gk,not_lt_zero->G3,le_add_left->G4,zero_add->G8,lt_trans->G9,le_of_lt->NQ,lt_of_lt_of_eq->Nz,lt_succ_of_lt->MZ,lt_succ_of_le->MK,le_succ_of_le->MW,lt_add_of_pos_right->WQ,not_lt->WU
open PySem renaming wpAny_bind->QZ,wpAny_mono->Qz,wpAny_pure->Qk,wpAny_execs_cons->JV,wpAny_with_toks->J5,wpAny_holding->J8,wpAny_loadPart_at->VM,wpAny_items_cons->UJ,wpAny_call->Uq,wpAny_isSubtype_exc->Uw,wpAny_items_nil->H4,wpAny_field->GJ,wpAny_storeName_local->Gz,wpAny_execs_nil->NV,wpAny_mkText->Nk,wpAny_Return_some->Mw,wpAny_setField->K4
open Bool renaming or_eq_true_iff->Qv,and_eq_true_iff->Q7,and_eq_true->Jq,false_ne_true->U5,eq_iff_iff->Hz,false_xor->RG,true_xor->K3,false_eq_true->K8,or_true->jQ
open PySem.Heap renaming get?_push_of_some->Jx,lt_size->V0,get?_update_other->U4,get?_update_self->HV,get?_none_of_le->Gx,SameBut->WJ,get?_push_size->KK
open Array renaming toList_append->Vz,getElem?_eq_some_iff->V7,getElem?_eq_none_iff->NJ,getElem?_toList->WK,length_toList->Rj
open Option renaming bind_some->UG,map_eq_some_iff->H3,isSome_iff_exists->MQ,map->KZ
open Int renaming natCast_nonneg->H0,le_refl->Rq
open PySem PySem.W PySem.Calls PyProof.Rows
set_option Elab.async false
set_option maxRecDepth 100000
set_option linter.all false
set_option genSizeOf false
set_option genInjectivity false
noncomputable section
namespace Mine
section
abbrev NsT:=Str->Option Value
abbrev NwT:=List (Addr×Obj)
abbrev PvT:=Value->Shared->Prop
abbrev ScT:=Addr×List Int
theorem nos {γ:Type}{r:γ}{P:Prop}(q:(none:Option γ)=some r):P:=nomatch q
theorem nof {P:Prop}(q:false=true):P:=nomatch q
theorem leB {a b:Nat}(h:JQ a b=true):a≤b := @Nat.le_of_ble_eq_true a b h
theorem alT {α:Type}{p:α->Bool}{l:List α}(h:l.all p=true):∀ x∈l,p x=true:=Iff.mp List.all_eq_true h
theorem ciM {α:Type}[BEq α][LawfulBEq α]{a:α}{l:List α}(h:l.contains a=true):a∈l:=Iff.mp HJ h
theorem anI {a b:Bool}(h:a=true∧b=true):(a&&b)=true:=Iff.mpr Q7 h
theorem soI {α:Type}{a b:α}(h:some a=some b):a=b := @Option.some.inj α a b h
theorem bqM {α:Type}[BEq α][LawfulBEq α]{a b:α}(h:(a==b)=true):a=b:=Iff.mp beq_iff_eq h
theorem ltL {a b c:Nat}(h:a<b)(k:b≤c):a<c := @Nat.lt_of_lt_of_le a b c h k
theorem mcM {α:Type}{a b:α}{l:List α}(h:a∈b::l):a=b∨a∈l:=Iff.mp U8 h
theorem leL {t a b:Nat}(h:t≤a)(e:JQ a b=true):t≤b:=QJ h (leB e)
theorem adL {t a b:Nat}(c:Nat)(h:t≤a)(e:JQ (a+c) b=true):t+c≤b:=QJ (JU h c) (leB e)
theorem adC {t:Nat}(c b:Nat)(e:JQ c b=true):t+c≤t+b:=VK (leB e) t
theorem ad2 {s t a b c:Nat}(h:s≤a)(h' : t≤b)(e:JQ (a+b) c=true):s+t≤c:=QJ (Q6 h h') (leB e)
theorem ar1 {c d n:Nat}(h:c+(d+1)=n):c+1+d=n:=(UN ..).trans h
theorem ar2 {c d n:Nat}(h:c+(d+1)≤n):c+1+d≤n:=QJ (Q9 (UN ..)) h
theorem ar3 {c d n:Nat}(h:c+(d+1)≤n):c≤n:=QJ (QG ..) h
theorem ar4 {c d n:Nat}(h:c+(d+1)≤n):c+d≤n:=NQ h
theorem ar5 {c d n b:Nat}(h:c+d≤n)(e:JQ n b=true):c≤b:=QJ (QJ (QG ..) h) (leB e)
theorem ar6 {t n:Nat}(h:t≤n):0+t≤n:=(G8 t).symm▸h
theorem ar7 {t a n:Nat}(h:t≤a)(e:JQ a n=true):0+t≤n:=ar6 (leL h e)
theorem ar8 {t n a b:Nat}(h:t≤a)(h' : a≤n)(e:JQ n b=true):t≤b:=leL (QJ h h') e
theorem ar9 {t n a b:Nat}(h:t≤a)(h' : a≤n)(e:JQ n b=true):0+t≤b:=ar6 (ar8 h h' e)
theorem ar10 {d n:Nat}(h:d<n):1+d≤n:=(U6 d 1)▸h
theorem ar11 {f k:Nat}(h:k<f):f=f - 1+1:=(Nat.sub_add_cancel (Q1 (Q4 k) h)).symm
theorem ar12 {m:Nat}(h:0<m):(0:Int)<m:=Int.ofNat_lt.mpr h
theorem ar13 {c d n:Nat}(h:c+(d+1)=n):(c:Int)<n:=Int.ofNat_lt.mpr (h▸WQ (Qq d))
theorem ar14 {c n:Nat}(h:c+0=n):¬ (c:Int)<n:=h▸Int.lt_irrefl _
theorem ar15 {a b:Nat}(h:a≤b):(a:Int)≤b:=Int.ofNat_le.mpr h
theorem ar17 {a b c:Nat}(h:a<b)(h' : b=c):a<c:=h'▸h
theorem ar18 {a b c:Nat}(h:a<b)(h' : c=b):a<c:=h'.symm▸h
theorem ar19 {a b c:Nat}(h:a=b)(h' : b≤c):a≤c:=h▸h'
theorem ar20 {a b:Nat}(h:a<b):b+1≠a:=λe=>J4 _ (G9 (J3 b) (Q1 (Q9 e) h))
theorem ar21 {a b:Nat}(h:a≤b)(e:JQ b 9223372036854775807=true):(a:Int)<2 ^ 63:=by have:=leB e;omega
theorem ar22 {a b:Nat}(h:a≤b)(c:Nat)(e:JQ b c=true):¬ a>c:=Nat.not_lt_of_le (leL h e)
theorem ar23 {a b:Nat}{c:Nat}(h:a≤b)(e:JQ b c=true):(a:Int)≤c:=ar15 (leL h e)
theorem ar24 {l r:Nat}(h:r≤l):r≤l+1:=MW h
theorem ar25 {x d R:Nat}(h:x+3 * (d+1)+3<R):x+3 * d+4<R:=Q1 (adC (t:=x+3 * d) 4 6 rfl) h
theorem ar26 {x d R:Nat}(h:x+30 * (d+1)+60<R):x+30 * d+63<R:=Q1 (adC (t:=x+30 * d) 63 90 rfl) h
theorem ar27 {x d R:Nat}(h:x+3 * d+4<R):x+1+3 * d+3<R:=Q1 (Q9 (congrArg (· + 3) (UN x (3 * d)))) h
theorem ar28 {x d R:Nat}(h:x+30 * d+63<R):x+3+30 * d+60<R:=Q1 (Q9 (congrArg (· + 60) (VH x 3 (30 * d)))) h
theorem ar29 {x d R:Nat}(h:x+3 * (d+1)+3<R):x+1+3 * d+4<R:=Q1 (QJ (Q9 (congrArg (· + 4) (VH x 1 (3 * d)))) (adC (t:=x+3 * d) 5 6 rfl)) h
theorem ar30 {x d R:Nat}(h:x+30 * (d+1)+60<R):x+1+30 * d+63<R:=Q1 (QJ (Q9 (congrArg (· + 63) (VH x 1 (30 * d)))) (adC (t:=x+30 * d) 64 90 rfl)) h
theorem ar31 {x d R:Nat}(h:x+3 * d+4<R):x<R:=Q1 (QJ (QG ..) (QG ..)) h
theorem ar32 {x d R:Nat}(h:x+30 * d+60<R):x+20<R:=Q1 (show x+20≤x+30 * d+60 from Q6 (QG ..) (leB rfl)) h
theorem ar33 {x d e R c:Nat}(k:Nat)(h:e≤d)(h' : x+k * d+c<R):x+k * e+c<R:=Q1 (JU (VK (JK k h) x) c) h'
theorem ar41 {lo ps n d k:Nat}(h:lo=n)(h' : ps=n)(e:lo+d=ps):d≤k:=(Nat.add_left_cancel (e.trans (h'.trans h.symm)):d=0)▸Q4 k
theorem ar42 {a lo d:Nat}(h:lo≤a)(h' : a≤lo+d):a+(d - (a - lo))=lo+d:=(congrArg (· + (d - (a - lo))) (Nat.add_sub_of_le h).symm).trans ((Gv ..).trans (congrArg (lo + ·) (Nat.add_sub_of_le (Nat.sub_le_iff_le_add'.mpr h'))))
theorem m30 {i:Nat}:3 * i % 3=0:=Nat.mul_mod_right 3 i
theorem d30 {i:Nat}:3 * i / 3=i:=Nat.mul_div_cancel_left i (Qq 2)
theorem m31 {i:Nat}:(3 * i+1) % 3=1:=Nat.mul_add_mod 3 i 1
theorem n31 {i:Nat}:¬ (3 * i+1) % 3=0:=λh=>absurd (m31.symm.trans h) (by decide)
theorem d31 {i:Nat}:(3 * i+1) / 3=i:=Nat.mul_add_div (Qq 2) i 1
theorem m20 {i:Nat}:2 * i % 2=0:=Nat.mul_mod_right 2 i
theorem d20 {i:Nat}:2 * i / 2=i:=Nat.mul_div_cancel_left i (Qq 1)
theorem n21 {i:Nat}:¬ (2 * i+1) % 2=0:=λh=>absurd ((Nat.mul_add_mod 2 i 1).symm.trans h) (by decide)
theorem d21 {i:Nat}:(2 * i+1) / 2=i:=Nat.mul_add_div (Qq 1) i 1
theorem q0 (k:Nat){j:Nat}(e:j % k=0):k * (j / k)=j:=(congrArg (k * (j / k) + ·) e).symm.trans (Nat.div_add_mod j k)
theorem q0' (k:Nat){j:Nat}(e:j % k=0):j=k * (j / k):=(q0 k e).symm
theorem q1 (k:Nat){j:Nat}(e:j % k=1):k * (j / k)+1=j:=(congrArg (k * (j / k) + ·) e).symm.trans (Nat.div_add_mod j k)
theorem q1' (k:Nat){j:Nat}(e:j % k=1):j=k * (j / k)+1:=(q1 k e).symm
theorem nm {k j a b:Nat}(e:j % k=a)(h:(a==b)=false):¬ j % k=b:=λx=>by rw[e.symm.trans x,beq_self_eq_true] at h;exact nof h.symm
theorem t2 {j:Nat}(h0:¬ j % 3=0)(h1:¬ j % 3=1):j % 3=2:=Nat.le_antisymm (Nat.le_of_lt_succ (Nat.mod_lt j (Qq 2))) (Nat.lt_of_le_of_ne (Nat.pos_of_ne_zero h0) (Ne.symm h1))
theorem ar35 {n i:Nat}:n+2 * (i+1)=n+2+2 * i:=VH n (2 * i) 2
theorem ar34 {n r m:Nat}(h:n+2 * (r+1)≤m):n+2+2 * r≤m:=QJ (Q9 ar35.symm) h
theorem ar36 {n i:Nat}:n+(i+1)=n+1+i:=(UN ..).symm
theorem ar37 {n i:Nat}:n+1+i=n+(i+1):=UN ..
theorem ar38 {n k:Nat}:n+1+2 * k≤n+(2 * k+5):=QJ (Q9 (VH n 1 (2 * k))) (adC (t:=n+2 * k) 1 5 rfl)
theorem ar40 {x r:Nat}(a:Nat)(h:x≤a * r){b m:Nat}(h' : r≤b)(e:JQ (a * b) m=true):x≤m:=QJ h (leL (JK a h') e)
theorem xe02 {p1 p2:Prop}{P:Prop}(x:p1∧p2)(k:p1->p2->P):P:=k x.1 x.2
theorem xe03 {p1 p2 p3:Prop}{P:Prop}(x:p1∧p2∧p3)(k:p1->p2->p3->P):P:=k x.1 x.2.1 x.2.2
theorem xe04 {p1 p2 p3 p4:Prop}{P:Prop}(x:p1∧p2∧p3∧p4)(k:p1->p2->p3->p4->P):P:=k x.1 x.2.1 x.2.2.1 x.2.2.2
theorem xe11 {A:Type}{p1:A->Prop}{P:Prop}(x:∃ a,p1 a)(k:∀ a,p1 a->P):P:=x.elim λa x=>k a x
theorem xe12 {A:Type}{p1 p2:A->Prop}{P:Prop}(x:∃ a,p1 a∧p2 a)(k:∀ a,p1 a->p2 a->P):P:=x.elim λa x=>k a x.1 x.2
theorem xe13 {A:Type}{p1 p2 p3:A->Prop}{P:Prop}(x:∃ a,p1 a∧p2 a∧p3 a)(k:∀ a,p1 a->p2 a->p3 a->P):P:=x.elim λa x=>k a x.1 x.2.1 x.2.2
theorem xe14 {A:Type}{p1 p2 p3 p4:A->Prop}{P:Prop}(x:∃ a,p1 a∧p2 a∧p3 a∧p4 a)(k:∀ a,p1 a->p2 a->p3 a->p4 a->P):P:=x.elim λa x=>k a x.1 x.2.1 x.2.2.1 x.2.2.2
theorem xe21 {A B:Type}{p1:A->B->Prop}{P:Prop}(x:∃ a b,p1 a b)(k:∀ a b,p1 a b->P):P:=x.elim λa x=>x.elim λb x=>k a b x
theorem xe22 {A B:Type}{p1 p2:A->B->Prop}{P:Prop}(x:∃ a b,p1 a b∧p2 a b)(k:∀ a b,p1 a b->p2 a b->P):P:=x.elim λa x=>x.elim λb x=>k a b x.1 x.2
theorem xe23 {A B:Type}{p1 p2 p3:A->B->Prop}{P:Prop}(x:∃ a b,p1 a b∧p2 a b∧p3 a b)(k:∀ a b,p1 a b->p2 a b->p3 a b->P):P:=x.elim λa x=>x.elim λb x=>k a b x.1 x.2.1 x.2.2
theorem xe25 {A B:Type}{p1 p2 p3 p4 p5:A->B->Prop}{P:Prop}(x:∃ a b,p1 a b∧p2 a b∧p3 a b∧p4 a b∧p5 a b)(k:∀ a b,p1 a b->p2 a b->p3 a b->p4 a b->p5 a b->P):P:=x.elim λa x=>x.elim λb x=>k a b x.1 x.2.1 x.2.2.1 x.2.2.2.1 x.2.2.2.2
theorem xe32 {A B C:Type}{p1 p2:A->B->C->Prop}{P:Prop}(x:∃ a b c,p1 a b c∧p2 a b c)(k:∀ a b c,p1 a b c->p2 a b c->P):P:=x.elim λa x=>x.elim λb x=>x.elim λc x=>k a b c x.1 x.2
theorem xe33 {A B C:Type}{p1 p2 p3:A->B->C->Prop}{P:Prop}(x:∃ a b c,p1 a b c∧p2 a b c∧p3 a b c)(k:∀ a b c,p1 a b c->p2 a b c->p3 a b c->P):P:=x.elim λa x=>x.elim λb x=>x.elim λc x=>k a b c x.1 x.2.1 x.2.2
theorem xe34 {A B C:Type}{p1 p2 p3 p4:A->B->C->Prop}{P:Prop}(x:∃ a b c,p1 a b c∧p2 a b c∧p3 a b c∧p4 a b c)(k:∀ a b c,p1 a b c->p2 a b c->p3 a b c->p4 a b c->P):P:=x.elim λa x=>x.elim λb x=>x.elim λc x=>k a b c x.1 x.2.1 x.2.2.1 x.2.2.2
theorem xe35 {A B C:Type}{p1 p2 p3 p4 p5:A->B->C->Prop}{P:Prop}(x:∃ a b c,p1 a b c∧p2 a b c∧p3 a b c∧p4 a b c∧p5 a b c)(k:∀ a b c,p1 a b c->p2 a b c->p3 a b c->p4 a b c->p5 a b c->P):P:=x.elim λa x=>x.elim λb x=>x.elim λc x=>k a b c x.1 x.2.1 x.2.2.1 x.2.2.2.1 x.2.2.2.2
theorem xe36 {A B C:Type}{p1 p2 p3 p4 p5 p6:A->B->C->Prop}{P:Prop}(x:∃ a b c,p1 a b c∧p2 a b c∧p3 a b c∧p4 a b c∧p5 a b c∧p6 a b c)(k:∀ a b c,p1 a b c->p2 a b c->p3 a b c->p4 a b c->p5 a b c->p6 a b c->P):P:=x.elim λa x=>x.elim λb x=>x.elim λc x=>k a b c x.1 x.2.1 x.2.2.1 x.2.2.2.1 x.2.2.2.2.1 x.2.2.2.2.2
theorem xe43 {A B C D:Type}{p1 p2 p3:A->B->C->D->Prop}{P:Prop}(x:∃ a b c d,p1 a b c d∧p2 a b c d∧p3 a b c d)(k:∀ a b c d,p1 a b c d->p2 a b c d->p3 a b c d->P):P:=x.elim λa x=>x.elim λb x=>x.elim λc x=>x.elim λd x=>k a b c d x.1 x.2.1 x.2.2
theorem xe44 {A B C D:Type}{p1 p2 p3 p4:A->B->C->D->Prop}{P:Prop}(x:∃ a b c d,p1 a b c d∧p2 a b c d∧p3 a b c d∧p4 a b c d)(k:∀ a b c d,p1 a b c d->p2 a b c d->p3 a b c d->p4 a b c d->P):P:=x.elim λa x=>x.elim λb x=>x.elim λc x=>x.elim λd x=>k a b c d x.1 x.2.1 x.2.2.1 x.2.2.2
theorem xe53 {A B C D E:Type}{p1 p2 p3:A->B->C->D->E->Prop}{P:Prop}(x:∃ a b c d e,p1 a b c d e∧p2 a b c d e∧p3 a b c d e)(k:∀ a b c d e,p1 a b c d e->p2 a b c d e->p3 a b c d e->P):P:=x.elim λa x=>x.elim λb x=>x.elim λc x=>x.elim λd x=>x.elim λe x=>k a b c d e x.1 x.2.1 x.2.2
theorem xe54 {A B C D E:Type}{p1 p2 p3 p4:A->B->C->D->E->Prop}{P:Prop}(x:∃ a b c d e,p1 a b c d e∧p2 a b c d e∧p3 a b c d e∧p4 a b c d e)(k:∀ a b c d e,p1 a b c d e->p2 a b c d e->p3 a b c d e->p4 a b c d e->P):P:=x.elim λa x=>x.elim λb x=>x.elim λc x=>x.elim λd x=>x.elim λe x=>k a b c d e x.1 x.2.1 x.2.2.1 x.2.2.2
theorem xe57 {A B C D E:Type}{p1 p2 p3 p4 p5 p6 p7:A->B->C->D->E->Prop}{P:Prop}(x:∃ a b c d e,p1 a b c d e∧p2 a b c d e∧p3 a b c d e∧p4 a b c d e∧p5 a b c d e∧p6 a b c d e∧p7 a b c d e)(k:∀ a b c d e,p1 a b c d e->p2 a b c d e->p3 a b c d e->p4 a b c d e->p5 a b c d e->p6 a b c d e->p7 a b c d e->P):P:=x.elim λa x=>x.elim λb x=>x.elim λc x=>x.elim λd x=>x.elim λe x=>k a b c d e x.1 x.2.1 x.2.2.1 x.2.2.2.1 x.2.2.2.2.1 x.2.2.2.2.2.1 x.2.2.2.2.2.2
noncomputable def okO {α:Type} (o:Option α) (f:α->Bool):Bool:=match o with
 |some a=>f a
 |none=>false
theorem okE {α:Type}{o:Option α}{f:α->Bool}{P:Prop}(h:okO o f=true)(k:∀ a,o=some a->f a=true->P):P:=by
 cases o with
 |none=>exact nof h
 |some a=>exact k a rfl h
noncomputable def on2 {α β γ:Type} (o:Option (α×β)) (f:α->β->Option γ):Option γ:=match o with
 |none=>none
 |some (a,b)=>f a b
noncomputable def on1 {α γ:Type} (o:Option α) (f:α->Option γ):Option γ:=match o with
 |none=>none
 |some a=>f a
theorem om {α β γ:Type}{P:Prop}{o:Option (α×β)}{f:α->β->Option γ}{r:γ}(q:on2 o f=some r)(k:∀ a b,o=some (a,b)->f a b=some r->P):P:=by
 cases o with
 |none=>exact nos q
 |some v=>exact k v.1 v.2 rfl q
theorem om1 {α γ:Type}{P:Prop}{o:Option α}{f:α->Option γ}{r:γ}(q:on1 o f=some r)(k:∀ a,o=some a->f a=some r->P):P:=by
 cases o with
 |none=>exact nos q
 |some v=>exact k v rfl q
@[elab_as_elim] theorem oe {α:Type}{x a:α}{G:α->Prop}(q:some x=some a)(k:G x):G a:=soI q▸k
@[elab_as_elim] theorem oe2 {α β:Type}{x a:α}{y b:β}{G:α->β->Prop}(q:some (x,y)=some (a,b))(k:G x y):G a b:=by
 cases q;exact k
@[elab_as_elim] theorem oe3 {α β γ:Type}{x a:α}{y b:β}{z c:γ}{G:α->β->γ->Prop}(q:some (x,y,z)=some (a,b,c))(k:G x y z):G a b c:=by
 cases q;exact k
theorem oi {γ:Type}{P:Prop}{c:Prop}[Decidable c]{x:Option γ}{r:γ}(q:(if c then x else none)=some r)(k:c->x=some r->P):P:=by
 by_cases h:c
 · exact k h ((if_pos h).symm.trans q)
 · rw[if_neg h] at q;exact nos q
noncomputable def on3 {α β δ γ:Type} (o:Option (α×β×δ)) (f:α->β->δ->Option γ):Option γ:=match o with
 |none=>none
 |some (a,b,d)=>f a b d
noncomputable def onN {α γ:Type} (o:Option (Option α)) (x:Option γ) (f:α->Option γ):Option γ:=match o with
 |none=>none
 |some none=>x
 |some (some a)=>f a
theorem om3 {α β δ γ:Type}{P:Prop}{o:Option (α×β×δ)}{f:α->β->δ->Option γ}{r:γ}(q:on3 o f=some r)(k:∀ a b d,o=some (a,b,d)->f a b d=some r->P):P:=by
 cases o with
 |none=>exact nos q
 |some v=>exact k v.1 v.2.1 v.2.2 rfl q
theorem oN {α γ:Type}{P:Prop}{o:Option (Option α)}{x:Option γ}{f:α->Option γ}{r:γ}(q:onN o x f=some r)(k:o=some none->x=some r->P)(k' : ∀ a,o=some (some a)->f a=some r->P):P:=by
 cases o with
 |none=>exact nos q
 |some v=>cases v with
  |none=>exact k rfl q
  |some a=>exact k' a rfl q
inductive AV where
 |none
 |bool (b:Bool)
 |int (i:Int)
 |str (s:Str)
 |byt (b:Array UInt8)
 |tup (l:List AV)
 |ref (i:Nat)
 |glob (v:Value)
 |clo (id:Nat) (caps:List AV)
 deriving Inhabited
inductive AO where
 |list (l:List AV)
 |dict (es:List (Str×AV))
 |inst (C:Addr) (d:Nat)
 deriving Inhabited
abbrev Store:=List AO
structure Wd where
 ρ:List Addr
 tl:List (Addr×Obj)
def Wd.le (W W' : Wd):Prop:=(∀ (i:Nat) (a:Addr),W.ρ[i]? = some a->W'.ρ[i]? = some a)∧∀ p∈W.tl,p∈W'.tl
theorem Wd.le.refl (W:Wd):W.le W:=⟨λZ Z h=>h,λZ h=>h⟩
theorem Wd.le.trans {W W' W'' : Wd}(h:W.le W')(h' : W'.le W''):W.le W'' := ⟨λi a e=>h'.1 i a (h.1 i a e),λp m=>h'.2 p (h.2 p m)⟩
noncomputable abbrev tupObj (vs:List Value) (n:Nat):Obj:={ cls:=.type "tuple",data:=.seq vs.toArray n }
structure LamRec where
 qual:Str
 params:Arguments
 body:PySem.Expr
 scope:Scope
 names:List Str
mutual
inductive Rel (lam:Nat->Option LamRec)(W:Wd):AV->Value->Prop
 |none:Rel lam W .none .none
 |bool (b:Bool):Rel lam W (.bool b) (.bool b)
 |int (i:Int) (t:Tok):Rel lam W (.int i) (.int i t)
 |str (s:Str) (t:Tok):Rel lam W (.str s) (.str s t)
 |byt (b:Array UInt8) (t:Tok):Rel lam W (.byt b) (.bytes b t)
 |tup {l:List AV} {vs:List Value} {a:Addr} {n:Nat}:(a,tupObj vs n)∈W.tl->RelL lam W l vs->Rel lam W (.tup l) (.ref a)
 |ref {i:Nat} {a:Addr}:W.ρ[i]? = some a->Rel lam W (.ref i) (.ref a)
 |glob (v:Value):Rel lam W (.glob v) v
 |clo {id:Nat} {caps:List AV} {f c' : Addr} {r:LamRec} {cl:List (Str×Addr)} {pm ctv:Value} {oc:Obj} {vs:Array Value} {t:Tok} :
   lam id=some r->(f,kla_obj "<lambda>" r.qual r.params r.body r.scope cl pm c' ctv)∈W.tl->(c',oc)∈W.tl->oc.data = .fields vs->vs[1]? = some (.str r.qual t) ->
   RelC lam W r.names caps cl->Rel lam W (.clo id caps) (.ref f)
inductive RelL (lam:Nat->Option LamRec)(W:Wd):List AV->List Value->Prop
 |nil:RelL lam W [] []
 |cons {a:AV} {v:Value} {l:List AV} {vs:List Value}:Rel lam W a v->RelL lam W l vs->RelL lam W (a::l) (v::vs)
inductive RelC (lam:Nat->Option LamRec)(W:Wd):List Str->List AV->List (Str×Addr)->Prop
 |nil {cl:List (Str×Addr)}:RelC lam W [] [] cl
 |cons {x:Str} {a:AV} {v:Value} {c:Addr} {o:Obj} {xs:List Str} {as:List AV} {cl:List (Str×Addr)} :
   cl.lookup x=some c->(c,o)∈W.tl->o.data = .cell (some v)->Rel lam W a v->RelC lam W xs as cl->RelC lam W (x::xs) (a::as) cl
end
variable {lam:Nat->Option LamRec}
theorem Px {W W' : Wd}(h:W.le W'):(∀ {a:AV} {v:Value},Rel lam W a v->Rel lam W' a v)∧(∀ {l:List AV} {vs:List Value},RelL lam W l vs->RelL lam W' l vs)∧(∀ {xs:List Str} {as:List AV} {cl:List (Str×Addr)},RelC lam W xs as cl->RelC lam W' xs as cl):=by
 refine⟨λ{a v} r=>?_,λ{l vs} r=>?_,λ{xs as cl} r=>?_⟩
 · exact Rel.rec (motive_1:=λa v Z=>Rel lam W' a v) (motive_2:=λl vs Z=>RelL lam W' l vs) (motive_3:=λxs as cl Z=>RelC lam W' xs as cl)
    .none .bool .int .str .byt (λm Z ih=>.tup (h.2 _ m) ih) (λe=>.ref (h.1 _ _ e)) .glob (λe m m' d q Z ih=>.clo e (h.2 _ m) (h.2 _ m') d q ih)
    .nil (λZ Z i j=>.cons i j) .nil (λe m d Z Z i j=>.cons e (h.2 _ m) d i j) r
 · exact RelL.rec (motive_1:=λa v Z=>Rel lam W' a v) (motive_2:=λl vs Z=>RelL lam W' l vs) (motive_3:=λxs as cl Z=>RelC lam W' xs as cl)
    .none .bool .int .str .byt (λm Z ih=>.tup (h.2 _ m) ih) (λe=>.ref (h.1 _ _ e)) .glob (λe m m' d q Z ih=>.clo e (h.2 _ m) (h.2 _ m') d q ih)
    .nil (λZ Z i j=>.cons i j) .nil (λe m d Z Z i j=>.cons e (h.2 _ m) d i j) r
 · exact RelC.rec (motive_1:=λa v Z=>Rel lam W' a v) (motive_2:=λl vs Z=>RelL lam W' l vs) (motive_3:=λxs as cl Z=>RelC lam W' xs as cl)
    .none .bool .int .str .byt (λm Z ih=>.tup (h.2 _ m) ih) (λe=>.ref (h.1 _ _ e)) .glob (λe m m' d q Z ih=>.clo e (h.2 _ m) (h.2 _ m') d q ih)
    .nil (λZ Z i j=>.cons i j) .nil (λe m d Z Z i j=>.cons e (h.2 _ m) d i j) r
theorem Rel.mono {W W' : Wd}{a:AV}{v:Value}(r:Rel lam W a v)(h:W.le W'):Rel lam W' a v:=(Px h).1 r
theorem RelL.mono {W W' : Wd}{l:List AV}{vs:List Value}(r:RelL lam W l vs)(h:W.le W'):RelL lam W' l vs:=(Px h).2.1 r
theorem RelC.mono {W W' : Wd}{xs:List Str}{as:List AV}{cl:List (Str×Addr)}(r:RelC lam W xs as cl)(h:W.le W'):RelC lam W' xs as cl:=(Px h).2.2 r
section
variable {W:Wd}{γ:Type}{P:Prop}{r:γ}
noncomputable def onInst (o:Option AO) (f:Addr->Nat->Option γ):Option γ:=match o with
 |some (.inst C d)=>f C d
 |_=>none
noncomputable def onDict (o:Option AO) (f:List (Str×AV)->Option γ):Option γ:=match o with
 |some (.dict es)=>f es
 |_=>none
noncomputable def onList (o:Option AO) (f:List AV->Option γ):Option γ:=match o with
 |some (.list l)=>f l
 |_=>none
noncomputable def onRef (a:AV) (f:Nat->Option γ):Option γ:=match a with
 | .ref i=>f i
 |_=>none
noncomputable def onTup (a:AV) (f:List AV->Option γ):Option γ:=match a with
 | .tup l=>f l
 |_=>none
noncomputable def onIL (o:Option AO) (f:Addr->Nat->Option γ) (g:List AV->Option γ):Option γ:=match o with
 |some (.inst C d)=>f C d
 |some (.list l)=>g l
 |_=>none
noncomputable def onNone {α:Type} (o:Option α) (x:Option γ):Option γ:=match o with
 |none=>x
 |some _=>none
noncomputable def onL1 (l:List AV) (f:AV->Option γ):Option γ:=match l with
 | [a]=>f a
 |_=>none
noncomputable def onL2 (l:List AV) (f:AV->AV->Option γ):Option γ:=match l with
 | [a,b]=>f a b
 |_=>none
noncomputable def onInt (a:AV) (f:Int->Option γ):Option γ:=match a with
 | .int i=>f i
 |_=>none
noncomputable def onStr (a:AV) (f:Str->Option γ):Option γ:=match a with
 | .str i=>f i
 |_=>none
noncomputable def onBool (a:AV) (f:Bool->Option γ):Option γ:=match a with
 | .bool i=>f i
 |_=>none
noncomputable def onByt (a:AV) (f:Array UInt8->Option γ):Option γ:=match a with
 | .byt i=>f i
 |_=>none
noncomputable def onNT (a:AV) (x y:Option γ):Option γ:=match a with
 | .none=>x
 | .tup _=>y
 |_=>none
noncomputable def onTT (a b:AV) (f:List AV->List AV->Option γ) (g:Option γ):Option γ:=match a with
 | .tup l=>match b with
  | .tup l'=>f l l'
  |_=>g
 |_=>g
noncomputable def onRR (a b:AV) (f:Nat->Nat->Option γ) (g:Option γ):Option γ:=match a with
 | .ref l=>match b with
  | .ref l'=>f l l'
  |_=>g
 |_=>g
theorem oInt {a:AV}{f:Int->Option γ}(q:onInt a f=some r)(k:∀ i,a = .int i->f i=some r->P):P:=by cases a<;>first|exact k _ rfl q|exact nos q
theorem oStr {a:AV}{f:Str->Option γ}(q:onStr a f=some r)(k:∀ i,a = .str i->f i=some r->P):P:=by cases a<;>first|exact k _ rfl q|exact nos q
theorem oBool {a:AV}{f:Bool->Option γ}(q:onBool a f=some r)(k:∀ i,a = .bool i->f i=some r->P):P:=by cases a<;>first|exact k _ rfl q|exact nos q
theorem oByt {a:AV}{f:Array UInt8->Option γ}(q:onByt a f=some r)(k:∀ i,a = .byt i->f i=some r->P):P:=by cases a<;>first|exact k _ rfl q|exact nos q
theorem oNT {a:AV}{x y:Option γ}(q:onNT a x y=some r)(k:a = .none->x=some r->P)(k' : ∀ l,a = .tup l->y=some r->P):P:=by cases a<;>first|exact nos q|exact k rfl q|exact k' _ rfl q
theorem oTT {a b:AV}{f:List AV->List AV->Option γ}{g:Option γ}(q:onTT a b f g=some r)(k:∀ l l',a = .tup l->b = .tup l'->f l l'=some r->P)(k' : g=some r->P):P:=by
 cases a with
 |tup=>cases b<;>first|exact k _ _ rfl rfl q|exact k' q
 |_=>exact k' q
theorem oRR {a b:AV}{f:Nat->Nat->Option γ}{g:Option γ}(q:onRR a b f g=some r)(k:∀ l l',a = .ref l->b = .ref l'->f l l'=some r->P)(k' : g=some r->P):P:=by
 cases a with
 |ref=>cases b<;>first|exact k _ _ rfl rfl q|exact k' q
 |_=>exact k' q
noncomputable def onPairF (a:AV) (f:AV->AV->Option γ):Option γ:=onTup a λl=>onL2 l f
theorem oTup {a:AV}{f:List AV->Option γ}(q:onTup a f=some r)(k:∀ l,a = .tup l->f l=some r->P):P:=by cases a<;>first|exact k _ rfl q|exact nos q
theorem onPair {a:AV}{f:AV->AV->Option γ}(q:onPairF a f=some r)(k:∀ x y,a = .tup [x,y]->f x y=some r->P):P:=oTup q λl e q=>by
 cases l with
 |nil=>exact nos q
 |cons x l=>cases l with
  |nil=>exact nos q
  |cons y l=>cases l with
   |nil=>exact k x y e q
   |cons=>exact nos q
theorem oNone {α:Type}{o:Option α}{x:Option γ}(q:onNone o x=some r)(k:o=none->x=some r->P):P:=by
 cases o with
 |none=>exact k rfl q
 |some v=>exact nos q
theorem oIL {o:Option AO}{f:Addr->Nat->Option γ}{g:List AV->Option γ}(q:onIL o f g=some r)(k:∀ C d,o=some (.inst C d)->f C d=some r->P)(k' : ∀ l,o=some (.list l)->g l=some r->P):P:=by
 cases o with
 |none=>exact nos q
 |some v=>cases v<;>first|exact nos q|exact k _ _ rfl q|exact k' _ rfl q
theorem oInst {o:Option AO}{f:Addr->Nat->Option γ}(q:onInst o f=some r)(k:∀ C d,o=some (.inst C d)->f C d=some r->P):P:=by
 cases o with
 |none=>exact nos q
 |some v=>cases v<;>first|exact nos q|exact k _ _ rfl q
theorem oDict {o:Option AO}{f:List (Str×AV)->Option γ}(q:onDict o f=some r)(k:∀ es,o=some (.dict es)->f es=some r->P):P:=by
 cases o with
 |none=>exact nos q
 |some v=>cases v<;>first|exact nos q|exact k _ rfl q
theorem U1 {o:Option AO}{f:List AV->Option γ}(q:onList o f=some r)(k:∀ l,o=some (.list l)->f l=some r->P):P:=by
 cases o with
 |none=>exact nos q
 |some v=>cases v<;>first|exact nos q|exact k _ rfl q
def RelI (lam:Nat->Option LamRec)(W:Wd)(a:AV)(v:Value):Prop:=match a with
 | .none=>v = .none
 | .bool b=>v = .bool b
 | .int i=>∃ t,v = .int i t
 | .str s=>∃ t,v = .str s t
 | .byt b=>∃ t,v = .bytes b t
 | .tup l=>∃ vs a n,v = .ref a∧(a,tupObj vs n)∈W.tl∧RelL lam W l vs
 | .ref i=>∃ a,v = .ref a∧W.ρ[i]? = some a
 | .glob w=>v=w
 | .clo _ _=>True
theorem Rel.inv {a:AV}{v:Value}(r:Rel lam W a v):RelI lam W a v:=by
 cases r with
 |none=>exact rfl
 |bool=>exact rfl
 |int=>exact⟨_,rfl⟩
 |str=>exact⟨_,rfl⟩
 |byt=>exact⟨_,rfl⟩
 |tup m q=>exact⟨_,_,_,rfl,m,q⟩
 |ref e=>exact⟨_,rfl,e⟩
 |glob=>exact rfl
 |clo=>exact trivial
variable {G:Value->Prop}{v:Value}
@[elab_as_elim] theorem rRef {i:Nat}(h:Rel lam W (.ref i) v)(k:∀ x,W.ρ[i]? = some x->G (.ref x)):G v:=h.inv.elim λx z=>z.1▸k x z.2
@[elab_as_elim] theorem rTup {l:List AV}(h:Rel lam W (.tup l) v)(k:∀ vs a n,(a,tupObj vs n)∈W.tl->RelL lam W l vs->G (.ref a)):G v:=h.inv.elim λvs z=>z.elim λa z=>z.elim λn z=>z.1▸k vs a n z.2.1 z.2.2
@[elab_as_elim] theorem rInt {i:Int}(h:Rel lam W (.int i) v)(k:∀ t,G (.int i t)):G v:=h.inv.elim λt e=>e▸k t
@[elab_as_elim] theorem rStr {i:Str}(h:Rel lam W (.str i) v)(k:∀ t,G (.str i t)):G v:=h.inv.elim λt e=>e▸k t
@[elab_as_elim] theorem rByt {i:Array UInt8}(h:Rel lam W (.byt i) v)(k:∀ t,G (.bytes i t)):G v:=h.inv.elim λt e=>e▸k t
@[elab_as_elim] theorem rNone (h:Rel lam W .none v)(k:G .none):G v:=have e:v = .none:=h.inv;e▸k
@[elab_as_elim] theorem rBool {b:Bool}(h:Rel lam W (.bool b) v)(k:G (.bool b)):G v:=have e:v = .bool b:=h.inv;e▸k
@[elab_as_elim] theorem Gw {w:Value}(h:Rel lam W (.glob w) v)(k:G w):G v:=have e:v=w:=h.inv;e▸k
@[elab_as_elim] theorem GV {a:AV}{f:Nat->Option γ}(q:onRef a f=some r)(h:Rel lam W a v)(k:∀ i x,a = .ref i->W.ρ[i]? = some x->f i=some r->G (.ref x)):G v:=by
 cases a<;>first|exact nos q|exact rRef h λx p=>k _ x rfl p q
@[elab_as_elim] theorem VJ {a:AV}{f:Int->Option γ}(q:onInt a f=some r)(h:Rel lam W a v)(k:∀ i t,a = .int i->f i=some r->G (.int i t)):G v:=by
 cases a<;>first|exact nos q|exact rInt h λt=>k _ t rfl q
@[elab_as_elim] theorem HW {a:AV}{f:Str->Option γ}(q:onStr a f=some r)(h:Rel lam W a v)(k:∀ i t,a = .str i->f i=some r->G (.str i t)):G v:=by
 cases a<;>first|exact nos q|exact rStr h λt=>k _ t rfl q
@[elab_as_elim] theorem onTupR {a:AV}{f:List AV->Option γ}(q:onTup a f=some r)(h:Rel lam W a v)(k:∀ l vs b n,a = .tup l->(b,tupObj vs n)∈W.tl->RelL lam W l vs->f l=some r->G (.ref b)):G v:=by
 cases a<;>first|exact nos q|exact rTup h λvs b n p z=>k _ vs b n rfl p z q
variable {K:List Value->Prop}{vs:List Value}
@[elab_as_elim] theorem rNil (h:RelL lam W [] vs)(k:K []):K vs:=by cases h;exact k
@[elab_as_elim] theorem NK {a:AV}{l:List AV}(h:RelL lam W (a::l) vs)(k:∀ v vs,Rel lam W a v->RelL lam W l vs->K (v::vs)):K vs:=by cases h;exact k _ _ ‹_› ‹_›
@[elab_as_elim] theorem rOne {a:AV}(h:RelL lam W [a] vs)(k:∀ v,Rel lam W a v->K [v]):K vs:=NK h λv Z r h=>rNil h (k v r)
@[elab_as_elim] theorem rTwo {a b:AV}(h:RelL lam W [a,b] vs)(k:∀ v w,Rel lam W a v->Rel lam W b w->K [v,w]):K vs:=NK h λv Z r h=>rOne h λw z=>k v w r z
@[elab_as_elim] theorem Kv {l:List AV}{f:AV->Option γ}(q:onL1 l f=some r)(h:RelL lam W l vs)(k:∀ a v,Rel lam W a v->f a=some r->K [v]):K vs:=by
 cases l with
 |nil=>exact nos q
 |cons a l=>cases l with
  |nil=>exact rOne h λv z=>k a v z q
  |cons=>exact nos q
@[elab_as_elim] theorem onL2R {l:List AV}{f:AV->AV->Option γ}(q:onL2 l f=some r)(h:RelL lam W l vs)(k:∀ a b v w,Rel lam W a v->Rel lam W b w->f a b=some r->K [v,w]):K vs:=by
 cases l with
 |nil=>exact nos q
 |cons a l=>cases l with
  |nil=>exact nos q
  |cons b l=>cases l with
   |nil=>exact rTwo h λv w z z'=>k a b v w z z' q
   |cons=>exact nos q
theorem RelL.length {W:Wd}:∀ {l:List AV} {vs:List Value},RelL lam W l vs->l.length=vs.length
 | [],_,h=>rNil h rfl
 |_::_,_,h=>NK h λZ Z Z h=>congrArg (· + 1) (RelL.length h)
theorem RelL.get {W:Wd}:∀ {l:List AV} {vs:List Value},RelL lam W l vs->∀ {i:Nat} {a:AV},l[i]? = some a->∃ v,vs[i]? = some v∧Rel lam W a v
 |_::_,_,h,0,_,e=>NK h λv Z r Z=>⟨v,rfl,soI e▸r⟩
 |_::_,_,h,i+1,_,e=>NK h λZ Z Z h=>RelL.get h (i:=i) e
theorem RelL.append {W:Wd}:∀ {l l' : List AV} {vs vs' : List Value},RelL lam W l vs->RelL lam W l' vs'->RelL lam W (l++l') (vs++vs')
 | [],_,_,_,h,r=>rNil h r
 |_::_,_,_,_,h,r=>NK h λZ Z a h=>.cons a (RelL.append h r)
end
inductive RelD (lam:Nat->Option LamRec)(P:Params)(W:Wd):List (Str×AV)->List DictEntry->Prop
 |nil:RelD lam P W [] []
 |cons {x:Str} {a:AV} {v:Value} {t:Tok} {es:List (Str×AV)} {ds:List DictEntry} :
   Rel lam W a v->RelD lam P W es ds->RelD lam P W ((x,a)::es) (⟨PyData.keyHash P x,.str x t,v⟩::ds)
theorem RelD.mono {P:Params}{W W' : Wd}(h:W.le W'){es:List (Str×AV)}{ds:List DictEntry}(r:RelD lam P W es ds):RelD lam P W' es ds:=by
 induction r with
 |nil=>exact .nil
 |cons r _ q=>exact .cons (r.mono h) q
inductive ObjR (lam:Nat->Option LamRec)(P:Params)(W:Wd):AO->Obj->Prop
 |list {l:List AV} {vs:List Value} {n:Nat}:RelL lam W l vs->ObjR lam P W (.list l) (listOf vs.toArray n)
 |dict {es:List (Str×AV)} {ds:List DictEntry} {n:Nat}:RelD lam P W es ds->ObjR lam P W (.dict es) (dictOf ds n)
 |inst {C dx:Addr} {d:Nat}:W.ρ[d]? = some dx->ObjR lam P W (.inst C d) (instObj C dx)
section
variable {W:Wd}{Pm:Params}{J:Obj->Prop}{o:Obj}
@[elab_as_elim] theorem jList {l:List AV}(h:ObjR lam Pm W (.list l) o)(k:∀ vs n,RelL lam W l vs->J (listOf (List.toArray vs) n)):J o:=by cases h;exact k _ _ ‹_›
@[elab_as_elim] theorem jDict {es:List (Str×AV)}(h:ObjR lam Pm W (.dict es) o)(k:∀ ds n,RelD lam Pm W es ds->J (dictOf ds n)):J o:=by cases h;exact k _ _ ‹_›
@[elab_as_elim] theorem jInst {C:Addr}{d:Nat}(h:ObjR lam Pm W (.inst C d) o)(k:∀ dx,W.ρ[d]? = some dx->J (instObj C dx)):J o:=by cases h;exact k _ ‹_›
theorem ObjR.mono {P:Params}{W W' : Wd}(h:W.le W'){ao:AO}{o:Obj}(r:ObjR lam P W ao o):ObjR lam P W' ao o:=by
 cases ao with
 |list=>exact jList r λZ Z r=>.list (r.mono h)
 |dict=>exact jDict r λZ Z r=>.dict (r.mono h)
 |inst=>exact jInst r λZ e=>.inst (h.1 _ _ e)
end
theorem and2 {a b:Bool}(h:(a&&b)=true):a=true∧b=true:=by
 cases a<;>cases b<;>first|exact⟨rfl,rfl⟩|exact nos h|exact nof h|cases h
theorem and3 {a b c:Bool}(h:(a&&b&&c)=true):a=true∧b=true∧c=true:=
 ⟨(and2 (and2 h).1).1,(and2 (and2 h).1).2,(and2 h).2⟩
theorem and4 {a b c d:Bool}(h:(a&&b&&c&&d)=true):a=true∧b=true∧c=true∧d=true:=
 ⟨(and3 (and2 h).1).1,(and3 (and2 h).1).2.1,(and3 (and2 h).1).2.2,(and2 h).2⟩
end
section
set_option maxHeartbeats 0
noncomputable abbrev body0:=PySem.Challenge.rw_pq0644_01.row.prog.main.body
noncomputable def sReserved:Str:=⟨#[32,65,67,67,69,80,84,32,65,67,67,69,83,83,32,65,68,68,32,65,68,86,65,78,67,73,78,71,32,65,70,84,69,82,32,65,76,76,32,65,76,80,72,65,66,69,84,73,67,32,65,76,80,72,65,66,69,84,73,67,45,76,79,87,69,82,32,65,76,80,72,65,66,69,84,73,67,45,85,80,80,69,82,32,65,76,80,72,65,78,85,77,69,82,73,67,32,65,76,80,72,65,78,85,77,69,82,73,67,45,69,68,73,84,69,68,32,65,76,83,79,32,65,76,84,69,82,78,65,84,69,32,65,78,68,32,65,78,89,32,65,82,69,32,65,82,69,65,32,65,82,69,65,83,32,65,83,67,69,78,68,73,78,71,32,65,83,83,73,71,78,32,65,84,32,65,85,84,72,79,82,32,66,69,70,79,82,69,32,66,73,78,65,82,89,32,66,76,65,78,75,32,66,76,79,67,75,32,66,89,32,67,65,76,76,32,67,72,65,82,65,67,84,69,82,32,67,72,65,82,65,67,84,69,82,83,32,67,76,79,83,69,32,67,79,77,80,32,67,79,77,80,45,51,32,67,79,77,80,85,84,65,84,73,79,78,65,76,32,67,79,77,80,85,84,65,84,73,79,78,65,76,45,51,32,67,79,77,80,85,84,69,32,67,79,78,70,73,71,85,82,65,84,73,79,78,32,67,79,78,84,65,73,78,83,32,67,79,78,84,69,78,84,32,67,79,78,84,73,78,85,69,32,67,79,78,86,69,82,84,73,78,71,32,67,79,80,89,32,67,79,82,82,32,67,79,82,82,69,83,80,79,78,68,73,78,71,32,67,79,85,78,84,32,68,65,84,65,32,68,65,84,69,45,67,79,77,80,73,76,69,68,32,68,65,84,69,45,87,82,73,84,84,69,78,32,68,69,76,69,84,69,32,68,69,76,73,77,73,84,69,68,32,68,69,76,73,77,73,84,69,82,32,68,69,80,69,78,68,73,78,71,32,68,69,83,67,69,78,68,73,78,71,32,68,73,83,80,76,65,89,32,68,73,86,73,68,69,32,68,73,86,73,83,73,79,78,32,68,79,87,78,32,68,85,80,76,73,67,65,84,69,83,32,68,89,78,65,77,73,67,32,69,76,83,69,32,69,78,68,32,69,78,68,45,65,68,68,32,69,78,68,45,67,65,76,76,32,69,78,68,45,67,79,77,80,85,84,69,32,69,78,68,45,68,69,76,69,84,69,32,69,78,68,45,68,73,86,73,68,69,32,69,78,68,45,69,86,65,76,85,65,84,69,32,69,78,68,45,73,70,32,69,78,68,45,77,85,76,84,73,80,76,89,32,69,78,68,45,80,69,82,70,79,82,77,32,69,78,68,45,82,69,65,68,32,69,78,68,45,82,69,84,85,82,78,32,69,78,68,45,82,69,87,82,73,84,69,32,69,78,68,45,83,69,65,82,67,72,32,69,78,68,45,83,84,65,82,84,32,69,78,68,45,83,84,82,73,78,71,32,69,78,68,45,83,85,66,84,82,65,67,84,32,69,78,68,45,85,78,83,84,82,73,78,71,32,69,78,68,45,87,82,73,84,69,32,69,78,86,73,82,79,78,77,69,78,84,32,69,81,85,65,76,32,69,82,82,79,82,32,69,86,65,76,85,65,84,69,32,69,88,67,69,80,84,73,79,78,32,69,88,73,84,32,69,88,84,69,78,68,32,69,88,84,69,82,78,65,76,32,70,65,76,83,69,32,70,68,32,70,73,76,69,32,70,73,76,69,45,67,79,78,84,82,79,76,32,70,73,76,76,69,82,32,70,73,82,83,84,32,70,79,82,32,70,82,79,77,32,71,73,86,73,78,71,32,71,76,79,66,65,76,32,71,79,32,71,82,69,65,84,69,82,32,72,73,71,72,45,86,65,76,85,69,32,72,73,71,72,45,86,65,76,85,69,83,32,73,45,79,32,73,45,79,45,67,79,78,84,82,79,76,32,73,68,69,78,84,73,70,73,67,65,84,73,79,78,32,73,70,32,73,78,32,73,78,68,69,88,32,73,78,68,69,88,69,68,32,73,78,73,84,73,65,76,32,73,78,73,84,73,65,76,73,90,69,32,73,78,80,85,84,32,73,78,80,85,84,45,79,85,84,80,85,84,32,73,78,83,80,69,67,84,32,73,78,83,84,65,76,76,65,84,73,79,78,32,73,78,84,79,32,73,78,86,65,76,73,68,32,73,83,32,74,85,83,84,32,74,85,83,84,73,70,73,69,68,32,75,69,89,32,76,65,66,69,76,32,76,69,65,68,73,78,71,32,76,69,70,84,32,76,69,83,83,32,76,73,78,69,32,76,73,78,69,83,32,76,73,78,75,65,71,69,32,76,79,67,75,32,76,79,87,45,86,65,76,85,69,32,76,79,87,45,86,65,76,85,69,83,32,77,69,82,71,69,32,77,79,68,69,32,77,79,86,69,32,77,85,76,84,73,80,76,89,32,78,65,84,73,86,69,32,78,69,71,65,84,73,86,69,32,78,69,88,84,32,78,79,32,78,79,84,32,78,85,77,69,82,73,67,32,78,85,77,69,82,73,67,45,69,68,73,84,69,68,32,79,66,74,69,67,84,45,67,79,77,80,85,84,69,82,32,79,67,67,85,82,83,32,79,70,32,79,70,70,32,79,77,73,84,84,69,68,32,79,78,32,79,80,69,78,32,79,80,84,73,79,78,65,76,32,79,82,32,79,82,68,69,82,32,79,82,71,65,78,73,90,65,84,73,79,78,32,79,84,72,69,82,32,79,85,84,80,85,84,32,79,86,69,82,70,76,79,87,32,80,65,67,75,69,68,45,68,69,67,73,77,65,76,32,80,69,82,70,79,82,77,32,80,73,67,32,80,73,67,84,85,82,69,32,80,79,73,78,84,69,82,32,80,79,83,73,84,73,86,69,32,80,82,79,67,69,68,85,82,69,32,80,82,79,67,69,69,68,32,80,82,79,71,82,65,77,32,80,82,79,71,82,65,77,45,73,68,32,81,85,79,84,69,32,81,85,79,84,69,83,32,82,65,78,68,79,77,32,82,69,65,68,32,82,69,67,79,82,68,32,82,69,67,79,82,68,83,32,82,69,68,69,70,73,78,69,83,32,82,69,70,69,82,69,78,67,69,32,82,69,76,65,84,73,86,69,32,82,69,76,69,65,83,69,32,82,69,77,65,73,78,68,69,82,32,82,69,78,65,77,69,83,32,82,69,80,76,65,67,69,32,82,69,80,76,65,67,73,78,71,32,82,69,84,85,82,78,32,82,69,87,82,73,84,69,32,82,73,71,72,84,32,82,79,85,78,68,69,68,32,82,85,78,32,83,65,77,69,32,83,68,32,83,69,65,82,67,72,32,83,69,67,84,73,79,78,32,83,69,67,85,82,73,84,89,32,83,69,76,69,67,84,32,83,69,78,84,69,78,67,69,32,83,69,80,65,82,65,84,69,32,83,69,81,85,69,78,84,73,65,76,32,83,69,84,32,83,73,71,78,32,83,73,90,69,32,83,79,82,84,32,83,79,82,84,45,77,69,82,71,69,32,83,79,85,82,67,69,45,67,79,77,80,85,84,69,82,32,83,80,65,67,69,32,83,80,65,67,69,83,32,83,80,69,67,73,65,76,45,78,65,77,69,83,32,83,84,65,78,68,65,82,68,32,83,84,65,82,84,32,83,84,65,84,85,83,32,83,84,79,80,32,83,84,82,73,78,71,32,83,85,66,84,82,65,67,84,32,83,89,78,67,32,83,89,78,67,72,82,79,78,73,90,69,68,32,84,65,76,76,89,73,78,71,32,84,69,83,84,32,84,72,65,78,32,84,72,69,78,32,84,72,82,79,85,71,72,32,84,72,82,85,32,84,73,77,69,83,32,84,79,32,84,82,65,73,76,73,78,71,32,84,82,85,69,32,85,78,83,84,82,73,78,71,32,85,78,84,73,76,32,85,80,32,85,80,79,78,32,85,83,65,71,69,32,85,83,73,78,71,32,86,65,76,85,69,32,86,65,76,85,69,83,32,86,65,82,89,73,78,71,32,87,72,69,78,32,87,73,84,72,32,87,79,82,75,73,78,71,45,83,84,79,82,65,71,69,32,87,82,73,84,69,32,90,69,82,79,32,90,69,82,79,69,83,32,90,69,82,79,83,32]⟩
theorem KG:PySem.Str.ofString " ACCEPT ACCESS ADD ADVANCING AFTER ALL ALPHABETIC ALPHABETIC-LOWER ALPHABETIC-UPPER ALPHANUMERIC ALPHANUMERIC-EDITED ALSO ALTERNATE AND ANY ARE AREA AREAS ASCENDING ASSIGN AT AUTHOR BEFORE BINARY BLANK BLOCK BY CALL CHARACTER CHARACTERS CLOSE COMP COMP-3 COMPUTATIONAL COMPUTATIONAL-3 COMPUTE CONFIGURATION CONTAINS CONTENT CONTINUE CONVERTING COPY CORR CORRESPONDING COUNT DATA DATE-COMPILED DATE-WRITTEN DELETE DELIMITED DELIMITER DEPENDING DESCENDING DISPLAY DIVIDE DIVISION DOWN DUPLICATES DYNAMIC ELSE END END-ADD END-CALL END-COMPUTE END-DELETE END-DIVIDE END-EVALUATE END-IF END-MULTIPLY END-PERFORM END-READ END-RETURN END-REWRITE END-SEARCH END-START END-STRING END-SUBTRACT END-UNSTRING END-WRITE ENVIRONMENT EQUAL ERROR EVALUATE EXCEPTION EXIT EXTEND EXTERNAL FALSE FD FILE FILE-CONTROL FILLER FIRST FOR FROM GIVING GLOBAL GO GREATER HIGH-VALUE HIGH-VALUES I-O I-O-CONTROL IDENTIFICATION IF IN INDEX INDEXED INITIAL INITIALIZE INPUT INPUT-OUTPUT INSPECT INSTALLATION INTO INVALID IS JUST JUSTIFIED KEY LABEL LEADING LEFT LESS LINE LINES LINKAGE LOCK LOW-VALUE LOW-VALUES MERGE MODE MOVE MULTIPLY NATIVE NEGATIVE NEXT NO NOT NUMERIC NUMERIC-EDITED OBJECT-COMPUTER OCCURS OF OFF OMITTED ON OPEN OPTIONAL OR ORDER ORGANIZATION OTHER OUTPUT OVERFLOW PACKED-DECIMAL PERFORM PIC PICTURE POINTER POSITIVE PROCEDURE PROCEED PROGRAM PROGRAM-ID QUOTE QUOTES RANDOM READ RECORD RECORDS REDEFINES REFERENCE RELATIVE RELEASE REMAINDER RENAMES REPLACE REPLACING RETURN REWRITE RIGHT ROUNDED RUN SAME SD SEARCH SECTION SECURITY SELECT SENTENCE SEPARATE SEQUENTIAL SET SIGN SIZE SORT SORT-MERGE SOURCE-COMPUTER SPACE SPACES SPECIAL-NAMES STANDARD START STATUS STOP STRING SUBTRACT SYNC SYNCHRONIZED TALLYING TEST THAN THEN THROUGH THRU TIMES TO TRAILING TRUE UNSTRING UNTIL UP UPON USAGE USING VALUE VALUES VARYING WHEN WITH WORKING-STORAGE WRITE ZERO ZEROES ZEROS "=sReserved:=Fast.ofString_ofList (sReserved.cps.toList.map Char.ofNat)
noncomputable def roadStrL (x:Str):Bool:=x.cps.toList.any (λc=>c==123||c==125)||(x.cps.toList.any (·==46)&&!x.cps.toList.any (·≤32))
theorem roadStr_list (x:Str):roadStr x=roadStrL x:=by
 unfold roadStr roadStrL
 rw[← Array.any_toList,← Array.any_toList,← Array.any_toList]
noncomputable def strOkL (k:Look) (x:Str):Bool:=(x.cps.toList.all (·==95)||k.word x)&&!roadStrL x
theorem strOkL_ok {k:Look}{x:Str}(h:strOkL k x=true):k.str x=true:=by
 unfold strOkL at h
 rw[← roadStr_list] at h
 unfold Look.str underscores
 rw[← Array.all_toList]
 obtain⟨h1,h2⟩:=Q7.mp h
 exact anI ⟨h1,Qv.mpr (.inl h2)⟩
theorem noRoad_append (k:Look)(b:List Stmt)(h' : noRoadLSs k b=true):∀ a,noRoadLSs k a=true->noRoadLSs k (a++b)=true:=by
 intro a
 induction a with
 |nil=>exact λZ=>h'
 |cons s a ih=>exact λh=>anI ⟨(Q7.mp h).1,ih (Q7.mp h).2⟩
noncomputable def lk0:Look:={ strict:=false,foot:=none,bare:=[] }
theorem te_no : @noRoadLSs=PySem.W.Fast.tw8326940854005059898:=PySem.W.Fast.te8326940854005059898
theorem part1:noRoadLSs lk0 (body0.take 82)=true:=(congrFun (congrFun te_no lk0) _).trans (by decide +kernel)
theorem part2:noRoadLSs lk0 (body0.drop 83)=true:=(congrFun (congrFun te_no lk0) _).trans (by decide +kernel)
theorem st82 (x:Str)(h:lk0.str x=true):noRoadLSs lk0 (.Assign [.Name "RESERVED" ⟨394,0,394,8⟩] (.Constant (.str x) 0 ⟨394,11,394,1873⟩) ⟨394,0,394,1873⟩::body0.drop 83)=true:=
 (Q7 (y:=noRoadLSs lk0 (body0.drop 83))).mpr ⟨(Q7 (x:=lk0.stores [.Name "RESERVED" ⟨394,0,394,8⟩]&&noRoadLs lk0 [.Name "RESERVED" ⟨394,0,394,8⟩]) (y:=lk0.str x)).mpr ⟨by decide +kernel,h⟩,part2⟩
theorem body_split:body0=body0.take 82++.Assign [.Name "RESERVED" ⟨394,0,394,8⟩] (.Constant (.str (PySem.Str.ofString " ACCEPT ACCESS ADD ADVANCING AFTER ALL ALPHABETIC ALPHABETIC-LOWER ALPHABETIC-UPPER ALPHANUMERIC ALPHANUMERIC-EDITED ALSO ALTERNATE AND ANY ARE AREA AREAS ASCENDING ASSIGN AT AUTHOR BEFORE BINARY BLANK BLOCK BY CALL CHARACTER CHARACTERS CLOSE COMP COMP-3 COMPUTATIONAL COMPUTATIONAL-3 COMPUTE CONFIGURATION CONTAINS CONTENT CONTINUE CONVERTING COPY CORR CORRESPONDING COUNT DATA DATE-COMPILED DATE-WRITTEN DELETE DELIMITED DELIMITER DEPENDING DESCENDING DISPLAY DIVIDE DIVISION DOWN DUPLICATES DYNAMIC ELSE END END-ADD END-CALL END-COMPUTE END-DELETE END-DIVIDE END-EVALUATE END-IF END-MULTIPLY END-PERFORM END-READ END-RETURN END-REWRITE END-SEARCH END-START END-STRING END-SUBTRACT END-UNSTRING END-WRITE ENVIRONMENT EQUAL ERROR EVALUATE EXCEPTION EXIT EXTEND EXTERNAL FALSE FD FILE FILE-CONTROL FILLER FIRST FOR FROM GIVING GLOBAL GO GREATER HIGH-VALUE HIGH-VALUES I-O I-O-CONTROL IDENTIFICATION IF IN INDEX INDEXED INITIAL INITIALIZE INPUT INPUT-OUTPUT INSPECT INSTALLATION INTO INVALID IS JUST JUSTIFIED KEY LABEL LEADING LEFT LESS LINE LINES LINKAGE LOCK LOW-VALUE LOW-VALUES MERGE MODE MOVE MULTIPLY NATIVE NEGATIVE NEXT NO NOT NUMERIC NUMERIC-EDITED OBJECT-COMPUTER OCCURS OF OFF OMITTED ON OPEN OPTIONAL OR ORDER ORGANIZATION OTHER OUTPUT OVERFLOW PACKED-DECIMAL PERFORM PIC PICTURE POINTER POSITIVE PROCEDURE PROCEED PROGRAM PROGRAM-ID QUOTE QUOTES RANDOM READ RECORD RECORDS REDEFINES REFERENCE RELATIVE RELEASE REMAINDER RENAMES REPLACE REPLACING RETURN REWRITE RIGHT ROUNDED RUN SAME SD SEARCH SECTION SECURITY SELECT SENTENCE SEPARATE SEQUENTIAL SET SIGN SIZE SORT SORT-MERGE SOURCE-COMPUTER SPACE SPACES SPECIAL-NAMES STANDARD START STATUS STOP STRING SUBTRACT SYNC SYNCHRONIZED TALLYING TEST THAN THEN THROUGH THRU TIMES TO TRAILING TRUE UNSTRING UNTIL UP UPON USAGE USING VALUE VALUES VARYING WHEN WITH WORKING-STORAGE WRITE ZERO ZEROES ZEROS ")) 0 ⟨394,11,394,1873⟩) ⟨394,0,394,1873⟩::body0.drop 83:=by kernel_rfl
theorem part:noRoadLSs lk0 body0=true:=by
 rw[body_split]
 exact noRoad_append _ _ (st82 _ (by rw[KG];exact strOkL_ok (by decide +kernel))) _ part1
end
section
set_option maxHeartbeats 0
theorem bare_eq:(["vars","dir","locals"]:List Str).filter (readsOut PySem.Challenge.rw_pq0644_01.row.prog PySem.Challenge.rw_pq0644_01.row.prog.main.body)=[]:=by
 decide +kernel
theorem strict_eq:(!(importedModules PySem.Challenge.rw_pq0644_01.row.prog.main.body).all cThrough.contains)=false:=by decide +kernel
theorem look_top:noRoadLSs { strict := !(importedModules PySem.Challenge.rw_pq0644_01.row.prog.main.body).all cThrough.contains,foot:=none,bare:=(["vars","dir","locals"]:List Str).filter (readsOut PySem.Challenge.rw_pq0644_01.row.prog PySem.Challenge.rw_pq0644_01.row.prog.main.body) } PySem.Challenge.rw_pq0644_01.row.prog.main.body=true:=by
 rw[bare_eq,strict_eq]
 exact part
theorem said:PySem.Challenge.rw_pq0644_01.wellSaid=true:=by
 delta OpenLaw.wellSaid OpenRow.wellSaid OpenRow.partSaid looksOpen
 repeat' with_reducible (refine look_both ?_ ?_)
 all_goals first
  |with_reducible exact look_top
  |decide +kernel
end
section
set_option maxHeartbeats 0
noncomputable abbrev rowW:=OpenRow.toRowW (OpenLaw.row PySem.Challenge.rw_pq0644_01)
noncomputable abbrev pE:Program:=rowW.prog
noncomputable def ts (i:Nat):Stmt:=(body0[i]?).getD (.Pass ⟨0,0,0,0⟩)
noncomputable def ms (i j:Nat):Stmt:=match ts i with
 | .ClassDef _ _ _ b _ _ _ _ _ _ _=>(b[j]?).getD (.Pass ⟨0,0,0,0⟩)
 |s=>s
noncomputable def fo (st:Stmt) (qual:Str) (dV mod:Value) (code:Addr):Obj:=match st with
 | .FunctionDef name ps body _ _ _ scope _ _ _=>⟨.type "function",none,.func (fnX name qual ps body scope [] dV .none .none mod none (.ref code) .none),#[]⟩
 |_=>default
noncomputable def cb (name qual:Str) (t line argc a t2:Nat):Obj:=
 ⟨.type "code",none,.fields #[.str name t,.str qual (t+1),.str "/claim/cut.py" (t+2),.int line 0,.int argc 0,.int 0 0,.int 0 0,.int 3 0,.ref a,.bool true,.int 181 0,.ref (a+1),.none,.ref (a+2),.ref (a+3),.ref (a+4),.int t2 0,.int line 0,.str "/claim/cut.py" (t2+1)],#[]⟩
noncomputable def de (x:Str) (n:Nat) (v:Value):Str×Nat×Value:=(x,n,v)
noncomputable def di (P:Params) (l:List (Str×Nat×Value)) (n:Nat):Obj:=⟨.type "dict",none,.dict (l.map λx=>⟨PyData.keyHash P x.1,.str x.1 x.2.1,x.2.2⟩).toArray n,#[]⟩
noncomputable def kp0 (P:Params) (res:Str):Frag:=[
 (3,di P [de "__name__" 165 (.str "law_pq0644_01" 1337),de "__doc__" 166 .none,de "__package__" 167 .none,de "__loader__" 168 (.builtin "__main__.__loader__#opaque"),de "__spec__" 169 .none,de "__annotations__" 170 (.ref 6),de "__builtins__" 171 (.ref 4),de "__file__" 173 (.str "/claim/cut.py" 172),de "__cached__" 174 .none,de "_wall" 193 (.ref 21),de "LedgerError" 235 (.ref 47),de "TokenFault" 251 (.ref 60),de "GrammarFault" 267 (.ref 72),de "FIGURES" 271 (.str "0123456789" 270),de "cut_quotient" 279 (.ref 81),de "decimal" 288 (.ref 89),de "negated" 295 (.ref 96),de "units_at" 306 (.ref 103),de "is_whole" 313 (.ref 110),de "whole_of" 320 (.ref 117),de "worth_of" 329 (.ref 124),de "read_decimal" 342 (.ref 131),de "write_decimal" 350 (.ref 138),de "MOST_FIGURES" 354 (.int 18 353),de "Token" 398 (.ref 164),de "quoted" 405 (.ref 175),de "MOST_SUBSCRIPTS" 409 (.int 7 408),de "FIGURE_NAMES" 443 (.ref 176),de "FIGURE_SHOWN" 459 (.ref 177),de "is_part_next" 468 (.ref 184),de "read_subscripts" 477 (.ref 191),de "read_part" 487 (.ref 198),de "read_ref" 499 (.ref 205),de "read_all" 507 (.ref 212),de "read_figure" 514 (.ref 219),de "read_operand" 523 (.ref 226),de "shown_octets" 529 (.ref 231),de "shown_number" 537 (.ref 238),de "shown_subscripts" 543 (.ref 243),de "show_ref" 553 (.ref 250),de "show_operand" 561 (.ref 257),de "MOST_DEEP" 565 (.int 20 564),de "SIGNED" 567 (.int 3 566),de "RAISED" 569 (.int 4 568),de "BARE" 571 (.int 5 570),de "LEVELS" 587 (.ref 258),de "read_expression" 594 (.ref 265),de "sign_among" 603 (.ref 272),de "read_sum" 613 (.ref 279),de "read_product" 623 (.ref 286),de "read_factor" 634 (.ref 293),de "is_lone_number" 643 (.ref 300),de "read_power" 652 (.ref 307),de "read_primary" 662 (.ref 314),de "level_of" 669 (.ref 321),de "bracketed" 678 (.ref 328),de "show_expression" 687 (.ref 335),de "right_part" 694 (.ref 342),de "show_signed" 701 (.ref 349),de "FIGURE_WORDS" 705 (.str " ZERO ZEROS ZEROES SPACE SPACES HIGH-VALUE HIGH-VALUES LOW-VALUE LOW-VALUES QUOTE QUOTES ALL " 704),de "word_ahead" 715 (.ref 356),de "begins_operand" 722 (.ref 363),de "ref_here" 729 (.ref 370),de "refuse_at" 738 (.ref 377),de "operand_here" 747 (.ref 384),de "text_here" 757 (.ref 391),de "begins_text" 764 (.ref 398),de "bounds_here" 773 (.ref 405),de "opens_count" 782 (.ref 412),de "counted_rows" 795 (.ref 419),de "tallied_rows" 807 (.ref 426),de "widths_meet" 815 (.ref 433),de "by_here" 825 (.ref 440),de "exchange_here" 837 (.ref 447),de "replaced_rows" 847 (.ref 454),de "read_inspect" 861 (.ref 461),de "MOST_NEST" 865 (.int 12 864),de "VERBS" 899 (.ref 462),de "is_verb_here" 906 (.ref 469),de "body_at" 916 (.ref 476),de "statement_at" 927 (.ref 483),de "MOST_OCTET" 931 (.int 255 930),de "RESERVED" 933 (.str res 932),de "is_reserved" 940 (.ref 490),de "octets_of_text" 946 (.ref 495),de "Reader" 1153 (.ref 664),de "PHRASES" 1171 (.ref 669),de "operand_text" 1178 (.ref 676),de "ref_text" 1185 (.ref 683),de "joined" 1191 (.ref 688),de "worded" 1199 (.ref 695),de "ref_behind_word" 1207 (.ref 702),de "operand_behind_word" 1215 (.ref 709),de "some_of" 1222 (.ref 716),de "show_body" 1228 (.ref 721),de "show_phrase" 1235 (.ref 728),de "show_branches" 1241 (.ref 733),de "show_bounds" 1249 (.ref 740),de "show_string" 1266 (.ref 747),de "show_unstring" 1272 (.ref 752),de "show_kind" 1280 (.ref 759),de "show_tallied" 1293 (.ref 766),de "show_replaced" 1306 (.ref 773),de "show_inspect" 1314 (.ref 780),de "show_convert" 1327 (.ref 787),de "show_texts" 1336 (.ref 794),de "_law_heap" 1347 (.ref 801),de "_law_draw" 1356 (.ref 808),de "_law_pick" 1364 (.ref 815),de "_law_words" 1373 (.ref 822),de "_law_item" 1383 (.ref 829),de "_law_text" 1393 (.ref 836),de "_law_bounds" 1404 (.ref 843),de "_law_counted" 1421 (.ref 850),de "_law_exchanged" 1438 (.ref 857),de "_law_if" 1447 (.ref 864),de "_law_inspect" 1455 (.ref 871),de "_law_read" 1461 (.ref 876),de "_law_right" 1470 (.ref 883),de "law" 1489 (.ref 890)] 120),
 (30,({ cls:=.type "tuple",data:=.seq #[.ref 29] 0 }:Obj)),
 (36,cb "__init__" "LedgerError.__init__" 210 7 3 31 216),
 (37,fo (ms 2 0) "LedgerError.__init__" (.ref 30) (.str "ledgerspeak.errors" 194) 36),
 (46,di P [de "__module__" 203 (.str "ledgerspeak.errors" 194),de "__firstlineno__" 207 (.int 5 206),de "__init__" 218 (.ref 37),de "told" 225 (.ref 44),de "__static_attributes__" 228 (.ref 45),de "__weakref__" 230 (.ref 48),de "__doc__" 231 .none] 3),
 (47,({ cls:=.type "type",data:=.cls (PySem.ClassData.mk "LedgerError" [.type "Exception"] [.ref 47,.type "Exception",.type "BaseException",.type "object"] 46 "LedgerError" true [] [.ref 60,.ref 72] false none false),slots := #[some (.ref 22),none,some (.str "LedgerError" 196),some (.str "LedgerError" 204),some (.builtin "Exception.__new__"),some (.bool true)] }:Obj)),
 (71,di P [de "__module__" 259 (.str "ledgerspeak.errors" 194),de "__firstlineno__" 263 (.int 16 262),de "__static_attributes__" 264 (.ref 70),de "__doc__" 265 .none] 2),
 (72,({ cls:=.type "type",data:=.cls (PySem.ClassData.mk "GrammarFault" [.ref 47] [.ref 72,.ref 47,.type "Exception",.type "BaseException",.type "object"] 71 "GrammarFault" true [] [] false none false),slots := #[some (.ref 63),none,some (.str "GrammarFault" 252),some (.str "GrammarFault" 260),some (.builtin "Exception.__new__"),some (.bool true)] }:Obj)),
 (146,({ cls:=.type "tuple",data:=.seq #[.int 0 367,.int 0 368] 0 }:Obj)),
 (147,({ cls:=.type "tuple",data:=.seq #[.ref 146,.bool false] 0 }:Obj)),
 (153,cb "__init__" "Token.__init__" 369 75 5 148 377),
 (154,fo (ms 18 0) "Token.__init__" (.ref 147) (.str "ledgerspeak.tokens" 351) 153),
 (163,di P [de "__module__" 362 (.str "ledgerspeak.tokens" 351),de "__firstlineno__" 366 (.int 73 365),de "__init__" 379 (.ref 154),de "told" 386 (.ref 161),de "__static_attributes__" 391 (.ref 162),de "__dict__" 393 (.ref 165),de "__weakref__" 395 (.ref 166),de "__doc__" 396 .none] 4),
 (164,({ cls:=.type "type",data:=.cls (PySem.ClassData.mk "Token" [.type "object"] [.ref 164,.type "object"] 163 "Token" true [] [] false none false),slots := #[none,none,some (.str "Token" 355),some (.str "Token" 363),some (.builtin "object.__new__"),some (.bool true)] }:Obj)),
 (174,cb "quoted" "quoted" 399 83 1 169 403),
 (175,fo (ts 19) "quoted" .none (.str "ledgerspeak.tokens" 351) 174),
 (176,di P [de "ZERO" 410 (.str "ZERO" 411),de "ZEROS" 412 (.str "ZERO" 413),de "ZEROES" 414 (.str "ZERO" 415),de "SPACE" 416 (.str "SPACE" 417),de "SPACES" 418 (.str "SPACE" 419),de "HIGH-VALUE" 420 (.str "HIGH" 421),de "HIGH-VALUES" 422 (.str "HIGH" 423),de "LOW-VALUE" 424 (.str "LOW" 425),de "LOW-VALUES" 426 (.str "LOW" 427),de "QUOTE" 428 (.str "QUOTE" 429),de "QUOTES" 430 (.str "QUOTE" 431)] 11),
 (177,di P [de "ZERO" 444 (.str "ZERO" 445),de "SPACE" 446 (.str "SPACE" 447),de "HIGH" 448 (.str "HIGH-VALUE" 449),de "LOW" 450 (.str "LOW-VALUE" 451),de "QUOTE" 452 (.str "QUOTE" 453)] 5),
 (183,cb "is_part_next" "is_part_next" 460 89 1 178 466),
 (184,fo (ts 24) "is_part_next" .none (.str "ledgerspeak.references" 406) 183),
 (190,cb "read_subscripts" "read_subscripts" 469 102 2 185 475),
 (191,fo (ts 25) "read_subscripts" .none (.str "ledgerspeak.references" 406) 190),
 (204,cb "read_ref" "read_ref" 488 117 2 199 497),
 (205,fo (ts 27) "read_ref" .none (.str "ledgerspeak.references" 406) 204)]
noncomputable def kp1 (P:Params):Frag:=[
 (218,cb "read_figure" "read_figure" 508 134 1 213 512),
 (219,fo (ts 29) "read_figure" .none (.str "ledgerspeak.references" 406) 218),
 (225,cb "read_operand" "read_operand" 515 138 2 220 521),
 (226,fo (ts 30) "read_operand" .none (.str "ledgerspeak.references" 406) 225),
 (230,({ cls:=.type "code",data:=.fields #[.str "shown_octets" 524,.str "shown_octets" 525,.str "/claim/cut.py" 526,.int 147 0,.int 1 0,.int 0 0,.int 0 0,.int 3 0,.ref 227,.bool true,.int 181 0,.ref 228,.none,.none,.none,.ref 229,.int 527 0,.int 147 0,.str "/claim/cut.py" 528] }:Obj)),
 (231,fo (ts 31) "shown_octets" .none (.str "ledgerspeak.references" 406) 230),
 (242,({ cls:=.type "code",data:=.fields #[.str "shown_subscripts" 538,.str "shown_subscripts" 539,.str "/claim/cut.py" 540,.int 152 0,.int 2 0,.int 0 0,.int 0 0,.int 3 0,.ref 239,.bool true,.int 181 0,.ref 240,.none,.none,.none,.ref 241,.int 541 0,.int 152 0,.str "/claim/cut.py" 542] }:Obj)),
 (243,fo (ts 33) "shown_subscripts" .none (.str "ledgerspeak.references" 406) 242),
 (249,cb "show_ref" "show_ref" 544 157 2 244 551),
 (250,fo (ts 34) "show_ref" .none (.str "ledgerspeak.references" 406) 249),
 (256,cb "show_operand" "show_operand" 554 165 2 251 559),
 (257,fo (ts 35) "show_operand" .none (.str "ledgerspeak.references" 406) 256),
 (258,di P [de "+" 572 (.int 1 573),de "-" 574 (.int 1 575),de "*" 576 (.int 2 577),de "/" 578 (.int 2 579),de "**" 580 (.int 4 581)] 5),
 (264,cb "read_expression" "read_expression" 588 179 1 259 592),
 (265,fo (ts 42) "read_expression" .none (.str "ledgerspeak.expressions" 562) 264),
 (271,cb "sign_among" "sign_among" 595 181 2 266 601),
 (272,fo (ts 43) "sign_among" .none (.str "ledgerspeak.expressions" 562) 271),
 (278,cb "read_sum" "read_sum" 604 186 2 273 611),
 (279,fo (ts 44) "read_sum" .none (.str "ledgerspeak.expressions" 562) 278),
 (285,cb "read_product" "read_product" 614 194 2 280 621),
 (286,fo (ts 45) "read_product" .none (.str "ledgerspeak.expressions" 562) 285),
 (292,cb "read_factor" "read_factor" 624 200 2 287 632),
 (293,fo (ts 46) "read_factor" .none (.str "ledgerspeak.expressions" 562) 292),
 (306,cb "read_power" "read_power" 644 215 2 301 650)]
noncomputable def kp2 (P:Params):Frag:=[
 (307,fo (ts 48) "read_power" .none (.str "ledgerspeak.expressions" 562) 306),
 (313,cb "read_primary" "read_primary" 653 221 2 308 660),
 (314,fo (ts 49) "read_primary" .none (.str "ledgerspeak.expressions" 562) 313),
 (334,cb "show_expression" "show_expression" 679 236 1 329 685),
 (335,fo (ts 52) "show_expression" .none (.str "ledgerspeak.expressions" 562) 334),
 (355,cb "word_ahead" "word_ahead" 706 257 3 350 713),
 (356,fo (ts 57) "word_ahead" .none (.str "ledgerspeak.readarith" 702) 355),
 (362,cb "begins_operand" "begins_operand" 716 260 1 357 720),
 (363,fo (ts 58) "begins_operand" .none (.str "ledgerspeak.readarith" 702) 362),
 (369,cb "ref_here" "ref_here" 723 264 1 364 727),
 (370,fo (ts 59) "ref_here" .none (.str "ledgerspeak.readarith" 702) 369),
 (383,cb "operand_here" "operand_here" 741 272 1 378 745),
 (384,fo (ts 62) "operand_here" .none (.str "ledgerspeak.readdata" 739) 383),
 (390,cb "text_here" "text_here" 748 276 1 385 755),
 (391,fo (ts 63) "text_here" .none (.str "ledgerspeak.readdata" 739) 390),
 (397,cb "begins_text" "begins_text" 758 282 1 392 762),
 (398,fo (ts 64) "begins_text" .none (.str "ledgerspeak.readdata" 739) 397),
 (404,cb "bounds_here" "bounds_here" 765 284 1 399 771),
 (405,fo (ts 65) "bounds_here" .none (.str "ledgerspeak.readdata" 739) 404),
 (411,cb "opens_count" "opens_count" 774 295 1 406 780),
 (412,fo (ts 66) "opens_count" .none (.str "ledgerspeak.readdata" 739) 411),
 (418,cb "counted_rows" "counted_rows" 783 303 3 413 793),
 (419,fo (ts 67) "counted_rows" .none (.str "ledgerspeak.readdata" 739) 418),
 (425,cb "tallied_rows" "tallied_rows" 796 310 1 420 805)]
noncomputable def kp3 (P:Params):Frag:=[
 (426,fo (ts 68) "tallied_rows" .none (.str "ledgerspeak.readdata" 739) 425),
 (432,cb "widths_meet" "widths_meet" 808 329 2 427 813),
 (433,fo (ts 69) "widths_meet" .none (.str "ledgerspeak.readdata" 739) 432),
 (439,cb "by_here" "by_here" 816 333 2 434 823),
 (440,fo (ts 70) "by_here" .none (.str "ledgerspeak.readdata" 739) 439),
 (446,cb "exchange_here" "exchange_here" 826 339 2 441 835),
 (447,fo (ts 71) "exchange_here" .none (.str "ledgerspeak.readdata" 739) 446),
 (453,cb "replaced_rows" "replaced_rows" 838 345 1 448 845),
 (454,fo (ts 72) "replaced_rows" .none (.str "ledgerspeak.readdata" 739) 453),
 (460,cb "read_inspect" "read_inspect" 848 360 2 455 859),
 (461,fo (ts 73) "read_inspect" .none (.str "ledgerspeak.readdata" 739) 460),
 (462,({ cls:=.type "tuple",data:=.seq #[.str "ADD" 866,.str "SUBTRACT" 867,.str "MULTIPLY" 868,.str "DIVIDE" 869,.str "COMPUTE" 870,.str "MOVE" 871,.str "INITIALIZE" 872,.str "SET" 873,.str "STRING" 874,.str "UNSTRING" 875,.str "INSPECT" 876,.str "SEARCH" 877,.str "ACCEPT" 878,.str "DISPLAY" 879,.str "IF" 880,.str "EVALUATE" 881,.str "PERFORM" 882,.str "GO" 883,.str "EXIT" 884,.str "STOP" 885,.str "CALL" 886,.str "CONTINUE" 887,.str "OPEN" 888,.str "CLOSE" 889,.str "READ" 890,.str "WRITE" 891,.str "REWRITE" 892,.str "DELETE" 893,.str "START" 894,.str "SORT" 895,.str "MERGE" 896,.str "RELEASE" 897,.str "RETURN" 898] 0 }:Obj)),
 (468,cb "is_verb_here" "is_verb_here" 900 379 1 463 904),
 (469,fo (ts 77) "is_verb_here" .none (.str "ledgerspeak.procread" 862) 468),
 (475,cb "body_at" "body_at" 907 381 3 470 914),
 (476,fo (ts 78) "body_at" .none (.str "ledgerspeak.procread" 862) 475),
 (482,cb "statement_at" "statement_at" 917 386 3 477 925),
 (483,fo (ts 79) "statement_at" .none (.str "ledgerspeak.procread" 862) 482),
 (489,cb "is_reserved" "is_reserved" 934 395 1 484 938),
 (490,fo (ts 83) "is_reserved" .none (.str "ledgerspeak.reader" 928) 489),
 (494,({ cls:=.type "code",data:=.fields #[.str "octets_of_text" 941,.str "octets_of_text" 942,.str "/claim/cut.py" 943,.int 397 0,.int 1 0,.int 0 0,.int 0 0,.int 3 0,.ref 491,.bool true,.int 181 0,.ref 492,.none,.none,.none,.ref 493,.int 944 0,.int 397 0,.str "/claim/cut.py" 945] }:Obj)),
 (495,fo (ts 84) "octets_of_text" .none (.str "ledgerspeak.reader" 928) 494),
 (503,({ cls:=.type "tuple",data:=.seq #[.int 0 959] 0 }:Obj)),
 (509,cb "__init__" "Reader.__init__" 960 404 3 504 966)]
noncomputable def kp4 (P:Params):Frag:=[
 (510,fo (ms 85 0) "Reader.__init__" (.ref 503) (.str "ledgerspeak.reader" 928) 509),
 (511,({ cls:=.type "tuple",data:=.seq #[.int 0 969] 0 }:Obj)),
 (517,cb "peek" "Reader.peek" 970 410 2 512 975),
 (518,fo (ms 85 1) "Reader.peek" (.ref 511) (.str "ledgerspeak.reader" 928) 517),
 (531,cb "fault" "Reader.fault" 985 418 2 526 990),
 (532,fo (ms 85 3) "Reader.fault" .none (.str "ledgerspeak.reader" 928) 531),
 (538,cb "take" "Reader.take" 993 423 1 533 998),
 (539,fo (ms 85 4) "Reader.take" .none (.str "ledgerspeak.reader" 928) 538),
 (540,({ cls:=.type "tuple",data:=.seq #[.int 0 1001] 0 }:Obj)),
 (546,cb "is_kind" "Reader.is_kind" 1002 430 3 541 1009),
 (547,fo (ms 85 5) "Reader.is_kind" (.ref 540) (.str "ledgerspeak.reader" 928) 546),
 (553,cb "is_word" "Reader.is_word" 1012 434 2 548 1019),
 (554,fo (ms 85 6) "Reader.is_word" .none (.str "ledgerspeak.reader" 928) 553),
 (560,cb "skip" "Reader.skip" 1022 442 2 555 1027),
 (561,fo (ms 85 7) "Reader.skip" .none (.str "ledgerspeak.reader" 928) 560),
 (567,cb "need" "Reader.need" 1030 448 2 562 1035),
 (568,fo (ms 85 8) "Reader.need" .none (.str "ledgerspeak.reader" 928) 567),
 (574,cb "one_of" "Reader.one_of" 1038 452 2 569 1044),
 (575,fo (ms 85 9) "Reader.one_of" .none (.str "ledgerspeak.reader" 928) 574),
 (583,({ cls:=.type "tuple",data:=.seq #[.int 0 1054] 0 }:Obj)),
 (589,cb "is_name" "Reader.is_name" 1055 463 2 584 1060),
 (590,fo (ms 85 11) "Reader.is_name" (.ref 583) (.str "ledgerspeak.reader" 928) 589),
 (596,cb "name" "Reader.name" 1063 466 1 591 1067),
 (597,fo (ms 85 12) "Reader.name" .none (.str "ledgerspeak.reader" 928) 596)]
noncomputable def kp5 (P:Params):Frag:=[
 (605,({ cls:=.type "tuple",data:=.seq #[.int 0 1077] 0 }:Obj)),
 (611,cb "is_sign" "Reader.is_sign" 1078 474 3 606 1084),
 (612,fo (ms 85 14) "Reader.is_sign" (.ref 605) (.str "ledgerspeak.reader" 928) 611),
 (618,cb "skip_sign" "Reader.skip_sign" 1087 477 2 613 1092),
 (619,fo (ms 85 15) "Reader.skip_sign" .none (.str "ledgerspeak.reader" 928) 618),
 (625,cb "need_sign" "Reader.need_sign" 1095 483 2 620 1100),
 (626,fo (ms 85 16) "Reader.need_sign" .none (.str "ledgerspeak.reader" 928) 625),
 (632,cb "is_number" "Reader.is_number" 1103 487 1 627 1107),
 (633,fo (ms 85 17) "Reader.is_number" .none (.str "ledgerspeak.reader" 928) 632),
 (660,cb "octets" "Reader.octets" 1134 515 1 655 1139),
 (661,fo (ms 85 21) "Reader.octets" .none (.str "ledgerspeak.reader" 928) 660),
 (663,di P [de "__module__" 954 (.str "ledgerspeak.reader" 928),de "__firstlineno__" 958 (.int 402 957),de "__init__" 968 (.ref 510),de "peek" 977 (.ref 518),de "is_done" 984 (.ref 525),de "fault" 992 (.ref 532),de "take" 1000 (.ref 539),de "is_kind" 1011 (.ref 547),de "is_word" 1021 (.ref 554),de "skip" 1029 (.ref 561),de "need" 1037 (.ref 568),de "one_of" 1046 (.ref 575),de "word" 1053 (.ref 582),de "is_name" 1062 (.ref 590),de "name" 1069 (.ref 597),de "names" 1076 (.ref 604),de "is_sign" 1086 (.ref 612),de "skip_sign" 1094 (.ref 619),de "need_sign" 1102 (.ref 626),de "is_number" 1109 (.ref 633),de "signed" 1118 (.ref 640),de "whole" 1126 (.ref 647),de "literal" 1133 (.ref 654),de "octets" 1141 (.ref 661),de "__static_attributes__" 1146 (.ref 662),de "__dict__" 1148 (.ref 665),de "__weakref__" 1150 (.ref 666),de "__doc__" 1151 .none] 4),
 (664,({ cls:=.type "type",data:=.cls (PySem.ClassData.mk "Reader" [.type "object"] [.ref 664,.type "object"] 663 "Reader" true [] [] false none false),slots := #[none,none,some (.str "Reader" 947),some (.str "Reader" 955),some (.builtin "object.__new__"),some (.bool true)] }:Obj)),
 (675,cb "operand_text" "operand_text" 1172 525 1 670 1176),
 (676,fo (ts 88) "operand_text" .none (.str "ledgerspeak.showing" 1154) 675),
 (682,cb "ref_text" "ref_text" 1179 527 1 677 1183),
 (683,fo (ts 89) "ref_text" .none (.str "ledgerspeak.showing" 1154) 682),
 (687,({ cls:=.type "code",data:=.fields #[.str "joined" 1186,.str "joined" 1187,.str "/claim/cut.py" 1188,.int 529 0,.int 1 0,.int 0 0,.int 0 0,.int 3 0,.ref 684,.bool true,.int 181 0,.ref 685,.none,.none,.none,.ref 686,.int 1189 0,.int 529 0,.str "/claim/cut.py" 1190] }:Obj)),
 (688,fo (ts 90) "joined" .none (.str "ledgerspeak.showing" 1154) 687),
 (708,cb "operand_behind_word" "operand_behind_word" 1208 535 2 703 1213),
 (709,fo (ts 93) "operand_behind_word" .none (.str "ledgerspeak.showing" 1154) 708),
 (715,cb "some_of" "some_of" 1216 537 1 710 1220),
 (716,fo (ts 94) "some_of" .none (.str "ledgerspeak.showing" 1154) 715),
 (739,cb "show_bounds" "show_bounds" 1242 554 2 734 1247)]
noncomputable def kp6 (P:Params):Frag:=[
 (740,fo (ts 98) "show_bounds" .none (.str "ledgerspeak.showing" 1154) 739),
 (758,cb "show_kind" "show_kind" 1273 574 2 753 1278),
 (759,fo (ts 101) "show_kind" .none (.str "ledgerspeak.showing" 1154) 758),
 (765,cb "show_tallied" "show_tallied" 1281 578 1 760 1291),
 (766,fo (ts 102) "show_tallied" .none (.str "ledgerspeak.showing" 1154) 765),
 (772,cb "show_replaced" "show_replaced" 1294 583 1 767 1304),
 (773,fo (ts 103) "show_replaced" .none (.str "ledgerspeak.showing" 1154) 772),
 (779,cb "show_inspect" "show_inspect" 1307 588 1 774 1312),
 (780,fo (ts 104) "show_inspect" .none (.str "ledgerspeak.showing" 1154) 779),
 (793,cb "show_texts" "show_texts" 1328 597 2 788 1334),
 (794,fo (ts 106) "show_texts" .none (.str "ledgerspeak.showing" 1154) 793),
 (800,cb "_law_heap" "_law_heap" 1339 607 1 795 1345),
 (801,fo (ts 108) "_law_heap" .none (.str "law_pq0644_01" 1337) 800),
 (807,cb "_law_draw" "_law_draw" 1348 612 2 802 1354),
 (808,fo (ts 109) "_law_draw" .none (.str "law_pq0644_01" 1337) 807),
 (814,cb "_law_pick" "_law_pick" 1357 619 2 809 1362),
 (815,fo (ts 110) "_law_pick" .none (.str "law_pq0644_01" 1337) 814),
 (821,cb "_law_words" "_law_words" 1365 621 1 816 1371),
 (822,fo (ts 111) "_law_words" .none (.str "law_pq0644_01" 1337) 821),
 (828,cb "_law_item" "_law_item" 1374 631 1 823 1381),
 (829,fo (ts 112) "_law_item" .none (.str "law_pq0644_01" 1337) 828),
 (835,cb "_law_text" "_law_text" 1384 637 1 830 1391),
 (836,fo (ts 113) "_law_text" .none (.str "law_pq0644_01" 1337) 835),
 (842,cb "_law_bounds" "_law_bounds" 1394 646 1 837 1402)]
noncomputable def kp7 (P:Params):Frag:=[
 (843,fo (ts 114) "_law_bounds" .none (.str "law_pq0644_01" 1337) 842),
 (849,cb "_law_counted" "_law_counted" 1405 652 1 844 1419),
 (850,fo (ts 115) "_law_counted" .none (.str "law_pq0644_01" 1337) 849),
 (856,cb "_law_exchanged" "_law_exchanged" 1422 662 1 851 1436),
 (857,fo (ts 116) "_law_exchanged" .none (.str "law_pq0644_01" 1337) 856),
 (863,cb "_law_if" "_law_if" 1439 672 2 858 1445),
 (864,fo (ts 117) "_law_if" .none (.str "law_pq0644_01" 1337) 863),
 (870,cb "_law_inspect" "_law_inspect" 1448 677 2 865 1453),
 (871,fo (ts 118) "_law_inspect" .none (.str "law_pq0644_01" 1337) 870),
 (875,({ cls:=.type "code",data:=.fields #[.str "_law_read" 1456,.str "_law_read" 1457,.str "/claim/cut.py" 1458,.int 679 0,.int 2 0,.int 0 0,.int 0 0,.int 3 0,.ref 872,.bool true,.int 181 0,.ref 873,.none,.none,.none,.ref 874,.int 1459 0,.int 679 0,.str "/claim/cut.py" 1460] }:Obj)),
 (876,fo (ts 119) "_law_read" .none (.str "law_pq0644_01" 1337) 875),
 (882,cb "_law_right" "_law_right" 1462 691 3 877 1468),
 (883,fo (ts 120) "_law_right" .none (.str "law_pq0644_01" 1337) 882),
 (889,cb "law" "law" 1471 695 1 884 1487),
 (890,fo (ts 121) "law" .none (.str "law_pq0644_01" 1337) 889)]
noncomputable def kkg (P:Params) (res:Str):Frag:=kp0 P res++(kp1 P++(kp2 P++(kp3 P++(kp4 P++(kp5 P++(kp6 P++(kp7 P)))))))
noncomputable def kk (P:Params):Frag:=kkg P " ACCEPT ACCESS ADD ADVANCING AFTER ALL ALPHABETIC ALPHABETIC-LOWER ALPHABETIC-UPPER ALPHANUMERIC ALPHANUMERIC-EDITED ALSO ALTERNATE AND ANY ARE AREA AREAS ASCENDING ASSIGN AT AUTHOR BEFORE BINARY BLANK BLOCK BY CALL CHARACTER CHARACTERS CLOSE COMP COMP-3 COMPUTATIONAL COMPUTATIONAL-3 COMPUTE CONFIGURATION CONTAINS CONTENT CONTINUE CONVERTING COPY CORR CORRESPONDING COUNT DATA DATE-COMPILED DATE-WRITTEN DELETE DELIMITED DELIMITER DEPENDING DESCENDING DISPLAY DIVIDE DIVISION DOWN DUPLICATES DYNAMIC ELSE END END-ADD END-CALL END-COMPUTE END-DELETE END-DIVIDE END-EVALUATE END-IF END-MULTIPLY END-PERFORM END-READ END-RETURN END-REWRITE END-SEARCH END-START END-STRING END-SUBTRACT END-UNSTRING END-WRITE ENVIRONMENT EQUAL ERROR EVALUATE EXCEPTION EXIT EXTEND EXTERNAL FALSE FD FILE FILE-CONTROL FILLER FIRST FOR FROM GIVING GLOBAL GO GREATER HIGH-VALUE HIGH-VALUES I-O I-O-CONTROL IDENTIFICATION IF IN INDEX INDEXED INITIAL INITIALIZE INPUT INPUT-OUTPUT INSPECT INSTALLATION INTO INVALID IS JUST JUSTIFIED KEY LABEL LEADING LEFT LESS LINE LINES LINKAGE LOCK LOW-VALUE LOW-VALUES MERGE MODE MOVE MULTIPLY NATIVE NEGATIVE NEXT NO NOT NUMERIC NUMERIC-EDITED OBJECT-COMPUTER OCCURS OF OFF OMITTED ON OPEN OPTIONAL OR ORDER ORGANIZATION OTHER OUTPUT OVERFLOW PACKED-DECIMAL PERFORM PIC PICTURE POINTER POSITIVE PROCEDURE PROCEED PROGRAM PROGRAM-ID QUOTE QUOTES RANDOM READ RECORD RECORDS REDEFINES REFERENCE RELATIVE RELEASE REMAINDER RENAMES REPLACE REPLACING RETURN REWRITE RIGHT ROUNDED RUN SAME SD SEARCH SECTION SECURITY SELECT SENTENCE SEPARATE SEQUENTIAL SET SIGN SIZE SORT SORT-MERGE SOURCE-COMPUTER SPACE SPACES SPECIAL-NAMES STANDARD START STATUS STOP STRING SUBTRACT SYNC SYNCHRONIZED TALLYING TEST THAN THEN THROUGH THRU TIMES TO TRAILING TRUE UNSTRING UNTIL UP UPON USAGE USING VALUE VALUES VARYING WHEN WITH WORKING-STORAGE WRITE ZERO ZEROES ZEROS "
noncomputable def kas:List Addr:=[3,30,36,37,46,47,71,72,146,147,153,154,163,164,174,175,176,177,183,184,190,191,204,205,218,219,225,226,230,231,242,243,249,250,256,257,258,264,265,271,272,278,279,285,286,292,293,306,307,313,314,334,335,355,356,362,363,369,370,383,384,390,391,397,398,404,405,411,412,418,419,425,426,432,433,439,440,446,447,453,454,460,461,462,468,469,475,476,482,483,489,490,494,495,503,509,510,511,517,518,531,532,538,539,540,546,547,553,554,560,561,567,568,574,575,583,589,590,596,597,605,611,612,618,619,625,626,632,633,660,661,663,664,675,676,682,683,687,688,708,709,715,716,739,740,758,759,765,766,772,773,779,780,793,794,800,801,807,808,814,815,821,822,828,829,835,836,842,843,849,850,856,857,863,864,870,871,875,876,882,883,889,890]
noncomputable def tas:List Addr:=[309,478,873]
noncomputable def kH:Hook:=kmHook kk kas (λZ=>by kernel_rfl) tas
noncomputable def qV:Program:={ pE with main:={ pE.main with body:=[ts 121] } }
noncomputable def looseN:List Str:=(body0.take 121).flatMap λst=>match st with
 | .FunctionDef n .. => [n]
 | .ClassDef n .. => [n]
 | .Assign [.Name n _] _ _=>if n == "__name__" then [] else [n]
 |_=>[]
def XtF:Shared->Bool:=λs=>xlAt qV [] s&&recOk (RowW.records rowW) s
noncomputable def mods0:List Str:=importedModules pE.main.body
noncomputable def env0:Env:={ scope:=pE.main.scope,locals:=mainNs,globals:=mainNs,cells:=[],code:=.ref 13,frame:=some 14 }
noncomputable def c0:Code:=.body (behindTheImports pE) env0
noncomputable def z0:Pos:=⟨0,0,0,0⟩
noncomputable def z1:Pos:=⟨695,0,710,81⟩
noncomputable def o11:Obj:=⟨.type "tuple",none,.seq #[],#[]⟩
noncomputable def o12:Obj:=⟨.none,none,.fields #[],#[]⟩
noncomputable def o13:Obj:=⟨.type "code",none,.fields #[.str "<module>" 182,.str "<module>" 183,.str "/claim/cut.py" 184,.int 1 0,.int 0 0,.int 0 0,.int 0 0,.int 0 0,.ref 11,.bool false,.int 181 0,.ref 12,.none,.none,.none,.none,.int 185 0,.int 1 0,.str "/claim/cut.py" 186],#[]⟩
noncomputable def o14:Obj:=⟨.type "frame",none,.plain,#[some (.ref 13),some (.ref 3),some (.ref 3),none,some (.str "__main__" 164),none,some (.ref 0)]⟩
noncomputable def l15 (P:Params):List Obj:=[boot_o_0 P,boot_o_1 P,boot_o_2 P,boot_o_3 P,boot_o_4 P,boot_o_5 P,boot_o_6 P,boot_o_7 P,boot_o_8 P,boot_o_9 P,boot_o_10 P,o11,o12,o13,o14]
noncomputable def t15 (P:Params):BT:=((l15 P).foldl (λ(s:BT×Nat) o=>(s.1.ins s.2 o,s.2+1)) (.nil,0)).1
noncomputable def S15 (w:World) (os:OsState):SharedT:=⟨t15 w.params,15,{},#[],{},187,os⟩
noncomputable abbrev runT:=PySem.W.Fast.tw10110043849684766642
noncomputable abbrev tabT:=PySem.W.Fast.tw14364793385576792824
theorem run_te : @segRunT=runT:=PySem.W.Fast.te10110043849684766642
theorem tab_te:treeTable=tabT:=PySem.W.Fast.te14364793385576792824
noncomputable def G0 (w:World) (s:Shared):=((staticsOk mods0 (boot_heap w.params) s.heap&&namesBound pE s.heap&&gensDone s&&laidKept (boot_heap w.params) s.heap),openSeen qV looseN mods0 XtF true s)
noncomputable def obT (as:List Addr) (t:BT):List (Option Obj):=as.map λa=>match t.get a with
 |some o=>alive o
 |none=>none
noncomputable def F0 (w:World) (r:Flow×SharedT×Code×Pos):=(r.1,r.2.2.1,r.2.2.2,r.2.1.n,G0 w r.2.1.abs,obT kas r.2.1.tree,obT tas r.2.1.tree)
noncomputable def E0 (w:World):=(Flow.next,c0,z1,891,(true,openGood qV looseN),(kk w.params).map (λp=>some p.2),tas.map λZ=>some (tabObj #[]))
abbrev runs (b:Bool)(w:World):Prop:=(λos=>(runT tabT pE (w.withFollow "special-get-raises" b) 11 (some (.ref 6)) 1 5400 (S15 (w.withFollow "special-get-raises" b) os) (piecesOf (behindTheImports pE) env0 c0 z0 [topFrame z0])).map (F0 (w.withFollow "special-get-raises" b))) =
  λZ=>some (E0 (w.withFollow "special-get-raises" b))
theorem run_f (w:World):runs false w:=by kernel_rfl
theorem run_t (w:World):runs true w:=by kernel_rfl
theorem the_run (b:Bool)(w:World):runs b w:=match b with
 |false=>run_f w
 |true=>run_t w
end
section
set_option maxHeartbeats 0
theorem the_run' (w:World):(λos=>(segRunT treeTable pE w 11 (some (.ref 6)) 1 5400 (S15 w os) (piecesOf (behindTheImports pE) env0 c0 z0 [topFrame z0])).map (F0 w))=λZ=>some (E0 w):=by
 have e:=World.withFollow_self w "special-get-raises"
 have h:=the_run (w.params.followText "special-get-raises") w
 rw[runs,e] at h
 rw[run_te,tab_te]
 exact h
theorem fin_run (w:World)(s:Shared):topRun treeTable pE w 11 (some (.ref 6)) 2 s ⟨doneF .next,c0,z1,[topFrame z0]⟩=some s:=rfl
theorem pre_run (w:World):(λos=>topGo treeTable pE w 11 (some (.ref 6)) 12 ⟨boot_heap w.params,#[],boot_drawn,boot_toks,os⟩ (topStub pE))=λos=>some ((S15 w os).abs,⟨denote treeTable c0,c0,z0,[topFrame z0]⟩):=by kernel_rfl
theorem block_run (w:World):(λos=>segRun treeTable pE w 11 (some (.ref 6)) 1 1 (S15 w os).abs (blockOf (behindTheImports pE) env0 c0 z0 [topFrame z0]))=λos=>some (.next,(S15 w os).abs,c0,z0):=by kernel_rfl
theorem size0 (w:World):((boot_heap w.params).isNs mainGlobals&&(#[]:Array GenState).size==0,(boot_heap w.params).objs.size,(boot_heap w.params).nsMap mainGlobals "__annotations__")=(true,11,some (.ref 6)):=by kernel_rfl
theorem obs_abs {t:BT}{life:Life}{n:Nat}:∀ (as:List Addr) (os' : List Obj),as.all (· < n)=true->(as.map λa=>match t.get a with|some o=>alive o|none=>none)=os'.map some->as.map (absHeap t n life).get? = os'.map some
 | [],[],_,_=>rfl
 | [],_::_,_,h=>by cases h
 |_::_,[],_,h=>by cases h
 |a::as,o::os',ha,h=>by
  rw[JX,Jq,decide_eq_true_eq] at ha;rw[QM,QM,V5.injEq] at h
  rw[QM,QM,obs_abs as os' ha.2 h.2]
  cases e:t.get a with
  |none=>rw[e] at h;first|exact nos h.1|exact nof h.1|cases h.1
  |some o' =>
   rw[e] at h;rw[abs_get ha.1 e,show alive o'=some o from h.1]
theorem kas_lt:kas.all (· < 891)=true:=by decide +kernel
theorem left:LeftO pE qV looseN XtF (Hook.obs kH) (Hook.val kH) 12000:=λw=>by
 obtain⟨⟨h,gs,d,k,os⟩,e,e'⟩:=H3.mp (boot_open (p:=pE) (N:=12000) (by kernel_rfl) rfl (λs=>by kernel_rfl) w)
 obtain⟨rfl,rfl,rfl,rfl⟩:h=boot_heap w.params∧gs = #[]∧d=boot_drawn∧k=boot_toks:=by simpa using e'
 obtain⟨z1',z2',z3'⟩:_∧_∧_:=by simpa only [Prod.mk.injEq] using size0 w
 obtain⟨⟨f,S',c,q⟩,r1,r2⟩:=H3.mp (congrFun (the_run' w) os)
 have r2:(f,c,q,S'.n,G0 w S'.abs,obT kas S'.tree,obT tas S'.tree)=E0 w:=r2
 unfold E0 G0 at r2
 simp only[Prod.mk.injEq] at r2
 obtain⟨rfl,rfl,rfl,hn,⟨g1,g2⟩,ho,ho2⟩:=r2
 have s1:=segRun_of r1
 have p1:=piece_app (l:=behindTheImports pE) (rest:=[]) s1 (piece_nil (fin_run w S'.abs))
 rw[QX] at p1
 have p2:=piece_block (b:=behindTheImports pE) (env:=env0) (congrFun (block_run w) os) p1
 have p3:=go_top (congrFun (pre_run w) os) p2
 have p4:=topRun_mono (12000 - (12+(1+(5400+2)))) _ _ _ _ p3
 have t:topFrom treeTable pE w 12000 ⟨boot_heap w.params,#[],boot_drawn,boot_toks,os⟩=some S'.abs:=by
  unfold topFrom;dsimp only
  rw[z1',z2',z3'];show (match true with|true=>(topRun treeTable pE w 11 (some (.ref 6)) 12000 _ (topStub pE)).bind _|false=>none)=_
  rw[show (12000:Nat)=12+(1+(5400+2))+(12000 - (12+(1+(5400+2)))) from rfl,p4];show (match staticsOk mods0 (boot_heap w.params) S'.abs.heap&&namesBound pE S'.abs.heap&&gensDone S'.abs&&laidKept (boot_heap w.params) S'.abs.heap with|true=>some S'.abs|false=>none)=_
  rw[g1]
 unfold openEnds
 rw[e]
 show (topFrom treeTable pE w 12000 _).map _=_
 rw[t]
 refine congrArg some (Prod.ext g2 ?_)
 show (kas.map (absHeap S'.tree S'.n S'.life).get?,tas.map (absHeap S'.tree S'.n S'.life).get?)=((kk w.params).map (λp=>some p.2),tas.map λZ=>some (tabObj #[]))
 rw[hn,obs_abs (life:=S'.life) kas ((kk w.params).map (·.2)) kas_lt (by rw[VZ];exact ho),obs_abs (life:=S'.life) tas (tas.map λZ=>tabObj #[]) (by decide +kernel) (by rw[VZ];exact ho2),VZ,VZ]
 rfl
noncomputable def lawD:DefRec×List (Str×PySem.Expr):=(defOf qV rowW.name).get (by decide +kernel)
theorem hd (walk:WalkO qV looseN (XL qV []) (Hook.says kH) rowW lawD.1 lawD.2 λf vs=>PySem.call f vs):PySem.Challenge.rw_pq0644_01.Holds:=by
 refine holds_law Mine.said λh=>?_
 exact holds_open (q:=qV) (loose:=looseN) (Xt:=XtF) (XP:=XL qV []) (Yf:=Hook.obs kH) (Ya:=Hook.val kH) (YP:=Hook.says kH) (N:=12000) (d:=lawD.1) (kwd:=lawD.2) left (Hook.of kH) (Hook.keeps kH)
  (λs e=>xl_of s (Q7.mp e).1) XL.keeps (by kernel_rfl) (by kernel_rfl) (by kernel_rfl) (λs e=>recFacts_of (Q7.mp e).2) (by rfl) h (by decide +kernel) ⟨rfl,rfl,rfl,rfl,rfl,by decide +kernel⟩ (by w_witness2) walk
end
section
structure Cx where
 prog:Program
 w:World
 K:Frag
 p:Program
 loose:List Str
 mean:ExcName->Option Value
 mg:Str->Option Value
 mb:Str->Option Value
 lam:Nat->Option LamRec
 tabs:List (Addr×Addr×Nat×Pos)
 gens:Array GenState
 drawn:Drawn
 os:OsState
inductive TabOk (c:Cx)(W:Wd)(id:Nat)(pos:Pos):Array Value->Prop
 |none:TabOk c W id pos #[]
 |one {c' : Addr} {oc:Obj} {vs:Array Value} {t:Tok} {r:LamRec}:c.lam id=some r->(c',oc)∈W.tl->oc.data = .fields vs->vs[1]? = some (.str r.qual t) ->
   TabOk c W id pos #[rawInt pos.line,rawInt pos.col,.ref c']
theorem TabOk.mono {c:Cx}{W W' : Wd}{id:Nat}{pos:Pos}{ps:Array Value}(h:W.le W'):TabOk c W id pos ps->TabOk c W' id pos ps
 | .none=>.none
 | .one e m d q=>.one e (h.2 _ m) d q
inductive Own (c:Cx)(W:Wd)(N:NwT)(i:Nat)(ao:AO):Prop
 |mk (a:Addr) (o:Obj) (h1:W.ρ[i]? = some a) (h2:(a,o)∈N) (h3:ObjR c.lam c.w.params W ao o)
inductive TabR (c:Cx)(W:Wd)(N:NwT)(q:Addr×Addr×Nat×Pos):Prop
 |mk (ps:Array Value) (h1:(q.2.1,tabObj ps)∈N) (h2:TabOk c W q.2.2.1 q.2.2.2 ps)
structure Facts (c:Cx)(pin:NwT)(W:Wd)(σ:Store)(N:NwT):Prop where
 len:W.ρ.length=σ.length
 own:∀ (i:Nat) (ao:AO),σ[i]? = some ao->Own c W N i ao
 tl:∀ p∈W.tl,p∈N
 pn:∀ p∈pin,p∈N
 inj:∀ (i j:Nat) (a:Addr),W.ρ[i]? = some a->W.ρ[j]? = some a->i=j
 dis:∀ p∈W.tl,∀ (i:Nat),W.ρ[i]? ≠ some p.1
 disp:∀ p∈pin,∀ (i:Nat),W.ρ[i]? ≠ some p.1
 tab:∀ q∈c.tabs,TabR c W N q
 tabρ:∀ q∈c.tabs,∀ (i:Nat),W.ρ[i]? ≠ some q.2.1
 tabt:∀ q∈c.tabs,∀ p∈W.tl,p.1≠q.2.1
 tabp:∀ q∈c.tabs,∀ p∈pin,p.1≠q.2.1
 tlp:∀ q∈pin,∀ p∈W.tl,p.1≠q.1
 pnd:(pin.map (·.1)).Nodup
theorem Facts.mono {c:Cx}{pin:NwT}{W:Wd}{σ:Store}{N N' : NwT}(F:Facts c pin W σ N)(h:∀ p∈N,p∈N'):Facts c pin W σ N' :=
 { F with
   own:=λi ao e=>(F.own i ao e).casesOn λa o h1 h2 h3=>⟨a,o,h1,h _ h2,h3⟩
   tl:=λp m=>h _ (F.tl p m)
   pn:=λp m=>h _ (F.pn p m)
   tab:=λq m=>(F.tab q m).casesOn λps h1 h2=>⟨ps,h _ h1,h2⟩ }
section
variable {c:Cx}{pin:NwT}{W:Wd}{σ:Store}{N:NwT}{P:Prop}{i:Nat}{x:Addr}
theorem Facts.atO (F:Facts c pin W σ N)(hx:W.ρ[i]? = some x){ao:AO}(h:σ[i]? = some ao):∃ o,(x,o)∈N∧ObjR c.lam c.w.params W ao o:=
 (F.own i _ h).casesOn λZ o e1 e2 e3=>⟨o,soI (hx.symm.trans e1)▸e2,e3⟩
theorem Facts.atInst (F:Facts c pin W σ N)(hx:W.ρ[i]? = some x){C:Addr}{j:Nat}(h:σ[i]? = some (.inst C j))(k:∀ dx,W.ρ[j]? = some dx->(x,instObj C dx)∈N->P):P:=
 (F.atO hx h).elim λZ z=>jInst (J:=λo=>(x,o)∈N->P) z.2 k z.1
theorem Facts.atDict (F:Facts c pin W σ N)(hx:W.ρ[i]? = some x){es:List (Str×AV)}(h:σ[i]? = some (.dict es))(k:∀ ds n,RelD c.lam c.w.params W es ds->(x,dictOf ds n)∈N->P):P:=
 (F.atO hx h).elim λZ z=>jDict (J:=λo=>(x,o)∈N->P) z.2 k z.1
theorem Facts.atList (F:Facts c pin W σ N)(hx:W.ρ[i]? = some x){l:List AV}(h:σ[i]? = some (.list l))(k:∀ vs n,RelL c.lam W l vs->(x,listOf (List.toArray vs) n)∈N->P):P:=
 (F.atO hx h).elim λZ z=>jList (J:=λo=>(x,o)∈N->P) z.2 k z.1
end
structure Fm where
 AZ:Around
 base:Heap
 h₀:Heap
 outer:List Env
 L:Addr
 cs:Scope
 cl:List (Str×Addr)
 xs:List Str
 ys:List Str
 pin:List (Addr×Obj)
 env:Env
 fr:Env
 comp:Option (Addr×Obj×(Str->Option Value))
 oxs:List Str
 oloc:List (Option AV)
noncomputable def Fm.locs (f:Fm):Addr:=match f.comp with
 |none=>f.L
 |some p=>p.1
noncomputable def Fm.sel (f:Fm) (m:Str->Option Value):Str->Option Value:=match f.comp with
 |none=>m
 |some p=>p.2.2
structure En where
 loc:List (Option AV)
 cel:List AV
def EnvR (lam:Nat->Option LamRec)(W:Wd)(xs:List Str)(loc:List (Option AV))(m:Str->Option Value):Prop:=
 loc.length=xs.length∧∀ (i:Nat) (x:Str) (a:AV),xs[i]? = some x->loc[i]? = some (some a)->∃ v,m x=some v∧Rel lam W a v
theorem EnvR.mono {lam:Nat->Option LamRec}{W W' : Wd}{xs:List Str}{loc:List (Option AV)}{m:Str->Option Value}(h:W.le W')(r:EnvR lam W xs loc m):EnvR lam W' xs loc m:=
 ⟨r.1,λi x a e1 e2=>let ⟨v,h1,h2⟩:=r.2 i x a e1 e2; ⟨v,h1,h2.mono h⟩⟩
structure Fm.Ok (c:Cx)(f:Fm)(A:Around)(d:Nat):Prop where
 B:Below f.AZ f.base f.outer f.h₀
 X:c.K.In f.h₀
 T:Top c.p c.loose c.mean c.mg c.mb f.h₀
 codes:∀ q∈c.tabs,CodeHd f.h₀ q.1 q.2.1
 frames:A.frames=some (f.fr::f.outer)
 frf:f.fr.frame=some f.L
 frk:f.fr.scope.kind = .function
 sc:f.env.scope=f.cs
 cls:f.env.cells=f.cl
 glo:f.env.globals=mainGlobals
 blt:f.env.builtins=builtinsNs
 loc:f.env.locals=f.locs
 cmp:∀ p,f.comp=some p->(p.1,p.2.1)∈f.pin∧∀ h:Heap,h.get? p.1=some p.2.1->h.Ns p.1 p.2.2
 handled:A.handled=none
 depth:A.depth+3 * d+3<recursionLimit
 units:A.units+30 * d+60<cLine
 kind:f.cs.kind = .function
 nodup:f.xs.Nodup
 onil:f.comp=none->f.oxs=[]∧f.oloc=[]
structure St (c:Cx)(f:Fm)(W:Wd)(σ:Store)(en:En)(s:Shared)(m:Str->Option Value)(N:NwT):Prop where
 F:Fr f.h₀ f.L s.heap m
 nw:News f.h₀ f.L s.heap N
 fa:Facts c f.pin W σ N
 env:EnvR c.lam W f.xs en.loc (f.sel m)
 cel:RelC c.lam W f.ys en.cel f.cl
 gens:s.gens=c.gens
 drawn:s.drawn=c.drawn
 os:s.os=c.os
 pos:0<s.toks
 oenv:EnvR c.lam W f.oxs f.oloc m
inductive Pst {α:Type}(c:Cx)(f:Fm)(W:Wd)(en:En)(σ:Store)(R:Wd->α->Prop)(v:α)(s' : Shared):Prop
 |mk (W' : Wd) (m' : Str->Option Value) (N' : NwT) (w:W.le W') (S:St c f W' σ en s' m' N') (r:R W' v)
abbrev PostE (c:Cx)(f:Fm)(W:Wd)(en:En)(a:AV)(σ' : Store):Value->Shared->Prop:=Pst c f W en σ' λW' v=>Rel c.lam W' a v
theorem post {M:Model}{A:Around}{E:Value->Shared->Prop}{s:Shared}{α:Type}{t:Sem α}{c:Cx}{f:Fm}{W:Wd}{en:En}{σ:Store}{R:Wd->α->Prop}{Q:α->Shared->Prop}
  (h:wpAny M A t (Pst c f W en σ R) E s) (k:∀ v s' W' m' N',W.le W'->St c f W' σ en s' m' N'->R W' v->Q v s'):wpAny M A t Q E s:=
 Qz h (λv s' ⟨W',m',N',w,S,r⟩=>k v s' W' m' N' w S r) λZ Z x=>x
abbrev Md:=En->Store->Option (AV×Store)
def SE (c:Cx)(d:Nat)(f:Fm)(e:PySem.Expr)(M:Md):Prop:=
 ∀ (A:Around) (W:Wd) (s:Shared) (σ:Store) (en:En) (a:AV) (σ' : Store) (m:Str->Option Value) (N:NwT) (E:Value->Shared->Prop),
  f.Ok c A d->St c f W σ en s m N->M en σ=some (a,σ')->wpAny (model c.prog c.w) A (eval e f.env) (PostE c f W en a σ') E s
section
variable {c:Cx}{f:Fm}{W:Wd}{σ:Store}{en:En}{s:Shared}{m:Str->Option Value}{N:NwT}
theorem St.toks (S:St c f W σ en s m N)(t:Nat)(ht:0<t):St c f W σ en { s with toks:=t } m N:=⟨S.F,S.nw,S.fa,S.env,S.cel,S.gens,S.drawn,S.os,ht,S.oenv⟩
theorem St.post (S:St c f W σ en s m N){a:AV}{v:Value}(r:Rel c.lam W a v):PostE c f W en a σ v s:=⟨W,m,N,.refl W,S,r⟩
theorem St.postT (S:St c f W σ en s m N){a:AV}{v:Value}{t:Nat}(r:Rel c.lam W a v)(ht:0<t):PostE c f W en a σ v { s with toks:=t }:=⟨W,m,N,.refl W,S.toks t ht,r⟩
end
section
variable {c:Cx}{d:Nat}{f:Fm}
noncomputable def constAV:Const->Option AV
 | .none=>some .none
 | .bool b=>some (.bool b)
 | .int i=>some (.int i)
 | .str s=>some (.str s)
 |_=>none
theorem se_const {k:Const}{n:Nat}{pos:Pos}{a:AV}(h:constAV k=some a):SE c d f (.Constant k n pos) (λZ σ=>some (a,σ)):=by
 intro A W s σ en a' σ' m N E ok S e
 cases e
 rw[arm_eval_Constant]
 cases k with
 |none=>cases h;exact Qk (S.post .none)
 |bool b=>cases h;exact Qk (S.post (.bool b))
 |int i=>cases h;exact wpAny_mkInt (S.postT (.int i _) (Qq _))
 |str x=>cases h;exact Nk (S.postT (.str x _) (Qq _))
 |_=>exact nos h
theorem Fm.Ok.kindOf {A:Around}(ok:f.Ok c A d)(x:Str):f.env.kindOf x=f.cs.names.lookup x:=by
 show f.env.scope.names.lookup x=_
 rw[ok.sc]
theorem Fm.Ok.skind {A:Around}(ok:f.Ok c A d):f.env.scope.kind = .function:=by rw[ok.sc];exact ok.kind
theorem St.ns {A:Around}{W:Wd}{σ:Store}{en:En}{s:Shared}{m:Str->Option Value}{N:NwT}(ok:f.Ok c A d)(S:St c f W σ en s m N):s.heap.Ns f.env.locals (f.sel m):=by
 rw[ok.loc]
 unfold Fm.locs Fm.sel
 cases h:f.comp with
 |none=>exact S.F.ns
 |some p=>
  obtain⟨h1,h2⟩:=ok.cmp p h;exact h2 _ (S.nw _ (S.fa.pn _ h1)).1
theorem se_local {x:Str}{pos:Pos}{i:Nat}(hx:f.xs[i]? = some x)(hk:f.cs.names.lookup x=some .local)(hd:(x==("__debug__" : Str))=false) :
  SE c d f (.Name x pos) (λen σ=>match en.loc[i]? with|some (some a)=>some (a,σ)|_=>none):=by
 intro A W s σ en a σ' m N E ok S e
 dsimp only at e
 cases q:en.loc[i]? with
 |none=>rw[q] at e;exact nos e
 |some o=>cases o with
  |none=>rw[q] at e;exact nos e
  |some a=>
  rw[q] at e;refine oe2 e ?_
  refine xe12 (S.env.2 i x _ hx q) λv hv r=>?_
  exact wpAny_Name (wpAny_loadName_local ok.skind ((ok.kindOf x).trans hk) (S.ns ok) hv (S.post r)) hd
theorem relC_cons {lam:Nat->Option LamRec}{W:Wd}{x:Str}{a:AV}{xs:List Str}{as:List AV}{cl:List (Str×Addr)}(h:RelC lam W (x::xs) (a::as) cl){P:Prop}
  (k:∀ v ca o,cl.lookup x=some ca->(ca,o)∈W.tl->o.data = .cell (some v)->Rel lam W a v->RelC lam W xs as cl->P):P:=by
 cases h with
 |cons e m d r q=>exact k _ _ _ e m d r q
theorem RelC.get {lam:Nat->Option LamRec}{W:Wd}{x:Str}{a:AV}{cl:List (Str×Addr)}{P:Prop}(k:∀ v ca o,cl.lookup x=some ca->(ca,o)∈W.tl->o.data = .cell (some v)->Rel lam W a v->P)(i:Nat):∀ {xs:List Str} {as:List AV},RelC lam W xs as cl->xs[i]? = some x->as[i]? = some a->P:=by
 induction i with
 |zero=>
   intro xs as r h1 h2
   cases xs with
   |nil=>exact nos h1
   |cons y xs=>cases as with
    |nil=>exact nos h2
    |cons b as=>exact relC_cons r λv ca o e m d r Z=>k v ca o ((soI h1:y=x)▸e) m d ((soI h2:b=a)▸r)
 |succ i ih=>
   intro xs as r h1 h2
   cases xs with
   |nil=>exact nos h1
   |cons y xs=>cases as with
    |nil=>exact nos h2
    |cons b as=>exact relC_cons r λZ Z Z Z Z Z Z q=>ih q h1 h2
theorem se_cell {x:Str}{pos:Pos}{i:Nat}(hx:f.ys[i]? = some x)(hk:f.cs.names.lookup x=some .cell∨f.cs.names.lookup x=some .free)(hd:(x==("__debug__" : Str))=false)(hn:(x==("__classdict__" : Str))=false) :
  SE c d f (.Name x pos) (λen σ=>match en.cel[i]? with|some a=>some (a,σ)|_=>none):=by
 intro A W s σ en a' σ' m N E ok S e
 dsimp only at e
 cases q:en.cel[i]? with
 |none=>rw[q] at e;exact nos e
 |some a=>
  rw[q] at e;refine oe2 e ?_
  refine RelC.get (λv ca o h1 h2 h3 r=>?_) i S.cel hx q;have hc:f.env.cells.lookup x=some ca:=by rw[ok.cls];exact h1
  have hv:s.heap.IsCell ca (some v):=⟨o,S.nw.get (S.fa.tl _ h2),h3⟩;rcases hk with hk|hk
  · exact wpAny_Name (wpAny_loadName_cell ok.skind ((ok.kindOf x).trans hk) hc hv (S.post r)) hd
  · exact wpAny_Name (wpAny_loadName_free ok.skind ((ok.kindOf x).trans hk) hc hv (S.post r) hn) hd
noncomputable def globAV:Value->AV
 | .none=>.none
 | .bool b=>.bool b
 | .int i _=>.int i
 | .str s _=>.str s
 |v=>.glob v
theorem Wx {lam:Nat->Option LamRec}{W:Wd}(v:Value):Rel lam W (globAV v) v:=by
 cases v<;>first|exact .none|exact .bool _|exact .int _ _|exact .str _ _|exact .glob _
theorem se_global {x:Str}{pos:Pos}{v:Value}(e:nsIn c.K mainGlobals x=some (some v))(hk:f.cs.names.lookup x=some .globalImplicit)(hd:(x==("__debug__" : Str))=false) :
  SE c d f (.Name x pos) (λZ σ=>some (globAV v,σ)):=by
 intro A W s σ en a' σ' m N E ok S q
 cases q
 have G:s.heap.Ns f.env.globals c.mg:=by rw[ok.glo];exact(topRead_of ok.T).g.keeps S.F.keep
 exact Name_function_global ok.skind ((ok.kindOf x).trans hk) (loadGlobal_global G (mg_of ok.X (topRead_of ok.T).g e) (S.post (Wx v))) hd
theorem se_builtin {x:Str}{pos:Pos}{v:Value}(e:nsIn c.K mainGlobals x=some none)(hv:bootBuiltins x=some v)(hn:x ≠ "__name__")(hk:f.cs.names.lookup x=some .globalImplicit)(hd:(x==("__debug__" : Str))=false) :
  SE c d f (.Name x pos) (λZ σ=>some (.glob v,σ)):=by
 intro A W s σ en a' σ' m N E ok S q
 cases q
 have G:s.heap.Ns f.env.globals c.mg:=by rw[ok.glo];exact(topRead_of ok.T).g.keeps S.F.keep
 have Bn:s.heap.Ns f.env.builtins c.mb:=by rw[ok.blt];exact(topRead_of ok.T).b.keeps S.F.keep
 exact Name_function_global ok.skind ((ok.kindOf x).trans hk) (loadGlobal_builtin G (mg_none_of ok.X (topRead_of ok.T).g e) Bn (((topRead_of ok.T).builtins x hn).trans hv) (S.post (.glob v))) hd
end
end
section
noncomputable def Wd.made (W:Wd) (a:Addr):Wd:=⟨W.ρ++[a],W.tl⟩
noncomputable def Wd.still (W:Wd) (p:Addr×Obj):Wd:=⟨W.ρ,p::W.tl⟩
theorem Wd.le_made (W:Wd)(a:Addr):W.le (W.made a):=
 ⟨λi b e=>by
  show (W.ρ++[a])[i]? = some b;rw[Q3 (QQ.mp e).1];exact e,λZ h=>h⟩
theorem Wd.le_still (W:Wd)(p:Addr×Obj):W.le (W.still p):=⟨λZ Z e=>e,λZ h=>.tail _ h⟩
theorem Wd.made_at (W:Wd)(a:Addr):(W.made a).ρ[W.ρ.length]? = some a:=by
 show (W.ρ++[a])[W.ρ.length]? = some a
 rw[JJ (QN _),UH];rfl
theorem Wd.made_cases {W:Wd}{a b:Addr}{i:Nat}(e:(W.made a).ρ[i]? = some b):W.ρ[i]? = some b∨(i=W.ρ.length∧b=a):=by
 have e:(W.ρ++[a])[i]? = some b:=e
 by_cases h:i<W.ρ.length
 · rw[Q3 h] at e;exact .inl e
 · rw[JJ (WU.mp h)] at e
   have h2:i - W.ρ.length=0:=by
    have:=(QQ.mp e).1;simp at this;exact this
   rw[h2] at e;exact .inr ⟨Nat.le_antisymm (Nat.sub_eq_zero_iff_le.mp h2) (WU.mp h),by simpa using e.symm⟩
section
variable {c:Cx}{pin:NwT}{W:Wd}{σ:Store}{N:NwT}
theorem Facts.addr (F:Facts c pin W σ N){i:Nat}{a:Addr}(e:W.ρ[i]? = some a):∃ o,(a,o)∈N:=by
 have h:i<σ.length:=by rw[← F.len];exact(QQ.mp e).1
 obtain⟨a',o,h1,h2,_⟩:=F.own i σ[i] (JN h)
 rw[e] at h1;cases h1
 exact⟨o,h2⟩
theorem Facts.made (F:Facts c pin W σ N){a:Addr}{o:Obj}{ao:AO}(hn:∀ p∈N,p.1<a)(hr:ObjR c.lam c.w.params (W.made a) ao o):Facts c pin (W.made a) (σ++[ao]) ((a,o)::N) where
 len:=by show (W.ρ++[a]).length=_;simp[F.len]
 own:=λi ao' e=>by
  by_cases h:i<σ.length
  · rw[Q3 h] at e
    obtain⟨b,ob,h1,h2,h3⟩:=F.own i ao' e;exact⟨b,ob,(W.le_made a).1 _ _ h1,.tail _ h2,h3.mono (W.le_made a)⟩
  · rw[JJ (WU.mp h)] at e
    have h2:i - σ.length=0:=by
     have:=(QQ.mp e).1;simp at this;exact this
    rw[h2] at e;cases e
    have:i=W.ρ.length:=by rw[F.len];exact Nat.le_antisymm (Nat.sub_eq_zero_iff_le.mp h2) (WU.mp h)
    exact⟨a,o,this▸W.made_at a,.head _,hr⟩
 tl:=λp m=>.tail _ (F.tl p m)
 pn:=λp m=>.tail _ (F.pn p m)
 inj:=λi j b e1 e2=>by
  rcases Wd.made_cases e1 with e1|⟨e1,h1⟩<;>rcases Wd.made_cases e2 with e2|⟨e2,h2⟩
  · exact F.inj i j b e1 e2
  · obtain⟨o',hm⟩:=F.addr e1
    have:=hn _ hm;subst h2;exact absurd this (J4 _)
  · obtain⟨o',hm⟩:=F.addr e2
    have:=hn _ hm;subst h1;exact absurd this (J4 _)
  · rw[e1,e2]
 dis:=λp m i e=>by
  rcases Wd.made_cases e with e|⟨_,h⟩
  · exact F.dis p m i e
  · have:=hn _ (F.tl p m);rw[h] at this;exact absurd this (J4 _)
 disp:=λp m i e=>by
  rcases Wd.made_cases e with e|⟨_,h⟩
  · exact F.disp p m i e
  · have:=hn _ (F.pn p m);rw[h] at this;exact absurd this (J4 _)
 tab:=λq m=>(F.tab q m).casesOn λps h1 h2=>⟨ps,.tail _ h1,h2.mono (W.le_made a)⟩
 tabρ:=λq m i e=>by
  rcases Wd.made_cases e with e|⟨_,h⟩
  · exact F.tabρ q m i e
  · obtain⟨ps,h1,_⟩:=F.tab q m
    have:=hn _ h1;rw[← h] at this;exact absurd this (J4 _)
 tabt:=F.tabt
 tabp:=F.tabp
 tlp:=F.tlp
 pnd:=F.pnd
theorem Facts.still (F:Facts c pin W σ N){a:Addr}{o:Obj}(hn:∀ p∈N,p.1<a):Facts c pin (W.still (a,o)) σ ((a,o)::N) where
 len:=F.len
 own:=λi ao e=>(F.own i ao e).casesOn λb ob h1 h2 h3=>⟨b,ob,h1,.tail _ h2,h3.mono (W.le_still _)⟩
 tl:=λp m=>by
  rcases mcM m with rfl|m
  · exact .head _
  · exact .tail _ (F.tl p m)
 pn:=λp m=>.tail _ (F.pn p m)
 inj:=F.inj
 dis:=λp m i e=>by
  rcases mcM m with rfl|m
  · obtain⟨o',hm⟩:=F.addr e
    exact absurd (hn _ hm) (J4 _)
  · exact F.dis p m i e
 disp:=F.disp
 tab:=λq m=>(F.tab q m).casesOn λps h1 h2=>⟨ps,.tail _ h1,h2.mono (W.le_still _)⟩
 tabρ:=F.tabρ
 tabt:=λq m p mp=>by
  rcases mcM mp with rfl|mp
  · obtain⟨ps,h1,_⟩:=F.tab q m
    exact Qj (hn _ h1)
  · exact F.tabt q m p mp
 tabp:=F.tabp
 tlp:=λq m p mp=>by
  rcases mcM mp with rfl|mp
  · exact Qj (hn _ (F.pn q m))
  · exact F.tlp q m p mp
 pnd:=F.pnd
noncomputable def turnN (N:NwT) (a:Addr) (o:Obj):NwT:=(a,o)::N.filter λp=>decide (p.1≠a)
theorem V8 {N:NwT}{a:Addr}{o:Obj}{p:Addr×Obj}(m:p∈N)(h:p.1≠a):p∈turnN N a o:=.tail _ (JZ.mpr ⟨m,decide_eq_true h⟩)
theorem MH {h₀ h:Heap}{L a:Addr}{o:Obj}(X:News h₀ L h N)(m:(a,o)∈N):News h₀ L h (turnN N a o):=λp hp=>by
 rcases mcM hp with rfl|hp
 · exact X _ m
 · exact X _ (JZ.mp hp).1
theorem L7 {a:Addr}{o o' : Obj}:Upd a o o' (turnN N a o) (turnN N a o'):=.head λp hp=>of_decide_eq_true (JZ.mp hp).2
theorem Facts.turn (F:Facts c pin W σ N){i:Nat}{a:Addr}{o:Obj}{ao:AO}(hi:W.ρ[i]? = some a)(hr:ObjR c.lam c.w.params W ao o):Facts c pin W (σ.set i ao) (turnN N a o) where
 len:=by rw[F.len,J2]
 own:=λj ao' e=>by
  by_cases h:i=j
  · subst h
    have hl:i<σ.length:=by rw[← F.len];exact(QQ.mp hi).1
    rw[J1 hl] at e;cases e
    exact⟨a,o,hi,.head _,hr⟩
  · rw[JW h] at e
    obtain⟨b,ob,h1,h2,h3⟩:=F.own j ao' e;exact⟨b,ob,h1,V8 h2 λq=>h (F.inj i j a hi (by rw[h1];exact congrArg some q)),h3⟩
 tl:=λp m=>V8 (F.tl p m) λq=>F.dis p m i (by rw[hi,q])
 pn:=λp m=>V8 (F.pn p m) λq=>F.disp p m i (by rw[hi,q])
 inj:=F.inj
 dis:=F.dis
 disp:=F.disp
 tab:=λq m=>(F.tab q m).casesOn λps h1 h2=>⟨ps,V8 h1 λe=>F.tabρ q m i (by rw[hi];exact congrArg some e.symm),h2⟩
 tabρ:=F.tabρ
 tabt:=F.tabt
 tabp:=F.tabp
 tlp:=F.tlp
 pnd:=F.pnd
end
section
variable {c:Cx}{d:Nat}{f:Fm}{W:Wd}{σ:Store}{en:En}{s:Shared}{m:Str->Option Value}{N:NwT}
theorem St.made (S:St c f W σ en s m N){h' : Heap}{t:Nat}{a:Addr}{o:Obj}{ao:AO}(F:Fr f.h₀ f.L h' m)(X:News f.h₀ f.L h' ((a,o)::N))(hn:∀ p∈N,p.1<a)(hr:ObjR c.lam c.w.params (W.made a) ao o)(ht:0<t) :
  St c f (W.made a) (σ++[ao]) en { s with heap:=h',toks:=t } m ((a,o)::N):=
 ⟨F,X,S.fa.made hn hr,S.env.mono (W.le_made a),S.cel.mono (W.le_made a),S.gens,S.drawn,S.os,ht,S.oenv.mono (W.le_made a)⟩
theorem St.still (S:St c f W σ en s m N){h' : Heap}{t:Nat}{a:Addr}{o:Obj}(F:Fr f.h₀ f.L h' m)(X:News f.h₀ f.L h' ((a,o)::N))(hn:∀ p∈N,p.1<a)(ht:0<t) :
  St c f (W.still (a,o)) σ en { s with heap:=h',toks:=t } m ((a,o)::N):=
 ⟨F,X,S.fa.still hn,S.env.mono (W.le_still _),S.cel.mono (W.le_still _),S.gens,S.drawn,S.os,ht,S.oenv.mono (W.le_still _)⟩
theorem St.turn (S:St c f W σ en s m N){h' : Heap}{t:Nat}{i:Nat}{a:Addr}{o:Obj}{ao:AO}(F:Fr f.h₀ f.L h' m)(X:News f.h₀ f.L h' (turnN N a o))(hi:W.ρ[i]? = some a)(hr:ObjR c.lam c.w.params W ao o)(ht:0<t) :
  St c f W (σ.set i ao) en { s with heap:=h',toks:=t } m (turnN N a o):=
 ⟨F,X,S.fa.turn hi hr,S.env,S.cel,S.gens,S.drawn,S.os,ht,S.oenv⟩
theorem St.same (S:St c f W σ en s m N){h' : Heap}{t:Nat}(F:Fr f.h₀ f.L h' m)(X:News f.h₀ f.L h' N)(ht:0<t):St c f W σ en { s with heap:=h',toks:=t } m N:=
 ⟨F,X,S.fa,S.env,S.cel,S.gens,S.drawn,S.os,ht,S.oenv⟩
theorem St.lt (S:St c f W σ en s m N):∀ p∈N,p.1<s.heap.objs.size:=λp hp=>V0 (S.nw p hp).1
abbrev PostL (c:Cx)(f:Fm)(W:Wd)(en:En)(l:List AV)(σ' : Store):List Value->Shared->Prop:=Pst c f W en σ' λW' vs=>RelL c.lam W' l vs
abbrev PostB (c:Cx)(f:Fm)(W:Wd)(en:En)(b:Bool)(σ' : Store):Bool->Shared->Prop:=Pst c f W en σ' λZ b'=>b'=b
theorem St.tuple {A:Around}{M:Model}{E:Value->Shared->Prop}{l:List AV}{vs:List Value}(S:St c f W σ en s m N)(r:RelL c.lam W l vs)(hl:l.length≤1000000) :
  wpAny M A (newTuple vs) (PostE c f W en (.tup l) σ) E s:=
 newTuple_N S.F S.nw (λZ F' X'=>⟨_,_,_,W.le_still _,S.still (t:=s.toks) F' X' S.lt S.pos,.tup (.head _) (r.mono (W.le_still _))⟩) (by rw[← r.length];exact adL 0 hl rfl)
theorem St.list {A:Around}{M:Model}{E:Value->Shared->Prop}{l:List AV}{vs:List Value}(S:St c f W σ en s m N)(r:RelL c.lam W l vs)(hl:l.length≤1000000) :
  wpAny M A (newList vs) (PostE c f W en (.ref σ.length) (σ++[.list l])) E s:=
 newList_K S.F S.nw (λa h' F' X' hn=>⟨_,_,_,W.le_made a,S.made (t:=s.toks) F' X' hn (.list (r.mono (W.le_made a))) S.pos,.ref (by rw[← S.fa.len];exact W.made_at a)⟩) (by rw[← r.length];exact adL 0 hl rfl)
end
abbrev MdL:=En->Store->Option (List AV×Store)
def SL (c:Cx)(d:Nat)(f:Fm)(es:List PySem.Expr)(M:MdL):Prop:=
 ∀ (A:Around) (W:Wd) (s:Shared) (σ:Store) (en:En) (l:List AV) (σ' : Store) (m:Str->Option Value) (N:NwT) (E:Value->Shared->Prop) (pos:Pos),
  f.Ok c A d->St c f W σ en s m N->M en σ=some (l,σ')->wpAny (model c.prog c.w) A (spliced (backTo pos (starEach es f.env))) (PostL c f W en l σ') E s
abbrev MdB:=En->Store->Option (Bool×Store)
def ST (c:Cx)(d:Nat)(f:Fm)(e:PySem.Expr)(M:MdB):Prop:=
 ∀ (A:Around) (W:Wd) (s:Shared) (σ:Store) (en:En) (b:Bool) (σ' : Store) (m:Str->Option Value) (N:NwT) (E:Value->Shared->Prop),
  f.Ok c A d->St c f W σ en s m N->M en σ=some (b,σ')->wpAny (model c.prog c.w) A (isTrue e f.env (eval e f.env)) (PostB c f W en b σ') E s
noncomputable def notStar:PySem.Expr->Bool
 | .Starred .. => false
 |_=>true
theorem UV {e:PySem.Expr}{rest:List PySem.Expr}{env:Env}(h:notStar e=true):starEach (e::rest) env=(false,eval e env)::starEach rest env:=by
 cases e<;>first|rfl|exact nos h|exact nof h|cases h
section
variable {c:Cx}{d:Nat}{f:Fm}
theorem WN:SL c d f [] (λZ σ=>some ([],σ)):=by
 intro A W s σ en l σ' m N E pos ok S e
 cases e
 exact H4 ⟨W,m,N,.refl W,S,.nil⟩
theorem H5 {e:PySem.Expr}{rest:List PySem.Expr}{M:Md}{ML:MdL}(h:SE c d f e M)(hr:SL c d f rest ML)(hs:notStar e=true) :
  SL c d f (e::rest) (λen σ=>on2 (M en σ) λa σ₁=>on2 (ML en σ₁) λl σ₂=>some (a::l,σ₂)):=by
 intro A W s σ en l σ' m N E pos ok S q
 dsimp only at q
 refine om q λa σ₁ q1 q=>?_
 refine om q λl₂ σ₂ q2 q=>?_
 cases q
 refine UJ (post (h A W s σ en a σ₁ m N E ok S q1) λv s₁ WA m₁ NA w₁ S₁ rA=>?_) (UV hs)
 exact post (hr A WA s₁ σ₁ en l₂ _ m₁ NA E pos ok S₁ q2) λvs sB WB mB NB wB S₂ rB=>⟨WB,mB,NB,w₁.trans wB,S₂,.cons (rA.mono wB) rB⟩
theorem Pst.up {α:Type}{W WA:Wd}{en:En}{σ' : Store}{R:Wd->α->Prop}{v:α}{s' : Shared}(h:W.le WA)(p:Pst c f WA en σ' R v s'):Pst c f W en σ' R v s' :=
 p.casesOn λW' m' N' w S r=>⟨W',m',N',h.trans w,S,r⟩
theorem se_tuple {es:List PySem.Expr}{k:Nat}{pos:Pos}{ML:MdL}(h:SL c d f es ML) :
  SE c d f (.Tuple es k pos) (λen σ=>on2 (ML en σ) λl σ₁=>if l.length≤1000000 then some (.tup l,σ₁) else none):=by
 intro A W s σ en a σ' m N E ok S q
 dsimp only at q
 refine om q λl σ₁ q1 q=>oi q λhl q=>oe2 q ?_
 exact Tuple_ (post (h A W s σ en l _ m N E pos ok S q1) λvs s₁ WA m₁ NA w₁ S₁ rA=>Qz (S₁.tuple rA hl) (λZ Z x=>x.up w₁) λZ Z x=>x)
theorem se_list {es:List PySem.Expr}{pos:Pos}{ML:MdL}(h:SL c d f es ML) :
  SE c d f (.List es pos) (λen σ=>on2 (ML en σ) λl σ₁=>if l.length≤1000000 then some (.ref σ₁.length,σ₁++[.list l]) else none):=by
 intro A W s σ en a σ' m N E ok S q
 dsimp only at q
 refine om q λl σ₁ q1 q=>oi q λhl q=>oe2 q ?_
 exact List_ (post (h A W s σ en l _ m N E pos ok S q1) λvs s₁ WA m₁ NA w₁ S₁ rA=>Qz (S₁.list rA hl) (λZ Z x=>x.up w₁) λZ Z x=>x)
def O2 (c:Cx)(d:Nat)(op:Value->Value->Sem Value)(F:AV->AV->Store->Option (AV×Store)):Prop:=
 ∀ (f:Fm) (A:Around) (W:Wd) (s:Shared) (σ:Store) (en:En) (a b r:AV) (v w:Value) (σ' : Store) (m:Str->Option Value) (N:NwT) (E:Value->Shared->Prop),
  f.Ok c A d->St c f W σ en s m N->Rel c.lam W a v->Rel c.lam W b w->F a b σ=some (r,σ')->wpAny (model c.prog c.w) A (op v w) (PostE c f W en r σ') E s
def O1 (c:Cx)(d:Nat)(op:Value->Sem Value)(F:AV->Store->Option (AV×Store)):Prop:=
 ∀ (f:Fm) (A:Around) (W:Wd) (s:Shared) (σ:Store) (en:En) (a r:AV) (v:Value) (σ' : Store) (m:Str->Option Value) (N:NwT) (E:Value->Shared->Prop),
  f.Ok c A d->St c f W σ en s m N->Rel c.lam W a v->F a σ=some (r,σ')->wpAny (model c.prog c.w) A (op v) (PostE c f W en r σ') E s
def OT (c:Cx)(d:Nat)(F:AV->Store->Option Bool):Prop:=
 ∀ (f:Fm) (A:Around) (W:Wd) (s:Shared) (σ:Store) (en:En) (a:AV) (b:Bool) (v:Value) (m:Str->Option Value) (N:NwT) (E:Value->Shared->Prop),
  f.Ok c A d->St c f W σ en s m N->Rel c.lam W a v->F a σ=some b->wpAny (model c.prog c.w) A (truthy v) (PostB c f W en b σ) E s
def two (M M' : Md)(F:AV->AV->Store->Option (AV×Store)):Md:=λen σ=>on2 (M en σ) λa σ₁=>on2 (M' en σ₁) λb σ₂=>F a b σ₂
theorem two_wp {op:Value->Value->Sem Value}{F:AV->AV->Store->Option (AV×Store)}{l r:PySem.Expr}{M M' : Md}(hl:SE c d f l M)(hr:SE c d f r M')(ho:O2 c d op F)
  {A:Around} {W:Wd} {s:Shared} {σ:Store} {en:En} {a:AV} {σ' : Store} {m:Str->Option Value} {N:NwT} {E:Value->Shared->Prop}
  (ok:f.Ok c A d) (S:St c f W σ en s m N) (q:two M M' F en σ=some (a,σ')) :
  wpAny (model c.prog c.w) A (eval l f.env) (λv s₁=>wpAny (model c.prog c.w) A (eval r f.env) (λw sB=>wpAny (model c.prog c.w) A (op v w) (PostE c f W en a σ') E sB) E s₁) E s:=by
 refine om q λx σ₁ q1 q=>?_
 refine om q λy σ₂ q2 q=>?_
 refine post (hl A W s σ en x σ₁ m N E ok S q1) λv s₁ WA m₁ NA w₁ S₁ rA=>?_
 refine post (hr A WA s₁ σ₁ en y σ₂ m₁ NA E ok S₁ q2) λw sB WB mB NB wB S₂ rB=>?_
 exact Qz (ho f A WB sB σ₂ en x y a v w σ' mB NB E ok S₂ (rA.mono wB) rB q) (λZ Z x=>x.up (w₁.trans wB)) λZ Z x=>x
theorem se_bin {op:Operator}{F:AV->AV->Store->Option (AV×Store)}{l r:PySem.Expr}{pos:Pos}{M M' : Md}(hl:SE c d f l M)(hr:SE c d f r M')(ho:O2 c d (binaryOp op) F) :
  SE c d f (.BinOp l op r pos) (two M M' F):=λZ Z Z Z Z Z Z Z Z Z ok S q=>wpAny_BinOp (two_wp hl hr ho ok S q)
theorem se_cmp {op:CmpOp}{F:AV->AV->Store->Option (AV×Store)}{l r:PySem.Expr}{pos:Pos}{M M' : Md}(hl:SE c d f l M)(hr:SE c d f r M')(ho:O2 c d (compareOp op) F)(hm:behindInMarks op r=false) :
  SE c d f (.Compare l [op] [r] pos) (two M M' F):=λZ Z Z Z Z Z Z Z Z Z ok S q=>wpAny_Compare1 (two_wp hl hr ho ok S q) hm
def tested (M:Md)(T:AV->Store->Option Bool):MdB:=λen σ=>on2 (M en σ) λa σ₁=>on1 (T a σ₁) λb=>some (b,σ₁)
theorem tested_wp {t:Sem Value}{T:AV->Store->Option Bool}{M:Md}(ht:OT c d T){A:Around}{W:Wd}{s:Shared}{σ:Store}{en:En}{b:Bool}{σ' : Store}{E:Value->Shared->Prop}
  (ok:f.Ok c A d) (q:tested M T en σ=some (b,σ')) (h:∀ (a:AV) (σ₁:Store),M en σ=some (a,σ₁)->wpAny (model c.prog c.w) A t (PostE c f W en a σ₁) E s) :
  wpAny (model c.prog c.w) A t (λv s₁=>wpAny (model c.prog c.w) A (truthy v) (PostB c f W en b σ') E s₁) E s:=by
 refine om q λa σ₁ q1 q=>?_
 refine om1 q λb' q2 q=>?_
 cases q
 exact post (h a _ q1) λv s₁ WA m₁ NA w₁ S₁ rA=>Qz (ht f A WA s₁ _ en a _ v m₁ NA E ok S₁ rA q2) (λZ Z x=>x.up w₁) λZ Z x=>x
theorem st_cmp {op:CmpOp}{F:AV->AV->Store->Option (AV×Store)}{T:AV->Store->Option Bool}{l r:PySem.Expr}{pos:Pos}{M M' : Md}(hl:SE c d f l M)(hr:SE c d f r M')(ho:O2 c d (compareOp op) F)(ht:OT c d T)(hm:behindInMarks op r=false) :
  ST c d f (.Compare l [op] [r] pos) (tested (two M M' F) T):=by
 intro A W s σ en b σ' m N E ok S q
 refine wpAny_isTrue_Compare1 ?_ hm
 refine om q λa σ₁ q1 q=>?_
 refine om1 q λb' q2 q=>?_
 cases q
 refine Qz (two_wp hl hr ho ok S q1) (λv s₁ h₁=>?_) λZ Z x=>x
 refine Qz h₁ (λw sB h₂=>?_) λZ Z x=>x
 exact Qz h₂ (λv s₁ ⟨WA,m₁,NA,w₁,S₁,rA⟩=>Qz (ht f A WA s₁ _ en a _ v m₁ NA E ok S₁ rA q2) (λZ Z x=>x.up w₁) λZ Z x=>x) λZ Z x=>x
noncomputable def plainTest:PySem.Expr->Bool
 | .UnaryOp .Not _ _|.BoolOp .. | .IfExp .. | .Compare .. => false
 |_=>true
theorem plain_is {e:PySem.Expr}{env:Env}{whole:Sem Value}(h:plainTest e=true):isTrue e env whole=(do let v ← whole;standAt e.pos;holding [v] (truthy v)):=by
 cases e with
 |UnaryOp op x p=>cases op<;>first|rfl|exact nos h|exact nof h|cases h
 |BoolOp=>exact nof h
 |IfExp=>exact nof h
 |Compare=>exact nof h
 |_=>rfl
theorem st_plain {e:PySem.Expr}{M:Md}{T:AV->Store->Option Bool}(h:SE c d f e M)(ht:OT c d T)(hp:plainTest e=true):ST c d f e (tested M T):=by
 intro A W s σ en b σ' m N E ok S q
 exact isTrue_plain (tested_wp ht ok q λa σ₁ q1=>h A W s σ en a σ₁ m N E ok S q1) (plain_is hp)
theorem st_not {x:PySem.Expr}{pos:Pos}{M:MdB}(h:ST c d f x M):ST c d f (.UnaryOp .Not x pos) (λen σ=>on2 (M en σ) λb σ₁=>some (!b,σ₁)):=by
 intro A W s σ en b σ' m N E ok S q
 dsimp only at q
 refine om q λb' σ₁ q1 q=>?_
 cases q
 exact isTrue_not (post (h A W s σ en b' _ m N E ok S q1) λZ Z WA m₁ NA w₁ S₁ rA=>⟨WA,m₁,NA,w₁,S₁,by rw[rA]⟩)
theorem st_and_nil {pos:Pos}:ST c d f (.BoolOp .And [] pos) (λZ σ=>some (true,σ)):=by
 intro A W s σ en b σ' m N E ok S q
 cases q
 exact isTrue_and_nil ⟨W,m,N,.refl W,S,rfl⟩
theorem st_or_nil {pos:Pos}:ST c d f (.BoolOp .Or [] pos) (λZ σ=>some (false,σ)):=by
 intro A W s σ en b σ' m N E ok S q
 cases q
 exact isTrue_or_nil ⟨W,m,N,.refl W,S,rfl⟩
def andB (M M' : MdB):MdB:=λen σ=>on2 (M en σ) λb σ₁=>if b then M' en σ₁ else some (false,σ₁)
def orB (M M' : MdB):MdB:=λen σ=>on2 (M en σ) λb σ₁=>if b then some (true,σ₁) else M' en σ₁
theorem MU {op:BoolOp}{l:List PySem.Expr}{pos:Pos}{env:Env}{w w' : Sem Value}:isTrue (.BoolOp op l pos) env w=isTrue (.BoolOp op l pos) env w' := rfl
theorem st_and {x:PySem.Expr}{rest:List PySem.Expr}{pos:Pos}{M M' : MdB}(h:ST c d f x M)(hr:ST c d f (.BoolOp .And rest pos) M'):ST c d f (.BoolOp .And (x::rest) pos) (andB M M'):=by
 intro A W s σ en b σ' m N E ok S q
 refine om q λb' σ₁ q1 q=>?_
 refine isTrue_and (post (h A W s σ en b' σ₁ m N E ok S q1) λbA s₁ WA m₁ NA w₁ S₁ rA=>?_)
 subst rA
 cases bA with
 |false=>
  cases q
  exact⟨WA,m₁,NA,w₁,S₁,rfl⟩
 |true=>
  rw[MU];exact Qz (hr A WA s₁ σ₁ en b σ' m₁ NA E ok S₁ q) (λZ Z x=>x.up w₁) λZ Z x=>x
theorem st_or {x:PySem.Expr}{rest:List PySem.Expr}{pos:Pos}{M M' : MdB}(h:ST c d f x M)(hr:ST c d f (.BoolOp .Or rest pos) M'):ST c d f (.BoolOp .Or (x::rest) pos) (orB M M'):=by
 intro A W s σ en b σ' m N E ok S q
 refine om q λb' σ₁ q1 q=>?_
 refine isTrue_or (post (h A W s σ en b' σ₁ m N E ok S q1) λbA s₁ WA m₁ NA w₁ S₁ rA=>?_)
 subst rA
 cases bA with
 |true=>
  cases q
  exact⟨WA,m₁,NA,w₁,S₁,rfl⟩
 |false=>
  rw[MU];exact Qz (hr A WA s₁ σ₁ en b σ' m₁ NA E ok S₁ q) (λZ Z x=>x.up w₁) λZ Z x=>x
def iteM {α:Type}(T:MdB)(M M' : En->Store->Option α):En->Store->Option α:=λen σ=>on2 (T en σ) λb σ₁=>if b then M en σ₁ else M' en σ₁
theorem se_ite {t x y:PySem.Expr}{pos:Pos}{T:MdB}{M M' : Md}(ht:ST c d f t T)(hx:SE c d f x M)(hy:SE c d f y M'):SE c d f (.IfExp t x y pos) (iteM T M M'):=by
 intro A W s σ en a σ' m N E ok S q
 refine om q λb σ₁ q1 q=>?_
 refine wpAny_IfExp (post (ht A W s σ en b σ₁ m N E ok S q1) λbA s₁ WA m₁ NA w₁ S₁ rA=>?_)
 subst rA
 cases bA with
 |true=>exact Qz (hx A WA s₁ σ₁ en a σ' m₁ NA E ok S₁ q) (λZ Z x=>x.up w₁) λZ Z x=>x
 |false=>exact Qz (hy A WA s₁ σ₁ en a σ' m₁ NA E ok S₁ q) (λZ Z x=>x.up w₁) λZ Z x=>x
end
end
section
inductive Fl where
 |next|brk
 |ret (a:AV)
 deriving Inhabited
inductive RelF (lam:Nat->Option LamRec)(W:Wd):Fl->Flow->Prop
 |next:RelF lam W .next .next
 |brk:RelF lam W .brk .brk
 |ret {a:AV} {v:Value}:Rel lam W a v->RelF lam W (.ret a) (.ret v)
abbrev MdS:=En->Store->Option (Fl×En×Store)
abbrev MdA:=AV->En->Store->Option (En×Store)
abbrev PostS (c:Cx)(f:Fm)(W:Wd)(x:Fl)(en:En)(σ' : Store):Flow->Shared->Prop:=Pst c f W en σ' λW' v=>RelF c.lam W' x v
inductive PstU (c:Cx)(f:Fm)(W:Wd)(en:En)(σ:Store)(v:Unit)(s' : Shared):Prop
 |mk (W' : Wd) (m' : Str->Option Value) (N' : NwT) (w:W.le W') (S:St c f W' σ en s' m' N')
abbrev PostU (c:Cx)(f:Fm)(W:Wd)(en:En)(σ' : Store):Unit->Shared->Prop:=PstU c f W en σ'
def SS (c:Cx)(d:Nat)(f:Fm)(st:Stmt)(M:MdS):Prop:=
 ∀ (A:Around) (W:Wd) (s:Shared) (σ:Store) (en:En) (x:Fl) (en' : En) (σ' : Store) (m:Str->Option Value) (N:NwT) (E:Value->Shared->Prop),
  f.Ok c A d->St c f W σ en s m N->M en σ=some (x,en',σ')->wpAny (model c.prog c.w) A (exec st f.env) (PostS c f W x en' σ') E s
def SB (c:Cx)(d:Nat)(f:Fm)(st:List Stmt)(M:MdS):Prop:=
 ∀ (A:Around) (W:Wd) (s:Shared) (σ:Store) (en:En) (x:Fl) (en' : En) (σ' : Store) (m:Str->Option Value) (N:NwT) (E:Value->Shared->Prop),
  f.Ok c A d->St c f W σ en s m N->M en σ=some (x,en',σ')->wpAny (model c.prog c.w) A (execs st f.env) (PostS c f W x en' σ') E s
def SA (c:Cx)(d:Nat)(f:Fm)(t:PySem.Expr)(M:MdA):Prop:=
 ∀ (A:Around) (W:Wd) (s:Shared) (σ:Store) (en:En) (a:AV) (v:Value) (en' : En) (σ' : Store) (m:Str->Option Value) (N:NwT) (E:Value->Shared->Prop),
  f.Ok c A d->St c f W σ en s m N->Rel c.lam W a v->M a en σ=some (en',σ')->wpAny (model c.prog c.w) A (assign t f.env v) (PostU c f W en' σ') E s
noncomputable def En.put (en:En) (i:Nat) (a:AV):En:={ en with loc:=en.loc.set i (some a) }
section
variable {c:Cx}{d:Nat}{f:Fm}
theorem PstU.up {W WA:Wd}{en:En}{σ' : Store}(h:W.le WA){v:Unit}{s' : Shared}:PostU c f WA en σ' v s'->PostU c f W en σ' v s' :=
 λ⟨W',m',N',w,r⟩=>⟨W',m',N',h.trans w,r⟩
theorem EnvR.put {W:Wd}{xs:List Str}{loc:List (Option AV)}{m:Str->Option Value}{i:Nat}{x:Str}{a:AV}{v:Value}
  (R:EnvR c.lam W xs loc m) (nd:xs.Nodup) (hx:xs[i]? = some x) (r:Rel c.lam W a v):EnvR c.lam W xs (loc.set i (some a)) (λy=>if y=x then some v else m y):=by
 refine⟨by rw[J2];exact R.1,λj y b e1 e2=>?_⟩
 by_cases h:i=j
 · subst h
   rw[hx] at e1;cases e1
   have hl:i<loc.length:=by rw[R.1];exact(QQ.mp hx).1
   rw[J1 hl] at e2;cases e2
   exact⟨v,if_pos rfl,r⟩
 · rw[JW h] at e2
   refine xe12 (R.2 j y b e1 e2) λw h1 h2=>?_
   refine⟨w,(if_neg ?_).trans h1,h2⟩
   · rintro rfl
     have hi:=(QQ.mp hx);have hj:=(QQ.mp e1)
     obtain⟨hi1,hi2⟩:=hi;obtain⟨hj1,hj2⟩:=hj
     have np:=List.pairwise_iff_getElem.mp nd;rcases Nat.lt_trichotomy i j with l|l|l
     · exact np i j hi1 hj1 l (hi2.trans hj2.symm)
     · exact h l
     · exact np j i hj1 hi1 l (hj2.trans hi2.symm)
theorem EnvR.empty {W:Wd}{m:Str->Option Value}:EnvR c.lam W [] [] m:=⟨rfl,λi x a e=>by simp at e⟩
theorem Gq (h:f.comp=none)(m:Str->Option Value):f.sel m=m:=by unfold Fm.sel;rw[h]
theorem St.put (onil:f.comp=none->f.oxs=[]∧f.oloc=[]){W:Wd}{σ:Store}{en:En}{s:Shared}{m:Str->Option Value}{N:NwT}(S:St c f W σ en s m N)(hn:f.comp=none)(nd:f.xs.Nodup){i:Nat}{x:Str}{a:AV}{v:Value}(hx:f.xs[i]? = some x)(r:Rel c.lam W a v)
  {h' : Heap} {t:Nat} (F:Fr f.h₀ f.L h' (λy=>if y=x then some v else m y)) (X:News f.h₀ f.L h' N) (ht:0<t) :
  St c f W σ (en.put i a) { s with heap:=h',toks:=t } (λy=>if y=x then some v else m y) N:=
 ⟨F,X,S.fa,by rw[Gq hn];have z:=S.env;rw[Gq hn] at z;exact z.put nd hx r,S.cel,S.gens,S.drawn,S.os,ht,by rw[(onil hn).1,(onil hn).2];exact .empty⟩
theorem Mq {A:Around}{W:Wd}{σ:Store}{en:En}{s:Shared}{m:Str->Option Value}{N:NwT}{E:Value->Shared->Prop}(ok:f.Ok c A d)(hn:f.comp=none)(S:St c f W σ en s m N){i:Nat}{x:Str}{a:AV}{v:Value}
  (hx:f.xs[i]? = some x) (hk:f.cs.names.lookup x=some .local) (r:Rel c.lam W a v):wpAny (model c.prog c.w) A (storeName f.env x v) (PostU c f W (en.put i a) σ) E s:=by
 have e:f.env.locals=f.L:=by rw[ok.loc];unfold Fm.locs;rw[hn]
 refine Gz ((ok.kindOf x).trans hk) (S.ns ok) (λh' hns hs=>?_) (by rw[ok.skind];rfl)
 rw[e] at hns hs
 rw[Gq hn] at hns
 exact⟨W,_,N,.refl W,S.put ok.onil hn ok.nodup hx r (S.F.set hns hs) (S.nw.set hs) (Qq _)⟩
theorem sa_name {x:Str}{pos:Pos}{i:Nat}(hn:f.comp=none)(hx:f.xs[i]? = some x)(hk:f.cs.names.lookup x=some .local):SA c d f (.Name x pos) (λa en σ=>some (en.put i a,σ)):=by
 intro A W s σ en a v en' σ' m N E ok S r e
 cases e
 exact assign_Name (Mq ok hn S hx hk r)
abbrev MdAL:=List AV->En->Store->Option (En×Store)
def SAL (c:Cx)(d:Nat)(f:Fm)(ts:List PySem.Expr)(M:MdAL):Prop:=
 ((assignEach ts f.env).findIdx? (·.1)=none∧(assignEach ts f.env).length=ts.length) ∧
 ∀ (A:Around) (W:Wd) (s:Shared) (σ:Store) (en:En) (l:List AV) (vs:List Value) (en' : En) (σ' : Store) (m:Str->Option Value) (N:NwT) (E:Value->Shared->Prop),
  f.Ok c A d->St c f W σ en s m N->RelL c.lam W l vs->M l en σ=some (en',σ')->wpAny (model c.prog c.w) A (assignInOrder ((assignEach ts f.env).map (·.2)) vs) (PostU c f W en' σ') E s
theorem Wz {t:PySem.Expr}{rest:List PySem.Expr}{env:Env}(h:notStar t=true):assignEach (t::rest) env=(false,assign t env)::assignEach rest env:=by
 cases t<;>first|rfl|exact nos h|exact nof h|cases h
theorem sal_nil:SAL c d f [] (λl en σ=>match l with | []=>some (en,σ)|_=>none):=by
 refine⟨⟨rfl,rfl⟩,λA W s σ en l vs en' σ' m N E ok S r q=>?_⟩
 cases l with
 |nil=>exact rNil r (oe2 q (Qk ⟨W,m,N,.refl W,S⟩))
 |cons=>exact nos q
theorem sal_cons {t:PySem.Expr}{rest:List PySem.Expr}{M:MdA}{ML:MdAL}(h:SA c d f t M)(hr:SAL c d f rest ML)(hs:notStar t=true) :
  SAL c d f (t::rest) (λl en σ=>match l with | []=>none|a::l=>on2 (M a en σ) λen₁ σ₁=>ML l en₁ σ₁):=by
 refine⟨⟨?_,?_⟩,λA W s σ en l vs en' σ' m N E ok S r q=>?_⟩
 · rw[Wz hs,List.findIdx?_cons]
   simp[hr.1.1]
 · rw[Wz hs,Qw,Qw,hr.1.2]
 · cases l with
   |nil=>exact nos q
   |cons a l=>
    refine NK r λv vs r rs=>om q λen₁ σ₁ q1 q=>?_
    rw[Wz hs,QM];show wpAny _ A (do holding vs (assign t f.env v);assignInOrder ((assignEach rest f.env).map (·.2)) vs) _ _ _
    refine QZ (J8 (Qz (h A W s σ en a v en₁ σ₁ m N E ok S r q1) (λ_ s₁ ⟨WA,m₁,NA,w₁,S₁⟩=>?_) λZ Z x=>x));exact Qz (hr.2 A WA s₁ σ₁ en₁ l vs en' σ' m₁ NA E ok S₁ (rs.mono w₁) q) (λZ Z x=>x.up w₁) λZ Z x=>x
theorem Vq {h₀ h:Heap}{L a:Addr}{N:NwT}{vs:List Value}{n:Nat}(X:News h₀ L h N)(m:(a,tupObj vs n)∈N):IsTup h a vs.toArray:=⟨_,(X _ m).1,rfl,n,rfl⟩
def tupA (n:Nat)(ML:MdAL):MdA:=λa en σ=>onTup a λl=>if l.length=n then ML l en σ else none
theorem sa_tuple {ts:List PySem.Expr}{k:Nat}{pos:Pos}{ML:MdAL}(h:SAL c d f ts ML):SA c d f (.Tuple ts k pos) (tupA ts.length ML):=by
 intro A W s σ en a v en' σ' m N E ok S r q
 refine onTupR q r λl vs a n Z hm rl q=>oi q λhl q=>unpackN_ S.F S.nw (Vq S.nw (S.fa.tl _ hm)) ok.handled (by rw[h.1.2,← hl,rl.length,Q0]) h.1.1 λh' F' X'=>?_
 exact h.2 A W _ σ en l vs en' σ' m N E ok (S.same (t:=s.toks) F' X' S.pos) rl q
theorem sb_nil:SB c d f [] (λen σ=>some (.next,en,σ)):=by
 intro A W s σ en x en' σ' m N E ok S q
 cases q
 exact NV ⟨W,m,N,.refl W,S,.next⟩
def seqM (M M' : MdS):MdS:=λen σ=>on3 (M en σ) λx en₁ σ₁=>match x with
 | .next=>M' en₁ σ₁
 |x=>some (x,en₁,σ₁)
theorem M2 {st:Stmt}{rest:List Stmt}{M M' : MdS}(h:SS c d f st M)(hr:SB c d f rest M'):SB c d f (st::rest) (seqM M M'):=by
 intro A W s σ en x en' σ' m N E ok S q
 refine om3 q λy en₁ σ₁ q1 q=>JV (post (h A W s σ en _ en₁ σ₁ m N E ok S q1) λv s₁ WA m₁ NA w₁ S₁ rA=>?_)
 cases rA with
 |next=>exact Qz (hr A WA s₁ σ₁ en₁ x en' σ' m₁ NA E ok S₁ q) (λZ Z x=>x.up w₁) λZ Z x=>x
 |brk=>exact oe3 q ⟨WA,m₁,NA,w₁,S₁,.brk⟩
 |ret r=>exact oe3 q ⟨WA,m₁,NA,w₁,S₁,.ret r⟩
theorem ss_return {e:PySem.Expr}{pos:Pos}{M:Md}(h:SE c d f e M):SS c d f (.Return (some e) pos) (λen σ=>on2 (M en σ) λa σ₁=>some (.ret a,en,σ₁)):=by
 intro A W s σ en x en' σ' m N E ok S q
 refine om q λa σ₁ q1 q=>oe3 q ?_
 exact Mw (post (h A W s σ en a _ m N E ok S q1) λv s₁ WA m₁ NA w₁ S₁ rA=>⟨WA,m₁,NA,w₁,S₁,.ret rA⟩)
theorem ss_break {pos:Pos}:SS c d f (.Break pos) (λen σ=>some (.brk,en,σ)):=by
 intro A W s σ en x en' σ' m N E ok S q
 cases q
 exact wpAny_Break ⟨W,m,N,.refl W,S,.brk⟩
theorem ss_pass {pos:Pos}:SS c d f (.Pass pos) (λen σ=>some (.next,en,σ)):=by
 intro A W s σ en x en' σ' m N E ok S q
 cases q
 exact wpAny_Pass ⟨W,m,N,.refl W,S,.next⟩
theorem ss_if {t:PySem.Expr}{b o:List Stmt}{pos:Pos}{T:MdB}{M M' : MdS}(ht:ST c d f t T)(hb:SB c d f b M)(ho:SB c d f o M'):SS c d f (.If t b o pos) (iteM T M M'):=by
 intro A W s σ en x en' σ' m N E ok S q
 refine om q λb σ₁ q1 q=>?_
 refine wpAny_If (post (ht A W s σ en b σ₁ m N E ok S q1) λbA s₁ WA m₁ NA w₁ S₁ rA=>?_)
 subst rA
 cases bA with
 |true=>exact Qz (hb A WA s₁ σ₁ en x en' σ' m₁ NA E ok S₁ q) (λZ Z x=>x.up w₁) λZ Z x=>x
 |false=>exact Qz (ho A WA s₁ σ₁ en x en' σ' m₁ NA E ok S₁ q) (λZ Z x=>x.up w₁) λZ Z x=>x
noncomputable def notComp:PySem.Expr->Bool
 | .ListComp .. | .SetComp .. | .DictComp .. => false
 |_=>true
theorem HU {e:PySem.Expr}{t:Option PySem.Expr}{n:Nat}{env:Env}(h:notComp e=true):swapsWith e t n env=pure false:=by
 cases e<;>first|rfl|exact nos h|exact nof h|cases h
def dropM (M:Md):MdS:=λen σ=>on2 (M en σ) λZ σ₁=>some (.next,en,σ₁)
theorem G6 (h:f.env.scope.kind = .function):interactive f.env=false:=by
 show (f.env.scope.kind==.module&&_)=false
 rw[h];rfl
theorem ss_expr {e:PySem.Expr}{pos:Pos}{M:Md}(h:SE c d f e M)(hc:notComp e=true):SS c d f (.Expr e pos) (dropM M):=by
 intro A W s σ en x en' σ' m N E ok S q
 refine om q λa σ₁ q1 q=>oe3 q ?_
 exact wpAny_Expr_any (post (h A W s σ en a _ m N E ok S q1) λv s₁ WA m₁ NA w₁ S₁ Z=>⟨WA,m₁,NA,w₁,S₁,.next⟩) (G6 ok.skind) (HU hc)
def bindM (M:Md)(MA:MdA):MdS:=λen σ=>on2 (M en σ) λa σ₁=>on2 (MA a en σ₁) λenB σ₂=>some (.next,enB,σ₂)
theorem Mj (hcn:f.comp=none){x:Str}{pos' pos:Pos}{e:PySem.Expr}{M:Md}{i:Nat}(h:SE c d f e M)(hx:f.xs[i]? = some x)(hk:f.cs.names.lookup x=some .local)(hc:notComp e=true) :
  SS c d f (.Assign [.Name x pos'] e pos) (bindM M λa en σ=>some (en.put i a,σ)):=by
 intro A W s σ en x en' σ' m N E ok S q
 refine om q λa σ₁ q1 q=>oe3 q ?_
 refine wpAny_Assign_Name (post (h A W s σ en a _ m N E ok S q1) λv s₁ WA m₁ NA w₁ S₁ rA=>?_) (HU hc)
 exact Qz (Mq ok hcn S₁ hx hk rA) (λ_ sB ⟨WB,mB,NB,wB,S₂⟩=>⟨WB,mB,NB,w₁.trans wB,S₂,.next⟩) λZ Z x=>x
theorem sole_no {t e:PySem.Expr}{n:Nat}{env:Env}(h:notComp e=true):swapsWithSole [t] e n env=pure false:=HU h
theorem K5 {ts:List PySem.Expr}{k:Nat}{tpos pos:Pos}{e:PySem.Expr}{M:Md}{MA:MdA}(h:SE c d f e M)(ha:SA c d f (.Tuple ts k tpos) MA)(hc:notComp e=true)(hw:swappedStores [.Tuple ts k tpos] e f.env=pure none) :
  SS c d f (.Assign [.Tuple ts k tpos] e pos) (bindM M MA):=by
 intro A W s σ en x en' σ' m N E ok S q
 refine om q λa σ₁ q1 q=>om q λenB σ₂ q2 q=>oe3 q ?_
 refine Assign_Tuple (post (h A W s σ en a _ m N E ok S q1) λv s₁ WA m₁ NA w₁ S₁ rA=>?_) (sole_no hc) hw
 exact Qz (ha A WA s₁ σ₁ en a v enB σ₂ m₁ NA E ok S₁ rA q2) (λ_ sB ⟨WB,mB,NB,wB,S₂⟩=>⟨WB,mB,NB,w₁.trans wB,S₂,.next⟩) λZ Z x=>x
theorem two_swapped (hcn:f.comp=none){A:Around}{W:Wd}{σ:Store}{en:En}{s:Shared}{m:Str->Option Value}{N:NwT}{E:Value->Shared->Prop}(ok:f.Ok c A d)(S:St c f W σ en s m N){i j:Nat}{x y:Str}{a b:AV}{v w:Value}
  (hx:f.xs[i]? = some x) (hkx:f.cs.names.lookup x=some .local) (hy:f.xs[j]? = some y) (hky:f.cs.names.lookup y=some .local) (r:Rel c.lam W a v) (r' : Rel c.lam W b w) :
  wpAny (model c.prog c.w) A (assignInOrder [λz=>bindName f.env y z,λz=>bindName f.env x z] [w,v]) (PostU c f W ((en.put j b).put i a) σ) E s:=by
 show wpAny _ A (do holding [v] (bindName f.env y w);assignInOrder [λz=>bindName f.env x z] [v]) _ _ _
 refine QZ (J8 (bindName_ (Qz (Mq ok hcn S hy hky r') (λ_ s₁ ⟨WA,m₁,NA,w₁,S₁⟩=>?_) λZ Z x=>x)))
 show wpAny _ A (do holding [] (bindName f.env x v);assignInOrder [] []) _ _ _
 refine QZ (J8 (bindName_ (Qz (Mq ok hcn S₁ hx hkx (r.mono w₁)) (λ_ sB ⟨WB,mB,NB,wB,S₂⟩=>?_) λZ Z x=>x)))
 exact Qk ⟨WB,mB,NB,w₁.trans wB,S₂⟩
def pairM (M:Md)(i j:Nat):MdS:=λen σ=>on2 (M en σ) λp σ₁=>onPairF p λa b=>some (.next,(en.put j b).put i a,σ₁)
theorem PX (hcn:f.comp=none){ts:List PySem.Expr}{x y:Str}{k:Nat}{tpos pos:Pos}{e:PySem.Expr}{M:Md}{i j:Nat}(h:SE c d f e M)
  (hx:f.xs[i]? = some x) (hkx:f.cs.names.lookup x=some .local) (hy:f.xs[j]? = some y) (hky:f.cs.names.lookup y=some .local)
  (hc:notComp e=true) (hw:swappedStores [.Tuple ts k tpos] e f.env=pure (some [x,y])):SS c d f (.Assign [.Tuple ts k tpos] e pos) (pairM M i j):=by
 intro A W s σ en z en' σ' m N E ok S q
 refine om q λp σ₁ q1 q=>onPair q λa b ep q=>oe3 q (Assign_Tuple_swapped (post (h A W s σ en _ _ m N E ok S q1) λv s₁ WA m₁ NA w₁ S₁ rA=>?_) (sole_no hc) hw)
 subst ep
 refine rTup rA λvs x n hm rl=>rTwo (K:=λvs=>(x,tupObj vs n)∈WA.tl->_) rl (λu w ra rb hm=>?_) hm
 refine unpackItemsN_ S₁.F S₁.nw (Vq S₁.nw (S₁.fa.tl _ hm)) ok.handled rfl λh' F' X'=>?_
 exact Qz (two_swapped hcn ok (S₁.same (t:=s₁.toks) F' X' S₁.pos) hx hkx hy hky ra rb) (λ_ sB ⟨WB,mB,NB,wB,S₂⟩=>⟨WB,mB,NB,w₁.trans wB,S₂,.next⟩) λZ Z x=>x
noncomputable def whileM (T:MdB) (M:MdS):Nat->MdS
 |0=>λZ Z=>none
 |n+1=>λen σ=>on2 (T en σ) λb σ₁=>if b then on3 (M en σ₁) λx enB σ₂=>match x with
   | .next=>whileM T M n enB σ₂
   | .brk=>some (.next,enB,σ₂)
   | .ret a=>some (.ret a,enB,σ₂)
  else some (.next,en,σ₁)
inductive WhI (c:Cx)(f:Fm)(T:MdB)(M:MdS)(x:Fl)(en' : En)(σ' : Store)(W:Wd)(n:Nat)(s:Shared):Prop
 |mk (W' : Wd) (m:Str->Option Value) (N:NwT) (en:En) (σ:Store) (w:W.le W') (S:St c f W' σ en s m N) (q:whileM T M n en σ=some (x,en',σ'))
theorem ss_while {t:PySem.Expr}{b:List Stmt}{pos:Pos}{T:MdB}{M:MdS}(n:Nat)(ht:ST c d f t T)(hb:SB c d f b M):SS c d f (.While t b [] pos) (whileM T M n):=by
 intro A W s σ en x en' σ' m N E ok S q
 refine wpAny_While ?_
 refine codeAny_whileLoop (WhI c f T M x en' σ' W) (λk s₁ h=>?_) n ⟨W,m,N,en,σ,.refl W,S,q⟩
 obtain⟨WA,m₁,NA,en₁,σ₁,w₁,S₁,qA⟩:=h
 cases k with
 |zero=>exact nos qA
 |succ k=>
  refine om qA λb σ₂ qt q=>post (ht A WA s₁ σ₁ _ _ _ m₁ NA _ ok S₁ qt) λbB sB WB mB NB wB S₂ rB=>?_
  subst rB
  cases bB with
  |false=>exact oe3 q (NV ⟨WB,mB,NB,w₁.trans wB,S₂,.next⟩)
  |true=>
   refine om3 q λy enC σC qb q=>post (hb A WB sB σ₂ en₁ y enC σC mB NB _ ok S₂ qb) λfl sC WC m₃ N₃ wC S₃ rC=>?_
   have w:=(w₁.trans wB).trans wC
   cases rC with
   |next=>exact⟨k,J3 k,WC,m₃,N₃,enC,σC,w,S₃,q⟩
   |brk=>exact oe3 q ⟨WC,m₃,N₃,w,S₃,.next⟩
   |ret r=>exact oe3 q ⟨WC,m₃,N₃,w,S₃,.ret r⟩
end
end
section
abbrev CallF:=AV->List AV->Store->Option (AV×Store)
abbrev KeepOk (M:Model)(h:Heap)(v:Value):Prop := ∃ k,(k=Keeper.frame∨k=Keeper.machine∨k=Keeper.boundFrame)∧Looks M h (keeperOf v) k
def CallOK (c:Cx)(d:Nat)(C:CallF):Prop:=
 ∀ (f:Fm) (A:Around) (W:Wd) (s:Shared) (σ:Store) (en:En) (g:AV) (l:List AV) (a:AV) (σ' : Store) (gv:Value) (vs:List Value) (m:Str->Option Value) (N:NwT) (E:Value->Shared->Prop),
  f.Ok c A d->St c f W σ en s m N->Rel c.lam W g gv->RelL c.lam W l vs->C g l σ=some (a,σ') ->
  KeepOk (model c.prog c.w) s.heap gv∧wpAny (model c.prog c.w) A (call gv vs) (PostE c f W en a σ') E s
abbrev GetF:=AV->Str->Store->Option (AV×List AV)
def GetOK (c:Cx)(d:Nat)(G:GetF):Prop:=
 ∀ (f:Fm) (A:Around) (W:Wd) (s:Shared) (σ:Store) (en:En) (a:AV) (name:Str) (g:AV) (l:List AV) (v:Value) (pl:Sem Bool) (m:Str->Option Value) (N:NwT) (E:Value->Shared->Prop),
  f.Ok c A d->St c f W σ en s m N->Rel c.lam W a v->G a name σ=some (g,l) ->
  wpAny (model c.prog c.w) A (getMethod v name pl) (Pst c f W en σ λW' fx=>Rel c.lam W' g fx.1∧RelL c.lam W' l fx.2) E s
section
variable {c:Cx}{d:Nat}{f:Fm}
theorem UW (pos:Pos)(es:List PySem.Expr)(env:Env)(h:es.all notStar=true):(backTo pos (starEach es env)).any (·.1)=false:=by
 induction es with
 |nil=>rfl
 |cons e r ih=>
  rw[JX,Jq] at h;rw[UV h.1]
  show (false||(backTo pos (starEach r env)).any (·.1))=false;rw[ih h.2];rfl
theorem VX {M:Model}{A:Around}{E:Value->Shared->Prop}{s:Shared}{fv:Value}{pos:Pos}{es:List PySem.Expr}{env:Env}{Q:Args->Shared->Prop}(hs:es.all notStar=true)
  (h:wpAny M A (spliced (backTo pos (starEach es env))) (λvs s'=>Q ⟨vs,[]⟩ s') E s):wpAny M A (evalArgs fv true (backTo pos (starEach es env)) []) Q E s:=by
 cases es with
 |nil=>
  have h' := (show wpAny M A (spliced []) (λvs s'=>Q ⟨vs,[]⟩ s') E s from h);show wpAny M A (spliced [] >>= _) Q E s
  refine QZ (Qz h' (λvs s' h'=>?_) λZ Z x=>x)
  first
   | (refine J8 ?_;exact QZ (Qk (QZ (Qk (Qk h')))))
   | (refine QZ (Qk ?_);refine J8 ?_;exact QZ (Qk (QZ (Qk (Qk h')))))
 |cons e r=>
  rw[JX,Jq] at hs;rw[UV hs.1] at h ⊢
  exact evalArgs_plain h
theorem K2 {C:CallF}(hC:CallOK c d C){ML:MdL}{es:List PySem.Expr}(hs:es.all notStar=true)(hl:SL c d f es ML)
  {A:Around} {W:Wd} {s:Shared} {σ:Store} {en:En} {g:AV} {fst:List AV} {gv:Value} {fv:List Value} {a:AV} {σ' : Store} {m:Str->Option Value} {N:NwT} {E:Value->Shared->Prop} {pos:Pos}
  (ok:f.Ok c A d) (S:St c f W σ en s m N) (rg:Rel c.lam W g gv) (rf:RelL c.lam W fst fv) (q:(on2 (ML en σ) λl σ₁=>C g (fst++l) σ₁)=some (a,σ')) :
  wpAny (model c.prog c.w) A (callWith pos gv fv (backTo pos (starEach es f.env)) []) (PostE c f W en a σ') E s:=by
 refine om q λl σ₁ q1 q=>?_
 refine callWith_of (P:=λh=>KeepOk (model c.prog c.w) h gv) (by rw[UW pos es f.env hs];rfl) (λh k=>k) (VX hs (post (hl A W s σ en l σ₁ m N E pos ok S q1) λvs s₁ WA m₁ NA w₁ S₁ rA=>?_))
 have z:=hC f A WA s₁ σ₁ en g (fst++l) a σ' gv (fv++vs) m₁ NA E ok S₁ (rg.mono w₁) ((rf.mono w₁).append rA) q
 exact⟨z.1,Qz z.2 (λZ Z x=>x.up w₁) λZ Z x=>x⟩
noncomputable def notAttr:PySem.Expr->Bool
 | .Attribute .. => false
 |_=>true
theorem N8 {func:PySem.Expr}{args:List PySem.Expr}{pos:Pos}{env:Env}(h:notAttr func=true):eval (.Call func args [] pos) env=(do callWith pos (← eval func env) [] (backTo pos (starEach args env)) (backToKw pos (keywordEach [] env))):=by
 cases func<;>first|rfl|exact nos h|exact nof h|cases h
def callM (M:Md)(ML:MdL)(C:CallF):Md:=λen σ=>on2 (M en σ) λg σ₁=>on2 (ML en σ₁) λl σ₂=>C g l σ₂
theorem se_call {C:CallF}(hC:CallOK c d C){M:Md}{ML:MdL}{func:PySem.Expr}{es:List PySem.Expr}{pos:Pos}(hf:SE c d f func M)(hl:SL c d f es ML)(hs:es.all notStar=true)(hn:notAttr func=true) :
  SE c d f (.Call func es [] pos) (callM M ML C):=by
 intro A W s σ en a σ' m N E ok S q
 refine om q λg σ₁ q1 q=>?_
 refine Call_ (post (hf A W s σ en g σ₁ m N E ok S q1) λgv s₁ WA m₁ NA w₁ S₁ rA=>?_) (N8 hn)
 exact Qz (K2 hC hs hl ok S₁ rA .nil q) (λZ Z x=>x.up w₁) λZ Z x=>x
noncomputable def notName:PySem.Expr->Bool
 | .Name .. => false
 |_=>true
noncomputable def notSup:PySem.Expr->Bool
 | .Call f _ _ _=>notName f
 |_=>true
theorem base_is {o:PySem.Expr}{name:Str}{env:Env}{t:Sem Value}(h:notSup o=true):attributeBase o name env t=t:=by
 cases o with
 |Call f a k p=>cases f<;>first|rfl|exact nof h
 |_=>rfl
noncomputable def methForm (o:PySem.Expr) (n:Nat) (apos pos:Pos):Bool:=(Nat.blt n 30&&apos.endLine==pos.line)&&notSup o
theorem form_is {es:List PySem.Expr}{env:Env}{pos:Pos}(hs:es.all notStar=true)(hn:es.length<30):methodCallForm (es.length+0) (backTo pos (starEach es env)) []=true:=by
 unfold methodCallForm
 have h1:(backTo pos (starEach es env)).all (!·.1)=true:=by
  have:=UW pos es env hs;rw[List.all_eq_not_any_not]
  simp only[Bool.not_not];rw[this];rfl
 rw[h1]
 simpa using hn
theorem M5 {o:PySem.Expr}{name:Str}{apos pos:Pos}{es:List PySem.Expr}{env:Env}(h:methForm o es.length apos pos=true)(hs:es.all notStar=true) :
  eval (.Call (.Attribute o name apos) es [] pos) env=(do
   let ov ← eval o env
   standAt apos.atName
   let (f,first) ← holding [ov] (getMethod ov name (do return (← importBound o env).getD true))
   callWith pos f first (backTo pos (starEach es env)) []):=by
 rw[arm_eval_Call,base_is (and2 h).2]
 have h' := and2 (and2 h).1
 refine congrArg _ (funext λov=>congrArg _ (funext λZ=>?_))
 unfold methodCall calleeOf methodCallPos
 have e:methodCallForm (es.length+([]:List Keyword).length) (backTo pos (starEach es env)) (backToKw pos (keywordEach [] env))=true:=form_is hs (leB h'.1)
 rw[e]
 simp only[if_true,Bool.not_true,Bool.false_or,h'.2]
 rfl
def methM (G:GetF)(C:CallF)(M:Md)(name:Str)(ML:MdL):Md:=λen σ=>on2 (M en σ) λo σ₁=>on2 (G o name σ₁) λg fst=>on2 (ML en σ₁) λl σ₂=>C g (fst++l) σ₂
theorem se_meth {G:GetF}{C:CallF}(hG:GetOK c d G)(hC:CallOK c d C){M:Md}{ML:MdL}{o:PySem.Expr}{name:Str}{apos pos:Pos}{es:List PySem.Expr}(ho:SE c d f o M)(hl:SL c d f es ML)
  (hs:es.all notStar=true) (hm:methForm o es.length apos pos=true):SE c d f (.Call (.Attribute o name apos) es [] pos) (methM G C M name ML):=by
 intro A W s σ en a σ' m N E ok S q
 refine om q λx σ₁ q1 q=>?_
 refine om q λg fst q2 q=>?_
 refine MethodCall_ (post (ho A W s σ en x σ₁ m N E ok S q1) λov s₁ WA m₁ NA w₁ S₁ rA=>?_) (M5 hm hs)
 refine Qz (hG f A WA s₁ σ₁ en x name g fst ov _ m₁ NA E ok S₁ rA q2) (λfx sB ⟨WB,mB,NB,wB,S₂,rB,rl⟩=>?_) λZ Z x=>x
 exact Qz (K2 hC hs hl ok S₂ rB rl q) (λZ Z x=>x.up (w₁.trans wB)) λZ Z x=>x
end
end
section
structure FnRec where
 name:Str
 qual:Str
 params:Arguments
 body:List Stmt
 scope:Scope
 dV:Value
 kV:Value
 doc:Value
 pm:Value
 an:Option Addr
 cdv:Value
 ct:Value
 oc:Value
 od:Option Addr
 osl:Array (Option Value)
 ps:List Str
 pk:List Bool
 zs:List Str
 dvs:List Value
 lo:Nat
noncomputable abbrev FnRec.data (r:FnRec):FuncData:=fnX r.name r.qual r.params r.body r.scope [] r.dV r.kV r.doc r.pm r.an r.cdv r.ct
noncomputable def pickB {α:Type} (b:Bool):List Bool->List α->List α
 |k::ks,a::l=>if k==b then a::pickB b ks l else pickB b ks l
 |_,_=>[]
abbrev FnRec.xs (r:FnRec):List Str:=pickB false r.pk r.ps++r.zs
abbrev FnRec.ys (r:FnRec):List Str:=pickB true r.pk r.ps
structure FnAt (c:Cx)(fa:Addr)(r:FnRec):Prop where
 look:c.K.lookup fa=some ⟨r.oc,r.od,.func r.data,r.osl⟩
 code:codeIn c.K r.cdv r.qual=true
 bind:∀ (s:Shared) (vs:List Value),c.K.In s.heap->r.lo≤vs.length->vs.length≤r.ps.length->BindsTo s r.data ⟨vs,[]⟩ (r.ps.zip (vs++r.dvs.drop (vs.length - r.lo)))
 dl:r.lo+r.dvs.length=r.ps.length
 pkl:r.pk.length=r.ps.length
 pnd:r.ps.Nodup
 nodup:r.xs.Nodup
 kinds:∀ (i:Nat) (x:Str) (b:Bool),r.ps[i]? = some x->r.pk[i]? = some b->r.scope.names.lookup x=some (if b then .cell else .local)
 cnd:((cellsFrom 0 r.scope.names []).map (·.1)).Nodup
 kind:r.scope.kind = .function
 gen:r.scope.isGenerator=false
 co:r.scope.isCoroutine=false
def runB (pk:List Bool)(nz lo np:Nat)(dvs:List AV)(M:MdS)(l:List AV)(σ:Store):Option (AV×Store):=
 if lo≤l.length∧l.length≤np then on3 (M ⟨(pickB false pk (l++dvs.drop (l.length - lo))).map some++QK nz none,pickB true pk (l++dvs.drop (l.length - lo))⟩ σ) λx Z σ'=>match x with
  | .ret a=>some (a,σ')
  | .next=>some (.none,σ')
  | .brk=>none
 else none
abbrev fnF (r:FnRec)(M:MdS)(l:List AV)(σ:Store):Option (AV×Store):=runB r.pk r.zs.length r.lo r.ps.length (r.dvs.map globAV) M l σ
theorem RelL.globs {lam:Nat->Option LamRec}{W:Wd}:∀ (vs:List Value),RelL lam W (vs.map globAV) vs
 | []=>.nil
 |v::r=>.cons (Wx v) (RelL.globs r)
theorem pick_zip {lam:Nat->Option LamRec}{W:Wd}{b:Bool}(pk:List Bool):∀ (ps:List Str) {l:List AV} {vs:List Value},RelL lam W l vs->∀ {i:Nat} {x:Str} {a:AV},(pickB b pk ps)[i]? = some x->(pickB b pk l)[i]? = some a ->
  ∃ v:Value,(x,v)∈ps.zip vs∧Rel lam W a v∧∃ j:Nat,ps[j]? = some x∧pk[j]? = some b:=by
 induction pk with
 |nil=>exact λZ Z Z Z Z Z Z h Z=>nos h
 |cons k ks ih=>
  intro ps l vs r i x a' h1 h2
  cases ps with
  |nil=>exact nos h1
  |cons p ps=>cases r with
   |nil=>exact nos h2
   | @cons a v l vs ra rl=>
    have h1:(if k==b then p::pickB b ks ps else pickB b ks ps)[i]? = some x:=h1;have h2:(if k==b then a::pickB b ks l else pickB b ks l)[i]? = some a' := h2
    by_cases hk:(k==b)=true
    · rw[if_pos hk] at h1 h2
      cases i with
      |zero=>exact⟨v,(soI h1:p=x)▸.head _,(soI h2:a=a')▸ra,0,h1,congrArg some (eq_of_beq hk)⟩
      |succ i=>exact xe12 (ih ps rl h1 h2) λv' g1 z=>xe12 z.2 λj g3 g4=>⟨v',.tail _ g1,z.1,j+1,g3,g4⟩
    · rw[if_neg hk] at h1 h2
      exact xe12 (ih ps rl h1 h2) λv' g1 z=>xe12 z.2 λj g3 g4=>⟨v',.tail _ g1,z.1,j+1,g3,g4⟩
theorem N3 {α β:Type}{b:Bool}:∀ (pk:List Bool) (l:List α) (l' : List β),l.length=l'.length->(pickB b pk l).length=(pickB b pk l').length
 | [],_,_,_=>rfl
 |_::_,[],[],_=>rfl
 |_::_,[],_::_,h=>by cases h
 |_::_,_::_,[],h=>by cases h
 |k::ks,a::l,c::l',h=>by
  have ih:=N3 (b:=b) ks l l' (by simpa using h);show (if k==b then a::pickB b ks l else pickB b ks l).length=(if k==b then c::pickB b ks l' else pickB b ks l').length
  by_cases hk:(k==b)=true
  · rw[if_pos hk,if_pos hk,Qw,Qw,ih]
  · rw[if_neg hk,if_neg hk,ih]
theorem qv {kindOf:Str->Option NameKind}{x:Str}:∀ (l:List (Str×Value)) (m:Str->Option Value),(∀ p∈l,p.1≠x)->bindL kindOf l m x=m x
 | [],m,_=>rfl
 | (n,v)::r,m,h=>by
  unfold bindL;rw[qv r _ λp hp=>h p (.tail _ hp)]
  split
  · show (if x=n then some v else m x)=m x
    rw[if_neg (Ne.symm (h (n,v) (.head _)))]
  · rfl
theorem bindL_get {kindOf:Str->Option NameKind}{x:Str}{v:Value}(hk:kindOf x=some .local):∀ (l:List (Str×Value)) (m:Str->Option Value),(l.map (·.1)).Nodup->(x,v)∈l->bindL kindOf l m x=some v
 | (n,w)::r,m,nd,h=>by
  rw[QM,J6] at nd;unfold bindL
  rcases mcM h with e|h
  · cases e
    rw[qv r _ λp hp e=>nd.1 (Jz.mpr ⟨p,hp,e⟩),if_pos hk];exact if_pos rfl
  · exact bindL_get hk r _ nd.2 h
theorem qz {kindOf:Str->Option NameKind}{x:Str}:∀ (l:List (Str×Value)) (m:Str->Option Value),(∀ p∈l,p.1≠x)->bindC kindOf l m x=m x
 | [],m,_=>rfl
 | (n,v)::r,m,h=>by
  unfold bindC;rw[qz r _ λp hp=>h p (.tail _ hp)]
  split
  · rfl
  · show (if x=n then some v else m x)=m x
    rw[if_neg (Ne.symm (h (n,v) (.head _)))]
theorem bindC_get {kindOf:Str->Option NameKind}{x:Str}{v:Value}(hk:kindOf x=some .cell):∀ (l:List (Str×Value)) (m:Str->Option Value),(l.map (·.1)).Nodup->(x,v)∈l->bindC kindOf l m x=some v
 | (n,w)::r,m,nd,h=>by
  rw[QM,J6] at nd;unfold bindC
  rcases mcM h with e|h
  · cases e
    rw[qz r _ λp hp e=>nd.1 (Jz.mpr ⟨p,hp,e⟩),if_neg (by rw[hk];exact λq=>nomatch q)];exact if_pos rfl
  · exact bindC_get hk r _ nd.2 h
theorem cellsAre_get {cm:Str->Option Value}{x:Str}{ca:Addr}{cs:List (Str×Addr)}{cells:NwT}(Y:CellsAre cm cs cells):cs.lookup x=some ca->∃ o,(ca,o)∈cells∧o.data = .cell (cm x):=by
 induction Y with
 |nil=>intro h;exact nos h
 | @cons n c o cs cells hd r ih=>
  intro h;rw[V4] at h
  cases hx:(x==n) with
  |true=>rw[hx] at h;cases h;exact⟨o,.head _,by rw[eq_of_beq hx];exact hd⟩
  |false=>
   rw[hx] at h;refine xe12 (ih h) λo' h1 h2=>?_
   exact⟨o',.tail _ h1,h2⟩
theorem N7:∀ (names:List (Str×NameKind)) (n:Nat) (acc:List (Str×Addr)) (p:Str×Addr),p∈cellsFrom n names acc->p∈acc∨n≤p.2
 | [],_,_,_,h=>.inl h
 | (y,k)::r,n,acc,p,h=>by
  unfold cellsFrom at h
  split at h
  · rcases N7 r _ _ p h with h|h
    · rcases mcM h with rfl|h
      · exact .inr (QN _)
      · exact .inl h
    · exact .inr (Nat.le_of_succ_le h)
  · exact N7 r _ _ p h
theorem cellsAre_addr {cm:Str->Option Value}{cs:List (Str×Addr)}{cells:NwT}(Y:CellsAre cm cs cells):∀ p∈cells,∃ n,(n,p.1)∈cs:=by
 induction Y with
 |nil=>intro p h;cases h
 | @cons n c o cs cells hd r ih=>
  intro p h;rcases mcM h with rfl|h
  · exact⟨n,.head _⟩
  · obtain⟨n',h'⟩:=ih p h
    exact⟨n',.tail _ h'⟩
noncomputable def Wd.more (W:Wd) (l:NwT):Wd:=⟨W.ρ,l++W.tl⟩
theorem Wd.le_more (W:Wd)(l:NwT):W.le (W.more l):=⟨λZ Z e=>e,λZ h=>JH _ h⟩
theorem Facts.more {c:Cx}{pin:NwT}{W:Wd}{σ:Store}{N:NwT}(F:Facts c pin W σ N){l:NwT}(hn:∀ q∈l,∀ p∈N,p.1<q.1):Facts c pin (W.more l) σ (l++N) where
 len:=F.len
 own:=λi ao e=>(F.own i ao e).casesOn λb ob h1 h2 h3=>⟨b,ob,h1,JH _ h2,h3.mono (W.le_more l)⟩
 tl:=λp m=>by
  rcases Hx.mp m with m|m
  · exact J0 _ m
  · exact JH _ (F.tl p m)
 pn:=λp m=>JH _ (F.pn p m)
 inj:=F.inj
 dis:=λp m i e=>by
  rcases Hx.mp m with m|m
  · obtain⟨o',hm⟩:=F.addr e
    exact absurd (hn _ m _ hm) (J4 _)
  · exact F.dis p m i e
 disp:=F.disp
 tab:=λq m=>(F.tab q m).casesOn λps h1 h2=>⟨ps,JH _ h1,h2.mono (W.le_more l)⟩
 tabρ:=F.tabρ
 tabt:=λq m p mp=>by
  rcases Hx.mp mp with mp|mp
  · obtain⟨ps,h1,_⟩:=F.tab q m
    exact Qj (hn _ mp _ h1)
  · exact F.tabt q m p mp
 tabp:=F.tabp
 tlp:=λq m p mp=>by
  rcases Hx.mp mp with mp|mp
  · exact Qj (hn _ mp _ (F.pn q m))
  · exact F.tlp q m p mp
 pnd:=F.pnd
structure Fm.At (c:Cx)(f:Fm)(A:Around)(d:Nat):Prop where
 B:Below f.AZ f.base f.outer f.h₀
 X:c.K.In f.h₀
 T:Top c.p c.loose c.mean c.mg c.mb f.h₀
 codes:∀ q∈c.tabs,CodeHd f.h₀ q.1 q.2.1
 frames:A.frames=some (f.fr::f.outer)
 frf:f.fr.frame=some f.L
 frk:f.fr.scope.kind = .function
 handled:A.handled=none
 depth:A.depth+3 * d+4<recursionLimit
 units:A.units+30 * d+63<cLine
def SBall (c:Cx)(d:Nat)(r:FnRec)(fa:Addr)(M:MdS):Prop:=
 ∀ f:Fm,f.cs=r.scope->f.xs=r.xs->f.ys=r.ys->f.comp=none->f.env=envX r.qual r.scope f.L fa r.cdv f.cl->SB c d f r.body M
noncomputable abbrev Fm.into (f:Fm) (A:Around) (r:FnRec) (fa:Addr) (g:Heap) (L' : Addr):Fm:=
 { AZ:=A,base:=f.base,h₀:=g,outer:=f.fr::f.outer,L:=L',cs:=r.scope,cl:=cellsFrom (L' + 1) r.scope.names [],xs:=r.xs,ys:=r.ys,pin:=f.pin,env:=envX r.qual r.scope L' fa r.cdv (cellsFrom (L' + 1) r.scope.names []),fr:=envX r.qual r.scope L' fa r.cdv (cellsFrom (L' + 1) r.scope.names []),comp:=none,oxs:=[],oloc:=[] }
section
variable {prog:Program}{w:World}{AZ A:Around}{s:Shared}{base h₀:Heap}{outer:List Env}{L:Addr}{m:Str->Option Value}{env:Env}{news:NwT}
 {R:Result->Shared->Prop} {name qual:Str} {params:Arguments} {body:List Stmt} {scope:Scope} {dV kV doc pm cdv ct:Value} {an:Option Addr} {fo:Obj} {f:Addr} {args:Args} {binds:List (Str×Value)}
theorem callY (hpos:0<s.toks)(B:Below AZ base outer h₀)(F:Fr h₀ L s.heap m)(N:News h₀ L s.heap news)(hlim:h₀.NoLimit)(hA:A.frames=some (env::outer))(hf:env.frame=some L)(hke:env.scope.kind = .function)
  (ho:s.heap.get? f=some fo) (hd:fo.data = .func (fnX name qual params body scope [] dV kV doc pm an cdv ct)) (hcd:s.heap.CodeRec cdv qual) (hroom:A.depth<recursionLimit)
  (hbind:BindsTo s (fnX name qual params body scope [] dV kV doc pm an cdv ct) args binds)
  (hkind:∀ n,∀ x∈binds,scope.names.lookup x.1=some .local∨(scope.names.lookup x.1=some .cell∧((cellsFrom n scope.names []).lookup x.1).isSome=true))
  (hnd:((cellsFrom 0 scope.names []).map (·.1)).Nodup)
  (h:∀ g L' h₁ tk cells,0<tk->Fr h₀ L g m->Fr g L' h₁ (bindL (envOfC qual scope L' f cdv).kindOf binds λZ=>none)->News g L' h₁ (cells++news) ->
   CellsAre (bindC (envOfC qual scope L' f cdv).kindOf binds λZ=>none) (cellsFrom (L' + 1) scope.names []) cells->Below A base (env::outer) g->h₀.StaysIn g->(∀ p∈news,p.1<L')->(∀ v s',LeaveK h₀ L m g R v s'->R (.ok (.ret v)) s') ->
   wpAny (model prog w) (A.deeper (envOfC qual scope L' f cdv)) (execs body (envOfC qual scope L' f cdv))
    (λfl s'=>R (.ok (.ret (match fl with|.ret v=>v|_=>.none))) s')
    (λe s'=>wpAny (model prog w) (A.deeper (envOfC qual scope L' f cdv)) (leaving (envOfC qual scope L' f cdv) e) (λZ s''=>R (.error e) s'') (λe' s''=>R (.error e') s'') s')
    { s with heap:=h₁,toks:=tk })
  (hco:scope.isCoroutine=false) (hgen:scope.isGenerator=false) (hk:scope.kind = .function):codeAny (model prog w) A (.call (.ref f) args) R s:=by
 refine xe04 (groundX (R:=R) B F N hA hf hke) λFG BG st lv=>?_
 refine codeAny_call_function hroom ho hd hco hgen rfl hcd (hbind _ _ _ _ ?_)
 refine J5 hpos (wpAny_newFunctionEnv_cells hk (hkind _) λenv' he s' x=>?_)
 subst he
 intro htk
 obtain⟨h₁,tk,rfl,_⟩:=x.done
 have hkA:=x.toInCall.keep
 refine⟨(hlim.keeps F.keep).keeps hkA,codeAny_func ?_⟩
 refine xe12 (Cl.news (h₀:=s.heap) (QN _) λn c hm=>⟨x.cell n c (lookup_of_mem_nodup (cellsFrom_names scope.names 0 (s.heap.objs.size+1) [] [] rfl▸hnd) hm),x.above n c hm⟩) λcells NC Y=>?_
 have NN:News (hideAll s.heap (news.map (·.1))) s.heap.objs.size h₁ (cells++news):=λp hp=>by
  rcases Hx.mp hp with hp|hp
  · refine⟨(NC p hp).1,(NC p hp).2.1,?_⟩
    cases q:(hideAll s.heap (news.map (·.1))).get? p.1 with
    |none=>rfl
    |some o=>have:=of_hideAll _ q;rw[(NC p hp).2.2] at this;exact nos this
  · exact⟨hkA _ _ (N p hp).1,VV (V0 (N p hp).1),hideAll_none _ (VQ hp)⟩
 exact Qz (h _ s.heap.objs.size h₁ tk cells htk FG ⟨x.toInCall.ns,λb o e=>hkA b o (of_hideAll _ e),Q9 (hideAll_size _ _)⟩ NN Y BG st (λp hp=>V0 (N p hp).1) lv) (λfl s' hl=>hl) λZ Z y=>y
end
theorem Nq {c:Cx}{d:Nat}{fa:Addr}{r:FnRec}(H:FnAt c fa r)
  {f:Fm} {A:Around} {W:Wd} {s:Shared} {σ:Store} {en:En} {l:List AV} {vs:List Value} {m:Str->Option Value} {N:NwT} {R:Result->Shared->Prop}
  (ok:f.At c A d) (S:St c f W σ en s m N) (rl:RelL c.lam W l vs) (hlen:r.lo≤l.length∧l.length≤r.ps.length)
  (h:∀ g L' s₁ WA m₁ NA,(f.into A r fa g L').Ok c (A.deeper (f.into A r fa g L').env) d->W.le WA ->
   St c (f.into A r fa g L') WA σ ⟨(pickB false r.pk (l++(r.dvs.map globAV).drop (l.length - r.lo))).map some++QK r.zs.length none,pickB true r.pk (l++(r.dvs.map globAV).drop (l.length - r.lo))⟩ s₁ m₁ NA ->
   s₁.gens=c.gens->Fr f.h₀ f.L g m->(∀ v s',LeaveK f.h₀ f.L m g R v s'->R (.ok (.ret v)) s') ->
   wpAny (model c.prog c.w) (A.deeper (f.into A r fa g L').env) (execs r.body (f.into A r fa g L').env)
    (λfl s'=>R (.ok (.ret (match fl with|.ret v=>v|_=>.none))) s')
    (λe s'=>wpAny (model c.prog c.w) (A.deeper (f.into A r fa g L').env) (leaving (f.into A r fa g L').env e) (λZ s''=>R (.error e) s'') (λe' s''=>R (.error e') s'') s') s₁) :
  codeAny (model c.prog c.w) A (.call (.ref fa) ⟨vs,[]⟩) R s:=by
 have hv:vs.length=l.length:=rl.length.symm
 have XI:c.K.In s.heap:=ok.X.keeps S.F.keep
 have hb:=H.bind s vs XI (hv▸hlen.1) (ar19 hv hlen.2)
 have hlen2:(vs++r.dvs.drop (vs.length - r.lo)).length=r.ps.length:=by
  rw[QV,List.length_drop];have:=H.dl
  rw[hv];exact(ar42 hlen.1 (QJ hlen.2 (Q9 this.symm))).trans this
 have rl2:RelL c.lam W (l++(r.dvs.map globAV).drop (l.length - r.lo)) (vs++r.dvs.drop (vs.length - r.lo)):=by
  rw[hv,← List.map_drop];exact rl.append (RelL.globs _)
 have zipk:∀ (ps:List Str) (ws:List Value),((ps.zip ws).map (·.1)).Sublist ps:=by
  intro ps
  induction ps with
  |nil=>intro ws;exact List.Sublist.refl _
  |cons p r ih=>
   intro ws
   cases ws with
   |nil=>exact List.nil_sublist _
   |cons v ws=>exact(ih ws).cons_cons p
 have nd:=List.Nodup.sublist (zipk r.ps (vs++r.dvs.drop (vs.length - r.lo))) H.pnd
 have kindsAll:∀ x∈r.ps,r.scope.names.lookup x=some .local∨r.scope.names.lookup x=some .cell:=λx hx=>by
  obtain⟨i,hi,e⟩:=List.getElem_of_mem hx;have hi' : i<r.pk.length:=by rw[H.pkl];exact hi
  have:=H.kinds i x r.pk[i] (by rw[JN hi,e]) (JN hi');rw[this]
  cases r.pk[i]<;>simp
 refine callY S.pos ok.B S.F S.nw ok.T.nolimit ok.frames ok.frf ok.frk (XI _ _ H.look) rfl (codeRec_of XI H.code) (by have:=ok.depth;exact ar31 this) hb
  (λn x hx=>?_) H.cnd (λg L' h₁ tk cells hk FG F' X' Y B' st lt lv=>?_) H.co H.gen H.kind
 · rcases kindsAll x.1 (List.of_mem_zip hx).1 with q|q
   · exact .inl q
   · exact .inr ⟨q,cellsFrom_some _ _ _ (.inl q)⟩
 · have ok' : (f.into A r fa g L').Ok c (A.deeper (f.into A r fa g L').env) d:={
    B:=B'
    X:=ok.X.keeps st
    T:=ok.T.keeps st
    codes:=λq hq=>(ok.codes q hq).keeps st
    frames:=by
     show (A.frames.map ((f.into A r fa g L').env::·))=_;rw[ok.frames];rfl
    frf:=rfl
    frk:=H.kind
    sc:=rfl
    cls:=rfl
    glo:=rfl
    blt:=rfl
    loc:=rfl
    cmp:=λZ h=>nos h
    handled:=ok.handled
    depth:=by show A.depth+1+3 * d+3<_;have:=ok.depth;exact ar27 this
    units:=by show A.units+3+30 * d+60<_;have:=ok.units;exact ar28 this
    kind:=H.kind
    nodup:=H.nodup
    onil:=λZ=>⟨rfl,rfl⟩ }
   have big:∀ q∈cells,∀ p∈N,p.1<q.1:=λq hq p hp=>by
    obtain⟨n,hn⟩:=cellsAre_addr Y q hq;rcases N7 _ _ _ _ hn with h|h
    · cases h
    · exact G9 (lt p hp) h
   have w:=W.le_more cells;have F1:EnvR c.lam (W.more cells) r.xs ((pickB false r.pk (l++(r.dvs.map globAV).drop (l.length - r.lo))).map some++QK r.zs.length none) (bindL (envOfC r.qual r.scope L' fa r.cdv).kindOf (r.ps.zip (vs++r.dvs.drop (vs.length - r.lo))) λZ=>none):=by
    have el:(pickB false r.pk (l++(r.dvs.map globAV).drop (l.length - r.lo))).length=(pickB false r.pk r.ps).length:=N3 _ _ _ (by rw[rl2.length,hlen2]);refine⟨by rw[QV,QV,QH,HQ,el],λi x b e1 e2=>?_⟩
    by_cases hi:i<(pickB false r.pk r.ps).length
    · rw[Q3 (by rw[QH,el];exact hi),Q2] at e2
      rw[Q3 hi] at e1
      cases e3:(pickB false r.pk (l++(r.dvs.map globAV).drop (l.length - r.lo)))[i]? with
      |none=>rw[e3] at e2;exact nos e2
      |some b' =>
       rw[e3] at e2;cases e2
       obtain⟨v,g1,g2,j,g3,g4⟩:=pick_zip r.pk r.ps rl2 e1 e3;exact⟨v,bindL_get (H.kinds j x false g3 g4) _ _ nd g1,g2.mono w⟩
    · rw[JJ (by rw[QH,el];exact WU.mp hi)] at e2
      have:=HX e2;rw[List.mem_replicate] at this
      first|exact nos this.2|exact nof this.2|cases this.2
   have F2:RelC c.lam (W.more cells) r.ys (pickB true r.pk (l++(r.dvs.map globAV).drop (l.length - r.lo))) (cellsFrom (L' + 1) r.scope.names []):=by
    have el:(pickB true r.pk (l++(r.dvs.map globAV).drop (l.length - r.lo))).length=(pickB true r.pk r.ps).length:=N3 _ _ _ (by rw[rl2.length,hlen2]);have key:∀ (ys:List Str) (as:List AV),ys.length=as.length->(∀ (i:Nat) (x:Str) (a:AV),ys[i]? = some x->as[i]? = some a ->
      ∃ v ca o,(cellsFrom (L' + 1) r.scope.names []).lookup x=some ca∧(ca,o)∈(W.more cells).tl∧o.data = .cell (some v)∧Rel c.lam (W.more cells) a v)->RelC c.lam (W.more cells) ys as (cellsFrom (L' + 1) r.scope.names []):=by
     intro ys
     induction ys with
     |nil=>
      intro as h _
      cases as with
      |nil=>exact .nil
      |cons=>cases h
     |cons y ys ih=>
      intro as h hk
      cases as with
      |nil=>cases h
      |cons a as=>
       refine xe34 (hk 0 y a rfl rfl) λv ca o g1 g2 g3 g4=>?_
       exact .cons g1 g2 g3 g4 (ih as (by simpa using h) λi x a e1 e2=>hk (i+1) x a (by rw[List.getElem?_cons_succ];exact e1) (by rw[List.getElem?_cons_succ];exact e2))
    refine key _ _ el.symm λi x a e1 e2=>?_
    obtain⟨v,g1,g2,j,g3,g4⟩:=pick_zip r.pk r.ps rl2 e1 e2;have hk:=H.kinds j x true g3 g4
    obtain⟨ca,hca⟩:=MQ.mp (cellsFrom_some r.scope.names (L' + 1) [] (.inl hk));refine xe12 (cellsAre_get Y hca) λo ho1 ho2=>?_
    rw[bindC_get (v:=v) hk _ _ nd g1] at ho2;exact⟨v,ca,o,hca,J0 _ ho1,ho2,g2.mono w⟩
   exact h g L' _ _ _ _ ok' w (⟨F',X',S.fa.more big,F1,F2,S.gens,S.drawn,S.os,hk,.empty⟩:St c (f.into A r fa g L') (W.more cells) σ ⟨(pickB false r.pk (l++(r.dvs.map globAV).drop (l.length - r.lo))).map some++QK r.zs.length none,pickB true r.pk (l++(r.dvs.map globAV).drop (l.length - r.lo))⟩ { s with heap:=h₁,toks:=tk } _ (cells++N)) S.gens FG lv
theorem St.left {c:Cx}{f f' : Fm}{W W' : Wd}{σ σ' : Store}{en en' : En}{s s' : Shared}{m m' : Str->Option Value}{N N' : NwT}(S:St c f W σ en s m N)(w:W.le W')(S' : St c f' W' σ' en' s' m' N')(hp:f'.pin=f.pin)
  (F:Fr f.h₀ f.L s'.heap m) (X:News f.h₀ f.L s'.heap N'):St c f W' σ' en s' m N' :=
 ⟨F,X,hp▸S'.fa,S.env.mono w,S.cel.mono w,S'.gens,S'.drawn,S'.os,S'.pos,S.oenv.mono w⟩
theorem code_fn {c:Cx}{d:Nat}{fa:Addr}{r:FnRec}(H:FnAt c fa r){M:MdS}(hM:SBall c d r fa M)
  {f:Fm} {A:Around} {W:Wd} {s:Shared} {σ:Store} {en:En} {l:List AV} {vs:List Value} {a:AV} {σ' : Store} {m:Str->Option Value} {N:NwT} {R:Result->Shared->Prop}
  (ok:f.At c A d) (S:St c f W σ en s m N) (rl:RelL c.lam W l vs) (q:fnF r M l σ=some (a,σ')) (hR:∀ v s',PostE c f W en a σ' v s'->R (.ok (.ret v)) s') :
  codeAny (model c.prog c.w) A (.call (.ref fa) ⟨vs,[]⟩) R s:=by
 refine oi q λhlen q=>Nq H ok S rl hlen λg L' s₁ WA m₁ NA ok' w₁ S₁ Z Z lv=>om3 q λx en₁ σ₁ q1 q=>post (hM _ rfl rfl rfl rfl rfl _ WA s₁ σ _ x en₁ σ₁ m₁ NA _ ok' S₁ q1) λfl s' W' m' N' w' S' r'=>?_
 cases r' with
 |ret r' =>
  cases q
  exact lv _ _<|leaveK_ S'.F S'.nw λF X=>hR _ _ ⟨W',m,N',w₁.trans w',S.left (w₁.trans w') S' rfl F X,r'⟩
 |next=>
  cases q
  exact lv _ _<|leaveK_ S'.F S'.nw λF X=>hR _ _ ⟨W',m,N',w₁.trans w',S.left (w₁.trans w') S' rfl F X,.none⟩
 |brk=>exact nos q
end
section
noncomputable def findS (name:Str):List (Str×AV)->Option AV
 | []=>none
 | (x,a)::r=>if x==name then some a else findS name r
noncomputable def putS (name:Str) (b:AV):List (Str×AV)->List (Str×AV)
 | []=>[(name,b)]
 | (x,a)::r=>if x==name then (x,b)::r else (x,a)::putS name b r
noncomputable def handedAV:AV->Bool
 | .glob _=>false
 |_=>true
theorem handed_of {lam:Nat->Option LamRec}{W:Wd}{a:AV}{v:Value}(r:Rel lam W a v)(h:handedAV a=true):handedIn v=true:=by
 cases r<;>first|rfl|exact nos h|exact nof h|cases h
section
variable {lam:Nat->Option LamRec}{P:Params}{W:Wd}
theorem relD_cons {x:Str}{v:Value}{t:Tok}{ds:List DictEntry}{name:Str}:getL name (⟨PyData.keyHash P x,.str x t,v⟩::ds)=if x==name then some (some v) else getL name ds:=by
 unfold getL
 rw[List.find?_cons]
 show (match (match (x==name) with|true=>some (⟨PyData.keyHash P x,.str x t,v⟩:DictEntry)|false=>List.find? (λe=>e.key.isStr name) ds) with|some e=>some (some e.val)|none=>if (false||ds.any (·.refKey)) then none else some none)=_
 cases h:(x==name) with
 |true=>rfl
 |false=>rfl
theorem RelD.find {name:Str}{es:List (Str×AV)}{ds:List DictEntry}(r:RelD lam P W es ds):match findS name es with
  |some a=>∃ v,getL name ds=some (some v)∧Rel lam W a v
  |none=>getL name ds=some none:=by
 induction r with
 |nil=>rfl
 | @cons x a v t es ds r _ q=>
  rw[relD_cons];show match (if x==name then some a else findS name es) with
   |some a=>∃ v',(if x==name then some (some v) else getL name ds)=some (some v')∧Rel lam W a v'
   |none=>(if x==name then some (some v) else getL name ds)=some none
  cases h:(x==name) with
  |true=>exact⟨v,rfl,r⟩
  |false=>exact q
theorem RelD.put {name:Str}{b:AV}{w:Value}{t:Tok}(r:Rel lam W b w){es:List (Str×AV)}{ds:List DictEntry}(z:RelD lam P W es ds):RelD lam P W (putS name b es) (putL name (PyData.keyHash P name) (.str name t) w ds):=by
 induction z with
 |nil=>exact .cons r .nil
 | @cons x a v t' es ds ra q ih=>
  have e1:putL name (PyData.keyHash P name) (.str name t) w (⟨PyData.keyHash P x,.str x t',v⟩::ds)=if x==name then ⟨PyData.keyHash P x,.str x t',w⟩::ds else ⟨PyData.keyHash P x,.str x t',v⟩::putL name (PyData.keyHash P name) (.str name t) w ds:=rfl
  have e2:putS name b ((x,a)::es)=if x==name then (x,b)::es else (x,a)::putS name b es:=rfl
  rw[e1,e2]
  cases h:(x==name) with
  |true=>exact .cons r q
  |false=>exact .cons ra ih
theorem RelD.length {es:List (Str×AV)}{ds:List DictEntry}(r:RelD lam P W es ds):ds.length=es.length:=by
 induction r with
 |nil=>rfl
 |cons _ _ q=>exact congrArg (· + 1) q
end
noncomputable def attrOk (K:Frag) (C:Addr) (name:Str):Bool:=plainGet K C name&&hasDictIn K C&&(findIn K (.ref C) name).any (noGet K)
noncomputable def setOk (K:Frag) (C:Addr) (name:Str):Bool:=findIn K (.ref C) "__setattr__"==some (some (.builtin "object.__setattr__"))&&plainOver K C&&takerIn K C name==some none&&hasDictIn K C
def refOf:Value->Option Addr
 | .ref a=>some a
 |_=>none
theorem refOf_is {v:Value}{a:Addr}(h:refOf v=some a):v = .ref a:=by
 cases v with
 |ref b=>exact congrArg Value.ref (soI h)
 |_=>exact nos h
noncomputable def methOf (K:Frag) (C:Addr) (name:Str):Option Addr:=
 if plainGet K C name then on1 (findIn K (.ref C) name) λo=>on1 o λv=>on1 (refOf v) λfa=>if isFn K (.ref fa) then some fa else none else none
def attrF (ok:Addr->Str->Bool)(a:AV)(name:Str)(σ:Store):Option AV:=
 onRef a λi=>onInst σ[i]? λC d=>onDict σ[d]? λes=>on1 (findS name es) λb=>if ok C name&&handedAV b then some b else none
section
variable {c:Cx}{d:Nat}{f:Fm}
theorem inst_at {W:Wd}{σ:Store}{en:En}{s:Shared}{m:Str->Option Value}{N:NwT}(S:St c f W σ en s m N){i j:Nat}{C x:Addr}{es:List (Str×AV)}{P:Prop}
  (hx:W.ρ[i]? = some x) (h1:σ[i]? = some (.inst C j)) (h2:σ[j]? = some (.dict es))
  (k:∀ dx ds n,W.ρ[j]? = some dx->(x,instObj C dx)∈N->(dx,dictOf ds n)∈N->RelD c.lam c.w.params W es ds->InstAt s.heap x (instObj C dx) C (some (dictOf ds n))->P):P:=
 S.fa.atInst hx h1 λdx ed e2=>S.fa.atDict ed h2 λds n rd g2=>k dx ds n ed e2 g2 rd (InstAt.of_news S.nw e2 g2)
theorem attr_wp {ao:Addr->Str->Bool}(H:∀ C n,ao C n=true->attrOk c.K C n=true){W:Wd}{σ:Store}{en:En}{s:Shared}{m:Str->Option Value}{N:NwT}{A:Around}{E:Value->Shared->Prop}(ok:f.Ok c A d)(S:St c f W σ en s m N){a b:AV}{v:Value}{name:Str}{x:Bool}
  (r:Rel c.lam W a v) (q:attrF ao a name σ=some b):wpAny (model c.prog c.w) A (getAttr v name x) (PostE c f W en b σ) E s:=by
 refine GV q r λi x Z hx q=>oInst q λC j h1 q=>oDict q λes h2 q=>om1 q λb' h3 q=>oi q λh4 q=>oe q ?_
 have h5:=H _ _ (and2 h4).1
 unfold attrOk at h5
 rw[Jq,Jq,Option.any_eq_true] at h5
 obtain⟨⟨g1,g2⟩,attr,g3,g4⟩:=h5
 refine inst_at S hx h1 h2 λdx ds n e1 e2 e3 e4 I=>?_
 have z:=e4.find (name:=name)
 rw[h3] at z
 refine xe12 z λv hv rv=>?_
 exact get_own S.F ok.X I g1 g2 g3 g4 hv (handed_of rv (and2 h4).2) (S.postT rv (Qq _))
def attrM (ao:Addr->Str->Bool)(M:Md)(name:Str):Md:=λen σ=>on2 (M en σ) λa σ₁=>on1 (attrF ao a name σ₁) λb=>some (b,σ₁)
theorem se_attr {ao:Addr->Str->Bool}(H:∀ C n,ao C n=true->attrOk c.K C n=true){e:PySem.Expr}{name:Str}{pos:Pos}{M:Md}(h:SE c d f e M)(hb:notSup e=true):SE c d f (.Attribute e name pos) (attrM ao M name):=by
 intro A W s σ en a σ' m N E ok S q
 refine om q λx σ₁ q1 q=>om1 q λb q2 q=>oe2 q ?_
 refine Attribute_any_ (post (h A W s σ en x _ m N E ok S q1) λv s₁ WA m₁ NA w₁ S₁ rA=>Qz (attr_wp H ok S₁ rA q2) (λZ Z x=>x.up w₁) λZ Z x=>x) ?_
 rw[arm_eval_Attribute,base_is hb]
def setF (so:Addr->Str->Bool)(o:AV)(name:Str)(b:AV)(σ:Store):Option Store:=
 onRef o λi=>onInst σ[i]? λC d=>onDict σ[d]? λes=>if so C name&&decide (es.length<900) then some (σ.set d (.dict (putS name b es))) else none
theorem Kj (name:Str)(b:AV):∀ es:List (Str×AV),(putS name b es).length≤es.length+1
 | []=>QN _
 | (x,a)::r=>by
  unfold putS
  split
  · simp
  · have:=Kj name b r;simp;exact this
theorem set_wp {ao:Addr->Str->Bool}(H:∀ C n,ao C n=true->setOk c.K C n=true){W:Wd}{σ:Store}{en:En}{s:Shared}{m:Str->Option Value}{N:NwT}{A:Around}{E:Value->Shared->Prop}(ok:f.Ok c A d)(S:St c f W σ en s m N){o b:AV}{v w:Value}{name:Str}{σ' : Store}
  (r:Rel c.lam W o v) (rb:Rel c.lam W b w) (q:setF ao o name b σ=some σ'):wpAny (model c.prog c.w) A (setAttr v name w) (PostU c f W en σ') E s:=by
 refine GV q r λi x Z hx q=>oInst q λC j h1 q=>oDict q λes h2 q=>oi q λh4 q=>oe q ?_
 have h5:=H _ _ (and2 h4).1
 unfold setOk at h5
 rw[Jq,Jq,Jq,beq_iff_eq,beq_iff_eq] at h5
 obtain⟨⟨⟨g1,g2⟩,g3⟩,g4⟩:=h5
 refine inst_at S hx h1 h2 λdx ds n e1 e2 e3 e4 I=>?_
 have z:=e4.find (name:=name)
 have hl:(getL name ds).isSome=true:=by
  split at z
  · obtain⟨v,hv,_⟩:=z;rw[hv];rfl
  · rw[z];rfl
 have hz:(putL name (PyData.keyHash c.w.params name) (.str name (s.toks+1)) w ds).length≤1000:=by
  have h6:=(e4.put (t:=s.toks+1) rb (name:=name)).length;have h7:=Kj name b es
  have h8:=of_decide_eq_true (and2 h4).2;omega
 exact set_dict S.F ok.X (MH S.nw e3) I rfl g1 g2 g3 g4 hl rfl L7 hz λh' F' X'=>⟨W,m,_,.refl W,S.turn (t:=s.toks+2) F' X' e1 (.dict (e4.put rb)) (Qq _)⟩
def asgAttrM (so:Addr->Str->Bool)(M MO:Md)(name:Str):MdS:=λen σ=>on2 (M en σ) λb σ₁=>on2 (MO en σ₁) λo σ₂=>on1 (setF so o name b σ₂) λσC=>some (.next,en,σC)
theorem PK {ao:Addr->Str->Bool}(H:∀ C n,ao C n=true->setOk c.K C n=true){o e:PySem.Expr}{name:Str}{pos' pos:Pos}{M MO:Md}(h:SE c d f e M)(ho:SE c d f o MO)(hc:notComp e=true):SS c d f (.Assign [.Attribute o name pos'] e pos) (asgAttrM ao M MO name):=by
 intro A W s σ en x en' σ' m N E ok S q
 refine om q λb σ₁ q1 q=>om q λy σ₂ q2 q=>om1 q λσC q3 q=>oe3 q ?_
 refine plainObj_wpAny_Assign_Attribute (post (h A W s σ en b σ₁ m N E ok S q1) λv s₁ WA m₁ NA w₁ S₁ rA=>?_) (HU hc)
 refine post (ho A WA s₁ σ₁ _ y σ₂ m₁ NA E ok S₁ q2) λov sB WB mB NB wB S₂ rB=>?_
 exact Qz (set_wp H ok S₂ rB (rA.mono wB) q3) (λ_ sC ⟨WC,m₃,N₃,wC,S₃⟩=>⟨WC,m₃,N₃,(w₁.trans wB).trans wC,S₃,.next⟩) λZ Z x=>x
theorem get_meth {W:Wd}{σ:Store}{en:En}{s:Shared}{m:Str->Option Value}{N:NwT}{A:Around}{E:Value->Shared->Prop}{Q:Value×List Value->Shared->Prop}(ok:f.Ok c A d)(S:St c f W σ en s m N){i j:Nat}{C x fa:Addr}{es:List (Str×AV)}{name:Str}{pl:Sem Bool}
  (hx:W.ρ[i]? = some x) (h1:σ[i]? = some (.inst C j)) (h2:σ[j]? = some (.dict es)) (h3:findS name es=none) (h4:methOf c.K C name=some fa) (h:Q (.ref fa,[.ref x]) s):wpAny (model c.prog c.w) A (getMethod (.ref x) name pl) Q E s:=by
 refine oi h4 λg1 h4=>om1 h4 λo ho h4=>om1 h4 λv hv h4=>om1 h4 λfa' hr h4=>oi h4 λg3 h4=>?_
 cases h4
 refine inst_at S hx h1 h2 λdx ds n e1 e2 e3 e4 I=>?_
 have z:=e4.find (name:=name)
 rw[h3] at z
 exact method_inst S.F ok.X I g1 (ho.trans (congrArg some (hv.trans (congrArg some (refOf_is hr))))) g3 z h
end
end
section
section
variable {c:Cx}{d:Nat}{f:Fm}{W:Wd}{σ:Store}{en:En}{s:Shared}{m:Str->Option Value}{N:NwT}
theorem list_at (S:St c f W σ en s m N){i:Nat}{x:Addr}{l:List AV}(hx:W.ρ[i]? = some x)(h:σ[i]? = some (.list l)):∃ vs n,(x,listOf vs.toArray n)∈N∧RelL c.lam W l vs:=
 S.fa.atList hx h λvs n r m=>⟨vs,n,m,r⟩
theorem J9 (S:St c f W σ en s m N){x:Addr}{vs:List Value}{n:Nat}(h:(x,listOf vs.toArray n)∈N):s.heap.IsList x vs.toArray:=⟨_,(S.nw _ h).1,rfl,_,rfl⟩
inductive StrMeth:Str->String->Prop
 |replace:StrMeth "replace" "str.replace"
 |split:StrMeth "split" "str.split"
 |join:StrMeth "join" "str.join"
inductive LstMeth:Str->String->Prop
 |append:LstMeth "append" "list.append"
 |extend:LstMeth "extend" "list.extend"
noncomputable def strMeth (n:Str):Option String:=if n == "replace" then some "str.replace" else if n == "split" then some "str.split" else if n == "join" then some "str.join" else none
noncomputable def lstMeth (n:Str):Option String:=if n == "append" then some "list.append" else if n == "extend" then some "list.extend" else none
theorem PJ {n:Str}{i:String}(h:strMeth n=some i):StrMeth n i:=by
 unfold strMeth at h
 by_cases h1:(n == "replace")=true
 · rw[if_pos h1] at h;cases h;rw[bqM h1];exact .replace
 · rw[if_neg h1] at h
   by_cases h2:(n == "split")=true
   · rw[if_pos h2] at h;cases h;rw[bqM h2];exact .split
   · rw[if_neg h2] at h
     by_cases h3:(n == "join")=true
     · rw[if_pos h3] at h;cases h;rw[bqM h3];exact .join
     · rw[if_neg h3] at h;exact nos h
theorem lstMeth_is {n:Str}{i:String}(h:lstMeth n=some i):LstMeth n i:=by
 unfold lstMeth at h
 by_cases h1:(n == "append")=true
 · rw[if_pos h1] at h;cases h;rw[bqM h1];exact .append
 · rw[if_neg h1] at h
   by_cases h2:(n == "extend")=true
   · rw[if_pos h2] at h;cases h;rw[bqM h2];exact .extend
   · rw[if_neg h2] at h;exact nos h
theorem Mv {M:Model}{A:Around}{E:Value->Shared->Prop}{Q:Value×List Value->Shared->Prop}{name:Str}{id:String}{x:Str}{t:Tok}{pl:Sem Bool}(h:StrMeth name id)(q:Q (.builtin id,[.str x t]) s) :
  wpAny M A (getMethod (.str x t) name pl) Q E s:=by
 cases h with
 |replace=>with_reducible exact getMethod_builtin (typeIs_str _ _ _) PySem.F.plainAttrs_str PySem.F.slot_str_replace PySem.F.type_str_replace (λZ e=>nomatch e) q
 |split=>with_reducible exact getMethod_builtin (typeIs_str _ _ _) PySem.F.plainAttrs_str PySem.F.slot_str_split PySem.F.type_str_split (λZ e=>nomatch e) q
 |join=>with_reducible exact getMethod_builtin (typeIs_str _ _ _) PySem.F.plainAttrs_str PySem.F.slot_str_join PySem.F.type_str_join (λZ e=>nomatch e) q
theorem get_lstMeth {M:Model}{A:Around}{E:Value->Shared->Prop}{Q:Value×List Value->Shared->Prop}{name:Str}{id:String}{a:Addr}{vs:List Value}{n:Nat}{pl:Sem Bool}(h:LstMeth name id)(ho:s.heap.get? a=some (listOf vs.toArray n))(q:Q (.builtin id,[.ref a]) s) :
  wpAny M A (getMethod (.ref a) name pl) Q E s:=by
 have hL:s.heap.IsList a vs.toArray:=⟨_,ho,rfl,_,rfl⟩
 have hd:∀ a',Value.ref a = .ref a'->∃ o,s.heap.get? a'=some o∧o.dict=none:=λa' e=>by cases e;exact⟨_,ho,rfl⟩
 cases h with
 |append=>exact getMethod_list_append ho rfl rfl q
 |extend=>with_reducible exact getMethod_builtin hL.typeIs PySem.F.plainAttrs_list PySem.F.slot_list_extend PySem.F.type_list_extend hd q
def getF (me:Addr->Str->Option Addr):GetF:=λa name σ=>match a with
 | .ref i=>onIL σ[i]? (λC j=>onDict σ[j]? λes=>onNone (findS name es) (on1 (me C name) λfa=>some (.glob (.ref fa),[.ref i]))) λZ=>on1 (lstMeth name) λid=>some (.glob (.builtin id),[.ref i])
 | .str x=>on1 (strMeth name) λid=>some (.glob (.builtin id),[.str x])
 |_=>none
theorem getF_ok {me:Addr->Str->Option Addr}(H:∀ C n fa,me C n=some fa->methOf c.K C n=some fa):GetOK c d (getF me):=by
 intro f A W s σ en a name g l v pl m N E ok S r q
 cases a with
 |ref i=>
  refine rRef r λx hx=>oIL q (λC j h1 q=>oDict q λes h2 q=>oNone q λh3 q=>om1 q λfa h4 q=>oe2 q ?_) λl' h1 q=>om1 q λid h3 q=>oe2 q ?_
  · exact get_meth ok S hx h1 h2 h3 (H _ _ _ h4) ⟨W,m,N,.refl W,S,.glob _,.cons (.ref hx) .nil⟩
  · exact S.fa.atList hx h1 λvs n Z h2=>get_lstMeth (lstMeth_is h3) (S.nw _ h2).1 ⟨W,m,N,.refl W,S,.glob _,.cons (.ref hx) .nil⟩
 |str x=>exact rStr r λt=>om1 q λid h3 q=>oe2 q (Mv (PJ h3) ⟨W,m,N,.refl W,S,.glob _,.cons (.str x t) .nil⟩)
 |_=>exact nos q
def appendF (l:List AV)(σ:Store):Option (AV×Store):=
 onL2 l λx a=>onRef x λi=>onList σ[i]? λl=>if l.length≤1000000 then some (.none,σ.set i (.list (l++[a]))) else none
def extendF (l:List AV)(σ:Store):Option (AV×Store):=
 onL2 l λx y=>onRef x λi=>onRef y λj=>onList σ[i]? λl=>onList σ[j]? λl'=>if l.length+l'.length≤1000000 then some (.none,σ.set i (.list (l++l'))) else none
theorem KU {A:Around}{E:Value->Shared->Prop}(S:St c f W σ en s m N){l:List AV}{vs:List Value}{a:AV}{σ' : Store}(r:RelL c.lam W l vs)(q:appendF l σ=some (a,σ')) :
  wpAny (model c.prog c.w) A (call (.builtin "list.append") vs) (PostE c f W en a σ') E s:=by
 refine onL2R q r λx a' u v r1 r2 q=>GV q r1 λi x Z hx q=>U1 q λl h1 q=>oi q λhl q=>oe2 q ?_
 refine S.fa.atList hx h1 λvs n rl h2=>?_
 refine append_K S.F (MH S.nw h2) (L7 (o' := listOf (vs.toArray.push v) (n+1))) (λh' F' X'=>⟨W,m,_,.refl W,S.turn (t:=s.toks) F' X' hx ?_ S.pos,.none⟩) (by rw[Q0,← rl.length];exact adL 0 hl rfl)
 rw[List.push_toArray]
 exact .list (rl.append (.cons r2 .nil))
theorem extend_ok {A:Around}{E:Value->Shared->Prop}(S:St c f W σ en s m N){l:List AV}{vs:List Value}{a:AV}{σ' : Store}(r:RelL c.lam W l vs)(q:extendF l σ=some (a,σ')) :
  wpAny (model c.prog c.w) A (call (.builtin "list.extend") vs) (PostE c f W en a σ') E s:=by
 refine onL2R q r λx y u v r1 r2 q=>GV q r1 λi x Z hx q=>GV q r2 λj y Z hy q=>U1 q λl h1 q=>U1 q λl' h1' q=>oi q λhl q=>oe2 q ?_
 refine S.fa.atList hx h1 λvs n rl h2=>S.fa.atList hy h1' λvs' n' rl' h2'=>?_
 exact extend_in (own:=[]) (rest:=N.filter λp=>decide (p.1≠x)) S.F (MH S.nw h2) (λp hp=>nomatch hp) (λp hp=>of_decide_eq_true (JZ.mp hp).2) (S.nw _ h2').1
  (λh' n'' F' X'=>⟨W,m,_,.refl W,S.turn (t:=s.toks) F' X' hx (.list (rl.append rl')) S.pos,.none⟩) (by rw[Q0,← rl.length,← rl'.length];exact adL 0 hl rfl)
theorem make_wp {A:Around}{E:Value->Shared->Prop}{C fI:Addr}{r:FnRec}(H:FnAt c fI r){M:MdS}(hM:SBall c d r fI M)(hm:makesIn c.K C=true)(hi:findIn c.K (.ref C) "__init__"=some (some (.ref fI)))(hf:isFn c.K (.ref fI)=true)
  (ok:f.Ok c A (d+1)) (S:St c f W σ en s m N) {l:List AV} {vs:List Value} {σ' : Store} (rl:RelL c.lam W l vs)
  (q:fnF r M (.ref (σ.length+1)::l) (σ++[.dict [],.inst C σ.length])=some (.none,σ')) :
  wpAny (model c.prog c.w) A (call (.ref C) vs) (PostE c f W en (.ref (σ.length+1)) σ') E s:=by
 refine call_cls S.F ok.X S.nw hm hi hf λx dx h' F' X' l1 l2=>?_
 have S1:St c f (W.made dx) (σ++[.dict []]) en { s with heap:=h',toks:=s.toks } m ((dx,dictOf [] 0)::N):=
  S.made F' (λp hp=>X' p (.tail _ hp)) l1 (.dict .nil) S.pos
 have S2:St c f ((W.made dx).made x) ((σ++[.dict []])++[.inst C σ.length]) en { ({ s with heap:=h',toks:=s.toks }:Shared) with heap:=h',toks:=s.toks } m ((x,instObj C dx)::(dx,dictOf [] 0)::N):=by
  refine S1.made F' X' (λp hp=>?_) (.inst ?_) S.pos
  · rcases mcM hp with rfl|hp
    · exact l2
    · exact G9 (l1 p hp) l2
  · refine(Wd.le_made _ _).1 _ _ ?_
    rw[← S.fa.len];exact W.made_at dx
 have e1:(σ++[.dict []])++[.inst C σ.length]=σ++[.dict [],.inst C σ.length]:=by simp
 rw[e1] at S2
 have rx:Rel c.lam ((W.made dx).made x) (.ref (σ.length+1)) (.ref x):=.ref (by
  have:=(W.made dx).made_at x;have e:(W.made dx).ρ.length=σ.length+1:=by show (W.ρ++[dx]).length=_;rw[QV,S.fa.len];rfl
  rw[e] at this;exact this)
 have w2:=(W.le_made dx).trans ((W.made dx).le_made x)
 have okA:f.At c (A.under (.builtin "type.__call__" ⟨.ref C::vs,[]⟩)) d:={
  B:=ok.B,X:=ok.X,T:=ok.T,codes:=ok.codes,frf:=ok.frf,frk:=ok.frk
  frames:=ok.frames
  handled:=ok.handled
  depth:=by rw[depth_under_make];have:=ok.depth;exact ar29 this
  units:=by rw[units_under_make];have:=ok.units;exact ar30 this }
 refine code_fn H hM okA S2 (.cons rx (rl.mono w2)) q λv s' p=>?_
 obtain⟨W',m',N',w',S',r'⟩:=p
 cases r'
 exact⟨rfl,W',m',N',w2.trans w',S',rx.mono w'⟩
theorem fn_wp {A:Around}{E:Value->Shared->Prop}{fa:Addr}{r:FnRec}(H:FnAt c fa r){M:MdS}(hM:SBall c d r fa M)(ok:f.Ok c A (d+1))(S:St c f W σ en s m N){l:List AV}{vs:List Value}{a:AV}{σ' : Store}(rl:RelL c.lam W l vs)
  (q:fnF r M l σ=some (a,σ')):wpAny (model c.prog c.w) A (call (.ref fa) vs) (PostE c f W en a σ') E s:=by
 have okA:f.At c A d:={
  B:=ok.B,X:=ok.X,T:=ok.T,codes:=ok.codes,frf:=ok.frf,frk:=ok.frk,frames:=ok.frames,handled:=ok.handled
  depth:=by have:=ok.depth;exact ar25 this
  units:=by have:=ok.units;exact ar26 this }
 exact Uq (code_fn H hM okA S rl q λv s' p=>p)
end
end
section
noncomputable def mulOk (a b:Int):Bool := !(decide (Builtin.Int.intBits a>shortFactorBits)&&decide (Builtin.Int.intBits b>shortFactorBits)&&Builtin.Int.intTooBig (Builtin.Int.intBits a+Builtin.Int.intBits b))
noncomputable def divOk (a b:Int):Bool:=decide (b≠0)&&!Builtin.divisionGoesByPylong a b
noncomputable def powOk (a b:Int):Bool:=decide (0≤b)&&decide ((Builtin.Int.intBits a:Int) * b≤2 ^ 27)
def addF (a b:AV)(σ:Store):Option (AV×Store):=match a with
 | .int x=>onInt b λy=>some (.int (x+y),σ)
 | .str x=>onStr b λy=>if x.length+y.length≤1000000 then some (.str (x++y),σ) else none
 | .ref i=>onRef b λj=>onList σ[i]? λl=>onList σ[j]? λl'=>if l.length+l'.length≤1000000 then some (.ref σ.length,σ++[.list (l++l')]) else none
 |_=>none
def binF (op:Operator)(a b:AV)(σ:Store):Option (AV×Store):=match op with
 | .Add=>addF a b σ
 | .Sub=>onInt a λa=>onInt b λb=>some (.int (a - b),σ)
 | .Mult=>onInt a λa=>onInt b λb=>if mulOk a b then some (.int (a * b),σ) else none
 | .Mod=>onInt a λa=>onInt b λb=>if b≠0 then some (.int (a.fmod b),σ) else none
 | .FloorDiv=>onInt a λa=>onInt b λb=>if divOk a b then some (.int (a.fdiv b),σ) else none
 | .Pow=>onInt a λa=>onInt b λb=>if powOk a b then some (.int (a ^ b.toNat),σ) else none
 |_=>none
section
variable {c:Cx}{d:Nat}
theorem Rx (x y:Str)(h:(x.length==0)=true):x++y=y:=by
 have:x=PySem.Str.empty:=by
  cases x with
  |mk a=>
   have h:(a.size==0)=true:=h;have:a = #[]:=Array.eq_empty_of_size_eq_zero (by simpa using h)
   subst this;rfl
 subst this
 exact PySem.Str.empty_append y
theorem Rz (x y:Str)(h:(y.length==0)=true):x++y=x:=by
 cases y with
 |mk a=>
  have h:(a.size==0)=true:=h;have:a = #[]:=Array.eq_empty_of_size_eq_zero (by simpa using h)
  subst this
  cases x with
  |mk b=>show PySem.Str.mk (b ++ #[])=_;rw[Array.append_empty]
theorem add_ok:O2 c d (binaryOp .Add) addF:=by
 intro f A W s σ en a b r v w σ' m N E ok S ra rb q
 cases a with
 |int x=>exact rInt ra λt=>VJ q rb λy u Z q=>oe2 q (P.add_int (S.postT (.int _ _) (Qq _)))
 |str x=>
  refine rStr ra λt=>HW q rb λy u Z q=>oi q λh q=>oe2 q (P.add_str ?_)
  split
  · rename_i h1
    rw[Rx x y h1];exact S.post (.str y u)
  · split
    · rename_i h1
      rw[Rz x y h1];exact S.post (.str x t)
    · refine⟨?_,S.postT (.str _ _) (Qq _)⟩
      rw[PySem.Str.length_append];exact adL 0 h rfl
 |ref i=>
  refine rRef ra λx hx=>GV q rb λj y Z hy q=>U1 q λl h1 q=>U1 q λl' h2 q=>oi q λhl q=>oe2 q ?_
  refine S.fa.atList hx h1 λvs n rl e1=>S.fa.atList hy h2 λvs' n' rl' e1'=>?_
  refine add_lists S.F S.nw (J9 S e1) (J9 S e1') (λh' F' X'=>?_) (by rw[← rl.length,← rl'.length];exact adL 0 hl rfl);exact⟨_,_,_,W.le_made _,S.made (t:=s.toks) F' X' S.lt (.list ((rl.append rl').mono (W.le_made _))) S.pos,.ref (by rw[← S.fa.len];exact W.made_at _)⟩
 |_=>exact nos q
theorem bin_ok (op:Operator):O2 c d (binaryOp op) (binF op):=by
 intro f A W s σ en a b r v w σ' m N E ok S ra rb q
 cases op with
 |Add=>exact add_ok f A W s σ en a b r v w σ' m N E ok S ra rb q
 |Sub=>exact VJ q ra λx t Z q=>VJ q rb λy u Z q=>oe2 q (P.sub_int (S.postT (.int _ _) (Qq _)))
 |Mult=>
  refine VJ q ra λx t Z q=>VJ q rb λy u Z q=>oi q λh q=>oe2 q (P.mul_int (S.postT (.int _ _) (Qq _)) ?_)
  unfold IntMulOk;unfold mulOk at h
  rw[Bool.not_eq_true'] at h;rw[h];exact U5
 |Mod=>exact VJ q ra λx t Z q=>VJ q rb λy u Z q=>oi q λh q=>oe2 q (mod_int' h (S.postT (.int _ _) (Qq _)))
 |FloorDiv=>exact VJ q ra λx t Z q=>VJ q rb λy u Z q=>oi q λh q=>oe2 q (floordiv_int (of_decide_eq_true (and2 h).1) (S.postT (.int _ _) (Qq _)) (.inl (by simpa using (and2 h).2)))
 |Pow=>exact VJ q ra λx t Z q=>VJ q rb λy u Z q=>oi q λh q=>oe2 q (pow_int (of_decide_eq_true (and2 h).1) (of_decide_eq_true (and2 h).2) (S.postT (.int _ _) (Qq _)))
 |_=>exact nos q
noncomputable def isNoneF:AV->Option Bool
 | .none=>some true
 | .glob _=>none
 |_=>some false
noncomputable def inStr (x y:Str):Bool := !(Builtin.Str.occurrences x y 0 x.length 1).isEmpty
def cmpF (op:CmpOp)(a b:AV)(σ:Store):Option (AV×Store):=match op with
 | .Lt=>onInt a λa=>onInt b λb=>some (.bool (decide (a<b)),σ)
 | .LtE=>onInt a λa=>onInt b λb=>some (.bool (decide (a≤b)),σ)
 | .Gt=>onInt a λa=>onInt b λb=>some (.bool (decide (a>b)),σ)
 | .GtE=>onInt a λa=>onInt b λb=>some (.bool (decide (a≥b)),σ)
 | .Is=>if isNoneF b=some true then on1 (isNoneF a) λb=>some (.bool b,σ) else none
 | .IsNot=>if isNoneF b=some true then on1 (isNoneF a) λb=>some (.bool (!b),σ) else none
 | .In=>onStr a λy=>onStr b λx=>some (.bool (inStr x y),σ)
 | .NotIn=>onStr a λy=>onStr b λx=>some (.bool (!inStr x y),σ)
 |_=>none
theorem isNone_is {lam:Nat->Option LamRec}{W:Wd}{a:AV}{v:Value}{b:Bool}(r:Rel lam W a v)(h:isNoneF a=some b):(v==.none)=b:=by
 cases r<;>first|exact oe (G:=λb=>_=b) h rfl|exact nos h
theorem isNone_v {lam:Nat->Option LamRec}{W:Wd}{a:AV}{v:Value}(r:Rel lam W a v)(h:isNoneF a=some true):v = .none:=by
 cases a<;>first|exact r.inv|exact nos h|exact nof (soI h)
theorem cmp_ok (op:CmpOp):O2 c d (compareOp op) (cmpF op):=by
 intro f A W s σ en a b r v w σ' m N E ok S ra rb q
 cases op with
 |Lt=>exact VJ q ra λx t Z q=>VJ q rb λy u Z q=>oe2 q (P.lt_int (S.post (.bool _)))
 |LtE=>exact VJ q ra λx t Z q=>VJ q rb λy u Z q=>oe2 q (P.le_int (S.post (.bool _)))
 |Gt=>exact VJ q ra λx t Z q=>VJ q rb λy u Z q=>oe2 q (P.gt_int (S.post (.bool _)))
 |GtE=>exact VJ q ra λx t Z q=>VJ q rb λy u Z q=>oe2 q (P.ge_int (S.post (.bool _)))
 |Is=>
  refine oi q λh0 q=>om1 q λb h q=>oe2 q ?_
  rw[isNone_v rb h0];refine is_none ?_
  rw[isNone_is ra h];exact S.post (.bool _)
 |IsNot=>
  refine oi q λh0 q=>om1 q λb h q=>oe2 q ?_
  rw[isNone_v rb h0];refine isNot_none ?_
  rw[isNone_is ra h];exact S.post (.bool _)
 |In=>exact HW q ra λy t Z q=>HW q rb λx u Z q=>oe2 q (P.in_str (S.post (.bool _)))
 |NotIn=>exact HW q ra λy t Z q=>HW q rb λx u Z q=>oe2 q (P.notIn_str (S.post (.bool _)))
 |_=>exact nos q
def negF (a:AV)(σ:Store):Option (AV×Store):=onInt a λa=>some (.int (-a),σ)
theorem neg_ok:O1 c d (unaryOp .USub) negF:=by
 intro f A W s σ en a r v σ' m N E ok S ra q
 exact VJ q ra λa t Z q=>oe2 q (P.neg_int (S.postT (.int _ _) (Qq _)))
noncomputable def truthF:AV->Store->Option Bool
 | .none,_=>some false
 | .bool b,_=>some b
 | .int a,_=>some (a != 0)
 |_,_=>none
theorem truth_ok:OT c d truthF:=by
 intro f A W s σ en a b v m N E ok S r q
 cases a with
 |none=>exact rNone r (truthy_none ⟨W,m,N,.refl W,S,soI q⟩)
 |bool=>exact rBool r (wpAny_truthy_bool ⟨W,m,N,.refl W,S,soI q⟩)
 |int=>exact rInt r λt=>P.truthy_int ⟨W,m,N,.refl W,S,soI q⟩
 |_=>exact nos q
end
end
section
open PySem.SeqAt
noncomputable def eqL (f:AV->AV->Option Bool):List AV->List AV->Option Bool
 | [],[]=>some true
 | [],_::_=>some false
 |_::_,[]=>some false
 |a::l,b::l'=>on1 (f a b) λx=>on1 (eqL f l l') λy=>some (x&&y)
def eqFlat (a b:AV):Option Bool:=match a with
 | .none=>onNT b (some true) (some false)
 | .bool a=>onBool b λb=>some (a==b)
 | .int a=>onInt b λb=>some (a==b)
 | .str a=>onStr b λb=>some (a==b)
 | .byt a=>onByt b λb=>some (a.toList==b.toList)
 | .tup _=>onNT b (some false) none
 |_=>none
noncomputable def eqN:Nat->AV->AV->Option Bool
 |0,a,b=>eqFlat a b
 |n+1,a,b=>onTT a b (eqL (eqN n)) (eqFlat a b)
section
variable {A:Around}{s:Shared}
theorem EqAt.byt (a:Array UInt8)(t:Tok)(b:Array UInt8)(u:Tok):EqAt A s (.bytes a t) (.bytes b u) (a.toList==b.toList):=λprog w E Q h=>by
 refine J8 ?_
 refine wpAny_ite_split (λhab=>?_) (λZ=>?_)
 · have e:a=b:=by have:=eq_of_beq hab;injection this
   subst e;exact QZ (wpAny_rule (Qk (by simpa using h)))
 · exact QZ (show wpAny _ A (compareOp .Eq (.bytes a t) (.bytes b u)) _ _ _ from eq_bytes (wpAny_truthy_bool h))
theorem EqAt.none_none:EqAt A s .none .none true:=EqAt.same _
end
noncomputable def placeE (f:AV->AV->Option Bool) (l l' : List AV) (j:Nat):Bool:=match l[j]?,l'[j]? with
 |some a,some b=>(f a b).getD false
 |_,_=>false
theorem qW (f:AV->AV->Option Bool):∀ (l l' : List AV) (b:Bool),eqL f l l'=some b->b=((Nx (min l.length l'.length)).all (placeE f l l')&&l.length==l'.length)∧(∀ (j:Nat) (x y:AV),l[j]? = some x->l'[j]? = some y->(f x y).isSome=true)
 | [],[],b,h=>by cases h;exact⟨rfl,λj x y e=>by simp at e⟩
 | [],_::_,b,h=>by cases h;exact⟨by simp,λj x y e=>by simp at e⟩
 |_::_,[],b,h=>by cases h;exact⟨by simp,λj x y Z e=>by simp at e⟩
 |a::l,a'::l',b,h=>om1 h λx h1 h=>om1 h λy h2 h=>oe h (by
   obtain⟨e,k⟩:=qW f l l' y h2;refine⟨?_,λj u v e1 e2=>?_⟩
   · have hp:(Nx (min (a::l).length (a'::l').length)).all (placeE f (a::l) (a'::l'))=(x&&(Nx (min l.length l'.length)).all (placeE f l l')):=by
      rw[Qw,Qw,Nat.succ_min_succ,List.range_succ_eq_map,JX,List.all_map];have:placeE f (a::l) (a'::l') 0=x:=by
       show (f a a').getD false=x;rw[h1];rfl
      rw[this];rfl
     rw[hp,e];simp only[Qw,Bool.and_assoc]
     congr 2
     simp
   · cases j with
     |zero=>
      have e1:some a=some u:=e1;have e2:some a'=some v:=e2
      rw[← soI e1,← soI e2,h1];rfl
     |succ j=>exact k j u v e1 e2)
section
variable {c:Cx}{d:Nat}{f:Fm}{W:Wd}{σ:Store}{en:En}{s:Shared}{m:Str->Option Value}{N:NwT}
theorem K1 {a b:AV}{v:Value}{r:Bool}(ra:Rel c.lam W a v)(rb:Rel c.lam W b v)(q:eqFlat a b=some r):r=true:=by
 have ia:=ra.inv
 have ib:=rb.inv
 cases a with
 |none=>exact oNT q (λZ q=>(soI q).symm) λl e Z=>by subst e;obtain⟨_,_,_,e,_⟩:=ib;cases ia.symm.trans e
 |bool x=>exact oBool q λy e q=>by subst e;exact(soI q).symm.trans (beq_iff_eq.mpr (Value.bool.inj (ia.symm.trans ib)))
 |int x=>exact oInt q λy e q=>by subst e;obtain⟨t,ia⟩:=ia;obtain⟨u,ib⟩:=ib;exact(soI q).symm.trans (beq_iff_eq.mpr (Value.int.inj (ia.symm.trans ib)).1)
 |str x=>exact oStr q λy e q=>by subst e;obtain⟨t,ia⟩:=ia;obtain⟨u,ib⟩:=ib;exact(soI q).symm.trans (beq_iff_eq.mpr (Value.str.inj (ia.symm.trans ib)).1)
 |byt x=>exact oByt q λy e q=>by subst e;obtain⟨t,ia⟩:=ia;obtain⟨u,ib⟩:=ib;exact(soI q).symm.trans (beq_iff_eq.mpr (congrArg Array.toList (Value.bytes.inj (ia.symm.trans ib)).1))
 |tup l=>exact oNT q (λe Z=>by subst e;obtain⟨_,_,_,e,_⟩:=ia;cases e.symm.trans ib) λl e q=>nos q
 |_=>exact nos q
structure Eq3 (A:Around)(s:Shared)(v w:Value)(r:Bool):Prop where
 e:EqAt A s v w r
 c:RcAt A s v w r
 n:RcNeAt A s v w (!r)
theorem eqFlat_ok (S:St c f W σ en s m N){A:Around}{a b:AV}{v w:Value}{r:Bool}(hu:A.units<cLine)(ra:Rel c.lam W a v)(rb:Rel c.lam W b w)(q:eqFlat a b=some r):Eq3 A s v w r:=by
 cases a with
 |none=>
  refine rNone ra (oNT q (λe q=>oe q ?_) λl e q=>oe q ?_)<;>subst e
  · exact rNone rb ⟨EqAt.none_none,.none_none,.none_none⟩
  · exact rTup rb λvs x n hm rl=>have t:=Vq S.nw (S.fa.tl _ hm); ⟨.none_tuple t hu,.none_tuple t hu,.none_tuple t hu⟩
 |bool x=>exact rBool ra (oBool q λy e q=>oe q (by subst e;exact rBool rb ⟨EqAt.bool_bool _ _,.bool_bool _ _,.bool_bool _ _⟩))
 |int x=>exact rInt ra λt=>VJ q rb λy u Z q=>oe q ⟨EqAt.int_int _ _ _ _,.int_int _ _ _ _,.int_int _ _ _ _⟩
 |str x=>exact rStr ra λt=>HW q rb λy u Z q=>oe q ⟨EqAt.str_str _ _ _ _,.str_str _ _ _ _,.str_str _ _ _ _⟩
 |byt x=>
  exact rByt ra λt=>oByt q λy e q=>oe q (by
   subst e;exact rByt rb λu=>⟨EqAt.byt _ _ _ _,λprog w E Q h=>show wpAny _ A (compareOp .Eq _ _) _ _ _ from eq_bytes h,λprog w E Q h=>show wpAny _ A (compareOp .NotEq _ _) _ _ _ from ne_bytes h⟩)
 |tup l=>
  exact rTup ra λvs x n hm rl=>oNT q (λe q=>oe q (by
   subst e;have t:=Vq S.nw (S.fa.tl _ hm)
   exact rNone rb ⟨.tuple_none t hu,.tuple_none t hu,.tuple_none t hu⟩)) λl e q=>nos q
 |_=>exact nos q
theorem eqL_same {n:Nat}(ih:∀ (a b:AV) (v:Value) (r:Bool),Rel c.lam W a v->Rel c.lam W b v->eqN n a b=some r->r=true) :
  ∀ (l l' : List AV) (vs:List Value) (r:Bool),RelL c.lam W l vs->RelL c.lam W l' vs->eqL (eqN n) l l'=some r->r=true
 | [],[],_,_,_,_,q=>(soI q).symm
 | [],_::_,_,_,h,h',_=>by cases h;cases h'
 |_::_,[],_,_,h,h',_=>by cases h;cases h'
 |a::l,b::l',_,_,h,h',q=>om1 q λx h1 q=>om1 q λy h2 q=>oe q (by
   cases h with
   |cons ra rl=>
    cases h' with
    |cons rb rl'=>rw[ih _ _ _ x ra rb h1,eqL_same ih l l' _ y rl rl' h2];rfl)
theorem eqN_same (S:St c f W σ en s m N):∀ (n:Nat) (a b:AV) (v:Value) (r:Bool),Rel c.lam W a v->Rel c.lam W b v->eqN n a b=some r->r=true
 |0,_,_,_,_,ra,rb,q=>K1 ra rb q
 |n+1,a,b,v,r,ra,rb,q=>oTT q (λl l' e1 e2 q=>by
   subst e1;subst e2
   refine xe33 ra.inv λvs x k e hm rl=>?_
   refine xe33 rb.inv λvs' x' k' e' hm' rl'=>?_
   cases e.symm.trans e'
   have e3:=congrArg Obj.data (soI ((S.nw _ (S.fa.tl _ hm)).1.symm.trans (S.nw _ (S.fa.tl _ hm')).1));have e4:=congrArg Array.toList (Data.seq.inj e3).1
   have e4:vs=vs' := e4;subst e4
   exact eqL_same (eqN_same S n) l l' vs r rl rl' q) λq=>K1 ra rb q
theorem place_ok {A:Around}{n:Nat}{l l' : List AV}{vs vs' : List Value}(rl:RelL c.lam W l vs)(rl' : RelL c.lam W l' vs')(k:∀ (j:Nat) (x y:AV),l[j]? = some x->l'[j]? = some y->(eqN n x y).isSome=true)
  (ih:∀ (a b:AV) (v w:Value) (r:Bool),Rel c.lam W a v->Rel c.lam W b w->eqN n a b=some r->Eq3 A s v w r) (j:Nat) (h1:j<vs.toArray.size) (h2:j<vs'.toArray.size):EqAt A s vs.toArray[j] vs'.toArray[j] (placeE (eqN n) l l' j):=by
 have g1:=JN (l:=l) (Nz h1 rl.length.symm)
 have g2:=JN (l:=l') (Nz h2 rl'.length.symm)
 refine xe12 (rl.get g1) λv1 a1 a2=>?_
 refine xe12 (rl'.get g2) λv2 b1 b2=>?_
 obtain⟨z,hz⟩:=MQ.mp (k j _ _ g1 g2)
 have hp:placeE (eqN n) l l' j=z:=by unfold placeE;rw[g1,g2];show (eqN n _ _).getD false=z;rw[hz];rfl
 have e1:vs.toArray[j]=v1:=soI ((JN (l:=vs) h1).symm.trans a1)
 have e2:vs'.toArray[j]=v2:=soI ((JN (l:=vs') h2).symm.trans b1)
 rw[hp,e1,e2]
 exact(ih _ _ _ _ z a2 b2 hz).e
theorem eqN_ok (S:St c f W σ en s m N):∀ (n:Nat) (A:Around) (a b:AV) (v w:Value) (r:Bool),A.units+n<cLine->Rel c.lam W a v->Rel c.lam W b w->eqN n a b=some r->Eq3 A s v w r
 |0,_,_,_,_,_,_,hu,ra,rb,q=>eqFlat_ok S hu ra rb q
 |n+1,A,a,b,v,w,r,hu,ra,rb,q=>by
  have hu0:A.units<cLine:=Q1 (QG _ _) hu;refine oTT q (λl l' e1 e2 q'=>?_) λq=>eqFlat_ok S hu0 ra rb q
  subst e1;subst e2
  obtain⟨e,k⟩:=qW _ l l' r q';refine rTup (G:=λv=>(v=w->r=true)->Eq3 A s v w r) ra (λvs x nx hm rl=>rTup (G:=λw=>(.ref x=w->r=true)->Eq3 A s (.ref x) w r) rb λvs' y ny hm' rl' same=>?_) λe=>eqN_same S (n+1) _ _ v r ra (e▸rb) q
  have t1:=Vq S.nw (S.fa.tl _ hm);have t2:=Vq S.nw (S.fa.tl _ hm')
  have he:=place_ok (A:=A.in1) (s:=s) rl rl' k λa b v w r ra rb q=>eqN_ok S n A.in1 a b v w r (by show A.units+1+n<_;exact ar2 hu) ra rb q
  have R:=RcAt.tuples t1 t2 hu0 he;have R' := RcNeAt.tuples t1 t2 hu0 he
  rw[Q0,Q0,← rl.length,← rl'.length,← e] at R R';refine⟨?_,R,R'⟩
  by_cases hxy:x=y
  · subst hxy
    rw[same rfl];exact EqAt.same _
  · exact EqAt.of_refs hxy R
def eqAV (a b:AV)(σ:Store):Option Bool:=
 onRR a b (λi j=>onList σ[i]? λl=>onList σ[j]? λl'=>if i≠j∧(l.length=0∨l'.length=0) then some (l.length==l'.length) else none) (eqN 20 a b)
def eqF2 (neg:Bool)(a b:AV)(σ:Store):Option (AV×Store):=on1 (eqAV a b σ) λr=>some (.bool (neg ^^ r),σ)
theorem lists_empty (S:St c f W σ en s m N){A:Around}{i j:Nat}{l l' : List AV}{v w:Value}(hu:A.units<cLine)(rv:Rel c.lam W (.ref i) v)(rw:Rel c.lam W (.ref j) w)(h1:σ[i]? = some (.list l))(h2:σ[j]? = some (.list l'))(h:l.length=0∨l'.length=0) :
  RcAt A s v w (l.length==l'.length)∧RcNeAt A s v w (!(l.length==l'.length)):=by
 refine rRef rv λx hx=>rRef rw λy hy=>S.fa.atList hx h1 λvs n rl e1=>S.fa.atList hy h2 λvs' n' rl' e1'=>?_
 have L1:=J9 S e1
 have L2:=J9 S e1'
 have k1:=rl.length
 have k2:=rl'.length
 by_cases hl:l.length=l'.length
 · have z1:vs.length=0:=by rw[← k1];exact h.elim id λh=>hl.trans h
   have z2:vs'.length=0:=by rw[← k2,← hl,k1];exact z1
   obtain rfl:=List.eq_nil_of_length_eq_zero z1;obtain rfl:=List.eq_nil_of_length_eq_zero z2
   have e:(l.length==l'.length)=((Nx (#[]:Array Value).size).all λZ=>true):=beq_iff_eq.mpr hl;rw[e]
   exact⟨.lists L1 L2 rfl hu (λj h1=>nomatch h1),.lists L1 L2 rfl hu (λj h1=>nomatch h1)⟩
 · rw[beq_eq_false_iff_ne.mpr hl]
   have ne:vs.toArray.size≠vs'.toArray.size:=λz=>hl (k1.trans (z.trans k2.symm))
   exact⟨.lists_lengths L1 L2 (bne_iff_ne.mpr ne) hu,.lists_lengths L1 L2 (bne_iff_ne.mpr ne) hu⟩
theorem eqAV_ok (S:St c f W σ en s m N){A:Around}{a b:AV}{v w:Value}{r:Bool}(hu:A.units+20<cLine)(ra:Rel c.lam W a v)(rb:Rel c.lam W b w)(q:eqAV a b σ=some r):RcAt A s v w r∧RcNeAt A s v w (!r):=by
 refine oRR q (λi j e1 e2 q=>U1 q λl h1 q=>U1 q λl' h2 q=>oi q λh q=>oe q ?_) λq=>let x:=eqN_ok S 20 A _ _ v w r hu ra rb q; ⟨x.c,x.n⟩
 subst e1;subst e2
 exact lists_empty S (Q1 (QG _ _) hu) ra rb h1 h2 h.2
theorem eq_ok:O2 c d (compareOp .Eq) (eqF2 false):=by
 intro f A W s σ en a b r v w σ' m N E ok S ra rb q
 refine om1 q λr' h q=>oe2 q ((eqAV_ok S (by have:=ok.units;exact ar32 this) ra rb h).1 c.prog c.w E _ ?_)
 rw[RG]
 exact S.post (.bool _)
theorem ne_ok:O2 c d (compareOp .NotEq) (eqF2 true):=by
 intro f A W s σ en a b r v w σ' m N E ok S ra rb q
 refine om1 q λr' h q=>oe2 q ((eqAV_ok S (by have:=ok.units;exact ar32 this) ra rb h).2 c.prog c.w E _ ?_)
 rw[K3]
 exact S.post (.bool _)
end
end
section
open PySem.SeqAt
noncomputable def idxOk (k:Int):Bool:=decide (-(2 ^ 63)≤k)&&decide (k<2 ^ 63)
noncomputable def plainIndex:PySem.Expr->Bool
 | .Slice .. => false
 |_=>true
theorem NM {slice:PySem.Expr}{o i:Value}(h:plainIndex slice=true):subscripted slice false o i=operate [o,i] (getItem o i):=by
 cases slice<;>first|rfl|exact nos h|exact nof h|cases h
def GDicts (c:Cx)(gd:List Addr):Prop := ∀ a∈gd,(a==sysModules)=false∧∃ es n,c.K.lookup a=some ⟨.type "dict",none,.dict es n,#[]⟩∧KeysLit c.w.params es.toList
def subF (D:Addr->Str->Option AV)(a b:AV)(σ:Store):Option AV:=match a with
 | .tup l=>onInt b λk=>if idxOk k then on1 (seqIndex? k l.length) λj=>l[j]? else none
 | .str x=>onInt b λk=>if idxOk k then on1 ((seqIndex? k x.length).bind (x.cps[·]?)) λc=>some (.str ⟨#[c]⟩) else none
 | .ref i=>match b with
  | .int k=>onList σ[i]? λl=>if idxOk k then (if 0≤k then l[k.toNat]? else if -(l.length:Int)≤k then l[(k+l.length).toNat]? else none) else none
  | .str x=>onDict σ[i]? λes=>findS x es
  |_=>none
 | .glob (.ref a)=>onStr b λx=>D a x
 |_=>none
def DictsAre (c:Cx)(D:Addr->Str->Option AV):Prop := ∀ a x v,D a x=some v->∃ w es n,globAV w=v∧nsIn c.K a x=some (some w)∧c.K.lookup a=some ⟨.type "dict",none,.dict es n,#[]⟩∧KeysLit c.w.params es.toList
section
variable {c:Cx}{d:Nat}{f:Fm}{W:Wd}{σ:Store}{en:En}{s:Shared}{m:Str->Option Value}{N:NwT}
theorem RelD.keys {es:List (Str×AV)}{ds:List DictEntry}(r:RelD c.lam c.w.params W es ds):KeysLit c.w.params ds:=by
 induction r with
 |nil=>exact True.intro
 |cons _ _ q=>exact⟨⟨_,_,rfl,rfl⟩,q⟩
theorem getL_find {name:Str}{ds:List DictEntry}{v:Value}(h:getL name ds=some (some v)):findBy Value.isStrOf ds.toArray name=some v:=by
 unfold getL at h
 have q:(λd:DictEntry=>Value.isStrOf name d.key)=λd=>d.key.isStr name:=funext λd=>(isStr_of name d.key).symm
 unfold findBy
 rw[List.find?_toArray,q]
 split at h
 · rename_i e h'
   rw[h'];exact soI h
 · split at h<;>cases h
theorem map_at {P:Program}{es:List (Str×AV)}{ds:List DictEntry}{x:Addr}{n:Nat}(S:St c f W σ en s m N)(r:RelD c.lam c.w.params W es ds)(h:(x,dictOf ds n)∈N) :
  s.heap.MapOf (strKind P c.w) x (λk=>findBy Value.isStrOf ds.toArray k):=
 ⟨_,ds.toArray,n,(S.nw _ h).1,⟨rfl,rfl,rfl⟩,rfl,λe he=>by
  refine xe22 ((r.keys).all e (by simpa using he)) λy t e1 e2=>?_
  exact⟨y,by rw[e1];exact strKind_is P c.w y t,e2⟩,λZ=>rfl⟩
theorem qQ {k:Int}(h:idxOk k=true) : -(2 ^ 63)≤k∧k<2 ^ 63:=⟨of_decide_eq_true (and2 h).1,of_decide_eq_true (and2 h).2⟩
theorem sub_wp {D:Addr->Str->Option AV}(G:DictsAre c D){A:Around}{E:Value->Shared->Prop}(ok:f.Ok c A d)(S:St c f W σ en s m N){a b r:AV}{v w:Value}{value slice:PySem.Expr}(hp:plainIndex slice=true)
  (ra:Rel c.lam W a v) (rb:Rel c.lam W b w) (q:subF D a b σ=some r):wpAny (model c.prog c.w) A (subscriptTail value slice v w) (PostE c f W en r σ) E s:=by
 cases a with
 |tup l=>
  refine rTup ra λvs x n hm rl=>VJ q rb λk t Z q=>oi q λhk q=>om1 q λj hj q=>?_
  refine xe12 (rl.get q) λv h1 h2=>?_
  exact item_tupleT (Vq S.nw (S.fa.tl _ hm)) (qQ hk).1 (qQ hk).2 (by rw[← rl.length];exact hj) h1 (S.post h2) (NM hp)
 |str x=>
  refine rStr ra λu=>VJ q rb λk t Z q=>oi q λhk q=>om1 q λc' hc q=>oe q ?_
  have hk:=qQ hk;refine tail_any (typeIs_str _ _ _) slot_str_getitem.lookup (PyProof.Rows.getItem_str ?_ hc (S.postT (.str _ _) (Qq _))) (NM hp)
  rw[Bool.or_eq_false_iff];exact⟨decide_eq_false (by omega),decide_eq_false (by omega)⟩
 |ref i=>
  refine rRef ra λx hx=>?_
  cases b with
  |int k=>
   refine rInt rb λt=>U1 q λl h1 q=>oi q λhk q=>S.fa.atList hx h1 λvs n rl h2=>?_
   have hL:=J9 S h2
   split at q
   · rename_i h0
     refine xe12 (rl.get q) λv g1 g2=>?_
     exact tail_any hL.typeIs slot_list_getitem.lookup (wpAny_getItem_list hL h0 (qQ hk).2 (by simpa using g1) (S.post g2)) (NM hp)
   · rename_i h0
     refine oi q λh3 q=>?_
     refine xe12 (rl.get q) λv g1 g2=>?_
     refine tail_any hL.typeIs slot_list_getitem.lookup (wpAny_getItem_list_neg hL (by omega) (by rw[Q0,← rl.length];exact h3) (qQ hk).1 ?_ (S.post g2)) (NM hp);rw[Q0,← rl.length]
     simpa using g1
  |str y=>
   refine rStr rb λt=>oDict q λes h1 q=>S.fa.atDict hx h1 λds n rd h2=>?_
   have z:=rd.find (name:=y);rw[q] at z
   refine xe12 z λv hv rv=>?_
   have hm:=map_at (P:=c.prog) S rd h2;exact tail_any hm.typeIs slot_dict_getitem.lookup (wpAny_getItem_of (strKind_is c.prog c.w y _) hm (getL_find hv) (S.postT rv (Qq _))) (NM hp)
  |_=>exact nos q
 |glob g=>
  cases g with
  |ref a=>
   refine Gw ra (HW q rb λx t Z q=>?_);refine xe34 (G a x r q) λw es n e h1 g1 g2=>?_
   subst e;exact topItem_K S.F ok.X g1 g2 h1 (S.postT (Wx w) (Qq _)) (NM hp)
  |_=>exact nos q
 |_=>exact nos q
def subM (D:Addr->Str->Option AV)(M M' : Md):Md:=two M M' λa b σ=>on1 (subF D a b σ) λr=>some (r,σ)
theorem se_sub {D:Addr->Str->Option AV}(G:DictsAre c D){l r:PySem.Expr}{pos:Pos}{M M' : Md}(hl:SE c d f l M)(hr:SE c d f r M')(hp:plainIndex r=true):SE c d f (.Subscript l r pos) (subM D M M'):=by
 intro A W s σ en a σ' m N E ok S q
 refine om q λx σ₁ q1 q=>om q λy σ₂ q2 q=>om1 q λz hz q=>oe2 q ?_
 refine Subscript_ (post (hl A W s σ en x σ₁ m N E ok S q1) λv s₁ WA m₁ NA w₁ S₁ rA=>?_)
 refine post (hr A WA s₁ σ₁ en y _ m₁ NA E ok S₁ q2) λw sB WB mB NB wB S₂ rB=>?_
 exact Qz (sub_wp G ok S₂ hp (rA.mono wB) rB hz) (λZ Z x=>x.up (w₁.trans wB)) λZ Z x=>x
noncomputable def strIs (x:Str):Value->Bool
 | .str y _=>y==x
 |_=>false
noncomputable def isStrV:Value->Bool
 | .str _ _=>true
 |_=>false
noncomputable def strIsA (x:Str):AV->Bool
 | .str y=>y==x
 |_=>false
noncomputable def isStrA:AV->Bool
 | .str _=>true
 |_=>false
def isTupC:Value->Bool
 | .type n=>n == "tuple"
 |_=>false
theorem isTupC_is {v:Value}(h:isTupC v=true):v = .type "tuple" := by
 cases v with
 |type n=>exact congrArg Value.type (eq_of_beq h)
 |_=>exact nof h
def seqOfD:PySem.Data->Option (Array Value)
 | .seq vs _=>some vs
 |_=>none
theorem seqOfD_is {d:PySem.Data}{vs:Array Value}(h:seqOfD d=some vs):∃ n,d = .seq vs n:=by
 cases d with
 |seq vs n=>exact⟨n,congrArg (PySem.Data.seq · n) (soI h)⟩
 |_=>exact nos h
noncomputable def topTup (K:Frag) (a:Addr):Option (List Value):=on1 (K.lookup a) λo=>if isTupC o.cls then on1 (seqOfD o.data) λvs=>some vs.toList else none
def inF (T:Addr->Str->Option Bool)(a b:AV):Option Bool:=onStr a λx=>match b with
 | .str y=>some (inStr y x)
 | .tup l=>if l.all isStrA then some (l.any (strIsA x)) else none
 | .glob (.ref a)=>T a x
 |_=>none
def inF2 (T:Addr->Str->Option Bool)(neg:Bool)(a b:AV)(σ:Store):Option (AV×Store):=on1 (inF T a b) λr=>some (.bool (cond neg (!r) r),σ)
def InAre (c:Cx)(T:Addr->Str->Option Bool):Prop := ∀ a x r,T a x=some r ->
 (∃ es n o,(a==sysModules)=false∧c.K.lookup a=some ⟨.type "dict",none,.dict es n,#[]⟩∧KeysLit c.w.params es.toList∧nsIn c.K a x=some o∧o.isSome=r)∨∃ vs,topTup c.K a=some vs∧vs.all isStrV=true∧vs.any (strIs x)=r
theorem topTup_is {K:Frag}{h:Heap}(X:K.In h){a:Addr}{vs:List Value}(e:topTup K a=some vs):h.IsTuple a vs.toArray:=by
 refine om1 e λo ho e=>oi e λhc e=>om1 e λvs' hs e=>?_
 obtain⟨n,hd⟩:=seqOfD_is hs
 refine oe (G:=λvs=>h.IsTuple a vs.toArray) e ⟨o,X _ _ ho,isTupC_is hc,n,?_⟩
 rw[hd,Array.toArray_toList]
theorem PQ {x:Str}:∀ {l:List AV} {vs:List Value},RelL c.lam W l vs->l.all isStrA=true->l.any (strIsA x)=vs.any (strIs x)∧vs.all isStrV=true
 | [],_,h,_=>rNil h ⟨rfl,rfl⟩
 |a::l,_,h,q=>NK h λv vs r h=>by
  obtain⟨e1,e2⟩:=PQ h (and2 q).2;rw[GG,GG,JX,e1,e2]
  have q1:=(and2 q).1
  cases a with
  |str y=>exact rStr r λt=>⟨rfl,rfl⟩
  |_=>exact nof q1
theorem LQ {A:Around}{x:Str}{t:Tok}{vs:List Value}{s:Shared}(h:vs.all isStrV=true)(y:Value)(hy:y∈vs.toArray):EqAt A.in1 s y (.str x t) (strIs x y):=by
 have h1:=alT h y (by simpa using hy)
 cases y with
 |str y u=>exact EqAt.str_str _ _ _ _
 |_=>exact nof h1
theorem in_yes {T:Addr->Str->Option Bool}(G:InAre c T):O2 c d (compareOp .In) (inF2 T false):=by
 intro f A W s σ en a b r v w σ' m N E ok S ra rb q
 refine om1 q λr' h q=>oe2 q (HW h ra λx t Z h=>?_)
 show wpAny _ _ _ (PostE c f W en (.bool r') σ) _ _
 cases b with
 |str y=>exact rStr rb λu=>oe h (P.in_str (S.post (.bool _)))
 |tup l=>
  refine rTup rb λvs z n hm rl=>oi h λhl h=>oe h ?_
  obtain⟨e1,e2⟩:=PQ (x:=x) rl hl;rw[e1]
  exact in_tupleAt (strIs _) (Vq S.nw (S.fa.tl _ hm)) (LQ e2) (by simpa using S.post (.bool _))
 |glob g=>
  cases g with
  |ref a=>
   refine Gw rb ?_;rcases G a x r' h with ⟨es,n,o,lo,g1,g2,hr,e⟩|⟨vs,hv,hs,e⟩<;>subst e
   · exact topIn_K S.F ok.X g1 g2 hr lo (S.postT (.bool _) (Qq _))
   · exact in_tupleAt (strIs _) (topTup_is (ok.X.keeps S.F.keep) hv) (LQ hs) (by simpa using S.post (.bool _))
  |_=>exact nos h
 |_=>exact nos h
theorem in_no {T:Addr->Str->Option Bool}(G:InAre c T):O2 c d (compareOp .NotIn) (inF2 T true):=by
 intro f A W s σ en a b r v w σ' m N E ok S ra rb q
 refine om1 q λr' h q=>oe2 q (HW h ra λx t Z h=>?_)
 show wpAny _ _ _ (PostE c f W en (.bool (!r')) σ) _ _
 cases b with
 |str y=>exact rStr rb λu=>oe h (P.notIn_str (S.post (.bool _)))
 |tup l=>
  refine rTup rb λvs z n hm rl=>oi h λhl h=>oe h ?_
  obtain⟨e1,e2⟩:=PQ (x:=x) rl hl;rw[e1]
  exact notIn_tupleAt (strIs _) (Vq S.nw (S.fa.tl _ hm)) (LQ e2) (by simpa using S.post (.bool _))
 |glob g=>
  cases g with
  |ref a=>
   refine Gw rb ?_;rcases G a x r' h with ⟨es,n,o,lo,g1,g2,hr,e⟩|⟨vs,hv,hs,e⟩<;>subst e
   · refine wpAny_notIn_of (strKind_is c.prog c.w _ _) lo (mapOf_K (prog:=c.prog) (ok.X.keeps S.F.keep) g1 g2) ?_
     rw[find_K g1 hr];exact S.postT (.bool _) (Qq _)
   · exact notIn_tupleAt (strIs _) (topTup_is (ok.X.keeps S.F.keep) hv) (LQ hs) (by simpa using S.post (.bool _))
  |_=>exact nos h
 |_=>exact nos h
end
end
section
open PySem.SeqAt
noncomputable def strsOf:List AV->Option (List Str)
 | []=>some []
 |a::r=>onStr a λx=>on1 (strsOf r) λl=>some (x::l)
noncomputable def bytsOf:List AV->Option (List Int)
 | []=>some []
 |a::r=>onInt a λi=>on1 (bytsOf r) λl=>if 0≤i∧i<256 then some (i::l) else none
theorem WM {lam:Nat->Option LamRec}{W:Wd}:∀ {l:List AV} {vs:List Value} {xs:List Str},RelL lam W l vs->strsOf l=some xs->StrsAre vs xs
 | [],_,_,h,q=>rNil h (oe q .nil)
 |_::_,_,_,h,q=>NK h λv vs r h=>HW q r λx t Z q=>om1 q λl hl q=>oe q (.cons _ _ (WM h hl))
theorem Wk {lam:Nat->Option LamRec}{W:Wd}:∀ {l:List AV} {vs:List Value} {xs:List Int},RelL lam W l vs->bytsOf l=some xs->IntsAre vs xs∧∀ n∈xs,0≤n∧n<256
 | [],_,_,h,q=>rNil h (oe q ⟨.nil,λZ h=>nomatch h⟩)
 |_::_,_,_,h,q=>NK h λv vs r h=>VJ q r λi t Z q=>om1 q λl hl q=>oi q λhb q=>oe q
  ⟨.cons _ _ (Wk h hl).1,λn hn=>(mcM hn).elim (λe=>e▸hb) ((Wk h hl).2 n)⟩
def lenF (l:List AV)(σ:Store):Option AV:=onL1 l λa=>match a with
 | .tup l=>if l.length≤1000000 then some (.int l.length) else none
 | .str x=>if x.length≤1000000 then some (.int x.length) else none
 | .byt b=>if b.size≤1000000 then some (.int b.size) else none
 | .ref i=>onList σ[i]? λl=>if l.length≤1000000 then some (.int l.length) else none
 |_=>none
def tupleF (l:List AV)(σ:Store):Option AV:=onL1 l λa=>match a with
 | .tup l=>some (.tup l)
 | .ref i=>onList σ[i]? λl=>if l.length≤1000000 then some (.tup l) else none
 |_=>none
def bytesF (l:List AV)(σ:Store):Option AV:=onL1 l λa=>onRef a λi=>onList σ[i]? λl=>on1 (bytsOf l) λns=>if l.length≤1000000 then some (.byt (ns.map λn=>n.toNat.toUInt8).toArray) else none
def chrF (l:List AV):Option AV:=onL1 l λa=>onInt a λi=>if 0≤i∧i≤1114111 then some (.str ⟨#[i.toNat]⟩) else none
def ordF (l:List AV):Option AV:=onL1 l λa=>onStr a λx=>if x.length=1 then some (.int (x.cps.getD 0 0:Nat)) else none
def splitF (l:List AV)(σ:Store):Option (AV×Store):=onL2 l λa b=>onStr a λx=>onStr b λy=>if (y.length==0)=false∧x.length≤1000000 then some (.ref σ.length,σ++[.list ((Txt.split x y).map .str)]) else none
def joinF (l:List AV)(σ:Store):Option AV:=onL2 l λa b=>onStr a λx=>onRef b λi=>onList σ[i]? λl=>on1 (strsOf l) λys=>if (ys.map (·.length)).sum+ys.length * x.length≤16777216 then some (.str (Txt.join x ys)) else none
def listF (l:List AV)(σ:Store):Option (AV×Store):=onL1 l λa=>onTup a λl=>if l.length≤1000000 then some (.ref σ.length,σ++[.list l]) else none
def intF (l:List AV):Option AV:=onL1 l λa=>match a with
 | .int i=>some (.int i)
 | .bool b=>some (.int (if b then 1 else 0))
 |_=>none
def absF (l:List AV):Option AV:=onL1 l λa=>onInt a λi=>some (.int (if i<0 then -i else i))
def minF (l:List AV):Option AV:=onL2 l λa b=>onInt a λi=>onInt b λj=>some (.int (if j<i then j else i))
def withS (σ:Store)(o:Option AV):Option (AV×Store):=on1 o λa=>some (a,σ)
inductive Nat' where
 |len|tuple|bytes|chr|ord|split|join|list|append|extend|int|abs|min
 deriving DecidableEq
noncomputable def natOf:Value->Option Nat'
 | .builtin id=>if id = "len" then some .len else if id = "chr" then some .chr else if id = "ord" then some .ord else if id = "str.split" then some .split else if id = "str.join" then some .join
  else if id = "list.append" then some .append else if id = "list.extend" then some .extend else if id = "abs" then some .abs else if id = "min" then some .min else none
 | .type id=>if id = "tuple" then some .tuple else if id = "bytes" then some .bytes else if id = "list" then some .list else if id = "int" then some .int else none
 |_=>none
def natF (k:Nat')(l:List AV)(σ:Store):Option (AV×Store):=match k with
 | .len=>withS σ (lenF l σ)
 | .tuple=>withS σ (tupleF l σ)
 | .bytes=>withS σ (bytesF l σ)
 | .chr=>withS σ (chrF l)
 | .ord=>withS σ (ordF l)
 | .split=>splitF l σ
 | .join=>withS σ (joinF l σ)
 | .list=>listF l σ
 | .append=>appendF l σ
 | .extend=>extendF l σ
 | .int=>withS σ (intF l)
 | .abs=>withS σ (absF l)
 | .min=>withS σ (minF l)
section
variable {c:Cx}{d:Nat}{f:Fm}{W:Wd}{σ:Store}{en:En}{s:Shared}{m:Str->Option Value}{N:NwT}
@[elab_as_elim] theorem GZ {G:AV->Store->Prop}{σ σ' : Store}{o:Option AV}{a:AV}(q:withS σ o=some (a,σ'))(k:∀ a,o=some a->G a σ):G a σ' := om1 q λb h q=>oe2 q (k b h)
theorem oif {γ:Type}{P c:Prop}[Decidable c]{x y:Option γ}{r:γ}(q:(if c then x else y)=some r)(k:c->x=some r->P)(k' : y=some r->P):P:=by
 by_cases h:c
 · exact k h ((if_pos h).symm.trans q)
 · exact k' ((if_neg h).symm.trans q)
theorem KW {W:Wd}:∀ (l:List (Str×Tok)),RelL c.lam W ((l.map (·.1)).map .str) (strValues l)
 | []=>.nil
 | (x,t)::r=>.cons (.str x t) (KW r)
theorem len_ok {A:Around}{E:Value->Shared->Prop}(S:St c f W σ en s m N){l:List AV}{vs:List Value}{a:AV}(r:RelL c.lam W l vs)(q:lenF l σ=some a) :
  wpAny (model c.prog c.w) A (call (.builtin "len") vs) (PostE c f W en a σ) E s:=by
 refine Kv q r λx v r1 q=>?_
 cases x with
 |tup l=>
  refine rTup r1 λvs b n hm rl=>oi q λhl q=>oe q (len_tuple (Vq S.nw (S.fa.tl _ hm)) (by rw[Q0,← rl.length];exact ar21 hl rfl) ?_)
  rw[Q0,← rl.length];exact S.postT (.int _ _) (Qq _)
 |str x=>exact rStr r1 λt=>oi q λhl q=>oe q (P.len_str (by omega) (S.postT (.int _ _) (Qq _)))
 |byt x=>exact rByt r1 λt=>oi q λhl q=>oe q (len_bytes (adL 0 hl rfl) (S.postT (.int _ _) (Qq _)))
 |ref i=>
  refine rRef r1 λx hx=>U1 q λl h1 q=>oi q λhl q=>oe q (S.fa.atList hx h1 λvs n rl h2=>?_)
  refine PyProof.Rows.len_list (J9 S h2) (by rw[Q0,← rl.length];exact ar21 hl rfl) ?_;rw[Q0,← rl.length]
  exact S.postT (.int _ _) (Qq _)
 |_=>exact nos q
theorem tuple_ok {A:Around}{E:Value->Shared->Prop}(S:St c f W σ en s m N){l:List AV}{vs:List Value}{a:AV}(r:RelL c.lam W l vs)(q:tupleF l σ=some a) :
  wpAny (model c.prog c.w) A (call (.type "tuple") vs) (PostE c f W en a σ) E s:=by
 refine Kv q r λx v r1 q=>?_
 cases x with
 |tup l=>exact rTup r1 λvs b n hm rl=>oe q (call_tuple_tup (Vq S.nw (S.fa.tl _ hm)) (S.post (.tup hm rl)))
 |ref i=>
  refine rRef r1 λx hx=>U1 q λl h1 q=>oi q λhl q=>oe q (S.fa.atList hx h1 λvs n rl h2=>?_)
  refine call_tuple_list (J9 S h2) (λh' hk=>?_) (by rw[Q0,← rl.length];exact adL 0 hl rfl);have F' : Fr f.h₀ f.L h' m:=S.F.keeps hk
  have N' : News f.h₀ f.L h' N:=λp hp=>⟨hk _ _ (S.nw p hp).1,(S.nw p hp).2⟩
  exact⟨_,_,_,W.le_still (_,_),S.still (t:=s.toks) (F'.push _) (N'.push F' _) (λp hp=>V0 (N' p hp).1) S.pos,.tup (.head _) (rl.mono (W.le_still _))⟩
 |_=>exact nos q
theorem bytes_ok {A:Around}{E:Value->Shared->Prop}(hh:A.handled=none)(S:St c f W σ en s m N){l:List AV}{vs:List Value}{a:AV}(r:RelL c.lam W l vs)(q:bytesF l σ=some a) :
  wpAny (model c.prog c.w) A (call (.type "bytes") vs) (PostE c f W en a σ) E s:=by
 refine Kv q r λx v r1 q=>GV q r1 λi x Z hx q=>U1 q λl h1 q=>om1 q λns hn q=>oi q λhl q=>oe q (S.fa.atList hx h1 λvs n rl h2=>?_)
 obtain⟨hi,hb⟩:=Wk rl hn
 refine J5 S.pos (bytes_K S.F S.nw (J9 S h2) hi hb (by rw[← rl.length];exact adL 0 hl rfl) hh λh' t k F' X' Z hk=>?_)
 exact⟨W,m,N,.refl W,S.same (t:=k) F' X' hk,.byt _ _⟩
theorem chr_ok {A:Around}{E:Value->Shared->Prop}(S:St c f W σ en s m N){l:List AV}{vs:List Value}{a:AV}(r:RelL c.lam W l vs)(q:chrF l=some a) :
  wpAny (model c.prog c.w) A (call (.builtin "chr") vs) (PostE c f W en a σ) E s:=
 Kv q r λx v r1 q=>VJ q r1 λi t Z q=>oi q λh q=>oe q (chr_of_range h.1 h.2 (S.postT (.str _ _) (Qq _)))
theorem ord_ok {A:Around}{E:Value->Shared->Prop}(S:St c f W σ en s m N){l:List AV}{vs:List Value}{a:AV}(r:RelL c.lam W l vs)(q:ordF l=some a) :
  wpAny (model c.prog c.w) A (call (.builtin "ord") vs) (PostE c f W en a σ) E s:=
 Kv q r λx v r1 q=>HW q r1 λi t Z q=>oi q λh q=>oe q (ord_of_one h (S.postT (.int _ _) (Qq _)))
theorem split_ok {A:Around}{E:Value->Shared->Prop}(S:St c f W σ en s m N){l:List AV}{vs:List Value}{a:AV}{σ' : Store}(r:RelL c.lam W l vs)(q:splitF l σ=some (a,σ')) :
  wpAny (model c.prog c.w) A (call (.builtin "str.split") vs) (PostE c f W en a σ') E s:=by
 refine onL2R q r λa b u v r1 r2 q=>HW q r1 λx t Z q=>HW q r2 λy t' Z q=>oi q λh q=>oe2 q (J5 S.pos (splitN1 S.F S.nw h.1 (λl h' k e F' X' hk=>?_) (by have:=h.2;unfold sizeLine;omega)))
 rw[← e]
 exact⟨_,_,_,W.le_made _,S.made (t:=k) (ao:=.list ((l.map (·.1)).map .str)) F' X' S.lt (.list (KW l)) hk,.ref (by rw[← S.fa.len];exact W.made_at _)⟩
theorem join_ok {A:Around}{E:Value->Shared->Prop}(S:St c f W σ en s m N){l:List AV}{vs:List Value}{a:AV}(r:RelL c.lam W l vs)(q:joinF l σ=some a) :
  wpAny (model c.prog c.w) A (call (.builtin "str.join") vs) (PostE c f W en a σ) E s:=
 onL2R q r λa b u v r1 r2 q=>HW q r1 λx t Z q=>GV q r2 λi y Z hx q=>U1 q λl h1 q=>om1 q λys hy q=>oi q λhz q=>oe q
  (S.fa.atList hx h1 λvs n rl h2=>J5 S.pos (join_list (J9 S h2) (WM rl hy) hz λt' k hk=>S.postT (.str _ _) hk))
theorem list_ok {A:Around}{E:Value->Shared->Prop}(S:St c f W σ en s m N){l:List AV}{vs:List Value}{a:AV}{σ' : Store}(r:RelL c.lam W l vs)(q:listF l σ=some (a,σ')) :
  wpAny (model c.prog c.w) A (call (.type "list") vs) (PostE c f W en a σ') E s:=by
 refine Kv q r λx v r1 q=>onTupR q r1 λl vs x n Z hm rl q=>oi q λh q=>oe2 q ?_
 refine list_copyTP S.F S.nw (Vq S.nw (S.fa.tl _ hm)) (λh' F' hk hn Z P=>?_) (by rw[Q0,← rl.length];exact adL 0 h rfl)
 obtain⟨⟨k,e⟩,hne⟩:=id P
 have X' : News f.h₀ f.L h' ((s.heap.objs.size,listOf vs.toArray k)::N):=λp hp=>by
  rcases mcM hp with rfl|hp
  · exact⟨e,P.ne_locals F',hn⟩
  · exact⟨hk _ _ (S.nw p hp).1,(S.nw p hp).2⟩
 exact⟨_,_,_,W.le_made _,S.made (t:=s.toks) F' X' S.lt (.list (rl.mono (W.le_made _))) S.pos,.ref (by rw[← S.fa.len];exact W.made_at _)⟩
theorem int_ok {A:Around}{E:Value->Shared->Prop}(S:St c f W σ en s m N){l:List AV}{vs:List Value}{a:AV}(r:RelL c.lam W l vs)(q:intF l=some a) :
  wpAny (model c.prog c.w) A (call (.type "int") vs) (PostE c f W en a σ) E s:=by
 refine Kv q r λx v r1 q=>?_
 cases x with
 |int i=>exact rInt r1 λt=>oe q (call_int_int (S.post (.int _ _)))
 |bool b=>exact rBool r1 (oe q (call_int_bool (S.postT (.int _ _) (Qq _))))
 |_=>exact nos q
theorem abs_ok {A:Around}{E:Value->Shared->Prop}(S:St c f W σ en s m N){l:List AV}{vs:List Value}{a:AV}(r:RelL c.lam W l vs)(q:absF l=some a) :
  wpAny (model c.prog c.w) A (call (.builtin "abs") vs) (PostE c f W en a σ) E s:=
 Kv q r λx v r1 q=>VJ q r1 λi t Z q=>oe q (J5 S.pos (call_abs_int λu tk hk=>S.postT (.int _ _) hk))
theorem min_ok {A:Around}{E:Value->Shared->Prop}(hh:A.handled=none)(S:St c f W σ en s m N){l:List AV}{vs:List Value}{a:AV}(r:RelL c.lam W l vs)(q:minF l=some a) :
  wpAny (model c.prog c.w) A (call (.builtin "min") vs) (PostE c f W en a σ) E s:=
 onL2R q r λa b u v r1 r2 q=>VJ q r1 λx t Z q=>VJ q r2 λy t' Z q=>oe q (J5 S.pos (min_two_N hh S.F S.nw λh' tk F' X' hk=>⟨W,m,N,.refl W,S.same (t:=tk) F' X' hk,.int _ _⟩))
def NatRuns (c:Cx)(k:Nat')(g:Value):Prop := ∀ (f:Fm) (A:Around) (W:Wd) (s:Shared) (σ:Store) (en:En) (m:Str->Option Value) (N:NwT) (E:Value->Shared->Prop) (l:List AV) (vs:List Value) (a:AV) (σ' : Store),
 A.handled=none->St c f W σ en s m N->RelL c.lam W l vs->natF k l σ=some (a,σ')->wpAny (model c.prog c.w) A (call g vs) (PostE c f W en a σ') E s
theorem nat_runs {g:Value}{k:Nat'}(hg:natOf g=some k):NatRuns c k g:=by
 cases g with
 |builtin id=>
  refine oif hg (λe q=>?_) λhg=>oif hg (λe q=>?_) λhg=>oif hg (λe q=>?_) λhg=>oif hg (λe q=>?_) λhg=>oif hg (λe q=>?_) λhg=>oif hg (λe q=>?_) λhg=>oif hg (λe q=>?_) λhg=>oif hg (λe q=>?_) λhg=>oif hg (λe q=>?_) λhg=>nos hg
  all_goals (subst e;refine oe q ?_;intro f A W s σ en m N E l vs a σ' hh S r q)
  · exact GZ q λa h=>len_ok S r h
  · exact GZ q λa h=>chr_ok S r h
  · exact GZ q λa h=>ord_ok S r h
  · exact split_ok S r q
  · exact GZ q λa h=>join_ok S r h
  · exact KU S r q
  · exact extend_ok S r q
  · exact GZ q λa h=>abs_ok S r h
  · exact GZ q λa h=>min_ok hh S r h
 |type id=>
  refine oif hg (λe q=>?_) λhg=>oif hg (λe q=>?_) λhg=>oif hg (λe q=>?_) λhg=>oif hg (λe q=>?_) λhg=>nos hg
  all_goals (subst e;refine oe q ?_;intro f A W s σ en m N E l vs a σ' hh S r q)
  · exact GZ q λa h=>tuple_ok S r h
  · exact GZ q λa h=>bytes_ok hh S r h
  · exact list_ok S r q
  · exact GZ q λa h=>int_ok S r h
 |_=>exact nos hg
theorem nat_ok {A:Around}{E:Value->Shared->Prop}(hh:A.handled=none)(S:St c f W σ en s m N){g:Value}{k:Nat'}{l:List AV}{vs:List Value}{a:AV}{σ' : Store}(r:RelL c.lam W l vs)(hg:natOf g=some k)(q:natF k l σ=some (a,σ')) :
  wpAny (model c.prog c.w) A (call g vs) (PostE c f W en a σ') E s:=nat_runs hg f A W s σ en m N E l vs a σ' hh S r q
theorem nat_keep {M:Model}{h:Heap}{g:Value}{k:Nat'}(hg:natOf g=some k):KeepOk M h g:=by
 refine⟨.machine,.inr (.inl rfl),Looks.of_pure ?_⟩
 cases g<;>first|rfl|exact nos hg|exact nof hg|cases hg
end
end
section
open PySem.SeqAt
section
variable {c:Cx}{d:Nat}{f:Fm}
def truthF2 (a:AV)(σ:Store):Option Bool:=match a with
 | .ref i=>onList σ[i]? λl=>if l.length≤1000000 then some (!l.isEmpty) else none
 |a=>truthF a σ
theorem HN:OT c d truthF2:=by
 intro f A W s σ en a b v m N E ok S r q
 cases a with
 |ref i=>
  refine rRef r λx hx=>U1 q λl h1 q=>oi q λhl q=>oe q (S.fa.atList hx h1 λvs n rl h2=>?_)
  refine wpAny_truthy_list (J9 S h2) (by rw[Q0,← rl.length];exact ar21 hl rfl) ⟨W,m,N,.refl W,S.toks _ (Qq _),?_⟩;cases rl<;>rfl
 |_=>exact truth_ok f A W s σ en _ b v m N E ok S r q
theorem se_not {x:PySem.Expr}{pos:Pos}{M:Md}{T:AV->Store->Option Bool}(h:SE c d f x M)(ht:OT c d T) :
  SE c d f (.UnaryOp .Not x pos) (λen σ=>on2 (tested M T en σ) λb σ₁=>some (.bool (!b),σ₁)):=by
 intro A W s σ en a σ' m N E ok S q
 refine om q λb σ₁ q1 q=>oe2 q (wpAny_UnaryOp (Qz (tested_wp ht ok q1 λa σ₁ q1=>h A W s σ en a σ₁ m N E ok S q1) (λv s₁ h₁=>?_) λZ Z x=>x))
 refine J8 ?_
 show wpAny _ A (if ((UnaryOp.Not==UnaryOp.Not)=true) then _ else _) _ _ _
 rw[if_pos (show (UnaryOp.Not==UnaryOp.Not)=true from rfl)]
 exact QZ (post h₁ λb' sB WB mB NB wB S₂ rB=>Qk ⟨WB,mB,NB,wB,S₂,rB▸.bool _⟩)
theorem se_un {op:UnaryOp}{F:AV->Store->Option (AV×Store)}{x:PySem.Expr}{pos:Pos}{M:Md}(h:SE c d f x M)(ho:O1 c d (unaryOp op) F) :
  SE c d f (.UnaryOp op x pos) (λen σ=>on2 (M en σ) F):=by
 intro A W s σ en a σ' m N E ok S q
 refine om q λb σ₁ q1 q=>wpAny_UnaryOp (post (h A W s σ en b σ₁ m N E ok S q1) λv s₁ WA m₁ NA w₁ S₁ rA=>?_)
 exact Qz (ho f A WA s₁ σ₁ en b a v σ' m₁ NA E ok S₁ rA q) (λZ Z x=>x.up w₁) λZ Z x=>x
theorem KH {op:BoolOp}{x:PySem.Expr}{pos:Pos}{M:Md}(h:SE c d f x M):SE c d f (.BoolOp op [x] pos) M:=λA W s σ en a σ' m N E ok S q=>BoolOp_one (h A W s σ en a σ' m N E ok S q)
def boolM (stop:Bool)(M M' : Md)(T:AV->Store->Option Bool):Md:=λen σ=>on2 (M en σ) λa σ₁=>on1 (T a σ₁) λb=>if b=stop then some (a,σ₁) else M' en σ₁
theorem se_and {x y:PySem.Expr}{rest:List PySem.Expr}{pos:Pos}{M M' : Md}{T:AV->Store->Option Bool}(h:SE c d f x M)(ht:OT c d T)(hr:SE c d f (.BoolOp .And (y::rest) pos) M'):SE c d f (.BoolOp .And (x::y::rest) pos) (boolM false M M' T):=by
 intro A W s σ en a σ' m N E ok S q
 refine om q λb σ₁ q1 q=>om1 q λt q2 q=>?_
 refine BoolOp_and (post (h A W s σ en b σ₁ m N E ok S q1) λv s₁ WA m₁ NA w₁ S₁ rA=>?_)
 refine post (ht f A WA s₁ _ en b _ v m₁ NA E ok S₁ rA q2) λt' sB WB mB NB wB S₂ rB=>?_
 subst rB
 cases t' with
 |false=>cases q;exact⟨WB,mB,NB,w₁.trans wB,S₂,rA.mono wB⟩
 |true=>exact Qz (hr A WB sB σ₁ en a σ' mB NB E ok S₂ q) (λZ Z x=>x.up (w₁.trans wB)) λZ Z x=>x
theorem se_or {x y:PySem.Expr}{rest:List PySem.Expr}{pos:Pos}{M M' : Md}{T:AV->Store->Option Bool}(h:SE c d f x M)(ht:OT c d T)(hr:SE c d f (.BoolOp .Or (y::rest) pos) M'):SE c d f (.BoolOp .Or (x::y::rest) pos) (boolM true M M' T):=by
 intro A W s σ en a σ' m N E ok S q
 refine om q λb σ₁ q1 q=>om1 q λt q2 q=>?_
 refine BoolOp_or (post (h A W s σ en b σ₁ m N E ok S q1) λv s₁ WA m₁ NA w₁ S₁ rA=>?_)
 refine post (ht f A WA s₁ _ en b _ v m₁ NA E ok S₁ rA q2) λt' sB WB mB NB wB S₂ rB=>?_
 subst rB
 cases t' with
 |true=>cases q;exact⟨WB,mB,NB,w₁.trans wB,S₂,rA.mono wB⟩
 |false=>exact Qz (hr A WB sB σ₁ en a σ' mB NB E ok S₂ q) (λZ Z x=>x.up (w₁.trans wB)) λZ Z x=>x
def SPt (c:Cx)(d:Nat)(f:Fm)(e:Option PySem.Expr)(M:Option Md):Prop:=match e,M with
 |none,none=>True
 |some e,some M=>SE c d f e M
 |_,_=>False
def partF (M:Option Md)(en:En)(σ:Store):Option (Option Int×Store):=match M with
 |none=>some (none,σ)
 |some M=>on2 (M en σ) λa σ₁=>onInt a λi=>some (some i,σ₁)
theorem part_wp {e:Option PySem.Expr}{M:Option Md}(h:SPt c d f e M){A:Around}{W:Wd}{s:Shared}{σ:Store}{en:En}{p:Option Int}{σ' : Store}{m:Str->Option Value}{N:NwT}{E:Value->Shared->Prop}
  (ok:f.Ok c A d) (S:St c f W σ en s m N) (q:partF M en σ=some (p,σ')) :
  wpAny (model c.prog c.w) A (evalPart e f.env) (Pst c f W en σ' λZ v=>IsPart v p) E s:=by
 match e,M,h with
 |none,none,_=>exact oe2 q (Qk ⟨W,m,N,.refl W,S,.none⟩)
 |some e,some M,h=>exact om q λa σ₁ q1 q=>post (h A W s σ en _ _ m N E ok S q1) λv s₁ WA m₁ NA w₁ S₁ rA=>VJ q rA λi t Z q=>oe2 q ⟨WA,m₁,NA,w₁,S₁,.int _ _⟩
noncomputable def isNameE:PySem.Expr->Bool
 | .Name .. => true
 |_=>false
noncomputable def pickL (l:List AV) (lo hi:Option Int):List AV:=(sliceRange (sliceBounds lo hi none l.length).1 (sliceBounds lo hi none l.length).2.1 (sliceBounds lo hi none l.length).2.2).filterMap (l[·]?)
theorem Pw {W:Wd}{l:List AV}{vs:List Value}(r:RelL c.lam W l vs):∀ (is:List Nat),RelL c.lam W (is.filterMap (l[·]?)) (is.filterMap (vs.toArray[·]?))
 | []=>.nil
 |i::is=>by
  rw[Jk,Jk];have hv:vs.toArray[i]? = vs[i]? := by simp
  rw[hv]
  cases h:l[i]? with
  |none=>
   have:vs[i]? = none:=by
    rw[UX] at h ⊢;rw[← r.length];exact h
   rw[this];exact Pw r is
  |some a=>
   refine xe12 (r.get h) λv h1 h2=>?_
   rw[h1];exact .cons h2 (Pw r is)
def sliceF (sc:ScT)(named:Bool)(a:AV)(lo hi:Option Int)(σ:Store):Option (AV×Store):=match a with
 | .str x=>if x.length≤1000000 then some (.str (Txt.slice x lo hi),σ) else none
 | .ref i=>onList σ[i]? λl=>if named=true∧l.length≤1000000 then some (.ref σ.length,σ++[.list (pickL l lo hi)]) else none
 | .glob (.ref s)=>if named=true∧s=sc.1∧sc.2.length≤1000000 then some (.ref σ.length,σ++[.list (pickL (sc.2.map .int) lo hi)]) else none
 |_=>none
def ScriptIs (c:Cx)(sc:ScT):Prop := ∀ h:Heap,c.K.In h->∃ vs:List Value,h.IsList sc.1 vs.toArray∧IntsAre vs sc.2
def sliceM (sc:ScT)(named:Bool)(M:Md)(lo hi:Option Md):Md:=λen σ=>on2 (M en σ) λa σ₁=>on2 (partF lo en σ₁) λx σ₂=>on2 (partF hi en σ₂) λy σC=>sliceF sc named a x y σC
theorem M6 {value:PySem.Expr}{x:Str}{t:Tok}{r:Value}:letTemporaryGo value (.str x t) r=pure ():=by cases value<;>rfl
theorem letgo_name {value:PySem.Expr}{o r:Value}(h:isNameE value=true):letTemporaryGo value o r=pure ():=by cases value<;>first|rfl|exact nof h
section
variable {W:Wd}{σ:Store}{en:En}{s:Shared}{m:Str->Option Value}{N:NwT}{A:Around}{E:Value->Shared->Prop}{value:PySem.Expr}{lower upper:Option PySem.Expr}{p:Pos}{v vl vu:Value}{lo hi:Option Int}
theorem slice_strs (S:St c f W σ en s m N){x:Str}{t:Tok}(pl:IsPart vl lo)(pu:IsPart vu hi)(hx:x.length≤1000000) :
  wpAny (model c.prog c.w) A (subscriptTail value (.Slice lower upper none p) (.str x t) (.ref s.heap.objs.size)) (PostE c f W en (.str (Txt.slice x lo hi)) σ) E { s with heap:=s.heap.push { cls:=.type "slice",data:=.fields #[vl,vu,.none] } }:=by
 have hz:x.length≤sizeLine:=by exact adL 0 hx rfl
 have fin:∀ h' t' k,Fr f.h₀ f.L h' m->News f.h₀ f.L h' N->0<k->PostE c f W en (.str (Txt.slice x lo hi)) σ (.str (Txt.slice x lo hi) t') { s with heap:=h',toks:=k }:=
  λh' t' k F' X' hk=>⟨W,m,N,.refl W,S.same F' X' hk,.str _ _⟩
 refine J5 (s:={ s with heap:=_ }) S.pos ?_
 cases pl with
 |none=>
  cases pu with
  |none=>exact slice_strN_nn S.F S.nw (λh' t' k F' X' hk=>fin h' t' k F' X' hk) rfl (λZ=>M6) hz
  |int=>exact slice_strN_ns S.F S.nw (λh' t' k F' X' hk=>fin h' t' k F' X' hk) rfl (λZ=>M6) hz
 |int=>
  cases pu with
  |none=>exact slice_strN_sn S.F S.nw (λh' t' k F' X' hk=>fin h' t' k F' X' hk) rfl (λZ=>M6) hz
  |int=>exact slice_strN_ss S.F S.nw (λh' t' k F' X' hk=>fin h' t' k F' X' hk) rfl (λZ=>M6) hz
theorem KN (S:St c f W σ en s m N){l:List AV}{vs:List Value}{x:Addr}(hL:s.heap.IsList x vs.toArray)(rl:RelL c.lam W l vs)(pl:IsPart vl lo)(pu:IsPart vu hi)(hn:isNameE value=true)(hl:l.length≤1000000) :
  wpAny (model c.prog c.w) A (subscriptTail value (.Slice lower upper none p) (.ref x) (.ref s.heap.objs.size)) (PostE c f W en (.ref σ.length) (σ++[.list (pickL l lo hi)])) E { s with heap:=s.heap.push { cls:=.type "slice",data:=.fields #[vl,vu,.none] } }:=by
 refine slice_list S.F S.nw hL pl pu (λh' F' X'=>?_) rfl (λZ=>letgo_name hn) (by rw[Q0,← rl.length];exact adL 0 hl rfl)
 have ep:pickL l lo hi=(sliceRange (sliceBounds lo hi none vs.toArray.size).1 (sliceBounds lo hi none vs.toArray.size).2.1 (sliceBounds lo hi none vs.toArray.size).2.2).filterMap (l[·]?):=by
  unfold pickL;rw[Q0,← rl.length]
 refine⟨_,_,_,W.le_made _,S.made (t:=s.toks) (ao:=.list (pickL l lo hi)) F' X' (λp hp=>MZ (S.lt p hp)) (.list ?_) S.pos,.ref (by rw[← S.fa.len];exact W.made_at _)⟩
 rw[ep]
 exact Pw (rl.mono (W.le_made _)) _
theorem ints_rel {vs:List Value}{ns:List Int}(r:IntsAre vs ns):RelL c.lam W (ns.map .int) vs:=by
 induction r with
 |nil=>exact .nil
 |cons i t _ h=>exact .cons (.int i t) h
theorem slice_wp {sc:ScT}(H:ScriptIs c sc)(ok:f.Ok c A d)(S:St c f W σ en s m N){a r:AV}{σ' : Store}
  (ra:Rel c.lam W a v) (pl:IsPart vl lo) (pu:IsPart vu hi) (q:sliceF sc (isNameE value) a lo hi σ=some (r,σ')) :
  wpAny (model c.prog c.w) A (subscriptTail value (.Slice lower upper none p) v (.ref s.heap.objs.size)) (PostE c f W en r σ') E { s with heap:=s.heap.push { cls:=.type "slice",data:=.fields #[vl,vu,.none] } }:=by
 cases a with
 |str x=>exact rStr ra λt=>oi q λhx q=>oe2 q (slice_strs S pl pu hx)
 |ref i=>exact rRef ra λx hx=>U1 q λl h1 q=>oi q λhl q=>oe2 q (S.fa.atList hx h1 λvs n rl h2=>KN S (J9 S h2) rl pl pu hl.1 hl.2)
 |glob g=>
  cases g with
  |ref x=>
   refine Gw ra (oi q λhc q=>oe2 q ?_);refine xe03 hc λhn hx hl=>?_
   obtain⟨vs,⟨o,h1,h2⟩,hi'⟩:=H _ ok.X;exact KN S (hx▸⟨o,S.F.keep _ _ h1,h2⟩) (ints_rel hi') pl pu hn (by rw[QH];exact hl)
  |_=>exact nos q
 |_=>exact nos q
end
theorem se_slice {sc:ScT}(H:ScriptIs c sc){value:PySem.Expr}{lower upper:Option PySem.Expr}{p pos:Pos}{M:Md}{lo hi:Option Md}(h:SE c d f value M)(hl:SPt c d f lower lo)(hu:SPt c d f upper hi) :
  SE c d f (.Subscript value (.Slice lower upper none p) pos) (sliceM sc (isNameE value) M lo hi):=by
 intro A W s σ en a σ' m N E ok S q
 refine om q λx σ₁ q1 q=>om q λi σ₂ q2 q=>om q λj σC q3 q=>Subscript_ (post (h A W s σ en x σ₁ m N E ok S q1) λv s₁ WA m₁ NA w₁ S₁ rA=>?_)
 refine wpAny_Slice (post (part_wp hl ok S₁ q2) λvl sB WB mB NB wB S₂ rB=>post (part_wp hu ok S₂ q3) λvu sC WC m₃ N₃ wC S₃ rC=>Qk (a:=Value.none) ?_)
 exact Qz (slice_wp H ok S₃ ((rA.mono wB).mono wC) rB rC q) (λZ Z x=>x.up ((w₁.trans wB).trans wC)) λZ Z x=>x
def replM (M:Md)(y z:Str):Md:=λen σ=>on2 (M en σ) λa σ₁=>onStr a λx=>if (y==z)=false∧x.length+(x.length+1) * z.length≤16777216 then some (.str (Txt.replace x y z),σ₁) else none
theorem se_replace {name:Str}(hn:StrMeth name "str.replace"){o:PySem.Expr}{y z:Str}{n1 n2:Nat}{p1 p2 apos pos:Pos}{M:Md}(ho:SE c d f o M)(hm:methForm o 2 apos pos=true) :
  SE c d f (.Call (.Attribute o name apos) [.Constant (.str y) n1 p1,.Constant (.str z) n2 p2] [] pos) (replM M y z):=by
 intro A W s σ en a σ' m N E ok S q
 refine om q λb σ₁ q1 q=>MethodCall_ (post (ho A W s σ en _ _ m N E ok S q1) λov s₁ WA m₁ NA w₁ S₁ rA=>HW q rA λx t Z q=>oi q λhz q=>oe2 q (Mv hn ?_)) (M5 (es:=[.Constant (.str y) n1 p1,.Constant (.str z) n2 p2]) hm rfl)
 refine callWith_of (P:=λh=>KeepOk (model c.prog c.w) h (.builtin "str.replace")) (by rw[UW _ _ f.env rfl];rfl) (λh k=>k) (VX (es:=[.Constant (.str y) n1 p1,.Constant (.str z) n2 p2]) rfl ?_)
 refine UJ ?_ (UV rfl)
 rw[arm_eval_Constant]
 refine Nk (UJ ?_ (UV rfl))
 rw[arm_eval_Constant]
 refine Nk (H4 ⟨⟨.machine,.inr (.inl rfl),Looks.of_pure rfl⟩,?_⟩)
 have hp:=S₁.pos
 exact J5 (n:=1) (s:={ s₁ with toks:=s₁.toks+1+1 }) (Qq _) (SC.replace (Qj hp) (Nat.succ_ne_zero _) (VV (J3 _)) hz.1 hz.2 λt' k hk=>⟨WA,m₁,NA,w₁,S₁.toks k hk,.str _ _⟩)
end
end
section
open PySem.SeqAt
section
variable {c:Cx}{d:Nat}{f:Fm}
theorem Kw (vs:List Value):∀ (n:Nat) (acc:List Value),List.foldl (λx1 x2=>x1++x2) acc.toArray (QK n vs.toArray)=(acc++(QK n vs).flatten).toArray
 |0,acc=>by simp
 |n+1,acc=>by
  rw[Vk,List.foldl_cons,List.append_toArray,Kw vs n (acc++vs),Vk,H9,QW]
theorem RelL.copies {W:Wd}{l:List AV}{vs:List Value}(r:RelL c.lam W l vs):∀ n:Nat,RelL c.lam W (QK n l).flatten (QK n vs).flatten
 |0=>.nil
 |n+1=>by rw[Vk,Vk,H9,H9];exact r.append (r.copies n)
def mulF (a b:AV)(σ:Store):Option (AV×Store):=onRef a λi=>onInt b λx=>onList σ[i]? λl=>if -1000000≤x∧x≤1000000∧l.length * x.toNat≤1000000 then some (.ref σ.length,σ++[.list (QK x.toNat l).flatten]) else none
def binF2 (op:Operator)(a b:AV)(σ:Store):Option (AV×Store):=match op with
 | .Mult=>match a with
  | .ref i=>mulF (.ref i) b σ
  |a=>binF .Mult a b σ
 |op=>binF op a b σ
theorem mul_ok:O2 c d (binaryOp .Mult) mulF:=by
 intro f A W s σ en a b r v w σ' m N E ok S ra rb q
 refine GV q ra λi y Z hx' q=>VJ q rb λx t Z q=>U1 q λl h1 q=>oi q λhx q=>oe2 q (S.fa.atList hx' h1 λvs n rl h2=>?_)
 have e2:(2:Nat) ^ 24=16777216:=by decide
 refine mul_list S.F S.nw (S.nw _ h2).1 (by omega) (by omega) (by rw[Q0,← rl.length];exact adL 0 hx.2.2 rfl) λh' F' X'=>?_
 have e:List.foldl (λx1 x2=>x1++x2) #[] (QK (if vs.toArray.isEmpty=true then 0 else x.toNat) vs.toArray)=((QK x.toNat vs).flatten).toArray:=by
  refine(Kw vs (if vs.toArray.isEmpty=true then 0 else x.toNat) []).trans ?_
  cases vs with
  |nil=>simp
  |cons v r=>rfl
 rw[e] at X'
 exact⟨_,_,_,W.le_made _,S.made (t:=s.toks) (ao:=.list (QK x.toNat l).flatten) F' X' S.lt (.list ((rl.copies x.toNat).mono (W.le_made _))) S.pos,.ref (by rw[← S.fa.len];exact W.made_at _)⟩
theorem bin2_ok (op:Operator):O2 c d (binaryOp op) (binF2 op):=by
 intro f A W s σ en a b r v w σ' m N E ok S ra rb q
 cases op with
 |Mult=>
  cases a with
  |ref i=>exact mul_ok f A W s σ en _ b r v w σ' m N E ok S ra rb q
  |_=>exact bin_ok .Mult f A W s σ en _ b r v w σ' m N E ok S ra rb q
 |_=>exact bin_ok _ f A W s σ en a b r v w σ' m N E ok S ra rb q
def setItemF (o i b:AV)(σ:Store):Option Store:=onRef o λj=>match i with
 | .int k=>onList σ[j]? λl=>if 0≤k∧k<l.length∧l.length≤1000000 then some (σ.set j (.list (l.set k.toNat b))) else none
 | .str x=>onDict σ[j]? λes=>if es.length≤1000∧(es.map (·.1)).Nodup then some (σ.set j (.dict (putS x b es))) else none
 |_=>none
theorem RelL.setAt {W:Wd}{b:AV}{w:Value}(rb:Rel c.lam W b w):∀ {l:List AV} {vs:List Value} (_:RelL c.lam W l vs) (k:Nat),RelL c.lam W (l.set k b) (vs.set k w)
 | [],_,h,_=>rNil h .nil
 |_::_,_,h,0=>NK h λZ Z Z q=>.cons rb q
 |_::_,_,h,k+1=>NK h λZ Z r q=>.cons r (RelL.setAt rb q k)
theorem M3 {h₀ h h' : Heap}{L a:Addr}{o o' : Obj}{N:NwT}(X:News h₀ L h N)(ho:(a,o)∈N)(e:h'.get? a=some o')(hs:WJ a h h'):News h₀ L h' (turnN N a o'):=λp hp=>by
 rcases mcM hp with rfl|hp
 · exact⟨e,(X _ ho).2⟩
 · obtain⟨hm,hne⟩:=JZ.mp hp
   have hne:=of_decide_eq_true hne;exact⟨(hs.2 p.1 hne).trans (X p hm).1,(X p hm).2⟩
theorem RelD.pairs {P:Program}{W:Wd}{es:List (Str×AV)}{ds:List DictEntry}(r:RelD c.lam c.w.params W es ds):∃ kvs:List (Str×Value),Pairs (strKind P c.w) ds kvs∧kvs.map (·.1)=es.map (·.1)∧RelL c.lam W (es.map (·.2)) (kvs.map (·.2)):=by
 induction r with
 |nil=>exact⟨[],.nil,rfl,.nil⟩
 | @cons x a v t es ds r _ ih=>
  refine xe13 ih λkvs h1 h2 h3=>?_
  exact⟨(x,v)::kvs,.cons (strKind_is P c.w x t) rfl h1,by rw[QM,QM,h2],.cons r h3⟩
theorem P9 {x:Str}{v:Value}(h:Value.isStrOf x v=true):∃ t,v = .str x t:=by
 cases v<;>first|cases h|skip
 rename_i y t
 have h:(y==x)=true∨(x==y)=true:=by first|exact .inl h|exact .inr h
 rcases h with h|h
 · exact⟨t,by rw[eq_of_beq h]⟩
 · exact⟨t,by rw[eq_of_beq h]⟩
theorem relD_of {P:Program}{W:Wd}{ds:List DictEntry}{kvs:List (Str×Value)}(p:Pairs (strKind P c.w) ds kvs):∀ {es:List (Str×AV)},(∀ e∈ds,∃ k,(strKind P c.w).is k e.key=true∧e.hash=(strKind P c.w).hash k) ->
  kvs.map (·.1)=es.map (·.1)->RelL c.lam W (es.map (·.2)) (kvs.map (·.2))->RelD c.lam c.w.params W es ds:=by
 induction p with
 |nil=>
  intro es _ h _
  cases es with
  |nil=>exact .nil
  |cons=>exact absurd h (VU _ _).symm
 | @cons e kv ds kvs h1 h2 h3 ih=>
  intro es hk hn hv
  cases es with
  |nil=>exact absurd hn (VU _ _)
  |cons xa es=>
   obtain⟨x,a⟩:=xa;have hn:=V5.inj hn
   have hv:RelL c.lam W (a::es.map (·.2)) (kv.2::kvs.map (·.2)):=hv
   cases hv with
   |cons r rs=>
    have ih:=ih (λe he=>hk e (.tail _ he)) hn.2 rs;obtain⟨t,ht⟩:=P9 (show Value.isStrOf kv.1 e.key=true from h1)
    refine xe12 (hk e (.head _)) λk hk1 hk2=>?_
    obtain⟨u,hu⟩:=P9 (show Value.isStrOf k e.key=true from hk1);have ek:k=kv.1:=by rw[ht] at hu;exact(Value.str.inj hu).1.symm
    obtain⟨hash,key,val⟩:=e;dsimp only at ht h2 hk2
    subst ht h2 ek hk2;have hn1:kv.1=x:=hn.1
    rw[hn1];exact .cons r ih
theorem KM {W:Wd}{x:Str}{b:AV}{w:Value}(rb:Rel c.lam W b w):∀ (kvs:List (Str×Value)) (es:List (Str×AV)),(es.map (·.1)).Nodup->kvs.map (·.1)=es.map (·.1)->RelL c.lam W (es.map (·.2)) (kvs.map (·.2)) ->
  (stored kvs x w).map (·.1)=(putS x b es).map (·.1)∧RelL c.lam W ((putS x b es).map (·.2)) ((stored kvs x w).map (·.2))
 | [],[],_,_,_=>⟨rfl,.cons rb .nil⟩
 | [],_::_,_,h,_=>by cases h
 |_::_,[],_,h,_=>by cases h
 | (y,v)::kvs,(z,a)::es,nd,h,r=>by
  rw[QM,QM,V5.injEq] at h;obtain⟨e,h⟩:=h
  have e:y=z:=e;subst e
  rw[QM,J6] at nd;rw[QM,QM] at r
  cases r with
  |cons r rs=>
   obtain⟨i1,i2⟩:=KM rb kvs es nd.2 h rs
   by_cases hy:y=x
   · subst hy
     have hno:∀ kv∈kvs,¬ kv.1=y:=λkv hkv e=>nd.1 (by rw[← e];show kv.1∈es.map (·.1);rw[← h];exact VQ hkv)
     have e1:stored ((y,v)::kvs) y w=(y,w)::kvs:=by
      unfold stored;rw[if_pos (by simp),QM,if_pos rfl]
      congr 1
      have:kvs.map (λkv=>if kv.1=y then (kv.1,w) else kv)=kvs.map id:=G5 λkv hkv=>if_neg (hno kv hkv)
      rw[this,List.map_id]
     have e2:putS y b ((y,a)::es)=(y,b)::es:=by
      show (if (y==y)=true then _ else _)=_;rw[if_pos (beq_self_eq_true y)]
     rw[e1,e2];exact⟨by rw[QM,QM,h],.cons rb rs⟩
   · have e2:putS x b ((y,a)::es)=(y,a)::putS x b es:=by
      show (if (y==x)=true then _ else _)=_;rw[if_neg (by simpa using hy)]
     have e1:stored ((y,v)::kvs) x w=(y,v)::stored kvs x w:=by
      unfold stored;rw[GG]
      have:decide (y=x)=false:=decide_eq_false hy
      by_cases hc:(kvs.any λkv=>decide (kv.1=x))=true
      · simp[hc,hy]
      · simp[hc,hy]
     rw[e1,e2,QM,QM,QM,QM,i1];exact⟨rfl,.cons r i2⟩
theorem dictOf_is {P:Program}{W:Wd}{o:Obj}{kvs:List (Str×Value)}{es:List (Str×AV)}(h:o.IsDictOf (strKind P c.w) kvs)(hn:kvs.map (·.1)=es.map (·.1))(hv:RelL c.lam W (es.map (·.2)) (kvs.map (·.2))):ObjR c.lam c.w.params W (.dict es) o:=by
 obtain⟨ds,n,⟨g1,g2,g3⟩,g4,g5,g6,g7⟩:=h
 obtain⟨cls,dd,data,sl⟩:=o
 dsimp only at g1 g2 g3 g4
 subst g1 g2 g3 g4
 have r:=relD_of (es:=es) g6 (λe he=>g5 e (by simpa using he)) hn hv
 have:=ObjR.dict (n:=n) r
 exact this
theorem setL_is (w:Value):∀ (vs:List Value) (k:Nat),k<vs.length->ki_setL vs k w=some (vs.set k w)
 |_::_,0,_=>rfl
 |v::vs,k+1,h=>by
  have ih:=setL_is w vs k (by simpa using h);unfold ki_setL
  rw[ih];rfl
theorem PM {A:Around}{W:Wd}{s:Shared}{σ σ' : Store}{en:En}{o i b:AV}{v vi w:Value}{m:Str->Option Value}{N:NwT}{E:Value->Shared->Prop}(S:St c f W σ en s m N)
  (ro:Rel c.lam W o v) (ri:Rel c.lam W i vi) (rb:Rel c.lam W b w) (q:setItemF o i b σ=some σ'):wpAny (model c.prog c.w) A (setItem v vi w) (PostU c f W en σ') E s:=by
 refine GV q ro λj y Z hx q=>?_
 cases i with
 |int k=>
  refine rInt ri λt=>U1 q λl h1 q=>oi q λhk q=>oe q (S.fa.atList hx h1 λvs n rl h2=>?_)
  exact ki_set S.F (MH S.nw h2) hk.1 (by omega) (setL_is w vs k.toNat (by rw[← rl.length];omega)) L7 λh' F' X'=>⟨W,m,_,.refl W,S.turn (t:=s.toks) F' X' hx (.list (rl.setAt rb k.toNat)) S.pos⟩
 |str x=>
  refine rStr ri λt=>oDict q λes h1 q=>oi q λhk q=>oe q (S.fa.atDict hx h1 λds n rd h2=>?_)
  have g:=S.nw _ h2;refine xe13 (rd.pairs (P:=c.prog)) λkvs p1 p2 p3=>?_
  have hD:s.heap.DictOf (strKind c.prog c.w) _ kvs:=⟨_,ds.toArray,n,g.1,⟨rfl,rfl,rfl⟩,rfl,λe he=>by
   refine xe22 ((rd.keys).all e (by simpa using he)) λy t e1 e2=>?_
   exact⟨y,by rw[e1];exact strKind_is c.prog c.w y t,e2⟩,by simpa using p1,by rw[p2];exact hk.2⟩
  have hlen:kvs.length=es.length:=by have:=congrArg List.length p2;simpa using this
  refine wpAny_setItem_pairs (strKind_is c.prog c.w x _) hD (λh' hd' hs=>?_) (by unfold sizeLine;omega);refine xe12 (Heap.dictOf_iff.mp hd') λo' ho' hd''=>?_
  obtain⟨q1,q2⟩:=KM (x:=x) rb kvs es hk.2 p2 p3;exact⟨W,m,_,.refl W,S.turn (t:=s.toks+1) (S.F.change hs g.2.1 g.2.2) (M3 S.nw h2 ho' hs) hx (dictOf_is hd'' q1 q2) (Qq _)⟩
 |_=>exact nos q
end
end
section
open PySem.SeqAt
section
variable {c:Cx}{pin:NwT}{W:Wd}{σ:Store}{N:NwT}
theorem Facts.pinNew (F:Facts c pin W σ N){a:Addr}{o:Obj}(hn:∀ p∈N,p.1<a):Facts c ((a,o)::pin) W σ ((a,o)::N) where
 len:=F.len
 own:=λi ao e=>(F.own i ao e).casesOn λb ob h1 h2 h3=>⟨b,ob,h1,.tail _ h2,h3⟩
 tl:=λp m=>.tail _ (F.tl p m)
 pn:=λp m=>by
  rcases mcM m with rfl|m
  · exact .head _
  · exact .tail _ (F.pn p m)
 inj:=F.inj
 dis:=F.dis
 disp:=λp m i e=>by
  rcases mcM m with rfl|m
  · obtain⟨o',hm⟩:=F.addr e
    exact absurd (hn _ hm) (J4 _)
  · exact F.disp p m i e
 tab:=λq m=>(F.tab q m).casesOn λps h1 h2=>⟨ps,.tail _ h1,h2⟩
 tabρ:=F.tabρ
 tabt:=F.tabt
 tabp:=λq m p mp=>by
  rcases mcM mp with rfl|mp
  · obtain⟨ps,h1,_⟩:=F.tab q m
    exact Qj (hn _ h1)
  · exact F.tabp q m p mp
 tlp:=λq m p mp=>by
  rcases mcM m with rfl|m
  · exact VV (hn _ (F.tl p mp))
  · exact F.tlp q m p mp
 pnd:=by
  rw[QM,J6];refine⟨λh=>?_,F.pnd⟩
  refine xe12 (Jz.mp h) λq hq e=>?_
  have:=hn _ (F.pn q hq);rw[e] at this
  exact absurd this (J4 _)
theorem Facts.unpin {p:Addr×Obj}(F:Facts c (p::pin) W σ N):Facts c pin W σ N:=
 { F with
   pn:=λq m=>F.pn q (.tail _ m)
   disp:=λq m=>F.disp q (.tail _ m)
   tabp:=λq m p' mp=>F.tabp q m p' (.tail _ mp)
   tlp:=λq m=>F.tlp q (.tail _ m)
   pnd:=(J6.mp (by rw[← QM (f:=λx:Addr×Obj=>x.1)];exact F.pnd)).2 }
theorem Facts.pinTurn {a:Addr}{o o' : Obj}(F:Facts c ((a,o)::pin) W σ N):Facts c ((a,o')::pin) W σ (turnN N a o') where
 len:=F.len
 own:=λi ao e=>(F.own i ao e).casesOn λb ob h1 h2 h3=>⟨b,ob,h1,V8 h2 λq=>F.disp (a,o) (.head _) i (by rw[h1];exact congrArg some q),h3⟩
 tl:=λp m=>V8 (F.tl p m) (F.tlp (a,o) (.head _) p m)
 pn:=λp m=>by
  rcases mcM m with rfl|m
  · exact .head _
  · refine V8 (F.pn p (.tail _ m)) λq=>?_
    have:=F.pnd;rw[QM,J6] at this
    exact this.1 (Jz.mpr ⟨p,m,q⟩)
 inj:=F.inj
 dis:=F.dis
 disp:=λp m i e=>by
  rcases mcM m with rfl|m
  · exact F.disp (a,o) (.head _) i e
  · exact F.disp p (.tail _ m) i e
 tab:=λq m=>(F.tab q m).casesOn λps h1 h2=>⟨ps,V8 h1 λe=>F.tabp q m (a,o) (.head _) e.symm,h2⟩
 tabρ:=F.tabρ
 tabt:=F.tabt
 tabp:=λq m p mp=>by
  rcases mcM mp with rfl|mp
  · exact F.tabp q m (a,o) (.head _)
  · exact F.tabp q m p (.tail _ mp)
 tlp:=λq m p mp=>by
  rcases mcM m with rfl|m
  · exact F.tlp (a,o) (.head _) p mp
  · exact F.tlp q (.tail _ m) p mp
 pnd:=by
  have:=F.pnd;rw[QM] at this ⊢
  exact this
end
noncomputable def Fm.pinned (f:Fm) (p:Addr×Obj):Fm:={ f with pin:=p::f.pin }
section
variable {c:Cx}{d:Nat}{f:Fm}{W:Wd}{σ:Store}{en:En}{s:Shared}{m:Str->Option Value}{N:NwT}
theorem Fm.Ok.pinned {A:Around}(ok:f.Ok c A d)(p:Addr×Obj):(f.pinned p).Ok c A d:={ ok with cmp:=λq h=>⟨.tail _ (ok.cmp q h).1,(ok.cmp q h).2⟩ }
theorem St.pinNew (S:St c f W σ en s m N){h' : Heap}{t:Nat}{a:Addr}{o:Obj}(F:Fr f.h₀ f.L h' m)(X:News f.h₀ f.L h' ((a,o)::N))(hn:∀ p∈N,p.1<a)(ht:0<t) :
  St c (f.pinned (a,o)) W σ en { s with heap:=h',toks:=t } m ((a,o)::N):=⟨F,X,S.fa.pinNew hn,S.env,S.cel,S.gens,S.drawn,S.os,ht,S.oenv⟩
theorem St.unpin {p:Addr×Obj}(S:St c (f.pinned p) W σ en s m N):St c f W σ en s m N:=⟨S.F,S.nw,S.fa.unpin,S.env,S.cel,S.gens,S.drawn,S.os,S.pos,S.oenv⟩
theorem St.pinTurn {a:Addr}{o o' : Obj}(S:St c (f.pinned (a,o)) W σ en s m N){h' : Heap}{t:Nat}(e:h'.get? a=some o')(hs:WJ a s.heap h')(ht:0<t) :
  St c (f.pinned (a,o')) W σ en { s with heap:=h',toks:=t } m (turnN N a o'):=
 have hm:=S.fa.pn (a,o) (.head _)
 ⟨S.F.change hs (S.nw _ hm).2.1 (S.nw _ hm).2.2,M3 S.nw hm e hs,S.fa.pinTurn,S.env,S.cel,S.gens,S.drawn,S.os,ht,S.oenv⟩
theorem St.pinDrop {a:Addr}{o:Obj}(S:St c (f.pinned (a,o)) W σ en s m N){h' : Heap}{t:Nat}(hs:Heap.ExtBut a s.heap h')(ht:0<t) :
  St c f W σ en { s with heap:=h',toks:=t } m (N.filter λp=>decide (p.1≠a)):=by
 have hm:=S.fa.pn (a,o) (.head _)
 have hz:=S.nw _ hm
 have keep:∀ {p:Addr×Obj},p∈N->p.1≠a->p∈N.filter λp=>decide (p.1≠a):=λh h'=>JZ.mpr ⟨h,decide_eq_true h'⟩
 have F:=S.fa
 have hsL:∀ o,s.heap.get? f.L=some o->h'.get? f.L=some o:=λo e=>hs _ _ (λq=>hz.2.1 q.symm) e
 refine⟨⟨?_,λb o e=>hs _ _ (λq=>?_) (S.F.keep b o e),S.F.above⟩,λp hp=>?_,?_,S.env,S.cel,S.gens,S.drawn,S.os,ht,S.oenv⟩
 · exact Heap.Ns.at' S.F.ns hsL
 · subst q
   have z:f.h₀.get? b=none:=hz.2.2;rw[e] at z;cases z
 · obtain⟨h1,h2⟩:=JZ.mp hp
   exact⟨hs _ _ (of_decide_eq_true h2) (S.nw p h1).1,(S.nw p h1).2⟩
 · exact {
    len:=F.len
    own:=λi ao e=>(F.own i ao e).casesOn λb ob h1 h2 h3=>⟨b,ob,h1,keep h2 λq=>F.disp (a,o) (.head _) i (by rw[h1];exact congrArg some q),h3⟩
    tl:=λp m=>keep (F.tl p m) (F.tlp (a,o) (.head _) p m)
    pn:=λp m=>keep (F.pn p (.tail _ m)) λq=>by
     have:=F.pnd;have e:((f.pinned (a,o)).pin.map λx=>x.1)=a::f.pin.map λx=>x.1:=rfl
     rw[e,J6] at this;exact this.1 (Jz.mpr ⟨p,m,q⟩)
    inj:=F.inj
    dis:=F.dis
    disp:=λp m=>F.disp p (.tail _ m)
    tab:=λq m=>(F.tab q m).casesOn λps h1 h2=>⟨ps,keep h1 λe=>F.tabp q m (a,o) (.head _) e.symm,h2⟩
    tabρ:=F.tabρ
    tabt:=F.tabt
    tabp:=λq m p mp=>F.tabp q m p (.tail _ mp)
    tlp:=λq m=>F.tlp q (.tail _ m)
    pnd:=F.unpin.pnd }
inductive Src where
 |list (i:Nat)
 |tup (l:List AV)
 |range (n:Int)
 |str (x:Str)
 |byt (b:Array UInt8)
noncomputable def onE {α:Type} (o:Option α) (f:α->AV):Option (Option AV):=match o with
 |some c=>some (some (f c))
 |none=>some none
def nextF (src:Src)(k:Nat)(σ:Store):Option (Option AV):=match src with
 | .list i=>onList σ[i]? λl=>some l[k]?
 | .tup l=>some l[k]?
 | .range n=>if (k:Int)<n then some (some (.int k)) else some none
 | .str x=>onE x.cps[k]? λc=>.str ⟨#[c]⟩
 | .byt b=>onE b[k]? λc=>.int (c.toNat:Nat)
theorem oE {α:Type}{P:Prop}{o:Option α}{f:α->AV}{a:AV}(q:onE o f=some (some a))(k:∀ c,o=some c->f c=a->P):P:=by
 cases o with
 |none=>cases q
 |some c=>exact k c rfl (soI (soI q))
theorem oE0 {α:Type}{o:Option α}{f:α->AV}(q:onE o f=some none):o=none:=by
 cases o with
 |none=>rfl
 |some c=>cases q
inductive ItAt (c:Cx)(W:Wd):Src->Nat->Obj->Prop
 |list {i k:Nat} {x:Addr} {o:Obj}:W.ρ[i]? = some x->o.cls = .type "list_iterator"->o.data = .fields #[.ref x,.int k 0]->ItAt c W (.list i) k o
 |tup {l:List AV} {vs:List Value} {t:Addr} {n k:Nat} {o:Obj}:(t,tupObj vs n)∈W.tl->RelL c.lam W l vs->o.cls = .type "tuple_iterator"->o.data = .fields #[.ref t,.int k 0]->ItAt c W (.tup l) k o
 |range {n:Int} {k:Nat}:ItAt c W (.range n) k { cls:=.type "range_iterator",dict:=none,data:=.fields #[rawInt k,rawInt (n - k),rawInt 1],slots := #[] }
 |str {x:Str} {t:Tok} {k:Nat} {o:Obj}:o.cls = .type "str_ascii_iterator"->o.data = .fields #[.str x t,.int k 0]->ItAt c W (.str x) k o
 |byt {b:Array UInt8} {t:Tok} {k:Nat} {o:Obj}:o.cls = .type "bytes_iterator"->o.data = .fields #[.bytes b t,.int k 0]->ItAt c W (.byt b) k o
theorem ItAt.mono {W W' : Wd}(h:W.le W'){src:Src}{k:Nat}{o:Obj}(r:ItAt c W src k o):ItAt c W' src k o:=by
 cases r with
 |list e a b=>exact .list (h.1 _ _ e) a b
 |tup m r a b=>exact .tup (h.2 _ m) (r.mono h) a b
 |range=>exact .range
 |str a b=>exact .str a b
 |byt a b=>exact .byt a b
theorem letGo_plain {A:Around}{E:Value->Shared->Prop}{target:PySem.Expr}{I:Addr}{v:Value}{Q:Unit->Shared->Prop}{o:Obj}{M:Model}{n:String}{fs:Array Value}(ho:s.heap.get? I=some o)(hc:o.cls = .type n)(hd:o.data = .fields fs)
  (hn:["enumerate","zip","dict_itemiterator","dict_reverseitemiterator","odict_iterator","itertools.zip_longest","itertools.pairwise"].contains n=false) (h:Q () s):wpAny M A (letOwnedTupleGo target (.ref I) v) Q E s:=by
 have key:wpAny M A (do
   let (.ref r,.ref a):=(Value.ref I,v)|return
   let o ← load r
   match o.cls,o.data with
   | .type n,.fields vs=>
    if ["enumerate","zip","dict_itemiterator","dict_reverseitemiterator","odict_iterator","itertools.zip_longest","itertools.pairwise"].contains n&&vs[0]? == some (rawInt a) then
     rule "for.unpacks-the-owned-tuple"
     updateField r 0 .none
   |_,_=>pure ()) Q E s:=by
  cases v<;>first
   |exact Qk h
   | (refine QZ (wpAny_load ho ?_)
      rw[hc,hd];show wpAny _ _ (if _ then _ else _) _ _ _
      rw[hn];exact Qk h)
 cases target<;>first
  |exact Qk h
  |exact key
theorem ItAt.is {src:Src}{k:Nat}{o:Obj}(h:ItAt c W src k o):∃ n fs,o.cls = .type n∧o.data = .fields fs∧["enumerate","zip","dict_itemiterator","dict_reverseitemiterator","odict_iterator","itertools.zip_longest","itertools.pairwise"].contains n=false:=by
 cases h with
 |list e hc hd=>exact⟨_,_,hc,hd,by decide⟩
 |tup e r hc hd=>exact⟨_,_,hc,hd,by decide⟩
 |range=>exact⟨_,_,rfl,rfl,by decide⟩
 |str hc hd=>exact⟨_,_,hc,hd,by decide⟩
 |byt hc hd=>exact⟨_,_,hc,hd,by decide⟩
theorem letGo_it {A:Around}{E:Value->Shared->Prop}{target:PySem.Expr}{I:Addr}{v:Value}{Q:Unit->Shared->Prop}{src:Src}{k:Nat}{o:Obj}{M:Model}(hit:ItAt c W src k o)(ho:s.heap.get? I=some o)(h:Q () s) :
  wpAny M A (letOwnedTupleGo target (.ref I) v) Q E s:=
 let ⟨_,_,hc,hd,hn⟩:=hit.is
 letGo_plain ho hc hd hn h
theorem next_some {A:Around}{E:Value->Shared->Prop}{Q:Option Value->Shared->Prop}{I:Addr}{o:Obj}{src:Src}{k:Nat}{a:AV}(S:St c (f.pinned (I,o)) W σ en s m N)(hit:ItAt c W src k o)(q:nextF src k σ=some (some a))
  (h:∀ v s' o' N',St c (f.pinned (I,o')) W σ en s' m N'->ItAt c W src (k+1) o'->s'.heap.get? I=some o'->Rel c.lam W a v->Q (some v) s'):wpAny (model c.prog c.w) A (pyNext (.ref I)) Q E s:=by
 have hI:=(S.nw _ (S.fa.pn (I,o) (.head _))).1
 cases hit with
 |list e hc hd=>
  refine U1 q λl h1 q=>S.fa.atList e h1 λvs n rl h2=>?_
  refine xe12 (rl.get (soI q)) λv g1 g2=>?_
  exact wpAny_pyNext_list_item ⟨o,hI,hc,hd⟩ (J9 S h2) (by simpa using g1) λh' ⟨o',ho',hc',hd'⟩ hs=>h v _ o' _ (S.pinTurn (t:=s.toks) ho' hs S.pos) (.list e hc' hd') ho' g2
 |tup e r hc hd=>
  refine xe12 (r.get (soI q)) λv g1 g2=>?_
  exact wpAny_pyNext_tuple_item ⟨o,hI,hc,hd⟩ (Vq S.nw (S.fa.tl _ e)) (by simpa using g1) λh' ⟨o',ho',hc',hd'⟩ hs=>h v _ o' _ (S.pinTurn (t:=s.toks) ho' hs S.pos) (.tup e r hc' hd') ho' g2
 |range=>
  rename_i n
  refine oif q (λhk q=>wpAny_pyNext_range_item (x:=(k:Int)) (left:=n - k) (step:=1) hI (by omega) λh' hi hs=>?_) λq=>nomatch q
  have e1:((k:Int)+1)=((k+1:Nat):Int):=rfl;have e2:n - (k:Int) - 1=n - ((k+1:Nat):Int):=by omega
  rw[e1,e2] at hi;exact h _ _ _ _ (S.pinTurn (t:=s.toks+1) hi hs (Qq _)) .range hi (soI (soI q)▸.int _ _)
 |str hc hd=>exact oE q λx hx e=>wpAny_pyNext_ascii_item ⟨o,hI,hc,hd⟩ hx λh' ⟨o',ho',hc',hd'⟩ hs=>h _ _ o' _ (S.pinTurn (t:=s.toks+1) ho' hs (Qq _)) (.str hc' hd') ho' (e▸.str _ _)
 |byt hc hd=>exact oE q λx hx e=>KBw.next_item ⟨o,hI,hc,hd⟩ hx λh' ⟨o',ho',hc',hd'⟩ hs=>h _ _ o' _ (S.pinTurn (t:=s.toks+1) ho' hs (Qq _)) (.byt hc' hd') ho' (e▸.int _ _)
theorem next_none {A:Around}{E:Value->Shared->Prop}{Q:Option Value->Shared->Prop}{I:Addr}{o:Obj}{src:Src}{k:Nat}(hh:A.handled=none)(S:St c (f.pinned (I,o)) W σ en s m N)(hit:ItAt c W src k o)(q:nextF src k σ=some none)
  (h:∀ s' N',St c f W σ en s' m N'->Q none s'):wpAny (model c.prog c.w) A (pyNext (.ref I)) Q E s:=by
 have hI:=(S.nw _ (S.fa.pn (I,o) (.head _))).1
 have h:∀ h',Heap.ExtBut I s.heap h'->Q none { s with heap:=h' }:=λh' hs=>h _ _ (S.pinDrop (t:=s.toks) hs S.pos)
 cases hit with
 |list e hc hd=>
  refine U1 q λl h1 q=>S.fa.atList e h1 λvs n rl h2=>wpAny_pyNext_list_end hh ⟨o,hI,hc,hd⟩ (J9 S h2) ?_ h
  rw[NJ,Q0,← rl.length];exact UX.mp (soI q)
 |tup e r hc hd=>
  refine wpAny_pyNext_tuple_end hh ⟨o,hI,hc,hd⟩ (Vq S.nw (S.fa.tl _ e)) ?_ h;rw[NJ,Q0,← r.length]
  exact UX.mp (soI q)
 |range=>
  rename_i n
  by_cases hk:(k:Int)<n
  · cases (if_pos (c:=(k:Int)<n) hk).symm.trans q
  · exact wpAny_pyNext_range_end (x:=(k:Int)) (left:=n - k) (step:=1) hh hI (by omega) h
 |str hc hd=>exact wpAny_pyNext_ascii_end hh ⟨o,hI,hc,hd⟩ (oE0 q) h
 |byt hc hd=>exact KBw.next_end hh ⟨o,hI,hc,hd⟩ (oE0 q) h
end
end
section
open PySem.SeqAt
noncomputable def forM (MA:MdA) (M:MdS) (src:Src):Nat->Nat->MdS
 |0,_=>λZ Z=>none
 |n+1,k=>λen σ=>onN (nextF src k σ) (some (.next,en,σ)) λa=>on2 (MA a en σ) λen₁ σ₁=>on3 (M en₁ σ₁) λx enB σ₂=>match x with
    | .next=>forM MA M src n (k+1) enB σ₂
    | .brk=>some (.next,enB,σ₂)
    | .ret r=>some (.ret r,enB,σ₂)
section
variable {c:Cx}{d:Nat}{f:Fm}
inductive LpI (c:Cx)(f:Fm)(MA:MdA)(M:MdS)(src:Src)(x:Fl)(en' : En)(σ' : Store)(W:Wd)(I:Addr)(n:Nat)(s:Shared):Prop
 |mk (k:Nat) (W' : Wd) (m:Str->Option Value) (N:NwT) (o:Obj) (en:En) (σ:Store) (w:W.le W') (S:St c (f.pinned (I,o)) W' σ en s m N) (hit:ItAt c W' src k o) (q:forM MA M src n k en σ=some (x,en',σ'))
theorem loop_wp {target:PySem.Expr}{body:List Stmt}{MA:MdA}{M:MdS}{src:Src}(n:Nat)(ha:∀ p,SA c d (f.pinned p) target MA)(hb:∀ p,SB c d (f.pinned p) body M)
  {A:Around} {W:Wd} {s:Shared} {σ:Store} {en:En} {x:Fl} {en' : En} {σ' : Store} {m:Str->Option Value} {N:NwT} {I:Addr} {o:Obj} {R:Result->Shared->Prop}
  (ok:f.Ok c A d) (S:St c (f.pinned (I,o)) W σ en s m N) (hit:ItAt c W src 0 o) (q:forM MA M src n 0 en σ=some (x,en',σ')) (hR:∀ fl s',PostS c f W x en' σ' fl s'->R (.ok fl) s') :
  codeAny (model c.prog c.w) A (.forLoop target (.ref I) body [] f.env) R s:=by
 refine codeAny_forLoop_any (LpI c f MA M src x en' σ' W I) (λn' s₁ h=>?_) n ⟨0,W,m,N,o,en,σ,.refl W,S,hit,q⟩
 obtain⟨k,WA,m₁,NA,oA,en₁,σ₁,w₁,S₁,hitA,qA⟩:=h
 cases n' with
 |zero=>exact nos qA
 |succ n' =>
  refine oN qA (λqn q=>by cases q;exact next_none ok.handled S₁ hitA qn λsB NB S₂=>NV (hR _ _ ⟨WA,m₁,NB,w₁,S₂,.next⟩)) λa qn q=>om q λenB σ₂ qa q=>om3 q λy enD σD qb q=>?_
  refine next_some S₁ hitA qn λv sB oB NB S₂ hitB hIB rB=>letGo_it hitB hIB ?_
  refine Qz (ha (I,oB) A WA sB σ₁ en₁ a v enB σ₂ m₁ NB _ (ok.pinned _) S₂ rB qa) (λ_ sC ⟨WC,m₃,N₃,wC,S₃⟩=>?_) λZ Z x=>x
  refine post (hb (I,oB) A WC sC σ₂ enB y enD σD m₃ N₃ _ (ok.pinned _) S₃ qb) λfl sD WD mD ND wD S₄ rD=>?_
  have w:=(w₁.trans wC).trans wD
  cases rD with
  |next=>exact⟨n',J3 n',k+1,WD,mD,ND,oB,enD,σD,w,S₄,hitB.mono (wC.trans wD),q⟩
  |brk=>cases q;exact hR _ _ ⟨WD,mD,ND,w,S₄.unpin,.next⟩
  |ret r=>cases q;exact hR _ _ ⟨WD,mD,ND,w,S₄.unpin,.ret r⟩
noncomputable def notSet:PySem.Expr->Bool
 | .Set .. => false
 |_=>true
theorem M7 {e:PySem.Expr}{env:Env}{x:Value}(h:notSet e=true):foldedSetIterable e env x=pure x:=by
 cases e<;>first|rfl|exact nos h|exact nof h|cases h
def srcOf (a:AV)(σ:Store):Option Src:=match a with
 | .ref i=>onList σ[i]? λZ=>some (.list i)
 | .tup l=>some (.tup l)
 | .str x=>if x.cps.all (· < 128) then some (.str x) else none
 | .byt b=>some (.byt b)
 |_=>none
theorem iter_wp {A:Around}{E:Value->Shared->Prop}{Q:Value->Shared->Prop}{W:Wd}{σ:Store}{en:En}{s:Shared}{m:Str->Option Value}{N:NwT}{a:AV}{v:Value}{src:Src}(S:St c f W σ en s m N)(r:Rel c.lam W a v)(q:srcOf a σ=some src)
  (h:∀ I o s' N',St c (f.pinned (I,o)) W σ en s' m N'->ItAt c W src 0 o->Q (.ref I) s'):wpAny (model c.prog c.w) A (pyIter v) Q E s:=by
 have key:∀ o,o.isFreed=false->ItAt c W src 0 o->Q (.ref s.heap.objs.size) { s with heap:=s.heap.push o }:=λo hf hit=>h _ _ _ _ (S.pinNew (t:=s.toks) (S.F.push _) (News.push S.F S.nw _ hf) S.lt S.pos) hit
 cases a with
 |ref i=>exact rRef (G:=λv=>wpAny (model c.prog c.w) A (pyIter v) Q E s) r λx hx=>U1 q λl h1 q=>S.fa.atList hx h1 λvs n rl h2=>wpAny_pyIter_list (J9 S h2) (key _ rfl (soI q▸.list hx rfl rfl))
 |tup l=>exact rTup (G:=λv=>wpAny (model c.prog c.w) A (pyIter v) Q E s) r λvs b n hm rl=>wpAny_pyIter_tuple (Vq S.nw (S.fa.tl _ hm)) (key _ rfl (soI q▸.tup hm rl rfl rfl))
 |str x=>exact rStr (G:=λv=>wpAny (model c.prog c.w) A (pyIter v) Q E s) r λt=>oi q λha q=>wpAny_pyIter_ascii ha (key _ rfl (soI q▸.str rfl rfl))
 |byt b=>exact rByt (G:=λv=>wpAny (model c.prog c.w) A (pyIter v) Q E s) r λt=>KBw.pyIter_bytes (key _ rfl (soI q▸.byt rfl rfl))
 |_=>exact nos q
def forStM (M:Md)(MA:MdA)(MB:MdS)(n:Nat):MdS:=λen σ=>on2 (M en σ) λa σ₁=>on1 (srcOf a σ₁) λsrc=>forM MA MB src n 0 en σ₁
theorem ss_for {target iter:PySem.Expr}{body:List Stmt}{pos:Pos}{M:Md}{MA:MdA}{MB:MdS}(n:Nat)(hi:SE c d f iter M)(ha:∀ p,SA c d (f.pinned p) target MA)(hb:∀ p,SB c d (f.pinned p) body MB)(hs:notSet iter=true) :
  SS c d f (.For target iter body [] pos) (forStM M MA MB n):=by
 intro A W s σ en x en' σ' m N E ok S q
 refine om q λa σ₁ q1 q=>om1 q λsrc q2 q=>wpAny_For (post (hi A W s σ en a σ₁ m N E ok S q1) λv s₁ WA m₁ NA w₁ S₁ rA=>?_) λZ=>M7 hs
 exact iter_wp S₁ rA q2 λI o sB NB S₂ hit=>loop_wp n ha hb ok S₂ hit q λfl s' p=>p.up w₁
def forRangeM (M:Md)(MA:MdA)(MB:MdS)(n:Nat):MdS:=λen σ=>on2 (M en σ) λa σ₁=>onInt a λi=>if 0≤i∧i≤1000000 then forM MA MB (.range i) n 0 en σ₁ else none
theorem small_is {i:Int}(h0:0≤i)(h:i≤1000000):Builtin.Range.small 0 i 1=true:=by
 have fits:∀ k:Int,0≤k->k≤1000000->Builtin.Range.rangeFitsLong k=true:=λk h0 h1=>by
  unfold Builtin.Range.rangeFitsLong;simp
  omega
 have e:Builtin.Range.rangeSize 0 i 1=i:=by rw[rangeSize_nat];omega
 unfold Builtin.Range.small
 simp[e,fits 0 (by decide) (by decide),fits i h0 h,fits 1 (by decide) (by decide)]
theorem ss_for_range {target fe e:PySem.Expr}{body:List Stmt}{cpos pos:Pos}{M:Md}{MA:MdA}{MB:MdS}(n:Nat)(hf:SE c d f fe (λZ σ=>some (.glob (.type "range"),σ)))(hn:notAttr fe=true)(hne:notStar e=true)(hi:SE c d f e M)(ha:∀ p,SA c d (f.pinned p) target MA)(hb:∀ p,SB c d (f.pinned p) body MB) :
  SS c d f (.For target (.Call fe [e] [] cpos) body [] pos) (forRangeM M MA MB n):=by
 intro A W s σ en x en' σ' m N E ok S q
 refine om q λa σ₁ q1 q=>wpAny_For (Call_ (post (hf A W s σ en _ σ m N E ok S rfl) λgv s₁ WA m₁ NA w₁ S₁ rA=>Gw rA ?_) (N8 hn)) λZ=>M7 rfl
 refine callWith_of (P:=λh=>KeepOk (model c.prog c.w) h (.type "range")) (by rw[UW cpos [e] f.env (by rw[JX,hne];rfl)];rfl) (λh k=>k) (VX (es:=[e]) (by rw[JX,hne];rfl) ?_)
 refine UJ (post (hi A WA s₁ σ en _ σ₁ m₁ NA _ ok S₁ q1) λv sB WB mB NB wB S₂ rB=>VJ q rB λi t Z q=>oi q λhi' q=>?_) (UV hne)
 refine H4 ⟨⟨.machine,.inr (.inl rfl),Looks.of_pure rfl⟩,?_⟩
 refine J5 S₂.pos (range1_rows S₂.F S₂.nw λh' tk tA uA vA hr F' X' hk htk=>wpAny_pyIter_range hr (small_is hi'.1 hi'.2) ?_)
 have S₃:=S₂.same (t:=tk) F' X' htk
 have e1:Builtin.Range.rangeSize 0 i 1=i - ((0:Nat):Int):=by rw[rangeSize_nat];omega
 rw[e1]
 exact loop_wp n ha hb ok (S₃.pinNew (t:=tk) (S₃.F.push _) (News.push S₃.F S₃.nw _) S₃.lt htk) .range q λfl s' p=>p.up (w₁.trans wB)
end
end
section
open PySem.SeqAt
section
variable {c:Cx}{d:Nat}{f:Fm}
def subA (MO MI:Md):MdA:=λb en σ=>on2 (MO en σ) λo σ₁=>on2 (MI en σ₁) λi σ₂=>on1 (setItemF o i b σ₂) λσC=>some (en,σC)
theorem sa_sub {o i:PySem.Expr}{pos:Pos}{MO MI:Md}(ho:SE c d f o MO)(hi:SE c d f i MI):SA c d f (.Subscript o i pos) (subA MO MI):=by
 intro A W s σ en b w en' σ' m N E ok S rb q
 refine om q λx σ₁ q1 q=>om q λy σ₂ q2 q=>om1 q λσC q3 q=>oe2 q ?_
 rw[assign_Subscript]
 refine QZ (J8 (post (ho A W s σ _ x σ₁ m N E ok S q1) λv s₁ WA m₁ NA w₁ S₁ rA=>?_))
 refine QZ (J8 (post (hi A WA s₁ σ₁ _ y σ₂ m₁ NA E ok S₁ q2) λvi sB WB mB NB wB S₂ rB=>?_))
 refine QZ (wpAny_standAt ?_)
 refine QZ (J8 (Qz (PM S₂ (rA.mono wB) rB (rb.mono (w₁.trans wB)) q3) (λZ sC p=>?_) λZ Z x=>x))
 exact wpAny_release (p.up (w₁.trans wB))
def asgSubM (M MO MI:Md):MdS:=λen σ=>on2 (M en σ) λb σZ=>on2 (subA MO MI b en σZ) λen' σC=>some (.next,en',σC)
theorem ss_assign_sub {o i e:PySem.Expr}{pos' pos:Pos}{M MO MI:Md}(h:SE c d f e M)(ho:SE c d f o MO)(hi:SE c d f i MI)(hc:notComp e=true):SS c d f (.Assign [.Subscript o i pos'] e pos) (asgSubM M MO MI):=by
 intro A W s σ en x en' σ' m N E ok S q
 refine om q λb σZ q0 q=>om q λen₁ σ₁ q1 q=>oe3 q (om q1 λx σ₂ q2 q1=>om q1 λy σC q3 q1=>om1 q1 λσD q4 q1=>oe2 q1 ?_)
 refine wpAny_Assign_Subscript (post (h A W s σ _ b σZ m N E ok S q0) λw s₁ WA m₁ NA w₁ S₁ rA=>?_) (HU hc)
 refine post (ho A WA s₁ σZ _ x σ₂ m₁ NA E ok S₁ q2) λv sB WB mB NB wB S₂ rB=>?_
 refine post (hi A WB sB σ₂ _ y σC mB NB E ok S₂ q3) λvi sC WC m₃ N₃ wC S₃ rC=>?_
 exact Qz (PM S₃ (rB.mono wC) rC (rA.mono (wB.trans wC)) q4) (λ_ sD ⟨WD,mD,ND,wD,S₄⟩=>⟨WD,mD,ND,((w₁.trans wB).trans wC).trans wD,S₄,.next⟩) λZ Z x=>x
theorem se_dict0 {pos:Pos}:SE c d f (.Dict [] [] pos) (λZ σ=>some (.ref σ.length,σ++[.dict []])):=by
 intro A W s σ en a σ' m N E ok S q
 refine oe2 q (wpAny_Dict_empty ?_)
 exact⟨_,_,_,W.le_made _,S.made (t:=s.toks) (ao:=.dict []) (S.F.push _) (News.push S.F S.nw _) S.lt (.dict .nil) S.pos,.ref (by rw[← S.fa.len];exact W.made_at _)⟩
theorem se_dict2 {x y:Str}{n1 n2 n3 n4:Nat}{p1 p2 p3 p4 pos:Pos}(hxy:x≠y) :
  SE c d f (.Dict [some (.Constant (.str x) n1 p1),some (.Constant (.str y) n2 p2)] [.Constant .none n3 p3,.Constant .none n4 p4] pos) (λZ σ=>some (.ref σ.length,σ++[.dict [(x,.none),(y,.none)]])):=by
 intro A W s σ en a σ' m N E ok S q
 refine oe2 q ?_
 refine Dict_made_str rfl S.F rfl rfl (λh=>nomatch h) (show 2≤15 by decide) λFA=>?_
 have XA:=News.push S.F S.nw { cls:=.type "dict",data:=.dict #[] }
 refine pairTrees_cons_walk ?_
 rw[arm_eval_Constant]
 refine Nk ?_
 rw[arm_eval_Constant]
 refine Qk ?_
 refine pairTrees_cons_walk ?_
 rw[arm_eval_Constant]
 refine Nk ?_
 rw[arm_eval_Constant]
 refine Qk ?_
 refine pairTrees_nil_walk ?_
 refine⟨[(x,.none),(y,.none)],⟨strKind_is c.prog c.w x _,rfl,strKind_is c.prog c.w y _,rfl,trivial⟩,?_,λh' hd hs=>?_⟩
 · exact⟨_,#[],0,KK _ rfl,⟨rfl,rfl,rfl⟩,rfl,(λe he=>by simp at he),.nil,List.nodup_nil⟩
 · have em:merged [] [(x,Value.none),(y,Value.none)]=[(x,.none),(y,.none)]:=by
    simp[merged,stored,hxy]
   rw[em] at hd;refine xe12 (Heap.dictOf_iff.mp hd) λo' ho' hd'=>?_
   have hz:=XA _ (.head _);have F' : Fr f.h₀ f.L h' m:=FA.change hs hz.2.1 hz.2.2
   have X' : News f.h₀ f.L h' ((s.heap.objs.size,o')::N):=λp hp=>by
    rcases mcM hp with rfl|hp
    · exact⟨ho',hz.2⟩
    · exact⟨(hs.2 p.1 (VV (S.lt p hp))).trans (XA p (.tail _ hp)).1,(S.nw p hp).2⟩
   refine⟨_,_,_,W.le_made _,S.made (ao:=.dict [(x,.none),(y,.none)]) F' X' S.lt (dictOf_is hd' rfl (.cons .none (.cons .none .nil))) (Qq _),.ref (by rw[← S.fa.len];exact W.made_at _)⟩
end
end
section
open PySem.SeqAt
section
variable {c:Cx}{d:Nat}{f:Fm}{W:Wd}{σ:Store}{en:En}{s:Shared}{m:Str->Option Value}{N:NwT}
theorem Facts.swap {p q:Addr×Obj}{pin:NwT}(F:Facts c (p::q::pin) W σ N):Facts c (q::p::pin) W σ N:=
 have sw:∀ {x:Addr×Obj},x∈q::p::pin->x∈p::q::pin:=λh=>by
  rcases mcM h with rfl|h
  · exact .tail _ (.head _)
  · rcases mcM h with rfl|h
    · exact .head _
    · exact .tail _ (.tail _ h)
 { F with
   pn:=λx m=>F.pn x (sw m)
   disp:=λx m=>F.disp x (sw m)
   tabp:=λy m x mp=>F.tabp y m x (sw mp)
   tlp:=λx m=>F.tlp x (sw m)
   pnd:=by
    have:=F.pnd;simp only[QM,J6,U8,not_or] at this ⊢
    exact⟨⟨λe=>this.1.1 e.symm,this.2.1⟩,this.1.2,this.2.2⟩ }
noncomputable def Fm.inComp (f:Fm) (en:En) (cs:Scope) (cl:List (Str×Addr)) (xs ys:List Str) (env:Env) (C:Addr) (lobj:Obj) (mC:Str->Option Value):Fm:=
 { f with cs:=cs,cl:=cl,xs:=xs,ys:=ys,pin:=(C,lobj)::f.pin,env:=env,comp:=some (C,lobj,mC),oxs:=f.xs,oloc:=en.loc }
noncomputable def selfOk:Src->Bool
 | .range _=>false
 |_=>true
theorem self_it {A:Around}{E:Value->Shared->Prop}{Q:Value->Shared->Prop}{I:Addr}{o:Obj}{src:Src}{k:Nat}(hs:selfOk src=true)(hit:ItAt c W src k o)(ho:s.heap.get? I=some o)(h:Q (.ref I) s):wpAny (model c.prog c.w) A (pyIter (.ref I)) Q E s:=by
 cases hit with
 |list e hc hd=>exact wpAny_pyIter_listiter ⟨o,ho,hc,hd⟩ h
 |tup e r hc hd=>exact wpAny_pyIter_tupleiter ⟨o,ho,hc,hd⟩ h
 |range=>exact nof hs
 |str hc hd=>exact wpAny_pyIter_striter_ascii ⟨o,ho,hc,hd⟩ h
 |byt hc hd=>exact KBw.pyIter_self ⟨o,ho,hc,hd⟩ h
noncomputable def compM (M:Md) (T:MdB) (src:Src) (D:Nat) (cel:List AV):Nat->Nat->Store->Option Store
 |0,_=>λZ=>none
 |n+1,k=>λσ=>onN (nextF src k σ) (some σ) λa=>on2 (T ⟨[some a],cel⟩ σ) λt σ₁=>
   if t then on2 (M ⟨[some a],cel⟩ σ₁) λb σ₂=>on2 (appendF [.ref D,b] σ₂) λZ σC=>compM M T src D cel n (k+1) σC else compM M T src D cel n (k+1) σ₁
def SI (c:Cx)(d:Nat)(f:Fm)(ifs:List PySem.Expr)(T:MdB):Prop:=
 ∀ (A:Around) (W:Wd) (s:Shared) (σ:Store) (en:En) (b:Bool) (σ' : Store) (m:Str->Option Value) (N:NwT) (E:Value->Shared->Prop),
  f.Ok c A d->St c f W σ en s m N->T en σ=some (b,σ') ->
  wpAny (model c.prog c.w) A (forIn ifs true λc r=>if r=true then do let ok ← isTrue c f.env (eval c f.env);pure (ForInStep.yield ok) else pure (ForInStep.yield r)) (PostB c f W en b σ') E s
theorem si_nil:SI c d f [] (λZ σ=>some (true,σ)):=by
 intro A W s σ en b σ' m N E ok S q
 cases q
 exact Qk ⟨W,m,N,.refl W,S,rfl⟩
theorem si_one {t:PySem.Expr}{T:MdB}(h:ST c d f t T):SI c d f [t] T:=by
 intro A W s σ en b σ' m N E ok S q
 rw[List.forIn_cons]
 refine QZ ?_
 rw[if_pos rfl]
 refine QZ (Qz (h A W s σ en b σ' m N E ok S q) (λb' s' p=>Qk ?_) λZ Z x=>x)
 dsimp only
 rw[List.forIn_nil]
 exact Qk p
theorem St.swap {p q:Addr×Obj}(S:St c ((f.pinned p).pinned q) W σ en s m N):St c ((f.pinned q).pinned p) W σ en s m N:=
 ⟨S.F,S.nw,S.fa.swap,S.env,S.cel,S.gens,S.drawn,S.os,S.pos,S.oenv⟩
theorem comp_store {A:Around}{E:Value->Shared->Prop}{eZ eA:En}{cs:Scope}{cl:List (Str×Addr)}{x:Str}{ys:List Str}{env:Env}{C:Addr}{lobj:Obj}{mC:Str->Option Value}{I:Addr×Obj}{a:AV}{v:Value}
  (S:St c ((f.inComp eZ cs cl [x] ys env C lobj mC).pinned I) W σ eA s m N) (hC:∀ h:Heap,h.get? C=some lobj->h.Ns C mC) (hl:env.locals=C) (hk:env.kindOf x=some .local) (hf:env.scope.kind = .function) (r:Rel c.lam W a v)
  {Q:Unit->Shared->Prop} (hQ:∀ s' lobj' mC' N',St c ((f.inComp eZ cs cl [x] ys env C lobj' mC').pinned I) W σ ⟨[some a],eA.cel⟩ s' m N'->(∀ h:Heap,h.get? C=some lobj'->h.Ns C mC')->Q () s'):wpAny (model c.prog c.w) A (storeName env x v) Q E s:=by
 have hm:=S.fa.pn (C,lobj) (.tail _ (.head _))
 have g:=S.nw _ hm
 refine Gz hk (by rw[hl];exact hC _ g.1) (λh' hns hs=>?_) (by rw[hf];rfl)
 rw[hl] at hns hs
 refine xe32 hns λo' es ep ho' hr=>?_
 have F:=S.fa.swap.pinTurn (o' := o') |>.swap
 refine hQ _ o' _ _ ⟨S.F.change hs g.2.1 g.2.2,M3 S.nw hm ho' hs,F,?_,S.cel,S.gens,S.drawn,S.os,Qq _,S.oenv⟩ λh e=>⟨o',es,ep,e,hr⟩
 refine⟨rfl,λi y b e1 e2=>?_⟩
 cases i with
 |zero=>
  cases e1;cases e2
  exact⟨v,if_pos rfl,r⟩
 |succ i=>exact nos e1
inductive CpI (c:Cx)(f:Fm)(eZ:En)(cs:Scope)(cl:List (Str×Addr))(x:Str)(ys:List Str)(env:Env)(C:Addr)(M:Md)(T:MdB)(src:Src)(D:Nat)(cel:List AV)(σ' : Store)(W:Wd)(I:Addr)(n:Nat)(s:Shared):Prop
 |mk (k:Nat) (W' : Wd) (m:Str->Option Value) (N:NwT) (o lobj:Obj) (mC:Str->Option Value) (e:En) (σ:Store) (w:W.le W') (S:St c ((f.inComp eZ cs cl [x] ys env C lobj mC).pinned (I,o)) W' σ e s m N) (hc:e.cel=cel) (hC:∀ h:Heap,h.get? C=some lobj->h.Ns C mC) (hit:ItAt c W' src k o) (q:compM M T src D cel n k σ=some σ')
theorem comp_loop {elt iter:PySem.Expr}{x:Str}{px:Pos}{ifs:List PySem.Expr}{scope:Scope}{pos:Pos}{M:Md}{T:MdB}{src:Src}{A:Around}{R:Result->Shared->Prop}{eZ eA:En}{cs:Scope}{cl:List (Str×Addr)}{ys:List Str}{env:Env}{C:Addr}{lobj:Obj}{mC:Str->Option Value}
  {I Da:Addr} {o:Obj} {D:Nat} {cel:List AV} {σ' : Store} (n:Nat)
  (hl:env.locals=C) (hk:env.kindOf x=some .local) (hf:env.scope.kind = .function)
  (hok:∀ lobj mC,(∀ h:Heap,h.get? C=some lobj->h.Ns C mC)->(f.inComp eZ cs cl [x] ys env C lobj mC).Ok c A d)
  (hM:∀ lobj mC p,SE c d ((f.inComp eZ cs cl [x] ys env C lobj mC).pinned p) elt M) (hT:∀ lobj mC p,SI c d ((f.inComp eZ cs cl [x] ys env C lobj mC).pinned p) ifs T)
  (S:St c ((f.inComp eZ cs cl [x] ys env C lobj mC).pinned (I,o)) W σ eA s m N) (hcel:eA.cel=cel) (hC:∀ h:Heap,h.get? C=some lobj->h.Ns C mC) (hit:ItAt c W src 0 o) (hD:W.ρ[D]? = some Da)
  (q:compM M T src D cel n 0 σ=some σ')
  (hR:∀ s' W' m' N' lobj' mC' e',W.le W'->St c (f.inComp eZ cs cl [x] ys env C lobj' mC') W' σ' e' s' m' N'->(∀ h:Heap,h.get? C=some lobj'->h.Ns C mC')->R (.ok .next) s') :
  codeAny (model c.prog c.w) A (.compLoop (.ListComp elt [⟨.Name x px,iter,ifs,0⟩] scope pos) 0 (.ref I) (.ref Da) env) R s:=by
 refine codeAny_compLoop_tests (CpI c f eZ cs cl x ys env C M T src D cel σ' W I)
  (λn' s₁ h=>?_) n ⟨0,W,m,N,o,lobj,mC,eA,σ,.refl W,S,hcel,hC,hit,q⟩
 obtain⟨k,WA,m₁,NA,oA,loA,mCA,en₁,σ₁,w₁,S₁,hc₁,hCA,hitA,qA⟩:=h
 cases n' with
 |zero=>exact nos qA
 |succ n' =>
  refine oN qA (λqn q=>?_) λa qn q=>om q λt σD qt q=>?_
  · cases q
    exact next_none (hok _ _ hCA).handled S₁ hitA qn λsB NB S₂=>hR _ _ _ _ _ _ _ w₁ S₂ hCA
  · refine next_some S₁ hitA qn λv sB oB NB S₂ hitB hIB rB=>assign_Name (comp_store S₂ hCA hl hk hf rB λsC loC mCC N₃ S₃ hCC=>?_)
    rw[hc₁] at S₃;refine post (hT loC mCC (I,oB) A WA sC σ₁ _ t σD m₁ N₃ _ ((hok _ _ hCC).pinned _) S₃ qt) λb sD WD mD ND wD S₄ rD=>?_
    subst rD
    cases b with
    |false=>exact⟨n',J3 n',k+1,WD,mD,ND,oB,loC,mCC,_,σD,w₁.trans wD,S₄,rfl,hCC,hitB.mono wD,q⟩
    |true=>
     refine om q λb σE qe q=>post (hM loC mCC (I,oB) A WD sD σD _ b σE mD ND _ ((hok _ _ hCC).pinned _) S₄ qe) λy sE WE mE NE wE S₅ rE=>om q λz σF qa q=>?_
     refine post (KU S₅ (.cons (.ref (wE.1 _ _ (wD.1 _ _ (w₁.1 _ _ hD)))) (.cons rE .nil)) qa) λZ sF WF mF NF wF S₆ Z=>?_
     exact⟨n',J3 n',k+1,WF,mF,NF,oB,loC,mCC,_,σF,((w₁.trans wD).trans wE).trans wF,S₆,rfl,hCC,hitB.mono ((wD.trans wE).trans wF),q⟩
end
end
section
open PySem.SeqAt
section
variable {c:Cx}{d:Nat}{f:Fm}
theorem src_self {a:AV}{σ:Store}{src:Src}(h:srcOf a σ=some src):selfOk src=true:=by
 cases a with
 |ref i=>exact U1 h λZ Z h=>oe h rfl
 |tup l=>exact oe h rfl
 |str x=>exact oi h λZ h=>oe h rfl
 |byt b=>exact oe h rfl
 |_=>exact nos h
theorem comp_core (hcn:f.comp=none){elt iter:PySem.Expr}{x:Str}{px pos spos:Pos}{ifs:List PySem.Expr}{scope:Scope}{MI M:Md}{T:MdB}(n:Nat){cl:List (Str×Addr)}{ys:List Str}{caps:List AV}{use:Option (Value->Sem Unit)}
  (hcell:∀ y∈scope.names,y.2≠.cell) (hkind:scope.kind = .function)
  (hnames:∀ y∈scope.names,y.2 = .local->scope.names.lookup y.1=some .local) (hx:scope.names.lookup x=some .local)
  (hi:SE c d f iter MI) (hs:notSet iter=true)
  (hM:∀ f' : Fm,f'.cs=relabel scope f.env->f'.xs=[x]->f'.ys=ys->f'.cl=cl->f'.env.scope=relabel scope f.env->SE c d f' elt M)
  (hT:∀ f' : Fm,f'.cs=relabel scope f.env->f'.xs=[x]->f'.ys=ys->f'.cl=cl->f'.env.scope=relabel scope f.env->SI c d f' ifs T)
  {A:Around} {W:Wd} {s:Shared} {σ:Store} {en:En} {b:AV} {src:Src} {σ₁ σ₂:Store} {m:Str->Option Value} {N:NwT} {E:Value->Shared->Prop} {Q:Value->Shared->Prop}
  (ok:f.Ok c A d) (S:St c f W σ en s m N) (hclos:closureFor scope f.env=pure cl) (hrel:RelC c.lam W ys caps cl)
  (q1:MI en σ=some (b,σ₁)) (q2:srcOf b σ₁=some src) (q3:compM M T src σ₁.length caps n 0 (σ₁++[.list []])=some σ₂)
  (hR:∀ s' W' m' N' C lobj' mC' Da,W.le W'->St c (f.pinned (C,lobj')) W' σ₂ en s' m' N'->(∀ h:Heap,h.get? C=some lobj'->h.Ns C mC')->W'.ρ[σ₁.length]? = some Da->compPost (model c.prog c.w) A E use Q (.ref Da) C (.ok .next) s') :
  wpAny (model c.prog c.w) A (comprehension (.ListComp elt [⟨.Name x px,iter,ifs,0⟩] scope pos) scope f.env spos (newList []) false (eval iter f.env) use) Q E s:=by
 refine wpAny_comprehension_free rfl (λZ=>M7 hs) hclos hkind hnames (post (hi A W s σ en b σ₁ m N E ok S q1) λv s₁ WA m₁ NA w₁ S₁ rA=>?_)
 refine iter_wp S₁ rA q2 λI o sB NB S₂ hit=>?_
 refine post (S₂.list (E:=E) (A:=A) (M:=model c.prog c.w) (l:=[]) .nil (by simp)) λacc sC WC m₃ N₃ wC S₃ rC=>?_
 obtain⟨Da,hDe,hD⟩:∃ Da,acc = .ref Da∧WC.ρ[σ₁.length]? = some Da:=by cases rC with|ref h=>exact⟨_,rfl,h⟩
 subst hDe
 refine wpAny_newFunctionEnv hcell (λy hy=>by cases hy) (λh₁ hns hsb=>?_) hkind
 refine xe32 hns λlobj es ep ho hr=>?_
 have hNs:∀ h:Heap,h.get? sC.heap.objs.size=some lobj->h.Ns sC.heap.objs.size (λy=>([]:List (Str×Value)).reverse.lookup y):=λh e=>⟨lobj,es,ep,e,hr⟩
 have g:=(News.push S₃.F S₃.nw { cls:=.type "dict",data:=.dict #[] }) (sC.heap.objs.size,{ cls:=.type "dict",data:=.dict #[] }) (List.Mem.head _)
 have F' : Fr f.h₀ f.L h₁ m₃:=(S₃.F.push _).change hsb g.2.1 g.2.2
 have X' : News f.h₀ f.L h₁ ((sC.heap.objs.size,lobj)::N₃):=λp hp=>by
  rcases mcM hp with rfl|hp
  · exact⟨ho,g.2⟩
  · exact⟨(hsb.2 p.1 (VV (S₃.lt p hp))).trans (Jx _ (S₃.nw p hp).1),(S₃.nw p hp).2⟩
 have oenv:EnvR c.lam WC f.xs en.loc m₃:=by have z:=S₃.env;rw[show (f.pinned (I,o)).sel m₃=m₃ from Gq (f:=f.pinned (I,o)) hcn m₃] at z;exact z
 have hrelC:RelC c.lam WC ys caps cl:=hrel.mono (w₁.trans wC)
 have S₄:St c ((f.inComp en (relabel scope f.env) cl [x] ys { newEnv scope sC.heap.objs.size f.env.globals cl f.env.qual none .none (some f.env) 0 with scope:=relabel scope f.env } sC.heap.objs.size lobj (λy=>([]:List (Str×Value)).reverse.lookup y)).pinned (I,o)) WC (σ₁++[.list []]) ⟨[none],caps⟩ { sC with heap:=h₁,toks:=sC.toks+([]:List (Str×Value)).length } m₃ ((sC.heap.objs.size,lobj)::N₃):=
  ⟨F',X',(S₃.fa.pinNew S₃.lt).swap,⟨rfl,λi y b e1 e2=>by cases i with|zero=>cases e2|succ i=>cases e1⟩,hrelC,S₃.gens,S₃.drawn,S₃.os,S₃.pos,oenv⟩
 have hok:∀ lobj' mC',(∀ h:Heap,h.get? sC.heap.objs.size=some lobj'->h.Ns sC.heap.objs.size mC') ->
   (f.inComp en (relabel scope f.env) cl [x] ys { newEnv scope sC.heap.objs.size f.env.globals cl f.env.qual none .none (some f.env) 0 with scope:=relabel scope f.env } sC.heap.objs.size lobj' mC').Ok c A d:=λlobj' mC' h=>
  { B:=ok.B,X:=ok.X,T:=ok.T,codes:=ok.codes,frames:=ok.frames,frf:=ok.frf,frk:=ok.frk,sc:=rfl,cls:=rfl,glo:=ok.glo,blt:=ok.blt,loc:=rfl
    cmp:=λp e=>by cases e;exact⟨List.Mem.head _,h⟩
    handled:=ok.handled,depth:=ok.depth,units:=ok.units,kind:=hkind,nodup:=by simp[Fm.inComp]
    onil:=λe=>by cases e }
 have loop:=comp_loop (f:=f) (x:=x) (env:={ newEnv scope sC.heap.objs.size f.env.globals cl f.env.qual none .none (some f.env) 0 with scope:=relabel scope f.env }) (C:=sC.heap.objs.size) (elt:=elt) (iter:=iter) (px:=px) (ifs:=ifs) (scope:=scope) (pos:=pos) (R:=compPost (model c.prog c.w) A E use Q (.ref Da) sC.heap.objs.size)
  n rfl (lookup_relabel_local hx) hkind hok (λlobj' mC' p=>hM _ rfl rfl rfl rfl rfl) (λlobj' mC' p=>hT _ rfl rfl rfl rfl rfl) S₄ rfl hNs (hit.mono wC) hD q3 λs' W' m' N' lobj' mC' e' w' S' hC'=>?_
 · exact codeAny_compStart_list loop (self_it (src_self q2) (hit.mono wC) (S₄.nw _ (S₄.fa.pn (I,o) (.head _))).1 loop)
 · have S'' : St c (f.pinned (sC.heap.objs.size,lobj')) W' σ₂ en s' m' N' :=
    ⟨S'.F,S'.nw,S'.fa,by rw[show (f.pinned (sC.heap.objs.size,lobj')).sel m'=m' from Gq (f:=f.pinned _) hcn m'];exact S'.oenv,S₃.cel.mono w',S'.gens,S'.drawn,S'.os,S'.pos,by
     rw[show (f.pinned (sC.heap.objs.size,lobj')).oxs=[] from(ok.onil hcn).1,show (f.pinned (sC.heap.objs.size,lobj')).oloc=[] from(ok.onil hcn).2];exact .empty⟩
   exact hR s' W' m' N' _ lobj' mC' Da ((w₁.trans wC).trans w') S'' hC' (w'.1 _ _ hD)
end
end
section
open PySem.SeqAt
mutual
noncomputable def clA (n:Nat):AV->Bool
 | .ref i=>decide (i<n)
 | .tup l=>clL n l
 | .clo _ l=>clL n l
 |_=>true
noncomputable def clL (n:Nat):List AV->Bool
 | []=>true
 |a::l=>clA n a&&clL n l
end
noncomputable def clD (n:Nat):List (Str×AV)->Bool
 | []=>true
 | (_,a)::l=>clA n a&&clD n l
noncomputable def clO (n:Nat):AO->Bool
 | .list l=>clL n l
 | .dict es=>clD n es
 | .inst _ d=>decide (d<n)
noncomputable def clS (n:Nat):Store->Bool
 | []=>true
 |o::l=>clO n o&&clS n l
theorem clS_get {n:Nat}{σ:Store}(h:clS n σ=true):∀ {i:Nat} {o:AO},σ[i]? = some o->clO n o=true:=by
 induction σ with
 |nil=>exact λe=>nos e
 |cons o l ih=>
  intro i o' e
  cases i with
  |zero=>exact(soI e:o=o')▸(and2 h).1
  |succ i=>exact ih (and2 h).2 e
section
variable {lam:Nat->Option LamRec}
noncomputable def Wd.cut (W:Wd) (k:Nat):Wd:=⟨W.ρ.take k,W.tl⟩
theorem Wd.cut_at {W:Wd}{k i:Nat}(h:i<k):(W.cut k).ρ[i]? = W.ρ[i]? := VG h
theorem Wd.cut_le {W:Wd}{k i:Nat}{a:Addr}(e:(W.cut k).ρ[i]? = some a):W.ρ[i]? = some a∧i<k:=by
 have e:(W.ρ.take k)[i]? = some a:=e
 by_cases h:i<k
 · rw[VG h] at e;exact⟨e,h⟩
 · rw[List.getElem?_eq_none (by rw[HM];exact QJ (Nat.min_le_left ..) (WU.mp h))] at e;exact nos e
theorem LX {W:Wd}{k:Nat}:(∀ {a:AV} {v:Value},Rel lam W a v->clA k a=true->Rel lam (W.cut k) a v)∧(∀ {l:List AV} {vs:List Value},RelL lam W l vs->clL k l=true->RelL lam (W.cut k) l vs)∧(∀ {xs:List Str} {as:List AV} {cl:List (Str×Addr)},RelC lam W xs as cl->clL k as=true->RelC lam (W.cut k) xs as cl):=by
 have m1:∀ {a:AV} {l:List AV},clL k (a::l)=true->clA k a=true∧clL k l=true:=λh=>and2 h
 refine⟨λ{a v} r=>?_,λ{l vs} r=>?_,λ{xs as cl} r=>?_⟩
 · exact Rel.rec (W:=W) (motive_1:=λa v Z=>clA k a=true->Rel lam (W.cut k) a v) (motive_2:=λl vs Z=>clL k l=true->RelL lam (W.cut k) l vs) (motive_3:=λxs as cl Z=>clL k as=true->RelC lam (W.cut k) xs as cl)
    (λZ=>.none) (λb Z=>.bool b) (λi t Z=>.int i t) (λs t Z=>.str s t) (λb t Z=>.byt b t) (λm Z ih h=>.tup m (ih h)) (λe h=>.ref ((Wd.cut_at (of_decide_eq_true h)).trans e)) (λv Z=>.glob v)
    (λe m m' d q Z ih h=>.clo e m m' d q (ih h))
    (λZ=>.nil) (λZ Z i j h=>.cons (i (m1 h).1) (j (m1 h).2)) (λZ=>.nil) (λe m d Z Z i j h=>.cons e m d (i (m1 h).1) (j (m1 h).2)) r
 · exact RelL.rec (W:=W) (motive_1:=λa v Z=>clA k a=true->Rel lam (W.cut k) a v) (motive_2:=λl vs Z=>clL k l=true->RelL lam (W.cut k) l vs) (motive_3:=λxs as cl Z=>clL k as=true->RelC lam (W.cut k) xs as cl)
    (λZ=>.none) (λb Z=>.bool b) (λi t Z=>.int i t) (λs t Z=>.str s t) (λb t Z=>.byt b t) (λm Z ih h=>.tup m (ih h)) (λe h=>.ref ((Wd.cut_at (of_decide_eq_true h)).trans e)) (λv Z=>.glob v)
    (λe m m' d q Z ih h=>.clo e m m' d q (ih h))
    (λZ=>.nil) (λZ Z i j h=>.cons (i (m1 h).1) (j (m1 h).2)) (λZ=>.nil) (λe m d Z Z i j h=>.cons e m d (i (m1 h).1) (j (m1 h).2)) r
 · exact RelC.rec (W:=W) (motive_1:=λa v Z=>clA k a=true->Rel lam (W.cut k) a v) (motive_2:=λl vs Z=>clL k l=true->RelL lam (W.cut k) l vs) (motive_3:=λxs as cl Z=>clL k as=true->RelC lam (W.cut k) xs as cl)
    (λZ=>.none) (λb Z=>.bool b) (λi t Z=>.int i t) (λs t Z=>.str s t) (λb t Z=>.byt b t) (λm Z ih h=>.tup m (ih h)) (λe h=>.ref ((Wd.cut_at (of_decide_eq_true h)).trans e)) (λv Z=>.glob v)
    (λe m m' d q Z ih h=>.clo e m m' d q (ih h))
    (λZ=>.nil) (λZ Z i j h=>.cons (i (m1 h).1) (j (m1 h).2)) (λZ=>.nil) (λe m d Z Z i j h=>.cons e m d (i (m1 h).1) (j (m1 h).2)) r
theorem rel_cl {W:Wd}:(∀ {a:AV} {v:Value},Rel lam W a v->clA W.ρ.length a=true)∧(∀ {l:List AV} {vs:List Value},RelL lam W l vs->clL W.ρ.length l=true)∧(∀ {xs:List Str} {as:List AV} {cl:List (Str×Addr)},RelC lam W xs as cl->clL W.ρ.length as=true):=by
 have m2:∀ {a:AV} {l:List AV},clA W.ρ.length a=true->clL W.ρ.length l=true->clL W.ρ.length (a::l)=true:=λh h'=>anI ⟨h,h'⟩
 refine⟨λ{a v} r=>?_,λ{l vs} r=>?_,λ{xs as cl} r=>?_⟩
 · exact Rel.rec (W:=W) (motive_1:=λa v Z=>clA W.ρ.length a=true) (motive_2:=λl vs Z=>clL W.ρ.length l=true) (motive_3:=λxs as cl Z=>clL W.ρ.length as=true)
    rfl (λZ=>rfl) (λZ Z=>rfl) (λZ Z=>rfl) (λZ Z=>rfl) (λZ Z ih=>ih) (λe=>decide_eq_true (QQ.mp e).1) (λZ=>rfl) (λZ Z Z Z Z Z ih=>ih)
    rfl (λZ Z i j=>m2 i j) rfl (λZ Z Z Z Z i j=>m2 i j) r
 · exact RelL.rec (W:=W) (motive_1:=λa v Z=>clA W.ρ.length a=true) (motive_2:=λl vs Z=>clL W.ρ.length l=true) (motive_3:=λxs as cl Z=>clL W.ρ.length as=true)
    rfl (λZ=>rfl) (λZ Z=>rfl) (λZ Z=>rfl) (λZ Z=>rfl) (λZ Z ih=>ih) (λe=>decide_eq_true (QQ.mp e).1) (λZ=>rfl) (λZ Z Z Z Z Z ih=>ih)
    rfl (λZ Z i j=>m2 i j) rfl (λZ Z Z Z Z i j=>m2 i j) r
 · exact RelC.rec (W:=W) (motive_1:=λa v Z=>clA W.ρ.length a=true) (motive_2:=λl vs Z=>clL W.ρ.length l=true) (motive_3:=λxs as cl Z=>clL W.ρ.length as=true)
    rfl (λZ=>rfl) (λZ Z=>rfl) (λZ Z=>rfl) (λZ Z=>rfl) (λZ Z ih=>ih) (λe=>decide_eq_true (QQ.mp e).1) (λZ=>rfl) (λZ Z Z Z Z Z ih=>ih)
    rfl (λZ Z i j=>m2 i j) rfl (λZ Z Z Z Z i j=>m2 i j) r
theorem qN {n k:Nat}(h:n≤k):(∀ a:AV,clA n a=true->clA k a=true)∧(∀ l:List AV,clL n l=true->clL k l=true):=by
 have key:∀ a:AV,clA n a=true->clA k a=true:=λa=>AV.rec (motive_1:=λa=>clA n a=true->clA k a=true) (motive_2:=λl=>clL n l=true->clL k l=true)
  (λZ=>rfl) (λZ Z=>rfl) (λZ Z=>rfl) (λZ Z=>rfl) (λZ Z=>rfl) (λl ih q=>ih q) (λi q=>decide_eq_true (ltL (of_decide_eq_true q) h)) (λZ Z=>rfl)
  (λZ l ih q=>ih q) (λZ=>rfl) (λa l i j q=>anI ⟨i (and2 q).1,j (and2 q).2⟩) a
 refine⟨key,λl=>?_⟩
 induction l with
 |nil=>intro _;rfl
 |cons a l ih=>intro q;unfold clL at q ⊢;rw[Jq] at q ⊢;exact⟨key a q.1,ih q.2⟩
theorem relD_cut {P:Params}{W:Wd}{k:Nat}{es:List (Str×AV)}{ds:List DictEntry}(r:RelD lam P W es ds):clD k es=true->RelD lam P (W.cut k) es ds:=by
 induction r with
 |nil=>exact λZ=>.nil
 |cons r _ q=>exact λh=>.cons (LX.1 r (and2 h).1) (q (and2 h).2)
theorem objR_cut {P:Params}{W:Wd}{k:Nat}{ao:AO}{o:Obj}(r:ObjR lam P W ao o)(h:clO k ao=true):ObjR lam P (W.cut k) ao o:=by
 cases r with
 |list r=>exact .list (LX.2.1 r h)
 |dict r=>exact .dict (relD_cut r h)
 |inst e=>exact .inst ((Wd.cut_at (of_decide_eq_true h)).trans e)
end
section
variable {c:Cx}{d:Nat}{f:Fm}{W:Wd}{σ:Store}{en:En}{s:Shared}{m:Str->Option Value}{N:NwT}{pin:NwT}
theorem Facts.cut (F:Facts c pin W σ N){k:Nat}(h:clS k (σ.take k)=true):Facts c pin (W.cut k) (σ.take k) N where
 len:=by show (W.ρ.take k).length=_;rw[HM,HM,F.len]
 own:=λi ao e=>by
  have hi:i<k:=by
   have:=(QQ.mp e).1;rw[HM] at this;exact ltL this (Nat.min_le_left ..)
  have e' : σ[i]? = some ao:=by rw[← e,VG hi]
  obtain⟨a,o,h1,h2,h3⟩:=F.own i ao e';exact⟨a,o,(Wd.cut_at hi).trans h1,h2,objR_cut h3 (clS_get h e)⟩
 tl:=F.tl
 pn:=F.pn
 inj:=λi j a e1 e2=>F.inj i j a (Wd.cut_le e1).1 (Wd.cut_le e2).1
 dis:=λp m i e=>F.dis p m i (Wd.cut_le e).1
 disp:=λp m i e=>F.disp p m i (Wd.cut_le e).1
 tab:=λq m=>(F.tab q m).casesOn λps h1 h2=>⟨ps,h1,by
  cases h2 with
  |none=>exact .none
  |one a b c' d=>exact .one a b c' d⟩
 tabρ:=λq m i e=>F.tabρ q m i (Wd.cut_le e).1
 tabt:=F.tabt
 tabp:=F.tabp
 tlp:=F.tlp
 pnd:=F.pnd
theorem PostE.cut {sZ:Shared}{mZ:Str->Option Value}{NZ:NwT}(SZ:St c f W σ en sZ mZ NZ){a:AV}{σ' : Store}{k:Nat}(hk:σ.length≤k)(ha:clA k a=true)(hσ:clS k (σ'.take k)=true){v:Value}{s' : Shared}(p:PostE c f W en a σ' v s'):PostE c f W en a (σ'.take k) v s' := by
 obtain⟨W',m',N',w,S,r⟩:=p
 have hlen:W.ρ.length≤k:=by rw[SZ.fa.len];exact hk
 have w' : W.le (W'.cut k):=⟨λi b e=>(Wd.cut_at (ltL (QQ.mp e).1 hlen)).trans (w.1 i b e),w.2⟩
 have env:∀ {xs:List Str} {loc:List (Option AV)} {m₁ mB:Str->Option Value},EnvR c.lam W xs loc m₁->EnvR c.lam W' xs loc mB->EnvR c.lam (W'.cut k) xs loc mB:=λe e'=>⟨e'.1,λi x b h1 h2=>by
  refine xe12 (e.2 i x b h1 h2) λv Z g2=>?_
  refine xe12 (e'.2 i x b h1 h2) λv' g3 g4=>?_
  exact⟨v',g3,LX.1 g4 ((qN hlen).1 _ (rel_cl.1 g2))⟩⟩
 exact⟨W'.cut k,m',N',w',⟨S.F,S.nw,S.fa.cut hσ,env SZ.env S.env,SZ.cel.mono w',S.gens,S.drawn,S.os,S.pos,env SZ.oenv S.oenv⟩,LX.1 r ha⟩
end
noncomputable def gc1 (k:Nat) (r:AV×Store):Bool:=clA k r.1&&clS k (r.2.take k)
noncomputable def gcR (n:Nat) (r:AV×Store):AV×Store:=if gc1 n r then (r.1,r.2.take n) else if gc1 (n+1) r then (r.1,r.2.take (n+1)) else r
def gc (n:Nat):Option (AV×Store)->Option (AV×Store)
 |none=>none
 |some r=>some (gcR n r)
theorem gcR_post {c:Cx}{f:Fm}{W:Wd}{σ:Store}{en:En}{sZ:Shared}{mZ:Str->Option Value}{NZ:NwT}(SZ:St c f W σ en sZ mZ NZ){a:AV}{σ' : Store}{v:Value}{s' : Shared}
  (p:PostE c f W en a σ' v s'):PostE c f W en (gcR σ.length (a,σ')).1 (gcR σ.length (a,σ')).2 v s' := by
 unfold gcR
 split
 · rename_i h
   unfold gc1 at h;rw[Jq] at h
   exact p.cut SZ (QN _) h.1 h.2
 · split
   · rename_i h
     unfold gc1 at h;rw[Jq] at h
     exact p.cut SZ (HK _) h.1 h.2
   · exact p
theorem gc_some {n:Nat}{r:Option (AV×Store)}{a:AV}{σ' : Store}(h:gc n r=some (a,σ')):∃ r',r=some r'∧a=(gcR n r').1∧σ'=(gcR n r').2:=by
 cases r with
 |none=>exact nos h
 |some r' =>
  have h:some (gcR n r')=some (a,σ'):=h;injection h with h
  exact⟨r',rfl,by rw[h],by rw[h]⟩
theorem gc_ok {c:Cx}{d:Nat}{C:CallF}(h:CallOK c d C):CallOK c d (λg l σ=>gc σ.length (C g l σ)):=by
 intro f A W s σ en g l a σ' gv vs m N E ok S rg rl q
 refine xe13 (gc_some q) λr' e e1 e2=>?_
 have z:=h f A W s σ en g l r'.1 r'.2 gv vs m N E ok S rg rl e
 refine⟨z.1,Qz z.2 (λv s' p=>?_) λZ Z x=>x⟩
 rw[e1,e2]
 exact gcR_post S p
end
section
open PySem.SeqAt
noncomputable def capL (cells:List (Str×Addr)):List (Str×NameKind)->List (Str×Addr)->List (Str×Addr)
 | [],acc=>acc
 | (n,k)::r,acc=>if k==.free then (match cells.lookup n with
   |some a=>capL cells r ((n,a)::acc)
   |none=>capL cells r acc)
  else capL cells r acc
theorem closure_is {scope:Scope}{env:Env}(h:∀ p∈scope.names,p.2 = .free->(env.cells.lookup p.1).isSome=true):closureFor scope env=pure (capL env.cells scope.names []):=by
 unfold closureFor
 have key:∀ (names:List (Str×NameKind)) (acc:List (Str×Addr)),(∀ p∈names,p.2 = .free->(env.cells.lookup p.1).isSome=true) ->
   (forIn names acc λx r=>(do
    match x with
    | (name,kind)=>if (kind==.free)=true then do let a ← cellOf env name;pure (ForInStep.yield ((name,a)::r)) else pure (ForInStep.yield r):Sem (ForInStep (List (Str×Addr)))))=pure (capL env.cells names acc):=by
  intro names
  induction names with
  |nil=>intro acc _;rfl
  |cons p names ih=>
   intro acc hp;obtain⟨n,k⟩:=p
   rw[List.forIn_cons];unfold capL
   by_cases hk:(k==.free)=true
   · have hs:=hp (n,k) (.head _) (by simpa using hk)
     obtain⟨a,ha⟩:=MQ.mp hs;have ha:env.cells.lookup n=some a:=ha
     simp only[hk,if_true,ha,cellOf,pure_bind];exact ih _ λp hm=>hp p (.tail _ hm)
   · simp only[hk,K8,if_false,pure_bind]
     exact ih _ λp hm=>hp p (.tail _ hm)
 have:=key scope.names [] h
 simp only at this ⊢
 rw[show (forIn scope.names ([]:List (Str×Addr)) _)=_ from this]
 exact pure_bind _ _
theorem RJ {cells:List (Str×Addr)}:∀ (names:List (Str×NameKind)) (acc:List (Str×Addr)) {p:Str×Addr},p∈capL cells names acc->p∈acc∨cells.lookup p.1=some p.2
 | [],acc,p,h=>.inl h
 | (n,k)::r,acc,p,h=>by
  unfold capL at h
  split at h
  · split at h
    · rename_i a ha
      rcases RJ r _ h with h|h
      · rcases mcM h with rfl|h
        · exact .inr ha
        · exact .inl h
      · exact .inr h
    · exact RJ r _ h
  · exact RJ r _ h
theorem RU {cells:List (Str×Addr)}:∀ (names:List (Str×NameKind)) (acc:List (Str×Addr)) {p:Str×Addr},p∈acc->p∈capL cells names acc
 | [],acc,p,h=>h
 | (n,k)::r,acc,p,h=>by
  unfold capL
  split
  · split
    · exact RU r _ (.tail _ h)
    · exact RU r _ h
  · exact RU r _ h
theorem RV {cells:List (Str×Addr)}:∀ (names:List (Str×NameKind)) (acc:List (Str×Addr)) {y:Str} {a:Addr},(y,NameKind.free)∈names->cells.lookup y=some a->(y,a)∈capL cells names acc
 | (n,k)::r,acc,y,a,h,ha=>by
  unfold capL;rcases mcM h with e|h
  · cases e
    rw[if_pos (by rfl:(NameKind.free==NameKind.free)=true),ha];exact RU r _ (.head _)
  · split
    · split
      · exact RV r _ h ha
      · exact RV r _ h ha
    · exact RV r _ h ha
theorem MV {y:Str}{a:Addr}:∀ {l:List (Str×Addr)},l.lookup y=some a->(y,a)∈l
 | (z,b)::r,h=>by
  rw[V4] at h
  cases hz:(y==z) with
  |true=>rw[hz] at h;cases h;rw[eq_of_beq hz];exact .head _
  |false=>rw[hz] at h;exact .tail _ (MV h)
theorem MJ {y:Str}{a:Addr}:∀ {l:List (Str×Addr)},(y,a)∈l->∃ b,l.lookup y=some b
 | (z,b)::r,h=>by
  rw[V4]
  cases hz:(y==z) with
  |true=>exact⟨b,rfl⟩
  |false=>
   rcases mcM h with e|h
   · cases e;simp at hz
   · exact MJ h
theorem capL_lookup {cells:List (Str×Addr)}{names:List (Str×NameKind)}{y:Str}{a:Addr}(h:(y,NameKind.free)∈names)(ha:cells.lookup y=some a):(capL cells names []).lookup y=some a:=by
 obtain⟨b,hb⟩:=MJ (RV names [] h ha)
 rcases RJ names [] (MV hb) with q|q
 · cases q
 · have q:cells.lookup y=some b:=q
   rw[q] at ha;cases ha;exact hb
noncomputable def freeNames (sc:Scope):List Str:=(sc.names.filter λp=>p.2==.free).map (·.1)
noncomputable def pickC:List Nat->List AV->Option (List AV)
 | [],_=>some []
 |i::r,l=>on1 l[i]? λa=>on1 (pickC r l) λq=>some (a::q)
noncomputable def capOk (ys:List Str):List Nat->List Str->Bool
 | [],[]=>true
 |i::is,y::r=>(ys[i]? == some y)&&capOk ys is r
 |_,_=>false
section
variable {lam:Nat->Option LamRec}{W:Wd}{ys:List Str}{cel:List AV}{cl:List (Str×Addr)}
theorem cap_free {is:List Nat}{fs:List Str}{caps:List AV}(R:RelC lam W ys cel cl)(hi:capOk ys is fs=true)(hp:pickC is cel=some caps):∀ y∈fs,∃ a,cl.lookup y=some a:=by
 induction is generalizing fs caps with
 |nil=>
  cases fs with
  |nil=>intro y h;cases h
  |cons=>exact nof hi
 |cons i is ih=>
  cases fs with
  |nil=>exact nof hi
  |cons z fs=>
   have hi:=and2 hi;have hi:ys[_]? = some _∧_:=⟨bqM hi.1,hi.2⟩
   refine om1 hp λa h1 hp=>om1 hp λq h2 hp=>λy hy=>(mcM hy).elim (λe=>?_) (ih hi.2 h2 y)
   refine RelC.get (λv ca o g1 Z Z Z=>?_) _ R hi.1 h1;exact⟨ca,e▸g1⟩
theorem cap_rel {is:List Nat}{names:List (Str×NameKind)}{fs:List Str}{caps:List AV}(R:RelC lam W ys cel cl)(hi:capOk ys is fs=true)(hp:pickC is cel=some caps)(hf:∀ y∈fs,(y,NameKind.free)∈names):RelC lam W fs caps (capL cl names []):=by
 induction is generalizing fs caps with
 |nil=>
  cases fs with
  |nil=>cases hp;exact .nil
  |cons=>exact nof hi
 |cons i is ih=>
  cases fs with
  |nil=>exact nof hi
  |cons z fs=>
   have hi:=and2 hi;have hi:ys[_]? = some _∧_:=⟨bqM hi.1,hi.2⟩
   refine om1 hp λa h1 hp=>om1 hp λq h2 hp=>oe hp ?_
   refine RelC.get (λv ca o g1 g2 g3 g4=>?_) _ R hi.1 h1;exact .cons (capL_lookup (hf z (.head _)) g1) g2 g3 g4 (ih hi.2 h2 λy hy=>hf y (.tail _ hy))
theorem free_mem {sc:Scope}:∀ y∈freeNames sc,(y,NameKind.free)∈sc.names:=λy h=>by
 refine xe12 (Jz.mp h) λp hp e=>?_
 obtain⟨h1,h2⟩:=JZ.mp hp
 have h2:p.2 = .free:=by simpa using h2
 obtain⟨n,k⟩:=p
 dsimp only at h2 e
 subst h2 e
 exact h1
theorem mem_free {sc:Scope}{p:Str×NameKind}(h:p∈sc.names)(hk:p.2 = .free):p.1∈freeNames sc:=
 VQ (JZ.mpr ⟨h,by simpa using hk⟩)
end
section
variable {c:Cx}{d:Nat}{f:Fm}{W:Wd}{σ:Store}{en:En}{s:Shared}{m:Str->Option Value}{N:NwT}{pin:NwT}
theorem HH {A:Around}(ok:f.Ok c A d)(S:St c f W σ en s m N){scope:Scope}{is:List Nat}{caps:List AV}(hi:capOk f.ys is (freeNames scope)=true)(hp:pickC is en.cel=some caps) :
  closureFor scope f.env=pure (capL f.cl scope.names [])∧RelC c.lam W (freeNames scope) caps (capL f.cl scope.names []):=by
 refine⟨?_,cap_rel S.cel hi hp free_mem⟩
 rw[← ok.cls]
 refine closure_is λp h hk=>?_
 obtain⟨a,ha⟩:=cap_free S.cel hi hp p.1 (mem_free h hk)
 rw[ok.cls,ha];rfl
theorem Facts.tabTurn (F:Facts c pin W σ N){q:Addr×Addr×Nat×Pos}(hq:q∈c.tabs)(hu:∀ q'∈c.tabs,q'.2.1=q.2.1->q'=q){ps:Array Value}(ht:TabOk c W q.2.2.1 q.2.2.2 ps) :
  Facts c pin W σ (turnN N q.2.1 (tabObj ps)) where
 len:=F.len
 own:=λi ao e=>(F.own i ao e).casesOn λa o h1 h2 h3=>⟨a,o,h1,V8 h2 λe=>F.tabρ q hq i (by rw[h1];exact congrArg some e),h3⟩
 tl:=λp m=>V8 (F.tl p m) (F.tabt q hq p m)
 pn:=λp m=>V8 (F.pn p m) (F.tabp q hq p m)
 inj:=F.inj
 dis:=F.dis
 disp:=F.disp
 tab:=λq' m'=>by
  by_cases e:q'.2.1=q.2.1
  · rw[hu q' m' e]
    exact⟨ps,.head _,ht⟩
  · obtain⟨ps',h1,h2⟩:=F.tab q' m'
    exact⟨ps',V8 h1 e,h2⟩
 tabρ:=F.tabρ
 tabt:=F.tabt
 tabp:=F.tabp
 tlp:=F.tlp
 pnd:=F.pnd
theorem se_lambda {params:Arguments}{body:PySem.Expr}{scope:Scope}{pos:Pos}{id:Nat}{r:LamRec}{is:List Nat}{cn:Str}{fa cd:Addr}{P:Addr}
  (he:f.env=envX cn f.cs f.L fa (.ref cd) f.cl) (hl:c.lam id=some r) (hr:r=⟨cn ++ ".<locals>." ++ "<lambda>",params,body,scope,freeNames scope⟩) (hq:(cd,P,id,pos)∈c.tabs) (hu:∀ q'∈c.tabs,q'.2.1=P->q'=(cd,P,id,pos))
  (hd:defaultsOf params f.env=([],[])) (hi:capOk f.ys is (freeNames scope)=true) :
  SE c d f (.Lambda params body scope pos) (λen σ=>on1 (pickC is en.cel) λcaps=>some (.clo id caps,σ)):=by
 intro A W s σ en a σ' m N E ok S q
 refine om1 q λcaps hcaps q=>oe2 q ?_
 obtain⟨hcl,hrel⟩:=HH ok S hi hcaps
 refine J5 S.pos (kla_eval hd ?_)
 obtain⟨ps,hP,ht⟩:=S.fa.tab _ hq
 rw[he] at hcl ⊢
 have hqual:(envX cn f.cs f.L fa (.ref cd) f.cl).qual++("<lambda>" : Str)=r.qual:=by rw[hr]
 rw[hqual]
 have e1:r.params=params:=by rw[hr]
 have e2:r.body=body:=by rw[hr]
 have e3:r.scope=scope:=by rw[hr]
 have e4:r.names=freeNames scope:=by rw[hr]
 cases ht with
 |none=>
  refine kla_nest (ps := #[]) S.F (MH S.nw hP) ok.T (ok.codes _ hq) rfl (UpdF.head λp hp=>of_decide_eq_true (JZ.mp hp).2) trivial rfl hcl λg c' oc vs t ctv h' tk F' N' hdat hv hlt hlt2=>?_
  have lt0:∀ p∈N,p.1<c' := λp hp=>by
   by_cases e:p.1=P
   · rw[e];exact hlt _ (.head _)
   · exact hlt p (V8 hp e)
  have F1:=(S.fa.still (o:=oc) lt0).tabTurn hq hu (ps := #[rawInt pos.line,rawInt pos.col,.ref c']) (.one hl (.head _) hdat hv);have F2:Facts c f.pin (W.still (c',oc)) σ ((c',oc)::turnN N P (tabObj (#[] ++ #[rawInt pos.line,rawInt pos.col,.ref c']))):=F1.mono λp hp=>by
   rcases mcM hp with rfl|hp
   · exact .tail _ (.head _)
   · obtain⟨hp,hne⟩:=JZ.mp hp
     rcases mcM hp with rfl|hp
     · exact .head _
     · exact .tail _ (V8 hp (of_decide_eq_true hne))
  have lt2:∀ p∈(c',oc)::turnN N P (tabObj (#[] ++ #[rawInt pos.line,rawInt pos.col,.ref c'])),p.1<g:=λp hp=>by
   rcases mcM hp with rfl|hp
   · exact hlt2
   · rcases mcM hp with rfl|hp
     · exact G9 (hlt (P,tabObj #[]) (.head _)) hlt2
     · exact G9 (hlt _ (.tail _ hp)) hlt2
  have F3:=F2.still (o:=kla_obj "<lambda>" r.qual params body scope (capL f.cl scope.names []) ((c.mg "__name__").getD .none) c' ctv) lt2
  have hw:W.le ((W.still (c',oc)).still (g,kla_obj "<lambda>" r.qual params body scope (capL f.cl scope.names []) ((c.mg "__name__").getD .none) c' ctv)):=(W.le_still _).trans ((W.still _).le_still _)
  exact λhk=>⟨_,m,_,hw,⟨F',N',F3,S.env.mono hw,S.cel.mono hw,S.gens,S.drawn,S.os,hk,S.oenv.mono hw⟩,
   .clo hl (by rw[e1,e2,e3];exact .head _) (.tail _ (.head _)) hdat hv (by rw[e4];exact hrel.mono hw)⟩
 |one hl' hm hdat hv=>
  rename_i c' oc vs t r'
  rw[hl] at hl';cases hl'
  refine kla_hit (c' := c') S.F S.nw ok.T (ok.codes _ hq) rfl hP ⟨⟩ (by simp[codeAmong,rawInt]) hcl λg ctv h' tk F' N' hlt=>?_
  have hw:=W.le_still (g,kla_obj "<lambda>" r.qual params body scope (capL f.cl scope.names []) ((c.mg "__name__").getD .none) c' ctv)
  exact λhk=>⟨_,m,_,hw,⟨F',N',S.fa.still hlt,S.env.mono hw,S.cel.mono hw,S.gens,S.drawn,S.os,hk,S.oenv.mono hw⟩,
   .clo hl (by rw[e1,e2,e3];exact .head _) (.tail _ hm) hdat hv (by rw[e4];exact hrel.mono hw)⟩
end
end
section
open PySem.SeqAt
structure LamAt (r:LamRec)(ps:List Str):Prop where
 bind:∀ (vs:List Value) (cl:List (Str×Addr)) (pm ctv:Value) (c' : Addr),vs.length=ps.length->bindArgs (kla_fn "<lambda>" r.qual r.params r.body r.scope cl pm (.ref c') ctv) ⟨vs,[]⟩=pure (ps.zip vs)
 loc:∀ x∈ps,r.scope.names.lookup x=some .local
 nodup:ps.Nodup
 cell:∀ x∈r.scope.names,x.2≠.cell
 kind:r.scope.kind = .function
 gen:r.scope.isGenerator=false
 co:r.scope.isCoroutine=false
def SEall (c:Cx)(d:Nat)(r:LamRec)(ps:List Str)(M:Md):Prop:=
 ∀ f:Fm,f.cs=r.scope->f.xs=ps->f.ys=r.names->f.comp=none->f.env.scope=r.scope->SE c d f r.body M
noncomputable def cloF (np:Nat) (M:Md) (caps l:List AV) (σ:Store):Option (AV×Store):=if l.length=np then M ⟨l.map some,caps⟩ σ else none
theorem rev_lookup {l:List (Str×Value)}(nd:(l.map (·.1)).Nodup){x:Str}{v:Value}(h:(x,v)∈l):l.reverse.lookup x=some v:=by
 have key:∀ (l:List (Str×Value)),(l.map (·.1)).Nodup->(x,v)∈l->l.lookup x=some v:=by
  intro l
  induction l with
  |nil=>intro _ h;cases h
  |cons q r ih=>
   intro nd hp;rw[QM,J6] at nd
   rw[V4];rcases mcM hp with rfl|hp
   · simp
   · have:(x==q.1)=false:=by
      rw[beq_eq_false_iff_ne];intro e
      exact nd.1 (Jz.mpr ⟨_,hp,e⟩)
     rw[this];exact ih nd.2 hp
 refine key _ ?_ (List.mem_reverse.mpr h)
 rw[List.map_reverse]
 exact List.pairwise_reverse.mpr (List.Pairwise.imp (λh=>Ne.symm h) nd)
theorem zip_keys:∀ (ps:List Str) (ws:List Value),((ps.zip ws).map (·.1)).Sublist ps
 | [],ws=>List.Sublist.refl _
 |p::r,[]=>List.nil_sublist _
 |p::r,v::ws=>(zip_keys r ws).cons_cons p
section
variable {c:Cx}{d:Nat}{f:Fm}{W:Wd}{σ:Store}{en:En}{s:Shared}{m:Str->Option Value}{N:NwT}
noncomputable abbrev Fm.intoL (f:Fm) (A:Around) (r:LamRec) (ps:List Str) (fa c' : Addr) (cl:List (Str×Addr)) (g:Heap) (L' : Addr):Fm:=
 { AZ:=A,base:=f.base,h₀:=g,outer:=f.fr::f.outer,L:=L',cs:=r.scope,cl:=cl,xs:=ps,ys:=r.names,pin:=f.pin,env:=envX r.qual r.scope L' fa (.ref c') cl,fr:=envX r.qual r.scope L' fa (.ref c') cl,comp:=none,oxs:=[],oloc:=[] }
theorem enter_clo {id:Nat}{r:LamRec}{ps:List Str}(hl:c.lam id=some r)(H:LamAt r ps)
  {A:Around} {l caps:List AV} {gv:Value} {vs:List Value} {R:Result->Shared->Prop}
  (ok:f.At c A d) (S:St c f W σ en s m N) (rg:Rel c.lam W (.clo id caps) gv) (rl:RelL c.lam W l vs) (hlen:l.length=ps.length)
  (h:∀ fa c' cl g L' s₁ m₁,(f.intoL A r ps fa c' cl g L').Ok c (A.deeper (f.intoL A r ps fa c' cl g L').env) d ->
   St c (f.intoL A r ps fa c' cl g L') W σ ⟨l.map some,caps⟩ s₁ m₁ N->Fr f.h₀ f.L g m ->
   wpAny (model c.prog c.w) (A.deeper (f.intoL A r ps fa c' cl g L').env) (eval r.body (f.intoL A r ps fa c' cl g L').env)
    (λv s'=>LeaveK f.h₀ f.L m g R v s')
    (λe s'=>wpAny (model c.prog c.w) (A.deeper (f.intoL A r ps fa c' cl g L').env) (leaving (f.intoL A r ps fa c' cl g L').env e) (λZ s''=>R (.error e) s'') (λe' s''=>R (.error e') s'') s') s₁) :
  codeAny (model c.prog c.w) A (.call gv ⟨vs,[]⟩) R s:=by
 cases rg with
 |clo e hm hc hd hv rc=>
  rename_i fa c' r' cl pm ctv oc ws t
  rw[hl] at e;cases e
  have hvl:vs.length=ps.length:=by rw[← rl.length];exact hlen
  refine kla_code ok.B S.F ok.X S.nw ok.T ok.frames ok.frf ok.frk (S.fa.tl _ hm) ⟨c',oc,ws,t,rfl,(S.nw _ (S.fa.tl _ hc)).1,hd,hv⟩ (by have:=ok.depth;exact ar31 this) (H.bind vs cl pm ctv c' hvl)
   (λy hy=>H.loc _ (List.of_mem_zip hy).1) (λg L' h₁ FG F' X' B' KI T'=>?_) H.co H.gen H.kind H.cell
  have ok' : (f.intoL A r ps fa c' cl g L').Ok c (A.deeper (f.intoL A r ps fa c' cl g L').env) d:={
   B:=B'
   X:=KI
   T:=T'
   codes:=λq hq=>(ok.codes q hq).keeps FG.keep
   frames:=by
    show (A.frames.map ((f.intoL A r ps fa c' cl g L').env::·))=_;rw[ok.frames];rfl
   frf:=rfl
   frk:=H.kind
   sc:=rfl
   cls:=rfl
   glo:=rfl
   blt:=rfl
   loc:=rfl
   cmp:=λZ h=>nos h
   handled:=ok.handled
   depth:=by show A.depth+1+3 * d+3<_;have:=ok.depth;exact ar27 this
   units:=by show A.units+3+30 * d+60<_;have:=ok.units;exact ar28 this
   kind:=H.kind
   nodup:=H.nodup
   onil:=λZ=>⟨rfl,rfl⟩ }
  refine h fa c' cl g L' _ _ ok' (⟨F',X',S.fa,⟨by rw[QH];exact hlen,λi x b e1 e2=>?_⟩,rc,S.gens,S.drawn,S.os,ltL S.pos (QG _ _),.empty⟩:St c (f.intoL A r ps fa c' cl g L') W σ ⟨l.map some,caps⟩ { s with heap:=h₁,toks:=s.toks+(ps.zip vs).length } _ N) FG;rw[Q2] at e2
  cases e3:l[i]? with
  |none=>rw[e3] at e2;exact nos e2
  |some b' =>
   rw[e3] at e2;cases e2
   refine xe12 (rl.get e3) λv h1 h2=>?_
   refine⟨v,rev_lookup (List.Nodup.sublist (zip_keys _ _) H.nodup) (HX (i:=i) ?_),h2⟩;rw[List.getElem?_zip_eq_some]
   exact⟨e1,h1⟩
theorem clo_code {id:Nat}{r:LamRec}{ps:List Str}(hl:c.lam id=some r)(H:LamAt r ps){M:Md}(hM:SEall c d r ps M)
  {A:Around} {l caps:List AV} {gv:Value} {vs:List Value} {a:AV} {σ' : Store} {R:Result->Shared->Prop}
  (ok:f.At c A d) (S:St c f W σ en s m N) (rg:Rel c.lam W (.clo id caps) gv) (rl:RelL c.lam W l vs) (q:cloF ps.length M caps l σ=some (a,σ')) (hR:∀ v s',PostE c f W en a σ' v s'->R (.ok (.ret v)) s') :
  codeAny (model c.prog c.w) A (.call gv ⟨vs,[]⟩) R s:=by
 refine oi q λhlen q=>enter_clo hl H ok S rg rl hlen λfa c' cl g L' s₁ m₁ ok' S₁ Z=>?_
 refine post (hM _ rfl rfl rfl rfl rfl _ W s₁ σ _ a σ' m₁ N _ ok' S₁ q) λv s' W' m' N' w' S' r'=>?_
 exact leaveK_ S'.F S'.nw λF X=>hR _ _ ⟨W',m,N',w',S.left w' S' rfl F X,r'⟩
theorem Fm.Ok.at {A:Around}(ok:f.Ok c A (d+1)):f.At c A d:=
 { B:=ok.B,X:=ok.X,T:=ok.T,codes:=ok.codes,frf:=ok.frf,frk:=ok.frk,frames:=ok.frames,handled:=ok.handled
   depth:=by have:=ok.depth;exact ar25 this
   units:=by have:=ok.units;exact ar26 this }
theorem clo_wp {A:Around}{E:Value->Shared->Prop}{id:Nat}{r:LamRec}{ps:List Str}(hl:c.lam id=some r)(H:LamAt r ps){M:Md}(hM:SEall c d r ps M)
  {l caps:List AV} {gv:Value} {vs:List Value} {a:AV} {σ' : Store}
  (ok:f.Ok c A (d+1)) (S:St c f W σ en s m N) (rg:Rel c.lam W (.clo id caps) gv) (rl:RelL c.lam W l vs) (q:cloF ps.length M caps l σ=some (a,σ')) :
  wpAny (model c.prog c.w) A (call gv vs) (PostE c f W en a σ' ) E s:=
 Uq (clo_code hl H hM ok.at S rg rl q λv s' p=>p)
theorem clo_keep {M:Model}{h:Heap}{gv:Value}{id:Nat}{caps:List AV}(S:St c f W σ en s m N)(rg:Rel c.lam W (.clo id caps) gv):KeepOk M s.heap gv:=by
 cases rg with
 |clo e hm hc hd hv rc=>
  exact⟨.frame,.inl rfl,(Looks.ld (part:=none) (S.nw _ (S.fa.tl _ hm)).1).andThen .now⟩
def lcM (MI M:Md)(T:MdB)(n:Nat)(is:List Nat):Md:=λen σ=>on2 (MI en σ) λa σ₁=>on1 (srcOf a σ₁) λsrc=>on1 (pickC is en.cel) λcaps=>on1 (compM M T src σ₁.length caps n 0 (σ₁++[.list []])) λσ₂=>some (.ref σ₁.length,σ₂)
theorem lcM_some {P:Prop}{MI M:Md}{T:MdB}{n:Nat}{is:List Nat}{en:En}{σ σ' : Store}{a:AV}(q:lcM MI M T n is en σ=some (a,σ'))
  (k:∀ b σ₁ src caps,MI en σ=some (b,σ₁)->srcOf b σ₁=some src->pickC is en.cel=some caps->compM M T src σ₁.length caps n 0 (σ₁++[.list []])=some σ'->.ref σ₁.length=a->P):P:=
 om q λb σ₁ q1 q=>om1 q λsrc q2 q=>om1 q λcaps q3 q=>om1 q λσ₂ q4 q=>
  let e:=Prod.mk.inj (soI q)
  k b σ₁ src caps q1 q2 q3 (e.2▸q4) e.1
theorem se_comp (hcn:f.comp=none){elt iter:PySem.Expr}{x:Str}{px pos:Pos}{ifs:List PySem.Expr}{scope:Scope}{MI M:Md}{T:MdB}{is:List Nat}(n:Nat)
  (hcell:∀ y∈scope.names,y.2≠.cell) (hkind:scope.kind = .function)
  (hnames:∀ y∈scope.names,y.2 = .local->scope.names.lookup y.1=some .local) (hx:scope.names.lookup x=some .local) (hc:capOk f.ys is (freeNames scope)=true)
  (hi:SE c d f iter MI) (hs:notSet iter=true)
  (hM:∀ f' : Fm,f'.cs=relabel scope f.env->f'.xs=[x]->f'.ys=freeNames scope->f'.env.scope=relabel scope f.env->SE c d f' elt M)
  (hT:∀ f' : Fm,f'.cs=relabel scope f.env->f'.xs=[x]->f'.ys=freeNames scope->f'.env.scope=relabel scope f.env->SI c d f' ifs T) :
  SE c d f (.ListComp elt [⟨.Name x px,iter,ifs,0⟩] scope pos) (lcM MI M T n is):=by
 intro A W s σ en a σ' m N E ok S q
 refine lcM_some q λb σ₁ src caps q1 q2 q3 q4 e=>?_
 subst e
 have hclos:=(HH ok S hc q3).1
 have hrel:=(HH ok S hc q3).2
 rw[eval_ListComp]
 refine comp_core (use:=none) hcn n hcell hkind hnames hx hi hs (λf' h1 h2 h3 Z h5=>hM f' h1 h2 h3 h5) (λf' h1 h2 h3 Z h5=>hT f' h1 h2 h3 h5) ok S hclos hrel q1 q2 q4 λs' W' m' N' C lobj' mC' Da w' S' hC' hD=>?_
 have z:=S'.nw _ (S'.fa.pn (C,lobj') (.head _))
 exact⟨mC',hC' _ z.1,λh' hs'=>⟨W',m',_,w',S'.pinDrop (t:=s'.toks) hs'.extBut S'.pos,.ref hD⟩⟩
theorem PZ (hcn:f.comp=none){elt iter:PySem.Expr}{x y:Str}{px py pos spos:Pos}{ifs:List PySem.Expr}{scope:Scope}{MI M:Md}{T:MdB}{is:List Nat}{i:Nat}(n:Nat)
  (hcell:∀ y∈scope.names,y.2≠.cell) (hkind:scope.kind = .function)
  (hnames:∀ y∈scope.names,y.2 = .local->scope.names.lookup y.1=some .local) (hx:scope.names.lookup x=some .local) (hc:capOk f.ys is (freeNames scope)=true)
  (hsw:swapsWith (.ListComp elt [⟨.Name x px,iter,ifs,0⟩] scope pos) (some (.Name y py)) spos.line f.env=pure true)
  (hy:f.xs[i]? = some y) (hk:f.cs.names.lookup y=some .local)
  (hi:SE c d f iter MI) (hs:notSet iter=true)
  (hM:∀ f' : Fm,f'.cs=relabel scope f.env->f'.xs=[x]->f'.ys=freeNames scope->f'.env.scope=relabel scope f.env->SE c d f' elt M)
  (hT:∀ f' : Fm,f'.cs=relabel scope f.env->f'.xs=[x]->f'.ys=freeNames scope->f'.env.scope=relabel scope f.env->SI c d f' ifs T) :
  SS c d f (.Assign [.Name y py] (.ListComp elt [⟨.Name x px,iter,ifs,0⟩] scope pos) spos) (bindM (lcM MI M T n is) λa en σ=>some (en.put i a,σ)):=by
 intro A W s σ en z en' σ' m N E ok S q
 refine om q λa σ₂ q0 q=>oe3 q (lcM_some q0 λb σ₁ src caps q1 q2 q3 q4 e=>?_)
 subst e
 have hclos:=(HH ok S hc q3).1
 have hrel:=(HH ok S hc q3).2
 rw[exec_Assign_Name_used _ _ _ _ hsw]
 refine QZ (wpAny_standAt (QZ ?_))
 show wpAny _ A (do let _ ← comprehension (.ListComp elt [⟨.Name x px,iter,ifs,0⟩] scope pos) scope f.env _ (newList []) false (eval iter f.env) (some (assign (.Name y py) f.env))) _ _ s
 refine QZ (Qz (comp_core (use:=some (assign (.Name y py) f.env)) (Q:=λZ s'=>PostS c f W .next (en.put i (.ref σ₁.length)) σ₂ .next s') hcn n hcell hkind hnames hx hi hs (λf' h1 h2 h3 Z h5=>hM f' h1 h2 h3 h5) (λf' h1 h2 h3 Z h5=>hT f' h1 h2 h3 h5) ok S hclos hrel q1 q2 q4 λs' W' m' N' C lobj' mC' Da w' S' hC' hD=>?_)
  (λZ s' hq=>Qk (Qk hq)) λZ Z e=>e)
 show wpAny _ A (assign (.Name y py) f.env (.ref Da)) _ _ _
 refine assign_Name (Qz (Mq (ok.pinned (C,lobj')) hcn S' hy hk (.ref hD)) (λZ sB p=>?_) λZ Z x=>x)
 obtain⟨WB,mB,NB,wB,S₂⟩:=p
 have z:=S₂.nw _ (S₂.fa.pn (C,lobj') (.head _))
 exact⟨mC',hC' _ z.1,λh' hs'=>⟨WB,mB,_,w'.trans wB,S₂.pinDrop (t:=sB.toks) hs'.extBut S₂.pos,.next⟩⟩
end
end
section
open PySem.SeqAt
inductive X where
 |val (a:AV)
 |loc (i:Nat)
 |cel (i:Nat)
 |bin (op:Operator) (l r:X)
 |cmp (op:CmpOp) (l r:X)
 |not (x:X)
 |neg (x:X)
 |and (l r:X)
 |or (l r:X)
 |ite (t a b:X)
 |call (f:X) (as:X)
 |meth (o:X) (n:Str) (as:X)
 |repl (o:X) (y z:Str)
 |attr (o:X) (n:Str)
 |sub (o i:X)
 |slice (nm:Bool) (o lo hi:X)
 |tup (as:X)
 |lst (as:X)
 |dict0
 |dict2 (x y:Str)
 |comp (elt iter ifs:X) (is:List Nat)
 |lam (id:Nat) (is:List Nat)
 |joinRev (y:Str) (x:X)
 |toks (C:Addr) (k:Int) (x:X)
 |nil
 |cons (x xs:X)
 deriving Inhabited
inductive T where
 |name (i:Nat)
 |sub (o i:X)
 |tup (n:Nat) (ts:T)
 |nil
 |cons (t ts:T)
 deriving Inhabited
inductive Y where
 |nil
 |cons (s r:Y)
 |ret (x:X)
 |brk
 |pass
 |expr (x:X)
 |iff (t:X) (a b:Y)
 |set (i:Nat) (x:X)
 |setT (n:Nat) (ts:T) (x:X)
 |pair (i j:Nat) (x:X)
 |setAttr (o:X) (n:Str) (x:X)
 |setSub (o i x:X)
 |while (t:X) (b:Y)
 |for (t:T) (x:X) (b:Y)
 |forR (t:T) (x:X) (b:Y)
 |tryR (b:Y)
 |exc
 |fail
 deriving Inhabited
structure Ent where
 pk:List Bool
 nz:Nat
 lo:Nat
 np:Nat
 dvs:List AV
 body:Y
structure Pk where
 fns:List (Addr×Ent)
 clss:List (Addr×Ent)
 lams:List (Nat×X)
 attrs:List (Addr×Str)
 sets:List (Addr×Str)
 meths:List (Addr×Str×Addr)
 dicts:List (Addr×Str×Option AV)
 tups:List (Addr×List Str)
 script:Addr×List Int
 exc:En->Store->Option (AV×Store)
noncomputable def Pk.attr (p:Pk) (C:Addr) (n:Str):Bool:=p.attrs.contains (C,n)
noncomputable def Pk.set (p:Pk) (C:Addr) (n:Str):Bool:=p.sets.contains (C,n)
noncomputable def Pk.meth (p:Pk) (C:Addr) (n:Str):Option Addr:=(p.meths.find? λq=>q.1==C&&q.2.1==n).map (·.2.2)
noncomputable def Pk.dict (p:Pk) (C:Addr) (n:Str):Option (Option AV):=(p.dicts.find? λq=>q.1==C&&q.2.1==n).map (·.2.2)
noncomputable def Pk.isDict (p:Pk) (C:Addr):Bool:=p.dicts.any λq=>q.1==C
noncomputable def Pk.tup (p:Pk) (C:Addr):Option (List Str):=p.tups.lookup C
noncomputable def Pk.fn (p:Pk) (C:Addr):Option Ent:=p.fns.lookup C
noncomputable def Pk.cls (p:Pk) (C:Addr):Option Ent:=p.clss.lookup C
noncomputable def Pk.lam (p:Pk) (i:Nat):Option X:=p.lams.lookup i
def attrP (p:Pk):AV->Str->Store->Option AV:=attrF p.attr
def setP (p:Pk):AV->Str->AV->Store->Option Store:=setF p.set
def getP (p:Pk):GetF:=getF p.meth
def dictD (p:Pk)(a:Addr)(x:Str):Option AV:=on1 (p.dict a x) λr=>r
def subP (p:Pk):AV->AV->Store->Option AV:=subF (dictD p)
def inD (p:Pk)(a:Addr)(x:Str):Option Bool:=if p.isDict a then on1 (p.dict a x) λr=>some r.isSome else on1 (p.tup a) λxs=>some (xs.any (·==x))
def inP (p:Pk):AV->AV->Option Bool:=inF (inD p)
def cmpP (p:Pk)(op:CmpOp)(a b:AV)(σ:Store):Option (AV×Store):=match op with
 | .Eq=>eqF2 false a b σ
 | .NotEq=>eqF2 true a b σ
 | .In=>inF2 (inD p) false a b σ
 | .NotIn=>inF2 (inD p) true a b σ
 |op=>cmpF op a b σ
def joinR (y:Str)(a:AV)(σ:Store):Option (AV×Store):=onRef a λi=>onList σ[i]? λl=>on1 (strsOf l.reverse) λys=>if (ys.map (·.length)).sum+ys.length * y.length≤16777216∧l.length≤1000000 then some (.str (Txt.join y ys),σ) else none
structure Pc where
 p:Pk
 C:CallF
 n:Nat
 R:En->Store->Option (AV×Store)
noncomputable def toksM (C:CallF) (cls:Addr) (k:Int) (i D:Nat):Nat->Nat->Store->Option Store
 |0,_,_=>none
 |n+1,j,σ=>onN (nextF (.list i) j σ) (some σ) λa=>onPairF a λx y=>on2 (C (.glob (.ref cls)) [x,y,.tup [.int ((j:Int)+1),.int k]] σ) λb σ₁=>on2 (appendF [.ref D,b] σ₁) λZ σ₂=>toksM C cls k i D n (j+1) σ₂
mutual
noncomputable def ev (e:Pc):X->Md
 | .val a=>λZ σ=>some (a,σ)
 | .loc i=>λen σ=>match en.loc[i]? with|some (some a)=>some (a,σ)|_=>none
 | .cel i=>λen σ=>match en.cel[i]? with|some a=>some (a,σ)|_=>none
 | .bin op l r=>two (ev e l) (ev e r) (binF2 op)
 | .cmp op l r=>two (ev e l) (ev e r) (cmpP e.p op)
 | .not x=>λen σ=>on2 (tested (ev e x) truthF2 en σ) λb σ₁=>some (.bool (!b),σ₁)
 | .neg x=>λen σ=>on2 (ev e x en σ) negF
 | .and l r=>boolM false (ev e l) (ev e r) truthF2
 | .or l r=>boolM true (ev e l) (ev e r) truthF2
 | .ite t a b=>iteM (tested (ev e t) truthF2) (ev e a) (ev e b)
 | .call f as=>callM (ev e f) (evL e as) e.C
 | .meth o n as=>methM (getP e.p) e.C (ev e o) n (evL e as)
 | .repl o y z=>replM (ev e o) y z
 | .attr o n=>λen σ=>on2 (ev e o en σ) λa σ₁=>on1 (attrP e.p a n σ₁) λb=>some (b,σ₁)
 | .sub o i=>two (ev e o) (ev e i) λa b σ=>on1 (subP e.p a b σ) λr=>some (r,σ)
 | .slice nm o lo hi=>sliceM e.p.script nm (ev e o) (evO e lo) (evO e hi)
 | .tup as=>λen σ=>on2 (evL e as en σ) λl σ₁=>if l.length≤1000000 then some (.tup l,σ₁) else none
 | .lst as=>λen σ=>on2 (evL e as en σ) λl σ₁=>if l.length≤1000000 then some (.ref σ₁.length,σ₁++[.list l]) else none
 | .dict0=>λZ σ=>some (.ref σ.length,σ++[.dict []])
 | .dict2 x y=>λZ σ=>some (.ref σ.length,σ++[.dict [(x,.none),(y,.none)]])
 | .comp elt iter ifs is=>lcM (ev e iter) (ev e elt) (evI e ifs) e.n is
 | .lam id is=>λen σ=>on1 (pickC is en.cel) λcaps=>some (.clo id caps,σ)
 | .joinRev y x=>λen σ=>on2 (ev e x en σ) λa σ₁=>joinR y a σ₁
 | .toks cls k x=>λen σ=>on2 (ev e x en σ) λa σ₁=>onRef a λi=>onList σ₁[i]? λl=>on1 (toksM e.C cls k i σ₁.length (l.length+1) 0 (σ₁++[.list []])) λσ₂=>some (.ref σ₁.length,σ₂)
 | .nil=>λZ Z=>none
 | .cons _ _=>λZ Z=>none
noncomputable def evL (e:Pc):X->MdL
 | .nil=>λZ σ=>some ([],σ)
 | .cons x xs=>λen σ=>on2 (ev e x en σ) λa σ₁=>on2 (evL e xs en σ₁) λl σ₂=>some (a::l,σ₂)
 |_=>λZ Z=>none
noncomputable def evO (e:Pc):X->Option Md
 | .nil=>none
 | .cons x _=>some (ev e x)
 |_=>some λZ Z=>none
noncomputable def evI (e:Pc):X->MdB
 | .nil=>λZ σ=>some (true,σ)
 | .cons x .nil=>tested (ev e x) truthF2
 |_=>λZ Z=>none
end
def evT (e:Pc)(x:X):MdB:=tested (ev e x) truthF2
mutual
noncomputable def evA (e:Pc):T->MdA
 | .name i=>λa en σ=>some (en.put i a,σ)
 | .sub o i=>subA (ev e o) (ev e i)
 | .tup n ts=>tupA n (evAL e ts)
 |_=>λZ Z Z=>none
noncomputable def evAL (e:Pc):T->MdAL
 | .nil=>λl en σ=>match l with | []=>some (en,σ)|_=>none
 | .cons t ts=>λl en σ=>match l with | []=>none|a::l=>on2 (evA e t a en σ) λen₁ σ₁=>evAL e ts l en₁ σ₁
 |_=>λZ Z Z=>none
end
noncomputable def evS (e:Pc):Y->MdS
 | .nil=>λen σ=>some (.next,en,σ)
 | .cons s r=>seqM (evS e s) (evS e r)
 | .ret x=>λen σ=>on2 (ev e x en σ) λa σ₁=>some (.ret a,en,σ₁)
 | .brk=>λen σ=>some (.brk,en,σ)
 | .pass=>λen σ=>some (.next,en,σ)
 | .expr x=>dropM (ev e x)
 | .iff t a b=>iteM (evT e t) (evS e a) (evS e b)
 | .set i x=>bindM (ev e x) λa en σ=>some (en.put i a,σ)
 | .setT n ts x=>bindM (ev e x) (tupA n (evAL e ts))
 | .pair i j x=>pairM (ev e x) i j
 | .setAttr o n x=>λen σ=>on2 (ev e x en σ) λb σ₁=>on2 (ev e o en σ₁) λa σ₂=>on1 (setP e.p a n b σ₂) λσC=>some (.next,en,σC)
 | .setSub o i x=>asgSubM (ev e x) (ev e o) (ev e i)
 | .while t b=>whileM (evT e t) (evS e b) e.n
 | .for t x b=>forStM (ev e x) (evA e t) (evS e b) e.n
 | .forR t x b=>forRangeM (ev e x) (evA e t) (evS e b) e.n
 | .tryR b=>λen σ=>evS e b en σ
 | .exc=>λen σ=>on2 (e.R en σ) λZ σ₁=>some (.next,en,σ₁)
 | .fail=>λZ Z=>none
def runE (e:Ent)(M:MdS)(l:List AV)(σ:Store):Option (AV×Store):=runB e.pk e.nz e.lo e.np e.dvs M l σ
def callA (p:Pk)(C:CallF)(a:Addr)(l:List AV)(σ:Store):Option (AV×Store):=match p.fn a with
 |some e=>runE e (evS ⟨p,C,1000,p.exc⟩ e.body) l σ
 |none=>on1 (p.cls a) λe=>on2 (runE e (evS ⟨p,C,1000,p.exc⟩ e.body) (.ref (σ.length+1)::l) (σ++[.dict [],.inst a σ.length])) λr σ'=>onNT r (some (.ref (σ.length+1),σ')) none
def callG (p:Pk)(C:CallF)(g:AV)(l:List AV)(σ:Store):Option (AV×Store):=match g with
 | .glob (.ref a)=>callA p C a l σ
 | .glob v=>on1 (natOf v) λk=>natF k l σ
 | .clo id caps=>on1 (p.lam id) λx=>cloF 1 (ev ⟨p,C,1000,p.exc⟩ x) caps l σ
 |_=>none
noncomputable def callN (p:Pk):Nat->CallF
 |0=>λZ Z Z=>none
 |n+1=>λg l σ=>gc σ.length (callG p (callN p n) g l σ)
end
section
open PySem.SeqAt
section
variable {α:Type}
noncomputable def asOne:(l:List α)->Option {a:α // l=[a]}
 | [a]=>some ⟨a,rfl⟩
 |_=>none
noncomputable def asTwo:(l:List α)->Option {t:α×α // l=[t.1,t.2]}
 | [a,b]=>some ⟨(a,b),rfl⟩
 |_=>none
end
noncomputable def asSome {α:Type}:(l:Option α)->Option {t:α // l=some t}
 |some t=>some ⟨t,rfl⟩
 |none=>none
abbrev PE:=PySem.Expr
abbrev LE:=List PySem.Expr
noncomputable def asConst:(e:PE)->Option {t:Const×Nat×Pos // e = .Constant t.1 t.2.1 t.2.2}
 | .Constant k n p=>some ⟨(k,n,p),rfl⟩
 |_=>none
noncomputable def asName:(e:PE)->Option {t:Str×Pos // e = .Name t.1 t.2}
 | .Name x p=>some ⟨(x,p),rfl⟩
 |_=>none
noncomputable def asBin:(e:PE)->Option {t:PE×Operator×PE×Pos // e = .BinOp t.1 t.2.1 t.2.2.1 t.2.2.2}
 | .BinOp l op r p=>some ⟨(l,op,r,p),rfl⟩
 |_=>none
noncomputable def asCmp:(e:PE)->Option {t:PE×List CmpOp×LE×Pos // e = .Compare t.1 t.2.1 t.2.2.1 t.2.2.2}
 | .Compare l op r p=>some ⟨(l,op,r,p),rfl⟩
 |_=>none
noncomputable def asUn:(e:PE)->Option {t:UnaryOp×PE×Pos // e = .UnaryOp t.1 t.2.1 t.2.2}
 | .UnaryOp op x p=>some ⟨(op,x,p),rfl⟩
 |_=>none
noncomputable def asBool:(e:PE)->Option {t:BoolOp×LE×Pos // e = .BoolOp t.1 t.2.1 t.2.2}
 | .BoolOp op x p=>some ⟨(op,x,p),rfl⟩
 |_=>none
noncomputable def asIte:(e:PE)->Option {t:PE×PE×PE×Pos // e = .IfExp t.1 t.2.1 t.2.2.1 t.2.2.2}
 | .IfExp t a b p=>some ⟨(t,a,b,p),rfl⟩
 |_=>none
noncomputable def asCall:(e:PE)->Option {t:PE×LE×Pos // e = .Call t.1 t.2.1 [] t.2.2}
 | .Call f as [] p=>some ⟨(f,as,p),rfl⟩
 |_=>none
noncomputable def asAttr:(e:PE)->Option {t:PE×Str×Pos // e = .Attribute t.1 t.2.1 t.2.2}
 | .Attribute o n p=>some ⟨(o,n,p),rfl⟩
 |_=>none
noncomputable def asSub:(e:PE)->Option {t:PE×PE×Pos // e = .Subscript t.1 t.2.1 t.2.2}
 | .Subscript o i p=>some ⟨(o,i,p),rfl⟩
 |_=>none
noncomputable def asSlice:(e:PE)->Option {t:Option PE×Option PE×Pos // e = .Slice t.1 t.2.1 none t.2.2}
 | .Slice lo hi none p=>some ⟨(lo,hi,p),rfl⟩
 |_=>none
noncomputable def asTup:(e:PE)->Option {t:LE×Nat×Pos // e = .Tuple t.1 t.2.1 t.2.2}
 | .Tuple es k p=>some ⟨(es,k,p),rfl⟩
 |_=>none
noncomputable def asList:(e:PE)->Option {t:LE×Pos // e = .List t.1 t.2}
 | .List es p=>some ⟨(es,p),rfl⟩
 |_=>none
noncomputable def asDict:(e:PE)->Option {t:List (Option PE)×LE×Pos // e = .Dict t.1 t.2.1 t.2.2}
 | .Dict ks vs p=>some ⟨(ks,vs,p),rfl⟩
 |_=>none
noncomputable def asComp:(e:PE)->Option {t:PE×PE×PE×LE×Scope×Pos // e = .ListComp t.1 [⟨t.2.1,t.2.2.1,t.2.2.2.1,0⟩] t.2.2.2.2.1 t.2.2.2.2.2}
 | .ListComp elt [⟨x,it,ifs,0⟩] sc p=>some ⟨(elt,x,it,ifs,sc,p),rfl⟩
 |_=>none
noncomputable def asLam:(e:PE)->Option {t:Arguments×PE×Scope×Pos // e = .Lambda t.1 t.2.1 t.2.2.1 t.2.2.2}
 | .Lambda ps b sc p=>some ⟨(ps,b,sc,p),rfl⟩
 |_=>none
noncomputable def asStr:(e:PE)->Option {t:Str×Nat×Pos // e = .Constant (.str t.1) t.2.1 t.2.2}
 | .Constant (.str x) n p=>some ⟨(x,n,p),rfl⟩
 |_=>none
structure Ce where
 cs:Scope
 xs:List Str
 ys:List Str
 comp:Bool
 top:Option (Str×Addr×Addr)
structure Ge where
 gl:List (Str×Value)
 bl:List (Str×Value)
noncomputable def relabelS (scope cs:Scope):Scope:=
 { scope with names:=scope.names.map λ(n,k)=>if (k==.free&&cs.kind==.function&&cs.names.lookup n==some .cell) then (n,.cell) else (n,k) }
def Ce.inner (E:Ce)(scope:Scope)(x:Str):Ce:=⟨relabelS scope E.cs,[x],freeNames scope,true,none⟩
def Ce.fits (E:Ce)(f:Fm):Prop:=f.cs=E.cs∧f.xs=E.xs∧f.ys=E.ys∧f.env.scope=E.cs∧(E.comp=false->f.comp=none)∧∀ t,E.top=some t->f.env=envX t.1 f.cs f.L t.2.1 (.ref t.2.2) f.cl
noncomputable def sameK:AV->Const->Bool
 | .none,k=>k==.none
 | .bool a,k=>k==.bool a
 | .int a,k=>k==.int a
 | .str a,k=>k==.str a
 |_,_=>false
noncomputable def sameG (a:AV) (v:Value):Bool:=match a with
 | .int a=>(match v with|.int b _=>a==b|_=>false)
 | .str a=>(match v with|.str b _=>a.cps.toList==b.cps.toList|_=>false)
 | .glob w=>(match w with
  | .ref a=>(match v with|.ref b=>a==b|_=>false)
  | .type a=>(match v with|.type b=>a==b|_=>false)
  | .builtin a=>(match v with|.builtin b=>a==b|_=>false)
  |_=>false)
 |_=>false
def nameG (g:Ge)(a:AV)(x:Str):Bool:=match g.gl.lookup x with
 |some v=>sameG a v
 |none=>match g.bl.lookup x with
  |some v=>sameG a v
  |none=>false
noncomputable def notIte:PE->Bool
 | .IfExp .. => false
 |_=>true
noncomputable def isGl (E:Ce) (x:Str):Bool:=E.cs.names.lookup x==some .globalImplicit&&x != "__debug__"
noncomputable def isLc (E:Ce) (i:Nat) (x:Str):Bool:=E.xs[i]? == some x&&E.cs.names.lookup x==some .local
noncomputable def compOk (E:Ce) (scope:Scope) (x:Str) (is:List Nat):Bool:=
 (scope.names.all λy=>y.2 != .cell)&&scope.kind==.function&&(scope.names.all λy=>if y.2==.local then scope.names.lookup y.1==some .local else true)&&scope.names.lookup x==some .local&&capOk E.ys is (freeNames scope)&&!E.comp
noncomputable def isNilX:X->Bool
 | .nil=>true
 |_=>false
noncomputable def onv {α:Type} {P:α->Prop} (o:Option {t:α // P t}) (k:α->Bool):Bool:=match o with
 |some v=>k v.1
 |none=>false
theorem onv_ok {α:Type}{P:α->Prop}{o:Option {t:α // P t}}{k:α->Bool}(h:onv o k=true):∃ v,P v∧k v=true:=by
 cases o with
 |none=>exact nof h
 |some v=>exact⟨v.1,v.2,h⟩
@[elab_as_elim] theorem QU {α β:Type}{F:β->α}(e:α){o:Option {t:β // e=F t}}{k:β->Bool}{C:α->Prop}(h:onv o k=true)(H:∀ v,k v=true->C (F v)):C e:=
 let ⟨v,p,q⟩:=onv_ok h
 p.symm▸H v q
@[elab_as_elim] theorem eq_elim {α:Type}[BEq α][LawfulBEq α]{a:α}(b:α){C:α->Prop}(h:(a==b)=true)(H:C a):C b:=bqM h▸H
noncomputable def boolS (k1 k2:PE->Bool) (k3:LE->Bool):LE->Bool
 | [a,b]=>k1 a&&notIte a&&k2 b&&notIte b
 |a::b::m=>k1 a&&notIte a&&k3 (b::m)
 |_=>false
mutual
noncomputable def chX (g:Ge) (E:Ce):X->PE->Bool
 | .val a,e=>onv (asConst e) (λv=>sameK a v.1)||onv (asName e) λv=>isGl E v.1&&nameG g a v.1
 | .loc i,e=>onv (asName e) λv=>isLc E i v.1&&v.1 != "__debug__"
 | .cel i,e=>onv (asName e) λv=>E.ys[i]? == some v.1&&(E.cs.names.lookup v.1==some .cell||E.cs.names.lookup v.1==some .free)&&v.1 != "__debug__"&&v.1 != "__classdict__"
 | .bin op l r,e=>onv (asBin e) λv=>op==v.2.1&&chX g E l v.1&&chX g E r v.2.2.1
 | .cmp op l r,e=>onv (asCmp e) λv=>onv (asOne v.2.1) λop'=>onv (asOne v.2.2.1) λr'=>op==op'&&chX g E l v.1&&chX g E r r'&&!behindInMarks op' r'
 | .not x,e=>onv (asUn e) λv=>v.1==.Not&&chX g E x v.2.1&&notIte v.2.1
 | .neg x,e=>onv (asUn e) λv=>v.1==.USub&&chX g E x v.2.1
 | .and l r,e=>onv (asBool e) λv=>v.1==.And&&boolS (chX g E l) (chX g E r) (λm=>chX g E r (.BoolOp .And m v.2.2)) v.2.1
 | .or l r,e=>onv (asBool e) λv=>v.1==.Or&&boolS (chX g E l) (chX g E r) (λm=>chX g E r (.BoolOp .Or m v.2.2)) v.2.1
 | .ite t a b,e=>onv (asIte e) λv=>chX g E t v.1&&notIte v.1&&chX g E a v.2.1&&chX g E b v.2.2.1
 | .call f as,e=>onv (asCall e) λv=>chX g E f v.1&&chL g E as v.2.1&&v.2.1.all notStar&&notAttr v.1
 | .meth o n as,e=>onv (asCall e) λv=>onv (asAttr v.1) λu=>(n==u.2.1&&chX g E o u.1&&chL g E as v.2.1&&v.2.1.all notStar)&&methForm u.1 v.2.1.length u.2.2 v.2.2
 | .repl o y z,e=>onv (asCall e) λv=>onv (asAttr v.1) λu=>onv (asTwo v.2.1) λw=>onv (asStr w.1) λy'=>onv (asStr w.2) λz'=>(u.2.1 == "replace"&&y==y'.1&&z==z'.1&&chX g E o u.1)&&methForm u.1 2 u.2.2 v.2.2
 | .attr o n,e=>onv (asAttr e) λv=>n==v.2.1&&chX g E o v.1&&notSup v.1
 | .sub o i,e=>onv (asSub e) λv=>chX g E o v.1&&chX g E i v.2.1&&plainIndex v.2.1
 | .slice nm o lo hi,e=>onv (asSub e) λv=>onv (asSlice v.2.1) λu=>nm==isNameE v.1&&chX g E o v.1&&chO g E lo u.1&&chO g E hi u.2.1
 | .tup as,e=>onv (asTup e) λv=>chL g E as v.1
 | .lst as,e=>onv (asList e) λv=>chL g E as v.1
 | .dict0,e=>onv (asDict e) λv=>v.1.isEmpty&&v.2.1.isEmpty
 | .dict2 x y,e=>onv (asDict e) λv=>onv (asTwo v.1) λks=>onv (asTwo v.2.1) λvs=>onv (asSome ks.1) λk1=>onv (asSome ks.2) λk2=>onv (asStr k1) λx'=>onv (asStr k2) λy'=>onv (asConst vs.1) λc1=>onv (asConst vs.2) λc2=>
   (x==x'.1&&y==y'.1&&x != y&&c1.1==.none)&&c2.1==.none
 | .comp elt iter ifs is,e=>onv (asComp e) λv=>onv (asName v.2.1) λx=>(compOk E v.2.2.2.2.1 x.1 is&&chX g E iter v.2.2.1&&notSet v.2.2.1&&chX g (E.inner v.2.2.2.2.1 x.1) elt v.1)&&chI g (E.inner v.2.2.2.2.1 x.1) ifs v.2.2.2.1
 | .lam _ _,_=>false
 | .joinRev y x,e=>onv (asCall e) λv=>onv (asAttr v.1) λu=>onv (asOne v.2.1) λa=>onv (asStr u.1) λy'=>onv (asCall a) λw=>onv (asName w.1) λr=>onv (asOne w.2.1) λx' =>
   (y==y'.1&&u.2.1 == "join"&&isGl E r.1&&nameG g (.glob (.type "reversed")) r.1)&&(chX g E x x'&&notStar x'&&u.2.2.endLine==v.2.2.line)
 | .toks _ _ _,_=>false
 | .nil,_=>false
 | .cons _ _,_=>false
noncomputable def chL (g:Ge) (E:Ce):X->LE->Bool
 | .nil,es=>es.isEmpty
 | .cons x xs,es=>match es with
  |e::es=>chX g E x e&&notStar e&&chL g E xs es
  | []=>false
 |_,_=>false
noncomputable def chO (g:Ge) (E:Ce):X->Option PE->Bool
 | .nil,e=>e.isNone
 | .cons x _,e=>onv (asSome e) λe=>chX g E x e
 |_,_=>false
noncomputable def chI (g:Ge) (E:Ce):X->LE->Bool
 | .nil,es=>es.isEmpty
 | .cons x r,es=>isNilX r&&onv (asOne es) λe=>chX g E x e&&notIte e
 |_,_=>false
end
structure LamOb where
 id:Nat
 ps:Arguments
 body:PE
 scope:Scope
 pos:Pos
noncomputable def asLamX:(x:X)->Option {t:Nat×List Nat // x = .lam t.1 t.2}
 | .lam id is=>some ⟨(id,is),rfl⟩
 |_=>none
noncomputable def asCallX:(x:X)->Option {t:X×X // x = .call t.1 t.2}
 | .call f as=>some ⟨(f,as),rfl⟩
 |_=>none
noncomputable def asCompX:(x:X)->Option {t:X×X×X×List Nat // x = .comp t.1 t.2.1 t.2.2.1 t.2.2.2}
 | .comp a b c is=>some ⟨(a,b,c,is),rfl⟩
 |_=>none
noncomputable def chLa (g:Ge) (E:Ce):X->LE->Bool
 | .nil,es=>es.isEmpty
 | .cons x xs,es=>match es with
  |e::es=>(onv (asLamX x) (λv=>onv (asLam e) λu=>capOk E.ys v.2 (freeNames u.2.2.1))||chX g E x e)&&notStar e&&chLa g E xs es
  | []=>false
 |_,_=>false
noncomputable def obE (x:X) (e:PE):List LamOb:=match asLamX x with
 |some v=>(match asLam e with
  |some u=>[⟨v.1.1,u.1.1,u.1.2.1,u.1.2.2.1,u.1.2.2.2⟩]
  |none=>[])
 |none=>[]
noncomputable def obLa:X->LE->List LamOb
 | .cons x xs,es=>match es with
  |e::es=>obE x e++obLa xs es
  | []=>[]
 |_,_=>[]
def chTop (g:Ge)(E:Ce)(x:X)(e:PE):Bool:=
 onv (asCallX x) (λu=>onv (asCall e) λv=>chX g E u.1 v.1&&chLa g E u.2 v.2.1&&v.2.1.all notStar&&notAttr v.1)||chX g E x e
def obTop (x:X)(e:PE):List LamOb:=match asCallX x with
 |some u=>(match asCall e with
  |some v=>obLa u.1.2 v.1.2.1
  |none=>[])
 |none=>[]
noncomputable def asRet:(s:Stmt)->Option {t:PE×Pos // s = .Return (some t.1) t.2}
 | .Return (some e) p=>some ⟨(e,p),rfl⟩
 |_=>none
noncomputable def asBrk:(s:Stmt)->Option {t:Pos // s = .Break t}
 | .Break p=>some ⟨p,rfl⟩
 |_=>none
noncomputable def asPass:(s:Stmt)->Option {t:Pos // s = .Pass t}
 | .Pass p=>some ⟨p,rfl⟩
 |_=>none
noncomputable def asExpr:(s:Stmt)->Option {t:PE×Pos // s = .Expr t.1 t.2}
 | .Expr e p=>some ⟨(e,p),rfl⟩
 |_=>none
noncomputable def asIf:(s:Stmt)->Option {t:PE×List Stmt×List Stmt×Pos // s = .If t.1 t.2.1 t.2.2.1 t.2.2.2}
 | .If t a b p=>some ⟨(t,a,b,p),rfl⟩
 |_=>none
noncomputable def asAsg:(s:Stmt)->Option {t:PE×PE×Pos // s = .Assign [t.1] t.2.1 t.2.2}
 | .Assign [t] e p=>some ⟨(t,e,p),rfl⟩
 |_=>none
noncomputable def asWhile:(s:Stmt)->Option {t:PE×List Stmt×Pos // s = .While t.1 t.2.1 [] t.2.2}
 | .While t b [] p=>some ⟨(t,b,p),rfl⟩
 |_=>none
noncomputable def asFor:(s:Stmt)->Option {t:PE×PE×List Stmt×Pos // s = .For t.1 t.2.1 t.2.2.1 [] t.2.2.2}
 | .For t x b [] p=>some ⟨(t,x,b,p),rfl⟩
 |_=>none
mutual
noncomputable def chT (g:Ge) (E:Ce):T->PE->Bool
 | .name i,e=>onv (asName e) λv=>isLc E i v.1
 | .sub o i,e=>onv (asSub e) λv=>chX g E o v.1&&chX g E i v.2.1
 | .tup n ts,e=>onv (asTup e) λv=>n==v.1.length&&chTL g E ts v.1
 | .nil,_=>false
 | .cons _ _,_=>false
noncomputable def chTL (g:Ge) (E:Ce):T->LE->Bool
 | .nil,es=>es.isEmpty
 | .cons t ts,es=>match es with
  |e::es=>chT g E t e&&notStar e&&chTL g E ts es
  | []=>false
 |_,_=>false
end
noncomputable def swapS (ts:LE) (e:PE) (cs:Scope):Option (Option (List Str)):=match asTup e with
 |none=>some none
 |some ⟨(vs,_,_),_⟩=>
  if !(ts.length==2||ts.length==3)||vs.length != ts.length||cs.kind != .function then some none
  else if vs.any (fun|.Starred .. => true|_=>false) then some none
  else
   let line:=(ts.head?.map (·.pos.line)).getD 0
   let names:=ts.filterMap fun
    | .Name id pos=>if cs.names.lookup id==some .local&&pos.line==line then some id else none
    |_=>none
   if names.length != ts.length||names.eraseDups.length != names.length then some none
   else if vs.all (foldedForSure 8) then some none
   else if vs.all (constantsAlone 8) then none
   else some (some names)
def swNone (ts:LE)(e:PE)(cs:Scope):Bool:=swapS ts e cs==some none
def swPair (ts:LE)(e:PE)(cs:Scope)(x y:Str):Bool:=swapS ts e cs==some (some [x,y])
noncomputable def pairS (E:Ce) (i j:Nat) (k:Str->Str->Bool):Bool:=okO E.xs[i]? λa=>okO E.xs[j]? λb=>isLc E i a&&isLc E j b&&k a b
mutual
noncomputable def chS (g:Ge) (E:Ce):Y->List Stmt->Bool
 | .nil,ss=>ss.isEmpty
 | .cons s r,ss=>match ss with
  |st::rest=>ch1 g E s st&&chS g E r rest
  | []=>false
 |_,_=>false
noncomputable def ch1 (g:Ge) (E:Ce):Y->Stmt->Bool
 | .ret x,s=>onv (asRet s) λv=>chTop g E x v.1
 | .brk,s=>onv (asBrk s) λZ=>true
 | .pass,s=>onv (asPass s) λZ=>true
 | .expr x,s=>onv (asExpr s) λv=>chX g E x v.1&&notComp v.1
 | .iff t a b,s=>onv (asIf s) λv=>chX g E t v.1&&notIte v.1&&chS g E a v.2.1&&chS g E b v.2.2.1
 | .set i x,s=>onv (asAsg s) λv=>onv (asName v.1) λy=>isLc E i y.1&&((chTop g E x v.2.1&&notComp v.2.1)||onv (asCompX x) λu=>onv (asComp v.2.1) λw=>onv (asName w.2.1) λx' =>
   (compOk E w.2.2.2.2.1 x'.1 u.2.2.2&&chX g E u.2.1 w.2.2.1&&notSet w.2.2.1&&chX g (E.inner w.2.2.2.2.1 x'.1) u.1 w.1)&&(chI g (E.inner w.2.2.2.2.1 x'.1) u.2.2.1 w.2.2.2.1&&E.cs.kind==.function&&y.2.line==w.2.2.2.2.2.line &&
        !(w.2.2.2.2.1.names.any λq=>q.1==y.1&&(q.2==.local||q.2==.cell))))
 | .setT n ts x,s=>onv (asAsg s) λv=>onv (asTup v.1) λu=>(n==u.1.length&&chTL g E ts u.1&&chX g E x v.2.1&&notComp v.2.1)&&swNone u.1 v.2.1 E.cs
 | .pair i j x,s=>onv (asAsg s) λv=>onv (asTup v.1) λu=>pairS E i j λa b=>chX g E x v.2.1&&notComp v.2.1&&swPair u.1 v.2.1 E.cs a b
 | .setAttr o n x,s=>onv (asAsg s) λv=>onv (asAttr v.1) λu=>n==u.2.1&&chX g E x v.2.1&&chX g E o u.1&&notComp v.2.1
 | .setSub o i x,s=>onv (asAsg s) λv=>onv (asSub v.1) λu=>chX g E x v.2.1&&chX g E o u.1&&chX g E i u.2.1&&notComp v.2.1
 | .while t b,s=>onv (asWhile s) λv=>chX g E t v.1&&notIte v.1&&chS g E b v.2.1
 | .for t x b,s=>onv (asFor s) λv=>chT g E t v.1&&chX g E x v.2.1&&notSet v.2.1&&chS g E b v.2.2.1
 | .forR t x b,s=>onv (asFor s) λv=>onv (asCall v.2.1) λu=>onv (asName u.1) λr=>onv (asOne u.2.1) λa=>(isGl E r.1&&nameG g (.glob (.type "range")) r.1&&chT g E t v.1&&chX g E x a)&&(notStar a&&chS g E b v.2.2.1)
 | .fail,_=>true
 | .nil,_=>false
 | .cons _ _,_=>false
 | .tryR _,_=>false
 | .exc,_=>false
end
mutual
noncomputable def obS:Y->List Stmt->List LamOb
 | .cons s r,ss=>match ss with
  |st::rest=>ob1 s st++obS r rest
  | []=>[]
 |_,_=>[]
noncomputable def ob1:Y->Stmt->List LamOb
 | .ret x,s=>match asRet s with
  |some v=>obTop x v.1.1
  |none=>[]
 | .set _ x,s=>match asAsg s with
  |some v=>obTop x v.1.2.1
  |none=>[]
 | .iff _ a b,s=>match asIf s with
  |some v=>obS a v.1.2.1++obS b v.1.2.2.1
  |none=>[]
 | .while _ b,s=>match asWhile s with
  |some v=>obS b v.1.2.1
  |none=>[]
 | .for _ _ b,s=>match asFor s with
  |some v=>obS b v.1.2.2.1
  |none=>[]
 | .forR _ _ b,s=>match asFor s with
  |some v=>obS b v.1.2.2.1
  |none=>[]
 |_,_=>[]
end
end
section
open PySem.SeqAt
section
variable {c:Cx}{d:Nat}{f:Fm}
theorem SE.weak {e:PE}{M M' : Md}(h:SE c d f e M)(w:∀ en σ r,M' en σ=some r->M en σ=some r):SE c d f e M' :=
 λA W s σ en a σ' m N E ok S q=>h A W s σ en a σ' m N E ok S (w _ _ _ q)
theorem ST.weak {e:PE}{M M' : MdB}(h:ST c d f e M)(w:∀ en σ,M' en σ=M en σ):ST c d f e M' :=
 λA W s σ en a σ' m N E ok S q=>h A W s σ en a σ' m N E ok S ((w _ _).symm.trans q)
theorem SS.weak {e:Stmt}{M M' : MdS}(h:SS c d f e M)(w:∀ en σ r,M' en σ=some r->M en σ=some r):SS c d f e M' :=
 λA W s σ en x en' σ' m N E ok S q=>h A W s σ en x en' σ' m N E ok S (w _ _ _ q)
end
structure PkOk (c:Cx)(p:Pk):Prop where
 attr:∀ C n,p.attr C n=true->attrOk c.K C n=true
 set:∀ C n,p.set C n=true->setOk c.K C n=true
 meth:∀ C n fa,p.meth C n=some fa->methOf c.K C n=some fa
 gds:GDicts c (p.dicts.map (·.1))
 dict:∀ a x r,p.dict a x=some r->(p.dicts.map (·.1)).contains a=true∧∃ o,nsIn c.K a x=some o∧o.map globAV=r
 isd:∀ a,p.isDict a=(p.dicts.map (·.1)).contains a
 tup:∀ a xs,p.tup a=some xs->∃ vs,topTup c.K a=some vs∧vs.all isStrV=true∧∀ x,vs.any (strIs x)=xs.any (·==x)
 script:∀ h:Heap,c.K.In h->∃ vs:List Value,h.IsList p.script.1 vs.toArray∧IntsAre vs p.script.2
structure GeOk (c:Cx)(g:Ge):Prop where
 gl:∀ x v,g.gl.lookup x=some v->nsIn c.K mainGlobals x=some (some v)
 bl:∀ x v,g.bl.lookup x=some v->nsIn c.K mainGlobals x=some none∧bootBuiltins x=some v∧x ≠ "__name__"∧globAV v = .glob v
theorem sameK_ok {a:AV}{k:Const}(h:sameK a k=true):constAV k=some a:=by
 cases a<;>first|(cases bqM h;rfl)|exact nos h|exact nof h|cases h
theorem PN {a:AV}{v:Value}(h:sameG a v=true):globAV v=a:=by
 cases a with
 |int a=>cases v with|int b t=>rw[bqM h];rfl|_=>exact nof h
 |str a=>cases v with
  |str b t=>
   obtain rfl:a=b:=by
    have h:(a.cps.toList==b.cps.toList)=true:=h
    cases a;cases b
    congr
    exact Array.toList_inj.mp (bqM h)
   rfl
  |_=>exact nof h
 |glob w=>
  cases w with
  |ref a=>cases v with|ref b=>rw[bqM h];rfl|_=>exact nof h
  |type a=>cases v with|type b=>rw[bqM h];rfl|_=>exact nof h
  |builtin a=>cases v with|builtin b=>rw[bqM h];rfl|_=>exact nof h
  |_=>exact nof h
 |_=>exact nof h
section
variable {c:Cx}{p:Pk}
theorem qU (P:PkOk c p){d:Nat}:GetOK c d (getP p):=getF_ok P.meth
theorem dictsAre_of (P:PkOk c p):DictsAre c (dictD p):=λa x v q=>om1 q λr e q=>by
 obtain⟨h1,o,h2,h3⟩:=P.dict a x r e
 obtain⟨_,es,n,g1,g2⟩:=P.gds a (ciM h1)
 cases o with
 |none=>rw[← h3] at q;exact nos q
 |some w=>exact⟨w,es,n,soI (h3.trans q),h2,g1,g2⟩
theorem in_are (P:PkOk c p):InAre c (inD p):=λa x r q=>oif q
 (λh q=>om1 q λo e q=>by
  obtain⟨h1,o',h2,h3⟩:=P.dict a x o e;obtain⟨g0,es,n,g1,g2⟩:=P.gds a (ciM h1)
  exact .inl ⟨es,n,o',g0,g1,g2,h2,(by rw[← h3,Option.isSome_map]:o'.isSome=o.isSome).trans (soI q)⟩)
 λq=>om1 q λxs e q=>by
  refine xe13 (P.tup a xs e) λvs h1 h2 h3=>?_
  exact .inr ⟨vs,h1,h2,(h3 x).trans (soI q)⟩
theorem cmpP_ok (P:PkOk c p){d:Nat}(op:CmpOp):O2 c d (compareOp op) (cmpP p op):=by
 cases op with
 |Eq=>exact eq_ok
 |NotEq=>exact ne_ok
 |In=>exact in_yes (in_are P)
 |NotIn=>exact in_no (in_are P)
 |_=>exact cmp_ok _
end
end
section
open PySem.SeqAt
theorem V6 {a:Bool}(h:(!a)=true):a=false:=by cases a<;>first|rfl|exact nof h
section
variable {c:Cx}{d:Nat}{f:Fm}{p:Pk}
def LamIs (c:Cx)(E:Ce)(o:LamOb):Prop := ∃ cn fa cd P r,E.top=some (cn,fa,cd)∧c.lam o.id=some r∧r=⟨cn ++ ".<locals>." ++ "<lambda>",o.ps,o.body,o.scope,freeNames o.scope⟩∧(cd,P,o.id,o.pos)∈c.tabs ∧
 (∀ q'∈c.tabs,q'.2.1=P->q'=(cd,P,o.id,o.pos))∧o.ps.kw_defaults=[]∧o.ps.defaults=[]
theorem not_test {T:MdB}(en:En)(σ:Store):tested (λen σ=>on2 (T en σ) λb σ₁=>some (AV.bool (!b),σ₁)) truthF2 en σ=on2 (T en σ) λb σ₁=>some (!b,σ₁):=by
 show on2 (on2 (T en σ) _) _=_
 cases T en σ<;>rfl
theorem and_test {M M' : Md}(en:En)(σ:Store):tested (boolM false M M' truthF2) truthF2 en σ=andB (tested M truthF2) (tested M' truthF2) en σ:=by
 show on2 (on2 (M en σ) λa σ₁=>on1 (truthF2 a σ₁) λb=>if b=false then some (a,σ₁) else M' en σ₁) (λa σ₁=>on1 (truthF2 a σ₁) λb=>some (b,σ₁))=on2 (on2 (M en σ) λa σ₁=>on1 (truthF2 a σ₁) λb=>some (b,σ₁)) λb σ₁=>if b then tested M' truthF2 en σ₁ else some (false,σ₁)
 cases M en σ with
 |none=>rfl
 |some r=>
  show on2 (on1 (truthF2 r.1 r.2) λb=>if b=false then some (r.1,r.2) else M' en r.2) _=on2 (on1 (truthF2 r.1 r.2) _) _
  cases t:truthF2 r.1 r.2 with
  |none=>rfl
  |some b=>
   cases b with
   |true=>rfl
   |false=>show on1 (truthF2 r.1 r.2) _=_;rw[t];rfl
theorem or_test {M M' : Md}(en:En)(σ:Store):tested (boolM true M M' truthF2) truthF2 en σ=orB (tested M truthF2) (tested M' truthF2) en σ:=by
 show on2 (on2 (M en σ) λa σ₁=>on1 (truthF2 a σ₁) λb=>if b=true then some (a,σ₁) else M' en σ₁) (λa σ₁=>on1 (truthF2 a σ₁) λb=>some (b,σ₁))=on2 (on2 (M en σ) λa σ₁=>on1 (truthF2 a σ₁) λb=>some (b,σ₁)) λb σ₁=>if b then some (true,σ₁) else tested M' truthF2 en σ₁
 cases M en σ with
 |none=>rfl
 |some r=>
  show on2 (on1 (truthF2 r.1 r.2) λb=>if b=true then some (r.1,r.2) else M' en r.2) _=on2 (on1 (truthF2 r.1 r.2) _) _
  cases t:truthF2 r.1 r.2 with
  |none=>rfl
  |some b=>
   cases b with
   |false=>rfl
   |true=>show on1 (truthF2 r.1 r.2) _=_;rw[t];rfl
theorem and_one {T:MdB}(en:En)(σ:Store):T en σ=andB T (λZ σ=>some (true,σ)) en σ:=by
 show _=on2 (T en σ) _
 cases T en σ with
 |none=>rfl
 |some r=>obtain⟨b,σ'⟩:=r;cases b<;>rfl
theorem or_one {T:MdB}(en:En)(σ:Store):T en σ=orB T (λZ σ=>some (false,σ)) en σ:=by
 show _=on2 (T en σ) _
 cases T en σ with
 |none=>rfl
 |some r=>obtain⟨b,σ'⟩:=r;cases b<;>rfl
theorem andB_congr {T T' U:MdB}(h:∀ en σ,T' en σ=T en σ):(λen σ=>andB U T' en σ)=andB U T:=by
 rw[show T'=T from funext λen=>funext (h en)]
theorem orB_congr {T T' U:MdB}(h:∀ en σ,T' en σ=T en σ):(λen σ=>orB U T' en σ)=orB U T:=by
 rw[show T'=T from funext λen=>funext (h en)]
theorem W7 {g:Ge}(Go:GeOk c g){E:Ce}(hf:E.fits f){a:AV}{x:Str}{pos:Pos}(h1:isGl E x=true)(h2:nameG g a x=true):SE c d f (.Name x pos) (λZ σ=>some (a,σ)):=by
 obtain⟨k1,k2⟩:=and2 h1
 have k1:f.cs.names.lookup x=some .globalImplicit:=by rw[hf.1];exact bqM k1
 have k2:(x==("__debug__" : Str))=false:=V6 k2
 unfold nameG at h2
 cases e1:g.gl.lookup x with
 |some v=>
  rw[e1] at h2;have:=PN h2
  subst this;exact se_global (Go.gl x v e1) k1 k2
 |none=>
  rw[e1] at h2
  cases e2:g.bl.lookup x with
  |none=>rw[e2] at h2;exact nof h2
  |some v=>
   rw[e2] at h2;refine xe04 (Go.bl x v e2) λb1 b2 b3 b4=>?_
   have:=PN h2;rw[b4] at this
   subst this;exact se_builtin b1 b2 b3 k1 k2
end
end
section
open PySem.SeqAt PySem.Builtin PySem.Builtin.Str
theorem lri_nolen:typeLookup (.type "list_reverseiterator") "__len__"=pure none:=by rw[typeLookup_type,builtinLookup_eq_fast];kernel_rfl
theorem lri_hint:typeLookup (.type "list_reverseiterator") "__length_hint__"=pure (some (.builtin "list_reverseiterator.__length_hint__")):=by rw[typeLookup_type,builtinLookup_eq_fast];kernel_rfl
section
variable {prog:Program}{w:World}{A:Around}{E:Value->Shared->Prop}{s:Shared}
theorem collect_rev {I l:Addr}{items:Array Value}{Q:List Value->Shared->Prop}(hh:A.handled=none)(hit:s.heap.IsRevIter I l ((items.size:Int) - 1))(hl:s.heap.IsList l items)(hne:l≠I)(hn:items.size≤sizeLine)
  (hQ:∀ h' tk,(∀ b o,b≠I->s.heap.get? b=some o->h'.get? b=some o)->s.toks≤tk->Q items.toList.reverse { s with heap:=h',toks:=tk }):wpAny (model prog w) A (collect (.ref I)) Q E s:=by
 have W:=(Walks.listRev (prog:=prog) (w:=w) (A:=A.in1) hh I l hne items).toS
 have hst:(λi (u:Shared)=>i≤items.size∧u.heap.IsRevIter I l ((items.size:Int) - 1 - (i:Int))∧u.heap.IsList l items) 0 s:=⟨Q4 _,by
  have e:(items.size:Int) - 1 - ((0:Nat):Int)=(items.size:Int) - 1:=by omega
  rw[e];exact hit,hl⟩
 have hT:∀ i (u:Shared),(i≤items.size∧u.heap.IsRevIter I l ((items.size:Int) - 1 - (i:Int))∧u.heap.IsList l items)->u.TypeIs (.ref I) "list_reverseiterator" := λi u h=>h.2.1.typeIs
 have hI:I<s.heap.objs.size:=by obtain⟨o,ho,_⟩:=hit;exact V0 ho
 have hll:l<s.heap.objs.size:=by obtain⟨o,ho,_⟩:=hl;exact V0 ho
 have hSf:s.heap.objs.size∉[I,l]:=λhm=>by
  rcases mcM hm with e|hm
  · rw[e] at hI;exact J4 _ hI
  · rw[Hk.mp hm] at hll;exact J4 _ hll
 have hSI:s.heap.objs.size≠I:=λe=>hSf (e▸List.mem_cons_self ..)
 refine QZ (wpAny_runValue (codeAny_builtin F.entry_proto_collect ?_))
 rw[Around.under_plainId F.plain_proto_collect _]
 show wpAny _ A.in1 (newList [] >>= λl=>again (.builtin "list.__iadd__" ⟨[l,.ref I],[]⟩)) _ _ s
 refine QZ (wpAny_newObj_type ?_)
 refine Qk ⟨plainId_quiet F.plain_list_iadd _,codeAny_builtin F.entry_list_iadd ?_⟩
 rw[Around.under_plainId F.plain_list_iadd _]
 have hstA:=W.frame 0 s (s.heap.push { cls:=.type "list",data:=.seq ([]:List Value).toArray }) s.toks hst (QN _) λb Z o e=>Jx _ e
 have hSA:(s.heap.push { cls:=.type "list",data:=.seq ([]:List Value).toArray }).get? s.heap.objs.size=some { cls:=.type "list",data:=.seq ([]:List Value).toArray }:=KK _ rfl
 have h1:Builtin.List.listSameRef (.ref s.heap.objs.size) (.ref I)=false:=by simp[Builtin.List.listSameRef,hSI]
 show wpAny _ A.in1 (Builtin.List.listExtendWith (.ref s.heap.objs.size) (.ref I) (.ref s.heap.objs.size)) _ _ _
 refine QZ (wpAny_typeOf (hT 0 _ hstA) ?_)
 rw[if_neg (by rw[h1];decide)]
 refine QZ (W.self 0 _ _ _ hstA ?_)
 refine QZ (J8 ?_)
 refine QZ (wpAny_specialOf (hT 0 _ hstA) lri_nolen ?_)
 show wpAny _ A.in1 (specialOf (Value.ref I) (Str.ofString "__length_hint__") >>= _) _ _ _
 refine QZ (wpAny_specialOf (hT 0 _ hstA) lri_hint ?_)
 generalize hid:("list_reverseiterator.__length_hint__" : String)=id0
 wp_delta
 rw[show splitId id0=some ("list_reverseiterator","__length_hint__") from by subst hid;decide +kernel]
 subst hid
 refine QZ (wpAny_isInstance (b:=true) (hT 0 _ hstA) (by rw[isSubtype_type];kernel_rfl) ?_)
 refine Qk ?_
 rw[if_neg (by decide)]
 refine Qk ⟨plainId_quiet F.plain_extend_loop _,codeAny_extend_loopS W hn _ hSf _ items.size 0 _ _ _ rfl (Q4 _) hstA hSA (ItemsOf.nil _) λs' acc' c' hm hS' hacc=>?_⟩
 show wpAny _ A (load s.heap.objs.size >>= _) _ _ s'
 refine QZ (wpAny_load hS' ?_)
 refine Qk ?_
 obtain⟨h',g',d',t',o'⟩:=s'
 obtain⟨m1,m2,m3,m4,m5⟩:=Moved.drop_new (o:={ cls:=.type "list",data:=.seq ([]:List Value).toArray }) (tk:=s.toks) hm (QN _)
 have m2:g'=s.gens:=m2
 have m3:d'=s.drawn:=m3
 have m4:o'=s.os:=m4
 subst m2 m3 m4
 have ea:acc'.toList=items.toList.reverse:=by
  apply List.ext_getElem?;intro j
  rw[WK];rcases Nat.lt_or_ge j acc'.size with hj|hj
  · have e1:acc'[j]? = some acc'[j]:=Array.getElem?_eq_getElem hj
    rw[e1];have:=hacc.2 j _ e1
    have hj' : j<items.toList.length:=by rw[Rj];have:=hacc.1;exact ar17 hj this
    rw[List.getElem?_reverse hj',WK,Rj];exact this.symm
  · rw[Array.getElem?_eq_none hj,List.getElem?_eq_none (by rw[List.length_reverse,Rj];have:=hacc.1;exact this▸hj)]
 show Q acc'.toList _
 rw[ea]
 exact hQ h' t' (λb o hb e=>m1 b o (by simpa using hb) e) m5
theorem join_rev {I l:Addr}{items:Array Value}{x:Str}{t:Tok}{ys:List Str}{Q:Value->Shared->Prop}(hh:A.handled=none)(hit:s.heap.IsRevIter I l ((items.size:Int) - 1))(hl:s.heap.IsList l items)(hne:l≠I)(hn:items.size≤sizeLine)
  (hs:StrsAre items.toList.reverse ys) (hok:(ys.map (·.length)).sum+ys.length * x.length≤16777216)
  (hQ:∀ h' tk t',(∀ b o,b≠I->s.heap.get? b=some o->h'.get? b=some o)->Q (.str (Txt.join x ys) t') { s with heap:=h',toks:=tk }):wpAny (model prog w) A (call (.builtin "str.join") [.str x t,.ref I]) Q E s:=by
 refine Uq (codeAny_call_builtin F.slot_str_join.plain F.entry_str_join (F.slot_str_join.check _ _ _ _ _ _ _ _ (typeIs_str _ _ _) (F.args_str_join_2 _ _) ?_))
 rw[join_tree_other]
 refine QZ (wpAny_typeOf hit.typeIs ?_)
 show wpAny _ A.in1 ((pyIter (.ref I)).tryCatch _ >>= λit=>collect it >>= λitems=>joinTail x items) _ _ s
 refine QZ (wpAny_tryCatch (wpAny_pyIter_revIter hit ?_))
 refine QZ (collect_rev hh hit hl hne hn λh' tk hk Z=>?_)
 refine xe12 (strsAre_values hs) λl' hv ht=>?_
 rw[hv]
 have hok' := joinOk_of (sep:=x) hok
 subst ht
 unfold JoinOk at hok'
 rw[Bool.not_eq_true'] at hok'
 have g:Gives (joinTail x (strValues l')) (joinMade x l'):=by
  have g0:=gives_joinTail x l' hok'
  cases l' with
  |nil=>exact g0
  |cons p r=>cases r with
   |nil=>exact g0
   |cons q r'=>exact g0
 exact g prog w A (wants Q E) _ (post_join l' ⟨joinFit_length hok',λt' k=>hQ h' k t' hk⟩)
end
section
variable {c:Cx}{d:Nat}{f:Fm}{p:Pk}
theorem RelL.rev {lam:Nat->Option LamRec}{W:Wd}:∀ {l:List AV} {vs:List Value},RelL lam W l vs->RelL lam W l.reverse vs.reverse
 | [],_,h=>rNil h .nil
 |_::_,_,h=>NK h λZ Z r q=>by rw[q8,q8];exact q.rev.append (.cons r .nil)
theorem se_joinRev {r x:PE}{y:Str}{n:Nat}{p0 p1 ap pos:Pos}{M:Md}(hr:SE c d f r (λZ σ=>some (.glob (.type "reversed"),σ)))(hn:notAttr r=true)(hx:SE c d f x M)(hs:notStar x=true)
  {nm:Str} (hnm:strMeth nm=some "str.join") (hm:methForm (.Constant (.str y) n p0) 1 ap pos=true) :
  SE c d f (.Call (.Attribute (.Constant (.str y) n p0) nm ap) [.Call r [x] [] p1] [] pos) (λen σ=>on2 (M en σ) λa σ₁=>joinR y a σ₁):=by
 intro A W s σ en a σ' m N E ok S q
 refine om q λb σ₁ q1 q=>MethodCall_ (post (se_const (c:=c) (d:=d) (f:=f) (k:=.str y) (n:=n) (pos:=p0) rfl A W s σ en (.str y) σ m N E ok S rfl) λov s₁ WA m₁ NA w₁ S₁ rA=>rStr rA λt=>?_) (M5 hm (es:=[.Call r [x] [] p1]) rfl)
 refine Mv (PJ hnm) ?_
 refine callWith_of (P:=λh=>KeepOk (model c.prog c.w) h (.builtin "str.join")) (by rw[UW pos [.Call r [x] [] p1] f.env rfl];rfl) (λh k=>k) (VX (es:=[.Call r [x] [] p1]) rfl ?_)
 refine UJ ?_ (UV rfl)
 refine Call_ (post (hr A WA s₁ σ en _ σ m₁ NA _ ok S₁ rfl) λgv sB WB mB NB wB S₂ rB=>Gw rB ?_) (N8 hn)
 refine callWith_of (P:=λh=>KeepOk (model c.prog c.w) h (.type "reversed")) (by rw[UW p1 [x] f.env (by rw[JX,hs];rfl)];rfl) (λh k=>k) (VX (es:=[x]) (by rw[JX,hs];rfl) ?_)
 refine UJ (post (hx A WB sB σ en _ σ₁ mB NB _ ok S₂ q1) λv sC WC m₃ N₃ wC S₃ rC=>?_) (UV hs)
 refine H4 ⟨⟨.machine,.inr (.inl rfl),Looks.of_pure rfl⟩,?_⟩
 refine GV q rC λi ax Z hx' q=>U1 q λl h1 q=>om1 q λys h2 q=>oi q λhz q=>oe2 q (S₃.fa.atList hx' h1 λvs k rl h3=>?_)
 refine krv_reversed S₃.F S₃.nw (J9 S₃ h3) λD h' F' X' lt=>?_
 have P:=S₃.pinNew (t:=sC.toks) F' X' lt S₃.pos
 refine H4 ⟨⟨.machine,.inr (.inl rfl),Looks.of_pure rfl⟩,?_⟩
 have hlen:vs.toArray.size≤sizeLine:=by
  rw[Q0,← rl.length];exact adL 0 hz.2 rfl
 have hit:Heap.IsRevIter h' D ax ((vs.toArray.size:Int) - 1):=⟨_,(X' _ (.head _)).1,rfl,by rw[Q0];rfl⟩
 refine J5 S₃.pos (join_rev ok.handled hit ⟨_,(X' _ (.tail _ h3)).1,rfl,_,rfl⟩ (VV (lt _ h3)) hlen (WM (vs:=vs.toArray.toList.reverse) rl.rev h2) hz.1 λh'' tk t' hk=>?_)
 exact λht=>⟨_,_,_,(w₁.trans wB).trans wC,P.pinDrop (t:=tk) (λb o hb e=>hk b o hb e) ht,.str _ _⟩
end
end
section
open PySem.SeqAt
section
variable {c:Cx}{d:Nat}{f:Fm}{W:Wd}{σ:Store}{en:En}{s:Shared}{m:Str->Option Value}{N:NwT}
theorem Facts.perm {pin pin' : NwT}(h:pin.Perm pin')(F:Facts c pin W σ N):Facts c pin' W σ N:=
 { F with
   pn:=λx m=>F.pn x (h.mem_iff.mpr m)
   disp:=λx m=>F.disp x (h.mem_iff.mpr m)
   tabp:=λy m x mp=>F.tabp y m x (h.mem_iff.mpr mp)
   tlp:=λx m=>F.tlp x (h.mem_iff.mpr m)
   pnd:=(h.map (·.1)).nodup_iff.mp F.pnd }
noncomputable abbrev Fm.pins (f:Fm) (P:NwT):Fm:={ f with pin:=P }
theorem St.pins {P P' : NwT}(h:P.Perm P')(S:St c (f.pins P) W σ en s m N):St c (f.pins P') W σ en s m N:=⟨S.F,S.nw,S.fa.perm h,S.env,S.cel,S.gens,S.drawn,S.os,S.pos,S.oenv⟩
noncomputable abbrev Fm.inC (f:Fm) (P:NwT) (en:En) (cs:Scope) (cl:List (Str×Addr)) (xs ys:List Str) (env:Env) (C:Addr) (lobj:Obj) (mC:Str->Option Value):Fm:=
 (f.inComp en cs cl xs ys env C lobj mC).pins (P++(C,lobj)::f.pin)
structure CB where
 f:Fm
 e:En
 cs:Scope
 cl:List (Str×Addr)
 xs:List Str
 ys:List Str
 env:Env
 C:Addr
noncomputable abbrev CB.at (B:CB) (P:NwT) (lobj:Obj) (mC:Str->Option Value):Fm:=B.f.inC P B.e B.cs B.cl B.xs B.ys B.env B.C lobj mC
structure CS (c:Cx)(B:CB)(P:NwT)(W:Wd)(σ:Store)(e:En)(s:Shared)(m:Str->Option Value)(N:NwT)(lobj:Obj)(mC:Str->Option Value):Prop where
 S:St c (B.at P lobj mC) W σ e s m N
 C:∀ h:Heap,h.get? B.C=some lobj->h.Ns B.C mC
theorem CS.store {B:CB}{np:Pos}{A:Around}{E:Value->Shared->Prop}{P:NwT}{eA:En}{x:Str}{lobj:Obj}{mC:Str->Option Value}{a:AV}{v:Value}{i:Nat}(H:CS c B P W σ eA s m N lobj mC)
  (hl:B.env.locals=B.C) (hk:B.env.kindOf x=some .local) (hf:B.env.scope.kind = .function) (nd:B.xs.Nodup) (hx:B.xs[i]? = some x) (r:Rel c.lam W a v)
  {Q:Unit->Shared->Prop} (hQ:∀ s' lobj' mC' N',CS c B P W σ (eA.put i a) s' m N' lobj' mC'->Q () s'):wpAny (model c.prog c.w) A (assign (.Name x np) B.env v) Q E s:=by
 obtain⟨S,hC⟩:=H
 have hm:=S.fa.pn (B.C,lobj) (JH _ (.head _))
 have g:=S.nw _ hm
 refine assign_Name (Gz hk (by rw[hl];exact hC _ g.1) (λh' hns hs=>?_) (by rw[hf];rfl))
 rw[hl] at hns hs
 refine xe32 hns λo' es ep ho' hr=>?_
 have p1:∀ o,(P++(B.C,o)::B.f.pin).Perm ((B.C,o)::(P++B.f.pin)):=λo=>List.perm_middle
 have F:Facts c (P++(B.C,o')::B.f.pin) W σ (turnN N B.C o'):=(((S.fa:Facts c (P++(B.C,lobj)::B.f.pin) W σ N).perm (p1 _)).pinTurn (o' := o')).perm (p1 _).symm
 refine hQ _ o' _ _ ⟨⟨S.F.change hs g.2.1 g.2.2,M3 S.nw hm ho' hs,F,?_,S.cel,S.gens,S.drawn,S.os,Qq _,S.oenv⟩,λh e=>⟨o',es,ep,e,hr⟩⟩
 exact EnvR.put (S.env:EnvR c.lam W B.xs eA.loc mC) nd hx r
noncomputable abbrev enumObj (it:Addr) (i:Int) (old:Value):Obj:={ cls:=.type "enumerate",dict:=none,data:=.fields #[.none,.bool false,.ref it,rawInt i,.none,old],slots := #[] }
theorem St.pin2 {P:NwT}{e it:Addr}{oe oi oe' oi' : Obj}(S:St c (f.pins ((e,oe)::(it,oi)::P)) W σ en s m N){h' : Heap}{t:Nat}(he:h'.get? e=some oe')(hi:h'.get? it=some oi')
  (hk:∀ b o,b≠e->b≠it->s.heap.get? b=some o->h'.get? b=some o) (ht:0<t):St c (f.pins ((e,oe')::(it,oi')::P)) W σ en { s with heap:=h',toks:=t } m (turnN (turnN N it oi') e oe'):=by
 have ze:=S.nw _ (S.fa.pn (e,oe) (.head _))
 have zi:=S.nw _ (S.fa.pn (it,oi) (.tail _ (.head _)))
 have k0:∀ b o,f.h₀.get? b=some o->h'.get? b=some o:=λb o q=>hk b o (λh=>by subst h;have z:f.h₀.get? b=none:=ze.2.2;rw[q] at z;first|exact nos z|exact nof z|cases z) (λh=>by subst h;have z:f.h₀.get? b=none:=zi.2.2;rw[q] at z;first|exact nos z|exact nof z|cases z) (S.F.keep b o q)
 refine⟨⟨Heap.Ns.at' S.F.ns λo q=>hk _ o (λh=>ze.2.1 h.symm) (λh=>zi.2.1 h.symm) q,k0,S.F.above⟩,λp hp=>?_,(((S.fa.swap).pinTurn).swap).pinTurn,S.env,S.cel,S.gens,S.drawn,S.os,ht,S.oenv⟩
 rcases mcM hp with rfl|hp
 · exact⟨he,ze.2⟩
 · obtain⟨h1,h2⟩:=JZ.mp hp
   rcases mcM h1 with rfl|h1
   · exact⟨hi,zi.2⟩
   · obtain⟨h3,h4⟩:=JZ.mp h1
     exact⟨hk _ _ (of_decide_eq_true h2) (of_decide_eq_true h4) (S.nw p h3).1,(S.nw p h3).2⟩
theorem put3 {e:En}(h:e.loc.length=3)(a b c:AV):((e.put 0 a).put 1 b).put 2 c=⟨[some a,some b,some c],e.cel⟩:=by
 obtain⟨l,cel⟩:=e
 cases l with
 |nil=>cases h
 |cons x l=>cases l with
  |nil=>cases h
  |cons y l=>cases l with
   |nil=>cases h
   |cons z l=>cases l with
    |nil=>rfl
    |cons=>cases h
theorem toks_names {B:CB}{x0 x1 x2:Str}{p0 p1 p2 tp1:Pos}{k1:Nat}{A:Around}{E:Value->Shared->Prop}{eA:En}{lobj:Obj}{mC:Str->Option Value}{e it:Addr}{o oi:Obj}{k:Nat}{tk:Tok}{v:Value}{ax ay:AV}
  (hl:B.env.locals=B.C) (hk:∀ x∈[x0,x1,x2],B.env.kindOf x=some .local) (hf:B.env.scope.kind = .function) (nd:[x0,x1,x2].Nodup) (hx:B.xs=[x0,x1,x2]) (hh:A.handled=none)
  (H:CS c B [(e,o),(it,oi)] W σ eA s m N lobj mC) (r:Rel c.lam W (.tup [ax,ay]) v) {Q:Unit->Shared->Prop} (hQ:∀ s' lobj' mC' N',CS c B [(e,o),(it,oi)] W σ ⟨[some (.int k),some ax,some ay],eA.cel⟩ s' m N' lobj' mC'->Q () s') :
  wpAny (model c.prog c.w) A (assignInOrder ((assignEach [.Name x0 p0,.Tuple [.Name x1 p1,.Name x2 p2] k1 tp1] B.env).map (·.2)) [.int k tk,v]) Q E s:=by
 have nd' : B.xs.Nodup:=hx▸nd
 refine assignInOrder_cons (H.store (i:=0) (a:=.int k) hl (hk x0 (.head _)) hf nd' (by rw[hx];rfl) (.int _ _) λsD loD mCD ND HD=>?_)
 refine rTup r λws t nt hm rl=>?_
 refine assignInOrder_cons (unpackN_ (k:=k1) HD.S.F HD.S.nw (Vq HD.S.nw (HD.S.fa.tl _ hm)) hh (by rw[Q0,← rl.length];rfl) rfl λh₅ FE XE=>?_)
 have HE:CS c B [(e,o),(it,oi)] W σ _ { sD with heap:=h₅,toks:=sD.toks } m _ loD mCD:=⟨HD.S.same (t:=sD.toks) FE XE HD.S.pos,HD.C⟩
 refine rTwo rl λu w ra rb=>?_
 refine assignInOrder_cons (HE.store (i:=1) hl (hk x1 (.tail _ (.head _))) hf nd' (by rw[hx];rfl) ra λsF loF mCF NF H₆=>?_)
 refine assignInOrder_cons (H₆.store (i:=2) hl (hk x2 (.tail _ (.tail _ (.head _)))) hf nd' (by rw[hx];rfl) rb λsG loG mCG NG HG=>?_)
 refine assignInOrder_nil (assignInOrder_nil (hQ _ loG mCG NG ?_))
 rw[put3 ((show eA.loc.length=B.xs.length from H.S.env.1).trans (by rw[hx];rfl))] at HG
 exact HG
inductive TS (c:Cx)(B:CB)(Cf:CallF)(cls:Addr)(kk:Int)(e it:Addr)(i D:Nat)(WZ:Wd)(cel:List AV)(σ' : Store)(n:Nat)(s:Shared):Prop
 |mk (k:Nat) (W:Wd) (m:Str->Option Value) (N:NwT) (oi:Obj) (old:Value) (lobj:Obj) (mC:Str->Option Value) (en:En) (σ:Store) (le:WZ.le W)
  (H:CS c B [(e,enumObj it k old),(it,oi)] W σ en s m N lobj mC) (cel:en.cel=cel) (hit:ItAt c W (.list i) k oi) (q:toksM Cf cls kk i D n k σ=some σ')
theorem toks_loop {B:CB}{elt iter:PySem.Expr}{x0 x1 x2:Str}{p0 p1 p2 tp0 tp1:Pos}{k0 k1:Nat}{scope:Scope}{pos:Pos}{M:Md}{Cf:CallF}{cls:Addr}{kk:Int}{A:Around}{R:Result->Shared->Prop}{eA:En}{lobj:Obj}{mC:Str->Option Value}
  {e it Da:Addr} {oi:Obj} {old:Value} {i D:Nat} {cel:List AV} {σ' : Store} (n:Nat)
  (hl:B.env.locals=B.C) (hk:∀ x∈[x0,x1,x2],B.env.kindOf x=some .local) (hf:B.env.scope.kind = .function) (nd:[x0,x1,x2].Nodup) (hx:B.xs=[x0,x1,x2]) (hh:A.handled=none)
  (hok:∀ P lobj mC,(∀ h:Heap,h.get? B.C=some lobj->h.Ns B.C mC)->(B.at P lobj mC).Ok c A d)
  (hM:∀ P lobj mC,SE c d (B.at P lobj mC) elt M) (hMC:∀ (j:Int) x y σ,M ⟨[some (.int j),some x,some y],cel⟩ σ=Cf (.glob (.ref cls)) [x,y,.tup [.int (j+1),.int kk]] σ)
  (H:CS c B [(e,enumObj it 0 old),(it,oi)] W σ eA s m N lobj mC) (hcel:eA.cel=cel) (hit:ItAt c W (.list i) 0 oi) (hD:W.ρ[D]? = some Da)
  (q:toksM Cf cls kk i D n 0 σ=some σ')
  (hR:∀ s' W' m' N' lobj' mC' e',W.le W'->CS c B [] W' σ' e' s' m' N' lobj' mC'->R (.ok .next) s') :
  codeAny (model c.prog c.w) A (.compLoop (.ListComp elt [⟨.Tuple [.Name x0 p0,.Tuple [.Name x1 p1,.Name x2 p2] k1 tp1] k0 tp0,iter,[],0⟩] scope pos) 0 (.ref e) (.ref Da) B.env) R s:=by
 refine LCp.codeAny_compLoop_pair (TS c B Cf cls kk e it i D W cel σ') (λn' s₁ h=>?_) n ⟨0,W,m,N,oi,old,lobj,mC,eA,σ,.refl W,H,hcel,hit,q⟩
 obtain⟨k,WA,m₁,NA,oA,oldA,loA,mCA,en₁,σ₁,Tle,TH,Tcel,Thit,tq⟩:=h
 have S₁:=TH.S
 have he:IsEnum s₁.heap e it k oldA:=(S₁.nw _ (S₁.fa.pn (e,enumObj it k oldA) (.head _))).1
 have hne:e≠it:=λh=>by
  have z:(((e,enumObj it k oldA)::(it,oA)::((B.C,loA)::B.f.pin)).map λx=>x.1).Nodup:=S₁.fa.pnd;rw[QM,J6] at z
  exact z.1 (by rw[h];exact .head _)
 obtain⟨x,ex,hc,hd⟩:∃ x,WA.ρ[i]? = some x∧oA.cls = .type "list_iterator"∧oA.data = .fields #[.ref x,.int k 0]:=by cases Thit with|list ex hc hd=>exact⟨_,ex,hc,hd⟩
 have hli:s₁.heap.IsListIter it x k:=⟨oA,(S₁.nw _ (S₁.fa.pn (it,oA) (.tail _ (.head _)))).1,hc,hd⟩
 cases n' with
 |zero=>exact nos tq
 |succ n' =>
  refine oN tq (λqn q=>?_) λa qn q=>?_
  · refine U1 qn λl h1 h3=>S₁.fa.atList ex h1 λvs n rl h2=>wpAny_pyNext_enum_end hh he hli (J9 S₁ h2) ?_ λh' hs=>?_
    · rw[NJ,Q0,← rl.length]
      exact UX.mp (soI h3)
    · have S₂:St c ((B.at [(e,enumObj it k oldA)] loA mCA).pinned (it,oA)) WA _ en₁ s₁ m₁ NA:=St.pins (.swap _ _ _) S₁
      exact hR _ WA m₁ _ loA mCA en₁ Tle ⟨soI q▸St.unpin (f:=B.at [] loA mCA) (p:=(e,enumObj it k oldA)) (S₂.pinDrop (t:=s₁.toks) hs S₁.pos),TH.C⟩
  · refine U1 qn λl h1 h3=>S₁.fa.atList ex h1 λvs n rl h2=>onPair q λax ay ea qp=>om qp λb σE qe qq=>om qq λz σF qa q9=>?_
    subst ea;refine xe12 (rl.get (soI h3)) λv g1 g2=>?_
    have helt:e<s₁.heap.objs.size:=V0 he;refine wpAny_pyNext_enum_item he hli (J9 S₁ h2) (by simpa using g1) hne λh' ho hit' hT hsz hk'=>?_
    refine wpAny_letOwnedTupleGo_enum ho λh₂ heB hsB=>?_
    have hsB:WJ e h' h₂:=hsB;refine xe13 hit' λoB hoB hc₂ hdB=>?_
    have S₂:St c (B.at [(e,enumObj it ((k+1:Nat):Int) v),(it,oB)] loA mCA) WA σ₁ en₁ { s₁ with heap:=h₂,toks:=s₁.toks+1 } m₁ _:=St.pin2 (t:=s₁.toks+1) S₁ (oe' := enumObj it ((k+1:Nat):Int) v) (oi' := oB) heB ((hsB.2 it hne.symm).trans hoB) (λb o hb hi hg=>(hsB.2 b hb).trans (hk' b o hb hi hg)) (Qq _);refine unpackN_ S₂.F S₂.nw ⟨_,(hsB.2 _ (Qj helt)).trans hT,rfl,_,rfl⟩ hh rfl rfl λh₃ FC XC=>?_
    refine toks_names hl hk hf nd hx hh (⟨S₂.same (t:=s₁.toks+1) FC XC (Qq _),TH.C⟩:CS c B [(e,enumObj it ((k+1:Nat):Int) v),(it,oB)] WA σ₁ en₁ { s₁ with heap:=h₃,toks:=s₁.toks+1 } m₁ _ loA mCA) g2 λsG loG mCG NG HG=>?_
    refine post (hM _ loG mCG A WA sG σ₁ _ b σE m₁ NG _ (hok _ _ _ HG.C) HG.S (by rw[Tcel,hMC];exact qe)) λy sH WH mH NH wH SH rH=>?_
    refine post (KU SH (.cons (.ref (wH.1 _ _ (Tle.1 _ _ hD))) (.cons rH .nil)) qa) λZ s₉ WI mI NI wI S₉ Z=>?_
    exact⟨n',J3 n',k+1,WI,mI,NI,oB,_,loG,mCG,_,σF,(Tle.trans wH).trans wI,⟨S₉,HG.C⟩,Tcel,.list ((wH.trans wI).1 _ _ ex) hc₂ hdB,q9⟩
def toksX (MI:Md)(Cf:CallF)(cls:Addr)(kk:Int):Md:=λen σ=>on2 (MI en σ) λa σ₁=>onRef a λi=>onList σ₁[i]? λl=>on1 (toksM Cf cls kk i σ₁.length (l.length+1) 0 (σ₁++[.list []])) λσ₂=>some (.ref σ₁.length,σ₂)
theorem se_toks (hcn:f.comp=none){fe rowE elt:PySem.Expr}{x0 x1 x2:Str}{p0 p1 p2 tp0 tp1 cp:Pos}{k0 k1:Nat}{scope:Scope}{pos:Pos}{MI M:Md}{Cf:CallF}{cls:Addr}{kk:Int}
  (hcell:∀ y∈scope.names,y.2≠.cell) (hkind:scope.kind = .function) (hnames:∀ y∈scope.names,y.2 = .local->scope.names.lookup y.1=some .local)
  (hx0:scope.names.lookup x0=some .local) (hx1:scope.names.lookup x1=some .local) (hx2:scope.names.lookup x2=some .local) (nd:[x0,x1,x2].Nodup) (hc:capOk f.ys [] (freeNames scope)=true)
  (hfe:SE c d f fe (λZ σ=>some (.glob (.type "enumerate"),σ))) (hn:notAttr fe=true) (hrow:SE c d f rowE MI) (hs:notStar rowE=true)
  (hM:∀ f' : Fm,f'.cs=relabel scope f.env->f'.xs=[x0,x1,x2]->f'.ys=freeNames scope->f'.env.scope=relabel scope f.env->SE c d f' elt M)
  (hMC:∀ caps (j:Int) x y σ,M ⟨[some (.int j),some x,some y],caps⟩ σ=Cf (.glob (.ref cls)) [x,y,.tup [.int (j+1),.int kk]] σ) :
  SE c d f (.ListComp elt [⟨.Tuple [.Name x0 p0,.Tuple [.Name x1 p1,.Name x2 p2] k1 tp1] k0 tp0,.Call fe [rowE] [] cp,[],0⟩] scope pos) (toksX MI Cf cls kk):=by
 intro A W s σ en a σ' m N E ok S q
 obtain⟨hclos,hrel⟩:=HH ok S hc (caps:=[]) rfl
 rw[eval_ListComp]
 refine om q λb σ₁ q1 q=>wpAny_comprehension_free rfl (λZ=>M7 rfl) hclos hkind hnames ?_
 refine Call_ (post (hfe A W s σ en _ σ m N E ok S rfl) λgv s₁ WA m₁ NA w₁ S₁ rA=>Gw rA ?_) (N8 hn)
 refine callWith_of (P:=λh=>KeepOk (model c.prog c.w) h (.type "enumerate")) (by rw[UW cp [rowE] f.env (by rw[JX,hs];rfl)];rfl) (λh k=>k) (VX (es:=[rowE]) (by rw[JX,hs];rfl) ?_)
 refine UJ (post (hrow A WA s₁ σ en _ σ₁ m₁ NA _ ok S₁ q1) λv sB WB mB NB wB S₂ rB=>GV q rB λi xa Z hx q=>U1 q λl h1 q=>om1 q λσ₂ q3 q=>oe2 q ?_) (UV hs)
 refine H4 ⟨⟨.machine,.inr (.inl rfl),Looks.of_pure rfl⟩,?_⟩
 refine xe22 (list_at S₂ hx h1) λvs n h2 rl=>?_
 refine call_enumerate_list (J9 S₂ h2) λh' he hit hsz hk=>?_
 refine wpAny_pyIter_enum he ?_
 refine xe13 hit λoi ho hoc hod=>?_
 have hLs:f.L<sB.heap.objs.size:=S₂.F.ns.lt
 have hab:f.h₀.objs.size≤f.L:=S₂.F.above
 have F' : Fr f.h₀ f.L h' mB:=⟨Heap.Ns.at' S₂.F.ns λo q=>hk _ o q,λb o q=>hk b o (S₂.F.keep b o q),S₂.F.above⟩
 have X' : News f.h₀ f.L h' ((sB.heap.objs.size+1,enumObj sB.heap.objs.size 0 .none)::(sB.heap.objs.size,oi)::NB):=λp hp=>by
  rcases mcM hp with rfl|hp
  · exact⟨he,Qj (MZ hLs),Gx (QJ hab (NQ (MZ hLs)))⟩
  · rcases mcM hp with rfl|hp
    · exact⟨ho,Qj hLs,Gx (QJ hab (NQ hLs))⟩
    · exact⟨hk _ _ (S₂.nw p hp).1,(S₂.nw p hp).2⟩
 have S₃:St c (f.pins ((sB.heap.objs.size+1,enumObj sB.heap.objs.size 0 .none)::(sB.heap.objs.size,oi)::f.pin)) WB σ₁ en { sB with heap:=h' } mB ((sB.heap.objs.size+1,enumObj sB.heap.objs.size 0 .none)::(sB.heap.objs.size,oi)::NB):=
  ⟨F',X',(S₂.fa.pinNew S₂.lt).pinNew (λp hp=>by
   rcases mcM hp with rfl|hp
   · exact J3 _
   · exact MZ (S₂.lt p hp)),S₂.env,S₂.cel,S₂.gens,S₂.drawn,S₂.os,S₂.pos,S₂.oenv⟩
 generalize sB.heap.objs.size+1=e at *
 generalize sB.heap.objs.size=it at *
 generalize (e,enumObj it 0 .none)::(it,oi)::NB=N₃ at S₃
 refine post (S₃.list (E:=E) (A:=A) (M:=model c.prog c.w) (l:=[]) .nil (by simp)) λacc sC WC m₃ N₃ wC S₃ rC=>?_
 obtain⟨Da,hDe,hD⟩:∃ Da,acc = .ref Da∧WC.ρ[σ₁.length]? = some Da:=by cases rC with|ref h=>exact⟨_,rfl,h⟩
 subst hDe
 refine wpAny_newFunctionEnv hcell (λy hy=>by cases hy) (λh₁ hns hsb=>?_) hkind
 refine xe32 hns λlobj es ep ho hr=>?_
 have hNs:∀ h:Heap,h.get? sC.heap.objs.size=some lobj->h.Ns sC.heap.objs.size (λy=>([]:List (Str×Value)).reverse.lookup y):=λh e=>⟨lobj,es,ep,e,hr⟩
 have g:=(News.push S₃.F S₃.nw { cls:=.type "dict",data:=.dict #[] }) (sC.heap.objs.size,{ cls:=.type "dict",data:=.dict #[] }) (List.Mem.head _)
 have F' : Fr f.h₀ f.L h₁ m₃:=(S₃.F.push _).change hsb g.2.1 g.2.2
 have X' : News f.h₀ f.L h₁ ((sC.heap.objs.size,lobj)::N₃):=λp hp=>by
  rcases mcM hp with rfl|hp
  · exact⟨ho,g.2⟩
  · exact⟨(hsb.2 p.1 (VV (S₃.lt p hp))).trans (Jx _ (S₃.nw p hp).1),(S₃.nw p hp).2⟩
 have oenv:EnvR c.lam WC f.xs en.loc m₃:=by have z:=S₃.env;rw[show (f.pins ((e,enumObj it 0 .none)::(it,oi)::f.pin)).sel m₃=m₃ from Gq (f:=f.pins _) hcn m₃] at z;exact z
 have hrelC:RelC c.lam WC (freeNames scope) [] (capL f.cl scope.names []):=hrel.mono ((w₁.trans wB).trans wC)
 let B:CB:=⟨f,en,relabel scope f.env,capL f.cl scope.names [],[x0,x1,x2],freeNames scope,{ newEnv scope sC.heap.objs.size f.env.globals (capL f.cl scope.names []) f.env.qual none .none (some f.env) 0 with scope:=relabel scope f.env },sC.heap.objs.size⟩
 have HD:CS c B [(e,enumObj it 0 .none),(it,oi)] WC (σ₁++[.list []]) ⟨[none,none,none],[]⟩ { sC with heap:=h₁,toks:=sC.toks+([]:List (Str×Value)).length } m₃ ((sC.heap.objs.size,lobj)::N₃) lobj (λy=>([]:List (Str×Value)).reverse.lookup y):=
  ⟨⟨F',X',(S₃.fa.pinNew S₃.lt).perm (List.perm_middle (l₁:=[(e,enumObj it 0 .none),(it,oi)]) (l₂:=f.pin)).symm,⟨rfl,λi y b e1 e2=>by
    match i with
    |0=>cases e2
    |1=>cases e2
    |2=>cases e2
    |i+3=>exact nos e1⟩,hrelC,S₃.gens,S₃.drawn,S₃.os,S₃.pos,oenv⟩,hNs⟩
 have hok:∀ P lobj' mC',(∀ h:Heap,h.get? B.C=some lobj'->h.Ns B.C mC')->(B.at P lobj' mC').Ok c A d:=λP lobj' mC' h=>
  { B:=ok.B,X:=ok.X,T:=ok.T,codes:=ok.codes,frames:=ok.frames,frf:=ok.frf,frk:=ok.frk,sc:=rfl,cls:=rfl,glo:=ok.glo,blt:=ok.blt,loc:=rfl
    cmp:=λp e=>by cases e;exact⟨JH _ (.head _),h⟩
    handled:=ok.handled,depth:=ok.depth,units:=ok.units,kind:=hkind,nodup:=nd
    onil:=λe=>by cases e }
 have heD:IsEnum h₁ e it 0 .none:=(HD.S.nw _ (HD.S.fa.pn (e,enumObj it 0 .none) (.head _))).1
 have hk:∀ x∈[x0,x1,x2],B.env.kindOf x=some .local:=λx hx=>by
  rcases mcM hx with rfl|hx
  · exact lookup_relabel_local hx0
  · rcases mcM hx with rfl|hx
    · exact lookup_relabel_local hx1
    · rw[Hk.mp hx];exact lookup_relabel_local hx2
 have loop:=toks_loop (B:=B) (elt:=elt) (iter:=.Call fe [rowE] [] cp) (p0:=p0) (p1:=p1) (p2:=p2) (tp0:=tp0) (tp1:=tp1) (k0:=k0) (k1:=k1) (scope:=scope) (pos:=pos)
  (R:=compPost (model c.prog c.w) A E none (PostE c f W en (.ref σ₁.length) σ₂) (.ref Da) sC.heap.objs.size)
  (l.length+1) rfl hk hkind nd rfl ok.handled hok (λP lobj' mC'=>hM _ rfl rfl rfl rfl) (hMC _) HD rfl (.list (wC.1 _ _ hx) hoc hod) hD q3 λs' W' m' N' lobj' mC' e' w' H'=>?_
 · exact codeAny_compStart_list loop (wpAny_pyIter_enum heD loop)
 · have S' := H'.S
   have S'' : St c (f.pinned (sC.heap.objs.size,lobj')) W' σ₂ en s' m' N' :=
    ⟨S'.F,S'.nw,S'.fa,by rw[show (f.pinned (sC.heap.objs.size,lobj')).sel m'=m' from Gq (f:=f.pinned _) hcn m'];exact S'.oenv,S₃.cel.mono w',S'.gens,S'.drawn,S'.os,S'.pos,by
     rw[show (f.pinned (sC.heap.objs.size,lobj')).oxs=[] from(ok.onil hcn).1,show (f.pinned (sC.heap.objs.size,lobj')).oloc=[] from(ok.onil hcn).2];exact .empty⟩
   have z:=S''.nw _ (S''.fa.pn (sC.heap.objs.size,lobj') (.head _));exact⟨mC',H'.C _ z.1,λh' hs'=>⟨W',m',_,((w₁.trans wB).trans wC).trans w',S''.pinDrop (t:=s'.toks) hs'.extBut S''.pos,.ref (w'.1 _ _ hD)⟩⟩
end
end
section
open PySem.SeqAt
section
variable {c:Cx}{d:Nat}{pc:Pc}{g:Ge}
theorem Ce.fits.inner {E:Ce}{f f' : Fm}{scope:Scope}{x:Str}(hf:E.fits f)(h1:f'.cs=relabel scope f.env)(h2:f'.xs=[x])(h3:f'.ys=freeNames scope)(h4:f'.env.scope=relabel scope f.env):(E.inner scope x).fits f' := by
 have e:relabel scope f.env=relabelS scope E.cs:=by
  show relabelS scope f.env.scope=_;rw[hf.2.2.2.1]
 exact⟨h1.trans e,h2,h3,h4.trans e,λh=>(nomatch h),λZ h=>(nomatch h)⟩
theorem Ce.fits.pinned {E:Ce}{f:Fm}(hf:E.fits f)(q:Addr×Obj):E.fits (f.pinned q):=hf
theorem G1 {E:Ce}{f:Fm}{i:Nat}{x:Str}(hf:E.fits f)(h:isLc E i x=true):f.xs[i]? = some x∧f.cs.names.lookup x=some .local:=by
 obtain⟨h1,h2⟩:=and2 h
 rw[hf.1,hf.2.1]
 exact⟨bqM h1,bqM h2⟩
structure CompIs (f:Fm)(sc:Scope)(x:Str)(is:List Nat):Prop where
 hcn:f.comp=none
 hcell:∀ y∈sc.names,y.2≠.cell
 hkind:sc.kind = .function
 hnames:∀ y∈sc.names,y.2 = .local->sc.names.lookup y.1=some .local
 hx:sc.names.lookup x=some .local
 hc:capOk f.ys is (freeNames sc)=true
theorem R5 {E:Ce}{f:Fm}{sc:Scope}{x:Str}{is:List Nat}(hf:E.fits f)(h:compOk E sc x is=true):CompIs f sc x is:=by
 obtain⟨h,h6⟩:=and2 h
 obtain⟨h,h5⟩:=and2 h
 refine xe04 (and4 h) λh1 h2 h3 h4=>?_
 refine⟨hf.2.2.2.2.1 (V6 h6),λy hy=>?_,bqM h2,λy hy e=>?_,bqM h4,?_⟩
 · exact bne_iff_ne.mp (alT h1 y hy)
 · have:=alT h3 y hy
   rw[e] at this;exact bqM this
 · rw[hf.2.2.1];exact h5
theorem plainT {e:PE}{M:Md}{f:Fm}(h:SE c d f e M)(hp:plainTest e=true):ST c d f e (tested M truthF2):=st_plain h HN hp
structure XOk (c:Cx)(d:Nat)(pc:Pc)(g:Ge)(x:X):Prop where
 e:∀ (E:Ce) (f:Fm) (t:PE),E.fits f->chX g E x t=true->SE c d f t (ev pc x)∧(notIte t=true->ST c d f t (evT pc x))
 l:∀ (E:Ce) (f:Fm) (t:LE),E.fits f->chL g E x t=true->SL c d f t (evL pc x)
 o:∀ (E:Ce) (f:Fm) (t:Option PE),E.fits f->chO g E x t=true->SPt c d f t (evO pc x)
 i:∀ (E:Ce) (f:Fm) (t:LE),E.fits f->chI g E x t=true->SI c d f t (evI pc x)
theorem U0 {x:X}(h:∀ (E:Ce) (f:Fm) (t:PE),E.fits f->chX g E x t=true->SE c d f t (ev pc x)∧(notIte t=true->ST c d f t (evT pc x)))
  (h1:∀ E t,chL g E x t=false) (h2:∀ E t,chO g E x t=false) (h3:∀ E t,chI g E x t=false):XOk c d pc g x:=
 ⟨h,λE f t Z q=>absurd ((h1 E t).symm.trans q) Bool.noConfusion,λE f t Z q=>absurd ((h2 E t).symm.trans q) Bool.noConfusion,λE f t Z q=>absurd ((h3 E t).symm.trans q) Bool.noConfusion⟩
theorem se_t {f:Fm}{t:PE}{M:Md}(h:SE c d f t M)(hp:plainTest t=true):SE c d f t M∧(notIte t=true->ST c d f t (tested M truthF2)):=⟨h,λZ=>plainT h hp⟩
@[elab_as_elim] theorem qG {k1 k2:PE->Bool}{k3:LE->Bool}{es:LE}{C:LE->Prop}(h:boolS k1 k2 k3 es=true)(H1:∀ a b,(k1 a&&notIte a&&k2 b&&notIte b)=true->C [a,b])
  (H2:∀ a b e m,(k1 a&&notIte a&&k3 (b::e::m))=true->C (a::b::e::m)):C es:=by
 match es,h with
 | [a,b],h=>exact H1 a b h
 |a::b::e::m,h=>exact H2 a b e m h
theorem methK {y:Str}{n:Nat}{p0 ap pos:Pos}(h:(ap.endLine==pos.line)=true):methForm (.Constant (.str y) n p0) 1 ap pos=true:=by
 unfold methForm
 rw[h]
 rfl
variable (P:PkOk c pc.p)(Go:GeOk c g)(hC:CallOK c d pc.C)
set_option maxHeartbeats 0 in
include P Go hC in
theorem UK (x:X):XOk c d pc g x:=by
 induction x with
 |val a=>
  refine U0 (λE f t hf h=>?_) (λZ Z=>rfl) (λZ Z=>rfl) (λZ Z=>rfl);rcases Qv.mp h with h|h
  · exact QU t h λv q=>se_t (se_const (sameK_ok q)) rfl
  · exact QU t h λv q=>se_t (W7 Go hf (and2 q).1 (and2 q).2) rfl
 |loc i=>
  refine U0 (λE f t hf h=>?_) (λZ Z=>rfl) (λZ Z=>rfl) (λZ Z=>rfl);exact QU t h λv q=>se_t (se_local (G1 hf (and2 q).1).1 (G1 hf (and2 q).1).2 (V6 (and2 q).2)) rfl
 |cel i=>
  refine U0 (λE f t hf h=>?_) (λZ Z=>rfl) (λZ Z=>rfl) (λZ Z=>rfl);exact QU t h λv q=>se_t (se_cell (hf.2.2.1▸bqM (and4 q).1) (hf.1▸(Qv.mp (and4 q).2.1).imp bqM bqM) (V6 (and4 q).2.2.1) (V6 (and4 q).2.2.2)) rfl
 |bin op l r ihl ihr=>
  refine U0 (λE f t hf h=>?_) (λZ Z=>rfl) (λZ Z=>rfl) (λZ Z=>rfl);exact QU t h λv q=>se_t (se_bin (ihl.e E f v.1 hf (and3 q).2.1).1 (ihr.e E f v.2.2.1 hf (and3 q).2.2).1 (eq_elim v.2.1 (and3 q).1 (bin2_ok op))) rfl
 |cmp op l r ihl ihr=>
  refine U0 (λE f t hf h=>?_) (λZ Z=>rfl) (λZ Z=>rfl) (λZ Z=>rfl);refine QU t h λv q=>QU v.2.1 q λop' q=>QU v.2.2.1 q λr' q=>?_
  have a:=(ihl.e E f v.1 hf (and4 q).2.1).1;have b:=(ihr.e E f r' hf (and4 q).2.2.1).1
  have o:O2 c d (compareOp op') (cmpP pc.p op):=eq_elim op' (and4 q).1 (cmpP_ok P op);exact⟨se_cmp a b o (V6 (and4 q).2.2.2),λZ=>st_cmp a b o HN (V6 (and4 q).2.2.2)⟩
 |not x ih=>
  refine U0 (λE f t hf h=>?_) (λZ Z=>rfl) (λZ Z=>rfl) (λZ Z=>rfl);refine QU t h λv q=>?_
  have a:=ih.e E f v.2.1 hf (and3 q).2.1;rw[bqM (and3 q).1]
  exact⟨se_not a.1 HN,λZ=>(st_not (a.2 (and3 q).2.2)).weak λen σ=>not_test en σ⟩
 |neg x ih=>
  refine U0 (λE f t hf h=>?_) (λZ Z=>rfl) (λZ Z=>rfl) (λZ Z=>rfl);refine QU t h λv q=>?_
  rw[bqM (and2 q).1];exact se_t (se_un (ih.e E f v.2.1 hf (and2 q).2).1 neg_ok) rfl
 |and l r ihl ihr=>
  refine U0 (λE f t hf h=>?_) (λZ Z=>rfl) (λZ Z=>rfl) (λZ Z=>rfl);refine QU t h λv q=>?_
  rw[bqM (and2 q).1];refine qG (and2 q).2 (λa b q=>?_) λa b e m q=>?_
  · have x:=ihl.e E f a hf (and4 q).1
    have y:=ihr.e E f b hf (and4 q).2.2.1;exact⟨se_and x.1 HN (KH y.1),λZ=>(st_and (x.2 (and4 q).2.1) (st_and (y.2 (and4 q).2.2.2) st_and_nil)).weak λen σ=>(and_test en σ).trans (congrFun (congrFun (andB_congr (λen σ=>(and_one en σ).symm)) en) σ).symm⟩
  · have x:=ihl.e E f a hf (and3 q).1
    have y:=ihr.e E f _ hf (and3 q).2.2;exact⟨se_and x.1 HN y.1,λZ=>(st_and (x.2 (and3 q).2.1) (y.2 rfl)).weak λen σ=>and_test en σ⟩
 |or l r ihl ihr=>
  refine U0 (λE f t hf h=>?_) (λZ Z=>rfl) (λZ Z=>rfl) (λZ Z=>rfl);refine QU t h λv q=>?_
  rw[bqM (and2 q).1];refine qG (and2 q).2 (λa b q=>?_) λa b e m q=>?_
  · have x:=ihl.e E f a hf (and4 q).1
    have y:=ihr.e E f b hf (and4 q).2.2.1;exact⟨se_or x.1 HN (KH y.1),λZ=>(st_or (x.2 (and4 q).2.1) (st_or (y.2 (and4 q).2.2.2) st_or_nil)).weak λen σ=>(or_test en σ).trans (congrFun (congrFun (orB_congr (λen σ=>(or_one en σ).symm)) en) σ).symm⟩
  · have x:=ihl.e E f a hf (and3 q).1
    have y:=ihr.e E f _ hf (and3 q).2.2;exact⟨se_or x.1 HN y.1,λZ=>(st_or (x.2 (and3 q).2.1) (y.2 rfl)).weak λen σ=>or_test en σ⟩
 |ite t a b iht iha ihb=>
  refine U0 (λE f t' hf h=>?_) (λZ Z=>rfl) (λZ Z=>rfl) (λZ Z=>rfl);exact QU t' h λv q=>⟨se_ite ((iht.e E f v.1 hf (and4 q).1).2 (and4 q).2.1) (iha.e E f v.2.1 hf (and4 q).2.2.1).1 (ihb.e E f v.2.2.1 hf (and4 q).2.2.2).1,λq=>(nof q)⟩
 |call x as ihx iha=>
  refine U0 (λE f t hf h=>?_) (λZ Z=>rfl) (λZ Z=>rfl) (λZ Z=>rfl);exact QU t h λv q=>se_t (se_call hC (ihx.e E f v.1 hf (and4 q).1).1 (iha.l E f v.2.1 hf (and4 q).2.1) (and4 q).2.2.1 (and4 q).2.2.2) rfl
 |meth o n as iho iha=>
  refine U0 (λE f t hf h=>?_) (λZ Z=>rfl) (λZ Z=>rfl) (λZ Z=>rfl);refine QU t h λv q=>QU v.1 q λu q=>?_
  have a:=and4 (and2 q).1;rw[← bqM a.1]
  exact se_t (se_meth (qU P) hC (iho.e E f u.1 hf a.2.1).1 (iha.l E f v.2.1 hf a.2.2.1) a.2.2.2 (and2 q).2) rfl
 |repl o y z iho=>
  refine U0 (λE f t hf h=>?_) (λZ Z=>rfl) (λZ Z=>rfl) (λZ Z=>rfl);refine QU t h λv q=>QU v.1 q λu q=>QU v.2.1 q λw q=>QU w.1 q λy' q=>QU w.2 q λz' q=>?_
  have a:=and4 (and2 q).1;rw[bqM a.1,← bqM a.2.1,← bqM a.2.2.1]
  exact se_t (se_replace .replace (iho.e E f u.1 hf a.2.2.2).1 (and2 q).2) rfl
 |attr o n iho=>
  refine U0 (λE f t hf h=>?_) (λZ Z=>rfl) (λZ Z=>rfl) (λZ Z=>rfl);refine QU t h λv q=>?_
  have a:=and3 q;rw[← bqM a.1]
  exact se_t (se_attr P.attr (name:=n) (iho.e E f v.1 hf a.2.1).1 a.2.2) rfl
 |sub o i iho ihi=>
  refine U0 (λE f t hf h=>?_) (λZ Z=>rfl) (λZ Z=>rfl) (λZ Z=>rfl);exact QU t h λv q=>se_t (se_sub (dictsAre_of P) (iho.e E f v.1 hf (and3 q).1).1 (ihi.e E f v.2.1 hf (and3 q).2.1).1 (and3 q).2.2) rfl
 |slice nm o lo hi iho ihl ihh=>
  refine U0 (λE f t hf h=>?_) (λZ Z=>rfl) (λZ Z=>rfl) (λZ Z=>rfl);refine QU t h λv q=>QU v.2.1 q λu q=>?_
  have a:=and4 q;rw[bqM a.1]
  exact se_t (se_slice P.script (iho.e E f v.1 hf a.2.1).1 (ihl.o E f u.1 hf a.2.2.1) (ihh.o E f u.2.1 hf a.2.2.2)) rfl
 |tup as iha=>
  refine U0 (λE f t hf h=>?_) (λZ Z=>rfl) (λZ Z=>rfl) (λZ Z=>rfl);exact QU t h λv q=>se_t (se_tuple (iha.l E f v.1 hf q)) rfl
 |lst as iha=>
  refine U0 (λE f t hf h=>?_) (λZ Z=>rfl) (λZ Z=>rfl) (λZ Z=>rfl);exact QU t h λv q=>se_t (se_list (iha.l E f v.1 hf q)) rfl
 |dict0=>
  refine U0 (λE f t hf h=>?_) (λZ Z=>rfl) (λZ Z=>rfl) (λZ Z=>rfl);refine QU t h λv q=>?_
  obtain⟨ks,vs,p⟩:=v;obtain rfl:ks=[]:=Qx.mp (and2 q).1
  obtain rfl:vs=[]:=Qx.mp (and2 q).2;exact se_t se_dict0 rfl
 |dict2 x y=>
  refine U0 (λE f t hf h=>?_) (λZ Z=>rfl) (λZ Z=>rfl) (λZ Z=>rfl);refine QU t h λv q=>QU v.1 q λks q=>QU v.2.1 q λvs q=>?_
  obtain⟨k1,k2⟩:=ks;obtain⟨v1,v2⟩:=vs
  refine QU k1 q λk1 q=>QU k2 q λk2 q=>QU k1 q λx' q=>QU k2 q λy' q=>QU v1 q λc1 q=>QU v2 q λc2 q=>?_
  have a:=and4 (and2 q).1;rw[← bqM a.1,← bqM a.2.1,bqM a.2.2.2,bqM (and2 q).2]
  exact se_t (se_dict2 (bne_iff_ne.mp a.2.2.1)) rfl
 |comp elt iter ifs is ihe ihi iht=>
  refine U0 (λE f t hf h=>?_) (λZ Z=>rfl) (λZ Z=>rfl) (λZ Z=>rfl);refine QU t h λv q=>?_
  obtain⟨elt',t',it,ifs',sc,p⟩:=v;refine QU t' q λx q=>?_
  have a:=and4 (and2 q).1;have O:=R5 hf a.1
  exact se_t (se_comp O.hcn pc.n O.hcell O.hkind O.hnames O.hx O.hc (ihi.e E f it hf a.2.1).1 a.2.2.1 (λf' e1 e2 e3 e4=>(ihe.e _ f' elt' (hf.inner e1 e2 e3 e4) a.2.2.2).1) (λf' e1 e2 e3 e4=>iht.i _ f' ifs' (hf.inner e1 e2 e3 e4) (and2 q).2)) rfl
 |lam id is=>exact U0 (λE f t hf h=>(nof h)) (λZ Z=>rfl) (λZ Z=>rfl) (λZ Z=>rfl)
 |joinRev y x ih=>
  refine U0 (λE f t hf h=>?_) (λZ Z=>rfl) (λZ Z=>rfl) (λZ Z=>rfl);refine QU t h λv q=>QU v.1 q λu q=>QU v.2.1 q λa q=>QU u.1 q λy' q=>QU a q λw q=>QU w.1 q λr q=>QU w.2.1 q λx' q=>?_
  have a:=and4 (and2 q).1;have b:=and3 (and2 q).2
  rw[← bqM a.1];exact se_t (se_joinRev (W7 Go hf a.2.2.1 a.2.2.2) rfl (ih.e E f x' hf b.1).1 b.2.1 (by rw[bqM a.2.1];decide +kernel) (methK b.2.2)) rfl
 |toks C k x ih=>exact U0 (λE f t hf h=>(nof h)) (λZ Z=>rfl) (λZ Z=>rfl) (λZ Z=>rfl)
 |nil=>
  refine⟨λE f t hf h=>(nof h),λE f t hf h=>?_,λE f t hf h=>?_,λE f t hf h=>?_⟩
  · cases t with
    |nil=>exact WN
    |cons=>exact nof h
  · cases t with
    |none=>exact trivial
    |some=>exact nof h
  · cases t with
    |nil=>exact si_nil
    |cons=>exact nof h
 |cons x xs ihx ihs=>
  refine⟨λE f t hf h=>(nof h),λE f t hf h=>?_,λE f t hf h=>?_,λE f t hf h=>?_⟩
  · cases t with
    |nil=>exact nof h
    |cons e es=>
     refine xe03 (and3 h) λh1 h2 h3=>?_
     exact H5 (ihx.e E f e hf h1).1 (ihs.l E f es hf h3) h2
  · exact QU t h λe q=>(ihx.e E f e hf q).1
  · obtain⟨h1,h2⟩:=and2 h
    refine QU t h2 λe q=>?_
    cases xs with
    |nil=>exact si_one ((ihx.e E f e hf (and2 q).1).2 (and2 q).2)
    |_=>exact nof h1
end
end
section
open PySem.SeqAt
section
variable {c:Cx}{d:Nat}{pc:Pc}{g:Ge}
theorem P2 {α:Type}{c:Prop}[Decidable c]{x y:Option α}{z w:Sem α}{r:α}(q:(if c then x else y)=some r)(k:x=some r->z=pure r)(k' : y=some r->w=pure r):(if c then z else w)=pure r:=by
 by_cases h:c
 · exact(if_pos h).trans (k ((if_pos h).symm.trans q))
 · exact(if_neg h).trans (k' ((if_neg h).symm.trans q))
theorem oif_no {α:Type}{c:Prop}[Decidable c]{y:Option α}{z w:Sem α}{r:α}(q:(if c then none else y)=some r)(k' : y=some r->w=pure r):(if c then z else w)=pure r:=P2 q (λh=>nos h) k'
theorem swap_is {ts:LE}{k:Nat}{tp:Pos}{e:PE}{env:Env}(hk:env.scope.kind = .function):∀ r,swapS ts e env.scope=some r->swappedStores [.Tuple ts k tp] e env=pure r:=by
 intro r h
 unfold swapS at h
 cases h1:asTup e with
 |none=>
  rw[h1] at h;cases h
  cases e<;>first|rfl|exact nos h1|exact nof h1|cases h1
 |some v=>
  obtain⟨⟨vs,k',p'⟩,rfl⟩:=v;rw[h1] at h
  dsimp only at h;have hb:env.blockKind = .function:=by unfold Env.blockKind;rw[hk];rfl
  unfold swappedStores;rw[hb]
  rw[hk] at h;have e0:∀ {x:Option (List Str)},some x=some r->(pure x:Sem _)=pure r:=λq=>congrArg pure (soI q)
  exact P2 h e0 λh=>P2 h e0 λh=>P2 h e0 λh=>P2 h e0 λh=>oif_no h e0
theorem swNone_is {ts:LE}{k:Nat}{tp:Pos}{e:PE}{env:Env}(hk:env.scope.kind = .function)(h:swNone ts e env.scope=true):swappedStores [.Tuple ts k tp] e env=pure none:=by
 exact swap_is hk none (eq_of_beq h)
theorem swPair_is {ts:LE}{k:Nat}{tp:Pos}{e:PE}{env:Env}{x y:Str}(hk:env.scope.kind = .function)(h:swPair ts e env.scope x y=true):swappedStores [.Tuple ts k tp] e env=pure (some [x,y]):=by
 exact swap_is hk (some [x,y]) (eq_of_beq h)
theorem PU {E:Ce}{f:Fm}{st:Stmt}{M:MdS}(hf:E.fits f)(h:f.env.scope.kind = .function->SS c d f st M):SS c d f st M:=
 λA W s σ en x en' σ' m N E' ok S q=>h ok.skind A W s σ en x en' σ' m N E' ok S q
theorem dflt_none {ps:Arguments}{env:Env}(h1:ps.kw_defaults=[])(h2:ps.defaults=[]):defaultsOf ps env=([],[]):=by
 obtain⟨_,_,_,_,kwd,_,dd⟩:=ps
 obtain rfl:kwd=[]:=h1
 obtain rfl:dd=[]:=h2
 rfl
theorem lamX_ok {x:X}{E:Ce}{f:Fm}{e:PE}(hf:E.fits f)(h:onv (asLamX x) (λv=>onv (asLam e) λu=>capOk E.ys v.2 (freeNames u.2.2.1))=true)(hl:∀ o∈obE x e,LamIs c E o):SE c d f e (ev pc x):=
 QU (C:=λx=>(∀ o∈obE x e,LamIs c E o)->SE c d f e (ev pc x)) x h (λv q=>QU (C:=λe=>(∀ o∈obE (.lam v.1 v.2) e,LamIs c E o)->SE c d f e (ev pc (.lam v.1 v.2))) e q λu q hl=>by
  refine xe57 (hl ⟨v.1,u.1,u.2.1,u.2.2.1,u.2.2.2⟩ (.head _)) λcn fa cd P' r l1 l2 l3 l4 l5 l6 l7=>?_
  exact se_lambda (hf.2.2.2.2.2 _ l1) l2 l3 l4 l5 (dflt_none l6 l7) (by rw[hf.2.2.1];exact q)) hl
variable (P:PkOk c pc.p)(Go:GeOk c g)(hC:CallOK c d pc.C)
structure TOk (c:Cx)(d:Nat)(pc:Pc)(g:Ge)(t:T):Prop where
 e:∀ (E:Ce) (f:Fm) (x:PE),E.fits f->E.comp=false->chT g E t x=true->SA c d f x (evA pc t)
 l:∀ (E:Ce) (f:Fm) (x:LE),E.fits f->E.comp=false->chTL g E t x=true->SAL c d f x (evAL pc t)
include P Go hC in
theorem chT_ok (t:T):TOk c d pc g t:=by
 induction t with
 |name i=>exact⟨λE f x hf hc h=>QU x (show (onv (asName x) λv=>isLc E i v.1)=true from h) λv q=>sa_name (hf.2.2.2.2.1 hc) (G1 hf q).1 (G1 hf q).2,λE f x hf hc h=>(nof h)⟩
 |sub o i=>exact⟨λE f x hf hc h=>QU x (show (onv (asSub x) λv=>chX g E o v.1&&chX g E i v.2.1)=true from h) λv q=>sa_sub ((UK P Go hC o).e E f v.1 hf (and2 q).1).1 ((UK P Go hC i).e E f v.2.1 hf (and2 q).2).1,λE f x hf hc h=>(nof h)⟩
 |tup n ts ih=>exact⟨λE f x hf hc h=>QU x (show (onv (asTup x) λv=>n==v.1.length&&chTL g E ts v.1)=true from h) λv q=>bqM (and2 q).1▸sa_tuple (ih.l E f v.1 hf hc (and2 q).2),λE f x hf hc h=>(nof h)⟩
 |nil=>
  refine⟨λE f x hf hc h=>(nof h),λE f x hf hc h=>?_⟩
  cases x with
  |nil=>exact sal_nil
  |cons=>exact nof h
 |cons t ts iht ihs=>
  refine⟨λE f x hf hc h=>(nof h),λE f x hf hc h=>?_⟩
  cases x with
  |nil=>exact nof h
  |cons e es=>exact sal_cons (iht.e E f e hf hc (and3 h).1) (ihs.l E f es hf hc (and3 h).2.2) (and3 h).2.1
include P Go hC in
theorem chLa_ok:∀ (x:X) (E:Ce) (f:Fm) (t:LE),E.fits f->chLa g E x t=true->(∀ o∈obLa x t,LamIs c E o)->SL c d f t (evL pc x):=by
 intro x
 induction x with
 |nil=>
  intro E f t hf h _
  cases t with
  |nil=>exact WN
  |cons=>exact nof h
 |cons x xs ihx ihs=>
  intro E f t hf h hl
  cases t with
  |nil=>exact nof h
  |cons e es=>
   have h:=and3 h;exact H5 ((Qv.mp h.1).elim (λh1=>lamX_ok hf h1 λo ho=>hl o (J0 _ ho)) λh1=>((UK P Go hC x).e E f e hf h1).1) (ihs E f es hf h.2.2 λo ho=>hl o (JH _ ho)) h.2.1
 |_=>intro E f t hf h _;exact nof h
include P Go hC in
theorem chTop_ok {x:X}{E:Ce}{f:Fm}{t:PE}(hf:E.fits f)(h:chTop g E x t=true)(hl:∀ o∈obTop x t,LamIs c E o):SE c d f t (ev pc x):=
 (Qv.mp h).elim (λh=>QU (C:=λx=>(∀ o∈obTop x t,LamIs c E o)->SE c d f t (ev pc x)) x h (λu q=>QU (C:=λt=>(∀ o∈obTop (.call u.1 u.2) t,LamIs c E o)->SE c d f t (ev pc (.call u.1 u.2))) t q λv q hl=>
  se_call hC ((UK P Go hC u.1).e E f v.1 hf (and4 q).1).1 (chLa_ok P Go hC u.2 E f v.2.1 hf (and4 q).2.1 hl) (and4 q).2.2.1 (and4 q).2.2.2) hl) λh=>((UK P Go hC x).e E f t hf h).1
structure YOk (c:Cx)(d:Nat)(pc:Pc)(g:Ge)(y:Y):Prop where
 b:∀ (E:Ce) (f:Fm) (s:List Stmt),E.fits f->E.comp=false->chS g E y s=true->(∀ o∈obS y s,LamIs c E o)->SB c d f s (evS pc y)
 s:∀ (E:Ce) (f:Fm) (s:Stmt),E.fits f->E.comp=false->ch1 g E y s=true->(∀ o∈ob1 y s,LamIs c E o)->SS c d f s (evS pc y)
theorem GU {y:Y}(h:∀ (E:Ce) (f:Fm) (s:Stmt),E.fits f->E.comp=false->ch1 g E y s=true->(∀ o∈ob1 y s,LamIs c E o)->SS c d f s (evS pc y))(h1:∀ E s,chS g E y s=false):YOk c d pc g y:=
 ⟨λE f s Z Z q Z=>absurd ((h1 E s).symm.trans q) Bool.noConfusion,h⟩
theorem pairS_ok {E:Ce}{f:Fm}{i j:Nat}{k:Str->Str->Bool}{Q:Prop}(hf:E.fits f)(h:pairS E i j k=true)(H:∀ a b,f.xs[i]? = some a->f.xs[j]? = some b->f.cs.names.lookup a=some .local->f.cs.names.lookup b=some .local->k a b=true->Q):Q:=by
 refine okE h λa Z h=>okE h λb Z h=>?_
 have h:=and3 h
 have l1:=G1 hf h.1
 have l2:=G1 hf h.2.1
 exact H a b l1.1 l2.1 l1.2 l2.2 h.2.2
theorem one_line {E:Ce}{f:Fm}{elt it:PE}{x y:Str}{px py cp:Pos}{ifs:LE}{sc:Scope}{pos:Pos}(hf:E.fits f)(k2:f.cs.names.lookup y=some .local)(i2:(E.cs.kind==.function)=true)(i3:(py.line==cp.line)=true)
  (i4:(!(sc.names.any λq=>q.1==y&&(q.2==.local||q.2==.cell)))=true):swapsWith (.ListComp elt [⟨.Name x px,it,ifs,0⟩] sc cp) (some (.Name y py)) pos.line f.env=pure true:=by
 have hk:f.env.scope.kind = .function:=by rw[hf.2.2.2.1];exact bqM i2
 have hb:f.env.blockKind = .function:=by unfold Env.blockKind;rw[hk];rfl
 have hy:f.env.kindOf y=some .local:=by
  show f.env.scope.names.lookup y=_;rw[hf.2.2.2.1,← hf.1];exact k2
 show pure (f.env.blockKind==.function&&f.env.kindOf y==some .local&&py.line==cp.line&&!(sc.names.any λ(n,k)=>n==y&&(k==.local||k==.cell)))=_
 rw[hb,hy,i3,show (!(sc.names.any λ(n,k)=>n==y&&(k==.local||k==.cell)))=true from i4]
 rfl
set_option maxHeartbeats 0 in
include P Go hC in
theorem N6 (y:Y):YOk c d pc g y:=by
 have X:=UK P Go hC
 have T:=chT_ok P Go hC
 induction y with
 |nil=>
  refine⟨λE f s hf hc h hl=>?_,λE f s hf hc h hl=>(nof h)⟩
  cases s with
  |nil=>exact sb_nil
  |cons=>exact nof h
 |cons s r ihs ihr=>
  refine⟨λE f s hf hc h hl=>?_,λE f s hf hc h hl=>(nof h)⟩
  cases s with
  |nil=>exact nof h
  |cons st rest=>
   obtain⟨h1,h2⟩:=and2 h;exact M2 (ihs.s E f st hf hc h1 λo ho=>hl o (J0 _ ho)) (ihr.b E f rest hf hc h2 λo ho=>hl o (JH _ ho))
 |ret x=>exact GU (λE f s hf hc h hl=>QU (C:=λs=>(∀ o∈ob1 (.ret x) s,LamIs c E o)->SS c d f s (evS pc (.ret x))) s (show (onv (asRet s) λv=>chTop g E x v.1)=true from h) (λv q hl=>ss_return (chTop_ok P Go hC hf q hl)) hl) λZ Z=>rfl
 |brk=>exact GU (λE f s hf hc h hl=>QU s (show (onv (asBrk s) λZ=>true)=true from h) λv q=>ss_break) λZ Z=>rfl
 |pass=>exact GU (λE f s hf hc h hl=>QU s (show (onv (asPass s) λZ=>true)=true from h) λv q=>ss_pass) λZ Z=>rfl
 |expr x=>exact GU (λE f s hf hc h hl=>QU s (show (onv (asExpr s) λv=>chX g E x v.1&&notComp v.1)=true from h) λv q=>ss_expr ((X x).e E f v.1 hf (and2 q).1).1 (and2 q).2) λZ Z=>rfl
 |iff t a b iha ihb=>
  exact GU (λE f s hf hc h hl=>QU (C:=λs=>(∀ o∈ob1 (.iff t a b) s,LamIs c E o)->SS c d f s (evS pc (.iff t a b))) s (show (onv (asIf s) λv=>chX g E t v.1&&notIte v.1&&chS g E a v.2.1&&chS g E b v.2.2.1)=true from h) (λv q hl=>
   ss_if (((X t).e E f v.1 hf (and4 q).1).2 (and4 q).2.1) (iha.b E f v.2.1 hf hc (and4 q).2.2.1 λo ho=>hl o (J0 _ ho)) (ihb.b E f v.2.2.1 hf hc (and4 q).2.2.2 λo ho=>hl o (JH _ ho))) hl) λZ Z=>rfl
 |set i x=>
  refine GU (λE f s hf hc h hl=>QU (C:=λs=>(∀ o∈ob1 (.set i x) s,LamIs c E o)->SS c d f s (evS pc (.set i x))) s (show (onv (asAsg s) λv=>onv (asName v.1) λy=>isLc E i y.1&&((chTop g E x v.2.1&&notComp v.2.1)||onv (asCompX x) λu=>onv (asComp v.2.1) λw=>onv (asName w.2.1) λx'=>(compOk E w.2.2.2.2.1 x'.1 u.2.2.2&&chX g E u.2.1 w.2.2.1&&notSet w.2.2.1&&chX g (E.inner w.2.2.2.2.1 x'.1) u.1 w.1)&&(chI g (E.inner w.2.2.2.2.1 x'.1) u.2.2.1 w.2.2.2.1&&E.cs.kind==.function&&y.2.line==w.2.2.2.2.2.line&&!(w.2.2.2.2.1.names.any λq=>q.1==y.1&&(q.2==.local||q.2==.cell)))))=true from h) (λv q hl=>?_) hl) λZ Z=>rfl
  refine QU (C:=λt=>SS c d f (.Assign [t] v.2.1 v.2.2) (evS pc (.set i x))) v.1 q λy q=>?_
  have k:=G1 hf (and2 q).1;refine(Qv.mp (and2 q).2).elim (λq=>Mj (hf.2.2.2.2.1 hc) (chTop_ok P Go hC hf (and2 q).1 hl) k.1 k.2 (and2 q).2) λq=>?_
  refine QU (C:=λx=>SS c d f (.Assign [.Name y.1 y.2] v.2.1 v.2.2) (evS pc (.set i x))) x q λu q=>QU (C:=λe=>SS c d f (.Assign [.Name y.1 y.2] e v.2.2) (evS pc (.set i (.comp u.1 u.2.1 u.2.2.1 u.2.2.2)))) v.2.1 q λw q=>?_
  refine QU (C:=λt=>SS c d f (.Assign [.Name y.1 y.2] (.ListComp w.1 [⟨t,w.2.2.1,w.2.2.2.1,0⟩] w.2.2.2.2.1 w.2.2.2.2.2) v.2.2) (evS pc (.set i (.comp u.1 u.2.1 u.2.2.1 u.2.2.2)))) w.2.1 q λx' q=>?_
  have a:=and4 (and2 q).1;have b:=and4 (and2 q).2
  have O:=R5 hf a.1;exact PZ O.hcn pc.n O.hcell O.hkind O.hnames O.hx O.hc (one_line hf k.2 b.2.1 b.2.2.1 b.2.2.2) k.1 k.2 ((X u.2.1).e E f w.2.2.1 hf a.2.1).1 a.2.2.1 (λf' e1 e2 e3 e4=>((X u.1).e _ f' w.1 (hf.inner e1 e2 e3 e4) a.2.2.2).1) (λf' e1 e2 e3 e4=>(X u.2.2.1).i _ f' w.2.2.2.1 (hf.inner e1 e2 e3 e4) b.1)
 |setT n ts x=>
  refine GU (λE f s hf hc h hl=>PU hf λhk=>QU s (show (onv (asAsg s) λv=>onv (asTup v.1) λu=>(n==u.1.length&&chTL g E ts u.1&&chX g E x v.2.1&&notComp v.2.1)&&swNone u.1 v.2.1 E.cs)=true from h) λv q=>QU (C:=λt=>SS c d f (.Assign [t] v.2.1 v.2.2) (evS pc (.setT n ts x))) v.1 q λu q=>?_) λZ Z=>rfl
  have a:=and4 (and2 q).1;have e:=bqM a.1
  subst e;exact K5 ((X x).e E f v.2.1 hf a.2.2.1).1 (sa_tuple ((T ts).l E f u.1 hf hc a.2.1)) a.2.2.2 (swNone_is hk (by rw[hf.2.2.2.1];exact(and2 q).2))
 |pair i j x=>
  refine GU (λE f s hf hc h hl=>PU hf λhk=>QU s (show (onv (asAsg s) λv=>onv (asTup v.1) λu=>pairS E i j λa b=>chX g E x v.2.1&&notComp v.2.1&&swPair u.1 v.2.1 E.cs a b)=true from h) λv q=>QU (C:=λt=>SS c d f (.Assign [t] v.2.1 v.2.2) (evS pc (.pair i j x))) v.1 q λu q=>pairS_ok hf q λa b k1 k2 k3 k4 q=>?_) λZ Z=>rfl
  exact PX (hf.2.2.2.2.1 hc) ((X x).e E f v.2.1 hf (and3 q).1).1 k1 k3 k2 k4 (and3 q).2.1 (swPair_is hk (by rw[hf.2.2.2.1];exact(and3 q).2.2))
 |setAttr o n x=>
  refine GU (λE f s hf hc h hl=>QU s (show (onv (asAsg s) λv=>onv (asAttr v.1) λu=>n==u.2.1&&chX g E x v.2.1&&chX g E o u.1&&notComp v.2.1)=true from h) λv q=>QU (C:=λt=>SS c d f (.Assign [t] v.2.1 v.2.2) (evS pc (.setAttr o n x))) v.1 q λu q=>?_) λZ Z=>rfl
  have a:=and4 q;rw[← bqM a.1]
  exact PK P.set (name:=n) ((X x).e E f v.2.1 hf a.2.1).1 ((X o).e E f u.1 hf a.2.2.1).1 a.2.2.2
 |setSub o i x=>
  refine GU (λE f s hf hc h hl=>QU s (show (onv (asAsg s) λv=>onv (asSub v.1) λu=>chX g E x v.2.1&&chX g E o u.1&&chX g E i u.2.1&&notComp v.2.1)=true from h) λv q=>QU (C:=λt=>SS c d f (.Assign [t] v.2.1 v.2.2) (evS pc (.setSub o i x))) v.1 q λu q=>?_) λZ Z=>rfl
  have a:=and4 q;exact ss_assign_sub ((X x).e E f v.2.1 hf a.1).1 ((X o).e E f u.1 hf a.2.1).1 ((X i).e E f u.2.1 hf a.2.2.1).1 a.2.2.2
 | «while» t b ihb=>
  exact GU (λE f s hf hc h hl=>QU (C:=λs=>(∀ o∈ob1 (.while t b) s,LamIs c E o)->SS c d f s (evS pc (.while t b))) s (show (onv (asWhile s) λv=>chX g E t v.1&&notIte v.1&&chS g E b v.2.1)=true from h) (λv q hl=>
   ss_while pc.n (((X t).e E f v.1 hf (and3 q).1).2 (and3 q).2.1) (ihb.b E f v.2.1 hf hc (and3 q).2.2 hl)) hl) λZ Z=>rfl
 | «for» t x b ihb=>
  exact GU (λE f s hf hc h hl=>QU (C:=λs=>(∀ o∈ob1 (.for t x b) s,LamIs c E o)->SS c d f s (evS pc (.for t x b))) s (show (onv (asFor s) λv=>chT g E t v.1&&chX g E x v.2.1&&notSet v.2.1&&chS g E b v.2.2.1)=true from h) (λv q hl=>
   ss_for pc.n ((X x).e E f v.2.1 hf (and4 q).2.1).1 (λp=>(T t).e E _ v.1 (hf.pinned p) hc (and4 q).1) (λp=>ihb.b E _ v.2.2.1 (hf.pinned p) hc (and4 q).2.2.2 hl) (and4 q).2.2.1) hl) λZ Z=>rfl
 |forR t x b ihb=>
  refine GU (λE f s hf hc h hl=>QU (C:=λs=>(∀ o∈ob1 (.forR t x b) s,LamIs c E o)->SS c d f s (evS pc (.forR t x b))) s (show (onv (asFor s) λv=>onv (asCall v.2.1) λu=>onv (asName u.1) λr=>onv (asOne u.2.1) λa=>(isGl E r.1&&nameG g (.glob (.type "range")) r.1&&chT g E t v.1&&chX g E x a)&&(notStar a&&chS g E b v.2.2.1))=true from h) (λv q hl=>?_) hl) λZ Z=>rfl
  refine QU (C:=λe=>SS c d f (.For v.1 e v.2.2.1 [] v.2.2.2) (evS pc (.forR t x b))) v.2.1 q λu q=>QU (C:=λr=>SS c d f (.For v.1 (.Call r u.2.1 [] u.2.2) v.2.2.1 [] v.2.2.2) (evS pc (.forR t x b))) u.1 q λr q=>?_
  refine QU (C:=λas=>SS c d f (.For v.1 (.Call (.Name r.1 r.2) as [] u.2.2) v.2.2.1 [] v.2.2.2) (evS pc (.forR t x b))) u.2.1 q λa q=>?_
  have k:=and4 (and2 q).1;exact ss_for_range pc.n (W7 Go hf k.1 k.2.1) rfl (and2 (and2 q).2).1 ((X x).e E f a hf k.2.2.2).1 (λp=>(T t).e E _ v.1 (hf.pinned p) hc k.2.2.1) (λp=>ihb.b E _ v.2.2.1 (hf.pinned p) hc (and2 (and2 q).2).2 hl)
 |tryR b ihb=>exact GU (λE f s hf hc h hl=>(nof h)) λZ Z=>rfl
 |exc=>exact GU (λE f s hf hc h hl=>(nof h)) λZ Z=>rfl
 |fail=>exact GU (λE f s hf hc h hl=>λA W s σ en x en' σ' m N E' ok S q=>(nos q)) λZ Z=>rfl
end
end
section
open PySem.SeqAt
inductive FnIs (c:Cx)(p:Pk)(a:Addr)(e:Ent):Prop
 |mk (r:FnRec) (h:FnAt c a r) (k:keepIn c.K (.ref a)=true) (q:∀ M l σ,runE e M l σ=fnF r M l σ) (b:∀ n C,CallOK c n C->SBall c n r a (evS ⟨p,C,1000,p.exc⟩ e.body))
inductive ClsIs (c:Cx)(p:Pk)(a:Addr)(e:Ent):Prop
 |mk (fI:Addr) (r:FnRec) (h:FnAt c fI r) (k:keepIn c.K (.ref a)=true) (m:makesIn c.K a=true) (f:findIn c.K (.ref a) "__init__"=some (some (.ref fI))) (i:isFn c.K (.ref fI)=true) (q:∀ M l σ,runE e M l σ=fnF r M l σ) (b:∀ n C,CallOK c n C->SBall c n r fI (evS ⟨p,C,1000,p.exc⟩ e.body))
inductive LmIs (c:Cx)(p:Pk)(i:Nat)(x:X):Prop
 |mk (r:LamRec) (ps:List Str) (h:c.lam i=some r) (a:LamAt r ps) (n:ps.length=1) (b:∀ n C,CallOK c n C->SEall c n r ps (ev ⟨p,C,1000,p.exc⟩ x))
structure TxtOk (c:Cx)(p:Pk):Prop where
 fn:∀ a e,p.fn a=some e->FnIs c p a e
 cls:∀ a e,p.cls a=some e->ClsIs c p a e
 lam:∀ i x,p.lam i=some x->LmIs c p i x
section
variable {c:Cx}{p:Pk}
theorem P6 {A:Around}{d:Nat}{f:Fm}{W:Wd}{σ:Store}{en:En}{s:Shared}{m:Str->Option Value}{N:NwT}(ok:f.Ok c A d)(S:St c f W σ en s m N){v:Value}(h:keepIn c.K v=true):KeepOk (model c.prog c.w) s.heap v:=
 keeps_K h s.heap (ok.X.keeps S.F.keep)
theorem U7 (H:TxtOk c p):∀ n,CallOK c n (callN p n)
 |0=>λf A W s σ en g l a σ' gv vs m N E ok S rg rl q=>nos q
 |n+1=>gc_ok λf A W s σ en g l a σ' gv vs m N E ok S rg rl q=>by
  have ih:=U7 H n;have nat:∀ v,Rel c.lam W (.glob v) gv->on1 (natOf v) (λk=>natF k l σ)=some (a,σ')->KeepOk (model c.prog c.w) s.heap gv∧wpAny (model c.prog c.w) A (call gv vs) (PostE c f W en a σ') E s:=
   λv rg q=>Gw rg (om1 q λk hk q=>⟨nat_keep hk,nat_ok ok.handled S rl hk q⟩)
  cases g with
  |glob v=>
   cases v with
   |ref fa=>
    have q:callA p (callN p n) fa l σ=some (a,σ'):=q;unfold callA at q
    refine Gw rg ?_
    cases h1:p.fn fa with
    |some e=>
     rw[h1] at q;obtain⟨r,hr,hk,he,hb⟩:=H.fn fa e h1
     exact⟨P6 ok S hk,fn_wp hr (hb n _ ih) ok S rl ((he _ _ _).symm.trans q)⟩
    |none=>
     rw[h1] at q;refine om1 q λe h2 q=>om q λz σ₁ h3 q=>oNT q (λez q=>oe2 q ?_) λZ Z q=>nos q
     subst ez;obtain⟨fI,r,hr,hk,hm,hi,hf,he,hb⟩:=H.cls fa e h2
     exact⟨P6 ok S hk,make_wp hr (hb n _ ih) hm hi hf ok S rl ((he _ _ _).symm.trans h3)⟩
   |_=>exact nat _ rg q
  |clo i caps=>
   refine om1 q λx h1 q=>?_
   obtain⟨r,ps,hl,hr,hn,hb⟩:=H.lam i x h1;rw[← hn] at q
   exact⟨clo_keep (h:=s.heap) S rg,clo_wp hl hr (hb n _ ih) ok S rg rl q⟩
  |_=>exact nos q
end
end
section
noncomputable abbrev X.i (n:Int):X:=.val (.int n)
noncomputable abbrev X.s (n:Str):X:=.val (.str n)
noncomputable abbrev X.b (n:Bool):X:=.val (.bool n)
noncomputable abbrev X.g (n:Addr):X:=.val (.glob (.ref n))
noncomputable abbrev X.bt (n:String):X:=.val (.glob (.builtin n))
noncomputable abbrev X.ty (n:String):X:=.val (.glob (.type n))
noncomputable abbrev X.gc (n:Addr) (a:X):X:=.call (.g n) a
noncomputable abbrev X.c1 (a0:X):X:=.cons a0 .nil
noncomputable abbrev X.c2 (a0 a1:X):X:=.cons a0 (.cons a1 .nil)
noncomputable abbrev X.c3 (a0 a1 a2:X):X:=.cons a0 (.cons a1 (.cons a2 .nil))
noncomputable abbrev X.c4 (a0 a1 a2 a3:X):X:=.cons a0 (.cons a1 (.cons a2 (.cons a3 .nil)))
noncomputable abbrev X.c5 (a0 a1 a2 a3 a4:X):X:=.cons a0 (.cons a1 (.cons a2 (.cons a3 (.cons a4 .nil))))
noncomputable abbrev X.c6 (a0 a1 a2 a3 a4 a5:X):X:=.cons a0 (.cons a1 (.cons a2 (.cons a3 (.cons a4 (.cons a5 .nil)))))
noncomputable abbrev X.c7 (a0 a1 a2 a3 a4 a5 a6:X):X:=.cons a0 (.cons a1 (.cons a2 (.cons a3 (.cons a4 (.cons a5 (.cons a6 .nil))))))
noncomputable abbrev X.k8 (a0 a1 a2 a3 a4 a5 a6 a7 a8:X):X:=.cons a0 (.cons a1 (.cons a2 (.cons a3 (.cons a4 (.cons a5 (.cons a6 (.cons a7 a8)))))))
noncomputable abbrev Y.c1 (a0:Y):Y:=.cons a0 .nil
noncomputable abbrev Y.c2 (a0 a1:Y):Y:=.cons a0 (.cons a1 .nil)
noncomputable abbrev Y.c3 (a0 a1 a2:Y):Y:=.cons a0 (.cons a1 (.cons a2 .nil))
noncomputable abbrev Y.c4 (a0 a1 a2 a3:Y):Y:=.cons a0 (.cons a1 (.cons a2 (.cons a3 .nil)))
noncomputable abbrev Y.c5 (a0 a1 a2 a3 a4:Y):Y:=.cons a0 (.cons a1 (.cons a2 (.cons a3 (.cons a4 .nil))))
noncomputable abbrev Y.c6 (a0 a1 a2 a3 a4 a5:Y):Y:=.cons a0 (.cons a1 (.cons a2 (.cons a3 (.cons a4 (.cons a5 .nil)))))
noncomputable abbrev Y.c7 (a0 a1 a2 a3 a4 a5 a6:Y):Y:=.cons a0 (.cons a1 (.cons a2 (.cons a3 (.cons a4 (.cons a5 (.cons a6 .nil))))))
noncomputable abbrev Y.k8 (a0 a1 a2 a3 a4 a5 a6 a7 a8:Y):Y:=.cons a0 (.cons a1 (.cons a2 (.cons a3 (.cons a4 (.cons a5 (.cons a6 (.cons a7 a8)))))))
noncomputable abbrev T.c1 (a0:T):T:=.cons a0 .nil
noncomputable abbrev T.c2 (a0 a1:T):T:=.cons a0 (.cons a1 .nil)
noncomputable abbrev T.c3 (a0 a1 a2:T):T:=.cons a0 (.cons a1 (.cons a2 .nil))
noncomputable abbrev T.c4 (a0 a1 a2 a3:T):T:=.cons a0 (.cons a1 (.cons a2 (.cons a3 .nil)))
noncomputable abbrev T.c5 (a0 a1 a2 a3 a4:T):T:=.cons a0 (.cons a1 (.cons a2 (.cons a3 (.cons a4 .nil))))
noncomputable abbrev T.c6 (a0 a1 a2 a3 a4 a5:T):T:=.cons a0 (.cons a1 (.cons a2 (.cons a3 (.cons a4 (.cons a5 .nil)))))
noncomputable abbrev T.c7 (a0 a1 a2 a3 a4 a5 a6:T):T:=.cons a0 (.cons a1 (.cons a2 (.cons a3 (.cons a4 (.cons a5 (.cons a6 .nil))))))
noncomputable abbrev T.k8 (a0 a1 a2 a3 a4 a5 a6 a7 a8:T):T:=.cons a0 (.cons a1 (.cons a2 (.cons a3 (.cons a4 (.cons a5 (.cons a6 (.cons a7 a8)))))))
noncomputable abbrev lo0:X:=.loc 0
noncomputable abbrev lo1:X:=.loc 1
noncomputable abbrev lo2:X:=.loc 2
noncomputable abbrev lo3:X:=.loc 3
noncomputable abbrev lo4:X:=.loc 4
noncomputable abbrev lo5:X:=.loc 5
noncomputable abbrev lo6:X:=.loc 6
noncomputable abbrev lo7:X:=.loc 7
noncomputable abbrev lo8:X:=.loc 8
noncomputable abbrev lo9:X:=.loc 9
noncomputable abbrev lo10:X:=.loc 10
noncomputable abbrev lo11:X:=.loc 11
noncomputable abbrev lo12:X:=.loc 12
noncomputable def sFigureWords:Str:=⟨#[32,90,69,82,79,32,90,69,82,79,83,32,90,69,82,79,69,83,32,83,80,65,67,69,32,83,80,65,67,69,83,32,72,73,71,72,45,86,65,76,85,69,32,72,73,71,72,45,86,65,76,85,69,83,32,76,79,87,45,86,65,76,85,69,32,76,79,87,45,86,65,76,85,69,83,32,81,85,79,84,69,32,81,85,79,84,69,83,32,65,76,76,32]⟩
def b_Err_init:Y:=.c3 .fail .fail .fail
def e_Err_init:Ent:=⟨[false,false,false],0,2,3,[.glob (.ref 29)],b_Err_init⟩
def b_Reader_fault:Y:=.c2 (.iff (.not (.attr lo0 "tokens")) (.c1 .fail) .nil) .fail
def e_Reader_fault:Ent:=⟨[false,false],0,2,2,[],b_Reader_fault⟩
def b_Token_init:Y:=.c4 (.setAttr lo0 "kind" lo1) (.setAttr lo0 "worth" lo2) (.setAttr lo0 "at" lo3) (.setAttr lo0 "is_in_a" lo4)
def e_Token_init:Ent:=⟨[false,false,false,false,false],0,3,5,[.glob (.ref 146),.bool false],b_Token_init⟩
def b_quoted:Y:=.c1 (.ret (.bin .Add (.bin .Add (.s "\"") (.repl lo0 "\"" "\"\"")) (.s "\"")))
def e_quoted:Ent:=⟨[false],0,1,1,[],b_quoted⟩
def b_is_part_next:Y:=.c3 (.setT 2 (.c2 (.name 1) (.name 2)) (.tup (.c2 (.i 0) (.i 0)))) (.while (.or (.cmp .Gt lo1 (.i 0)) (.and (.cmp .Eq lo2 (.i 0)) (.meth lo0 "is_sign" (.c1 (.s "("))))) (.c3 (.iff (.cmp .Is (.meth lo0 "peek" (.c1 lo2)) (.val .none)) (.c1 (.ret (.b false))) .nil) (.iff (.meth lo0 "is_sign" (.c2 (.s "(") lo2)) (.c1 (.set 1 (.bin .Add lo1 (.i 1)))) (.c1 (.iff (.meth lo0 "is_sign" (.c2 (.s ")") lo2)) (.c1 (.set 1 (.bin .Sub lo1 (.i 1)))) (.c1 (.iff (.and (.cmp .Eq lo1 (.i 1)) (.meth lo0 "is_sign" (.c2 (.s ":") lo2))) (.c1 (.ret (.b true))) .nil))))) (.set 2 (.bin .Add lo2 (.i 1))))) (.ret (.b false))
def e_is_part_next:Ent:=⟨[false],2,1,1,[],b_is_part_next⟩
def b_read_subscripts:Y:=.c4 (.expr (.meth lo0 "need_sign" (.c1 (.s "(")))) (.set 2 (.lst (.c1 (.call lo1 (.c1 lo0))))) (.while (.not (.meth lo0 "skip_sign" (.c1 (.s ")")))) (.c2 (.iff (.cmp .GtE (.call (.bt "len") (.c1 lo2)) (.i 7)) (.c1 .fail) .nil) (.expr (.meth lo2 "append" (.c1 (.call lo1 (.c1 lo0))))))) (.ret (.call (.ty "tuple") (.c1 lo2)))
def e_read_subscripts:Ent:=⟨[false,false],1,2,2,[],b_read_subscripts⟩
def b_read_ref:Y:=.c7 (.set 2 (.meth lo0 "name" .nil)) (.set 3 (.lst .nil)) (.while (.cmp .NotEq (.meth lo0 "one_of" (.c1 (.s "OF IN"))) (.s "")) (.c1 (.expr (.meth lo3 "append" (.c1 (.meth lo0 "name" .nil)))))) (.set 4 (.tup .nil)) (.iff (.and (.meth lo0 "is_sign" (.c1 (.s "("))) (.not (.gc 184 (.c1 lo0)))) (.c1 (.set 4 (.gc 191 (.c2 lo0 lo1)))) .nil) (.set 5 (.ite (.gc 184 (.c1 lo0)) (.gc 198 (.c2 lo0 lo1)) (.val .none))) (.ret (.tup (.c5 (.s "ref") lo2 (.call (.ty "tuple") (.c1 lo3)) lo4 lo5)))
def e_read_ref:Ent:=⟨[false,false],4,2,2,[],b_read_ref⟩
def b_read_figure:Y:=.c2 (.iff (.or (.not (.meth lo0 "is_kind" (.c1 (.s "word")))) (.cmp .NotIn (.attr (.meth lo0 "peek" .nil) "worth") (.g 176))) (.c1 (.ret (.val .none))) .nil) (.ret (.tup (.c2 (.s "figure") (.sub (.g 176) (.attr (.meth lo0 "take" .nil) "worth")))))
def e_read_figure:Ent:=⟨[false],0,1,1,[],b_read_figure⟩
def b_read_operand:Y:=.c5 (.iff (.meth lo0 "is_number" .nil) (.c1 (.ret (.tup (.c2 (.s "number") (.meth lo0 "signed" .nil))))) .nil) (.iff (.meth lo0 "is_kind" (.c1 (.s "literal"))) (.c1 (.ret (.tup (.c2 (.s "text") (.meth lo0 "octets" .nil))))) .nil) (.iff (.meth lo0 "skip" (.c1 (.s "ALL"))) (.c1 (.ret (.gc 212 (.c1 lo0)))) .nil) (.set 2 (.gc 219 (.c1 lo0))) (.ret (.ite (.cmp .Is lo2 (.val .none)) (.gc 205 (.c2 lo0 lo1)) lo2))
def e_read_operand:Ent:=⟨[false,false],1,2,2,[],b_read_operand⟩
def b_shown_octets:Y:=.c1 (.ret (.gc 175 (.c1 (.meth (.s "") "join" (.c1 (.comp (.call (.bt "chr") (.c1 lo0)) lo0 .nil []))))))
def e_shown_octets:Ent:=⟨[false],0,1,1,[],b_shown_octets⟩
def b_shown_subscripts:Y:=.c3 (.set 1 (.comp (.call (.cel 0) (.c1 lo0)) lo0 .nil [0])) (.iff (.cmp .NotEq (.comp lo0 (.slice true lo1 (.c1 (.i 1)) .nil) (.c1 (.cmp .In (.sub lo0 (.i 0)) (.s "(+-"))) []) (.lst .nil)) (.c1 (.set 1 (.comp (.bin .Add (.bin .Add (.s "(") lo0) (.s ")")) lo1 .nil []))) .nil) (.ret (.bin .Add (.bin .Add (.s " (") (.meth (.s " ") "join" (.c1 lo1))) (.s ")")))
def e_shown_subscripts:Ent:=⟨[false,true],1,2,2,[],b_shown_subscripts⟩
def b_show_ref:Y:=.c4 (.set 2 (.meth (.s " OF ") "join" (.c1 (.bin .Add (.lst (.c1 (.sub lo0 (.i 1)))) (.call (.ty "list") (.c1 (.sub lo0 (.i 2)))))))) (.iff (.cmp .NotEq (.sub lo0 (.i 3)) (.tup .nil)) (.c1 (.set 2 (.bin .Add lo2 (.gc 243 (.c2 (.sub lo0 (.i 3)) lo1))))) .nil) (.iff (.cmp .IsNot (.sub lo0 (.i 4)) (.val .none)) (.c2 (.set 3 (.ite (.cmp .Is (.sub (.sub lo0 (.i 4)) (.i 1)) (.val .none)) (.s "") (.bin .Add (.s " ") (.call lo1 (.c1 (.sub (.sub lo0 (.i 4)) (.i 1))))))) (.set 2 (.bin .Add (.bin .Add (.bin .Add (.bin .Add (.bin .Add lo2 (.s " (")) (.call lo1 (.c1 (.sub (.sub lo0 (.i 4)) (.i 0))))) (.s " :")) lo3) (.s ")")))) .nil) (.ret lo2)
def e_show_ref:Ent:=⟨[false,false],2,2,2,[],b_show_ref⟩
def b_show_operand:Y:=.c4 (.iff (.cmp .Eq (.sub lo0 (.i 0)) (.s "ref")) (.c1 (.ret (.gc 250 (.c2 lo0 lo1)))) .nil) (.iff (.cmp .Eq (.sub lo0 (.i 0)) (.s "number")) (.c1 (.ret (.gc 238 (.c1 (.sub lo0 (.i 1)))))) .nil) (.iff (.cmp .Eq (.sub lo0 (.i 0)) (.s "figure")) (.c1 (.ret (.sub (.g 177) (.sub lo0 (.i 1))))) .nil) (.ret (.bin .Add (.ite (.cmp .Eq (.sub lo0 (.i 0)) (.s "all")) (.s "ALL ") (.s "")) (.gc 231 (.c1 (.sub lo0 (.i 1))))))
def e_show_operand:Ent:=⟨[false,false],0,2,2,[],b_show_operand⟩
def b_read_expression:Y:=.c1 (.ret (.gc 279 (.c2 lo0 (.i 0))))
def e_read_expression:Ent:=⟨[false],0,1,1,[],b_read_expression⟩
def b_sign_among:Y:=.c3 (.set 2 (.meth lo0 "peek" .nil)) (.iff (.or (.cmp .Is lo2 (.val .none)) (.or (.cmp .NotEq (.attr lo2 "kind") (.s "sign")) (.cmp .NotIn (.attr lo2 "worth") lo1))) (.c1 (.ret (.s ""))) .nil) (.ret (.attr lo2 "worth"))
def e_sign_among:Ent:=⟨[false,false],1,2,2,[],b_sign_among⟩
def b_read_sum:Y:=.c4 (.iff (.cmp .Gt lo1 (.i 20)) (.c1 .fail) .nil) (.set 2 (.gc 286 (.c2 lo0 lo1))) (.while (.cmp .NotEq (.gc 272 (.c2 lo0 (.tup (.c2 (.s "+") (.s "-"))))) (.s "")) (.c2 (.set 3 (.attr (.meth lo0 "take" .nil) "worth")) (.set 2 (.tup (.c3 lo3 lo2 (.gc 286 (.c2 lo0 lo1))))))) (.ret lo2)
def e_read_sum:Ent:=⟨[false,false],2,2,2,[],b_read_sum⟩
def b_read_product:Y:=.c3 (.set 2 (.gc 293 (.c2 lo0 lo1))) (.while (.cmp .NotEq (.gc 272 (.c2 lo0 (.tup (.c2 (.s "*") (.s "/"))))) (.s "")) (.c2 (.set 3 (.attr (.meth lo0 "take" .nil) "worth")) (.set 2 (.tup (.c3 lo3 lo2 (.gc 293 (.c2 lo0 lo1))))))) (.ret lo2)
def e_read_product:Ent:=⟨[false,false],2,2,2,[],b_read_product⟩
def b_read_factor:Y:=.c7 (.set 2 (.gc 272 (.c2 lo0 (.tup (.c2 (.s "+") (.s "-")))))) (.iff (.cmp .Eq lo2 (.s "")) (.c1 (.ret (.gc 307 (.c2 lo0 lo1)))) .nil) (.expr (.meth lo0 "take" .nil)) (.set 3 (.and (.cmp .Eq lo2 (.s "-")) (.gc 300 (.c1 lo0)))) (.set 4 (.gc 307 (.c2 lo0 lo1))) (.iff lo3 (.c1 (.ret (.tup (.c2 (.s "number") (.gc 96 (.c1 (.sub lo4 (.i 1)))))))) .nil) (.ret (.ite (.cmp .Eq lo2 (.s "-")) (.tup (.c2 (.s "neg") lo4)) lo4))
def e_read_factor:Ent:=⟨[false,false],3,2,2,[],b_read_factor⟩
def b_read_power:Y:=.c3 (.set 2 (.gc 314 (.c2 lo0 lo1))) (.while (.cmp .NotEq (.gc 272 (.c2 lo0 (.tup (.c1 (.s "**"))))) (.s "")) (.c2 (.expr (.meth lo0 "take" .nil)) (.set 2 (.tup (.c3 (.s "**") lo2 (.gc 314 (.c2 lo0 lo1))))))) (.ret lo2)
def e_read_power:Ent:=⟨[false,false],1,2,2,[],b_read_power⟩
def b_read_primary:Y:=.c5 (.iff (.cmp .NotEq (.gc 272 (.c2 lo0 (.tup (.c2 (.s "+") (.s "-"))))) (.s "")) (.c1 .fail) .nil) (.iff (.not (.meth lo0 "skip_sign" (.c1 (.s "(")))) (.c1 (.ret (.gc 226 (.c2 lo0 (.lam 0 [0]))))) .nil) (.set 1 (.gc 279 (.c2 lo0 (.bin .Add (.cel 0) (.i 1))))) (.expr (.meth lo0 "need_sign" (.c1 (.s ")")))) (.ret lo1)
def e_read_primary:Ent:=⟨[false,true],1,2,2,[],b_read_primary⟩
def b_show_expression:Y:=.c5 (.set 1 (.lst .nil)) (.set 2 lo0) (.while (.and (.cmp .In (.sub lo2 (.i 0)) (.g 258)) (.cmp .GtE (.gc 321 (.c1 (.sub lo2 (.i 1)))) (.sub (.g 258) (.sub lo2 (.i 0))))) (.c2 (.expr (.meth lo1 "append" (.c1 (.gc 342 (.c1 lo2))))) (.set 2 (.sub lo2 (.i 1))))) (.iff (.cmp .In (.sub lo2 (.i 0)) (.g 258)) (.c1 (.expr (.meth lo1 "append" (.c1 (.bin .Add (.bin .Add (.bin .Add (.s "(") (.gc 335 (.c1 (.sub lo2 (.i 1))))) (.s ")")) (.gc 342 (.c1 lo2))))))) (.c1 (.iff (.cmp .Eq (.sub lo2 (.i 0)) (.s "neg")) (.c1 (.expr (.meth lo1 "append" (.c1 (.bin .Add (.s "- ") (.gc 349 (.c1 (.sub lo2 (.i 1))))))))) (.c1 (.expr (.meth lo1 "append" (.c1 (.gc 257 (.c2 lo2 (.g 335)))))))))) (.ret (.joinRev "" lo1))
def e_show_expression:Ent:=⟨[false],2,1,1,[],b_show_expression⟩
def b_word_ahead:Y:=.c2 (.set 3 (.meth lo0 "peek" (.c1 lo1))) (.ret (.and (.cmp .IsNot lo3 (.val .none)) (.and (.cmp .Eq (.attr lo3 "kind") (.s "word")) (.cmp .Eq (.attr lo3 "worth") lo2))))
def e_word_ahead:Ent:=⟨[false,false,false],1,3,3,[],b_word_ahead⟩
def b_begins_operand:Y:=.c2 (.iff (.or (.meth lo0 "is_number" .nil) (.or (.meth lo0 "is_kind" (.c1 (.s "literal"))) (.meth lo0 "is_name" .nil))) (.c1 (.ret (.b true))) .nil) (.ret (.and (.meth lo0 "is_kind" (.c1 (.s "word"))) (.cmp .In (.bin .Add (.bin .Add (.s " ") (.attr (.meth lo0 "peek" .nil) "worth")) (.s " ")) (.s sFigureWords))))
def e_begins_operand:Ent:=⟨[false],0,1,1,[],b_begins_operand⟩
def b_ref_here:Y:=.c2 (.iff (.not (.meth lo0 "is_name" .nil)) (.c1 .fail) .nil) (.ret (.gc 205 (.c2 lo0 (.g 265))))
def e_ref_here:Ent:=⟨[false],0,1,1,[],b_ref_here⟩
def b_operand_here:Y:=.c2 (.iff (.not (.gc 363 (.c1 lo0))) (.c1 .fail) .nil) (.ret (.gc 226 (.c2 lo0 (.g 265))))
def e_operand_here:Ent:=⟨[false],0,1,1,[],b_operand_here⟩
def b_text_here:Y:=.c4 (.pair 1 2 (.tup (.c2 (.attr lo0 "at") (.gc 356 (.c3 lo0 (.i 0) (.s "ALL")))))) (.set 3 (.gc 384 (.c1 lo0))) (.iff (.or (.cmp .Eq (.sub lo3 (.i 0)) (.s "number")) lo2) (.c1 (.expr (.gc 377 (.c3 lo0 lo1 (.s "an item, a text or a figurative constant must stand here"))))) .nil) (.ret lo3)
def e_text_here:Ent:=⟨[false],3,1,1,[],b_text_here⟩
def b_begins_text:Y:=.c1 (.ret (.and (.gc 363 (.c1 lo0)) (.not (.gc 356 (.c3 lo0 (.i 0) (.s "ALL"))))))
def e_begins_text:Ent:=⟨[false],0,1,1,[],b_begins_text⟩
def b_bounds_here:Y:=.c2 (.setT 2 (.c2 (.name 1) (.name 2)) (.tup (.c2 (.val .none) (.val .none)))) (.while (.b true) (.c1 (.iff (.and (.cmp .Is lo1 (.val .none)) (.meth lo0 "skip" (.c1 (.s "BEFORE")))) (.c2 (.expr (.meth lo0 "skip" (.c1 (.s "INITIAL")))) (.set 1 (.gc 391 (.c1 lo0)))) (.c1 (.iff (.and (.cmp .Is lo2 (.val .none)) (.meth lo0 "skip" (.c1 (.s "AFTER")))) (.c2 (.expr (.meth lo0 "skip" (.c1 (.s "INITIAL")))) (.set 2 (.gc 391 (.c1 lo0)))) (.c1 (.ret (.tup (.c2 lo1 lo2)))))))))
def e_bounds_here:Ent:=⟨[false],2,1,1,[],b_bounds_here⟩
def b_opens_count:Y:=.c6 (.iff (.not (.meth lo0 "is_name" .nil)) (.c1 (.ret (.b false))) .nil) (.set 1 (.attr lo0 "at")) (.expr (.gc 370 (.c1 lo0))) (.set 2 (.gc 356 (.c3 lo0 (.i 0) (.s "FOR")))) (.setAttr lo0 "at" lo1) (.ret lo2)
def e_opens_count:Ent:=⟨[false],2,1,1,[],b_opens_count⟩
def b_counted_rows:Y:=.c3 (.set 3 (.lst .nil)) (.while (.or (.cmp .Eq lo3 (.lst .nil)) (.and (.gc 398 (.c1 lo0)) (.not (.gc 412 (.c1 lo0))))) (.c3 (.set 4 (.gc 391 (.c1 lo0))) (.setT 2 (.c2 (.name 5) (.name 6)) (.gc 405 (.c1 lo0))) (.expr (.meth lo3 "append" (.c1 (.tup (.c5 lo1 lo2 lo4 lo5 lo6))))))) (.ret lo3)
def e_counted_rows:Ent:=⟨[false,false,false],4,3,3,[],b_counted_rows⟩
def b_tallied_rows:Y:=.c3 (.set 1 (.lst .nil)) (.while (.or (.cmp .Eq lo1 (.lst .nil)) (.gc 412 (.c1 lo0))) (.c5 (.pair 2 3 (.tup (.c2 (.gc 370 (.c1 lo0)) (.lst .nil)))) (.expr (.meth lo0 "need" (.c1 (.s "FOR")))) (.while (.b true) (.c1 (.iff (.meth lo0 "skip" (.c1 (.s "CHARACTERS"))) (.c2 (.setT 2 (.c2 (.name 4) (.name 5)) (.gc 405 (.c1 lo0))) (.expr (.meth lo3 "append" (.c1 (.tup (.c5 lo2 (.s "CHARACTERS") (.val .none) lo4 lo5)))))) (.c1 (.iff (.meth lo0 "skip" (.c1 (.s "ALL"))) (.c1 (.expr (.meth lo3 "extend" (.c1 (.gc 419 (.c3 lo0 lo2 (.s "ALL"))))))) (.c1 (.iff (.meth lo0 "skip" (.c1 (.s "LEADING"))) (.c1 (.expr (.meth lo3 "extend" (.c1 (.gc 419 (.c3 lo0 lo2 (.s "LEADING"))))))) (.c1 .brk)))))))) (.iff (.cmp .Eq lo3 (.lst .nil)) (.c1 .fail) .nil) (.expr (.meth lo1 "extend" (.c1 lo3))))) (.ret (.call (.ty "tuple") (.c1 lo1)))
def e_tallied_rows:Ent:=⟨[false],5,1,1,[],b_tallied_rows⟩
def b_widths_meet:Y:=.c2 (.iff (.or (.cmp .NotEq (.sub lo1 (.i 0)) (.s "text")) (.and (.cmp .IsNot lo0 (.val .none)) (.cmp .Eq (.sub lo0 (.i 0)) (.s "ref")))) (.c1 (.ret (.b true))) .nil) (.ret (.cmp .Eq (.call (.bt "len") (.c1 (.sub lo1 (.i 1)))) (.ite (.and (.cmp .IsNot lo0 (.val .none)) (.cmp .Eq (.sub lo0 (.i 0)) (.s "text"))) (.call (.bt "len") (.c1 (.sub lo0 (.i 1)))) (.i 1))))
def e_widths_meet:Ent:=⟨[false,false],0,2,2,[],b_widths_meet⟩
def b_by_here:Y:=.c4 (.set 2 (.attr lo0 "at")) (.set 3 (.gc 391 (.c1 lo0))) (.iff (.not (.gc 433 (.c2 lo1 lo3))) (.c1 (.expr (.gc 377 (.c3 lo0 lo2 (.s "what is put in must be as long as what goes"))))) .nil) (.ret lo3)
def e_by_here:Ent:=⟨[false,false],2,2,2,[],b_by_here⟩
def b_exchange_here:Y:=.c5 (.set 2 (.ite (.cmp .Eq lo1 (.s "CHARACTERS")) (.val .none) (.gc 391 (.c1 lo0)))) (.expr (.meth lo0 "need" (.c1 (.s "BY")))) (.set 3 (.gc 440 (.c2 lo0 lo2))) (.setT 2 (.c2 (.name 4) (.name 5)) (.gc 405 (.c1 lo0))) (.ret (.tup (.c5 lo1 lo2 lo3 lo4 lo5)))
def e_exchange_here:Ent:=⟨[false,false],4,2,2,[],b_exchange_here⟩
def b_replaced_rows:Y:=.c4 (.set 1 (.lst .nil)) (.while (.b true) (.c5 (.set 2 (.s "")) (.for (.name 3) (.tup (.c4 (.s "CHARACTERS") (.s "ALL") (.s "LEADING") (.s "FIRST"))) (.c1 (.iff (.and (.cmp .Eq lo2 (.s "")) (.meth lo0 "skip" (.c1 lo3))) (.c1 (.set 2 lo3)) .nil))) (.iff (.cmp .Eq lo2 (.s "")) (.c1 .brk) .nil) (.expr (.meth lo1 "append" (.c1 (.gc 447 (.c2 lo0 lo2))))) (.while (.and (.cmp .NotEq lo2 (.s "CHARACTERS")) (.gc 398 (.c1 lo0))) (.c1 (.expr (.meth lo1 "append" (.c1 (.gc 447 (.c2 lo0 lo2))))))))) (.iff (.cmp .Eq lo1 (.lst .nil)) (.c1 .fail) .nil) (.ret (.call (.ty "tuple") (.c1 lo1)))
def e_replaced_rows:Ent:=⟨[false],3,1,1,[],b_replaced_rows⟩
def b_read_inspect:Y:=.c6 (.expr (.meth lo0 "need" (.c1 (.s "INSPECT")))) (.set 2 (.gc 370 (.c1 lo0))) (.iff (.meth lo0 "skip" (.c1 (.s "CONVERTING"))) (.c5 (.set 3 (.gc 391 (.c1 lo0))) (.expr (.meth lo0 "need" (.c1 (.s "TO")))) (.set 4 (.gc 440 (.c2 lo0 lo3))) (.setT 2 (.c2 (.name 5) (.name 6)) (.gc 405 (.c1 lo0))) (.ret (.tup (.c6 (.s "convert") lo2 lo3 lo4 lo5 lo6)))) .nil) (.iff (.meth lo0 "skip" (.c1 (.s "TALLYING"))) (.c3 (.set 7 (.gc 426 (.c1 lo0))) (.iff (.meth lo0 "skip" (.c1 (.s "REPLACING"))) (.c1 (.ret (.tup (.c4 (.s "tally-replace") lo2 lo7 (.gc 454 (.c1 lo0)))))) .nil) (.ret (.tup (.c3 (.s "tally") lo2 lo7)))) .nil) (.expr (.meth lo0 "need" (.c1 (.s "REPLACING")))) (.ret (.tup (.c3 (.s "replace") lo2 (.gc 454 (.c1 lo0)))))
def e_read_inspect:Ent:=⟨[false,false],6,2,2,[],b_read_inspect⟩
def b_is_verb_here:Y:=.c1 (.ret (.and (.meth lo0 "is_kind" (.c1 (.s "word"))) (.cmp .In (.attr (.meth lo0 "peek" .nil) "worth") (.g 462))))
def e_is_verb_here:Ent:=⟨[false],0,1,1,[],b_is_verb_here⟩
def b_body_at:Y:=.c3 (.set 3 (.lst .nil)) (.while (.gc 469 (.c1 lo0)) (.c1 (.expr (.meth lo3 "append" (.c1 (.gc 483 (.c3 lo0 lo1 lo2))))))) (.ret (.call (.ty "tuple") (.c1 lo3)))
def e_body_at:Ent:=⟨[false,false,false],1,3,3,[],b_body_at⟩
def b_statement_at:Y:=.c3 (.iff (.not (.gc 469 (.c1 lo0))) (.c1 .fail) .nil) (.iff (.cmp .Gt (.cel 0) (.i 12)) (.c1 .fail) .nil) (.ret (.call (.call (.cel 1) (.c1 (.attr (.meth lo0 "peek" .nil) "worth"))) (.c2 lo0 (.lam 1 [1,0]))))
def e_statement_at:Ent:=⟨[false,true,true],0,3,3,[],b_statement_at⟩
def b_is_reserved:Y:=.c1 (.ret (.cmp .In (.bin .Add (.bin .Add (.s " ") lo0) (.s " ")) (.s sReserved)))
def e_is_reserved:Ent:=⟨[false],0,1,1,[],b_is_reserved⟩
def b_octets_of_text:Y:=.c3 (.set 1 (.comp (.call (.bt "ord") (.c1 lo0)) lo0 .nil [])) (.iff (.comp lo0 lo1 (.c1 (.cmp .Gt lo0 (.i 255))) []) (.c1 (.ret (.val .none))) .nil) (.ret (.call (.ty "bytes") (.c1 lo1)))
def e_octets_of_text:Ent:=⟨[false],1,1,1,[],b_octets_of_text⟩
def b_Reader_init:Y:=.c4 (.setAttr lo0 "tokens" lo1) (.setAttr lo0 "at" lo2) (.setAttr lo0 "named" .dict0) (.setAttr lo0 "shared" .dict0)
def e_Reader_init:Ent:=⟨[false,false,false],0,2,3,[.int 0],b_Reader_init⟩
def b_Reader_peek:Y:=.c2 (.iff (.cmp .Lt (.bin .Add (.attr lo0 "at") lo1) (.call (.bt "len") (.c1 (.attr lo0 "tokens")))) (.c1 (.ret (.sub (.attr lo0 "tokens") (.bin .Add (.attr lo0 "at") lo1)))) .nil) (.ret (.val .none))
def e_Reader_peek:Ent:=⟨[false,false],0,1,2,[.int 0],b_Reader_peek⟩
def b_Reader_take:Y:=.c4 (.set 1 (.meth lo0 "peek" .nil)) (.iff (.cmp .Is lo1 (.val .none)) (.c1 .fail) .nil) (.setAttr lo0 "at" (.bin .Add (.attr lo0 "at") (.i 1))) (.ret lo1)
def e_Reader_take:Ent:=⟨[false],1,1,1,[],b_Reader_take⟩
def b_Reader_is_kind:Y:=.c2 (.set 3 (.meth lo0 "peek" (.c1 lo2))) (.ret (.and (.cmp .IsNot lo3 (.val .none)) (.cmp .Eq (.attr lo3 "kind") lo1)))
def e_Reader_is_kind:Ent:=⟨[false,false,false],1,2,3,[.int 0],b_Reader_is_kind⟩
def b_Reader_is_word:Y:=.c3 (.set 2 (.i 0)) (.for (.name 3) (.meth lo1 "split" (.c1 (.s " "))) (.c2 (.iff (.or (.not (.meth lo0 "is_kind" (.c2 (.s "word") lo2))) (.cmp .NotEq (.attr (.meth lo0 "peek" (.c1 lo2)) "worth") lo3)) (.c1 (.ret (.b false))) .nil) (.set 2 (.bin .Add lo2 (.i 1))))) (.ret (.b true))
def e_Reader_is_word:Ent:=⟨[false,false],2,2,2,[],b_Reader_is_word⟩
def b_Reader_skip:Y:=.c3 (.iff (.not (.meth lo0 "is_word" (.c1 lo1))) (.c1 (.ret (.b false))) .nil) (.setAttr lo0 "at" (.bin .Add (.attr lo0 "at") (.call (.bt "len") (.c1 (.meth lo1 "split" (.c1 (.s " "))))))) (.ret (.b true))
def e_Reader_skip:Ent:=⟨[false,false],0,2,2,[],b_Reader_skip⟩
def b_Reader_need:Y:=.c1 (.iff (.not (.meth lo0 "skip" (.c1 lo1))) (.c1 .fail) .nil)
def e_Reader_need:Ent:=⟨[false,false],0,2,2,[],b_Reader_need⟩
def b_Reader_one_of:Y:=.c2 (.for (.name 2) (.meth lo1 "split" (.c1 (.s " "))) (.c1 (.iff (.meth lo0 "skip" (.c1 lo2)) (.c1 (.ret lo2)) .nil))) (.ret (.s ""))
def e_Reader_one_of:Ent:=⟨[false,false],1,2,2,[],b_Reader_one_of⟩
def b_Reader_is_name:Y:=.c1 (.ret (.and (.meth lo0 "is_kind" (.c2 (.s "word") lo1)) (.not (.gc 490 (.c1 (.attr (.meth lo0 "peek" (.c1 lo1)) "worth"))))))
def e_Reader_is_name:Ent:=⟨[false,false],0,1,2,[.int 0],b_Reader_is_name⟩
def b_Reader_name:Y:=.c2 (.iff (.not (.meth lo0 "is_name" .nil)) (.c1 .fail) .nil) (.ret (.attr (.meth lo0 "take" .nil) "worth"))
def e_Reader_name:Ent:=⟨[false],0,1,1,[],b_Reader_name⟩
def b_Reader_is_sign:Y:=.c1 (.ret (.and (.meth lo0 "is_kind" (.c2 (.s "sign") lo2)) (.cmp .Eq (.attr (.meth lo0 "peek" (.c1 lo2)) "worth") lo1)))
def e_Reader_is_sign:Ent:=⟨[false,false,false],0,2,3,[.int 0],b_Reader_is_sign⟩
def b_Reader_skip_sign:Y:=.c3 (.iff (.not (.meth lo0 "is_sign" (.c1 lo1))) (.c1 (.ret (.b false))) .nil) (.setAttr lo0 "at" (.bin .Add (.attr lo0 "at") (.i 1))) (.ret (.b true))
def e_Reader_skip_sign:Ent:=⟨[false,false],0,2,2,[],b_Reader_skip_sign⟩
def b_Reader_need_sign:Y:=.c1 (.iff (.not (.meth lo0 "skip_sign" (.c1 lo1))) (.c1 .fail) .nil)
def e_Reader_need_sign:Ent:=⟨[false,false],0,2,2,[],b_Reader_need_sign⟩
def b_Reader_is_number:Y:=.c2 (.iff (.or (.meth lo0 "is_sign" (.c1 (.s "+"))) (.meth lo0 "is_sign" (.c1 (.s "-")))) (.c1 (.ret (.meth lo0 "is_kind" (.c2 (.s "number") (.i 1))))) .nil) (.ret (.meth lo0 "is_kind" (.c1 (.s "number"))))
def e_Reader_is_number:Ent:=⟨[false],0,1,1,[],b_Reader_is_number⟩
def b_Reader_octets:Y:=.c5 (.iff (.not (.meth lo0 "is_kind" (.c1 (.s "literal")))) (.c1 .fail) .nil) (.set 1 (.gc 495 (.c1 (.attr (.meth lo0 "peek" .nil) "worth")))) (.iff (.cmp .Is lo1 (.val .none)) (.c1 .fail) .nil) (.setAttr lo0 "at" (.bin .Add (.attr lo0 "at") (.i 1))) (.ret lo1)
def e_Reader_octets:Ent:=⟨[false],1,1,1,[],b_Reader_octets⟩
def b_operand_text:Y:=.c1 (.ret (.gc 257 (.c2 lo0 (.g 335))))
def e_operand_text:Ent:=⟨[false],0,1,1,[],b_operand_text⟩
def b_ref_text:Y:=.c1 (.ret (.gc 250 (.c2 lo0 (.g 335))))
def e_ref_text:Ent:=⟨[false],0,1,1,[],b_ref_text⟩
def b_joined:Y:=.c1 (.ret (.meth (.s " ") "join" (.c1 (.comp lo0 lo0 (.c1 (.cmp .NotEq lo0 (.s ""))) []))))
def e_joined:Ent:=⟨[false],0,1,1,[],b_joined⟩
def b_operand_behind_word:Y:=.c1 (.ret (.ite (.cmp .Is lo1 (.val .none)) (.s "") (.bin .Add (.bin .Add lo0 (.s " ")) (.gc 676 (.c1 lo1)))))
def e_operand_behind_word:Ent:=⟨[false,false],0,2,2,[],b_operand_behind_word⟩
def b_some_of:Y:=.c2 (.iff (.cmp .Eq (.call (.bt "len") (.c1 lo0)) (.i 0)) (.c1 .fail) .nil) (.ret lo0)
def e_some_of:Ent:=⟨[false],0,1,1,[],b_some_of⟩
def b_show_bounds:Y:=.c1 (.ret (.gc 688 (.c1 (.lst (.c2 (.gc 709 (.c2 (.s "BEFORE INITIAL") lo0)) (.gc 709 (.c2 (.s "AFTER INITIAL") lo1)))))))
def e_show_bounds:Ent:=⟨[false,false],0,2,2,[],b_show_bounds⟩
def b_show_kind:Y:=.c2 (.iff (.cmp .NotEq (.cmp .Eq lo0 (.s "CHARACTERS")) (.cmp .Is lo1 (.val .none))) (.c1 .fail) .nil) (.ret (.ite (.cmp .IsNot lo1 (.val .none)) (.gc 709 (.c2 lo0 lo1)) lo0))
def e_show_kind:Ent:=⟨[false,false],0,2,2,[],b_show_kind⟩
def b_show_tallied:Y:=.c3 (.set 1 (.lst .nil)) (.for (.tup 5 (.c5 (.name 2) (.name 3) (.name 4) (.name 5) (.name 6))) (.gc 716 (.c1 lo0)) (.c1 (.expr (.meth lo1 "append" (.c1 (.gc 688 (.c1 (.lst (.c4 (.gc 683 (.c1 lo2)) (.s "FOR") (.gc 759 (.c2 lo3 lo4)) (.gc 740 (.c2 lo5 lo6))))))))))) (.ret (.bin .Add (.s "TALLYING ") (.gc 688 (.c1 lo1))))
def e_show_tallied:Ent:=⟨[false],6,1,1,[],b_show_tallied⟩
def b_show_replaced:Y:=.c3 (.set 1 (.lst .nil)) (.for (.tup 5 (.c5 (.name 2) (.name 3) (.name 4) (.name 5) (.name 6))) (.gc 716 (.c1 lo0)) (.c1 (.expr (.meth lo1 "append" (.c1 (.gc 688 (.c1 (.lst (.c4 (.gc 759 (.c2 lo2 lo3)) (.s "BY") (.gc 676 (.c1 lo4)) (.gc 740 (.c2 lo5 lo6))))))))))) (.ret (.bin .Add (.s "REPLACING ") (.gc 688 (.c1 lo1))))
def e_show_replaced:Ent:=⟨[false],6,1,1,[],b_show_replaced⟩
def b_show_inspect:Y:=.c4 (.set 1 (.bin .Add (.bin .Add (.s "INSPECT ") (.gc 683 (.c1 (.sub lo0 (.i 1))))) (.s " "))) (.iff (.cmp .Eq (.sub lo0 (.i 0)) (.s "replace")) (.c1 (.ret (.bin .Add lo1 (.gc 773 (.c1 (.sub lo0 (.i 2))))))) .nil) (.set 1 (.bin .Add lo1 (.gc 766 (.c1 (.sub lo0 (.i 2)))))) (.ret (.ite (.cmp .Eq (.sub lo0 (.i 0)) (.s "tally")) lo1 (.bin .Add (.bin .Add lo1 (.s " ")) (.gc 773 (.c1 (.sub lo0 (.i 3)))))))
def e_show_inspect:Ent:=⟨[false],1,1,1,[],b_show_inspect⟩
def b_show_texts:Y:=.c5 (.set 2 (.sub lo0 (.i 0))) (.iff (.cmp .Eq lo2 (.s "string")) (.c1 (.ret (.gc 747 (.c2 lo0 lo1)))) .nil) (.iff (.cmp .Eq lo2 (.s "unstring")) (.c1 (.ret (.gc 752 (.c2 lo0 lo1)))) .nil) (.iff (.cmp .In lo2 (.tup (.c3 (.s "tally") (.s "replace") (.s "tally-replace")))) (.c1 (.ret (.gc 780 (.c1 lo0)))) .nil) (.ret (.ite (.cmp .Eq lo2 (.s "convert")) (.gc 787 (.c1 lo0)) (.s "")))
def e_show_texts:Ent:=⟨[false,false],1,2,2,[],b_show_texts⟩
def b_L_heap:Y:=.c3 (.set 1 (.i 17)) (.for (.name 2) (.slice true lo0 .nil (.c1 (.i 24))) (.c1 (.set 1 (.bin .Add (.bin .Mult lo1 (.i 1543)) (.bin .Mod (.bin .Add (.bin .Mult (.i 2) (.call (.bt "abs") (.c1 (.call (.ty "int") (.c1 lo2))))) (.call (.ty "int") (.c1 (.cmp .Lt lo2 (.i 0))))) (.bin .Pow (.i 10) (.i 36))))))) (.ret (.lst (.c3 lo1 (.i 0) (.bin .Add (.bin .Mult (.i 2) lo1) (.i 1)))))
def e_L_heap:Ent:=⟨[false],2,1,1,[],b_L_heap⟩
def b_L_draw:Y:=.c4 (.iff (.cmp .Eq (.sub lo0 (.i 0)) (.i 0)) (.c2 (.setSub lo0 (.i 1) (.bin .Add (.sub lo0 (.i 1)) (.i 1))) (.setSub lo0 (.i 0) (.bin .Mult (.bin .Pow (.i 1000003) (.bin .Add (.i 5) (.sub lo0 (.i 1)))) (.sub lo0 (.i 2))))) .nil) (.set 2 (.bin .Mod (.sub lo0 (.i 0)) lo1)) (.setSub lo0 (.i 0) (.bin .FloorDiv (.sub lo0 (.i 0)) lo1)) (.ret lo2)
def e_L_draw:Ent:=⟨[false,false],1,2,2,[],b_L_draw⟩
def b_L_pick:Y:=.c1 (.ret (.sub lo1 (.gc 808 (.c2 lo0 (.call (.bt "len") (.c1 lo1))))))
def e_L_pick:Ent:=⟨[false,false],0,2,2,[],b_L_pick⟩
def b_L_words:Y:=.c3 (.set 1 (.lst .nil)) (.for (.name 2) (.meth (.repl (.repl lo0 "(" " ( ") ")" " ) ") "split" (.c1 (.s " "))) (.c1 (.iff (.cmp .In lo2 (.tup (.c2 (.s "(") (.s ")")))) (.c1 (.expr (.meth lo1 "append" (.c1 (.tup (.c2 (.s "sign") lo2)))))) (.c1 (.iff (.cmp .Eq (.slice true lo2 .nil (.c1 (.i 1))) (.s "\"")) (.c1 (.expr (.meth lo1 "append" (.c1 (.tup (.c2 (.s "literal") (.slice true lo2 (.c1 (.i 1)) (.c1 (.neg (.i 1)))))))))) (.c1 (.iff (.cmp .NotEq lo2 (.s "")) (.c1 (.expr (.meth lo1 "append" (.c1 (.tup (.c2 (.s "word") lo2)))))) .nil))))))) (.ret lo1)
def e_L_words:Ent:=⟨[false],2,1,1,[],b_L_words⟩
def b_L_item:Y:=.c4 (.pair 1 2 (.tup (.c2 (.gc 815 (.c2 lo0 (.tup (.c3 (.s "T") (.s "N-1") (.s "K"))))) (.tup .nil)))) (.set 3 (.lst (.c1 (.tup (.c2 (.s "word") lo1))))) (.iff (.cmp .Eq (.gc 808 (.c2 lo0 (.i 3))) (.i 0)) (.c1 (.pair 3 2 (.tup (.c2 (.bin .Add lo3 (.gc 822 (.c1 (.s "( I )")))) (.tup (.c1 (.tup (.c5 (.s "ref") (.s "I") (.tup .nil) (.tup .nil) (.val .none))))))))) .nil) (.ret (.tup (.c2 lo3 (.tup (.c5 (.s "ref") lo1 (.tup .nil) lo2 (.val .none))))))
def e_L_item:Ent:=⟨[false],3,1,1,[],b_L_item⟩
def b_L_text:Y:=.c5 (.set 1 (.gc 808 (.c2 lo0 (.i 4)))) (.iff (.cmp .Eq lo1 (.i 0)) (.c1 (.ret (.gc 829 (.c1 lo0)))) .nil) (.iff (.cmp .Eq lo1 (.i 1)) (.c2 (.set 2 (.gc 815 (.c2 lo0 (.tup (.c3 (.s "SPACE") (.s "ZERO") (.s "QUOTE")))))) (.ret (.tup (.c2 (.lst (.c1 (.tup (.c2 (.s "word") lo2)))) (.tup (.c2 (.s "figure") lo2)))))) .nil) (.set 3 (.gc 815 (.c2 lo0 (.tup (.c4 (.s "x") (.s "B") (.s "7") (.s ".")))))) (.ret (.tup (.c2 (.lst (.c1 (.tup (.c2 (.s "literal") lo3)))) (.tup (.c2 (.s "text") (.call (.ty "bytes") (.c1 (.lst (.c1 (.call (.bt "ord") (.c1 lo3)))))))))))
def e_L_text:Ent:=⟨[false],3,1,1,[],b_L_text⟩
def b_L_bounds:Y:=.c3 (.pair 1 2 (.tup (.c2 (.lst .nil) (.dict2 "BEFORE" "AFTER")))) (.for (.name 3) (.gc 815 (.c2 lo0 (.tup (.c6 (.tup .nil) (.tup .nil) (.tup (.c1 (.s "BEFORE"))) (.tup (.c1 (.s "AFTER"))) (.tup (.c2 (.s "BEFORE") (.s "AFTER"))) (.tup (.c2 (.s "AFTER") (.s "BEFORE"))))))) (.c2 (.setT 2 (.c2 (.name 4) (.sub lo2 lo3)) (.gc 836 (.c1 lo0))) (.set 1 (.bin .Add (.bin .Add lo1 (.gc 822 (.c1 (.gc 815 (.c2 lo0 (.tup (.c2 lo3 (.bin .Add lo3 (.s " INITIAL"))))))))) lo4)))) (.ret (.tup (.c2 lo1 (.tup (.c2 (.sub lo2 (.s "BEFORE")) (.sub lo2 (.s "AFTER")))))))
def e_L_bounds:Ent:=⟨[false],4,1,1,[],b_L_bounds⟩
def b_L_counted:Y:=.c3 (.pair 1 2 (.tup (.c2 (.lst .nil) (.lst .nil)))) (.forR (.name 3) (.bin .Add (.i 1) (.gc 808 (.c2 lo0 (.i 3)))) (.c6 (.setT 2 (.c2 (.name 4) (.name 5)) (.gc 829 (.c1 lo0))) (.set 6 (.gc 815 (.c2 lo0 (.tup (.c3 (.s "ALL") (.s "LEADING") (.s "CHARACTERS")))))) (.setT 2 (.c2 (.name 7) (.name 8)) (.ite (.cmp .Eq lo6 (.s "CHARACTERS")) (.tup (.c2 (.lst .nil) (.val .none))) (.gc 836 (.c1 lo0)))) (.setT 2 (.c2 (.name 9) (.name 10)) (.gc 843 (.c1 lo0))) (.set 1 (.bin .Add (.bin .Add (.bin .Add (.bin .Add lo1 lo4) (.gc 822 (.c1 (.bin .Add (.s "FOR ") lo6)))) lo7) lo9)) (.expr (.meth lo2 "append" (.c1 (.tup (.c5 lo5 lo6 lo8 (.sub lo10 (.i 0)) (.sub lo10 (.i 1))))))))) (.ret (.tup (.c2 lo1 (.call (.ty "tuple") (.c1 lo2)))))
def e_L_counted:Ent:=⟨[false],10,1,1,[],b_L_counted⟩
def b_L_exchanged:Y:=.c3 (.pair 1 2 (.tup (.c2 (.lst .nil) (.lst .nil)))) (.forR (.name 3) (.bin .Add (.i 1) (.gc 808 (.c2 lo0 (.i 2)))) (.c6 (.set 4 (.gc 815 (.c2 lo0 (.tup (.c4 (.s "ALL") (.s "FIRST") (.s "CHARACTERS") (.s "LEADING")))))) (.setT 2 (.c2 (.name 5) (.name 6)) (.ite (.cmp .Eq lo4 (.s "CHARACTERS")) (.tup (.c2 (.lst .nil) (.val .none))) (.gc 836 (.c1 lo0)))) (.setT 2 (.c2 (.name 7) (.name 8)) (.gc 836 (.c1 lo0))) (.setT 2 (.c2 (.name 9) (.name 10)) (.gc 843 (.c1 lo0))) (.set 1 (.bin .Add (.bin .Add (.bin .Add (.bin .Add (.bin .Add lo1 (.gc 822 (.c1 lo4))) lo5) (.gc 822 (.c1 (.s "BY")))) lo7) lo9)) (.expr (.meth lo2 "append" (.c1 (.tup (.c5 lo4 lo6 lo8 (.sub lo10 (.i 0)) (.sub lo10 (.i 1))))))))) (.ret (.tup (.c2 lo1 (.call (.ty "tuple") (.c1 lo2)))))
def e_L_exchanged:Ent:=⟨[false],10,1,1,[],b_L_exchanged⟩
def b_L_if:Y:=.c4 (.expr (.meth lo0 "need" (.c1 (.s "IF")))) (.set 2 (.call lo1 (.c1 lo0))) (.expr (.meth lo0 "need" (.c1 (.s "END-IF")))) (.ret (.tup (.c4 (.s "if") (.tup .nil) lo2 (.tup .nil))))
def e_L_if:Ent:=⟨[false,false],1,2,2,[],b_L_if⟩
def b_L_inspect:Y:=.c1 (.ret (.gc 461 (.c2 lo0 lo1)))
def e_L_inspect:Ent:=⟨[false,false],0,2,2,[],b_L_inspect⟩
def b_L_read:Y:=.c5 (.set 2 (.bin .Add (.bin .Add (.bin .Add (.bin .Mult (.gc 822 (.c1 (.s "IF"))) lo1) lo0) (.bin .Mult (.gc 822 (.c1 (.s "END-IF"))) lo1)) (.lst (.c1 (.tup (.c2 (.s "sign") (.s "."))))))) (.set 3 (.gc 664 (.c1 (.toks 164 12 lo2)))) (.tryR (.c1 (.set 4 (.gc 483 (.c3 lo3 (.i 0) (.lam 2 [])))))) (.forR (.name 6) lo1 (.c2 (.iff (.or (.cmp .NotEq (.sub lo4 (.i 0)) (.s "if")) (.cmp .NotEq (.call (.bt "len") (.c1 (.sub lo4 (.i 2)))) (.i 1))) (.c1 (.ret (.val .none))) .nil) (.set 4 (.sub (.sub lo4 (.i 2)) (.i 0))))) (.ret (.ite (.cmp .Eq (.attr lo3 "at") (.bin .Sub (.call (.bt "len") (.c1 lo2)) (.i 1))) lo4 (.val .none)))
def e_L_read:Ent:=⟨[false,false],5,2,2,[],b_L_read⟩
def b_L_right:Y:=.c2 (.iff (.cmp .NotEq (.gc 876 (.c2 lo0 lo2)) lo1) (.c1 (.ret (.b false))) .nil) (.ret (.cmp .Eq (.gc 876 (.c2 (.gc 822 (.c1 (.gc 794 (.c2 lo1 (.val .none))))) lo2)) lo1))
def e_L_right:Ent:=⟨[false,false,false],0,3,3,[],b_L_right⟩
def b_law:Y:=.k8 (.set 1 (.gc 801 (.c1 lo0))) (.setT 2 (.c2 (.name 2) (.name 3)) (.gc 829 (.c1 lo1))) (.setT 2 (.c2 (.name 4) (.name 5)) (.gc 850 (.c1 lo1))) (.setT 2 (.c2 (.name 6) (.name 7)) (.gc 857 (.c1 lo1))) (.set 8 (.gc 808 (.c2 lo1 (.i 12)))) (.pair 9 10 (.tup (.c2 (.bin .Add (.gc 822 (.c1 (.s "INSPECT"))) lo2) (.gc 822 (.c1 (.s "REPLACING")))))) (.set 11 (.bin .Add (.bin .Add (.bin .Add (.bin .Add lo9 (.gc 822 (.c1 (.s "TALLYING")))) lo4) lo10) lo6)) (.for (.name 12) (.tup (.c2 (.i 12) lo8)) (.c1 (.iff (.not (.gc 883 (.c3 lo11 (.tup (.c4 (.s "tally-replace") lo3 lo5 lo7)) lo12))) (.c1 (.ret (.b false))) .nil))) (.c3 .exc (.iff (.not (.gc 883 (.c3 (.bin .Add (.bin .Add lo9 (.gc 822 (.c1 (.s "TALLYING")))) lo4) (.tup (.c3 (.s "tally") lo3 lo5)) lo8))) (.c1 (.ret (.b false))) .nil) (.ret (.gc 883 (.c3 (.bin .Add (.bin .Add lo9 lo10) lo6) (.tup (.c3 (.s "replace") lo3 lo7)) lo8))))
def e_law:Ent:=⟨[false],12,1,1,[],b_law⟩
def l_0:X:=.gc 279 (.c2 lo0 (.bin .Add (.cel 0) (.i 1)))
def l_1:X:=.gc 476 (.c3 lo0 (.bin .Add (.cel 1) (.i 1)) (.cel 0))
noncomputable def l_2:X:=.ite (.cmp .Eq lo0 (.s "IF")) (.g 864) (.g 871)
open Classical in
noncomputable def excL (en:En) (σ:Store):Option (AV×Store):=
 if ∃ (i:Nat) (ts:List (Str×Str)),(en.loc[11]? : Option (Option AV))=some (some (.ref i))∧(σ[i]? : Option AO)=some (.list (((("word","INSPECT"):Str×Str)::ts).map λt=>.tup [.str t.1,.str t.2]))∧ts.length≤900∧clS σ.length σ=true then some (.none,σ) else none
def pk0 (sc:ScT):Pk where
 fns:=[(37,e_Err_init),(154,e_Token_init),(175,e_quoted),(184,e_is_part_next),(191,e_read_subscripts),(205,e_read_ref),(219,e_read_figure),(226,e_read_operand),(231,e_shown_octets),(243,e_shown_subscripts),(250,e_show_ref),(257,e_show_operand),(265,e_read_expression),(272,e_sign_among),(279,e_read_sum),(286,e_read_product),(293,e_read_factor),(307,e_read_power),(314,e_read_primary),(335,e_show_expression),(356,e_word_ahead),(363,e_begins_operand),(370,e_ref_here),(384,e_operand_here),(391,e_text_here),(398,e_begins_text),(405,e_bounds_here),(412,e_opens_count),(419,e_counted_rows),(426,e_tallied_rows),(433,e_widths_meet),(440,e_by_here),(447,e_exchange_here),(454,e_replaced_rows),(461,e_read_inspect),(469,e_is_verb_here),(476,e_body_at),(483,e_statement_at),(490,e_is_reserved),(495,e_octets_of_text),(510,e_Reader_init),(518,e_Reader_peek),(532,e_Reader_fault),(539,e_Reader_take),(547,e_Reader_is_kind),(554,e_Reader_is_word),(561,e_Reader_skip),(568,e_Reader_need),(575,e_Reader_one_of),(590,e_Reader_is_name),(597,e_Reader_name),(612,e_Reader_is_sign),(619,e_Reader_skip_sign),(626,e_Reader_need_sign),(633,e_Reader_is_number),(661,e_Reader_octets),(676,e_operand_text),(683,e_ref_text),(688,e_joined),(709,e_operand_behind_word),(716,e_some_of),(740,e_show_bounds),(759,e_show_kind),(766,e_show_tallied),(773,e_show_replaced),(780,e_show_inspect),(794,e_show_texts),(801,e_L_heap),(808,e_L_draw),(815,e_L_pick),(822,e_L_words),(829,e_L_item),(836,e_L_text),(843,e_L_bounds),(850,e_L_counted),(857,e_L_exchanged),(864,e_L_if),(871,e_L_inspect),(876,e_L_read),(883,e_L_right)]
 clss:=[(164,e_Token_init),(664,e_Reader_init)]
 lams:=[(0,l_0),(1,l_1),(2,l_2)]
 attrs:=[(664,"tokens"),(664,"at"),(164,"kind"),(164,"worth"),(164,"at")]
 sets:=[(164,"kind"),(164,"worth"),(164,"at"),(164,"is_in_a"),(664,"tokens"),(664,"at"),(664,"named"),(664,"shared")]
 meths:=[(664,"fault",532),(664,"peek",518),(664,"take",539),(664,"is_kind",547),(664,"is_word",554),(664,"skip",561),(664,"need",568),(664,"one_of",575),(664,"is_name",590),(664,"name",597),(664,"is_sign",612),(664,"skip_sign",619),(664,"need_sign",626),(664,"is_number",633),(664,"octets",661)]
 dicts:=[(176,"SPACE",some (.str "SPACE")),(176,"ZERO",some (.str "ZERO")),(176,"QUOTE",some (.str "QUOTE")),(176,"T",none),(176,"N-1",none),(176,"K",none),(176,"I",none),(177,"SPACE",some (.str "SPACE")),(177,"ZERO",some (.str "ZERO")),(177,"QUOTE",some (.str "QUOTE")),(258,"ref",none)]
 tups:=[(462,["ADD","SUBTRACT","MULTIPLY","DIVIDE","COMPUTE","MOVE","INITIALIZE","SET","STRING","UNSTRING","INSPECT","SEARCH","ACCEPT","DISPLAY","IF","EVALUATE","PERFORM","GO","EXIT","STOP","CALL","CONTINUE","OPEN","CLOSE","READ","WRITE","REWRITE","DELETE","START","SORT","MERGE","RELEASE","RETURN"].map PySem.Str.ofString)]
 script:=sc
 exc:=excL
section
variable (sc:ScT)
abbrev cN (n:Nat):CallF:=callN (pk0 sc) n
abbrev pc (n:Nat):Pc:=⟨pk0 sc,callN (pk0 sc) n,1000,(pk0 sc).exc⟩
theorem c_is_reserved (n:Nat)(l:List AV)(σ:Store):callN (pk0 sc) (n+1) (.glob (.ref 490)) l σ=gc σ.length (runE e_is_reserved (evS (pc sc n) b_is_reserved) l σ):=rfl
theorem c_Reader_peek (n:Nat)(l:List AV)(σ:Store):callN (pk0 sc) (n+1) (.glob (.ref 518)) l σ=gc σ.length (runE e_Reader_peek (evS (pc sc n) b_Reader_peek) l σ):=rfl
theorem KQ (n:Nat)(l:List AV)(σ:Store):callN (pk0 sc) (n+1) (.glob (.ref 547)) l σ=gc σ.length (runE e_Reader_is_kind (evS (pc sc n) b_Reader_is_kind) l σ):=rfl
theorem R9 (n:Nat)(l:List AV)(σ:Store):callN (pk0 sc) (n+1) (.glob (.ref 554)) l σ=gc σ.length (runE e_Reader_is_word (evS (pc sc n) b_Reader_is_word) l σ):=rfl
theorem c_Reader_skip (n:Nat)(l:List AV)(σ:Store):callN (pk0 sc) (n+1) (.glob (.ref 561)) l σ=gc σ.length (runE e_Reader_skip (evS (pc sc n) b_Reader_skip) l σ):=rfl
theorem c_joined (n:Nat)(l:List AV)(σ:Store):callN (pk0 sc) (n+1) (.glob (.ref 688)) l σ=gc σ.length (runE e_joined (evS (pc sc n) b_joined) l σ):=rfl
theorem c_L_heap (n:Nat)(l:List AV)(σ:Store):callN (pk0 sc) (n+1) (.glob (.ref 801)) l σ=gc σ.length (runE e_L_heap (evS (pc sc n) b_L_heap) l σ):=rfl
theorem c_L_draw (n:Nat)(l:List AV)(σ:Store):callN (pk0 sc) (n+1) (.glob (.ref 808)) l σ=gc σ.length (runE e_L_draw (evS (pc sc n) b_L_draw) l σ):=rfl
theorem c_L_words (n:Nat)(l:List AV)(σ:Store):callN (pk0 sc) (n+1) (.glob (.ref 822)) l σ=gc σ.length (runE e_L_words (evS (pc sc n) b_L_words) l σ):=rfl
theorem c_L_bounds (n:Nat)(l:List AV)(σ:Store):callN (pk0 sc) (n+1) (.glob (.ref 843)) l σ=gc σ.length (runE e_L_bounds (evS (pc sc n) b_L_bounds) l σ):=rfl
theorem c_L_read (n:Nat)(l:List AV)(σ:Store):callN (pk0 sc) (n+1) (.glob (.ref 876)) l σ=gc σ.length (runE e_L_read (evS (pc sc n) b_L_read) l σ):=rfl
theorem c_L_right (n:Nat)(l:List AV)(σ:Store):callN (pk0 sc) (n+1) (.glob (.ref 883)) l σ=gc σ.length (runE e_L_right (evS (pc sc n) b_L_right) l σ):=rfl
end
end
section
open PySem.SeqAt
set_option maxHeartbeats 0
noncomputable def kq (P:Params) (sa:Addr) (so:Obj):Frag:=kkg P sReserved++[(sa,so)]
noncomputable def dRec:FnRec:=⟨"","",⟨[],[],none,[],[],none,[]⟩,[],⟨.module,[],false,false,[]⟩,.none,.none,.none,.none,none,.none,.none,.none,none,#[],[],[],[],[],0⟩
noncomputable def isLocal (k:NameKind):Bool:=match k with|.local=>true|_=>false
noncomputable def isKey (ps:List Str) (x:Str):Bool:=ps.any (·==x)
noncomputable def recOf (K:Frag) (fa:Addr) (e:Ent):FnRec:=match K.lookup fa with
 |some ⟨oc,od,.func fd,osl⟩=>⟨fd.name,fd.qualname,fd.params,(match fd.body with|.stmts b=>b|_=>[]),fd.scope,fd.defaults,fd.kwdefaults,fd.doc,fd.pyModule,fd.annotations,fd.code,fd.closureTuple,oc,od,osl,
   fd.params.args.map (·.arg),e.pk,(fd.scope.names.filter λq=>isLocal q.2&&!(isKey (fd.params.args.map (·.arg)) q.1)).map (·.1),
   (match fd.defaults with|.ref T=>(match K.lookup T with|some ⟨_,_,.seq items _,_⟩=>items.toList|_=>[])|_=>[]),e.lo⟩
 |_=>dRec
noncomputable def cdA (v:Value):Addr:=match v with|.ref a=>a|_=>0
noncomputable def isRefA (v:Value):Bool:=match v with|.ref _=>true|_=>false
noncomputable def ceOf (r:FnRec) (fa:Addr):Ce:=⟨r.scope,r.xs,r.ys,false,some (r.qual,fa,cdA r.cdv)⟩
noncomputable def glOf (K:Frag):List (Str×Value):=match K.lookup mainGlobals with
 |some ⟨_,_,.dict es _,_⟩=>es.toList.filterMap λe=>match e.key with|.str x _=>some (x,e.val)|_=>none
 |_=>[]
noncomputable def blN:List (Str×Value):=[("len",.builtin "len"),("tuple",.type "tuple"),("list",.type "list"),("bytes",.type "bytes"),("int",.type "int"),("abs",.builtin "abs"),("ord",.builtin "ord"),("chr",.builtin "chr"),("range",.type "range"),("reversed",.type "reversed"),("min",.builtin "min"),("enumerate",.type "enumerate"),("Exception",.type "Exception")]
def geOf (K:Frag):Ge:=⟨glOf K,blN⟩
noncomputable def all2 {α β:Type} (f:α->β->Bool):List α->List β->Bool
 | [],[]=>true
 |a::l,b::m=>f a b&&all2 f l m
 |_,_=>false
def sameD (a:AV)(v:Value):Bool:=match a with
 | .bool a=>(match v with|.bool b=>a==b|_=>false)
 | .none=>(match v with|.none=>true|_=>false)
 |a=>sameG a v
noncomputable def shapeOk (K:Frag) (r:FnRec) (e:Ent):Bool:=
 (r.lo+r.dvs.length==r.ps.length&&r.pk.length==r.ps.length&&decide r.ps.Nodup&&decide r.xs.Nodup)&&((r.ps.zip r.pk).all λq=>r.scope.names.lookup q.1==some (if q.2 then .cell else .local)) &&
 decide ((cellsFrom 0 r.scope.names []).map (·.1)).Nodup&&(r.scope.kind==.function&&!r.scope.isGenerator&&!r.scope.isCoroutine&&isRefA r.cdv)&&(e.nz==r.zs.length&&e.lo==r.lo&&e.np==r.ps.length&&all2 sameD e.dvs r.dvs) &&
 codeIn K r.cdv r.qual&&r.pk==e.pk
def bodyOk (K:Frag)(r:FnRec)(e:Ent)(fa:Addr):Bool:=chS (geOf K) (ceOf r fa) e.body r.body
def tryY:Y:=match b_L_read with
 | .cons _ (.cons _ (.cons (.tryR y) _))=>y
 |_=>.nil
noncomputable def tryS (b:List Stmt):List Stmt:=match b with
 |_::_::.Try b _ _ _ _::_=>b
 |_=>[]
def obY (K:Frag)(fa:Addr)(e:Ent):List LamOb:=obS e.body (recOf K fa e).body
def obTr (K:Frag):List LamOb:=obS tryY (tryS (recOf K 876 e_L_read).body)
noncomputable def hdO (l:List LamOb):LamOb:=match l with
 |o::_=>o
 | []=>⟨0,⟨[],[],none,[],[],none,[]⟩,.Constant .none 0 ⟨0,0,0,0⟩,⟨.module,[],false,false,[]⟩,⟨0,0,0,0⟩⟩
noncomputable def lamR (q:Str) (o:LamOb):LamRec:=⟨q ++ ".<locals>." ++ "<lambda>",o.ps,o.body,o.scope,freeNames o.scope⟩
def ob0 (K:Frag):LamOb:=hdO (obY K 314 e_read_primary)
def ob1' (K:Frag):LamOb:=hdO (obY K 483 e_statement_at)
def ob2 (K:Frag):LamOb:=hdO (obTr K)
def lamQ (K:Frag)(i:Nat):Option LamRec:=match i with
 |0=>some (lamR (recOf K 314 e_read_primary).qual (ob0 K))
 |1=>some (lamR (recOf K 483 e_statement_at).qual (ob1' K))
 |2=>some (lamR (recOf K 876 e_L_read).qual (ob2 K))
 |_=>none
def tabsQ (K:Frag):List (Addr×Addr×Nat×Pos):=[(313,309,0,(ob0 K).pos),(482,478,1,(ob1' K).pos),(875,873,2,(ob2 K).pos)]
noncomputable def lamOk (l:List LamOb) (i:Nat):Bool:=match l with
 | [o]=>o.id==i&&o.ps.kw_defaults.isEmpty&&o.ps.defaults.isEmpty
 |_=>false
section
variable (P:Params)(sa:Addr)(so:Obj)(sc:ScT)(S:Setting)
noncomputable def takes (n:Nat) (q:Addr×Ent):Bool:=decide (q.2.lo≤n)&&decide (n≤q.2.np)
def bindsTo (K:Frag)(S:Setting)(vs:List Value)(q:Addr×Ent):Option (List (Str×Value)):=peek K S (bindArgs (recOf K q.1 q.2).data ⟨vs,[]⟩)
def boundTo (K:Frag)(vs:List Value)(q:Addr×Ent):Option (List (Str×Value)):=some ((recOf K q.1 q.2).ps.zip (vs++(recOf K q.1 q.2).dvs.drop (vs.length - (recOf K q.1 q.2).lo)))
theorem binds1 (a:Value):((pk0 sc).fns.filter (takes 1)).map (bindsTo (kq P sa so) S [a])=((pk0 sc).fns.filter (takes 1)).map (boundTo (kq P sa so) [a]):=by kernel_rfl
theorem binds2 (a b:Value):((pk0 sc).fns.filter (takes 2)).map (bindsTo (kq P sa so) S [a,b])=((pk0 sc).fns.filter (takes 2)).map (boundTo (kq P sa so) [a,b]):=by kernel_rfl
theorem binds3 (a b c:Value):((pk0 sc).fns.filter (takes 3)).map (bindsTo (kq P sa so) S [a,b,c])=((pk0 sc).fns.filter (takes 3)).map (boundTo (kq P sa so) [a,b,c]):=by kernel_rfl
theorem binds4 (a b c d:Value):((pk0 sc).fns.filter (takes 4)).map (bindsTo (kq P sa so) S [a,b,c,d])=((pk0 sc).fns.filter (takes 4)).map (boundTo (kq P sa so) [a,b,c,d]):=by kernel_rfl
theorem binds5 (a b c d e:Value):((pk0 sc).fns.filter (takes 5)).map (bindsTo (kq P sa so) S [a,b,c,d,e])=((pk0 sc).fns.filter (takes 5)).map (boundTo (kq P sa so) [a,b,c,d,e]):=by kernel_rfl
theorem looks:(pk0 sc).fns.map (λq=>(kq P sa so).lookup q.1)=(pk0 sc).fns.map λq=>some ⟨(recOf (kq P sa so) q.1 q.2).oc,(recOf (kq P sa so) q.1 q.2).od,.func (recOf (kq P sa so) q.1 q.2).data,(recOf (kq P sa so) q.1 q.2).osl⟩:=by kernel_rfl
theorem keeps:((pk0 sc).fns.all λq=>keepIn (kq P sa so) (.ref q.1))=true:=by kernel_rfl
theorem bodies:((pk0 sc).fns.all λq=>q.1==876||bodyOk (kq P sa so) (recOf (kq P sa so) q.1 q.2) q.2 q.1)=true:=by kernel_rfl
theorem lamless:((pk0 sc).fns.all λq=>q.1==314||q.1==483||q.1==876||(obY (kq P sa so) q.1 q.2).isEmpty)=true:=by kernel_rfl
theorem lam0:lamOk (obY (kq P sa so) 314 e_read_primary) 0=true:=by kernel_rfl
theorem lam1:lamOk (obY (kq P sa so) 483 e_statement_at) 1=true:=by kernel_rfl
theorem lam2:lamOk (obTr (kq P sa so)) 2=true:=by kernel_rfl
theorem cd0:(recOf (kq P sa so) 314 e_read_primary).cdv = .ref 313:=by kernel_rfl
theorem cd1:(recOf (kq P sa so) 483 e_statement_at).cdv = .ref 482:=by kernel_rfl
theorem cd2:(recOf (kq P sa so) 876 e_L_read).cdv = .ref 875:=by kernel_rfl
theorem attrs_are:((pk0 sc).attrs.all λq=>attrOk (kq P sa so) q.1 q.2)=true:=by kernel_rfl
theorem sets_are:((pk0 sc).sets.all λq=>setOk (kq P sa so) q.1 q.2)=true:=by kernel_rfl
theorem meths_are:((pk0 sc).meths.all λq=>methOf (kq P sa so) q.1 q.2.1==some q.2.2)=true:=by kernel_rfl
theorem bl_ns:blN.map (λq=>nsIn (kq P sa so) mainGlobals q.1)=blN.map λZ=>some none:=by kernel_rfl
theorem bl_boot:blN.map (λq=>bootBuiltins q.1)=blN.map λq=>some q.2:=by kernel_rfl
theorem bl_nm:(blN.all λq=>q.1 != "__name__")=true:=by kernel_rfl
theorem bl_g:blN.map (λq=>globAV q.2)=blN.map λq=>.glob q.2:=by kernel_rfl
def dictOk (K:Frag)(q:Addr×Str×Option AV):Bool:=match nsIn K q.1 q.2.1 with
 |some (some v)=>(match q.2.2 with|some a=>sameD a v|none=>false)
 |some none=>(match q.2.2 with|some _=>false|none=>true)
 |none=>false
theorem dicts_are:((pk0 sc).dicts.all λq=>dictOk (kq P sa so) q)=true:=by kernel_rfl
noncomputable def topD (K:Frag) (a:Addr):List DictEntry:=match K.lookup a with
 |some ⟨_,_,.dict es _,_⟩=>es.toList
 |_=>[]
noncomputable def topN (K:Frag) (a:Addr):Nat:=match K.lookup a with
 |some ⟨_,_,.dict _ n,_⟩=>n
 |_=>0
theorem gds_look:[176,177,258].map (λa=>(kq P sa so).lookup a)=[176,177,258].map λa=>some ⟨.type "dict",none,.dict (topD (kq P sa so) a).toArray (topN (kq P sa so) a),#[]⟩:=by kernel_rfl
theorem gds_keys:[176,177,258].map (λa=>topD (kq P sa so) a)=[176,177,258].map λa=>(topD (kq P sa so) a).map λe=>match e.key with|.str x t=>⟨PyData.keyHash P x,.str x t,e.val⟩|_=>⟨PyData.keyHash P "",.str "" 0,e.val⟩:=by kernel_rfl
def verbs:List Str:=((pk0 sc).tups.lookup 462).getD []
noncomputable def verbT:List Nat:=match (kk P).lookup 462 with
 |some ⟨_,_,.seq items _,_⟩=>items.toList.map λv=>match v with|.str _ t=>t|_=>0
 |_=>[]
theorem verbs_are:topTup (kq P sa so) 462=some (((verbs sc).zip (verbT P)).map λq=>.str q.1 q.2):=by kernel_rfl
theorem arities:((pk0 sc).fns.all λq=>decide (1≤q.2.lo)&&decide (q.2.np≤5))=true:=by kernel_rfl
theorem shapes:((pk0 sc).fns.all λq=>shapeOk (kq P sa so) (recOf (kq P sa so) q.1 q.2) q.2)=true:=by kernel_rfl
end
end
section
open PySem.SeqAt
theorem Jw {α β:Type}[BEq α][LawfulBEq α]{a:α}{b:β}:∀ {l:List (α×β)},l.lookup a=some b->(a,b)∈l
 | (c,d)::l,h=>by
  rw[V4] at h
  cases hc:(a==c) with
  |true=>rw[hc] at h;cases h;rw[eq_of_beq hc];exact .head _
  |false=>rw[hc] at h;exact .tail _ (Jw h)
theorem all2_map {α β:Type}{f:α->β->Bool}{g:β->α}(h:∀ a b,f a b=true->g b=a):∀ {l:List α} {m:List β},all2 f l m=true->l=m.map g
 | [],[],_=>rfl
 | [],_::_,q=>nof q
 |_::_,[],q=>nof q
 |a::l,b::m,q=>by
  obtain⟨q1,q2⟩:=and2 q;rw[QM,h a b q1,all2_map h q2]
theorem sameD_ok {a:AV}{v:Value}(h:sameD a v=true):globAV v=a:=by
 cases a with
 |none=>cases v<;>first|rfl|exact nos h|exact nof h|cases h
 |bool a=>cases v with|bool b=>rw[bqM h];rfl|_=>exact nof h
 |_=>exact PN h
section
variable {c:Cx}{sa:Addr}{so:Obj}{ns:List Int}
theorem Hv (hK:c.K=kq c.w.params sa so){q:Addr×Ent}(hq:q∈(pk0 (sa,ns)).fns):FnAt c q.1 (recOf c.K q.1 q.2)∧keepIn c.K (.ref q.1)=true∧(∀ M l σ,runE q.2 M l σ=fnF (recOf c.K q.1 q.2) M l σ)∧isRefA (recOf c.K q.1 q.2).cdv=true:=by
 have h1:=alT (shapes c.w.params sa so (sa,ns)) q hq
 have h2:=Jv.mp (looks c.w.params sa so (sa,ns)) q hq
 have h3:=alT (keeps c.w.params sa so (sa,ns)) q hq
 have h4:=alT (arities (sa,ns)) q hq
 obtain⟨h4,h5⟩:=and2 h4
 have h4:=of_decide_eq_true h4
 have h5:=of_decide_eq_true h5
 rw[hK]
 generalize hr:recOf (kq c.w.params sa so) q.1 q.2=r at h1 h2
 obtain⟨h1,h8⟩:=and2 h1
 have epk:=bqM h8
 obtain⟨h1,h6⟩:=and2 h1
 obtain⟨h1,h7⟩:=and2 h1
 refine xe04 (and4 h1) λa1 a2 a3 a4=>?_
 refine xe04 (and4 a1) λb1 b2 b3 b4=>?_
 refine xe04 (and4 a4) λc1 c2 c3 c4=>?_
 refine xe04 (and4 h7) λd1 d2 d3 d4=>?_
 have b1:=bqM b1
 have b2:=bqM b2
 have d1:=bqM d1
 have d2:=bqM d2
 have d3:=bqM d3
 have d4:=all2_map (g:=globAV) (λa b h=>sameD_ok h) d4
 refine⟨?_,h3,λM l σ=>?_,c4⟩
 · exact {
    look:=by rw[hK];exact h2
    code:=by rw[hK];exact h6
    bind:=λs vs X hl hu=>by
     rw[hK] at X;rw[← d2] at hl
     rw[← d3] at hu;have key:∀ S:Setting,peek (kq c.w.params sa so) S (bindArgs r.data ⟨vs,[]⟩)=some (r.ps.zip (vs++r.dvs.drop (vs.length - r.lo))):=by
      intro S;have tk:q∈((pk0 (sa,ns)).fns.filter (takes vs.length)):=JZ.mpr ⟨hq,by unfold takes;rw[decide_eq_true hl,decide_eq_true hu];rfl⟩
      have fin:bindsTo (kq c.w.params sa so) S vs q=boundTo (kq c.w.params sa so) vs q:=by
       match vs,hl,hu,tk with
       | [],hl,hu,tk=>exact absurd (QJ h4 hl) (Gk _)
       | [a],hl,hu,tk=>exact Jv.mp (binds1 c.w.params sa so (sa,ns) S a) q tk
       | [a,b],hl,hu,tk=>exact Jv.mp (binds2 c.w.params sa so (sa,ns) S a b) q tk
       | [a,b,d],hl,hu,tk=>exact Jv.mp (binds3 c.w.params sa so (sa,ns) S a b d) q tk
       | [a,b,d,e],hl,hu,tk=>exact Jv.mp (binds4 c.w.params sa so (sa,ns) S a b d e) q tk
       | [a,b,d,e,f],hl,hu,tk=>exact Jv.mp (binds5 c.w.params sa so (sa,ns) S a b d e f) q tk
       |_::_::_::_::_::_::l,hl,hu,tk=>exact absurd (QJ hu h5) (by simp only[Qw];exact Nat.not_le_of_lt (G4 6 _))
      unfold bindsTo boundTo at fin;rw[hr] at fin
      exact fin
     exact kp_binds X key
    dl:=b1
    pkl:=b2
    pnd:=of_decide_eq_true b3
    nodup:=of_decide_eq_true b4
    kinds:=λi x b e1 e2=>by
     have:=alT a2 (x,b) (HX (i:=i) (List.getElem?_zip_eq_some.mpr ⟨e1,e2⟩));exact bqM this
    cnd:=of_decide_eq_true a3
    kind:=bqM c1
    gen:=V6 c2
    co:=V6 c3 }
 · show runB q.2.pk q.2.nz q.2.lo q.2.np q.2.dvs M l σ=runB r.pk r.zs.length r.lo r.ps.length (r.dvs.map globAV) M l σ
   rw[epk,d1,d2,d3,d4]
theorem gl_find {x:Str}{v:Value}:∀ {es:List DictEntry},(es.filterMap λe=>match e.key with|.str x _=>some (x,e.val)|_=>none).lookup x=some v->∃ e,es.find? (λe=>e.key.isStr x)=some e∧e.val=v
 | [],h=>nos h
 |e::es,h=>by
  obtain⟨hs,k,w⟩:=e;rw[Jk] at h
  rw[List.find?_cons]
  cases k with
  |str y t=>
   dsimp only at h;rw[V4] at h
   show ∃ e:DictEntry,(match y==x with|true=>some (⟨hs,.str y t,w⟩:DictEntry)|false=>es.find? (λe=>e.key.isStr x))=some e∧e.val=v;rw[show (x==y)=(y==x) from by rw[Hz,beq_iff_eq,beq_iff_eq];exact eq_comm] at h
   cases hy:(y==x) with
   |true=>rw[hy] at h;cases h;exact⟨_,rfl,rfl⟩
   |false=>rw[hy] at h;exact gl_find h
  |_=>exact gl_find h
theorem gl_ok {K:Frag}{x:Str}{v:Value}(h:(glOf K).lookup x=some v):nsIn K mainGlobals x=some (some v):=by
 unfold glOf at h
 unfold nsIn
 cases e:K.lookup mainGlobals with
 |none=>rw[e] at h;exact nos h
 |some o=>
  rw[e] at h;obtain⟨oc,od,data,sl⟩:=o
  cases data with
  |dict es n=>
   refine xe12 (gl_find h) λd h1 h2=>?_
   show (match es.toList.find? (λe=>e.key.isStr x) with|some e=>some (some e.val)|none=>_)=_;rw[h1,← h2]
  |_=>exact nos h
theorem geOk (hK:c.K=kq c.w.params sa so):GeOk c (geOf c.K) where
 gl:=λx v h=>gl_ok h
 bl:=λx v h=>by
  have hm:(x,v)∈blN:=Jw h;have h1:=Jv.mp (bl_ns c.w.params sa so) (x,v) hm
  have h2:=Jv.mp bl_boot (x,v) hm;have h3:=alT bl_nm (x,v) hm
  have h4:=Jv.mp bl_g (x,v) hm;rw[hK]
  exact⟨h1,h2,bne_iff_ne.mp h3,h4⟩
theorem Kk {P:Params}:∀ (l:List DictEntry),KeysLit P (l.map λe=>match e.key with|.str x t=>⟨PyData.keyHash P x,.str x t,e.val⟩|_=>⟨PyData.keyHash P "",.str "" 0,e.val⟩)
 | []=>trivial
 |e::l=>by
  rw[QM];refine⟨?_,Kk l⟩
  cases e.key<;>exact⟨_,_,rfl,rfl⟩
theorem any_zip {x:Str}:∀ (l:List Str) (m:List Nat),l.length≤m.length->((l.zip m).map λq=>Value.str q.1 q.2).any (strIs x)=l.any (·==x)∧((l.zip m).map λq=>Value.str q.1 q.2).all isStrV=true
 | [],_,_=>⟨rfl,rfl⟩
 |_::_,[],h=>by cases h
 |a::l,b::m,h=>by
  obtain⟨h1,h2⟩:=any_zip (x:=x) l m (V2 h);rw[List.zip_cons_cons,QM,GG,GG,JX,h1,h2]
  exact⟨rfl,rfl⟩
theorem verbs_len (P:Params)(sc:ScT):((verbs sc).length≤(verbT P).length):=by
 have:decide ((verbs sc).length≤(verbT P).length)=true:=by kernel_rfl
 exact of_decide_eq_true this
theorem tup_is (sc:ScT):(pk0 sc).tups=[(462,verbs sc)]:=by kernel_rfl
theorem dict_addrs (sc:ScT):((pk0 sc).dicts.all λq=>q.1==176||q.1==177||q.1==258)=true:=by kernel_rfl
theorem RZ {α:Type}:∀ (l:List (Addr×α)) (a:Addr),(l.any λq=>q.1==a)=(l.map (·.1)).contains a
 | [],_=>rfl
 |q::l,a=>by
  rw[GG,QM,V9,RZ l a,show (a==q.1)=(q.1==a) from by rw[Hz,beq_iff_eq,beq_iff_eq];exact eq_comm]
theorem pkOk (hK:c.K=kq c.w.params sa so)(hs:∃ (vs:List Value) (n:Nat),so.cls = .type "list"∧so.data = .seq vs.toArray n∧IntsAre vs ns)(hso:c.K.lookup sa=some so):PkOk c (pk0 (sa,ns)) where
 attr:=λC n h=>by
  rw[hK];exact alT (attrs_are c.w.params sa so (sa,ns)) (C,n) (ciM h)
 set:=λC n h=>by
  rw[hK];exact alT (sets_are c.w.params sa so (sa,ns)) (C,n) (ciM h)
 meth:=λC n fa h=>by
  rw[hK];unfold Pk.meth at h
  cases e:((pk0 (sa,ns)).meths.find? λq=>q.1==C&&q.2.1==n) with
  |none=>rw[e] at h;exact nos h
  |some q=>
   rw[e] at h;cases h
   have h0:(q.1==C&&q.2.1==n)=true:=List.find?_some (p:=λq:Addr×Str×Addr=>q.1==C&&q.2.1==n) e;obtain⟨h1,h2⟩:=and2 h0
   have:=alT (meths_are c.w.params sa so (sa,ns)) q (List.mem_of_find?_eq_some e);rw[← bqM h1,← bqM h2]
   exact bqM this
 gds:=λa ha=>by
  obtain⟨q,hq,rfl⟩:=Jz.mp ha;have h1:=alT (dict_addrs (sa,ns)) q hq
  have hm:q.1∈[176,177,258]:=by
   rcases Qv.mp h1 with h1|h1
   · rcases Qv.mp h1 with h1|h1
     · rw[bqM h1];exact .head _
     · rw[bqM h1];exact .tail _ (.head _)
   · rw[bqM h1];exact .tail _ (.tail _ (.head _))
  have e1:=Jv.mp (gds_look c.w.params sa so) q.1 hm;have e2:=Jv.mp (gds_keys c.w.params sa so) q.1 hm
  refine⟨?_,_,_,by rw[hK];exact e1,?_⟩
  · rw[beq_eq_false_iff_ne]
    intro e;rw[e] at hm
    exact absurd hm (by decide +kernel)
  · show KeysLit c.w.params (topD (kq c.w.params sa so) q.1)
    rw[e2];exact Kk _
 dict:=λa x r h=>by
  unfold Pk.dict at h
  cases e:((pk0 (sa,ns)).dicts.find? λq=>q.1==a&&q.2.1==x) with
  |none=>rw[e] at h;exact nos h
  |some q=>
   rw[e] at h;cases h
   have h0:(q.1==a&&q.2.1==x)=true:=List.find?_some (p:=λq:Addr×Str×Option AV=>q.1==a&&q.2.1==x) e;obtain⟨h1,h2⟩:=and2 h0
   have hm:=List.mem_of_find?_eq_some e;have:=alT (dicts_are c.w.params sa so (sa,ns)) q hm
   rw[hK,← bqM h1,← bqM h2];refine⟨HJ.mpr (VQ hm),?_⟩
   unfold dictOk at this
   cases e2:nsIn (kq c.w.params sa so) q.1 q.2.1 with
   |none=>rw[e2] at this;exact nof this
   |some o=>
    rw[e2] at this;refine⟨o,rfl,?_⟩
    cases o with
    |none=>
     cases e3:q.2.2 with
     |none=>exact e3.symm
     |some=>rw[e3] at this;exact nof this
    |some v=>
     cases e3:q.2.2 with
     |none=>rw[e3] at this;exact nof this
     |some b=>rw[e3] at this;exact(congrArg some (sameD_ok this)).trans e3.symm
 isd:=λa=>RZ _ a
 tup:=λa xs h=>by
  have h:(pk0 (sa,ns)).tups.lookup a=some xs:=h;rw[tup_is] at h
  have hm:=Jw h;rcases mcM hm with e|hm
  · cases e
    have z:=λx=>any_zip (x:=x) (verbs (sa,ns)) (verbT c.w.params) (verbs_len _ _)
    exact⟨_,by rw[hK];exact verbs_are c.w.params sa so (sa,ns),(z "").2,λx=>(z x).1⟩
  · cases hm
 script:=λh X=>by
  refine xe23 hs λvs n e1 e2 hi=>?_
  exact⟨vs,⟨so,X _ _ hso,e1,n,e2⟩,hi⟩
theorem lamOne {l:List LamOb}{i:Nat}(h:lamOk l i=true):l=[hdO l]∧(hdO l).id=i∧(hdO l).ps.kw_defaults=[]∧(hdO l).ps.defaults=[]:=by
 cases l with
 |nil=>exact nof h
 |cons a r=>cases r with
  |nil=>exact⟨rfl,bqM (and3 h).1,Qx.mp (and3 h).2.1,Qx.mp (and3 h).2.2⟩
  |cons=>exact nof h
structure IsC (c:Cx)(sa:Addr)(so:Obj):Prop where
 K:c.K=kq c.w.params sa so
 lam:c.lam=lamQ c.K
 tabs:c.tabs=tabsQ c.K
theorem tab_one {K:Frag}{q:Addr×Addr×Nat×Pos}(hq:q∈tabsQ K):∀ q'∈tabsQ K,q'.2.1=q.2.1->q'=q:=by
 intro q' hq' e
 unfold tabsQ at hq hq'
 simp only[U8,Uz,or_false] at hq hq'
 rcases hq with rfl|rfl|rfl<;>rcases hq' with rfl|rfl|rfl<;>first|rfl|(dsimp only at e;exact absurd (id e : @Eq Nat _ _) (by decide))
theorem P5 {r:FnRec}{fa cd P i:Nat}{l:List LamOb}(hl:lamOk l i=true)(hc:r.cdv = .ref cd)(h1:c.lam i=some (lamR r.qual (hdO l)))(h2:(cd,P,i,(hdO l).pos)∈c.tabs)(h3:∀ q'∈c.tabs,q'.2.1=P->q'=(cd,P,i,(hdO l).pos)) :
  ∀ o∈l,LamIs c (ceOf r fa) o:=by
 refine xe04 (lamOne hl) λe1 e2 e3 e4=>?_
 intro o ho
 rw[e1] at ho
 obtain rfl:=Hk.mp ho
 exact⟨r.qual,fa,cd,P,_,by show some (r.qual,fa,cdA r.cdv)=_;rw[hc];rfl,by rw[e2];exact h1,rfl,by rw[e2];exact h2,by rw[e2];exact h3,e3,e4⟩
theorem lams_of (H:IsC c sa so){a:Addr}{e:Ent}(he:(pk0 (sa,ns)).fns.lookup a=some e)(h876:a≠876):∀ o∈obY c.K a e,LamIs c (ceOf (recOf c.K a e) a) o:=by
 have h:=alT (lamless c.w.params sa so (sa,ns)) (a,e) (Jw he)
 rw[← H.K] at h
 have m0:(313,309,0,(ob0 c.K).pos)∈c.tabs:=by rw[H.tabs];exact .head _
 have m1:(482,478,1,(ob1' c.K).pos)∈c.tabs:=by rw[H.tabs];exact .tail _ (.head _)
 have u:∀ q∈c.tabs,∀ q'∈c.tabs,q'.2.1=q.2.1->q'=q:=by rw[H.tabs];exact λq hq=>tab_one hq
 rcases Qv.mp h with h|h
 · rcases Qv.mp h with h|h
   · rcases Qv.mp h with h|h
     · obtain rfl:a=314:=bqM h
       obtain rfl:e_read_primary=e:=soI ((show (pk0 (sa,ns)).fns.lookup 314=some e_read_primary from rfl).symm.trans he);refine P5 (i:=0) (by rw[H.K];exact lam0 _ _ _) (by rw[H.K];exact cd0 _ _ _) (by rw[H.lam];rfl) m0 (u _ m0)
     · obtain rfl:a=483:=bqM h
       obtain rfl:e_statement_at=e:=soI ((show (pk0 (sa,ns)).fns.lookup 483=some e_statement_at from rfl).symm.trans he);refine P5 (i:=1) (by rw[H.K];exact lam1 _ _ _) (by rw[H.K];exact cd1 _ _ _) (by rw[H.lam];rfl) m1 (u _ m1)
   · exact absurd (bqM h) h876
 · have h:(obY c.K a e).isEmpty=true:=h
   rw[Qx.mp h];exact λo ho=>nomatch ho
theorem lamsT (H:IsC c sa so):∀ o∈obTr c.K,LamIs c (ceOf (recOf c.K 876 e_L_read) 876) o:=by
 have m2:(875,873,2,(ob2 c.K).pos)∈c.tabs:=by rw[H.tabs];exact .tail _ (.tail _ (.head _))
 have u:∀ q∈c.tabs,∀ q'∈c.tabs,q'.2.1=q.2.1->q'=q:=by rw[H.tabs];exact λq hq=>tab_one hq
 exact P5 (i:=2) (by rw[H.K];exact lam2 _ _ _) (by rw[H.K];exact cd2 _ _ _) (by rw[H.lam];rfl) m2 (u _ m2)
theorem GN {r:FnRec}{fa:Addr}{f:Fm}(hr:isRefA r.cdv=true)(h1:f.cs=r.scope)(h2:f.xs=r.xs)(h3:f.ys=r.ys)(h4:f.comp=none)(h5:f.env=envX r.qual r.scope f.L fa r.cdv f.cl):(ceOf r fa).fits f:=by
 refine⟨h1,h2,h3,by rw[h5];rfl,λZ=>h4,λt ht=>?_⟩
 cases ht
 dsimp only
 rw[h1,h5]
 cases hc:r.cdv with
 |ref a=>rfl
 |_=>rw[hc] at hr;exact nof hr
theorem body_of (H:IsC c sa so)(P:PkOk c (pk0 (sa,ns))){a:Addr}{e:Ent}(he:(pk0 (sa,ns)).fns.lookup a=some e)(h876:a≠876){n:Nat}{C:CallF}(hC:CallOK c n C) :
  SBall c n (recOf c.K a e) a (evS ⟨pk0 (sa,ns),C,1000,(pk0 (sa,ns)).exc⟩ e.body):=by
 have hr:=(Hv H.K (Jw he)).2.2.2
 intro f h1 h2 h3 h4 h5
 have hb:=alT (bodies c.w.params sa so (sa,ns)) (a,e) (Jw he)
 rw[← H.K] at hb
 rcases Qv.mp hb with hb|hb
 · exact absurd (bqM hb) h876
 · exact(N6 (pc:=⟨pk0 (sa,ns),C,1000,(pk0 (sa,ns)).exc⟩) P (geOk H.K) hC e.body).b (ceOf (recOf c.K a e) a) f _ (GN hr h1 h2 h3 h4 h5) rfl hb (lams_of H he h876)
end
end
section
open PySem.SeqAt
section
variable (P:Params)(sa:Addr)(so:Obj)(sc:ScT)
theorem cls_are:([(164,154),(664,510)].all λq:Addr×Addr=>keepIn (kq P sa so) (.ref q.1)&&makesIn (kq P sa so) q.1&&isFn (kq P sa so) (.ref q.2))=true:=by kernel_rfl
theorem cls_find:[(164,154),(664,510)].map (λq:Addr×Addr=>findIn (kq P sa so) (.ref q.1) "__init__")=[(164,154),(664,510)].map λq:Addr×Addr=>some (some (.ref q.2)):=by kernel_rfl
def lrec (i:Nat)(K:Frag):LamRec:=match i with
 |0=>lamR (recOf K 314 e_read_primary).qual (ob0 K)
 |1=>lamR (recOf K 483 e_statement_at).qual (ob1' K)
 |_=>lamR (recOf K 876 e_L_read).qual (ob2 K)
def lps (i:Nat)(K:Frag):List Str:=(lrec i K).params.args.map (·.arg)
noncomputable def lamShape (K:Frag) (r:LamRec) (ps:List Str):Bool:=
 decide (ps.length=1)&&ps.all (λx=>r.scope.names.lookup x==some .local)&&r.scope.names.all (λx=>x.2 != .cell)&&(r.scope.kind==.function&&!r.scope.isGenerator&&!r.scope.isCoroutine)
def lbody (i:Nat):X:=match i with
 |0=>l_0
 |1=>l_1
 |_=>l_2
theorem Wv:([0,1,2].all λi=>lamShape (kq P sa so) (lrec i (kq P sa so)) (lps i (kq P sa so))&&chX (geOf (kq P sa so)) ⟨(lrec i (kq P sa so)).scope,lps i (kq P sa so),(lrec i (kq P sa so)).names,false,none⟩ (lbody i) (lrec i (kq P sa so)).body)=true:=by kernel_rfl
theorem lam_binds (v:Value)(cl:List (Str×Addr))(pm ctv:Value)(c' : Addr):[0,1,2].map (λi=>bindArgs (kla_fn "<lambda>" (lrec i (kq P sa so)).qual (lrec i (kq P sa so)).params (lrec i (kq P sa so)).body (lrec i (kq P sa so)).scope cl pm (.ref c') ctv) ⟨[v],[]⟩) =
  [0,1,2].map λi=>pure ((lps i (kq P sa so)).zip [v]):=by kernel_rfl
end
section
variable {c:Cx}{sa:Addr}{so:Obj}{ns:List Int}
theorem lamAt_of (H:IsC c sa so){i:Nat}(hi:i∈[0,1,2]):LamAt (lrec i c.K) (lps i c.K)∧(lps i c.K).length=1:=by
 have h:=alT (Wv c.w.params sa so) i hi
 rw[← H.K] at h
 obtain⟨h,_⟩:=and2 h
 refine xe04 (and4 h) λh1 h2 h3 h4=>?_
 refine xe03 (and3 h4) λk1 k2 k3=>?_
 have hl:=of_decide_eq_true h1
 refine⟨{ bind:=λvs cl pm ctv c' hv=>?_
          loc:=λx hx=>bqM (alT h2 x hx)
          nodup:=?_
          cell:=λx hx=>bne_iff_ne.mp (alT h3 x hx)
          kind:=bqM k1,gen:=V6 k2,co:=V6 k3 },hl⟩
 · rw[hl] at hv
   obtain⟨v,rfl⟩:=List.length_eq_one_iff.mp hv;rw[H.K]
   exact Jv.mp (lam_binds c.w.params sa so v cl pm ctv c') i hi
 · obtain⟨x,ex⟩:=List.length_eq_one_iff.mp hl
   rw[ex];exact J6.mpr ⟨Uz,List.nodup_nil⟩
theorem lamBody_of (H:IsC c sa so)(P:PkOk c (pk0 (sa,ns))){i:Nat}(hi:i∈[0,1,2]){n:Nat}{C:CallF}(hC:CallOK c n C):SEall c n (lrec i c.K) (lps i c.K) (ev ⟨pk0 (sa,ns),C,1000,(pk0 (sa,ns)).exc⟩ (lbody i)):=by
 have h:=alT (Wv c.w.params sa so) i hi
 rw[← H.K] at h
 obtain⟨_,h⟩:=and2 h
 intro f h1 h2 h3 h4 h5
 exact((UK (pc:=⟨pk0 (sa,ns),C,1000,(pk0 (sa,ns)).exc⟩) P (geOk H.K) hC (lbody i)).e _ f _ ⟨h1,h2,h3,h5,λZ=>h4,λt e=>nos e⟩ h).1
theorem txtOk (H:IsC c sa so)(P:PkOk c (pk0 (sa,ns)))(hLR:∀ n C,CallOK c n C->SBall c n (recOf c.K 876 e_L_read) 876 (evS ⟨pk0 (sa,ns),C,1000,(pk0 (sa,ns)).exc⟩ e_L_read.body)):TxtOk c (pk0 (sa,ns)) where
 fn:=λa e he=>by
  refine xe04 (Hv H.K (Jw he)) λh1 h2 h3 Z=>?_
  refine⟨_,h1,h2,h3,λn C hC=>?_⟩
  by_cases h876:a=876
  · subst h876
    obtain rfl:e_L_read=e:=soI ((show (pk0 (sa,ns)).fns.lookup 876=some e_L_read from rfl).symm.trans he);exact hLR n C hC
  · exact body_of H P he h876 hC
 cls:=λa e he=>by
  have hm:=Jw (show (pk0 (sa,ns)).clss.lookup a=some e from he);have go:∀ fI,(a,fI)∈[((164:Addr),(154:Addr)),(664,510)]->(pk0 (sa,ns)).fns.lookup fI=some e->fI≠876->_:=λfI hf hl hne=>by
   have k1:=alT (cls_are c.w.params sa so) (a,fI) hf;have k2:=Jv.mp (cls_find c.w.params sa so) (a,fI) hf
   rw[← H.K] at k1 k2;refine xe03 (and3 k1) λg1 g2 g3=>?_
   refine xe04 (Hv H.K (Jw hl)) λh1 Z h3 Z=>?_
   exact(⟨fI,_,h1,g1,g2,k2,g3,h3,λn C hC=>body_of H P hl hne hC⟩:ClsIs c (pk0 (sa,ns)) a e)
  rcases mcM hm with q|hm
  · cases q;exact go 154 (.head _) rfl (by decide)
  · rcases mcM hm with q|hm
    · cases q;exact go 510 (.tail _ (.head _)) rfl (by decide)
    · cases hm
 lam:=λi x hx=>by
  have hm:=Jw (show (pk0 (sa,ns)).lams.lookup i=some x from hx);have go:i∈[0,1,2]->lbody i=x->c.lam i=some (lrec i c.K)->_:=λhi e hl=>by
   obtain⟨h1,h2⟩:=lamAt_of H hi;exact(⟨_,_,hl,h1,h2,λn C hC=>e▸lamBody_of H P hi hC⟩:LmIs c (pk0 (sa,ns)) i x)
  rcases mcM hm with q|hm
  · cases q;exact go (.head _) rfl (by rw[H.lam];rfl)
  · rcases mcM hm with q|hm
    · cases q;exact go (.tail _ (.head _)) rfl (by rw[H.lam];rfl)
    · rcases mcM hm with q|hm
      · cases q;exact go (.tail _ (.tail _ (.head _))) rfl (by rw[H.lam];rfl)
      · cases hm
end
end
section
open PySem.SeqAt
noncomputable def asTry:(s:Stmt)->Option {t:List Stmt×ExceptHandler×List ExceptHandler×Pos // s = .Try t.1 (t.2.1::t.2.2.1) [] [] t.2.2.2}
 | .Try b (h::hs) [] [] p=>some ⟨(b,h,hs,p),rfl⟩
 |_=>none
noncomputable def asRow3:(l:List Stmt)->Option {t:Stmt×Stmt×Stmt×List Stmt // l=t.1::t.2.1::t.2.2.1::t.2.2.2}
 |a::b::c::r=>some ⟨(a,b,c,r),rfl⟩
 |_=>none
noncomputable def comp3 (E:Ce) (scope:Scope) (x y z:Str):Bool:=compOk E scope x []&&scope.names.lookup y==some .local&&scope.names.lookup z==some .local&&decide [x,y,z].Nodup
def Ce.inner3 (E:Ce)(scope:Scope)(x y z:Str):Ce:=⟨relabelS scope E.cs,[x,y,z],freeNames scope,true,none⟩
noncomputable def elX:X:=.call (.val (.glob (.ref 164))) (.cons (.loc 1) (.cons (.loc 2) (.cons (.tup (.cons (.bin .Add (.loc 0) (.val (.int 1))) (.cons (.val (.int 12)) .nil))) .nil)))
def chToks (g:Ge)(E:Ce)(e:PE):Bool:=onv (asComp e) λw=>onv (asTup w.2.1) λt0=>onv (asTwo t0.1) λab=>onv (asName ab.1) λx0=>onv (asTup ab.2) λt1=>onv (asTwo t1.1) λcd=>onv (asName cd.1) λx1=>onv (asName cd.2) λx2=>
 onv (asCall w.2.2.1) λit=>onv (asName it.1) λen=>onv (asOne it.2.1) λrow=>
  (isGl E en.1&&nameG g (.glob (.type "enumerate")) en.1&&chX g E (.loc 2) row&&notStar row)&&(w.2.2.2.1.isEmpty&&comp3 E w.2.2.2.2.1 x0.1 x1.1 x2.1&&chX g (E.inner3 w.2.2.2.2.1 x0.1 x1.1 x2.1) elX w.1)
def rd1:Y:=match b_L_read with
 | .cons y _=>y
 |_=>.nil
def rdRest:Y:=match b_L_read with
 | .cons _ (.cons _ (.cons _ y))=>y
 |_=>.nil
def rdOk (g:Ge)(E:Ce)(b:List Stmt):Bool:=onv (asRow3 b) λs=>onv (asAsg s.2.1) λv=>onv (asName v.1) λy=>onv (asCall v.2.1) λu=>onv (asOne u.2.1) λlc=>onv (asTry s.2.2.1) λt=>
 (ch1 g E rd1 s.1&&isLc E 3 y.1&&chX g E (.val (.glob (.ref 664))) u.1&&notAttr u.1)&&(chToks g E lc&&notStar lc&&chS g E tryY t.1&&chS g E rdRest s.2.2.2)&&((ob1 rd1 s.1).isEmpty&&(obS rdRest s.2.2.2).isEmpty)
section
variable {c:Cx}{d:Nat}{f:Fm}
theorem ss_try {body:List Stmt}{h:ExceptHandler}{hs:List ExceptHandler}{pos:Pos}{M:MdS}(hb:SB c d f body M):SS c d f (.Try body (h::hs) [] [] pos) M:=by
 intro A W s σ en x en' σ' m N E ok S q
 refine wpAny_Try_except (Qz (hb A W s σ en x en' σ' m N _ ok S q) (λfl s₁ p=>?_) λZ Z x=>x)
 cases fl<;>first|exact NV p|exact p
theorem Ce.fits.inner3 {E:Ce}{f f' : Fm}{scope:Scope}{x y z:Str}(hf:E.fits f)(h1:f'.cs=relabel scope f.env)(h2:f'.xs=[x,y,z])(h3:f'.ys=freeNames scope)(h4:f'.env.scope=relabel scope f.env):(E.inner3 scope x y z).fits f' := by
 have e:relabel scope f.env=relabelS scope E.cs:=by
  show relabelS scope f.env.scope=_;rw[hf.2.2.2.1]
 exact⟨h1.trans e,h2,h3,h4.trans e,λh=>(nomatch h),λZ h=>(nomatch h)⟩
variable {pc:Pc}{g:Ge}(P:PkOk c pc.p)(Go:GeOk c g)(hC:CallOK c d pc.C)
include P Go hC in
theorem chToks_ok {E:Ce}{f:Fm}{e:PE}(hf:E.fits f)(h0:chToks g E e=true):SE c d f e (ev pc (.toks 164 12 (.loc 2))):=by
 refine QU e h0 λw h=>?_
 let S:PE->PE->Prop:=λtg it=>SE c d f (.ListComp w.1 [⟨tg,it,w.2.2.2.1,0⟩] w.2.2.2.2.1 w.2.2.2.2.2) (ev pc (.toks 164 12 (.loc 2)))
 show S w.2.1 w.2.2.1
 refine QU (C:=λt=>S t w.2.2.1) w.2.1 h λt0 h=>QU (C:=λl=>S (.Tuple l t0.2.1 t0.2.2) w.2.2.1) t0.1 h λab h=>QU (C:=λa=>S (.Tuple [a,ab.2] t0.2.1 t0.2.2) w.2.2.1) ab.1 h λx0 h=>?_
 refine QU (C:=λa=>S (.Tuple [.Name x0.1 x0.2,a] t0.2.1 t0.2.2) w.2.2.1) ab.2 h λt1 h=>QU (C:=λl=>S (.Tuple [.Name x0.1 x0.2,.Tuple l t1.2.1 t1.2.2] t0.2.1 t0.2.2) w.2.2.1) t1.1 h λcd h=>?_
 refine QU (C:=λa=>S (.Tuple [.Name x0.1 x0.2,.Tuple [a,cd.2] t1.2.1 t1.2.2] t0.2.1 t0.2.2) w.2.2.1) cd.1 h λx1 h=>QU (C:=λa=>S (.Tuple [.Name x0.1 x0.2,.Tuple [.Name x1.1 x1.2,a] t1.2.1 t1.2.2] t0.2.1 t0.2.2) w.2.2.1) cd.2 h λx2 h=>?_
 let S' : PE->Prop:=λit=>S (.Tuple [.Name x0.1 x0.2,.Tuple [.Name x1.1 x1.2,.Name x2.1 x2.2] t1.2.1 t1.2.2] t0.2.1 t0.2.2) it
 show S' w.2.2.1
 refine QU (C:=S') w.2.2.1 h λit h=>QU (C:=λx=>S' (.Call x it.2.1 [] it.2.2)) it.1 h λen h=>QU (C:=λl=>S' (.Call (.Name en.1 en.2) l [] it.2.2)) it.2.1 h λrow h=>?_
 have a:=and4 (and2 h).1
 have b:=and3 (and2 h).2
 have k:=and4 b.2.1
 have O:=R5 hf k.1
 show SE c d f (.ListComp w.1 [⟨.Tuple [.Name x0.1 x0.2,.Tuple [.Name x1.1 x1.2,.Name x2.1 x2.2] t1.2.1 t1.2.2] t0.2.1 t0.2.2,.Call (.Name en.1 en.2) [row] [] it.2.2,w.2.2.2.1,0⟩] w.2.2.2.2.1 w.2.2.2.2.2) _
 rw[Qx.mp b.1]
 exact se_toks (Cf:=pc.C) O.hcn O.hcell O.hkind O.hnames O.hx (bqM k.2.1) (bqM k.2.2.1) (of_decide_eq_true k.2.2.2) O.hc (W7 Go hf a.1 a.2.1) rfl ((UK P Go hC (.loc 2)).e E f row hf a.2.2.1).1 a.2.2.2
  (λf' e1 e2 e3 e4=>((UK P Go hC elX).e _ f' w.1 (hf.inner3 e1 e2 e3 e4) b.2.2).1) λcaps j x y σ=>rfl
include P Go hC in
theorem rd_cut {E:Ce}{f:Fm}{b:List Stmt}(hf:E.fits f)(hc:E.comp=false)(h0:rdOk g E b=true){C:List Stmt->Prop}
  (k:∀ (s1 s2:Stmt) (t:List Stmt×ExceptHandler×List ExceptHandler×Pos) (rest:List Stmt),SS c d f s1 (evS pc rd1)->SS c d f s2 (evS pc (.set 3 (.call (.val (.glob (.ref 664))) (.cons (.toks 164 12 (.loc 2)) .nil))))->chS g E tryY t.1=true->SB c d f rest (evS pc rdRest) ->
   C (s1::s2::.Try t.1 (t.2.1::t.2.2.1) [] [] t.2.2.2::rest)):C b:=by
 refine QU b h0 λs h=>?_
 have key:∀ st,onv (asAsg st) (λv=>onv (asName v.1) λy=>onv (asCall v.2.1) λu=>onv (asOne u.2.1) λlc=>onv (asTry s.2.2.1) λt=>
   (ch1 g E rd1 s.1&&isLc E 3 y.1&&chX g E (.val (.glob (.ref 664))) u.1&&notAttr u.1)&&(chToks g E lc&&notStar lc&&chS g E tryY t.1&&chS g E rdRest s.2.2.2)&&((ob1 rd1 s.1).isEmpty&&(obS rdRest s.2.2.2).isEmpty))=true ->
   SS c d f st (evS pc (.set 3 (.call (.val (.glob (.ref 664))) (.cons (.toks 164 12 (.loc 2)) .nil))))∧onv (asTry s.2.2.1) (λt=>ch1 g E rd1 s.1&&chS g E tryY t.1&&chS g E rdRest s.2.2.2&&((ob1 rd1 s.1).isEmpty&&(obS rdRest s.2.2.2).isEmpty))=true:=λst h=>by
  refine QU st h λv h=>QU (C:=λt=>SS c d f (.Assign [t] v.2.1 v.2.2) _∧_) v.1 h λy h=>QU (C:=λe=>SS c d f (.Assign [.Name y.1 y.2] e v.2.2) _∧_) v.2.1 h λu h=>QU (C:=λl=>SS c d f (.Assign [.Name y.1 y.2] (.Call u.1 l [] u.2.2) v.2.2) _∧_) u.2.1 h λlc h=>?_
  refine QU (C:=λs3=>SS c d f (.Assign [.Name y.1 y.2] (.Call u.1 [lc] [] u.2.2) v.2.2) _∧onv (asTry s3) _=true) s.2.2.1 h λt h=>?_
  have a:=and4 (and3 h).1;have b:=and4 (and3 h).2.1
  have l:=G1 hf a.2.1;refine⟨Mj (hf.2.2.2.2.1 hc) (se_call hC ((UK P Go hC _).e E f u.1 hf a.2.2.1).1 (H5 (chToks_ok P Go hC hf b.1) WN b.2.1) (by rw[JX,b.2.1];rfl) a.2.2.2) l.1 l.2 rfl,?_⟩
  show (ch1 g E rd1 s.1&&chS g E tryY t.1&&chS g E rdRest s.2.2.2&&((ob1 rd1 s.1).isEmpty&&(obS rdRest s.2.2.2).isEmpty))=true;rw[a.1,b.2.2.1,b.2.2.2,(and3 h).2.2];rfl
 obtain⟨q2,h⟩:=key s.2.1 h
 refine QU (C:=λs3=>C (s.1::s.2.1::s3::s.2.2.2)) s.2.2.1 h λt h=>?_
 have a:=and4 h
 have o:=and2 a.2.2.2
 exact k s.1 s.2.1 t s.2.2.2 ((N6 P Go hC rd1).s E f s.1 hf hc a.1 (by rw[Qx.mp o.1];exact λo ho=>nomatch ho)) q2 a.2.1 ((N6 P Go hC rdRest).b E f s.2.2.2 hf hc a.2.2.1 (by rw[Qx.mp o.2];exact λo ho=>nomatch ho))
include P Go hC in
theorem rd_ok {E:Ce}{f:Fm}{b:List Stmt}(hf:E.fits f)(hc:E.comp=false)(h0:rdOk g E b=true)(hl:∀ o∈obS tryY (tryS b),LamIs c E o):SB c d f b (evS pc b_L_read):=
 rd_cut P Go hC hf hc h0 (C:=λb=>(∀ o∈obS tryY (tryS b),LamIs c E o)->SB c d f b (evS pc b_L_read)) (λs1 s2 t rest q1 q2 h3 q4 hl=>M2 q1 (M2 q2 (M2 (ss_try (M:=evS pc tryY) ((N6 P Go hC tryY).b E f t.1 hf hc h3 hl)) q4))) hl
end
theorem read_is (P:Params)(sa:Addr)(so:Obj):rdOk (geOf (kq P sa so)) (ceOf (recOf (kq P sa so) 876 e_L_read) 876) (recOf (kq P sa so) 876 e_L_read).body=true:=by kernel_rfl
theorem read_all {c:Cx}{sa:Addr}{so:Obj}{ns:List Int}(H:IsC c sa so)(P:PkOk c (pk0 (sa,ns))){n:Nat}{C:CallF}(hC:CallOK c n C) :
  SBall c n (recOf c.K 876 e_L_read) 876 (evS ⟨pk0 (sa,ns),C,1000,(pk0 (sa,ns)).exc⟩ e_L_read.body):=by
 have hr:=(Hv H.K (Jw (show (pk0 (sa,ns)).fns.lookup 876=some e_L_read from rfl))).2.2.2
 intro f h1 h2 h3 h4 h5
 have h:=read_is c.w.params sa so
 rw[← H.K] at h
 exact rd_ok (pc:=⟨pk0 (sa,ns),C,1000,(pk0 (sa,ns)).exc⟩) P (geOk H.K) hC (GN hr h1 h2 h3 h4 h5) rfl h (lamsT H)
end
section
set_option pp.maxSteps 1500
theorem kk_is (P:Params):kk P=kkg P sReserved:=congrArg (kkg P) KG
def LawPure (sc:ScT):Prop := ∃ en σ,evS (pc sc 230) b_law ⟨some (.glob (.ref sc.1))::QK 12 none,[]⟩ []=some (.ret (.bool true),en,σ)
theorem kq_in {P:Params}{sa:Addr}{so:Obj}{h:Heap}(X:(kkg P sReserved).In h)(hs:h.get? sa=some so):(kq P sa so).In h:=λa o e=>by
 unfold kq at e
 rw[K7] at e
 cases q:(kkg P sReserved).lookup a with
 |some o'=>rw[q] at e;cases e;exact X _ _ q
 |none=>
  rw[q] at e;have e:List.lookup a [(sa,so)]=some o:=e
  rw[V4] at e
  cases qa:(a==sa) with
  |true=>rw[qa] at e;cases e;rw[eq_of_beq qa];exact hs
  |false=>rw[qa] at e;exact nos e
theorem kq_script {P:Params}{sa:Addr}{so:Obj}{h:Heap}(X:(kq P sa so).In h)(hs:h.get? sa=some so):(kq P sa so).lookup sa=some so:=by
 unfold kq
 rw[K7]
 cases q:(kkg P sReserved).lookup sa with
 |some o=>
  have:=X sa o (by unfold kq;rw[K7,q];rfl);rw[hs] at this
  cases this;rfl
 |none=>show List.lookup sa [(sa,so)]=some so;rw[V4,beq_self_eq_true]
noncomputable def listY:Y->List Y
 | .cons s r=>s::listY r
 |_=>[]
noncomputable def lawSt (r:FnRec):Stmt:=match r.body.drop 8 with
 |st::_=>st
 | []=>.Pass ⟨0,0,0,0⟩
def lawPre:List Y:=(listY b_law).take 8
def lawPost:Y:=match b_law with
 | .cons _ (.cons _ (.cons _ (.cons _ (.cons _ (.cons _ (.cons _ (.cons _ (.cons _ y))))))))=>y
 |_=>.nil
section
variable (P:Params)(sa:Addr)(so:Obj)
def lawR:FnRec:=recOf (kq P sa so) 890 e_law
theorem law_ref:isRefA (lawR P sa so).cdv=true:=by kernel_rfl
theorem law_pre:all2 (ch1 (geOf (kq P sa so)) (ceOf (lawR P sa so) 890)) lawPre ((lawR P sa so).body.take 8)=true:=by kernel_rfl
theorem law_post:chS (geOf (kq P sa so)) (ceOf (lawR P sa so) 890) lawPost ((lawR P sa so).body.drop 9)=true:=by kernel_rfl
theorem law_opre:all2 (λy s=>(ob1 y s).isEmpty) lawPre ((lawR P sa so).body.take 8)=true:=by kernel_rfl
theorem law_opost:(obS lawPost ((lawR P sa so).body.drop 9)).isEmpty=true:=by kernel_rfl
theorem law_body:(lawR P sa so).body=(lawR P sa so).body.take 8++lawSt (lawR P sa so)::(lawR P sa so).body.drop 9:=by kernel_rfl
theorem law_look:(kq P sa so).lookup 890=some ⟨.type "function",none,.func (lawR P sa so).data,#[]⟩:=by kernel_rfl
theorem law_xs:(lawR P sa so).xs.length=13:=by kernel_rfl
theorem law_x0:((lawR P sa so).xs[0]? : Option Str)=some ("script" : Str):=by kernel_rfl
theorem law_ys:(lawR P sa so).ys=[]:=by kernel_rfl
theorem law_nd:decide (lawR P sa so).xs.Nodup=true:=by kernel_rfl
theorem law_k:(lawR P sa so).scope.kind = .function:=by kernel_rfl
end
noncomputable abbrev lawF (r:FnRec) (g:Heap) (L:Addr):Fm:={ AZ:=callerA,base:=g,h₀:=g,outer:=[],L:=L,cs:=r.scope,cl:=[],xs:=r.xs,ys:=r.ys,pin:=[],env:=envX r.qual r.scope L 890 r.cdv [],fr:=envX r.qual r.scope L 890 r.cdv [],comp:=none,oxs:=[],oloc:=[] }
def ExcOk:Prop := ∀ (c:Cx) (sa:Addr) (so:Obj) (ns:List Int),IsC c sa so->PkOk c (pk0 (sa,ns))->TxtOk c (pk0 (sa,ns))->∀ (g:Heap) (L:Addr),SS c 230 (lawF (lawR c.w.params sa so) g L) (lawSt (lawR c.w.params sa so)) (evS ⟨pk0 (sa,ns),callN (pk0 (sa,ns)) 230,1000,(pk0 (sa,ns)).exc⟩ .exc)
theorem sb_hole {c:Cx}{d:Nat}{pc:Pc}{g:Ge}(P:PkOk c pc.p)(Go:GeOk c g)(hC:CallOK c d pc.C){E:Ce}{f:Fm}(hf:E.fits f)(hc:E.comp=false){rest:List Stmt}{M:MdS}(hr:SB c d f rest M) :
  ∀ (ys:List Y) (ss:List Stmt),all2 (ch1 g E) ys ss=true->all2 (λy s=>(ob1 y s).isEmpty) ys ss=true->SB c d f (ss++rest) (ys.foldr (λy M=>seqM (evS pc y) M) M)
 | [],[],_,_=>hr
 | [],_::_,q,_=>nof q
 |_::_,[],q,_=>nof q
 |y::ys,s::ss,q,q'=>by
  obtain⟨h1,h2⟩:=and2 q;obtain⟨k1,k2⟩:=and2 q'
  exact M2 ((N6 P Go hC y).s E f s hf hc h1 (by rw[Qx.mp k1];exact λo ho=>nomatch ho)) (sb_hole P Go hC hf hc hr ys ss h2 k2)
theorem ev_law {e:Pc}:evS e b_law=lawPre.foldr (λy M=>seqM (evS e y) M) (seqM (evS e .exc) (evS e lawPost)):=by rfl
theorem law_sb (hX:ExcOk){c:Cx}{sa:Addr}{so:Obj}{ns:List Int}(H:IsC c sa so)(P:PkOk c (pk0 (sa,ns)))(TX:TxtOk c (pk0 (sa,ns)))(g:Heap)(L:Addr) :
  SB c 230 (lawF (lawR c.w.params sa so) g L) (lawR c.w.params sa so).body (evS ⟨pk0 (sa,ns),callN (pk0 (sa,ns)) 230,1000,(pk0 (sa,ns)).exc⟩ b_law):=by
 have hX1:=hX c sa so ns H P TX g L
 have hf:(ceOf (lawR c.w.params sa so) 890).fits (lawF (lawR c.w.params sa so) g L):=GN (law_ref _ _ _) rfl rfl rfl rfl rfl
 have Go:GeOk c (geOf (kq c.w.params sa so)):=H.K▸geOk H.K
 have hC:=U7 TX 230
 have k1:=law_pre c.w.params sa so
 have k2:=law_opre c.w.params sa so
 have k3:=law_post c.w.params sa so
 have k4:=law_opost c.w.params sa so
 have k5:=law_body c.w.params sa so
 generalize lawR c.w.params sa so=r at *
 generalize hC230:callN (pk0 (sa,ns)) 230=C at *
 have P' : PkOk c (Pc.p ⟨pk0 (sa,ns),C,1000,(pk0 (sa,ns)).exc⟩):=P
 have hC' : CallOK c 230 (Pc.C ⟨pk0 (sa,ns),C,1000,(pk0 (sa,ns)).exc⟩):=hC
 generalize (⟨pk0 (sa,ns),C,1000,(pk0 (sa,ns)).exc⟩:Pc)=pc at *
 have h1:SB c 230 (lawF r g L) (r.body.drop 9) (evS pc lawPost):=(N6 P' Go hC' lawPost).b _ _ _ hf rfl k3 (by rw[Qx.mp k4];exact λo ho=>nomatch ho)
 have h2:=sb_hole P' Go hC' hf rfl (M2 hX1 h1) lawPre _ k1 k2
 rw[← k5] at h2
 rw[ev_law]
 exact h2
set_option maxHeartbeats 0 in
theorem law_run (hX:ExcOk)(hP:∀ sc:ScT,sc.2.length≤63->LawPure sc){prog:Program}{w:World}{p:Program}{loose:List Str}{mean:ExcName->Option Value}{mg mb:Str->Option Value}{g:Heap}{L:Addr}{m:Str->Option Value}{sa:Addr}{so:Obj}{ns:List Int}{s:Shared}
  (X:(kq w.params sa so).In g) (T:Top p loose mean mg mb g) (B:Below callerA g [] g) (F:Fr g L s.heap m) (N:News g L s.heap ([]++tabNews [(313,309),(482,478),(875,873)])) (C:CodeAll [(313,309),(482,478),(875,873)] g)
  (hs:∃ (vs:List Value) (n:Nat),so.cls = .type "list"∧so.data = .seq vs.toArray n∧IntsAre vs ns) (hso:g.get? sa=some so) (hl:ns.length≤63) (hm:m "script"=some (.ref sa)) (ht:0<s.toks)
  {Q:Flow->Shared->Prop} {E:Value->Shared->Prop} (hQ:∀ (s' : Shared) (m' : Str->Option Value),Fr g L s'.heap m'->s'.gens=s.gens->s'.os=s.os->GrownAll [(313,309),(482,478),(875,873)] s'.heap->Q (.ret (.bool true)) s') :
  wpAny (model prog w) (callerA.deeper (envX (lawR w.params sa so).qual (lawR w.params sa so).scope L 890 (lawR w.params sa so).cdv [])) (execs (lawR w.params sa so).body (envX (lawR w.params sa so).qual (lawR w.params sa so).scope L 890 (lawR w.params sa so).cdv [])) Q E s:=by
 let c:Cx:=⟨prog,w,kq w.params sa so,p,loose,mean,mg,mb,lamQ (kq w.params sa so),tabsQ (kq w.params sa so),s.gens,s.drawn,s.os⟩
 have H:IsC c sa so:=⟨rfl,rfl,rfl⟩
 have P:PkOk c (pk0 (sa,ns)):=pkOk rfl hs (kq_script X hso)
 have TX:TxtOk c (pk0 (sa,ns)):=txtOk H P λn C hC=>read_all H P hC
 let r:=lawR w.params sa so
 let f:Fm:={ AZ:=callerA,base:=g,h₀:=g,outer:=[],L:=L,cs:=r.scope,cl:=[],xs:=r.xs,ys:=r.ys,pin:=[],env:=envX r.qual r.scope L 890 r.cdv [],fr:=envX r.qual r.scope L 890 r.cdv [],comp:=none,oxs:=[],oloc:=[] }
 have hb:SB c 230 f r.body (evS ⟨pk0 (sa,ns),callN (pk0 (sa,ns)) 230,1000,(pk0 (sa,ns)).exc⟩ b_law):=law_sb hX H P TX g L
 have ok:f.Ok c (callerA.deeper f.env) 230:={
  B:=B,X:=X,T:=T
  codes:=λq hq=>by
   refine xe04 C λC1 C2 C3 Z=>?_
   have hq:q∈tabsQ (kq w.params sa so):=hq;unfold tabsQ at hq
   simp only[U8,Uz,or_false] at hq;rcases hq with rfl|rfl|rfl
   · exact C1
   · exact C2
   · exact C3
  frames:=rfl,frf:=rfl,frk:=law_k w.params sa so,sc:=rfl,cls:=rfl,glo:=rfl,blt:=rfl,loc:=rfl
  cmp:=λZ h=>nos h
  handled:=rfl
  depth:=by show callerA.depth+1+3 * 230+3<recursionLimit;decide
  units:=by show callerA.units+3+30 * 230+60<cLine;decide
  kind:=law_k w.params sa so
  nodup:=of_decide_eq_true (law_nd w.params sa so)
  onil:=λZ=>⟨rfl,rfl⟩ }
 have fa:Facts c [] ⟨[],[]⟩ [] ([]++tabNews [(313,309),(482,478),(875,873)]):={
  len:=rfl
  own:=λi ao e=>by simp at e
  tl:=λZ h=>nomatch h
  pn:=λZ h=>nomatch h
  inj:=λi j a e=>by simp at e
  dis:=λZ h=>nomatch h
  disp:=λZ h=>nomatch h
  tab:=λq hq=>by
   have hq:q∈tabsQ (kq w.params sa so):=hq;unfold tabsQ at hq
   simp only[U8,Uz,or_false] at hq;refine⟨#[],?_,.none⟩
   rcases hq with rfl|rfl|rfl
   · exact .head _
   · exact .tail _ (.head _)
   · exact .tail _ (.tail _ (.head _))
  tabρ:=λZ Z i=>by simp
  tabt:=λZ Z Z h=>nomatch h
  tabp:=λZ Z Z h=>nomatch h
  tlp:=λZ h=>nomatch h
  pnd:=List.nodup_nil }
 have S:St c f ⟨[],[]⟩ [] ⟨some (.glob (.ref sa))::QK 12 none,[]⟩ s m ([]++tabNews [(313,309),(482,478),(875,873)]):={
  F:=F,nw:=N,fa:=fa
  env:=⟨by show _=r.xs.length;rw[show r.xs.length=13 from law_xs w.params sa so];rfl,λi x a e1 e2=>by
   cases i with
   |zero=>
    have e1:r.xs[0]? = some x:=e1;rw[show r.xs[0]? = some ("script" : Str) from law_x0 w.params sa so] at e1
    cases e1;cases e2
    exact⟨_,hm,.glob _⟩
   |succ i=>
    have:=HX (show (QK 12 (none:Option AV))[i]? = some (some a) from e2);rw[List.mem_replicate] at this
    first|exact nos this.2|exact nof this.2|cases this.2⟩
  cel:=by show RelC c.lam _ r.ys [] [];rw[show r.ys=[] from law_ys w.params sa so];exact .nil
  gens:=rfl,drawn:=rfl,os:=rfl,pos:=ht
  oenv:=.empty }
 refine xe21 (hP (sa,ns) hl) λen σ q=>?_
 refine post (hb (callerA.deeper f.env) ⟨[],[]⟩ s [] _ (.ret (.bool true)) en σ m _ E ok S q) λfl s' W' m' N' w' S' r'=>?_
 cases r' with
 |ret r' =>
  cases r'
  refine hQ s' m' S'.F S'.gens S'.os ⟨?_,?_,?_,trivial⟩
  · obtain⟨ps,h1,_⟩:=S'.fa.tab (313,309,0,(ob0 (kq w.params sa so)).pos) (.head _)
    exact⟨ps,(S'.nw _ h1).1⟩
  · obtain⟨ps,h1,_⟩:=S'.fa.tab (482,478,1,(ob1' (kq w.params sa so)).pos) (.tail _ (.head _))
    exact⟨ps,(S'.nw _ h1).1⟩
  · obtain⟨ps,h1,_⟩:=S'.fa.tab (875,873,2,(ob2 (kq w.params sa so)).pos) (.tail _ (.tail _ (.head _)))
    exact⟨ps,(S'.nw _ h1).1⟩
theorem law_holds (hX:ExcOk)(hP:∀ sc:ScT,sc.2.length≤63->LawPure sc):PySem.Challenge.rw_pq0644_01.Holds:=hd (by
 intro w sZ s₁ mg mb G Y fa o pm cd doc dV kV ho hd hcd hD hmg hg args vals as hpre hlay hrd hwl hlo
 have KX:=km_in_of Y
 have hT8:=km_tabs_of Y
 refine Ground.open G ?_
 intro T B D TE TW
 have hT9:TabsAt [(313,309),(482,478),(875,873)] s₁.heap:=RN.mpr ⟨⟨codeHd_of_K KX (by kernel_rfl),hT8 309 (by k_mem)⟩,RN.mpr ⟨⟨codeHd_of_K KX (by kernel_rfl),hT8 478 (by k_mem)⟩,RN.mpr ⟨⟨codeHd_of_K KX (by kernel_rfl),hT8 873 (by k_mem)⟩,λZ h=>nomatch h⟩⟩⟩
 have hd2:=hd
 wrow_args hpre hlay hrd hwl hlo
 all_goals (
  refine enter_call ?_
  w_top on
  refine kn_post hT9 (λZ Z=>rfl) ?_
  w_call any ho hd hcd hD T F
  clear hd)
 rename_i ns _ _ _ _ _ _ _ sa items _ hL _ _ _ hI _ hlen _ h₁ N0
 have e890:fa=890:=by
  have:=hmg.symm.trans (mg_of KX T.g (by kernel_rfl:nsIn (kk w.params) mainGlobals lawD.fst.name=some (some (.ref 890))));injection this with this
  injection this
 subst e890
 have X0:=ghost_K hT9 KX (by kernel_rfl)
 have T0:=ghost_top hT9 T
 have K0:=ghost_below hT9
 have N1:=ghost_news hT9 F N0
 have F1:=ghost_fr hT9 F
 have C0:=ghost_code hT9
 obtain⟨so,hso,hsc,n,hsd⟩:=ghost_list hT9 hL
 have XQ:(kq w.params sa so).In (ghostOf s₁.heap [(313,309),(482,478),(875,873)]):=kq_in (kk_is w.params▸X0) hso
 have e:=of_hideAll _ (XQ _ _ (law_look w.params sa so))
 rw[ho] at e
 rw[soI e] at hd2
 have hfd:=Data.func.inj hd2
 have e1:(lawR w.params sa so).scope=lawD.fst.scope:=congrArg FuncData.scope hfd
 have e2:(lawR w.params sa so).qual=lawD.fst.name:=congrArg FuncData.qualname hfd
 have e3:(lawR w.params sa so).body=lawD.fst.body:=FuncBody.stmts.inj (congrArg FuncData.body hfd)
 have e4:(lawR w.params sa so).cdv=cd:=congrArg FuncData.code hfd
 rw[← e1,← e2,← e3,← e4]
 refine law_run hX hP XQ T0 K0 F1 N1 C0 ⟨items,n,hsc,hsd,hI⟩ hso (Int.ofNat_le.mp (Int.not_lt.mp hlen)) (by first|rfl|simp) (Qq _) λs' m' F' hg' ho' hG=>⟨?_,hG⟩
 exact goodW_bool F' (hg'.trans hg) (raisesW_false λZ h=>nomatch h) (postW_of (X:=true) rfl ((w_eq_bool (w_res rfl) w_lit).trans rfl) rfl) ho')
end
section
open PySem.SeqAt
theorem onLs {γ:Type}{o:Option AO}{l:List AV}{f:List AV->Option γ}{r:Option γ}(h:o=some (.list l))(k:f l=r):onList o f=r:=by subst h;exact k
theorem on1s {α γ:Type}{o:Option α}{a:α}{f:α->Option γ}{r:Option γ}(h:o=some a)(k:f a=r):on1 o f=r:=by subst h;exact k
theorem onNn {α γ:Type}{o:Option (Option α)}{x r:Option γ}{f:α->Option γ}(h:o=some none)(k:x=r):onN o x f=r:=by subst h;exact k
theorem onNv {α γ:Type}{o:Option (Option α)}{a:α}{x r:Option γ}{f:α->Option γ}(h:o=some (some a))(k:f a=r):onN o x f=r:=by subst h;exact k
theorem on2s {α β γ:Type}{o:Option (α×β)}{a:α}{b:β}{f:α->β->Option γ}{r:Option γ}(h:o=some (a,b))(k:f a b=r):on2 o f=r:=by subst h;exact k
theorem on3s {α β δ γ:Type}{o:Option (α×β×δ)}{a:α}{b:β}{d:δ}{f:α->β->δ->Option γ}{r:Option γ}(h:o=some (a,b,d))(k:f a b d=r):on3 o f=r:=by subst h;exact k
section
variable {τ l:Store}
theorem onIs {γ:Type}{o:Option AO}{C:Addr}{d:Nat}{f:Addr->Nat->Option γ}{r:Option γ}(h:o=some (.inst C d))(k:f C d=r):onInst o f=r:=by subst h;exact k
theorem onDs {γ:Type}{o:Option AO}{es:List (Str×AV)}{f:List (Str×AV)->Option γ}{r:Option γ}(h:o=some (.dict es))(k:f es=r):onDict o f=r:=by subst h;exact k
theorem onILs {γ:Type}{o:Option AO}{C:Addr}{d:Nat}{f:Addr->Nat->Option γ}{g:List AV->Option γ}{r:Option γ}(h:o=some (.inst C d))(k:f C d=r):onIL o f g=r:=by subst h;exact k
end
section
variable (sc:ScT){σ:Store}{k:Nat}
theorem zSeq {e:Pc}{p s:Y}{en en₁:En}{σ σ₁:Store}{R:Option (Fl×En×Store)}(h1:evS e p en σ=some (.next,en₁,σ₁))(h2:evS e s en₁ σ₁=R):evS e (.cons p s) en σ=R:=on3s h1 h2
end
section
variable (sc:ScT){σ:Store}{k:Nat}
variable {e:Pc}{en:En}{σ σ₁ σ₂:Store}{o x:X}{y z u:Str}{v g:AV}{as fst:List AV}
theorem zRepl (h:ev e o en σ=some (.str u,σ₁))(h0:(y==z)=false∧u.length+(u.length+1) * z.length≤16777216):ev e (.repl o y z) en σ=some (.str (Txt.replace u y z),σ₁):=on2s h (if_pos h0)
theorem Ww {q:Option (AV×Store)}(h1:ev e o en σ=some (v,σ₁))(h2:getP e.p v y σ₁=some (g,fst))(h3:evL e x en σ₁=some (as,σ₂))(h4:e.C g (fst++as) σ₂=q):ev e (.meth o y x) en σ=q:=on2s h1 (on2s h2 (on2s h3 h4))
theorem zGetS {id:String}(h:strMeth y=some id):getP e.p (.str u) y σ=some (.glob (.builtin id),[.str u]):=on1s h rfl
theorem zFor {t:T}{p:Y}{src:Src}{R:Option (Fl×En×Store)}(h1:ev e x en σ=some (v,σ₁))(h2:srcOf v σ₁=some src)(h3:forM (evA e t) (evS e p) src e.n 0 en σ₁=R):evS e (.for t x p) en σ=R:=on2s h1 (on1s h2 h3)
end
section
variable {e:Pc}{en en' : En}{σ σ₁ σ₂ σC:Store}{o x elt iter ifs y:X}{v w a b:AV}{as:List AV}{c:Bool}{src:Src}{is:List Nat}{caps:List AV}
theorem H6 (h1:ev e x en σ=some (v,σ₁))(h2:truthF2 v σ₁=some c):tested (ev e x) truthF2 en σ=some (c,σ₁):=on2s h1 (on1s h2 rfl)
theorem zCmp {op:CmpOp}{q:Option (AV×Store)}(h1:ev e x en σ=some (v,σ₁))(h2:ev e y en σ₁=some (w,σ₂))(h3:cmpP e.p op v w σ₂=q):ev e (.cmp op x y) en σ=q:=on2s h1 (on2s h2 h3)
theorem zComp (h1:ev e iter en σ=some (a,σ₁))(h2:srcOf a σ₁=some src)(h3:pickC is en.cel=some caps)(h4:compM (ev e elt) (evI e ifs) src σ₁.length caps e.n 0 (σ₁++[.list []])=some σ₂):ev e (.comp elt iter ifs is) en σ=some (.ref σ₁.length,σ₂):=on2s h1 (on1s h2 (on1s h3 (on1s h4 rfl)))
theorem JG (h1:ev e x en σ=some (v,σ₁))(h2:evL e y en σ₁=some (as,σ₂)):evL e (.cons x y) en σ=some (v::as,σ₂):=on2s h1 (on2s h2 rfl)
theorem zRet (h:ev e x en σ=some (v,σ₁)):evS e (.cons (.ret x) .nil) en σ=some (.ret v,en,σ₁):=on3s (on2s h rfl) rfl
end
section
variable {p:Pk}{σ l:Store}{es:List (Str×AV)}{C:Addr}{x:Str}{b:AV}
variable {e:Pc}{en:En}{σ₁ σ₂ σC:Store}{o y:X}{a v:AV}
theorem Hq (h1:ev e y en σ=some (b,σ₁))(h2:ev e o en σ₁=some (a,σ₂))(h3:setP e.p a x b σ₂=some σC):evS e (.setAttr o x y) en σ=some (.next,en,σC):=on2s h1 (on2s h2 (on1s h3 rfl))
end
section
variable {e:Pc}{en:En}{σ σ₁ σ₂:Store}{x y t a b:X}{v g:AV}{as:List AV}{q:Option (AV×Store)}{c:Bool}
theorem zSet {i:Nat}(h:ev e x en σ=some (v,σ₁)):evS e (.set i x) en σ=some (.next,en.put i v,σ₁):=on2s h rfl
theorem Vj (h1:ev e x en σ=some (g,σ₁))(h2:evL e y en σ₁=some (as,σ₂))(h3:e.C g as σ₂=q):ev e (.call x y) en σ=q:=on2s h1 (on2s h2 h3)
theorem zToks {cls:Addr}{k:Int}{p:Nat}{l:List AV}(h1:ev e x en σ=some (.ref p,σ))(h2:σ[p]? = some (.list l))(h3:toksM e.C cls k p σ.length (l.length+1) 0 (σ++[.list []])=some σ₂):ev e (.toks cls k x) en σ=some (.ref σ.length,σ₂):=on2s h1 (onLs h2 (on1s h3 rfl))
theorem zForR {t:T}{p:Y}{i:Int}{R:Option (Fl×En×Store)}(h1:ev e x en σ=some (.int i,σ₁))(h2:0≤i∧i≤1000000)(h3:forM (evA e t) (evS e p) (.range i) e.n 0 en σ₁=R):evS e (.forR t x p) en σ=R:=on2s h1 ((if_pos h2).trans h3)
theorem zIteT (h1:tested (ev e t) truthF2 en σ=some (true,σ₁))(h2:ev e a en σ₁=q):ev e (.ite t a b) en σ=q:=on2s h1 h2
theorem zBin {op:Operator}{w:AV}(h1:ev e x en σ=some (v,σ₁))(h2:ev e y en σ₁=some (w,σ₂))(h3:binF2 op v w σ₂=q):ev e (.bin op x y) en σ=q:=on2s h1 (on2s h2 h3)
theorem W0 {n:Str}{w:AV}(h1:ev e x en σ=some (v,σ₁))(h2:attrP e.p v n σ₁=some w):ev e (.attr x n) en σ=some (w,σ₁):=on2s h1 (on1s h2 rfl)
end
theorem Lk {MA:MdA}{M:MdS}{src:Src}{n k:Nat}{en en₁ enB:En}{σ σ₁ σ₂:Store}{a:AV}{R:Option (Fl×En×Store)}(h1:nextF src k σ=some (some a))(h2:MA a en σ=some (en₁,σ₁))(h3:M en₁ σ₁=some (.next,enB,σ₂))(h4:forM MA M src n (k+1) enB σ₂=R):forM MA M src (n+1) k en σ=R:=onNv h1 (on2s h2 (on3s h3 h4))
section
variable (sc:ScT){σ:Store}{k i m:Nat}
theorem zIfF {e:Pc}{en:En}{σ σ₁:Store}{t:X}{a b:Y}{R:Option (Fl×En×Store)}(h1:tested (ev e t) truthF2 en σ=some (false,σ₁))(h2:evS e b en σ₁=R):evS e (.iff t a b) en σ=R:=on2s h1 h2
end
section
variable {e:Pc}{en:En}{σ σ₁ σ₂ σC σD:Store}{x y o i:X}{u v w b:AV}
theorem zSub (h1:ev e x en σ=some (v,σ₁))(h2:ev e y en σ₁=some (w,σ₂))(h3:subP e.p v w σ₂=some u):ev e (.sub x y) en σ=some (u,σ₂):=on2s h1 (on2s h2 (on1s h3 rfl))
theorem zSetSub (h1:ev e x en σ=some (b,σ₁))(h2:ev e o en σ₁=some (v,σ₂))(h3:ev e i en σ₂=some (w,σC))(h4:setItemF v w b σC=some σD):evS e (.setSub o i x) en σ=some (.next,en,σD):=on2s h1 (on2s (on2s h2 (on2s h3 (on1s h4 rfl))) rfl)
theorem zIff {t:X}{p q:Y}{c:Bool}{R:Option (Fl×En×Store)}(h1:tested (ev e t) truthF2 en σ=some (c,σ₁))(h2:evS e (if c then p else q) en σ₁=R):evS e (.iff t p q) en σ=R:=on2s h1 (by cases c<;>exact h2)
end
section
variable {e:Pc}{en en₁ enB:En}{σ σ₁ σ₂ σC:Store}{x y o i:X}{u v w b:AV}
theorem zL0:ev e (.lst .nil) en σ=some (.ref σ.length,σ++[.list []]):=rfl
theorem zPair {i j:Nat}(h:ev e x en σ=some (.tup [u,v],σ₁)):evS e (.pair i j x) en σ=some (.next,(en.put j v).put i u,σ₁):=on2s h rfl
theorem WV {t1 t2:T}(h1:ev e x en σ=some (.tup [u,v],σ₁))(h2:evA e t1 u en σ₁=some (en₁,σ₂))(h3:evA e t2 v en₁ σ₂=some (enB,σC)):evS e (.setT 2 (.cons t1 (.cons t2 .nil)) x) en σ=some (.next,enB,σC):=on2s h1 (on2s (on2s h2 (on2s h3 rfl)) rfl)
theorem zASub (h2:ev e o en σ=some (v,σ₁))(h3:ev e i en σ₁=some (w,σ₂))(h4:setItemF v w b σ₂=some σC):evA e (.sub o i) b en σ=some (en,σC):=on2s h2 (on2s h3 (on1s h4 rfl))
theorem zTup2 (h1:ev e x en σ=some (u,σ₁))(h2:ev e y en σ₁=some (v,σ₂)):ev e (.tup (.cons x (.cons y .nil))) en σ=some (.tup [u,v],σ₂):=on2s (on2s h1 (on2s (on2s h2 rfl) rfl)) rfl
end
theorem zDone {MA:MdA}{M:MdS}{src:Src}{n k:Nat}{en:En}{σ:Store}(h:nextF src k σ=some none):forM MA M src (n+1) k en σ=some (.next,en,σ):=onNn h rfl
theorem onILl {γ:Type}{o:Option AO}{l:List AV}{f:Addr->Nat->Option γ}{g:List AV->Option γ}{r:Option γ}(h:o=some (.list l))(k:g l=r):onIL o f g=r:=by subst h;exact k
theorem zIteF {e:Pc}{en:En}{σ σ₁:Store}{t a b:X}{q:Option (AV×Store)}(h1:tested (ev e t) truthF2 en σ=some (false,σ₁))(h2:ev e b en σ₁=q):ev e (.ite t a b) en σ=q:=on2s h1 h2
section
variable (sc:ScT){σ τ:Store}{k n i:Nat}
theorem zSlice {e:Pc}{en:En}{σ σ₁:Store}{x:X}{b:Int}{v:AV}{nm:Bool}{q:Option (AV×Store)}(h:ev e x en σ=some (v,σ₁))(h2:sliceF e.p.script nm v none (some b) σ₁=q):ev e (.slice nm x .nil (.cons (.val (.int b)) .nil)) en σ=q:=on2s h (on2s rfl (on2s (on2s rfl rfl) h2))
theorem zLst {e:Pc}{en:En}{σ σ₁:Store}{x:X}{l:List AV}(h:evL e x en σ=some (l,σ₁))(hl:l.length≤1000000):ev e (.lst x) en σ=some (.ref σ₁.length,σ₁++[.list l]):=on2s h (if_pos hl)
theorem zMul {e:Pc}{en:En}{σ σ₁ σ₂:Store}{x y:X}{a b:Int}(h1:ev e x en σ=some (.int a,σ₁))(h2:ev e y en σ₁=some (.int b,σ₂))(h3:mulOk a b=true):ev e (.bin .Mult x y) en σ=some (.int (a * b),σ₂):=zBin h1 h2 (if_pos h3)
end
end
section
set_option genSizeOf false
set_option genInjectivity false
theorem G2 {n:Nat}:∀ (a b:Store),clS n (a++b)=(clS n a&&clS n b)
 | [],b=>rfl
 |o::a,b=>by
  show (clO n o&&clS n (a++b))=((clO n o&&clS n a)&&clS n b);rw[G2 a b,Bool.and_assoc]
theorem Lv {n i:Nat}{o:AO}(ho:clO n o=true):∀ (σ:Store),clS n σ=true->i<σ.length->clS n (σ.set i o)=true:=by
 intro σ
 induction σ generalizing i with
 |nil=>intro _ h;cases h
 |cons p σ ih=>
  intro h hl;have h:=Q7.mp h
  cases i with
  |zero=>exact anI ⟨ho,h.2⟩
  |succ i=>exact anI ⟨h.1,ih h.2 (V1 hl)⟩
theorem clD_up {n m:Nat}(hnm:n≤m):∀ (es:List (Str×AV)),clD n es=true->clD m es=true
 | [],_=>rfl
 | (_,a)::es,h=>anI ⟨(qN hnm).1 a (Q7.mp h).1,clD_up hnm es (Q7.mp h).2⟩
theorem R7 {n m:Nat}(hnm:n≤m):∀ (τ:Store),clS n τ=true->clS m τ=true
 | [],_=>rfl
 |o::τ,h=>anI ⟨by
  have h:=(Q7.mp h).1
  cases o with
  |list l'=>exact(qN hnm).2 _ h
  |inst C d=>exact decide_eq_true (ltL (of_decide_eq_true h) hnm)
  |dict es=>exact clD_up hnm es h,R7 hnm τ (Q7.mp h).2⟩
abbrev Tk:=Str×Str
structure Rdr where
 r:Nat
 d:Nat
 t:Nat
 nm:Nat
 sh:Nat
 hs:List AV
 toks:List Tk
noncomputable abbrev Rdr.rows (R:Rdr) (n:Nat):List (Str×AV):=[("tokens",.ref R.t),("at",.int n),("named",.ref R.nm),("shared",.ref R.sh)]
noncomputable abbrev tokD (i:Nat) (k w:Str):List (Str×AV):=[("kind",.str k),("worth",.str w),("at",.tup [.int ((i:Int)+1),.int 12]),("is_in_a",.bool false)]
noncomputable def Rdr.at (R:Rdr) (σ:Store) (n:Nat):Store:=σ.set R.d (.dict (R.rows n))
structure Rdr.Ok (R:Rdr)(σ:Store):Prop where
 cl:clS σ.length σ=true
 hr:σ[R.r]? = some (.inst 664 R.d)
 rd:R.r≠R.d
 td:R.t≠R.d
 dl:R.d<σ.length
 nml:R.nm<σ.length
 shl:R.sh<σ.length
 ht:σ[R.t]? = some (.list R.hs)
 len:R.hs.length=R.toks.length
 big:R.toks.length≤1000000
 tok:∀ (i:Nat) (k w:Str),R.toks[i]? = some (k,w)->∃ j e,R.hs[i]? = some (.ref j)∧σ[j]? = some (.inst 164 e)∧σ[e]? = some (.dict (tokD i k w))∧j≠R.d∧e≠R.d
namespace Rdr
variable {R:Rdr}{σ:Store}{n m:Nat}
theorem Vx:(R.at σ n).length=σ.length:=J2
theorem at_r (h:R.Ok σ):(R.at σ n)[R.r]? = some (.inst 664 R.d):=by unfold Rdr.at;rw[JW h.rd.symm];exact h.hr
theorem at_d (h:R.Ok σ):(R.at σ n)[R.d]? = some (.dict (R.rows n)):=by unfold Rdr.at;rw[J1 h.dl]
theorem at_t (h:R.Ok σ):(R.at σ n)[R.t]? = some (.list R.hs):=by unfold Rdr.at;rw[JW h.td.symm];exact h.ht
theorem KV (h:R.Ok σ)(l:Store):R.at σ n++l=R.at (σ++l) n:=by unfold Rdr.at;rw[RM _ _ h.dl]
theorem at_dset (n m:Nat):(R.at σ n).set R.d (.dict (R.rows m))=R.at σ m:=by unfold Rdr.at;rw[q7]
theorem KJ {i:Nat}(hi:i≠R.d):(R.at σ n)[i]? = σ[i]? := by unfold Rdr.at;rw[JW hi.symm]
theorem Ok.tl (h:R.Ok σ):R.t<σ.length:=(QQ.mp h.ht).1
theorem Ok.rl (h:R.Ok σ):R.r<σ.length:=(QQ.mp h.hr).1
theorem Ok.clat (h:R.Ok σ):clS σ.length (R.at σ n)=true:=by
 refine Lv ?_ σ h.cl h.dl
 exact anI ⟨decide_eq_true h.tl,anI ⟨rfl,anI ⟨decide_eq_true h.nml,anI ⟨decide_eq_true h.shl,rfl⟩⟩⟩⟩
theorem gc_at (h:R.Ok σ){v:AV}(hv:clA σ.length v=true):gc (R.at σ n).length (some (v,R.at σ m))=some (v,R.at σ m):=by
 have e:(R.at σ m).take σ.length=R.at σ m:=J7 (by rw[Vx];exact QN _)
 rw[Vx]
 have c:gc1 σ.length (v,R.at σ m)=true:=anI ⟨hv,(congrArg (clS _) e).trans h.clat⟩
 exact congrArg some ((if_pos c).trans (congrArg (Prod.mk v) e))
theorem gc_at_app (h:R.Ok σ){v:AV}(hv:clA σ.length v=true)(l:Store):gc (R.at σ n).length (some (v,R.at (σ++l) m))=some (v,R.at σ m):=by
 have e:(R.at (σ++l) m).take σ.length=R.at σ m:=by
  rw[← KV h];rw[List.take_append_of_le_length (by rw[Vx];exact QN _)]
  exact J7 (by rw[Vx];exact QN _)
 rw[Vx]
 have c:gc1 σ.length (v,R.at (σ++l) m)=true:=anI ⟨hv,(congrArg (clS _) e).trans h.clat⟩
 exact congrArg some ((if_pos c).trans (congrArg (Prod.mk v) e))
noncomputable def tokAV (R:Rdr) (i:Nat):AV:=(R.hs[i]?).getD .none
theorem Ok.tokcl (h:R.Ok σ)(i:Nat):clA σ.length (R.tokAV i)=true:=by
 unfold tokAV
 cases e:R.toks[i]? with
 |none=>
  have:R.hs[i]? = none:=by rw[UX] at e ⊢;rw[h.len];exact e
  rw[this];rfl
 |some p=>
  refine xe23 (h.tok i p.1 p.2 e) λj e' h1 h2 h3=>?_
  rw[h1];exact decide_eq_true (QQ.mp h2).1
theorem Ok.app (h:R.Ok σ){l:Store}(hl:clS (σ.length+l.length) l=true):R.Ok (σ++l) where
 cl:=by
  rw[QV,G2,hl,Bool.and_true];exact R7 (QG _ _) _ h.cl
 hr:=by rw[Q3 h.rl];exact h.hr
 rd:=h.rd
 td:=h.td
 dl:=by rw[QV];exact ltL h.dl (QG _ _)
 nml:=by rw[QV];exact ltL h.nml (QG _ _)
 shl:=by rw[QV];exact ltL h.shl (QG _ _)
 ht:=by rw[Q3 h.tl];exact h.ht
 len:=h.len
 big:=h.big
 tok:=λi k w e=>by
  refine xe25 (h.tok i k w e) λj e' h1 h2 h3 h4 h5=>?_
  exact⟨j,e',h1,by rw[Q3 (QQ.mp h2).1];exact h2,by rw[Q3 (QQ.mp h3).1];exact h3,h4,h5⟩
end Rdr
end
section
noncomputable def spl (c:Nat):List Nat->List (List Nat)
 | []=>[[]]
 |a::l=>if a=c then []::spl c l else match spl c l with
  | []=>[[a]]
  |h::t=>(a::h)::t
noncomputable def jn (c:Nat):List (List Nat)->List Nat
 | []=>[]
 | [x]=>x
 |x::r=>x++[c]++jn c r
theorem spl_ne (c:Nat)(l:List Nat):spl c l≠[]:=by
 cases l with
 |nil=>exact λh=>nomatch h
 |cons a l=>
  unfold spl
  split
  · exact λh=>nomatch h
  · split<;>exact λh=>nomatch h
theorem PW (c:Nat):∀ (x:List Nat),c∉x->spl c x=[x]
 | [],_=>rfl
 |a::l,h=>by
  unfold spl;have h1:a≠c:=λe=>h (e▸.head _)
  rw[if_neg h1,PW c l λe=>h (.tail _ e)]
theorem spl_app (c:Nat):∀ (x l:List Nat),c∉x->spl c (x++c::l)=x::spl c l
 | [],l,_=>by
  show spl c (c::l)=_;rw[spl]
  rw[if_pos rfl]
 |a::x,l,h=>by
  have h1:a≠c:=λe=>h (e▸.head _)
  show spl c (a::(x++c::l))=_;rw[spl,if_neg h1,spl_app c x l λe=>h (.tail _ e)]
theorem spl_jn (c:Nat):∀ (ps:List (List Nat)),ps≠[]->(∀ p∈ps,c∉p)->spl c (jn c ps)=ps
 | [],h,_=>absurd rfl h
 | [x],_,h=>PW c x (h x (.head _))
 |x::y::r,_,h=>by
  show spl c (x++[c]++jn c (y::r))=_;rw[QW,List.singleton_append,spl_app c x _ (h x (.head _)),spl_jn c (y::r) (λe=>nomatch e) λp hp=>h p (.tail _ hp)]
theorem join_list (c:Nat):∀ (ps:List Str),(PySem.Str.join ⟨#[c]⟩ ps).cps.toList=jn c (ps.map (·.cps.toList))
 | []=>rfl
 | [x]=>rfl
 |x::y::r=>by
  show (x++(⟨#[c]⟩:Str)++PySem.Str.join ⟨#[c]⟩ (y::r)).cps.toList=_;rw[PySem.Str.cps_append,PySem.Str.cps_append,Vz,Vz,join_list c (y::r)]
  rfl
theorem split_ne (x y:Str):Txt.split x y≠[]:=by
 unfold Txt.split
 split
 · exact λh=>nomatch h
 · split
   · exact λh=>nomatch h
   · rw[StrLaws.partsBetween_eq]
     cases Builtin.Str.occurrences x y 0 x.length (x.length+1) with
     |nil=>exact λh=>nomatch h
     |cons=>exact λh=>nomatch h
theorem Nw (x:Str)(c:Nat):(Txt.split x ⟨#[c]⟩).map (·.cps.toList)=spl c x.cps.toList:=by
 have h:=StrLaws.join_split x ⟨#[c]⟩
 have h2:=join_list c (Txt.split x ⟨#[c]⟩)
 rw[h] at h2
 rw[h2,spl_jn]
 · intro e
   exact split_ne _ _ (Vw.mp e)
 · intro p hp
   obtain⟨q,hq,rfl⟩:=Jz.mp hp;exact StrLaws.split_free x c q hq
theorem Hj {a b:Str}(h:a.cps.toList=b.cps.toList):a=b:=by
 cases a;cases b
 congr
 exact Array.toList_inj.mp h
theorem split_one {x:Str}{c:Nat}(h:(x.cps.toList.contains c)=false):Txt.split x ⟨#[c]⟩=[x]:=by
 have:=Nw x c
 rw[PW c _ (by intro e;rw[HJ.mpr e] at h;cases h)] at this
 match hq:Txt.split x ⟨#[c]⟩ with
 | []=>exact absurd hq (split_ne _ _)
 | [y]=>
  rw[hq] at this;have e:y.cps.toList=x.cps.toList:=by simpa using this
  rw[Hj e]
 |y::z::r=>rw[hq] at this;simp at this
noncomputable def hasSub (y:List Nat):List Nat->Bool
 | []=>y.isPrefixOf []
 |a::l=>y.isPrefixOf (a::l)||hasSub y l
theorem hasSub_iff (y:List Nat):∀ l,hasSub y l=true↔∃ i,i+y.length≤l.length∧((l.drop i).take y.length==y)=true:=by
 have pre:∀ l:List Nat,y.isPrefixOf l=true↔(y.length≤l.length∧(l.take y.length==y)=true):=by
  intro l;rw[List.isPrefixOf_iff_prefix,beq_iff_eq]
  constructor
  · intro h
    exact⟨h.length_le,(List.prefix_iff_eq_take.mp h).symm⟩
  · intro h
    exact List.prefix_iff_eq_take.mpr h.2.symm
 intro l
 induction l with
 |nil=>
  unfold hasSub;rw[pre]
  constructor
  · intro h;exact⟨0,by simpa using h.1,by simpa using h.2⟩
  · rintro ⟨i,h1,h2⟩
    exact⟨by have:=QJ (G4 _ _) h1;exact this,by simpa using h2⟩
 |cons a l ih=>
  unfold hasSub;rw[Bool.or_eq_true,pre,ih]
  constructor
  · rintro (h|⟨i,h1,h2⟩)
    · exact⟨0,by simpa using h.1,by simpa using h.2⟩
    · exact⟨i+1,by simp;exact QJ (Q9 (UN ..)) (Nat.succ_le_succ h1),by simpa using h2⟩
  · rintro ⟨i,h1,h2⟩
    cases i with
    |zero=>exact .inl ⟨by simpa using h1,by simpa using h2⟩
    |succ i=>exact .inr ⟨i,by simp at h1;exact V2 (QJ (Q9 (UN ..).symm) h1),by simpa using h2⟩
theorem inStr_eq (x y:Str):inStr x y=hasSub y.cps.toList x.cps.toList:=by
 rw[Hz,hasSub_iff]
 unfold inStr
 rw[StrLaws.found_iff]
 refine exists_congr λi=>?_
 rw[StrLaws.subAt_eq]
 exact Iff.rfl
noncomputable def rep (c:Nat) (z:List Nat) (l:List Nat):List Nat:=l.flatMap λa=>if a=c then z else [a]
theorem LU (c:Nat)(z a b:List Nat):rep c z (a++b)=rep c z a++rep c z b:=by unfold rep;rw[Q8]
theorem Pv {c:Nat}{z:List Nat}:∀ {l:List Nat},c∉l->rep c z l=l
 | [],_=>rfl
 |a::l,h=>by
  have h1:a≠c:=λe=>h (e▸.head _)
  unfold rep;rw[Vv,if_neg h1]
  have:=Pv (c:=c) (z:=z) (l:=l) λe=>h (.tail _ e)
  unfold rep at this;rw[this];rfl
theorem join_rep (c:Nat)(z:Str):∀ (ps:List Str),(∀ p∈ps,c∉p.cps.toList)->(PySem.Str.join z ps).cps.toList=rep c z.cps.toList (jn c (ps.map (·.cps.toList)))
 | [],_=>rfl
 | [x],h=>(Pv (h x (.head _))).symm
 |x::y::r,h=>by
  show (x++z++PySem.Str.join z (y::r)).cps.toList=rep c z.cps.toList (x.cps.toList++[c]++jn c ((y::r).map (·.cps.toList)));rw[PySem.Str.cps_append,PySem.Str.cps_append,Vz,Vz,LU,LU,Pv (h x (.head _)),join_rep c z (y::r) λp hp=>h p (.tail _ hp)]
  have:rep c z.cps.toList [c]=z.cps.toList:=by unfold rep;simp
  rw[this]
theorem GW (x z:Str)(c:Nat):(Txt.replace x ⟨#[c]⟩ z).cps.toList=rep c z.cps.toList x.cps.toList:=by
 rw[StrLaws.replace_one,join_rep c z _ (StrLaws.split_free x c),Nw]
 have h:=StrLaws.join_split x ⟨#[c]⟩
 have h2:=join_list c (Txt.split x ⟨#[c]⟩)
 rw[h,Nw] at h2
 rw[← h2]
end
section
open Rdr
section
variable {e:Pc}{en en₁:En}{σ σ₁:Store}{x y:X}{p s:Y}{v:AV}{q:Option (AV×Store)}{c:Bool}
theorem zRets (h:evS e p en σ=some (.ret v,en₁,σ₁)):evS e (.cons p s) en σ=some (.ret v,en₁,σ₁):=on3s h rfl
theorem zNot (h:ev e x en σ=some (.bool c,σ₁)):ev e (.not x) en σ=some (.bool (!c),σ₁):=on2s (H6 h rfl) rfl
theorem zAnd (h:ev e x en σ=some (.bool true,σ₁))(h2:ev e y en σ₁=q):ev e (.and x y) en σ=q:=on2s h (on1s rfl h2)
theorem zOr (h:ev e x en σ=some (.bool false,σ₁))(h2:ev e y en σ₁=q):ev e (.or x y) en σ=q:=on2s h (on1s rfl h2)
theorem zOrT (h:ev e x en σ=some (.bool true,σ₁)):ev e (.or x y) en σ=some (.bool true,σ₁):=on2s h (on1s rfl rfl)
end
theorem zTurnR {MA:MdA}{M:MdS}{src:Src}{n k:Nat}{en en₁ enB:En}{σ σ₁ σ₂:Store}{a v:AV}(h1:nextF src k σ=some (some a))(h2:MA a en σ=some (en₁,σ₁))(h3:M en₁ σ₁=some (.ret v,enB,σ₂)):forM MA M src (n+1) k en σ=some (.ret v,enB,σ₂):=onNv h1 (on2s h2 (on3s h3 rfl))
theorem cmp_inS {p:Pk}{x y:Str}{τ:Store}:cmpP p .In (.str x) (.str y) τ=some (.bool (inStr y x),τ):=rfl
theorem c_len {p:Pk}{n:Nat}{l:List AV}{τ:Store}:callN p (n+1) (.glob (.builtin "len")) l τ=gc τ.length (withS τ (lenF l τ)):=rfl
theorem P4:strMeth "split"=some "str.split" := by decide +kernel
theorem meth_join:strMeth "join"=some "str.join" := by decide +kernel
theorem Kx:lstMeth "append"=some "list.append" := by decide +kernel
theorem sp_len:((PySem.Str.ofString " ").length==0)=false:=by decide +kernel
noncomputable def Rdr.kA (R:Rdr) (i:Nat):Str:=((R.toks[i]?).map (·.1)).getD ""
noncomputable def Rdr.wA (R:Rdr) (i:Nat):Str:=((R.toks[i]?).map (·.2)).getD ""
noncomputable abbrev Rdr.isW (R:Rdr) (i:Nat) (w:Str):Bool:=R.kA i == "word"&&R.wA i==w
noncomputable def reserved (w:Str):Bool:=inStr sReserved (PySem.Str.ofString " "++w++PySem.Str.ofString " ")
theorem blank_len:(PySem.Str.ofString " ").length=1:=by decide +kernel
theorem clL_strs {m:Nat}:∀ (l:List Str),clL m (l.map AV.str)=true
 | []=>rfl
 |_::l=>clL_strs l
section
variable (sc:ScT){R:Rdr}{σ:Store}{n k:Nat}
theorem Rdr.Ok.hbig (h:R.Ok σ):R.hs.length≤1000000:=by rw[h.len];exact h.big
theorem at_new (h:R.Ok σ){l:Store}{i:Nat}(hi:σ.length≤i):(R.at (σ++l) n)[i]? = l[i - σ.length]? := by
 rw[KJ (Qj (ltL h.dl hi)),JJ hi]
theorem MG (h:R.Ok σ){i:Nat}(hi:i<R.toks.length):∃ j e,R.tokAV i = .ref j∧j<σ.length∧∀ m,(R.at σ m)[j]? = some (.inst 164 e)∧(R.at σ m)[e]? = some (.dict (tokD i (R.kA i) (R.wA i))):=by
 have e:R.toks[i]? = some (R.kA i,R.wA i):=by unfold Rdr.kA Rdr.wA;rw[JN hi];rfl
 refine xe25 (h.tok i _ _ e) λj e' h1 h2 h3 h4 h5=>?_
 exact⟨j,e',by unfold tokAV;rw[h1];rfl,(QQ.mp h2).1,λm=>⟨(KJ h4).trans h2,(KJ h5).trans h3⟩⟩
theorem tok_isNone (h:R.Ok σ){i:Nat}(hi:i<R.toks.length):isNoneF (R.tokAV i)=some false:=by
 refine xe22 (MG h hi) λj e h1 Z=>?_
 rw[h1];rfl
theorem tok_kind (h:R.Ok σ){i:Nat}(hi:i<R.toks.length):attrP (pk0 sc) (R.tokAV i) "kind" (R.at σ n)=some (.str (R.kA i)):=by
 refine xe23 (MG h hi) λj e h1 Z h3=>?_
 rw[h1];exact onIs (h3 n).1 (onDs (h3 n).2 (on1s (a:=.str (R.kA i)) rfl rfl))
theorem tok_worth (h:R.Ok σ){i:Nat}(hi:i<R.toks.length):attrP (pk0 sc) (R.tokAV i) "worth" (R.at σ n)=some (.str (R.wA i)):=by
 refine xe23 (MG h hi) λj e h1 Z h3=>?_
 rw[h1];exact onIs (h3 n).1 (onDs (h3 n).2 (on1s (a:=.str (R.wA i)) rfl rfl))
theorem at_tokens (h:R.Ok σ):attrP (pk0 sc) (.ref R.r) "tokens" (R.at σ n)=some (.ref R.t):=onIs (at_r h) (onDs (at_d h) (on1s (a:=.ref R.t) rfl rfl))
theorem at_pos (h:R.Ok σ):attrP (pk0 sc) (.ref R.r) "at" (R.at σ n)=some (.int n):=onIs (at_r h) (onDs (at_d h) (on1s (a:=.int n) rfl rfl))
theorem Lx (h:R.Ok σ){x:Str}{fa:Addr}(hm:(pk0 sc).meth 664 x=some fa)(hn:findS x (R.rows n)=none):getP (pk0 sc) (.ref R.r) x (R.at σ n)=some (.glob (.ref fa),[.ref R.r]):=onILs (at_r h) (onDs (at_d h) (by rw[hn];exact on1s hm rfl))
theorem split_ok' (h:R.Ok σ){x y:Str}(hy:(y.length==0)=false)(hx:x.length≤1000000):callN (pk0 sc) (k+1) (.glob (.builtin "str.split")) [.str x,.str y] (R.at σ n)=some (.ref σ.length,R.at (σ++[.list ((Txt.split x y).map .str)]) n):=by
 have e1:(σ++[AO.list ((Txt.split x y).map .str)]).length=σ.length+1:=QV
 have ho:R.Ok (σ++[.list ((Txt.split x y).map .str)]):=h.app (anI ⟨clL_strs _,rfl⟩)
 have c1:¬ gc1 σ.length (.ref σ.length,R.at (σ++[.list ((Txt.split x y).map .str)]) n)=true:=λc=>J4 _ (of_decide_eq_true (Q7.mp c).1)
 have e2:(R.at (σ++[.list ((Txt.split x y).map .str)]) n).take (σ.length+1)=R.at (σ++[.list ((Txt.split x y).map .str)]) n:=J7 (by rw[Vx,e1];exact QN _)
 have c2:gc1 (σ.length+1) (.ref σ.length,R.at (σ++[.list ((Txt.split x y).map .str)]) n)=true:=anI ⟨decide_eq_true (J3 _),(congrArg (clS _) e2).trans (e1▸ho.clat)⟩
 show gc _ (if _ then some (AV.ref (R.at σ n).length,R.at σ n++_) else none)=_
 rw[if_pos ⟨hy,hx⟩,KV h,Vx]
 exact congrArg some ((if_neg c1).trans ((if_pos c2).trans (congrArg (Prod.mk _) e2)))
theorem toks_len (h:R.Ok σ):callN (pk0 sc) (k+1) (.glob (.builtin "len")) [.ref R.t] (R.at σ n)=some (.int R.hs.length,R.at σ n):=(congrArg (gc _) (on1s (onLs (at_t h) (if_pos h.hbig)) rfl)).trans (gc_at h rfl)
theorem LZ (h:R.Ok σ){a:Int}(ha:0≤a)(hi:n+a.toNat<R.toks.length):callN (pk0 sc) (k+2) (.glob (.ref 518)) [.ref R.r,.int a] (R.at σ n)=some (R.tokAV (n+a.toNat),R.at σ n):=by
 have hb:=h.hbig
 rw[← h.len] at hi
 have i1:idxOk ((n:Int)+a)=true:=by unfold idxOk;rw[Jq,decide_eq_true_eq,decide_eq_true_eq];omega
 have z:R.hs[n+a.toNat]? = some (R.tokAV (n+a.toNat)):=by unfold tokAV;rw[JN hi];rfl
 have ec:(n:Int)+a=((n+a.toNat:Nat):Int):=by rw[Int.natCast_add,Int.toNat_of_nonneg ha]
 have lt:((n:Int)+a)<R.hs.length:=ec▸Int.ofNat_lt.mpr hi
 have ge:0≤(n:Int)+a:=ec▸H0 _
 have tn:((n:Int)+a).toNat=n+a.toNat:=by rw[ec];rfl
 have tk:ev (pc sc (k+1)) (.attr (.loc 0) "tokens") ⟨[some (.ref R.r),some (.int a)],[]⟩ (R.at σ n)=some (.ref R.t,R.at σ n):=W0 rfl (at_tokens sc h)
 have po:ev (pc sc (k+1)) (.bin .Add (.attr (.loc 0) "at") (.loc 1)) ⟨[some (.ref R.r),some (.int a)],[]⟩ (R.at σ n)=some (.int ((n:Int)+a),R.at σ n):=zBin (W0 rfl (at_pos sc h)) rfl rfl
 have ln:ev (pc sc (k+1)) (.call (.val (.glob (.builtin "len"))) (.cons (.attr (.loc 0) "tokens") .nil)) ⟨[some (.ref R.r),some (.int a)],[]⟩ (R.at σ n)=some (.int R.hs.length,R.at σ n):=Vj rfl (JG tk rfl) (toks_len (k:=k) sc h)
 have step:evS (pc sc (k+1)) b_Reader_peek ⟨[some (.ref R.r),some (.int a)],[]⟩ (R.at σ n)=some (.ret (R.tokAV (n+a.toNat)),⟨[some (.ref R.r),some (.int a)],[]⟩,R.at σ n):=by
  refine zRets (zIff (c:=true) (H6 (v:=.bool (decide ((n:Int)+a<R.hs.length))) (zCmp po ln rfl) (congrArg some (decide_eq_true lt))) (zRet (zSub tk po (onLs (at_t h) ?_))));rw[if_pos i1,if_pos ge,tn]
  exact z
 have run:runE e_Reader_peek (evS (pc sc (k+1)) b_Reader_peek) [.ref R.r,.int a] (R.at σ n)=some (R.tokAV (n+a.toNat),R.at σ n):=by
  unfold runE runB;rw[if_pos ⟨leB rfl,leB rfl⟩]
  exact on3s step rfl
 rw[c_Reader_peek,run]
 exact gc_at h (h.tokcl _)
theorem peek_ok0 (h:R.Ok σ)(hi:n<R.toks.length):callN (pk0 sc) (k+2) (.glob (.ref 518)) [.ref R.r] (R.at σ n)=some (R.tokAV n,R.at σ n):=
 LZ sc (k:=k) h (a:=0) (Rq _) hi
theorem is_kind_ok (h:R.Ok σ){kd:Str}{a:Int}(ha:0≤a)(hi:n+a.toNat<R.toks.length):callN (pk0 sc) (k+3) (.glob (.ref 547)) [.ref R.r,.str kd,.int a] (R.at σ n)=some (.bool (R.kA (n+a.toNat)==kd),R.at σ n):=by
 have eq:∀ τ,cmpP (pk0 sc) .Eq (.str (R.kA (n+a.toNat))) (.str kd) τ=some (.bool (R.kA (n+a.toNat)==kd),τ):=λτ=>by
  show some (AV.bool (false ^^ (_==kd)),τ)=_;rw[RG]
 have nn:cmpP (pk0 sc) .IsNot (R.tokAV (n+a.toNat)) .none (R.at σ n)=some (.bool true,R.at σ n):=by
  refine xe22 (MG h hi) λj e h1 Z=>?_
  rw[h1];rfl
 have step:evS (pc sc (k+2)) b_Reader_is_kind ⟨[some (.ref R.r),some (.str kd),some (.int a),none],[]⟩ (R.at σ n)=some (.ret (.bool (R.kA (n+a.toNat)==kd)),⟨[some (.ref R.r),some (.str kd),some (.int a),some (R.tokAV (n+a.toNat))],[]⟩,R.at σ n):=
  zSeq (zSet (Ww rfl (Lx sc h (fa:=518) rfl rfl) (JG rfl rfl) (LZ sc (k:=k) h ha hi))) (zRet (zAnd (zCmp rfl rfl nn) (zCmp (W0 rfl (tok_kind sc h hi)) rfl (eq _))))
 have run:runE e_Reader_is_kind (evS (pc sc (k+2)) b_Reader_is_kind) [.ref R.r,.str kd,.int a] (R.at σ n)=some (.bool (R.kA (n+a.toNat)==kd),R.at σ n):=by
  unfold runE runB;rw[if_pos ⟨leB rfl,leB rfl⟩]
  exact on3s step rfl
 rw[KQ,run]
 exact gc_at h rfl
theorem at_inc:(R.at σ n).set R.d (.dict [("tokens",.ref R.t),("at",.int ((n:Int)+1)),("named",.ref R.nm),("shared",.ref R.sh)])=R.at σ (n+1):=at_dset n (n+1)
noncomputable def isWordB:Y:=.cons (.iff (.or (.not (.meth (.loc 0) "is_kind" (.cons (.val (.str "word")) (.cons (.loc 2) .nil)))) (.cmp .NotEq (.attr (.meth (.loc 0) "peek" (.cons (.loc 2) .nil)) "worth") (.loc 3))) (.cons (.ret (.val (.bool false))) .nil) .nil) (.cons (.set 2 (.bin .Add (.loc 2) (.val (.int 1)))) .nil)
noncomputable def splitX (i:Nat):X:=.meth (.loc i) "split" (.cons (.val (.str " ")) .nil)
theorem isWord_eq:b_Reader_is_word = .cons (.set 2 (.val (.int 0))) (.cons (.for (.name 3) (splitX 1) isWordB) (.cons (.ret (.val (.bool true))) .nil)):=rfl
theorem Rk (h:R.Ok σ){w:Str}(hw:Txt.split w " "=[w])(hl:w.length≤1000000){en:En}(he:ev (pc sc (k+1)) (.loc 1) en (R.at σ n)=some (.str w,R.at σ n)):ev (pc sc (k+1)) (splitX 1) en (R.at σ n)=some (.ref σ.length,R.at (σ++[.list [.str w]]) n):=by
 have z:=split_ok' sc (k:=k) (n:=n) h (x:=w) (y := " ") sp_len hl
 rw[hw] at z
 exact Ww he (zGetS P4) (JG rfl rfl) z
theorem is_word_ok (h:R.Ok σ){w:Str}(hw:Txt.split w " "=[w])(hl:w.length≤1000000)(hi:n<R.toks.length):callN (pk0 sc) (k+4) (.glob (.ref 554)) [.ref R.r,.str w] (R.at σ n)=some (.bool (R.isW n w),R.at σ n):=by
 have h' : R.Ok (σ++[.list [.str w]]):=h.app rfl
 have g:∀ m,(R.at (σ++[.list [.str w]]) m)[σ.length]? = some (.list [.str w]):=λm=>(at_new h (QN _)).trans (by rw[UH];rfl)
 have kd:ev (pc sc (k+3)) (.not (.meth (.loc 0) "is_kind" (.cons (.val (.str "word")) (.cons (.loc 2) .nil)))) ⟨[some (.ref R.r),some (.str w),some (.int 0),some (.str w)],[]⟩ (R.at (σ++[.list [.str w]]) n)=some (.bool (!(R.kA n == "word")),R.at (σ++[.list [.str w]]) n):=
  zNot (Ww rfl (Lx sc h' (fa:=547) rfl rfl) (JG rfl (JG rfl rfl)) (is_kind_ok sc (k:=k) h' (a:=0) (Rq _) hi))
 have pk:ev (pc sc (k+3)) (.cmp .NotEq (.attr (.meth (.loc 0) "peek" (.cons (.loc 2) .nil)) "worth") (.loc 3)) ⟨[some (.ref R.r),some (.str w),some (.int 0),some (.str w)],[]⟩ (R.at (σ++[.list [.str w]]) n)=some (.bool (!(R.wA n==w)),R.at (σ++[.list [.str w]]) n):=by
  rw[← K3];exact zCmp (W0 (Ww rfl (Lx sc h' (fa:=518) rfl rfl) (JG rfl rfl) (LZ sc (k:=k+1) h' (a:=0) (Rq _) hi)) (tok_worth sc h' hi)) rfl rfl
 have step:∃ en,evS (pc sc (k+3)) b_Reader_is_word ⟨[some (.ref R.r),some (.str w),none,none],[]⟩ (R.at σ n)=some (.ret (.bool (R.isW n w)),en,R.at (σ++[.list [.str w]]) n):=by
  have fr:ev (pc sc (k+3)) (.or (.not (.meth (.loc 0) "is_kind" (.cons (.val (.str "word")) (.cons (.loc 2) .nil)))) (.cmp .NotEq (.attr (.meth (.loc 0) "peek" (.cons (.loc 2) .nil)) "worth") (.loc 3))) ⟨[some (.ref R.r),some (.str w),some (.int 0),some (.str w)],[]⟩ (R.at (σ++[.list [.str w]]) n)=some (.bool true,R.at (σ++[.list [.str w]]) n) ->
   evS (pc sc (k+3)) b_Reader_is_word ⟨[some (.ref R.r),some (.str w),none,none],[]⟩ (R.at σ n)=some (.ret (.bool false),⟨[some (.ref R.r),some (.str w),some (.int 0),some (.str w)],[]⟩,R.at (σ++[.list [.str w]]) n):=λq=>by
   rw[isWord_eq];refine zSeq (zSet rfl) (zRets (zFor (Rk sc (k:=k+2) h hw hl rfl) (onLs (g n) rfl) ?_))
   exact zTurnR (n:=999) (a:=.str w) (en₁:=⟨[some (.ref R.r),some (.str w),some (.int 0),some (.str w)],[]⟩) (onLs (g n) rfl) rfl (zRets (zIff (c:=true) (H6 q rfl) (zRet rfl)))
  unfold Rdr.isW
  cases e1:R.kA n == "word" with
  |false=>rw[e1] at kd;exact⟨_,fr (zOrT kd)⟩
  |true=>
   rw[e1] at kd
   cases e2:R.wA n==w with
   |false=>rw[e2] at pk;exact⟨_,fr (zOr kd pk)⟩
   |true=>
    rw[e2] at pk;refine⟨⟨[some (.ref R.r),some (.str w),some (.int 1),some (.str w)],[]⟩,?_⟩
    rw[isWord_eq];exact zSeq (zSet rfl) (zSeq (zFor (Rk sc (k:=k+2) h hw hl rfl) (onLs (g n) rfl) (Lk (n:=999) (k:=0) (a:=.str w) (onLs (g n) rfl) rfl (zSeq (zIff (c:=false) (H6 (zOr kd pk) rfl) rfl) (zSeq (zSet (zBin rfl rfl rfl)) rfl)) (zDone (n:=998) (onLs (g n) rfl)))) (zRet rfl))
 obtain⟨en,step⟩:=step
 have run:runE e_Reader_is_word (evS (pc sc (k+3)) b_Reader_is_word) [.ref R.r,.str w] (R.at σ n)=some (.bool (R.isW n w),R.at (σ++[.list [.str w]]) n):=by
  unfold runE runB;rw[if_pos ⟨leB rfl,leB rfl⟩]
  exact on3s step rfl
 rw[R9,run]
 exact gc_at_app h rfl _
theorem skip_ok (h:R.Ok σ){w:Str}(hw:Txt.split w " "=[w])(hl:w.length≤1000000)(hi:n<R.toks.length) :
  callN (pk0 sc) (k+5) (.glob (.ref 561)) [.ref R.r,.str w] (R.at σ n)=some (.bool (R.isW n w),R.at σ (if R.isW n w then n+1 else n)):=by
 have h' : R.Ok (σ++[.list [.str w]]):=h.app rfl
 have iw:ev (pc sc (k+4)) (.not (.meth (.loc 0) "is_word" (.cons (.loc 1) .nil))) ⟨[some (.ref R.r),some (.str w)],[]⟩ (R.at σ n)=some (.bool (!R.isW n w),R.at σ n):=
  zNot (Ww rfl (Lx sc h (fa:=554) rfl rfl) (JG rfl rfl) (is_word_ok sc (k:=k) h hw hl hi))
 have step:evS (pc sc (k+4)) b_Reader_skip ⟨[some (.ref R.r),some (.str w)],[]⟩ (R.at σ n)=some (.ret (.bool (R.isW n w)),⟨[some (.ref R.r),some (.str w)],[]⟩,if R.isW n w then R.at (σ++[.list [.str w]]) (n+1) else R.at σ n):=by
  cases e:R.isW n w with
  |false=>rw[e] at iw;exact zRets (zIff (c:=true) (H6 iw rfl) (zRet rfl))
  |true=>
   rw[e] at iw;have g:(R.at (σ++[.list [.str w]]) n)[σ.length]? = some (.list [.str w]):=(at_new h (QN _)).trans (by rw[UH];rfl)
   have ln:callN (pk0 sc) (k+4) (.glob (.builtin "len")) [.ref σ.length] (R.at (σ++[.list [.str w]]) n)=some (.int 1,R.at (σ++[.list [.str w]]) n):=(congrArg (gc _) (on1s (onLs g (if_pos (leB rfl))) rfl)).trans (gc_at h' rfl)
   have st:setP (pk0 sc) (.ref R.r) "at" (.int ((n:Int)+1)) (R.at (σ++[.list [.str w]]) n)=some (R.at (σ++[.list [.str w]]) (n+1)):=onIs (at_r h') (onDs (at_d h') ((if_pos rfl).trans (congrArg some at_inc)))
   exact zSeq (zIff (c:=false) (H6 iw rfl) rfl) (zSeq (Hq (zBin (W0 rfl (at_pos sc h)) (Vj rfl (JG (Rk sc (k:=k+3) h hw hl rfl) rfl) ln) rfl) rfl st) (zRet rfl))
 have run:runE e_Reader_skip (evS (pc sc (k+4)) b_Reader_skip) [.ref R.r,.str w] (R.at σ n)=some (.bool (R.isW n w),if R.isW n w then R.at (σ++[.list [.str w]]) (n+1) else R.at σ n):=by
  unfold runE runB;rw[if_pos ⟨leB rfl,leB rfl⟩]
  exact on3s step rfl
 rw[c_Reader_skip,run]
 cases R.isW n w with
 |false=>exact gc_at h rfl
 |true=>exact gc_at_app h rfl _
theorem P8 (h:R.Ok σ){w:Str}(hl:w.length≤900000):callN (pk0 sc) (k+1) (.glob (.ref 490)) [.str w] (R.at σ n)=some (.bool (reserved w),R.at σ n):=by
 have e1:(PySem.Str.ofString " ").length+w.length≤1000000:=by rw[blank_len];exact ad2 (QN 1) hl rfl
 have e2:(PySem.Str.ofString " "++w).length+(PySem.Str.ofString " ").length≤1000000:=by rw[PySem.Str.length_append,blank_len];exact adL 1 (VK hl 1) rfl
 have step:evS (pc sc k) b_is_reserved ⟨[some (.str w)],[]⟩ (R.at σ n)=some (.ret (.bool (reserved w)),⟨[some (.str w)],[]⟩,R.at σ n):=by
  exact zRet (zCmp (zBin (zBin rfl rfl (if_pos e1)) rfl (if_pos e2)) rfl cmp_inS)
 have run:runE e_is_reserved (evS (pc sc k) b_is_reserved) [.str w] (R.at σ n)=some (.bool (reserved w),R.at σ n):=by
  unfold runE runB;rw[if_pos ⟨leB rfl,leB rfl⟩]
  exact on3s step rfl
 rw[c_is_reserved,run]
 exact gc_at h rfl
end
end
section
open PySem.SeqAt
set_option genSizeOf false
set_option genInjectivity false
inductive Sc where
 |c (n:Nat)
 |a (i:Nat)
 |e (i:Nat)
inductive SV where
 |none
 |bool (b:Bool)
 |int (i:Int)
 |str (l:List Sc)
 |byt (b:Array UInt8)
 |tup (l:List SV)
 |ref (j:Nat)
 |kn (i:Nat)
 |at (i:Nat)
 |tp (i:Nat)
 |sp (i:Nat)
 |rdr
 |pos (q:Nat)
 |tok (q:Nat)
 |glob (v:Value)
 |clo (id:Nat) (caps:List SV)
structure Dn where
 N:Nat
 v:Nat->AV
 t:Nat->List AV
 s:Nat->List Nat
 e:Nat->List Nat
 l:Nat->List AV
 k:Nat->Nat
 r:Nat
 P:Nat->Nat
 tk:Nat->AV
 B:Nat->Store
noncomputable def Sc.dn (D:Dn):Sc->List Nat
 | .c n=>[n]
 | .a i=>D.s i
 | .e i=>D.e i
noncomputable def strD (D:Dn) (l:List Sc):Str:=⟨(l.flatMap (Sc.dn D)).toArray⟩
mutual
noncomputable def den (D:Dn):SV->AV
 | .none=>.none
 | .bool b=>.bool b
 | .int i=>.int i
 | .str l=>.str (strD D l)
 | .byt b=>.byt b
 | .tup l=>.tup (denM D l)
 | .ref j=>.ref (D.N+j)
 | .kn i=>.ref (D.k i)
 | .at i=>D.v i
 | .tp i=>.tup (D.t i)
 | .sp _=>.none
 | .rdr=>.ref D.r
 | .pos q=>.int (D.P q:Nat)
 | .tok q=>D.tk q
 | .glob v=>.glob v
 | .clo id caps=>.clo id (denM D caps)
noncomputable def denM (D:Dn):List SV->List AV
 | []=>[]
 |v::l=>den D v::denM D l
end
noncomputable def onSp {α:Type} (v:SV) (f:Nat->α) (x:α):α:=match v with
 | .sp i=>f i
 |_=>x
noncomputable def noSp:List SV->Bool
 | []=>true
 |v::l=>onSp v (λZ=>false) (noSp l)
def denC (D:Dn)(l:List SV):List AV:=l.flatMap λv=>onSp v D.l [den D v]
abbrev Ss:=Nat×List (List SV)
abbrev Sr:=Option (SV×Ss)
def denS (D:Dn)(st:Ss):Store:=D.B st.1++st.2.map λl=>.list (denC D l)
noncomputable def asInt:SV->Option Int
 | .int i=>some i
 |_=>none
noncomputable def svStr:SV->Option (List Sc)
 | .str l=>some l
 |_=>none
noncomputable def svTup:SV->Option (List SV)
 | .tup l=>some l
 |_=>none
noncomputable def asPos:SV->Option Nat
 | .pos q=>some q
 |_=>none
noncomputable def asRef:SV->Option Nat
 | .ref j=>some j
 |_=>none
noncomputable def svBool:SV->Option Bool
 | .bool j=>some j
 |_=>none
noncomputable def asByt:SV->Option (Array UInt8)
 | .byt j=>some j
 |_=>none
noncomputable def asGlob:SV->Option Value
 | .glob j=>some j
 |_=>none
noncomputable def conL:List Sc->Option (List Nat)
 | []=>some []
 | .c n::l=>on1 (conL l) λr=>some (n::r)
 |_::_=>none
noncomputable def sureS:List Sc->Bool
 | []=>false
 | .e _::l=>sureS l
 |_::_=>true
def asCon (a:SV):Option (List Nat):=on1 (svStr a) conL
noncomputable def liftStr (x:Str):SV:=.str (x.cps.toList.map .c)
noncomputable def liftV:AV->Option SV
 | .none=>some .none
 | .bool b=>some (.bool b)
 | .int i=>some (.int i)
 | .str x=>some (liftStr x)
 | .byt b=>some (.byt b)
 | .glob v=>some (.glob v)
 |_=>none
noncomputable def orE {γ:Type} (x y:Option γ):Option γ:=match x with
 |some r=>some r
 |none=>y
structure Nv where
 p:Pk
 n:Nat
 call:Nat->SV->List SV->Ss->Sr
 attr:SV->Str->Nat->Option SV
 set:SV->Str->SV->Nat->Option Nat
 get:Str->Option Addr
 padd:Nat->Int->Option Nat
 cell:Nat->Option (List SV)
noncomputable def getC (nv:Nv) (st:Ss):SV->Option (List SV)
 | .ref j=>st.2[j]?
 | .kn i=>nv.cell i
 |_=>none
noncomputable def newL (l:List SV) (st:Ss):SV×Ss:=(.ref st.2.length,st.1,st.2++[l])
noncomputable def small (l:List SV):Bool:=JQ (l.length * 1000) 1000000
noncomputable def smallS (l:List Sc):Nat:=l.length * 1000
noncomputable def some1:List SV->Option Bool
 | []=>some false
 |v::_=>onSp v (λZ=>none) (some true)
noncomputable def isNoneS:SV->Option Bool
 | .none=>some true
 | .at _=>none
 | .sp _=>none
 | .tok _=>some false
 | .glob _=>none
 |_=>some false
def eqS (st:Ss)(a b:SV):Option Bool:=
 orE (on1 (asCon b) λv=>on1 (svStr a) λx=>orE (on1 (conL x) λu=>some (u==v)) (if v.isEmpty&&sureS x then some false else none)) <|
 orE (on1 (asInt a) λi=>on1 (asInt b) λj=>some (i==j)) <|
 orE (on1 (svBool a) λi=>on1 (svBool b) λj=>some (i==j)) <|
 orE (on1 (svTup a) λl=>on1 (svTup b) λl'=>if l'.isEmpty then some l.isEmpty else none) <|
 on1 (asRef a) λi=>on1 (asRef b) λj=>on1 st.2[i]? λl=>on1 st.2[j]? λl'=>if (i != j)&&l'.isEmpty then on1 (some1 l) λb=>some (!b) else none
noncomputable def conAll:List SV->Option (List (List Nat))
 | []=>some []
 |a::l=>on1 (asCon a) λx=>on1 (conAll l) λr=>some (x::r)
def inS (p:Pk)(a b:SV):Option Bool:=on1 (asCon a) λx=>
 orE (on1 (asCon b) λy=>some (hasSub x y)) <|
 orE (on1 (svTup b) λl=>on1 (conAll l) λr=>some (r.any (·==x))) <|
 on1 (asGlob b) λv=>match v with
  | .ref g=>inD p g ⟨x.toArray⟩
  |_=>none
def binS (nv:Nv)(op:Operator)(a b:SV)(st:Ss):Sr:=match op with
 | .Add=>
  orE (on1 (asInt a) λi=>on1 (asInt b) λj=>some (.int (i+j),st)) <|
  orE (on1 (asPos a) λq=>on1 (asInt b) λi=>on1 (nv.padd q i) λq'=>some (.pos q',st)) <|
  orE (on1 (svStr a) λx=>on1 (svStr b) λy=>if smallS x+smallS y≤1000000 then some (.str (x++y),st) else none) <|
  on1 (getC nv st a) λl=>on1 (getC nv st b) λl'=>if small (l++l') then some (newL (l++l') st) else none
 | .Sub=>on1 (asInt a) λi=>on1 (asInt b) λj=>some (.int (i - j),st)
 | .Mult=>on1 (getC nv st a) λl=>on1 (asInt b) λx=>if JQ x.toNat 1000&&small (QK x.toNat l).flatten&&decide (0≤x) then some (newL (QK x.toNat l).flatten st) else none
 |_=>none
def cmpS (nv:Nv)(op:CmpOp)(a b:SV)(st:Ss):Sr:=match op with
 | .Eq=>on1 (eqS st a b) λr=>some (.bool r,st)
 | .NotEq=>on1 (eqS st a b) λr=>some (.bool (!r),st)
 | .In=>on1 (inS nv.p a b) λr=>some (.bool r,st)
 | .NotIn=>on1 (inS nv.p a b) λr=>some (.bool (!r),st)
 | .Is=>on1 (isNoneS b) λc=>if c then on1 (isNoneS a) λr=>some (.bool r,st) else none
 | .IsNot=>on1 (isNoneS b) λc=>if c then on1 (isNoneS a) λr=>some (.bool (!r),st) else none
 | .Lt=>on1 (asInt a) λi=>on1 (asInt b) λj=>some (.bool (decide (i<j)),st)
 | .Gt=>on1 (asInt a) λi=>on1 (asInt b) λj=>some (.bool (decide (i>j)),st)
 | .GtE=>on1 (asInt a) λi=>on1 (asInt b) λj=>some (.bool (decide (i≥j)),st)
 |_=>none
def truthS (nv:Nv)(a:SV)(st:Ss):Option Bool:=
 orE (svBool a)<|orE (on1 (getC nv st a) λl=>if small l then some1 l else none)<|orE (on1 (asInt a) λi=>some (i != 0)) (on1 (isNoneS a) λc=>if c then some false else none)
def subS (p:Pk)(a b:SV)(st:Ss):Sr:=
 orE (on1 (svTup a) λl=>on1 (asInt b) λk=>if idxOk k then on1 (seqIndex? k l.length) λj=>on1 l[j]? λr=>some (r,st) else none) <|
 orE (on1 (asGlob a) λv=>on1 (asCon b) λx=>match v with
  | .ref g=>on1 (p.dict g ⟨x.toArray⟩) λr=>on1 r λw=>on1 (liftV w) λr=>some (r,st)
  |_=>none) <|
 on1 (asCon a) λx=>on1 (asInt b) λk=>if idxOk k then on1 (seqIndex? k x.length) λj=>on1 x[j]? λc=>some (.str [.c c],st) else none
noncomputable def pickG {α:Type} (l:List α) (lo hi:Option Int):List α:=(sliceRange (sliceBounds lo hi none l.length).1 (sliceBounds lo hi none l.length).2.1 (sliceBounds lo hi none l.length).2.2).filterMap (l[·]?)
def sliceS (nv:Nv)(nm:Bool)(a:SV)(lo hi:Option Int)(st:Ss):Sr:=
 orE (on1 (asCon a) λx=>if JQ x.length 1000000 then some (liftStr (Txt.slice ⟨x.toArray⟩ lo hi),st) else none) <|
 on1 (getC nv st a) λl=>if nm&&small l&&noSp l then some (newL (pickG l lo hi) st) else none
def getMS (nv:Nv)(a:SV)(n:Str)(st:Ss):Option (SV×List SV):=match a with
 | .rdr=>on1 (nv.get n) λfa=>some (.glob (.ref fa),[.rdr])
 | .ref j=>on1 st.2[j]? λZ=>on1 (lstMeth n) λid=>some (.glob (.builtin id),[.ref j])
 | .str x=>on1 (strMeth n) λid=>some (.glob (.builtin id),[.str x])
 |_=>none
noncomputable def strsS:List SV->Option (List (List Sc))
 | []=>some []
 |a::l=>on1 (svStr a) λx=>on1 (strsS l) λr=>some (x::r)
noncomputable def joinS (x:List Sc):List (List Sc)->List Sc
 | []=>[]
 | [y]=>y
 |y::z::r=>y++x++joinS x (z::r)
noncomputable def joinOk (x:List Sc) (ys:List (List Sc)):Bool:=JQ ((ys.map List.length).sum * 1000+ys.length * x.length * 1000) 16777216
noncomputable def setC (j:Nat) (l:List SV) (st:Ss):Ss:=(st.1,st.2.set j l)
noncomputable def uL1 {γ:Type} (l:List SV) (f:SV->Option γ):Option γ:=match l with
 | [a]=>f a
 |_=>none
noncomputable def uL2 {γ:Type} (l:List SV) (f:SV->SV->Option γ):Option γ:=match l with
 | [a,b]=>f a b
 |_=>none
noncomputable def intsS:List SV->Option (List Int)
 | []=>some []
 |a::r=>on1 (asInt a) λi=>on1 (intsS r) λl=>if 0≤i∧i<256 then some (i::l) else none
def natS (nv:Nv)(k:Nat')(l:List SV)(st:Ss):Sr:=match k with
 | .len=>uL1 l λa=>orE (on1 (asByt a) λb=>if JQ b.size 1000000 then some (.int b.size,st) else none)<|orE (on1 (svTup a) λl=>if small l then some (.int l.length,st) else none)<|orE (on1 (asCon a) λx=>if JQ x.length 1000000 then some (.int x.length,st) else none)<|on1 (getC nv st a) λl=>if small l&&noSp l then some (.int l.length,st) else none
 | .tuple=>uL1 l λa=>orE (on1 (svTup a) λl=>some (.tup l,st))<|on1 (getC nv st a) λl=>if small l&&noSp l then some (.tup l,st) else none
 | .list=>uL1 l λa=>on1 (svTup a) λl=>if small l&&noSp l then some (newL l st) else none
 | .append=>uL2 l λa b=>on1 (asRef a) λj=>on1 st.2[j]? λl=>if small l&&noSp [b] then some (.none,setC j (l++[b]) st) else none
 | .extend=>uL2 l λa b=>on1 (asRef a) λj=>on1 st.2[j]? λl=>on1 (getC nv st b) λl'=>if small (l++l') then some (.none,setC j (l++l') st) else none
 | .split=>uL2 l λa b=>on1 (asCon a) λx=>on1 (asCon b) λy=>if !y.isEmpty&&JQ x.length 1000000 then some (newL ((Txt.split ⟨x.toArray⟩ ⟨y.toArray⟩).map liftStr) st) else none
 | .join=>uL2 l λa b=>on1 (svStr a) λx=>on1 (getC nv st b) λl=>on1 (strsS l) λys=>if joinOk x ys then some (.str (joinS x ys),st) else none
 | .chr=>uL1 l λa=>on1 (asInt a) λi=>if 0≤i∧i≤1114111 then some (.str [.c i.toNat],st) else none
 | .ord=>uL1 l λa=>on1 (asCon a) λx=>match x with
   | [c]=>some (.int c,st)
   |_=>none
 | .bytes=>uL1 l λa=>on1 (getC nv st a) λl=>on1 (intsS l) λns=>if small l then some (.byt (ns.map λn=>n.toNat.toUInt8).toArray,st) else none
 |_=>none
inductive SSrc where
 |tup (l:List SV)
 |cell (a:SV)
 |rng (n:Int)
 |byt (b:Array UInt8)
 |str (x:List Nat)
def srcS (nv:Nv)(a:SV)(st:Ss):Option SSrc:=match a with
 | .tup l=>some (.tup l)
 | .byt b=>some (.byt b)
 | .str x=>on1 (conL x) λx=>if x.all (· < 128) then some (.str x) else none
 |a=>on1 (getC nv st a) λZ=>some (.cell a)
noncomputable def onES {α:Type} (o:Option α) (f:α->SV):Option (Option SV):=match o with
 |some c=>some (some (f c))
 |none=>some none
def nextS (nv:Nv)(src:SSrc)(k:Nat)(st:Ss):Option (Option SV):=match src with
 | .tup l=>some l[k]?
 | .cell a=>on1 (getC nv st a) λl=>if noSp l then some l[k]? else none
 | .rng n=>if (k:Int)<n then some (some (.int k)) else some none
 | .byt b=>onES b.toList[k]? λc=>.int (c.toNat:Nat)
 | .str x=>onES x[k]? λc=>.str [.c c]
structure Sn where
 loc:List (Option SV)
 cel:List SV
noncomputable def Sn.put (en:Sn) (i:Nat) (a:SV):Sn:={ en with loc:=en.loc.set i (some a) }
def Sn.dn (D:Dn)(en:Sn):En:=⟨en.loc.map (KZ (den D)),en.cel.map (den D)⟩
noncomputable def pickS:List Nat->List SV->Option (List SV)
 | [],_=>some []
 |i::r,l=>on1 l[i]? λa=>on1 (pickS r l) λq=>some (a::q)
noncomputable abbrev CallS:=SV->List SV->Ss->Sr
noncomputable abbrev MdT:=Sn->Ss->Sr
noncomputable abbrev MdTB:=Sn->Ss->Option (Bool×Ss)
def testedS (nv:Nv)(M:MdT):MdTB:=λen st=>on2 (M en st) λa s=>on1 (truthS nv a s) λb=>some (b,s)
noncomputable def compS (nv:Nv) (M:MdT) (T:MdTB) (src:SSrc) (j:Nat) (cel:List SV):Nat->Nat->Ss->Option Ss
 |0,_=>λZ=>none
 |n+1,k=>λst=>onN (nextS nv src k st) (some st) λa=>on2 (T ⟨[some a],cel⟩ st) λt s₁=>
   if t then on2 (M ⟨[some a],cel⟩ s₁) λb sB=>on2 (natS nv .append [.ref j,b] sB) λZ sC=>compS nv M T src j cel n (k+1) sC else compS nv M T src j cel n (k+1) s₁
structure Se where
 nv:Nv
 C:CallS
mutual
noncomputable def sX (e:Se):X->MdT
 | .val a=>λZ st=>on1 (liftV a) λv=>some (v,st)
 | .loc i=>λen st=>on1 en.loc[i]? λo=>on1 o λa=>some (a,st)
 | .cel i=>λen st=>on1 en.cel[i]? λa=>some (a,st)
 | .bin op l r=>λen st=>on2 (sX e l en st) λa s=>on2 (sX e r en s) λb s=>binS e.nv op a b s
 | .cmp op l r=>λen st=>on2 (sX e l en st) λa s=>on2 (sX e r en s) λb s=>cmpS e.nv op a b s
 | .not x=>λen st=>on2 (testedS e.nv (sX e x) en st) λb s=>some (.bool (!b),s)
 | .neg x=>λen st=>on2 (sX e x en st) λa s=>on1 (asInt a) λi=>some (.int (-i),s)
 | .and l r=>λen st=>on2 (sX e l en st) λa s=>on1 (truthS e.nv a s) λb=>if b=false then some (a,s) else sX e r en s
 | .or l r=>λen st=>on2 (sX e l en st) λa s=>on1 (truthS e.nv a s) λb=>if b=true then some (a,s) else sX e r en s
 | .ite t a b=>λen st=>on2 (testedS e.nv (sX e t) en st) λc s=>if c then sX e a en s else sX e b en s
 | .call f as=>λen st=>on2 (sX e f en st) λg s=>on2 (sL e as en s) λl s=>e.C g l s
 | .meth o n as=>λen st=>on2 (sX e o en st) λv s=>on2 (getMS e.nv v n s) λg fst=>on2 (sL e as en s) λl s=>e.C g (fst++l) s
 | .repl o y z=>λen st=>on2 (sX e o en st) λa s=>on1 (asCon a) λx=>if (y==z)=false∧x.length+(x.length+1) * z.length≤16777216 then some (liftStr (Txt.replace ⟨x.toArray⟩ y z),s) else none
 | .attr o n=>λen st=>on2 (sX e o en st) λa s=>on1 (e.nv.attr a n s.1) λb=>some (b,s)
 | .sub o i=>λen st=>on2 (sX e o en st) λa s=>on2 (sX e i en s) λb s=>subS e.nv.p a b s
 | .slice nm o lo hi=>λen st=>on2 (sX e o en st) λa s=>on2 (sO e lo en s) λx s=>on2 (sO e hi en s) λy s=>sliceS e.nv nm a x y s
 | .tup as=>λen st=>on2 (sL e as en st) λl s=>if small l then some (.tup l,s) else none
 | .lst as=>λen st=>on2 (sL e as en st) λl s=>if small l&&noSp l then some (newL l s) else none
 | .comp elt iter ifs is=>λen st=>on2 (sX e iter en st) λa s=>on1 (srcS e.nv a s) λsrc=>on1 (pickS is en.cel) λcaps=>on1 (compS e.nv (sX e elt) (sI e ifs) src s.2.length caps e.nv.n 0 (s.1,s.2++[[]])) λs'=>some (.ref s.2.length,s')
 | .lam id is=>λen st=>on1 (pickS is en.cel) λcaps=>some (.clo id caps,st)
 | .joinRev y x=>λen st=>on2 (sX e x en st) λa s=>on1 (getC e.nv s a) λl=>on1 (strsS l.reverse) λys=>if joinOk (y.cps.toList.map .c) ys&&small l then some (.str (joinS (y.cps.toList.map .c) ys),s) else none
 |_=>λZ Z=>none
noncomputable def sL (e:Se):X->Sn->Ss->Option (List SV×Ss)
 | .nil=>λZ st=>some ([],st)
 | .cons x xs=>λen st=>on2 (sX e x en st) λa s=>on2 (sL e xs en s) λl s=>some (a::l,s)
 |_=>λZ Z=>none
noncomputable def sO (e:Se):X->Sn->Ss->Option (Option Int×Ss)
 | .nil=>λZ st=>some (none,st)
 | .cons x _=>λen st=>on2 (sX e x en st) λa s=>on1 (asInt a) λi=>some (some i,s)
 |_=>λZ Z=>none
noncomputable def sI (e:Se):X->MdTB
 | .nil=>λZ st=>some (true,st)
 | .cons x .nil=>testedS e.nv (sX e x)
 |_=>λZ Z=>none
end
mutual
noncomputable def sA (e:Se):T->SV->Sn->Ss->Option (Sn×Ss)
 | .name i=>λa en st=>some (en.put i a,st)
 | .tup n ts=>λa en st=>on1 (svTup a) λl=>if l.length=n then sAL e ts l en st else none
 |_=>λZ Z Z=>none
noncomputable def sAL (e:Se):T->List SV->Sn->Ss->Option (Sn×Ss)
 | .nil=>λl en st=>match l with | []=>some (en,st)|_=>none
 | .cons t ts=>λl en st=>match l with | []=>none|a::l=>on2 (sA e t a en st) λen₁ s₁=>sAL e ts l en₁ s₁
 |_=>λZ Z Z=>none
end
inductive Sf where
 |next
 |brk
 |ret (a:SV)
noncomputable abbrev MdZ:=Sn->Ss->Option (Sf×Sn×Ss)
noncomputable def seqS (x:Sf) (en:Sn) (st:Ss) (k:MdZ):Option (Sf×Sn×Ss):=match x with
 | .next=>k en st
 |x=>some (x,en,st)
noncomputable def loopS (x:Sf) (en:Sn) (st:Ss) (k:MdZ):Option (Sf×Sn×Ss):=match x with
 | .next=>k en st
 | .brk=>some (.next,en,st)
 | .ret a=>some (.ret a,en,st)
noncomputable def whileS (T:MdTB) (M:MdZ):Nat->MdZ
 |0=>λZ Z=>none
 |n+1=>λen st=>on2 (T en st) λb s=>if b then on3 (M en s) λx enB sB=>loopS x enB sB (whileS T M n) else some (.next,en,s)
noncomputable def forS (nv:Nv) (MA:SV->Sn->Ss->Option (Sn×Ss)) (M:MdZ) (src:SSrc):Nat->Nat->MdZ
 |0,_=>λZ Z=>none
 |n+1,k=>λen st=>onN (nextS nv src k st) (some (.next,en,st)) λa=>on2 (MA a en st) λen₁ s₁=>on3 (M en₁ s₁) λx enB sB=>loopS x enB sB (forS nv MA M src n (k+1))
noncomputable def sS (e:Se):Y->MdZ
 | .nil=>λen st=>some (.next,en,st)
 | .cons s r=>λen st=>on3 (sS e s en st) λx en₁ s₁=>seqS x en₁ s₁ (sS e r)
 | .ret x=>λen st=>on2 (sX e x en st) λa s=>some (.ret a,en,s)
 | .brk=>λen st=>some (.brk,en,st)
 | .pass=>λen st=>some (.next,en,st)
 | .expr x=>λen st=>on2 (sX e x en st) λZ s=>some (.next,en,s)
 | .iff t a b=>λen st=>on2 (testedS e.nv (sX e t) en st) λc s=>if c then sS e a en s else sS e b en s
 | .set i x=>λen st=>on2 (sX e x en st) λa s=>some (.next,en.put i a,s)
 | .setT n ts x=>λen st=>on2 (sX e x en st) λa s=>on2 (sA e (.tup n ts) a en s) λenB sB=>some (.next,enB,sB)
 | .pair i j x=>λen st=>on2 (sX e x en st) λa s=>on1 (svTup a) λl=>uL2 l λu v=>some (.next,(en.put j v).put i u,s)
 | .setAttr o n x=>λen st=>on2 (sX e x en st) λb s=>on2 (sX e o en s) λa s=>on1 (e.nv.set a n b s.1) λq=>some (.next,en,q,s.2)
 | .while t b=>whileS (testedS e.nv (sX e t)) (sS e b) e.nv.n
 | .for t x b=>λen st=>on2 (sX e x en st) λa s=>on1 (srcS e.nv a s) λsrc=>forS e.nv (sA e t) (sS e b) src e.nv.n 0 en s
 | .forR t x b=>λen st=>on2 (sX e x en st) λa s=>on1 (asInt a) λi=>if 0≤i∧i≤1000000 then forS e.nv (sA e t) (sS e b) (.rng i) e.nv.n 0 en s else none
 |_=>λZ Z=>none
mutual
noncomputable def clV (m:Nat):SV->Bool
 | .ref j=>Nat.blt j m
 | .tup l=>clW m l
 | .clo _ l=>clW m l
 |_=>true
noncomputable def clW (m:Nat):List SV->Bool
 | []=>true
 |v::l=>clV m v&&clW m l
end
noncomputable def cl1 (m:Nat) (a:SV) (n:List (List SV)):Bool:=clV m a&&(n.take m).all (clW m)
noncomputable def gcS' (m:Nat) (r:SV×Ss):SV×Ss:=if cl1 m r.1 r.2.2 then (r.1,r.2.1,r.2.2.take m) else if cl1 (m+1) r.1 r.2.2 then (r.1,r.2.1,r.2.2.take (m+1)) else r
noncomputable def liftL:List AV->Option (List SV)
 | []=>some []
 |a::l=>on1 (liftV a) λv=>on1 (liftL l) λr=>some (v::r)
noncomputable def retS (x:Sf) (st:Ss):Sr:=match x with
 | .ret a=>some (a,st)
 | .next=>some (.none,st)
 | .brk=>none
def runS (E:Ent)(M:MdZ)(l:List SV)(st:Ss):Sr:=if E.lo≤l.length∧l.length≤E.np then on1 (liftL (E.dvs.drop (l.length - E.lo))) λd=>on3 (M ⟨(pickB false E.pk (l++d)).map some++QK E.nz none,pickB true E.pk (l++d)⟩ st) λx Z s=>retS x s else none
def callG' (nv:Nv)(C:CallS)(g:SV)(l:List SV)(st:Ss):Sr:=match g with
 | .glob (.ref a)=>on1 (nv.p.fn a) λE=>runS E (sS ⟨nv,C⟩ E.body) l st
 | .glob v=>on1 (natOf v) λk=>natS nv k l st
 | .clo id caps=>on1 (nv.p.lam id) λx=>uL1 l λa=>sX ⟨nv,C⟩ x ⟨[some a],caps⟩ st
 |_=>none
noncomputable def callS (nv:Nv):Nat->CallS
 |0=>λZ Z Z=>none
 |n+1=>λg l st=>orE (nv.call n g l st) (on1 (callG' nv (callS nv n) g l st) λr=>some (gcS' st.2.length r))
end
section
open PySem.SeqAt
structure DnOk (D:Dn)(nv:Nv):Prop where
 len:∀ q,(D.B q).length=D.N
 cl:∀ q,clS D.N (D.B q)=true
 v:∀ i,clA D.N (D.v i)=true
 t:∀ i,clL D.N (D.t i)=true
 tk:∀ q,clA D.N (D.tk q)=true
 tkn:∀ q,isNoneF (D.tk q)=some false
 l:∀ i,clL D.N (D.l i)=true
 ll:∀ i,(D.l i).length≤1000
 r:D.r<D.N
 k:∀ i,D.k i<D.N
 s:∀ i,D.s i≠[]∧(D.s i).length≤1000
 e:∀ i,(D.e i).length≤1000
 attr:∀ a x q b,nv.attr a x q=some b->∀ l,attrP nv.p (den D a) x (D.B q++l)=some (den D b)
 set:∀ a x b q q',nv.set a x b q=some q'->∀ l,setP nv.p (den D a) x (den D b) (D.B q++l)=some (D.B q'++l)
 get:∀ x fa,nv.get x=some fa->∀ q l,getP nv.p (.ref D.r) x (D.B q++l)=some (.glob (.ref fa),[.ref D.r])
 padd:∀ q i q',nv.padd q i=some q'->(D.P q:Int)+i=D.P q'
 cell:∀ i l,nv.cell i=some l->∀ q,(D.B q)[D.k i]? = some (.list (denC D l))
theorem oOr {γ:Type}{P:Prop}{x y:Option γ}{r:γ}(q:orE x y=some r)(k:x=some r->P)(k' : y=some r->P):P:=by
 cases x with
 |none=>exact k' q
 |some v=>exact k q
section
variable {a:SV}
@[elab_as_elim] theorem eInt {i:Int}{G:SV->Prop}(h:asInt a=some i)(k:G (.int i)):G a:=by cases a<;>first|exact nos h|exact(soI h:_=i)▸k
@[elab_as_elim] theorem eStr {i:List Sc}{G:SV->Prop}(h:svStr a=some i)(k:G (.str i)):G a:=by cases a<;>first|exact nos h|exact(soI h:_=i)▸k
@[elab_as_elim] theorem eTup {i:List SV}{G:SV->Prop}(h:svTup a=some i)(k:G (.tup i)):G a:=by cases a<;>first|exact nos h|exact(soI h:_=i)▸k
@[elab_as_elim] theorem ePos {i:Nat}{G:SV->Prop}(h:asPos a=some i)(k:G (.pos i)):G a:=by cases a<;>first|exact nos h|exact(soI h:_=i)▸k
@[elab_as_elim] theorem eRef {i:Nat}{G:SV->Prop}(h:asRef a=some i)(k:G (.ref i)):G a:=by cases a<;>first|exact nos h|exact(soI h:_=i)▸k
@[elab_as_elim] theorem eBool {i:Bool}{G:SV->Prop}(h:svBool a=some i)(k:G (.bool i)):G a:=by cases a<;>first|exact nos h|exact(soI h:_=i)▸k
@[elab_as_elim] theorem eByt {i:Array UInt8}{G:SV->Prop}(h:asByt a=some i)(k:G (.byt i)):G a:=by cases a<;>first|exact nos h|exact(soI h:_=i)▸k
@[elab_as_elim] theorem eGlob {i:Value}{G:SV->Prop}(h:asGlob a=some i)(k:G (.glob i)):G a:=by cases a<;>first|exact nos h|exact(soI h:_=i)▸k
end
section
variable {D:Dn}{nv:Nv}{st:Ss}
theorem Lq:∀ {l:List Sc} {x:List Nat},conL l=some x->l.flatMap (Sc.dn D)=x
 | [],_,h=>soI h
 | .c n::l,_,h=>om1 h λr e q=>soI q▸congrArg (n::·) (Lq e)
 | .a _::_,_,h=>nos h
@[elab_as_elim] theorem eCon {a:SV}{x:List Nat}{G:AV->Prop}(h:asCon a=some x)(k:G (.str ⟨x.toArray⟩)):G (den D a):=
 om1 h λl e q=>eStr (G:=λa=>G (den D a)) e ((Lq q:l.flatMap (Sc.dn D)=x)▸k:G (.str ⟨(l.flatMap (Sc.dn D)).toArray⟩))
theorem qM:∀ (x:List Nat),(x.map Sc.c).flatMap (Sc.dn D)=x
 | []=>rfl
 |a::x=>congrArg (a::·) (qM x)
theorem JM (x:Str):den D (liftStr x) = .str x:=by
 show AV.str ⟨((x.cps.toList.map Sc.c).flatMap (Sc.dn D)).toArray⟩=_
 rw[qM]
theorem lift_is {a:AV}{v:SV}(h:liftV a=some v):den D v=a:=by
 cases a<;>first|exact nos h|exact(soI h:_=v)▸rfl|exact(soI h:_=v)▸JM _
theorem liftL_is:∀ {l:List AV} {v:List SV},liftL l=some v->v.map (den D)=l
 | [],_,h=>soI h▸rfl
 |a::l,_,h=>om1 h λv e h=>om1 h λr e' h=>soI h▸(congr (congrArg V5 (lift_is e)) (liftL_is e'):(v::r).map (den D)=a::l)
theorem Uv:∀ (l:List SV),denM D l=l.map (den D)
 | []=>rfl
 |v::l=>congrArg (den D v::·) (Uv l)
theorem sp_elim {α:Type}{v:SV}{f:Nat->α}{x y:α}{P:Prop}(h:onSp v f x=y)(k:(∀ {β:Type} (g:Nat->β) (z:β),onSp v g z=z)->x=y->P)(k' : ∀ i,v = .sp i->f i=y->P):P:=by
 cases v<;>first|exact k (λZ Z=>rfl) h|exact k' _ rfl h
theorem GM:∀ {l:List SV},noSp l=true->denC D l=l.map (den D)
 | [],_=>rfl
 |v::l,h=>sp_elim h (λe h=>by show onSp v D.l [den D v]++denC D l=_;rw[e,GM h];rfl) λi Z e=>nof e
theorem some1_is {l:List SV}{b:Bool}(h:some1 l=some b):(denC D l).isEmpty = !b:=by
 cases l with
 |nil=>exact soI h▸rfl
 |cons v l=>exact sp_elim h (λe h=>by show (onSp v D.l [den D v]++denC D l).isEmpty=_;rw[e];exact soI h▸rfl) λi Z e=>nos e
theorem Ux (a b:List SV):denC D (a++b)=denC D a++denC D b:=Q8
variable (H:DnOk D nv)
include H
theorem denC_len:∀ (l:List SV),(denC D l).length≤l.length * 1000
 | []=>QN _
 |v::l=>by
  show (onSp v D.l [den D v]++denC D l).length≤_;rw[QV,Qw,Nat.add_mul,U6]
  refine Q6 (denC_len l) ?_
  cases v<;>first|exact H.ll _|exact leB rfl
theorem Uj {l:List SV}(h:small l=true):(denC D l).length≤1000000:=QJ (denC_len H l) (leB h)
theorem strD_len:∀ (l:List Sc),(l.flatMap (Sc.dn D)).length≤l.length * 1000
 | []=>QN _
 |v::l=>by
  show (v.dn D++l.flatMap (Sc.dn D)).length≤_;rw[QV,Qw,Nat.add_mul,U6]
  refine Q6 (strD_len l) ?_
  cases v<;>first|exact(H.s _).2|exact H.e _|exact leB rfl
theorem strD_ne:∀ {l:List Sc},sureS l=true->l.flatMap (Sc.dn D)≠[]
 | .c _::l,_=>VU _ _
 | .a i::l,_=>λe=>(H.s i).1 (GQ.mp (e:D.s i++l.flatMap (Sc.dn D)=[])).1
 | .e i::l,h=>λe=>strD_ne (l:=l) h (GQ.mp (e:D.e i++l.flatMap (Sc.dn D)=[])).2
theorem lenS (st:Ss):(denS D st).length=D.N+st.2.length:=by
 show (D.B st.1++st.2.map _).length=_
 rw[QV,H.len,QH]
theorem getN (st:Ss)(j:Nat):(denS D st)[D.N+j]? = st.2[j]?.map λl=>.list (denC D l):=by
 show (D.B st.1++st.2.map _)[_]? = _
 rw[JJ (by rw[H.len];exact QG _ _),H.len,Uk,Q2]
theorem setN (st:Ss)(j:Nat)(l:List SV):(denS D st).set (D.N+j) (.list (denC D l))=denS D (setC j l st):=by
 show (D.B st.1++st.2.map _).set _ _=D.B st.1++(st.2.set j l).map _
 rw[UQ _ _ (by rw[H.len];exact QG _ _),H.len,Uk,List.map_set]
omit H in
theorem newS (l:List SV)(st:Ss):denS D (newL l st).2=denS D st++[.list (denC D l)]:=by
 show D.B st.1++(st.2++[l]).map _=_
 rw[Q5,← QW];rfl
theorem newA (l:List SV)(st:Ss):den D (newL l st).1 = .ref (denS D st).length:=congrArg AV.ref (lenS H st).symm
theorem Wj (l:List SV)(st:Ss):some (AV.ref (denS D st).length,denS D st++[.list (denC D l)])=some (den D (newL l st).1,denS D (newL l st).2):=by rw[newA H,newS]
@[elab_as_elim] theorem eRefC {a:SV}{j:Nat}{l:List SV}{G:AV->Prop}(h:asRef a=some j)(h' : st.2[j]? = some l)(k:(denS D st)[D.N+j]? = some (.list (denC D l))->G (.ref (D.N+j))):G (den D a):=
 eRef (G:=λa=>G (den D a)) h (k (by rw[getN H,h'];rfl))
@[elab_as_elim] theorem eC {a:SV}{l:List SV}{G:AV->Prop}(h:getC nv st a=some l)(k:∀ i,(denS D st)[i]? = some (.list (denC D l))->G (.ref i)):G (den D a):=by
 cases a with
 |ref j=>exact k _ ((getN H st j).trans (congrArg _ (h:st.2[j]? = some l)))
 |kn i=>exact k _ ((Q3 (by rw[H.len];exact H.k _)).trans (H.cell _ _ h _))
 |_=>exact nos h
theorem NW {a:SV}{b:Bool}(h:isNoneS a=some b):isNoneF (den D a)=some b:=by
 cases a<;>first|exact nos h|exact h|exact(H.tkn _).trans h
omit H in
theorem W3 (u v:List Nat):((⟨u.toArray⟩:Str)==⟨v.toArray⟩)=(u==v):=by
 rw[Hz,beq_iff_eq,beq_iff_eq]
 exact⟨λe=>congrArg (·.cps.toList) e,λe=>e▸rfl⟩
omit H in
theorem notF {a:Bool}(h:(!a)=true):a=false:=by cases a<;>first|rfl|exact nof h
theorem eq_ok' {a b:SV}{r:Bool}(h:eqS st a b=some r):eqAV (den D a) (den D b) (denS D st)=some r:=by
 refine oOr h (λh=>om1 h λv hb h=>om1 h λx ha h=>eCon hb (eStr ha ?_)) λh=>oOr h (λh=>om1 h λi ha h=>om1 h λj hb h=>eInt ha (eInt hb h)) λh=>oOr h (λh=>om1 h λi ha h=>om1 h λj hb h=>eBool ha (eBool hb h)) λh=>
  oOr h (λh=>om1 h λl ha h=>om1 h λl' hb h=>oi h λh0 h=>eTup ha (eTup hb ?_)) λh=>om1 h λi ha h=>om1 h λj hb h=>om1 h λl hl h=>om1 h λl' hl' h=>oi h λh0 h=>om1 h λc hc h9=>eRefC H ha hl λg=>eRefC H hb hl' λg'=>?_
 · show some ((strD D x)==(⟨v.toArray⟩:Str))=_
   refine oOr h (λh=>om1 h λu hu h=>?_) λh=>oi h λh0 h9=>?_
   · unfold strD
     rw[Lq hu,W3];exact h
   · have h0:=and2 h0
     rw[Qx.mp h0.1];rw[W3,← h9]
     exact congrArg some (beq_eq_false_iff_ne.mpr (strD_ne H h0.2))
 · have e:l'=[]:=Qx.mp h0
   subst e;show eqL (eqN 19) (denM D l) []=_
   rw[← h];cases l<;>rfl
 · have h0:=and2 h0
   have e:l'=[]:=Qx.mp h0.2;subst e
   have z:=some1_is (D:=D) hc;show onList (denS D st)[D.N+i]? (λl=>onList (denS D st)[D.N+j]? λl'=>_)=_
   rw[g];show onList (denS D st)[D.N+j]? _=_
   rw[g',← h9];show (if _ then _ else _)=_
   rw[if_pos ⟨λe=>(bne_iff_ne.mp h0.1) (Nat.add_left_cancel e),.inr rfl⟩];refine congrArg some (Eq.trans ?_ z)
   cases denC D l<;>rfl
omit H in
theorem conAll_is:∀ {l:List SV} {r:List (List Nat)},conAll l=some r->denM D l=r.map λx=>.str ⟨x.toArray⟩
 | [],_,h=>soI h▸rfl
 |a::l,_,h=>om1 h λx ha h=>om1 h λr hr h=>soI h▸(show den D a::denM D l=_ by rw[conAll_is hr];exact eCon (G:=λa=>a::r.map (λx=>AV.str ⟨x.toArray⟩)=(x::r).map λx=>.str ⟨x.toArray⟩) ha rfl)
omit H in
theorem in_ok {p:Pk}{a b:SV}{r:Bool}(h:inS p a b=some r):inP p (den D a) (den D b)=some r:=by
 refine om1 h λx ha h=>eCon ha (oOr h (λh=>om1 h λy hb h=>eCon hb ?_) λh=>oOr h (λh=>om1 h λl hb h=>om1 h λu hu h=>eTup hb ?_) λh=>om1 h λv hv h=>eGlob hv ?_)
 · rw[← h];exact congrArg some (inStr_eq _ _)
 · show (if (denM D l).all isStrA then some ((denM D l).any (strIsA ⟨x.toArray⟩)) else none)=_
   rw[conAll_is hu,← h,if_pos (by rw[List.all_map];exact List.all_eq_true.mpr λZ Z=>rfl),List.any_map];refine congrArg some (congrArg (u.any ·) (funext λz=>W3 z x))
 · cases v<;>first|exact nos h|exact h
end
end
section
open PySem.SeqAt
theorem W9 {D:Dn}(l:List SV):(denM D l).length=l.length:=by rw[Uv,QH]
theorem denM_get {D:Dn}{l:List SV}{j:Nat}{r:SV}(h:l[j]? = some r):(denM D l)[j]? = some (den D r):=by rw[Uv,Q2,h];rfl
theorem R1 {D:Dn}{l:List SV}(h:noSp l=true):denC D l=denM D l:=(GM h).trans (Uv l).symm
theorem PV {D:Dn}(x y:List Sc):strD D (x++y)=strD D x++strD D y:=by
 show PySem.Str.mk ((x++y).flatMap (Sc.dn D)).toArray=⟨(x.flatMap _).toArray++(y.flatMap _).toArray⟩
 rw[Q8,List.append_toArray]
section
variable {D:Dn}{nv:Nv}{st:Ss}(H:DnOk D nv)
include H
theorem LJ (x:List Sc):(strD D x).length≤x.length * 1000:=strD_len H x
theorem bin_ok' {op:Operator}{a b r:SV}{st' : Ss}(h:binS nv op a b st=some (r,st')):binF2 op (den D a) (den D b) (denS D st)=some (den D r,denS D st'):=by
 cases op with
 |Add=>
  refine oOr h (λh=>om1 h λi ha h=>om1 h λj hb h=>eInt ha (eInt hb (oe2 h rfl))) λh=>oOr h (λh=>om1 h λq ha h=>om1 h λi hb h=>om1 h λq' hq h=>ePos ha (eInt hb (oe2 h (congrArg (λz=>some (AV.int z,denS D st)) (H.padd _ _ _ hq))))) λh=>
   oOr h (λh=>om1 h λx ha h=>om1 h λy hb h=>oi h λh0 h=>eStr ha (eStr hb (oe2 h ((if_pos (QJ (Q6 (LJ H x) (LJ H y)) h0)).trans (by rw[← PV];rfl))))) λh=>om1 h λl ha h=>om1 h λl' hb h=>oi h λh0 h=>eC H ha λi g=>eC H hb λj g'=>?_
  refine oe2 (h:some ((newL (l++l') st).1,(newL (l++l') st).2)=_) (onLs g (onLs g' ?_));have hl:=Uj H h0
  rw[Ux] at hl;refine(if_pos (by rw[← QV];exact hl)).trans ?_
  rw[← Ux];exact Wj H _ _
 |Sub=>exact om1 h λi ha h=>om1 h λj hb h=>eInt ha (eInt hb (oe2 h rfl))
 |Mult=>
  refine om1 h λl ha h=>om1 h λx hb h=>oi h λh0 h=>eInt hb (eC H ha λi g=>?_)
  have h0:=and3 h0;have e:(QK x.toNat (denC D l)).flatten=denC D (QK x.toNat l).flatten:=by
   generalize x.toNat=m
   induction m with
   |zero=>rfl
   |succ m ih=>rw[Vk,Vk,H9,H9,Ux,ih]
  have hl:=Uj H h0.2.1;rw[← e,List.length_flatten,U2,List.sum_replicate_nat] at hl
  have h1:=leB h0.1;have h2:=of_decide_eq_true h0.2.2
  refine oe2 (h:some ((newL (QK x.toNat l).flatten st).1,(newL (QK x.toNat l).flatten st).2)=_) (onLs g ((if_pos ⟨by omega,by omega,by rw[Nat.mul_comm];exact hl⟩).trans ?_));rw[e];exact Wj H _ _
 |_=>exact nos h
theorem cmp_ok' {op:CmpOp}{a b r:SV}{st' : Ss}(h:cmpS nv op a b st=some (r,st')):cmpP nv.p op (den D a) (den D b) (denS D st)=some (den D r,denS D st'):=by
 cases op with
 |Eq=>exact om1 h λc hc h=>oe2 h (on1s (eq_ok' H hc) (by rw[RG];rfl))
 |NotEq=>exact om1 h λc hc h=>oe2 h (on1s (eq_ok' H hc) (by rw[K3];rfl))
 |In=>exact om1 h λc hc h=>oe2 h (on1s (in_ok hc) rfl)
 |NotIn=>exact om1 h λc hc h=>oe2 h (on1s (in_ok hc) rfl)
 |Is=>exact om1 h λc hc h=>oi h λh0 h=>om1 h λu hu h=>oe2 h ((if_pos (by rw[NW H hc,h0])).trans (on1s (NW H hu) rfl))
 |IsNot=>exact om1 h λc hc h=>oi h λh0 h=>om1 h λu hu h=>oe2 h ((if_pos (by rw[NW H hc,h0])).trans (on1s (NW H hu) rfl))
 |Lt=>exact om1 h λi ha h=>om1 h λj hb h=>eInt ha (eInt hb (oe2 h rfl))
 |Gt=>exact om1 h λi ha h=>om1 h λj hb h=>eInt ha (eInt hb (oe2 h rfl))
 |GtE=>exact om1 h λi ha h=>om1 h λj hb h=>eInt ha (eInt hb (oe2 h rfl))
 |_=>exact nos h
omit H in
theorem truth_no {a:AV}{b:Bool}{σ:Store}(z:isNoneF a=some true)(h:some false=some b):truthF2 a σ=some b:=by
 cases a<;>first|exact nos z|(cases z;done)|exact h
theorem truth_ok' {a:SV}{b:Bool}(h:truthS nv a st=some b):truthF2 (den D a) (denS D st)=some b:=
 oOr h (λh=>eBool h rfl) λh=>oOr h (λh=>om1 h λl ha h=>oi h λh0 h=>eC H ha λi g=>onLs g ((if_pos (Uj H h0)).trans (by rw[some1_is h,Bool.not_not]))) λh=>oOr h (λh=>om1 h λi ha h=>eInt ha h) λh=>om1 h λc hc h=>oi h λh0 h=>
  truth_no (h0▸NW H hc) h
omit H in
theorem sub_ok' {p:Pk}{a b r:SV}{st' : Ss}(h:subS p a b st=some (r,st')):(on1 (subP p (den D a) (den D b) (denS D st)) λr=>some (r,denS D st))=some (den D r,denS D st'):=by
 refine oOr h (λh=>om1 h λl ha h=>om1 h λk hb h=>oi h λh0 h=>om1 h λj hj h=>om1 h λr hr h=>oe2 h (eTup ha (eInt hb (on1s ((if_pos h0).trans (on1s (by rw[W9];exact hj) (denM_get hr))) rfl)))) λh=>
  oOr h (λh=>om1 h λv hv h=>om1 h λx hx h=>eGlob hv (eCon hx (?_:(on1 (subP p (den D (.glob v)) _ _) _)=_))) λh=>om1 h λx hx h=>om1 h λk hb h=>oi h λh0 h=>om1 h λj hj h=>om1 h λc hc h=>oe2 h (eCon hx (eInt hb (on1s ((if_pos h0).trans (on1s (a:=c) (by
   show (seqIndex? k x.toArray.size).bind (x.toArray[·]?)=some c;rw[Q0,hj]
   exact(List.getElem?_toArray ..).trans hc) rfl)) rfl)))
 cases v with
 |ref g=>exact om1 h λu hu h=>om1 h λw hw h=>om1 h λr hr h=>oe2 h (on1s (on1s hu hw) (by rw[lift_is hr]))
 |_=>exact nos h
omit H in
theorem pick_map {α β:Type}(f:α->β)(l:List α)(lo hi:Option Int):pickG (l.map f) lo hi=(pickG l lo hi).map f:=by
 unfold pickG
 rw[QH,List.map_filterMap]
 refine congrArg (List.filterMap · _) (funext λi=>?_)
 rw[Q2]
omit H in
theorem R0 {l:List SV}(h:noSp l=true):∀ (is:List Nat),noSp (is.filterMap (l[·]?))=true
 | []=>rfl
 |i::is=>by
  have key:∀ {l:List SV},noSp l=true->∀ {i:Nat} {v:SV},l[i]? = some v->∀ {z:Bool},onSp v (λZ=>false) z=z:=by
   intro l
   induction l with
   |nil=>intro _ i v e;exact nos e
   |cons w l ih=>
    intro h i v e z;refine sp_elim h (λg h=>?_) λZ Z e=>nof e
    cases i with
    |zero=>exact(soI e:w=v)▸g _ _
    |succ i=>exact ih h e
  rw[Jk]
  cases e:l[i]? with
  |none=>exact R0 h is
  |some v=>exact(key h e).trans (R0 h is)
theorem slice_ok' {sc:ScT}{nm:Bool}{a r:SV}{lo hi:Option Int}{st' : Ss}(h:sliceS nv nm a lo hi st=some (r,st')):sliceF sc nm (den D a) lo hi (denS D st)=some (den D r,denS D st'):=by
 refine oOr h (λh=>om1 h λx hx h=>oi h λh0 h=>oe2 h (eCon hx ((if_pos (leB h0)).trans (by rw[JM])))) λh=>om1 h λl ha h=>oi h λh0 h=>?_
 have h0:=and3 h0
 refine eC H ha λi g=>onLs g ((if_pos ⟨h0.1,Uj H h0.2.1⟩).trans ?_)
 refine oe2 (h:some ((newL (pickG l lo hi) st).1,(newL (pickG l lo hi) st).2)=_) ?_
 refine Eq.trans ?_ (Wj H (pickG l lo hi) st)
 refine congrArg (λz=>some (AV.ref (denS D st).length,denS D st++[AO.list z])) ?_
 exact((congrArg (λz=>pickL z lo hi) (GM h0.2.2)).trans (pick_map (den D) l lo hi)).trans (GM (D:=D) (R0 h0.2.2 _:noSp (pickG l lo hi)=true)).symm
theorem get_ok' {a g:SV}{n:Str}{fst:List SV}(h:getMS nv a n st=some (g,fst)):getP nv.p (den D a) n (denS D st)=some (den D g,fst.map (den D)):=by
 cases a with
 |rdr=>exact om1 h λfa hf h=>oe2 h (H.get _ _ hf _ _)
 |str x=>exact om1 h λid hf h=>oe2 h (on1s hf rfl)
 |ref j=>exact om1 h λl hl h=>om1 h λid hf h=>oe2 h (by
   show onIL (denS D st)[D.N+j]? _ _=_;rw[getN H,hl]
   exact on1s hf rfl)
 |_=>exact nos h
omit H in
theorem lift_map (l:List Str):denC D (l.map liftStr)=l.map .str:=by
 induction l with
 |nil=>rfl
 |cons x l ih=>exact congr (congrArg V5 (JM x)) ih
omit H in
theorem M1:∀ {l:List SV} {r:List (List Sc)},strsS l=some r->noSp l=true∧strsOf (denM D l)=some (r.map (strD D))
 | [],_,h=>soI h▸⟨rfl,rfl⟩
 |a::l,_,h=>om1 h λx ha h=>om1 h λr hr h=>soI h▸(eStr (G:=λa=>noSp (a::l)=true∧strsOf (denM D (a::l))=some ((x::r).map (strD D))) ha ⟨(M1 hr).1,on1s (M1 hr).2 rfl⟩)
omit H in
theorem join_str (x:List Sc):∀ (ys:List (List Sc)),PySem.Str.join (strD D x) (ys.map (strD D))=strD D (joinS x ys)
 | []=>rfl
 | [y]=>rfl
 |y::z::r=>by
  show strD D y++strD D x++PySem.Str.join (strD D x) ((z::r).map (strD D))=strD D (y++x++joinS x (z::r));rw[PV,PV,join_str x (z::r)]
omit H in
theorem join_is (x:List Sc)(ys:List (List Sc)):Txt.join (strD D x) (ys.map (strD D))=strD D (joinS x ys):=(StrLaws.glued_eq_join _ _).trans (join_str x ys)
theorem R2 {x:List Sc}{ys:List (List Sc)}(h:joinOk x ys=true):((ys.map (strD D)).map (·.length)).sum+(ys.map (strD D)).length * (strD D x).length≤16777216:=by
 have key:∀ ys:List (List Sc),((ys.map (strD D)).map (·.length)).sum≤(ys.map List.length).sum * 1000:=λys=>by
  induction ys with
  |nil=>exact QN _
  |cons y ys ih=>
   rw[QM,QM,QM,MM,MM,Nat.add_mul];exact Q6 (LJ H y) ih
 refine QJ (Q6 (key ys) ?_) (leB h)
 rw[QH,Nat.mul_assoc]
 exact JK _ (LJ H x)
end
end
section
open PySem.SeqAt
@[elab_as_elim] theorem uE1 {γ:Type}{l:List SV}{f:SV->Option γ}{r:γ}{G:List SV->Prop}(q:uL1 l f=some r)(k:∀ a,f a=some r->G [a]):G l:=by
 cases l with
 |nil=>exact nos q
 |cons a l=>cases l with
  |nil=>exact k a q
  |cons=>exact nos q
@[elab_as_elim] theorem uE2 {γ:Type}{l:List SV}{f:SV->SV->Option γ}{r:γ}{G:List SV->Prop}(q:uL2 l f=some r)(k:∀ a b,f a b=some r->G [a,b]):G l:=by
 cases l with
 |nil=>exact nos q
 |cons a l=>cases l with
  |nil=>exact nos q
  |cons b l=>cases l with
   |nil=>exact k a b q
   |cons=>exact nos q
theorem LN {D:Dn}:∀ {l:List SV} {r:List Int},intsS l=some r->noSp l=true∧bytsOf (denM D l)=some r
 | [],_,h=>soI h▸⟨rfl,rfl⟩
 |a::l,_,h=>om1 h λx ha h=>om1 h λr hr h=>oi h λh0 h=>soI h▸(eInt (G:=λa=>noSp (a::l)=true∧bytsOf (denM D (a::l))=some (x::r)) ha ⟨(LN (D:=D) hr).1,on1s (LN hr).2 (if_pos h0)⟩)
section
variable {D:Dn}{nv:Nv}{st:Ss}(H:DnOk D nv)
include H
theorem qw {a b r:SV}{st' : Ss}(h:(on1 (asRef a) λj=>on1 st.2[j]? λl=>if small l&&noSp [b] then some (SV.none,setC j (l++[b]) st) else none)=some (r,st')):appendF [den D a,den D b] (denS D st)=some (den D r,denS D st'):=
 om1 h λj ha h=>om1 h λl hl h=>oi h λh0 h=>oe2 h (eRefC H ha hl λg=>onLs g ((if_pos (Uj H (and2 h0).1)).trans (by rw[show denC D l++[den D b]=denC D (l++[b]) by rw[Ux,GM (and2 h0).2];rfl,setN H];rfl)))
theorem nat_ok' {k:Nat'}{l:List SV}{r:SV}{st' : Ss}(h:natS nv k l st=some (r,st')):natF k (l.map (den D)) (denS D st)=some (den D r,denS D st'):=by
 cases k with
 |len=>
  refine uE1 h λa h=>?_
  show (on1 (lenF [den D a] (denS D st)) λv=>some (v,denS D st))=_;exact oOr h (λh=>om1 h λb ha h=>oi h λh0 h=>oe2 h (eByt ha (on1s (if_pos (leB h0)) rfl))) λh=>oOr h (λh=>om1 h λl ha h=>oi h λh0 h=>oe2 h (eTup ha (on1s ((if_pos (by rw[W9];exact QJ (Nat.le_mul_of_pos_right _ (by decide)) (leB h0))).trans (congrArg (λn:Nat=>some (AV.int n)) (W9 l))) rfl))) λh=>
   oOr h (λh=>om1 h λx ha h=>oi h λh0 h=>oe2 h (eCon ha (on1s (if_pos (leB h0)) rfl))) λh=>om1 h λl ha h=>oi h λh0 h=>oe2 h (eC H ha λi g=>on1s (onLs g ((if_pos (Uj H (and2 h0).1)).trans (by rw[GM (and2 h0).2,QH];rfl))) rfl)
 |tuple=>
  refine uE1 h λa h=>?_
  show (on1 (tupleF [den D a] (denS D st)) λv=>some (v,denS D st))=_;exact oOr h (λh=>om1 h λl ha h=>oe2 h (eTup ha rfl)) λh=>om1 h λl ha h=>oi h λh0 h=>oe2 h (eC H ha λi g=>on1s (onLs g ((if_pos (Uj H (and2 h0).1)).trans (by rw[R1 (and2 h0).2];rfl))) rfl)
 |list=>
  refine uE1 h λa h=>?_
  show listF [den D a] (denS D st)=_;exact om1 h λl ha h=>oi h λh0 h=>eTup ha (oe2 (h:some ((newL l st).1,(newL l st).2)=_) ((if_pos (by rw[← R1 (and2 h0).2];exact Uj H (and2 h0).1)).trans (by rw[← R1 (and2 h0).2];exact Wj H l st)))
 |append=>
  exact uE2 h λa b h=>qw H h
 |extend=>
  refine uE2 h λa b h=>?_
  show extendF [den D a,den D b] (denS D st)=_;exact om1 h λj ha h=>om1 h λl hl h=>om1 h λl' hb h=>oi h λh0 h=>oe2 h (eRefC H ha hl λg=>eC H hb λi g'=>onLs g (onLs g' ((if_pos (by rw[← QV,← Ux];exact Uj H h0)).trans (by rw[← Ux,setN H];rfl))))
 |split=>
  refine uE2 h λa b h=>?_
  show splitF [den D a,den D b] (denS D st)=_;exact om1 h λx ha h=>om1 h λy hb h=>oi h λh0 h=>eCon ha (eCon hb (oe2 (h:some ((newL ((Txt.split ⟨x.toArray⟩ ⟨y.toArray⟩).map liftStr) st).1,(newL ((Txt.split ⟨x.toArray⟩ ⟨y.toArray⟩).map liftStr) st).2)=_)
   ((if_pos ⟨(by cases y with|nil=>exact absurd (and2 h0).1 Bool.noConfusion|cons=>rfl),leB (and2 h0).2⟩).trans (by rw[← lift_map (D:=D)];exact Wj H _ st))))
 |join=>
  refine uE2 h λa b h=>?_
  show (on1 (joinF [den D a,den D b] (denS D st)) λv=>some (v,denS D st))=_;exact om1 h λx ha h=>om1 h λl hb h=>om1 h λys hy h=>oi h λh0 h=>oe2 h (eStr ha (eC H hb λi g=>on1s (onLs g (on1s (by rw[R1 (M1 (D:=D) hy).1];exact(M1 hy).2) ((if_pos (R2 H h0)).trans (by rw[join_is (D:=D)];rfl)))) rfl))
 |chr=>
  refine uE1 h λa h=>?_
  show (on1 (chrF [den D a]) λv=>some (v,denS D st))=_;exact om1 h λi ha h=>oi h λh0 h=>oe2 h (eInt ha (on1s (if_pos h0) rfl))
 |ord=>
  refine uE1 h λa h=>?_
  show (on1 (ordF [den D a]) λv=>some (v,denS D st))=_;exact om1 h λx ha h=>eCon ha (by
   cases x with
   |nil=>exact nos h
   |cons c x=>cases x with
    |nil=>exact oe2 h rfl
    |cons=>exact nos h)
 |bytes=>
  refine uE1 h λa h=>?_
  show (on1 (bytesF [den D a] (denS D st)) λv=>some (v,denS D st))=_;exact om1 h λl ha h=>om1 h λns hn h=>oi h λh0 h=>oe2 h (eC H ha λi g=>on1s (onLs g (on1s (by rw[R1 (LN (D:=D) hn).1];exact(LN hn).2) (if_pos (Uj H h0)))) rfl)
 |_=>exact nos h
noncomputable def refI:AV->Nat
 | .ref i=>i
 |_=>0
def srcD (D:Dn):SSrc->Src
 | .tup l=>.tup (denM D l)
 | .cell a=>.list (refI (den D a))
 | .rng n=>.range n
 | .byt b=>.byt b
 | .str x=>.str ⟨x.toArray⟩
theorem src_ok' {a:SV}{src:SSrc}(h:srcS nv a st=some src):srcOf (den D a) (denS D st)=some (srcD D src):=by
 have cell:∀ {a:SV},(on1 (getC nv st a) λZ=>some (SSrc.cell a))=some src->srcOf (den D a) (denS D st)=some (srcD D src):=λ{a} h=>om1 h λl ha h=>oe h (by
  show srcOf (den D a) _=some (Src.list (refI (den D a)));exact eC (G:=λv=>srcOf v (denS D st)=some (Src.list (refI v))) H ha λi g=>onLs g rfl)
 cases a with
 |tup l=>exact oe h rfl
 |byt b=>exact oe h rfl
 |str x=>exact om1 h λu hu h=>oi h λh0 h=>oe h (by
   show (if (strD D x).cps.all (· < 128) then some (Src.str (strD D x)) else none)=_;unfold strD
   rw[Lq hu];exact if_pos (by rw[List.all_toArray];exact h0))
 |_=>exact cell h
theorem W6 {src:SSrc}{k:Nat}{o:Option SV}(h:nextS nv src k st=some o):nextF (srcD D src) k (denS D st)=some (o.map (den D)):=by
 cases src with
 |tup l=>exact oe h (by show some (denM D l)[k]? = _;rw[Uv,Q2])
 |cell a=>exact om1 h λl ha h=>oi h λh0 h=>oe h (by
   show onList (denS D st)[refI (den D a)]? _=_;exact eC (G:=λv=>onList (denS D st)[refI v]? (λl=>some l[k]?)=some (l[k]?.map (den D))) H ha λi g=>onLs g (by rw[GM h0,Q2]))
 |rng n=>
  show (if (k:Int)<n then some (some (AV.int k)) else some none)=_
  by_cases h0:(k:Int)<n
  · exact(if_pos h0).trans (oe ((if_pos h0).symm.trans h) rfl)
  · exact(if_neg h0).trans (oe ((if_neg h0).symm.trans h) rfl)
 |byt b=>
  show onE b[k]? _=_;have h:onES b.toList[k]? (λc=>SV.int (c.toNat:Nat))=some o:=h
  rw[WK] at h
  cases e:b[k]? <;> rw[e] at h<;>exact oe h rfl
 |str x=>
  show onE x.toArray[k]? _=_;have h:onES x[k]? (λc=>SV.str [.c c])=some o:=h
  rw[List.getElem?_toArray]
  cases e:x[k]? <;> rw[e] at h<;>exact oe h rfl
end
def Sf.dn (D:Dn):Sf->Fl
 | .next=>.next
 | .brk=>.brk
 | .ret a=>.ret (den D a)
structure SeOk (D:Dn)(s:Se)(e:Pc):Prop where
 H:DnOk D s.nv
 p:e.p=s.nv.p
 n:s.nv.n≤e.n
 C:∀ g l st r st',s.C g l st=some (r,st')->e.C (den D g) (l.map (den D)) (denS D st)=some (den D r,denS D st')
section
variable {D:Dn}{s:Se}{e:Pc}(O:SeOk D s e)
abbrev XIs (D:Dn)(M:MdT)(R:Md):Prop := ∀ en st a st',M en st=some (a,st')->R (en.dn D) (denS D st)=some (den D a,denS D st')
abbrev TIs (D:Dn)(M:MdTB)(R:MdB):Prop := ∀ en st a st',M en st=some (a,st')->R (en.dn D) (denS D st)=some (a,denS D st')
abbrev LIs (D:Dn)(M:Sn->Ss->Option (List SV×Ss))(R:MdL):Prop := ∀ en st a st',M en st=some (a,st')->R (en.dn D) (denS D st)=some (a.map (den D),denS D st')
abbrev OIs (D:Dn)(M:Sn->Ss->Option (Option Int×Ss))(R:Option Md):Prop := ∀ en st a st',M en st=some (a,st')->partF R (en.dn D) (denS D st)=some (a,denS D st')
theorem pick_is {D:Dn}:∀ {is:List Nat} {l c:List SV},pickS is l=some c->pickC is (l.map (den D))=some (c.map (den D))
 | [],_,_,h=>soI h▸rfl
 |i::is,l,_,h=>om1 h λa ha h=>om1 h λq hq h=>soI h▸(on1s (by rw[Q2,ha];rfl) (on1s (pick_is hq) rfl))
include O
theorem M0 {M:MdT}{R:Md}(h:XIs D M R):TIs D (testedS s.nv M) (tested R truthF2):=λen st b st' q=>
 om q λa s₁ h1 q=>om1 q λc hc q=>oe2 q (on2s (h _ _ _ _ h1) (on1s (truth_ok' O.H hc) rfl))
theorem comp_is {M:MdT}{R:Md}{T:MdTB}{U:MdB}(hM:XIs D M R)(hT:TIs D T U){src:SSrc}{j:Nat}{cel:List SV}:∀ (n N k:Nat),n≤N->∀ st st',compS s.nv M T src j cel n k st=some st'->compM R U (srcD D src) (D.N+j) (cel.map (den D)) N k (denS D st)=some (denS D st')
 |0,_,_,_,_,_,h=>nos h
 |n+1,0,_,hn,_,_,h=>absurd hn (Gk _)
 |n+1,N+1,k,hn,st,st',h=>by
  have go:=comp_is hM hT (src:=src) (j:=j) (cel:=cel) n N (k+1) (V2 hn);refine oN h (λhn h=>oe h (onNn (W6 O.H hn) rfl)) λa ha h=>om h λt s₁ ht h=>onNv (W6 O.H ha) (on2s (hT ⟨[some a],cel⟩ _ _ _ ht) ?_)
  cases t with
  |false=>exact go _ _ h
  |true=>exact om h λb sB hb h=>om h λr sC hr h=>on2s (hM ⟨[some a],cel⟩ _ _ _ hb) (on2s (qw (a:=.ref j) (b:=b) (st:=sB) O.H hr) (go _ _ h))
end
end
section
open PySem.SeqAt
section
variable {D:Dn}{s:Se}{e:Pc}(O:SeOk D s e)
structure XAll (D:Dn)(s:Se)(e:Pc)(x:X):Prop where
 m:XIs D (sX s x) (ev e x)
 l:LIs D (sL s x) (evL e x)
 o:OIs D (sO s x) (evO e x)
 i:TIs D (sI s x) (evI e x)
theorem xE {x:X}(h:XIs D (sX s x) (ev e x))(h1:∀ en st,sL s x en st=none)(h2:∀ en st,sO s x en st=none)(h3:∀ en st,sI s x en st=none):XAll D s e x:=
 ⟨h,λZ Z Z Z q=>nos ((h1 _ _).symm.trans q),λZ Z Z Z q=>nos ((h2 _ _).symm.trans q),λZ Z Z Z q=>nos ((h3 _ _).symm.trans q)⟩
theorem loc_is {en:Sn}{i:Nat}{o:Option SV}{a:SV}(h:en.loc[i]? = some o)(h' : o=some a):(en.dn D).loc[i]? = some (some (den D a)):=by
 show (en.loc.map _)[i]? = _
 rw[Q2,h,h'];rfl
theorem cel_is {en:Sn}{i:Nat}{a:SV}(h:en.cel[i]? = some a):(en.dn D).cel[i]? = some (den D a):=by
 show (en.cel.map _)[i]? = _
 rw[Q2,h];rfl
theorem ev_loc' {en:En}{i:Nat}{a:AV}{σ:Store}(h:en.loc[i]? = some (some a)):ev e (.loc i) en σ=some (a,σ):=by
 show (match en.loc[i]? with|some (some a)=>some (a,σ)|_=>none)=_
 rw[h]
theorem ev_cel' {en:En}{i:Nat}{a:AV}{σ:Store}(h:en.cel[i]? = some a):ev e (.cel i) en σ=some (a,σ):=by
 show (match en.cel[i]? with|some a=>some (a,σ)|_=>none)=_
 rw[h]
theorem bool_is {stop:Bool}{l r:X}{en:Sn}{st st' : Ss}{a:SV}(hl:XIs D (sX s l) (ev e l))(hr:XIs D (sX s r) (ev e r))(O:SeOk D s e)
  (q:(on2 (sX s l en st) λa t=>on1 (truthS s.nv a t) λb=>if b=stop then some (a,t) else sX s r en t)=some (a,st')):boolM stop (ev e l) (ev e r) truthF2 (en.dn D) (denS D st)=some (den D a,denS D st'):=by
 refine om q λb t h1 q=>om1 q λc hc q=>on2s (hl _ _ _ _ h1) (on1s (truth_ok' O.H hc) ?_)
 by_cases h0:c=stop
 · exact(if_pos h0).trans (oe2 ((if_pos h0).symm.trans q) rfl)
 · exact(if_neg h0).trans (hr _ _ _ _ ((if_neg h0).symm.trans q))
theorem noSp_rev {l:List SV}(h:noSp l.reverse=true):noSp l=true:=by
 have key:∀ (a b:List SV),noSp (a++b)=(noSp a&&noSp b):=λa b=>by
  induction a with
  |nil=>rfl
  |cons v a ih=>
   show onSp v _ (noSp (a++b))=(onSp v _ (noSp a)&&noSp b);rw[ih];cases v<;>rfl
 induction l with
 |nil=>rfl
 |cons v l ih=>
  rw[q8,key,Jq] at h;show onSp v _ (noSp l)=true
  rw[ih h.1];exact h.2
include O
set_option maxHeartbeats 0 in
theorem sX_is (x:X):XAll D s e x:=by
 induction x with
 |val a=>exact xE (λen st r st' q=>om1 q λv hv q=>oe2 q (congrArg (λz=>some (z,denS D st)) (lift_is hv).symm)) (λZ Z=>rfl) (λZ Z=>rfl) (λZ Z=>rfl)
 |loc i=>exact xE (λen st r st' q=>om1 q λo ho q=>om1 q λa ha q=>oe2 q (ev_loc' (loc_is ho ha))) (λZ Z=>rfl) (λZ Z=>rfl) (λZ Z=>rfl)
 |cel i=>exact xE (λen st r st' q=>om1 q λa ha q=>oe2 q (ev_cel' (cel_is ha))) (λZ Z=>rfl) (λZ Z=>rfl) (λZ Z=>rfl)
 |bin op l r hl hr=>exact xE (λen st z st' q=>om q λa t h1 q=>om q λb u h2 q=>on2s (hl.m _ _ _ _ h1) (on2s (hr.m _ _ _ _ h2) (bin_ok' O.H q))) (λZ Z=>rfl) (λZ Z=>rfl) (λZ Z=>rfl)
 |cmp op l r hl hr=>exact xE (λen st z st' q=>om q λa t h1 q=>om q λb u h2 q=>on2s (hl.m _ _ _ _ h1) (on2s (hr.m _ _ _ _ h2) (by rw[O.p];exact cmp_ok' O.H q))) (λZ Z=>rfl) (λZ Z=>rfl) (λZ Z=>rfl)
 |not x hx=>exact xE (λen st z st' q=>om q λb t h1 q=>oe2 q (on2s (M0 O hx.m _ _ _ _ h1) rfl)) (λZ Z=>rfl) (λZ Z=>rfl) (λZ Z=>rfl)
 |neg x hx=>exact xE (λen st r st' q=>om q λa t h1 q=>om1 q λi hi q=>oe2 q (on2s (hx.m _ _ _ _ h1) (eInt hi rfl))) (λZ Z=>rfl) (λZ Z=>rfl) (λZ Z=>rfl)
 |and l r hl hr=>exact xE (λen st z st' q=>bool_is hl.m hr.m O q) (λZ Z=>rfl) (λZ Z=>rfl) (λZ Z=>rfl)
 |or l r hl hr=>exact xE (λen st z st' q=>bool_is hl.m hr.m O q) (λZ Z=>rfl) (λZ Z=>rfl) (λZ Z=>rfl)
 |ite t a b ht ha hb=>exact xE (λen st z st' q=>om q λc u h1 q=>on2s (M0 O ht.m _ _ _ _ h1) (by cases c<;>first|exact ha.m _ _ _ _ q|exact hb.m _ _ _ _ q)) (λZ Z=>rfl) (λZ Z=>rfl) (λZ Z=>rfl)
 |call f as hf ha=>exact xE (λen st z st' q=>om q λg t h1 q=>om q λl u h2 q=>on2s (hf.m _ _ _ _ h1) (on2s (ha.l _ _ _ _ h2) (O.C _ _ _ _ _ q))) (λZ Z=>rfl) (λZ Z=>rfl) (λZ Z=>rfl)
 |meth o n as ho ha=>exact xE (λen st z st' q=>om q λv t h1 q=>om q λg fst h3 q=>om q λl u h2 q=>on2s (ho.m _ _ _ _ h1) (on2s (by rw[O.p];exact get_ok' O.H h3) (on2s (ha.l _ _ _ _ h2) (by rw[← Q5];exact O.C _ _ _ _ _ q)))) (λZ Z=>rfl) (λZ Z=>rfl) (λZ Z=>rfl)
 |repl o y z ho=>exact xE (λen st r st' q=>om q λa t h1 q=>om1 q λx hx q=>oi q λh0 q=>oe2 q (on2s (ho.m _ _ _ _ h1) (eCon hx ((if_pos h0).trans (by rw[JM]))))) (λZ Z=>rfl) (λZ Z=>rfl) (λZ Z=>rfl)
 |attr o n ho=>exact xE (λen st r st' q=>om q λa t h1 q=>om1 q λb hb q=>oe2 q (on2s (ho.m _ _ _ _ h1) (on1s (by rw[O.p];exact O.H.attr _ _ _ _ hb _) rfl))) (λZ Z=>rfl) (λZ Z=>rfl) (λZ Z=>rfl)
 |sub o i ho hi=>exact xE (λen st r st' q=>om q λa t h1 q=>om q λb u h2 q=>on2s (ho.m _ _ _ _ h1) (on2s (hi.m _ _ _ _ h2) (by rw[O.p];exact sub_ok' q))) (λZ Z=>rfl) (λZ Z=>rfl) (λZ Z=>rfl)
 |slice nm o lo hi ho hl hh=>exact xE (λen st r st' q=>om q λa t h1 q=>om q λx u h2 q=>om q λy w h3 q=>on2s (ho.m _ _ _ _ h1) (on2s (hl.o _ _ _ _ h2) (on2s (hh.o _ _ _ _ h3) (slice_ok' O.H q)))) (λZ Z=>rfl) (λZ Z=>rfl) (λZ Z=>rfl)
 |tup as ha=>
  refine xE (λen st r st' q=>om q λl t h1 q=>oi q λh0 q=>oe2 q (on2s (ha.l _ _ _ _ h1) ?_)) (λZ Z=>rfl) (λZ Z=>rfl) (λZ Z=>rfl);refine(if_pos (by rw[QH];exact QJ (Nat.le_mul_of_pos_right _ (by decide)) (leB h0))).trans ?_
  exact congrArg (λz=>some (AV.tup z,denS D t)) (Uv l).symm
 |lst as ha=>
  refine xE (λen st r st' q=>om q λl t h1 q=>oi q λh0 q=>oe2 (q:some ((newL l t).1,(newL l t).2)=_) (on2s (ha.l _ _ _ _ h1) ?_)) (λZ Z=>rfl) (λZ Z=>rfl) (λZ Z=>rfl);rw[← GM (and2 h0).2]
  exact(if_pos (Uj O.H (and2 h0).1)).trans (Wj O.H l t)
 |comp elt iter ifs is he hi hf=>
  refine xE (λen st r st' q=>om q λa t h1 q=>om1 q λsrc hs q=>om1 q λcaps hc q=>om1 q λu hu q=>oe2 q ?_) (λZ Z=>rfl) (λZ Z=>rfl) (λZ Z=>rfl);have z:=comp_is O he.m hf.i s.nv.n e.n 0 O.n _ _ hu
  refine on2s (hi.m _ _ _ _ h1) (on1s (src_ok' O.H hs) (on1s (pick_is hc) ?_));rw[lenS O.H t]
  exact on1s ((congrArg _ (newS [] t).symm).trans z) rfl
 |lam id is=>exact xE (λen st r st' q=>om1 q λcaps hc q=>oe2 q (on1s (pick_is hc) (congrArg (λz=>some (AV.clo id z,denS D st)) (Uv caps).symm))) (λZ Z=>rfl) (λZ Z=>rfl) (λZ Z=>rfl)
 |joinRev y x hx=>
  refine xE (λen st r st' q=>om q λa t h1 q=>om1 q λl ha q=>om1 q λys hy q=>oi q λh0 q=>oe2 q (on2s (hx.m _ _ _ _ h1) (eC O.H ha λi g=>onLs g (on1s (a:=ys.map (strD D)) ?_ ?_)))) (λZ Z=>rfl) (λZ Z=>rfl) (λZ Z=>rfl)
  · have z:=M1 (D:=D) hy
    rw[GM (noSp_rev z.1),← List.map_reverse,← Uv];exact z.2
  · have e:strD D (y.cps.toList.map .c)=y:=by show PySem.Str.mk _=y;rw[qM]
    have k:=R2 O.H (and2 h0).1;have w:=join_is (D:=D) (y.cps.toList.map .c) ys
    rw[e] at k w;refine(if_pos ⟨k,Uj O.H (and2 h0).2⟩).trans ?_
    rw[w];rfl
 |nil=>exact⟨λZ Z Z Z q=>nos q,λen st l st' q=>oe2 q rfl,λen st l st' q=>oe2 q rfl,λen st l st' q=>oe2 q rfl⟩
 |cons x xs hx hs=>
  refine⟨λZ Z Z Z q=>nos q,λen st l st' q=>om q λa t h1 q=>om q λl u h2 q=>oe2 q (on2s (hx.m _ _ _ _ h1) (on2s (hs.l _ _ _ _ h2) rfl)),λen st l st' q=>om q λa t h1 q=>om1 q λi hi q=>oe2 q (on2s (hx.m _ _ _ _ h1) (eInt (G:=λa=>onInt (den D a) (λi=>some (some i,denS D t))=some (some i,denS D t)) hi rfl)),λen st b st' q=>?_⟩
  cases xs<;>first|exact nos q|exact M0 O hx.m _ _ _ _ q
 |_=>exact xE (λZ Z Z Z q=>nos q) (λZ Z=>rfl) (λZ Z=>rfl) (λZ Z=>rfl)
end
end
section
open PySem.SeqAt
section
variable {D:Dn}{s:Se}{e:Pc}
abbrev AIs (D:Dn)(M:SV->Sn->Ss->Option (Sn×Ss))(R:MdA):Prop := ∀ a en st en' st',M a en st=some (en',st')->R (den D a) (en.dn D) (denS D st)=some (en'.dn D,denS D st')
abbrev ALIs (D:Dn)(M:List SV->Sn->Ss->Option (Sn×Ss))(R:MdAL):Prop := ∀ a en st en' st',M a en st=some (en',st')->R (a.map (den D)) (en.dn D) (denS D st)=some (en'.dn D,denS D st')
abbrev ZIs (D:Dn)(M:MdZ)(R:MdS):Prop := ∀ en st x en' st',M en st=some (x,en',st')->R (en.dn D) (denS D st)=some (x.dn D,en'.dn D,denS D st')
theorem put_is {en:Sn}{i:Nat}{a:SV}:(en.dn D).put i (den D a)=(en.put i a).dn D:=by
 show En.mk _ _=En.mk _ _
 rw[show (en.put i a).loc=en.loc.set i (some a) from rfl,List.map_set]
 rfl
structure TAll (D:Dn)(s:Se)(e:Pc)(t:T):Prop where
 a:AIs D (sA s t) (evA e t)
 l:ALIs D (sAL s t) (evAL e t)
theorem sA_is (t:T):TAll D s e t:=by
 induction t with
 |name i=>exact⟨λa en st en' st' q=>oe2 q (congrArg (λz=>some (z,denS D st)) put_is),λZ Z Z Z Z q=>nos q⟩
 |sub=>exact⟨λZ Z Z Z Z q=>nos q,λZ Z Z Z Z q=>nos q⟩
 |tup n ts h=>exact⟨λa en st en' st' q=>om1 q λl ha q=>oi q λh0 q=>eTup ha ((if_pos (by rw[W9];exact h0)).trans (by rw[Uv];exact h.l _ _ _ _ _ q)),λZ Z Z Z Z q=>nos q⟩
 |nil=>
  refine⟨λZ Z Z Z Z q=>nos q,λl en st en' st' q=>?_⟩
  cases l with
  |nil=>exact oe2 q rfl
  |cons=>exact nos q
 |cons t ts h hs=>
  refine⟨λZ Z Z Z Z q=>nos q,λl en st en' st' q=>?_⟩
  cases l with
  |nil=>exact nos q
  |cons a l=>exact om q λen₁ s₁ h1 q=>on2s (h.a _ _ _ _ _ h1) (hs.l _ _ _ _ _ q)
variable (O:SeOk D s e)
theorem loop_is {x x' : Sf}{en en' : Sn}{st st' : Ss}{k:MdZ}{K:MdS}(hk:ZIs D k K)(q:loopS x en st k=some (x',en',st')):(match (generalizing:=false) x.dn D with
  | .next=>K (en.dn D) (denS D st)
  | .brk=>some (.next,en.dn D,denS D st)
  | .ret a=>some (.ret a,en.dn D,denS D st))=some (x'.dn D,en'.dn D,denS D st'):=by
 cases x with
 |next=>exact hk _ _ _ _ _ q
 |brk=>exact oe3 q rfl
 |ret a=>exact oe3 q rfl
theorem while_is {T:MdTB}{U:MdB}{M:MdZ}{R:MdS}(hT:TIs D T U)(hM:ZIs D M R):∀ (n N:Nat),n≤N->ZIs D (whileS T M n) (whileM U R N)
 |0,_,_=>λZ Z Z Z Z q=>nos q
 |n+1,0,hn=>absurd hn (Gk _)
 |n+1,N+1,hn=>λen st x en' st' q=>om q λb s₁ hb q=>on2s (hT _ _ _ _ hb) (by
  cases b with
  |false=>exact oe3 q rfl
  |true=>exact om3 q λy enB sB hy q=>on3s (hM _ _ _ _ _ hy) (loop_is (while_is hT hM n N (V2 hn)) q))
include O
theorem for_is {MA:SV->Sn->Ss->Option (Sn×Ss)}{RA:MdA}{M:MdZ}{R:MdS}(hA:AIs D MA RA)(hM:ZIs D M R){src:SSrc}:∀ (n N k:Nat),n≤N->ZIs D (forS s.nv MA M src n k) (forM RA R (srcD D src) N k)
 |0,_,_,_=>λZ Z Z Z Z q=>nos q
 |n+1,0,_,hn=>absurd hn (Gk _)
 |n+1,N+1,k,hn=>λen st x en' st' q=>oN q (λhk q=>oe3 q (onNn (W6 O.H hk) rfl)) λa ha q=>om q λen₁ s₁ h1 q=>om3 q λy enB sB hy q=>
  onNv (W6 O.H ha) (on2s (hA _ _ _ _ _ h1) (on3s (hM _ _ _ _ _ hy) (loop_is (for_is hA hM n N (k+1) (V2 hn)) q)))
theorem PH (y:Y):ZIs D (sS s y) (evS e y):=by
 have X:=λx=>(sX_is O x).m
 have Te:=λx=>M0 O (X x)
 induction y with
 |nil=>exact λen st x en' st' q=>oe3 q rfl
 |cons y r hy hr=>exact λen st x en' st' q=>om3 q λz en₁ s₁ h1 q=>on3s (hy _ _ _ _ _ h1) (by
   cases z with
   |next=>exact hr _ _ _ _ _ q
   |brk=>exact oe3 q rfl
   |ret a=>exact oe3 q rfl)
 |ret x=>exact λen st z en' st' q=>om q λa s₁ h1 q=>oe3 q (on2s (X x _ _ _ _ h1) rfl)
 |brk=>exact λen st x en' st' q=>oe3 q rfl
 |pass=>exact λen st x en' st' q=>oe3 q rfl
 |expr x=>exact λen st z en' st' q=>om q λa s₁ h1 q=>oe3 q (on2s (X x _ _ _ _ h1) rfl)
 |iff t a b ha hb=>exact λen st z en' st' q=>om q λc s₁ h1 q=>on2s (Te t _ _ _ _ h1) (by cases c<;>first|exact ha _ _ _ _ _ q|exact hb _ _ _ _ _ q)
 |set i x=>exact λen st z en' st' q=>om q λa s₁ h1 q=>oe3 q (on2s (X x _ _ _ _ h1) (congrArg (λz=>some (Fl.next,z,denS D s₁)) put_is))
 |setT n ts x=>exact λen st z en' st' q=>om q λa s₁ h1 q=>om q λenB sB h2 q=>oe3 q (on2s (X x _ _ _ _ h1) (on2s ((sA_is (.tup n ts)).a _ _ _ _ _ h2) rfl))
 |pair i j x=>exact λen st z en' st' q=>om q λa s₁ h1 q=>om1 q λl hl q=>on2s (X x _ _ _ _ h1) (eTup hl (uE2 q λu v q=>oe3 q (by
   show some (Fl.next,_,_)=_;rw[put_is,put_is];rfl)))
 |setAttr o n x=>exact λen st z en' st' q=>om q λb s₁ h1 q=>om q λa sB h2 q=>om1 q λp hp q=>oe3 q (on2s (X x _ _ _ _ h1) (on2s (X o _ _ _ _ h2) (on1s (by rw[O.p];exact O.H.set _ _ _ _ _ hp _) rfl)))
 | «while» t b hb=>exact while_is (Te t) hb _ _ O.n
 | «for» t x b hb=>exact λen st z en' st' q=>om q λa s₁ h1 q=>om1 q λsrc hs q=>on2s (X x _ _ _ _ h1) (on1s (src_ok' O.H hs) (for_is O (sA_is t).a hb _ _ 0 O.n _ _ _ _ _ q))
 |forR t x b hb=>exact λen st z en' st' q=>om q λa s₁ h1 q=>om1 q λi hi q=>oi q λh0 q=>on2s (X x _ _ _ _ h1) (eInt hi ((if_pos h0).trans (for_is O (sA_is t).a hb (src:=.rng i) _ _ 0 O.n _ _ _ _ _ q)))
 |_=>exact λZ Z Z Z Z q=>nos q
end
section
variable {D:Dn}{nv:Nv}(H:DnOk D nv)
include H
omit H in
theorem pickB_map {α β:Type}(f:α->β){b:Bool}:∀ (ks:List Bool) (l:List α),pickB b ks (l.map f)=(pickB b ks l).map f
 | [],l=>by cases l<;>rfl
 |_::_,[]=>rfl
 |k::ks,a::l=>by
  show (if k==b then f a::pickB b ks (l.map f) else pickB b ks (l.map f))=(if k==b then a::pickB b ks l else pickB b ks l).map f;rw[pickB_map f ks l]
  cases k==b<;>rfl
omit H in
theorem run_is {s:Se}{e:Pc}(O:SeOk D s e){E:Ent}{y:Y}{l:List SV}{st st' : Ss}{r:SV}(q:runS E (sS s y) l st=some (r,st')):runE E (evS e y) (l.map (den D)) (denS D st)=some (den D r,denS D st'):=by
 refine oi q λh0 q=>om1 q λd hd q=>om3 q λx en s₁ h1 q=>(if_pos (by rw[QH];exact h0)).trans ?_
 have z:=PH O y _ _ _ _ _ h1
 have e:∀ b,pickB b E.pk (l.map (den D)++E.dvs.drop ((l.map (den D)).length - E.lo))=(pickB b E.pk (l++d)).map (den D):=λb=>by
  rw[QH,← liftL_is (D:=D) hd,← Q5,pickB_map]
 rw[e,e]
 have eL:((pickB false E.pk (l++d)).map some++QK E.nz none).map (KZ (den D))=((pickB false E.pk (l++d)).map (den D)).map some++QK E.nz none:=by
  rw[Q5,U2,VZ,VZ];rfl
 unfold Sn.dn at z
 rw[eL] at z
 refine on3s z ?_
 cases x with
 |next=>exact oe2 q rfl
 |brk=>exact nos q
 |ret a=>exact oe2 q rfl
theorem clV_is (m:Nat):(∀ a:SV,clA (D.N+m) (den D a)=clV m a)∧∀ l:List SV,clL (D.N+m) (denM D l)=clW m l:=by
 have up:=qN (QG D.N m)
 have key:∀ a:SV,clA (D.N+m) (den D a)=clV m a:=λa=>SV.rec (motive_1:=λa=>clA (D.N+m) (den D a)=clV m a) (motive_2:=λl=>clL (D.N+m) (denM D l)=clW m l)
  rfl (λZ=>rfl) (λZ=>rfl) (λZ=>rfl) (λZ=>rfl) (λl ih=>ih) (λj=>by
   show decide (D.N+j<D.N+m)=Nat.blt j m;rw[Hz,decide_eq_true_eq,Nat.blt_eq,Nat.add_lt_add_iff_left])
  (λi=>decide_eq_true (ltL (H.k i) (QG _ _))) (λi=>up.1 _ (H.v i)) (λi=>up.2 _ (H.t i)) (λZ=>rfl) (decide_eq_true (ltL H.r (QG _ _))) (λZ=>rfl) (λq=>up.1 _ (H.tk q)) (λZ=>rfl) (λZ l ih=>ih)
  rfl (λa l i j=>congr (congrArg and i) j) a
 refine⟨key,λl=>?_⟩
 induction l with
 |nil=>rfl
 |cons a l ih=>exact congr (congrArg and (key a)) ih
omit H in
theorem clL_app' {m:Nat}:∀ (a b:List AV),clL m (a++b)=(clL m a&&clL m b)
 | [],b=>rfl
 |x::a,b=>(congrArg (clA m x&&·) (clL_app' a b)).trans (Bool.and_assoc ..).symm
omit H in
theorem clD_up' {n m:Nat}(h:n≤m):∀ (es:List (Str×AV)),clD n es=true->clD m es=true
 | [],_=>rfl
 | (_,_)::es,q=>anI ⟨(qN h).1 _ (and2 q).1,clD_up' h es (and2 q).2⟩
omit H in
theorem Lj {n m:Nat}(h:n≤m):∀ (τ:Store),clS n τ=true->clS m τ=true
 | [],_=>rfl
 | .list l::τ,q=>anI ⟨(qN h).2 l (and2 q).1,Lj h τ (and2 q).2⟩
 | .inst C d::τ,q=>anI ⟨decide_eq_true (ltL (of_decide_eq_true (and2 q).1) h),Lj h τ (and2 q).2⟩
 | .dict es::τ,q=>anI ⟨clD_up' h es (and2 q).1,Lj h τ (and2 q).2⟩
theorem R8 (m:Nat):∀ l:List SV,clL (D.N+m) (denC D l)=clW m l
 | []=>rfl
 |a::l=>by
  show clL _ (onSp a D.l [den D a]++denC D l)=(clV m a&&clW m l);rw[clL_app',R8 m l]
  refine congrArg (·&&_) ?_;have k:clL (D.N+m) [den D a]=clV m a:=by rw[← (clV_is H m).1 a];exact Bool.and_true _
  cases a with
  |sp i=>exact(qN (QG D.N m)).2 _ (H.l i)
  |_=>exact k
theorem cl1_is (m:Nat)(a:SV)(st:Ss):gc1 (D.N+m) (den D a,denS D st)=cl1 m a st.2:=by
 show (clA (D.N+m) (den D a)&&clS (D.N+m) ((D.B st.1++st.2.map _).take (D.N+m)))=(clV m a&&(st.2.take m).all (clW m))
 rw[(clV_is H m).1 a,List.take_append,H.len,Uk,J7 (by rw[H.len];exact QG _ _),G2,Lj (QG _ _) _ (H.cl st.1),Bool.true_and,← List.map_take]
 refine congrArg _ ?_
 generalize st.2.take m=l
 induction l with
 |nil=>rfl
 |cons a l ih=>exact congr (congrArg and (R8 H m a)) ih
theorem take_is (m:Nat)(st:Ss):(denS D st).take (D.N+m)=denS D (st.1,st.2.take m):=by
 show (D.B st.1++st.2.map _).take (D.N+m)=D.B st.1++(st.2.take m).map _
 rw[List.take_append,H.len,Uk,J7 (by rw[H.len];exact QG _ _),List.map_take]
theorem gc_is (m:Nat)(r:SV×Ss):gcR (D.N+m) (den D r.1,denS D r.2)=(den D (gcS' m r).1,denS D (gcS' m r).2):=by
 show (if gc1 (D.N+m) _=true then _ else if gc1 (D.N+m+1) _=true then _ else _)=_
 have e1:=cl1_is H m r.1 r.2
 have e2:=cl1_is H (m+1) r.1 r.2
 have e3:=take_is H m r.2
 have e4:=take_is H (m+1) r.2
 rw[← Gv] at e2 e4
 rw[e1,e2,e3,e4]
 unfold gcS'
 cases cl1 m r.1 r.2.2 with
 |true=>rfl
 |false=>cases cl1 (m+1) r.1 r.2.2<;>rfl
theorem H8 {K:Nat}(hp:nv.n≤1000)(hn:∀ n g l st r st',nv.call n g l st=some (r,st')->callN nv.p (K+n+1) (den D g) (l.map (den D)) (denS D st)=some (den D r,denS D st')) :
  ∀ n g l st r st',callS nv n g l st=some (r,st')->callN nv.p (K+n) (den D g) (l.map (den D)) (denS D st)=some (den D r,denS D st')
 |0,_,_,_,_,_,h=>nos h
 |n+1,g,l,st,r,st',h=>by
  have O:SeOk D ⟨nv,callS nv n⟩ ⟨nv.p,callN nv.p (K+n),1000,nv.p.exc⟩:=⟨H,rfl,hp,H8 hp hn n⟩;refine oOr h (λh=>hn _ _ _ _ _ _ h) λh=>om1 h λz hz h=>?_
  have e:callG nv.p (callN nv.p (K+n)) (den D g) (l.map (den D)) (denS D st)=some (den D z.1,denS D z.2):=by
   obtain⟨z1,z2⟩:=z
   cases g with
   |glob v=>
    have nat:∀ v,(on1 (natOf v) λk=>natS nv k l st)=some (z1,z2)->(on1 (natOf v) λk=>natF k (l.map (den D)) (denS D st))=some (den D z1,denS D z2):=λv h=>om1 h λk hk h=>on1s hk (nat_ok' H h)
    cases v with
    |ref a=>
     refine om1 hz λE hE h=>?_
     show callA nv.p _ a _ _=_;unfold callA
     rw[hE];exact run_is O h
    |type v=>exact nat (.type v) hz
    |builtin v=>exact nat (.builtin v) hz
    |_=>exact nos hz
   |clo id caps=>exact om1 hz λx hx h=>on1s hx (uE1 h λa h=>(if_pos rfl).trans (by rw[Uv];exact(sX_is O x).m _ _ _ _ h))
   |_=>exact nos hz
  show gc _ (callG nv.p (callN nv.p (K+n)) (den D g) (l.map (den D)) (denS D st))=_;rw[e,lenS H]
  exact(congrArg some (gc_is H st.2.length z)).trans (by rw[soI h])
end
end
section
open PySem.SeqAt
open Rdr
def At (R:Rdr)(n:Nat)(l:List Tk):Prop := ∃ r,R.toks.drop n=l++r
section
variable {R:Rdr}{n:Nat}{l m:List Tk}
theorem At.left (a:At R n (l++m)):At R n l:=let ⟨r,e⟩:=a; ⟨m++r,by rw[e,QW]⟩
theorem At.right (a:At R n (l++m)):At R (n+l.length) m:=by
 obtain⟨r,e⟩:=a
 refine⟨r,?_⟩
 rw[← List.drop_drop,e,QW,List.drop_left]
theorem At.get0 {t:Tk}(a:At R n (t::l)):R.toks[n]? = some t:=by
 obtain⟨r,e⟩:=a
 rw[← V3 n,← List.getElem?_drop,e];rfl
theorem At.k0 {t:Tk}(a:At R n (t::l)):R.kA n=t.1:=by unfold Rdr.kA;rw[a.get0];rfl
theorem At.w0 {t:Tk}(a:At R n (t::l)):R.wA n=t.2:=by unfold Rdr.wA;rw[a.get0];rfl
theorem At.lt0 {t:Tk}(a:At R n (t::l)):n<R.toks.length:=(QQ.mp a.get0).1
theorem At.tail {t:Tk}(a:At R n (t::l)):At R (n+1) l:=At.right (l:=[t]) a
end
noncomputable abbrev refV (w:Str) (subs:List AV):AV:=.tup [.str "ref",.str w,.tup [],.tup subs,.none]
noncomputable abbrev wtk (w:Str):Tk:=("word",w)
structure Itm where
 nm:Str
 sub:Bool
noncomputable def Itm.toks (x:Itm):List Tk:=("word",x.nm)::if x.sub then [("sign","("),("word","I"),("sign",")")] else []
def Itm.val (x:Itm):AV:=refV x.nm (if x.sub then [refV "I" []] else [])
inductive Tx where
 |itm (x:Itm)
 |fig (w:Str)
 |lit (c:Nat)
noncomputable def Tx.toks:Tx->List Tk
 | .itm x=>x.toks
 | .fig w=>[("word",w)]
 | .lit c=>[("literal",⟨#[c]⟩)]
noncomputable def Tx.val:Tx->AV
 | .itm x=>x.val
 | .fig w=>.tup [.str "figure",.str w]
 | .lit c=>.tup [.str "text",.byt #[c.toUInt8]]
noncomputable def allI:List Itm:=[⟨"T",false⟩,⟨"T",true⟩,⟨"N-1",false⟩,⟨"N-1",true⟩,⟨"K",false⟩,⟨"K",true⟩]
noncomputable def allT:List Tx:=allI.map .itm++[.fig "SPACE",.fig "ZERO",.fig "QUOTE",.lit 120,.lit 66,.lit 55,.lit 46]
def Itm.Is (x:Itm):Prop:=x∈allI
def Tx.Is (x:Tx):Prop:=x∈allT
def ini (i:Bool):List Tk:=if i then [wtk "INITIAL"] else []
def bpart (w:Str):Option (Bool×Tx)->List Tk
 |none=>[]
 |some (i,x)=>wtk w::(ini i++x.toks)
noncomputable def partV:Option (Bool×Tx)->AV
 |none=>.none
 |some (_,x)=>x.val
noncomputable def PartIs:Option (Bool×Tx)->Prop
 |none=>True
 |some (_,x)=>x.Is
structure Bnd where
 b:Option (Bool×Tx)
 a:Option (Bool×Tx)
 ba:Bool
def Bnd.toks (x:Bnd):List Tk:=if x.ba then bpart "BEFORE" x.b++bpart "AFTER" x.a else bpart "AFTER" x.a++bpart "BEFORE" x.b
def Bnd.Is (x:Bnd):Prop:=PartIs x.b∧PartIs x.a
noncomputable def Bnd.val (x:Bnd):List AV:=[partV x.b,partV x.a]
inductive TK where
 |chars
 |all (x:Tx)
 |lead (x:Tx)
noncomputable def TK.op:TK->Option Tx
 | .chars=>none
 | .all x=>some x
 | .lead x=>some x
noncomputable def TK.word:TK->Str
 | .chars => "CHARACTERS"
 | .all _ => "ALL"
 | .lead _ => "LEADING"
noncomputable def opAV:Option Tx->AV
 |none=>.none
 |some x=>x.val
noncomputable def opT:Option Tx->List Tk
 |none=>[]
 |some x=>x.toks
noncomputable def OpIs:Option Tx->Prop
 |none=>True
 |some x=>x.Is
structure Trow where
 c:Itm
 k:TK
 bd:Bnd
def Trow.toks (r:Trow):List Tk:=r.c.toks++(wtk "FOR"::wtk r.k.word::(opT r.k.op++r.bd.toks))
noncomputable def Trow.val (r:Trow):AV:=.tup [r.c.val,.str r.k.word,opAV r.k.op,partV r.bd.b,partV r.bd.a]
structure Trow.Is (r:Trow):Prop where
 c:r.c.Is
 k:OpIs r.k.op
 bd:r.bd.Is
inductive EK where
 |chars
 |all (x:Tx)
 |lead (x:Tx)
 |first (x:Tx)
noncomputable def EK.op:EK->Option Tx
 | .chars=>none
 | .all x=>some x
 | .lead x=>some x
 | .first x=>some x
noncomputable def EK.word:EK->Str
 | .chars => "CHARACTERS"
 | .all _ => "ALL"
 | .lead _ => "LEADING"
 | .first _ => "FIRST"
structure Rrow where
 k:EK
 by_:Tx
 bd:Bnd
def Rrow.toks (r:Rrow):List Tk:=wtk r.k.word::(opT r.k.op++(wtk "BY"::(r.by_.toks++r.bd.toks)))
noncomputable def Rrow.val (r:Rrow):AV:=.tup [.str r.k.word,opAV r.k.op,r.by_.val,partV r.bd.b,partV r.bd.a]
structure Rrow.Is (r:Rrow):Prop where
 k:OpIs r.k.op
 b:r.by_.Is
 bd:r.bd.Is
abbrev rowsT (rs:List Trow):List Tk:=rs.flatMap Trow.toks
abbrev exT (rs:List Rrow):List Tk:=rs.flatMap Rrow.toks
inductive Stm where
 |both (x:Itm) (rs:List Trow) (es:List Rrow)
 |tally (x:Itm) (rs:List Trow)
 |repl (x:Itm) (es:List Rrow)
def Stm.toks:Stm->List Tk
 | .both x rs es=>wtk "INSPECT"::(x.toks++(wtk "TALLYING"::(rowsT rs++(wtk "REPLACING"::exT es))))
 | .tally x rs=>wtk "INSPECT"::(x.toks++(wtk "TALLYING"::rowsT rs))
 | .repl x es=>wtk "INSPECT"::(x.toks++(wtk "REPLACING"::exT es))
noncomputable def Stm.val:Stm->AV
 | .both x rs es=>.tup [.str "tally-replace",x.val,.tup (rs.map Trow.val),.tup (es.map Rrow.val)]
 | .tally x rs=>.tup [.str "tally",x.val,.tup (rs.map Trow.val)]
 | .repl x es=>.tup [.str "replace",x.val,.tup (es.map Rrow.val)]
structure RowsIs (rs:List Trow):Prop where
 ne:rs≠[]
 le:rs.length≤3
 is:∀ r∈rs,r.Is
structure ExsIs (es:List Rrow):Prop where
 ne:es≠[]
 le:es.length≤2
 is:∀ r∈es,r.Is
noncomputable def Stm.Is:Stm->Prop
 | .both x rs es=>x.Is∧RowsIs rs∧ExsIs es
 | .tally x rs=>x.Is∧RowsIs rs
 | .repl x es=>x.Is∧ExsIs es
theorem Itm.cl {x:Itm}{m:Nat}:clA m x.val=true:=by
 obtain⟨w,s⟩:=x
 cases s<;>rfl
theorem Tx.cl {x:Tx}{m:Nat}:clA m x.val=true:=by
 cases x<;>first|exact Itm.cl|rfl
theorem HZ {x:Option (Bool×Tx)}{m:Nat}:clA m (partV x)=true:=by
 cases x<;>first|exact Tx.cl|rfl
theorem op_cl {x:Option Tx}{m:Nat}:clA m (opAV x)=true:=by
 cases x<;>first|exact Tx.cl|rfl
theorem Jj {m:Nat}{a:AV}{l:List AV}(h:clA m a=true)(h' : clL m l=true):clL m (a::l)=true:=anI ⟨h,h'⟩
theorem Trow.cl {r:Trow}{m:Nat}:clA m r.val=true:=Jj Itm.cl (Jj rfl (Jj op_cl (Jj HZ (Jj HZ rfl))))
theorem Rrow.cl {r:Rrow}{m:Nat}:clA m r.val=true:=Jj rfl (Jj op_cl (Jj Tx.cl (Jj HZ (Jj HZ rfl))))
theorem cl_map {α:Type}{f:α->AV}{m:Nat}(h:∀ x,clA m (f x)=true):∀ l:List α,clL m (l.map f)=true
 | []=>rfl
 |x::l=>Jj (h x) (cl_map h l)
theorem LV {rs:List Trow}{m:Nat}:clL m (rs.map Trow.val)=true:=cl_map (λZ=>Trow.cl) rs
theorem exs_cl {rs:List Rrow}{m:Nat}:clL m (rs.map Rrow.val)=true:=cl_map (λZ=>Rrow.cl) rs
theorem Stm.cl {s:Stm}{m:Nat}:clA m s.val=true:=by
 cases s with
 |both=>exact Jj rfl (Jj Itm.cl (Jj LV (Jj exs_cl rfl)))
 |tally=>exact Jj rfl (Jj Itm.cl (Jj LV rfl))
 |repl=>exact Jj rfl (Jj Itm.cl (Jj exs_cl rfl))
theorem reserved_eq (w:Str):reserved w=hasSub (32::(w.cps.toList++[32])) sReserved.cps.toList:=by
 unfold reserved
 rw[inStr_eq,PySem.Str.cps_append,PySem.Str.cps_append,Vz,Vz]
 rfl
section
variable {τ l:Store}
theorem U9 {i:Nat}{o:AO}(h:τ[i]? = some o):(τ++l)[i]? = some o:=(Q3 (QQ.mp h).1).trans h
theorem qk {p:Pk}{i:Nat}{x:Str}{b:AV}{C:Addr}{d:Nat}{es:List (Str×AV)}(h1:τ[i]? = some (.inst C d))(h2:τ[d]? = some (.dict es))(h3:findS x es=some b)(h4:(p.attr C x&&handedAV b)=true):attrP p (.ref i) x (τ++l)=some b:=
 onIs (U9 h1) (onDs (U9 h2) (on1s h3 (if_pos h4)))
end
end
section
open PySem.SeqAt
set_option genSizeOf false
set_option genInjectivity false
open Rdr
inductive Sg where
 |tk (k w:Str)
 |it (i:Nat)
 |tx (i:Nat)
 |bn (i:Nat)
 |tr
 |er
 |sw (b:Bool)
 |la
structure Rv where
 it:Nat->Itm
 tx:Nat->Tx
 bn:Nat->Bnd
 tr:List Trow
 er:List Rrow
 sw:Bool->Str
 la:Tk
def stopL:List Tk:=[wtk "FOR",wtk "BY",wtk "BEFORE",wtk "AFTER",wtk "ALL",wtk "LEADING",wtk "FIRST",wtk "CHARACTERS",wtk "TALLYING",wtk "REPLACING",wtk "END-IF",wtk "T",wtk "N-1",wtk "K",("sign",".")]
def endL:List Tk:=[wtk "ALL",wtk "LEADING",wtk "FIRST",wtk "CHARACTERS",wtk "REPLACING",wtk "END-IF",wtk "T",wtk "N-1",wtk "K",("sign",".")]
def lastL:List Tk:=[wtk "REPLACING",wtk "END-IF",("sign",".")]
structure Rv.Ok (V:Rv):Prop where
 it:∀ i,(V.it i).Is
 tx:∀ i,(V.tx i).Is
 bn:∀ i,(V.bn i).Is
 tr:RowsIs V.tr
 er:ExsIs V.er
 sw:wtk (V.sw false)∈stopL
 se:wtk (V.sw true)∈endL
 la:V.la∈lastL
def Sg.toks (V:Rv):Sg->List Tk
 | .tk k w=>[(k,w)]
 | .it i=>(V.it i).toks
 | .tx i=>(V.tx i).toks
 | .bn i=>(V.bn i).toks
 | .tr=>rowsT V.tr
 | .er=>exT V.er
 | .sw b=>[wtk (V.sw b)]
 | .la=>[V.la]
abbrev sgT (V:Rv)(sg:List Sg):List Tk:=sg.flatMap (Sg.toks V)
def plen (V:Rv)(sg:List Sg)(q:Nat):Nat:=(sgT V (sg.take q)).length
noncomputable def stopQ:List Sg->Bool
 | .tk k w::_=>stopL.contains (k,w)
 | .bn _::r=>stopQ r
 | .it _::_=>true
 | .sw _::_=>true
 | .la::_=>true
 |_=>false
noncomputable def endQ:List Sg->Bool
 | .tk k w::_=>endL.contains (k,w)
 | .it _::_=>true
 | .sw true::_=>true
 | .la::_=>true
 |_=>false
noncomputable def lastQ:List Sg->Bool
 | .tk k w::_=>lastL.contains (k,w)
 | .la::_=>true
 |_=>false
noncomputable def isTk:Option Sg->Bool
 |some (.tk _ _)=>true
 |some (.sw _)=>true
 |some .la=>true
 |_=>false
noncomputable def isR:SV->Bool
 | .rdr=>true
 |_=>false
noncomputable def tksQ (sg:List Sg) (q:Nat):Nat->Bool
 |0=>true
 |n+1=>isTk sg[q]? && tksQ sg (q+1) n
noncomputable def resT:List (Str×Bool):=[("T",false),("N-1",false),("K",false),("I",false),("SPACE",true),("ZERO",true),("QUOTE",true),("FOR",true),("BY",true),("BEFORE",true),("AFTER",true),("ALL",true),("LEADING",true),("FIRST",true),("CHARACTERS",true),("TALLYING",true),("REPLACING",true),("END-IF",true),("INITIAL",true),("INSPECT",true),("IF",true)]
def segHeads:Sg->Option (List Str)
 | .it _=>some ["T","N-1","K"]
 | .tx _=>some ["T","N-1","K","SPACE","ZERO","QUOTE"]
 | .tr=>some ["T","N-1","K"]
 | .er=>some ["CHARACTERS","ALL","LEADING","FIRST"]
 | .sw b=>some ((if b then endL else stopL).map (·.2))
 | .la=>some ["REPLACING","END-IF"]
 |_=>none
noncomputable def okW (x:List Nat):Bool := !(x.contains 32)&&JQ x.length 1000
def skipQ (sg:List Sg)(q:Nat)(x:List Nat):Option (SV×Nat):=if okW x then on1 sg[q]? λs=>match s with
  | .tk k w=>if k == "word"&&w.cps.toList==x then some (.bool true,q+1) else some (.bool false,q)
  |s=>on1 (segHeads s) λhs=>if hs.contains ⟨x.toArray⟩ then none else some (.bool false,q)
 else none
noncomputable def dep {γ:Type} (a b:Addr) (c n:Nat) (x:Option γ):Option γ:=if a==b&&JQ c (n+1) then x else none
def rdOne {γ:Type}(l:List SV)(x:Option γ):Option γ:=uL1 l λr=>if isR r then x else none
def rd2 {γ:Type}(l:List SV)(f:SV->Option γ):Option γ:=uL2 l λr a=>if isR r then f a else none
def peekQ (sg:List Sg)(q a:Nat):Option (SV×Nat):=if tksQ sg q (a+1) then some (.tok (q+a),q) else none
def qTx (lv n:Nat)(a:Addr)(l:List SV)(q:Nat)(r:List Sg)(i:Nat):Option (SV×Nat):=if JQ 1 lv then
 orE (dep a 391 40 n (rdOne l (if stopQ r then some (.tp (3 * i+1),q+1) else none)))<|dep a 398 30 n (rdOne l (some (.bool true,q))) else none
noncomputable def isFor:List Sg->Bool
 | .tk k w::_=>k == "word"&&w == "FOR"
 |_=>false
def qIt (lv n:Nat)(a:Addr)(l:List SV)(q:Nat)(r:List Sg)(i:Nat):Option (SV×Nat):=if JQ 1 lv then
 orE (dep a 370 40 n (rdOne l (if stopQ r then some (.tp (3 * i),q+1) else none)))<|orE (dep a 398 30 n (rdOne l (some (.bool true,q)))) <|
  dep a 412 42 n (rdOne l (if isFor r then some (.bool true,q) else none)) else none
def qLa (lv n:Nat)(a:Addr)(l:List SV)(q:Nat):Option (SV×Nat):=if JQ 1 lv then orE (dep a 398 30 n (rdOne l (some (.bool false,q))))<|dep a 412 42 n (rdOne l (some (.bool false,q))) else none
def qOne (v lv n:Nat)(a b c:Nat)(l:List SV)(x:SV)(q:Nat)(t:Bool):Option (SV×Nat):=if JQ v lv then dep a b c n (rdOne l (if t then some (x,q+1) else none)) else none
def segS (lv n:Nat)(a:Addr)(l:List SV)(q:Nat)(r:List Sg):Sg->Option (SV×Nat)
 | .tx i=>qTx lv n a l q r i
 | .it i=>qIt lv n a l q r i
 | .bn i=>qOne 2 lv n a 405 50 l (.tup [.at (2 * i),.at (2 * i+1)]) q (endQ r)
 | .tr=>qOne 3 lv n a 426 60 l (.tp 2) q (lastQ r)
 | .er=>qOne 3 lv n a 454 60 l (.tp 5) q (lastQ r)
 | .la=>qLa lv n a l q
 |_=>none
def qPeek (sg:List Sg)(l:List SV)(q:Nat):Option (SV×Nat):=orE (rdOne l (peekQ sg q 0)) (rd2 l λb=>on1 (asInt b) λi=>if 0≤i then peekQ sg q i.toNat else none)
def qRes (l:List SV)(q:Nat):Option (SV×Nat):=uL1 l λw=>on1 (asCon w) λx=>on1 (resT.lookup ⟨x.toArray⟩) λb=>some (.bool b,q)
noncomputable def asTp:SV->Option Nat
 | .tp j=>some j
 |_=>none
noncomputable def isTx (v:SV):Bool:=match asTp v with
 |some j=>j % 3==1
 |none=>false
noncomputable def isNon:SV->Bool
 | .none=>true
 |_=>false
def qWid (lv:Nat)(l:List SV)(q:Nat):Option (SV×Nat):=uL2 l λv w=>if JQ 1 lv&&isTx w&&(isNon v||isTx v) then some (.bool true,q) else none
def natQ (lv:Nat)(sg:List Sg)(n:Nat)(a:Addr)(l:List SV)(q:Nat):Option (SV×Nat):=
 orE (dep a 518 2 n (qPeek sg l q)) <|
 orE (dep a 561 5 n (rd2 l λw=>on1 (asCon w) λx=>skipQ sg q x)) <|
 orE (dep a 490 1 n (qRes l q)) <|
 orE (dep a 433 10 n (qWid lv l q))<|on1 (sg.drop q).head? λs=>segS lv n a l q (sg.drop q).tail s
noncomputable def rdRows:List Str:=["tokens","at","named","shared"]
noncomputable def asTok:SV->Option Nat
 | .tok j=>some j
 |_=>none
noncomputable def tokKW:Sg->Option (Str×Option Str)
 | .tk k w=>some (k,some w)
 | .sw _=>some ("word",none)
 |_=>none
def tokA (x:Str)(p:Str×Option Str):Option SV:=if x == "kind" then some (liftStr p.1) else if x == "worth" then on1 p.2 λw=>some (liftStr w) else none
def qAttr (sg:List Sg)(a:SV)(x:Str)(q:Nat):Option SV:=orE (if isR a&&x == "at" then some (.pos q) else none) (on1 (asTok a) λi=>on1 sg[i]? λs=>on1 (tokKW s) λp=>tokA x p)
def rdNv (p:Pk)(lv:Nat)(sg:List Sg):Nv where
 p:=p
 n:=40
 call:=λn g l st=>match g with
  | .glob (.ref a)=>if st.2.all (clW st.2.length) then on2 (natQ lv sg n a l st.1) λr q=>some (r,q,st.2) else none
  |_=>none
 attr:=λa x q=>qAttr sg a x q
 set:=λa x b q=>if isR a&&x == "at" then asPos b else none
 get:=λx=>if rdRows.contains x then none else p.meth 664 x
 padd:=λq i=>if i==1&&tksQ sg q 1 then some (q+1) else none
 cell:=λZ=>none
noncomputable def tupL:AV->List AV
 | .tup l=>l
 |_=>[]
noncomputable def tpV (V:Rv) (i:Nat):AV:=if i % 3=0 then (V.it (i / 3)).val else if i % 3=1 then (V.tx (i / 3)).val else if i=2 then .tup (V.tr.map Trow.val) else .tup (V.er.map Rrow.val)
def rdD (V:Rv)(R:Rdr)(σ:Store)(n:Nat)(sg:List Sg):Dn where
 N:=σ.length
 v:=λi=>if i % 2=0 then partV (V.bn (i / 2)).b else partV (V.bn (i / 2)).a
 t:=λi=>tupL (tpV V i)
 s:=λZ=>[0]
 e:=λZ=>[]
 l:=λZ=>[]
 k:=λZ=>R.r
 r:=R.r
 P:=λq=>n+plen V sg q
 tk:=λq=>if n+plen V sg q<R.toks.length then R.tokAV (n+plen V sg q) else .bool false
 B:=λq=>R.at σ (n+plen V sg q)
theorem NU (V:Rv)(i:Nat):AV.tup (tupL (tpV V i))=tpV V i:=by
 unfold tpV
 by_cases h:i % 3=0
 · rw[if_pos h];rfl
 · rw[if_neg h]
   by_cases h:i % 3=1
   · rw[if_pos h];cases V.tx (i / 3)<;>rfl
   · rw[if_neg h]
     by_cases h:i=2
     · rw[if_pos h];rfl
     · rw[if_neg h];rfl
theorem tp_cl (V:Rv)(i m:Nat):clL m (tupL (tpV V i))=true:=by
 show clA m (.tup (tupL (tpV V i)))=true
 rw[NU]
 unfold tpV
 by_cases h:i % 3=0
 · rw[if_pos h];exact Itm.cl
 · rw[if_neg h]
   by_cases h:i % 3=1
   · rw[if_pos h];exact Tx.cl
   · rw[if_neg h]
     by_cases h:i=2
     · rw[if_pos h];exact LV
     · rw[if_neg h];exact exs_cl
section
variable {V:Rv}{R:Rdr}{σ:Store}{n:Nat}{sg:List Sg}
theorem atQ (A:At R n (sgT V sg))(q:Nat):At R (n+plen V sg q) (sgT V (sg.drop q)):=by
 refine At.right (l:=sgT V (sg.take q)) ?_
 rw[← Q8,List.take_append_drop];exact A
theorem LG {q:Nat}{s:Sg}(h:sg[q]? = some s):sg.drop q=s::sg.drop (q+1):=by
 obtain⟨hl,e⟩:=QQ.mp h
 rw[List.drop_eq_getElem_cons hl,e]
theorem M4 {q:Nat}{s:Sg}(h:sg[q]? = some s):plen V sg (q+1)=plen V sg q+(s.toks V).length:=by
 obtain⟨hl,e⟩:=QQ.mp h
 unfold plen sgT
 rw[List.take_add_one,h,Q8,QV]
 simp
theorem isTk_is {q:Nat}(h:isTk sg[q]? = true):∃ s t,sg[q]? = some s∧s.toks V=[t]:=by
 cases e:sg[q]? with
 |none=>rw[e] at h;exact nof h
 |some s=>cases s with
  |tk k w=>exact⟨_,(k,w),rfl,rfl⟩
  |sw b=>exact⟨_,wtk (V.sw b),rfl,rfl⟩
  |la=>exact⟨_,V.la,rfl,rfl⟩
  |_=>rw[e] at h;exact nof h
theorem tks_is (A:At R n (sgT V sg))(a:Nat):∀ q:Nat,tksQ sg q (a+1)=true->n+plen V sg q+a<R.toks.length∧plen V sg (q+a)=plen V sg q+a:=by
 induction a with
 |zero=>
  intro q h;refine xe22 (isTk_is (V:=V) (and2 h).1) λs t e et=>?_
  have z:=atQ A q;rw[LG e] at z
  have z:At R (n+plen V sg q) (s.toks V++_):=z;rw[et] at z
  exact⟨z.lt0,rfl⟩
 |succ a ih=>
  intro q h;refine xe22 (isTk_is (V:=V) (and2 h).1) λs t e et=>?_
  have z:=ih (q+1) (and2 h).2;have el:=M4 (V:=V) e
  rw[et] at el;have el:plen V sg (q+1)=plen V sg q+1:=el
  rw[el,Gv q 1 a,U6 1 a] at z;exact⟨Q1 (Q9 (UN (n+plen V sg q) a).symm) z.1,z.2.trans (UN _ a)⟩
end
end
section
open PySem.SeqAt
open Rdr
structure Facts1:Prop where
 begL:∀ (sc:ScT) (R:Rdr) (σ:Store) (n k:Nat) (t:Tk) (l:List Tk),R.Ok σ->At R n (t::l)->t∈lastL->callN (pk0 sc) (k+30) (.glob (.ref 398)) [.ref R.r] (R.at σ n)=some (.bool false,R.at σ n)
 opnL:∀ (sc:ScT) (R:Rdr) (σ:Store) (n k:Nat) (t:Tk) (l:List Tk),R.Ok σ->At R n (t::l)->t∈lastL->callN (pk0 sc) (k+42) (.glob (.ref 412)) [.ref R.r] (R.at σ n)=some (.bool false,R.at σ n)
 text:∀ (sc:ScT) (R:Rdr) (σ:Store) (n k:Nat) (x:Tx) (t:Tk) (l:List Tk),R.Ok σ->x.Is->At R n (x.toks++t::l)->t∈stopL->callN (pk0 sc) (k+40) (.glob (.ref 391)) [.ref R.r] (R.at σ n)=some (x.val,R.at σ (n+x.toks.length))
 beg:∀ (sc:ScT) (R:Rdr) (σ:Store) (n k:Nat) (x:Tx) (l:List Tk),R.Ok σ->x.Is->At R n (x.toks++l)->callN (pk0 sc) (k+30) (.glob (.ref 398)) [.ref R.r] (R.at σ n)=some (.bool true,R.at σ n)
 ref:∀ (sc:ScT) (R:Rdr) (σ:Store) (n k:Nat) (x:Itm) (t:Tk) (l:List Tk),R.Ok σ->x.Is->At R n (x.toks++t::l)->t∈stopL->callN (pk0 sc) (k+40) (.glob (.ref 370)) [.ref R.r] (R.at σ n)=some (x.val,R.at σ (n+x.toks.length))
 opn:∀ (sc:ScT) (R:Rdr) (σ:Store) (n k:Nat) (x:Itm) (l:List Tk),R.Ok σ->x.Is->At R n (x.toks++wtk "FOR"::l)->callN (pk0 sc) (k+42) (.glob (.ref 412)) [.ref R.r] (R.at σ n)=some (.bool true,R.at σ n)
 wid:∀ (sc:ScT) (R:Rdr) (σ:Store) (n k:Nat) (o:Option Tx) (x:Tx),R.Ok σ->OpIs o->x.Is->callN (pk0 sc) (k+10) (.glob (.ref 433)) [opAV o,x.val] (R.at σ n)=some (.bool true,R.at σ n)
abbrev Facts2:Prop := ∀ (sc:ScT) (R:Rdr) (σ:Store) (n k:Nat) (x:Bnd) (t:Tk) (l:List Tk),R.Ok σ->x.Is->At R n (x.toks++t::l)->t∈endL->callN (pk0 sc) (k+50) (.glob (.ref 405)) [.ref R.r] (R.at σ n)=some (.tup x.val,R.at σ (n+x.toks.length))
structure Facts3:Prop where
 tal:∀ (sc:ScT) (R:Rdr) (σ:Store) (n k:Nat) (rs:List Trow) (t:Tk) (l:List Tk),R.Ok σ->RowsIs rs->At R n (rowsT rs++t::l)->t∈lastL->callN (pk0 sc) (k+60) (.glob (.ref 426)) [.ref R.r] (R.at σ n)=some (.tup (rs.map Trow.val),R.at σ (n+(rowsT rs).length))
 rep:∀ (sc:ScT) (R:Rdr) (σ:Store) (n k:Nat) (rs:List Rrow) (t:Tk) (l:List Tk),R.Ok σ->ExsIs rs->At R n (exT rs++t::l)->t∈lastL->callN (pk0 sc) (k+60) (.glob (.ref 454)) [.ref R.r] (R.at σ n)=some (.tup (rs.map Rrow.val),R.at σ (n+(exT rs).length))
section
variable {V:Rv}{R:Rdr}{σ:Store}{n:Nat}{sg:List Sg}{sc:ScT}{lv:Nat}
theorem rows_get (a:Str)(h:rdRows.contains a=false)(n:Nat):findS a (R.rows n)=none:=by
 have h0:∀ b∈rdRows,(b==a)=false:=λb hb=>by
  cases e:b==a with
  |false=>rfl
  |true=>
   rw[← eq_of_beq e,HJ.mpr hb] at h;cases h
 have no:∀ {b:Str} {x y z:Option AV},b∈rdRows->y=z->(if b==a then x else y)=z:=λhb e=>(if_neg (by rw[h0 _ hb];exact U5)).trans e
 exact no (.head _) (no (.tail _ (.head _)) (no (.tail _ (.tail _ (.head _))) (no (.tail _ (.tail _ (.tail _ (.head _)))) rfl)))
@[elab_as_elim] theorem isR_is {v:SV}{G:SV->Prop}(h:isR v=true)(k:G .rdr):G v:=by cases v<;>first|exact k|exact nof h
@[elab_as_elim] theorem eTok {a:SV}{i:Nat}{G:SV->Prop}(h:asTok a=some i)(k:G (.tok i)):G a:=by cases a<;>first|exact nos h|exact(soI h:_=i)▸k
theorem tokKW_is {s:Sg}{p:Str×Option Str}(h:tokKW s=some p):∃ w,s.toks V=[(p.1,w)]∧∀ w',p.2=some w'->w'=w:=by
 cases s with
 |tk k w=>exact oe h ⟨w,rfl,λw' e=>(soI e).symm⟩
 |sw b=>exact oe h ⟨V.sw b,rfl,λw' e=>nos e⟩
 |_=>exact nos h
theorem tok_attr (h:R.Ok σ)(A:At R n (sgT V sg)){i q:Nat}{s:Sg}{p:Str×Option Str}{x:Str}{b:SV}{l:Store}(hs:sg[i]? = some s)(hp:tokKW s=some p)(e:tokA x p=some b) :
  attrP (pk0 sc) (den (rdD V R σ n sg) (.tok i)) x (R.at σ (n+plen V sg q)++l)=some (den (rdD V R σ n sg) b):=by
 refine xe12 (tokKW_is (V:=V) hp) λw et ew=>?_
 have z:=atQ A i
 rw[LG hs] at z
 have z:At R (n+plen V sg i) (s.toks V++_):=z
 rw[et] at z
 have z:At R (n+plen V sg i) ((p.1,w)::_):=z
 show attrP (pk0 sc) (if _ then _ else _) x _=_
 rw[if_pos z.lt0]
 refine xe23 (MG h z.lt0) λj e' h1 Z h3=>?_
 rw[h1]
 have z2:=(h3 (n+plen V sg q)).2
 rw[z.k0,z.w0] at z2
 refine oif e (λh0 e=>?_) λe=>oi e λh0 e=>om1 e λw' hw e=>?_
 · rw[eq_of_beq h0,← soI e]
   exact qk (h3 _).1 z2 (by rw[JM];rfl) rfl
 · rw[eq_of_beq h0,← soI e,ew _ hw]
   exact qk (h3 _).1 z2 (by rw[JM];rfl) rfl
theorem rdnv_ok (h:R.Ok σ)(A:At R n (sgT V sg)):DnOk (rdD V R σ n sg) (rdNv (pk0 sc) lv sg) where
 len q:=Vx
 cl q:=h.clat
 v i:=by
  show clA _ (if i % 2=0 then _ else _)=true
  by_cases e:i % 2=0
  · rw[if_pos e];exact HZ
  · rw[if_neg e];exact HZ
 t i:=tp_cl V i _
 tk q:=by
  show clA _ (if _ then _ else _)=true
  by_cases e:n+plen V sg q<R.toks.length
  · rw[if_pos e];exact h.tokcl _
  · rw[if_neg e];rfl
 tkn q:=by
  show isNoneF (if _ then _ else _)=_
  by_cases e:n+plen V sg q<R.toks.length
  · rw[if_pos e];exact tok_isNone h e
  · rw[if_neg e];rfl
 l i:=rfl
 ll i:=Q4 _
 r:=h.rl
 k i:=h.rl
 s i:=⟨VU _ _,leB rfl⟩
 e i:=Q4 _
 attr a x q b e l:=oOr e (λe=>oi e λh0 e=>isR_is (G:=λa=>attrP (pk0 sc) (den (rdD V R σ n sg) a) x _=_) (and2 h0).1 (by
   rw[eq_of_beq (and2 h0).2,← soI e];exact qk (at_r h) (at_d h) rfl rfl)) λe=>om1 e λi hi e=>om1 e λs hs e=>om1 e λp hp e=>eTok (G:=λa=>attrP (pk0 sc) (den (rdD V R σ n sg) a) x _=_) hi (tok_attr h A hs hp e)
 set a x b q q' e l:=oi e λh0 e=>isR_is (G:=λa=>setP (pk0 sc) (den (rdD V R σ n sg) a) x _ _=_) (and2 h0).1 (ePos (G:=λb=>setP (pk0 sc) _ x (den (rdD V R σ n sg) b) _=_) e (by
   rw[eq_of_beq (and2 h0).2];refine onIs (U9 (at_r h)) (onDs (U9 (at_d h)) ((if_pos rfl).trans ?_))
   refine(congrArg some (RM _ _ (show R.d<(R.at σ (n+plen V sg q)).length by rw[Vx];exact h.dl))).trans ?_;exact congrArg (λz=>some (z++l)) (at_dset _ _)))
 get x fa e q l:=by
  have e:(if rdRows.contains x then none else (pk0 sc).meth 664 x)=some fa:=e
  cases hc:rdRows.contains x with
  |true=>rw[hc] at e;exact nos e
  |false=>
   rw[hc] at e;refine onILs (U9 (at_r h)) (onDs (U9 (at_d h)) ?_)
   rw[rows_get x hc];exact on1s e rfl
 padd q i q' e:=by
  have e:(if i==1&&tksQ sg q 1 then some (q+1) else none)=some q' := e;refine oi e λh0 e=>?_
  have e1:i=1:=eq_of_beq (and2 h0).1;rw[← soI e,e1]
  show ((n+plen V sg q:Nat):Int)+1=((n+plen V sg (q+1):Nat):Int);refine xe22 (isTk_is (V:=V) (and2 (and2 h0).2).1) λs t es et=>?_
  rw[M4 es,et];rfl
 cell i l e:=nos e
@[elab_as_elim] theorem N2 {γ:Type}{l:List SV}{x:Option γ}{r:γ}{G:List SV->Prop}(q:rdOne l x=some r)(k:x=some r->G [.rdr]):G l:=
 uE1 q λv q=>oi q λh q=>isR_is (G:=λv=>G [v]) h (k q)
@[elab_as_elim] theorem rd2_is {γ:Type}{l:List SV}{f:SV->Option γ}{r:γ}{G:List SV->Prop}(q:rd2 l f=some r)(k:∀ a,f a=some r->G [.rdr,a]):G l:=
 uE2 q λv a q=>oi q λh q=>isR_is (G:=λv=>G [v,a]) h (k a q)
theorem UU {γ:Type}{a b:Addr}{c m K:Nat}{x:Option γ}{r:γ}{P:Nat->Addr->Prop}(q:dep a b c m x=some r)(k:∀ k,x=some r->P (k+c) b):P (K+m+1) a:=by
 refine oi q λh q=>?_
 have h1:=leB (and2 h).2
 rw[show K+m+1=(K+(m+1 - c))+c from((Gv ..).trans (congrArg _ (Nat.sub_add_cancel h1))).symm,show a=b from eq_of_beq (and2 h).1]
 exact k _ q
theorem R4 (t:Tk)(h:t∈endL):t∈stopL:=ciM (alT (rfl:endL.all (λt=>stopL.contains t)=true) t h)
theorem lastL_end (t:Tk)(h:t∈lastL):t∈endL:=ciM (alT (rfl:lastL.all (λt=>endL.contains t)=true) t h)
noncomputable def hdI:List Str:=["T","N-1","K"]
noncomputable def hdT:List Str:=["T","N-1","K","SPACE","ZERO","QUOTE"]
noncomputable def okTx:Tx->Bool
 | .itm x=>hdT.contains x.nm
 | .fig w=>hdT.contains w
 | .lit _=>true
theorem itm_hd {x:Itm}(z:x.Is):x.nm∈hdI:=ciM (alT (by kernel_rfl:allI.all (λx=>hdI.contains x.nm)=true) x z)
theorem itm_end {x:Itm}(z:x.Is):wtk x.nm∈endL:=ciM (alT (by kernel_rfl:allI.all (λx=>endL.contains (wtk x.nm))=true) x z)
theorem tx_hd {x:Tx}(z:x.Is):okTx x=true:=alT (by kernel_rfl:allT.all okTx=true) x z
theorem lit_word {P:Prop}(e:("literal" : Str) = "word"):P:=absurd e (by decide)
theorem la_hd {t:Tk}(z:t∈lastL)(e:t.1 = "word"):t.2∈(["REPLACING","END-IF"]:List Str):=
 (Qv.mp (alT (by kernel_rfl:lastL.all (λt=>t.1 != "word"||(["REPLACING","END-IF"]:List Str).contains t.2)=true) t z)).elim (λh=>absurd e (bne_iff_ne.mp h)) ciM
theorem N9 {w:Str}(hw:wtk w∈stopL){o:Option (Bool×Tx)}{r:List Tk}(h:∃ t l,r=t::l∧t∈stopL):∃ t l,bpart w o++r=t::l∧t∈stopL:=by
 cases o with
 |none=>exact h
 |some p=>exact⟨_,_,rfl,hw⟩
theorem bn_head {x:Bnd}{r:List Tk}(h:∃ t l,r=t::l∧t∈stopL):∃ t l,x.toks++r=t::l∧t∈stopL:=by
 have hb:wtk "BEFORE" ∈ stopL:=.tail _ (.tail _ (.head _))
 have ha:wtk "AFTER" ∈ stopL:=.tail _ (.tail _ (.tail _ (.head _)))
 obtain⟨b,a,ba⟩:=x
 cases ba with
 |true=>exact(QW ..).symm▸N9 hb (N9 ha h)
 |false=>exact(QW ..).symm▸N9 ha (N9 hb h)
theorem stop_head (sg:List Sg)(h:stopQ sg=true)(ok:V.Ok):∃ t l,sgT V sg=t::l∧t∈stopL:=by
 induction sg with
 |nil=>exact nof h
 |cons s r ih=>cases s with
  |tk k w=>exact⟨(k,w),sgT V r,rfl,ciM h⟩
  |bn i=>exact bn_head (ih h)
  |it i=>exact⟨wtk (V.it i).nm,_,rfl,R4 _ (itm_end (ok.it i))⟩
  |sw b=>exact⟨wtk (V.sw b),_,rfl,b.casesOn ok.sw (R4 _ ok.se)⟩
  |la=>exact⟨V.la,_,rfl,R4 _ (lastL_end _ ok.la)⟩
  |_=>exact nof h
theorem end_head (sg:List Sg)(h:endQ sg=true)(ok:V.Ok):∃ t l,sgT V sg=t::l∧t∈endL:=by
 cases sg with
 |nil=>exact nof h
 |cons s r=>cases s with
  |tk k w=>exact⟨(k,w),sgT V r,rfl,ciM h⟩
  |it i=>exact⟨wtk (V.it i).nm,_,rfl,itm_end (ok.it i)⟩
  |sw b=>cases b with
   |true=>exact⟨wtk (V.sw true),sgT V r,rfl,ok.se⟩
   |false=>exact nof h
  |la=>exact⟨V.la,sgT V r,rfl,lastL_end _ ok.la⟩
  |_=>exact nof h
theorem last_head (sg:List Sg)(h:lastQ sg=true)(ok:V.Ok):∃ t l,sgT V sg=t::l∧t∈lastL:=by
 cases sg with
 |nil=>exact nof h
 |cons s r=>cases s with
  |tk k w=>exact⟨(k,w),sgT V r,rfl,ciM h⟩
  |la=>exact⟨V.la,sgT V r,rfl,ok.la⟩
  |_=>exact nof h
theorem head_of {s:Sg}{hs:List Str}(h:segHeads s=some hs)(ok:V.Ok){r:List Sg}:∃ k w l,sgT V (s::r)=(k,w)::l∧(k = "word"->w∈hs):=by
 cases s with
 |it i=>exact oe h ⟨"word",(V.it i).nm,_,rfl,λZ=>itm_hd (ok.it i)⟩
 |tx i=>
  refine oe h ?_;have z:=tx_hd (ok.tx i)
  show ∃ k w l,(V.tx i).toks++sgT V r=_∧_;generalize V.tx i=x at z
  cases x with
  |itm x=>exact⟨"word",x.nm,_,rfl,λZ=>ciM z⟩
  |fig w=>exact⟨"word",w,_,rfl,λZ=>ciM z⟩
  |lit c=>exact⟨"literal",_,_,rfl,lit_word⟩
 |tr=>
  refine oe h ?_;have z:=ok.tr
  show ∃ k w l,rowsT V.tr++sgT V r=_∧_;generalize V.tr=rs at z
  cases rs with
  |nil=>exact absurd rfl z.ne
  |cons x rs=>exact⟨"word",x.c.nm,_,rfl,λZ=>itm_hd (z.is x (.head _)).c⟩
 |er=>
  refine oe h ?_;have z:=ok.er
  show ∃ k w l,exT V.er++sgT V r=_∧_;generalize V.er=rs at z
  cases rs with
  |nil=>exact absurd rfl z.ne
  |cons x rs=>exact⟨"word",x.k.word,_,rfl,λZ=>by cases x.k<;>exact ciM rfl⟩
 |sw b=>exact oe h ⟨"word",V.sw b,_,rfl,λZ=>b.casesOn (VQ (f:=Prod.snd) ok.sw) (VQ (f:=Prod.snd) ok.se)⟩
 |la=>exact oe h ⟨V.la.1,V.la.2,_,rfl,la_hd ok.la⟩
 |_=>exact nos h
end
end
section
open PySem.SeqAt
open Rdr
theorem resT_ok:resT.all (λp=>hasSub (32::(p.1.cps.toList++[32])) sReserved.cps.toList==p.2&&JQ p.1.length 1000)=true:=by decide +kernel
theorem look_in {α β:Type}[BEq α][LawfulBEq α]{a:α}{b:β}:∀ {l:List (α×β)},l.lookup a=some b->(a,b)∈l
 | (x,y)::l,h=>by
  unfold List.lookup at h
  cases e:a==x with
  |true=>rw[e] at h;rw[eq_of_beq e,← soI h];exact .head _
  |false=>rw[e] at h;exact .tail _ (look_in h)
theorem split_w {x:List Nat}(h:okW x=true):Txt.split ⟨x.toArray⟩ " "=[⟨x.toArray⟩]∧(⟨x.toArray⟩:Str).length≤1000000:=
 ⟨split_one (x:=⟨x.toArray⟩) (c:=32) (notF (and2 h).1),QJ (leB (and2 h).2) (by decide)⟩
section
variable {V:Rv}{R:Rdr}{σ τ:Store}{n:Nat}{sg:List Sg}{sc:ScT}{lv:Nat}
theorem skip_is {k:Nat}(h:R.Ok τ)(A:At R n (sgT V sg))(ok:V.Ok){x:List Nat}{q q' : Nat}{r:SV}(e:skipQ sg q x=some (r,q')) :
  callN (pk0 sc) (k+5) (.glob (.ref 561)) [.ref R.r,.str ⟨x.toArray⟩] (R.at τ (n+plen V sg q))=some (den (rdD V R σ n sg) r,R.at τ (n+plen V sg q')):=by
 refine oi e λh0 e=>om1 e λs hs e=>?_
 have w:=split_w h0
 have z:=atQ A q
 rw[LG hs] at z
 have no:∀ {k' w' : Str} {l:List Tk},At R (n+plen V sg q) ((k',w')::l)->(k' == "word"&&w'.cps.toList==x)=false->callN (pk0 sc) (k+5) (.glob (.ref 561)) [.ref R.r,.str ⟨x.toArray⟩] (R.at τ (n+plen V sg q))=some (.bool false,R.at τ (n+plen V sg q)):=λz hf=>by
  rw[skip_ok sc h w.1 w.2 z.lt0];unfold Rdr.isW
  rw[z.k0,z.w0,show (_==_&&_==(⟨x.toArray⟩:Str))=false from(congrArg _ (W3 _ x)).trans hf];rfl
 have seg:∀ {hs},segHeads s=some hs->(if hs.contains ⟨x.toArray⟩ then none else some (SV.bool false,q))=some (r,q')->callN (pk0 sc) (k+5) (.glob (.ref 561)) [.ref R.r,.str ⟨x.toArray⟩] (R.at τ (n+plen V sg q))=some (den (rdD V R σ n sg) r,R.at τ (n+plen V sg q')):=λ{hs} hh e=>by
  refine xe32 (head_of hh ok (r:=sg.drop (q+1))) λk' w' l el hw=>?_
  rw[el] at z
  cases hc:hs.contains ⟨x.toArray⟩ with
  |true=>rw[hc] at e;exact nos e
  |false=>
   rw[hc] at e;refine oe2 e (no z ?_)
   cases ek:k' == "word" with
   |false=>rfl
   |true=>
    cases ew:w'.cps.toList==x with
    |false=>rfl
    |true=>
     have hm:=hw (eq_of_beq ek);rw[← eq_of_beq ew] at hc
     rw[HJ.mpr hm] at hc;cases hc
 cases s with
 |tk k' w' =>
  have z:At R (n+plen V sg q) ((k',w')::_):=z;have e:(if k' == "word"&&w'.cps.toList==x then some (SV.bool true,q+1) else some (SV.bool false,q))=some (r,q'):=e
  cases hb:(k'==("word" : Str)&&w'.cps.toList==x) with
  |false=>rw[hb] at e;exact oe2 e (no z hb)
  |true=>
   rw[hb] at e;refine oe2 e ?_
   rw[skip_ok sc h w.1 w.2 z.lt0];unfold Rdr.isW
   rw[z.k0,z.w0,show (_==_&&_==(⟨x.toArray⟩:Str))=true from(congrArg _ (W3 _ x)).trans hb,M4 hs];rfl
 |_=>exact om1 e λhs hh e=>seg hh e
theorem peek_is {a q q' : Nat}{r:SV}(A:At R n (sgT V sg))(e:peekQ sg q a=some (r,q')):n+plen V sg q+a<R.toks.length∧den (rdD V R σ n sg) r=R.tokAV (n+plen V sg q+a)∧q'=q:=by
 refine oi e λh0 e=>?_
 obtain⟨h1,h2⟩:=tks_is A a q h0
 refine oe2 e ⟨h1,?_,rfl⟩
 show (if n+plen V sg (q+a)<_ then _ else _)=_
 rw[h2,← Gv]
 exact if_pos h1
theorem den_it (i:Nat):den (rdD V R σ n sg) (.tp (3 * i))=(V.it i).val:=by
 refine(NU V _).trans ?_
 unfold tpV
 rw[if_pos m30,show (3 * i) / 3=i from d30]
theorem den_tx (i:Nat):den (rdD V R σ n sg) (.tp (3 * i+1))=(V.tx i).val:=by
 refine(NU V _).trans ?_
 unfold tpV
 rw[if_neg n31,if_pos m31,show (3 * i+1) / 3=i from d31]
theorem den_b (i:Nat):den (rdD V R σ n sg) (.at (2 * i))=partV (V.bn i).b:=by
 show (if 2 * i % 2=0 then partV (V.bn (2 * i / 2)).b else _)=_
 rw[if_pos m20,show 2 * i / 2=i from d20]
theorem den_a (i:Nat):den (rdD V R σ n sg) (.at (2 * i+1))=partV (V.bn i).a:=by
 show (if (2 * i+1) % 2=0 then _ else partV (V.bn ((2 * i+1) / 2)).a)=_
 rw[if_neg n21,show (2 * i+1) / 2=i from d21]
structure DenV (D:Dn)(V:Rv):Prop where
 it:∀ i,den D (.tp (3 * i))=(V.it i).val
 tx:∀ i,den D (.tp (3 * i+1))=(V.tx i).val
 b:∀ i,den D (.at (2 * i))=partV (V.bn i).b
 a:∀ i,den D (.at (2 * i+1))=partV (V.bn i).a
 tr:den D (.tp 2) = .tup (V.tr.map Trow.val)
 er:den D (.tp 5) = .tup (V.er.map Rrow.val)
theorem rd_den:DenV (rdD V R σ n sg) V:=⟨den_it,den_tx,den_b,den_a,NU V 2,NU V 5⟩
abbrev NatG (V:Rv)(R:Rdr)(σ τ:Store)(n:Nat)(sg:List Sg)(sc:ScT)(l:List SV)(q:Nat)(r:SV)(q' : Nat)(k:Nat)(a:Addr):Prop:=
 callN (pk0 sc) k (.glob (.ref a)) (l.map (den (rdD V R σ n sg))) (R.at τ (n+plen V sg q))=some (den (rdD V R σ n sg) r,R.at τ (n+plen V sg q'))
section
variable {K m:Nat}{a:Addr}{l:List SV}{q q' i:Nat}{r:SV}{rs:List Sg}
theorem qPeek_is {k:Nat}(h:R.Ok τ)(A:At R n (sgT V sg))(e:qPeek sg l q=some (r,q')):NatG V R σ τ n sg sc l q r q' (k+2) 518:=by
 refine oOr e (λe=>N2 e λe=>?_) λe=>rd2_is e λb e=>om1 e λi hi e=>oi e λh0 e=>?_
 · obtain⟨h1,h2,h3⟩:=peek_is (σ:=σ) A e
   show _=some (den _ r,_);rw[h2,h3]
   exact peek_ok0 sc h h1
 · obtain⟨h1,h2,h3⟩:=peek_is (σ:=σ) A e
   show _=some (den _ r,_);rw[h2,h3]
   exact eInt (G:=λb=>callN (pk0 sc) (k+2) (.glob (.ref 518)) [.ref R.r,den (rdD V R σ n sg) b] (R.at τ (n+plen V sg q))=_) hi (LZ sc h h0 h1)
theorem qRes_is {k:Nat}(h:R.Ok τ)(e:qRes l q=some (r,q')):NatG V R σ τ n sg sc l q r q' (k+1) 490:=by
 refine uE1 e λw e=>om1 e λx hx e=>om1 e λb hb e=>oe2 e ?_
 have z:=alT resT_ok _ (look_in hb)
 refine eCon (G:=λw=>callN (pk0 sc) (k+1) (.glob (.ref 490)) [w] _=_) hx ?_
 rw[P8 sc h (QJ (leB (and2 z).2) (leB rfl)),reserved_eq,eq_of_beq (and2 z).1]
 rfl
theorem isTx_is {v:SV}(h:isTx v=true):∃ j,den (rdD V R σ n sg) v=(V.tx j).val:=by
 cases v with
 |tp j=>
  refine⟨j / 3,?_⟩;rw[← den_tx (R:=R) (σ:=σ) (n:=n) (sg:=sg),← eq_of_beq (h:(j % 3==1)=true),Nat.div_add_mod]
 |_=>exact nof h
theorem isNon_is {v:SV}(h:isNon v=true):v = .none:=by cases v<;>first|rfl|exact nof h
theorem qWid_is {k:Nat}(h:R.Ok τ)(ok:V.Ok)(F1:1≤lv->Facts1)(e:qWid lv l q=some (r,q')):NatG V R σ τ n sg sc l q r q' (k+10) 433:=by
 refine uE2 e λv w e=>oi e λh0 e=>oe2 e ?_
 have h1:=and3 h0
 have F:=F1 (leB h1.1)
 obtain⟨j,ej⟩:=isTx_is (V:=V) (R:=R) (σ:=σ) (n:=n) (sg:=sg) h1.2.1
 show callN (pk0 sc) (k+10) _ [_,den (rdD V R σ n sg) w] _=_
 rw[ej]
 refine(Qv.mp h1.2.2).elim (λh2=>?_) λh2=>?_
 · rw[isNon_is h2]
   exact F.wid sc R τ _ k none _ h trivial (ok.tx _)
 · obtain⟨i,ei⟩:=isTx_is (V:=V) (R:=R) (σ:=σ) (n:=n) (sg:=sg) h2
   rw[ei];exact F.wid sc R τ _ k (some (V.tx i)) _ h (ok.tx _) (ok.tx _)
theorem qLa_is (h:R.Ok τ)(ok:V.Ok)(F1:1≤lv->Facts1)(z:At R (n+plen V sg q) (V.la::sgT V rs))(e:qLa lv m a l q=some (r,q')):NatG V R σ τ n sg sc l q r q' (K+m+1) a:=
 oi e λhl e=>oOr e (λe=>UU (P:=NatG V R σ τ n sg sc l q r q') e λk e=>N2 e λe=>oe2 e ((F1 (leB hl)).begL sc R τ _ k _ _ h z ok.la)) λe=>
  UU (P:=NatG V R σ τ n sg sc l q r q') e λk e=>N2 e λe=>oe2 e ((F1 (leB hl)).opnL sc R τ _ k _ _ h z ok.la)
theorem nat_end {x:Nat}{v w:AV}{y:Nat}(he:v=w)(hy:n+plen V sg (q+1)=n+plen V sg q+y)(z:callN (pk0 sc) x (.glob (.ref a)) [.ref R.r] (R.at τ (n+plen V sg q))=some (w,R.at τ (n+plen V sg q+y))) :
  callN (pk0 sc) x (.glob (.ref a)) [.ref R.r] (R.at τ (n+plen V sg q))=some (v,R.at τ (n+plen V sg (q+1))):=by rw[he,hy];exact z
theorem qTx_is (h:R.Ok τ)(ok:V.Ok)(F1:1≤lv->Facts1)(hy:n+plen V sg (q+1)=n+plen V sg q+(V.tx i).toks.length)(z:At R (n+plen V sg q) ((V.tx i).toks++sgT V rs))(e:qTx lv m a l q rs i=some (r,q')):NatG V R σ τ n sg sc l q r q' (K+m+1) a:=
 oi e λhl e=>oOr e (λe=>UU (P:=NatG V R σ τ n sg sc l q r q') e λk e=>N2 e λe=>oi e λh0 e=>oe2 e (by
   refine xe22 (stop_head rs h0 ok) λt l' el ht=>?_
   rw[el] at z;exact nat_end (den_tx i) hy ((F1 (leB hl)).text sc R τ _ k _ t l' h (ok.tx i) z ht))) λe=>
  UU (P:=NatG V R σ τ n sg sc l q r q') e λk e=>N2 e λe=>oe2 e ((F1 (leB hl)).beg sc R τ _ k _ _ h (ok.tx i) z)
theorem isFor_is (h:isFor rs=true):∃ r,sgT V rs=wtk "FOR"::r:=by
 cases rs with
 |nil=>exact nof h
 |cons s r=>cases s with
  |tk k w=>exact⟨sgT V r,congrArg (·::sgT V r) (Prod.ext (eq_of_beq (and2 h).1) (eq_of_beq (and2 h).2))⟩
  |_=>exact nof h
theorem qIt_is (h:R.Ok τ)(ok:V.Ok)(F1:1≤lv->Facts1)(hy:n+plen V sg (q+1)=n+plen V sg q+(V.it i).toks.length)(z:At R (n+plen V sg q) ((V.it i).toks++sgT V rs))(e:qIt lv m a l q rs i=some (r,q')):NatG V R σ τ n sg sc l q r q' (K+m+1) a:=
 oi e λhl e=>oOr e (λe=>UU (P:=NatG V R σ τ n sg sc l q r q') e λk e=>N2 e λe=>oi e λh0 e=>oe2 e (by
   refine xe22 (stop_head rs h0 ok) λt l' el ht=>?_
   rw[el] at z;exact nat_end (den_it i) hy ((F1 (leB hl)).ref sc R τ _ k _ t l' h (ok.it i) z ht))) λe=>
  oOr e (λe=>UU (P:=NatG V R σ τ n sg sc l q r q') e λk e=>N2 e λe=>oe2 e ((F1 (leB hl)).beg sc R τ _ k (.itm (V.it i)) _ h (J0 _ (VQ (ok.it i))) z)) λe=>
  UU (P:=NatG V R σ τ n sg sc l q r q') e λk e=>N2 e λe=>oi e λh0 e=>oe2 e (by
   obtain⟨r',er⟩:=isFor_is (V:=V) h0;rw[er] at z
   exact(F1 (leB hl)).opn sc R τ _ k _ _ h (ok.it i) z)
theorem qOne_is {v b c y:Nat}{t:Bool}{x:SV}{w:AV}(hy:n+plen V sg (q+1)=n+plen V sg q+y)(he:den (rdD V R σ n sg) x=w)(e:qOne v lv m a b c l x q t=some (r,q'))
  (z:v≤lv->t=true->∀ k,callN (pk0 sc) (k+c) (.glob (.ref b)) [.ref R.r] (R.at τ (n+plen V sg q))=some (w,R.at τ (n+plen V sg q+y))):NatG V R σ τ n sg sc l q r q' (K+m+1) a:=
 oi e λhl e=>UU (P:=NatG V R σ τ n sg sc l q r q') e λk e=>N2 e λe=>oi e λh0 e=>oe2 e (nat_end he hy (z (leB hl) h0 k))
theorem segS_is (h:R.Ok τ)(ok:V.Ok)(F1:1≤lv->Facts1)(F2:2≤lv->Facts2)(F3:3≤lv->Facts3){s:Sg}(hy:n+plen V sg (q+1)=n+plen V sg q+(s.toks V).length)(z:At R (n+plen V sg q) (s.toks V++sgT V rs))(e:segS lv m a l q rs s=some (r,q')):NatG V R σ τ n sg sc l q r q' (K+m+1) a:=by
 cases s with
 |la=>exact qLa_is h ok F1 z e
 |tx i=>exact qTx_is h ok F1 hy z e
 |it i=>exact qIt_is h ok F1 hy z e
 |bn i=>
  refine qOne_is hy (show den (rdD V R σ n sg) (.tup [.at (2 * i),.at (2 * i+1)]) = .tup (V.bn i).val from congrArg AV.tup (congr (congrArg V5 (den_b i)) (congrArg (·::[]) (den_a i)))) e λhl h0 k=>?_
  refine xe22 (end_head rs h0 ok) λt l' el ht=>?_
  rw[el] at z;exact F2 hl sc R τ _ k _ t l' h (ok.bn i) z ht
 |tr=>
  refine qOne_is hy (show den (rdD V R σ n sg) (.tp 2) = .tup (V.tr.map Trow.val) from NU V 2) e λhl h0 k=>?_
  refine xe22 (last_head rs h0 ok) λt l' el ht=>?_
  rw[el] at z;exact(F3 hl).tal sc R τ _ k _ t l' h ok.tr z ht
 |er=>
  refine qOne_is hy (show den (rdD V R σ n sg) (.tp 5) = .tup (V.er.map Rrow.val) from NU V 5) e λhl h0 k=>?_
  refine xe22 (last_head rs h0 ok) λt l' el ht=>?_
  rw[el] at z;exact(F3 hl).rep sc R τ _ k _ t l' h ok.er z ht
 |_=>exact nos e
theorem natQ_is (h:R.Ok τ)(A:At R n (sgT V sg))(ok:V.Ok)(F1:1≤lv->Facts1)(F2:2≤lv->Facts2)(F3:3≤lv->Facts3)(e:natQ lv sg m a l q=some (r,q')):NatG V R σ τ n sg sc l q r q' (K+m+1) a:=
 oOr e (λe=>UU (P:=NatG V R σ τ n sg sc l q r q') e λk e=>qPeek_is h A e) λe=>oOr e (λe=>UU (P:=NatG V R σ τ n sg sc l q r q') e λk e=>rd2_is e λw e=>om1 e λx hx e=>eCon (G:=λw=>callN (pk0 sc) (k+5) (.glob (.ref 561)) [.ref R.r,w] _=_) hx (skip_is h A ok e)) λe=>
  oOr e (λe=>UU (P:=NatG V R σ τ n sg sc l q r q') e λk e=>qRes_is h e) λe=>oOr e (λe=>UU (P:=NatG V R σ τ n sg sc l q r q') e λk e=>qWid_is h ok F1 e) λe=>om1 e λs hs e=>by
   have z:=atQ A q;have hs:sg[q]? = some s:=(congrArg (sg[·]?) (V3 q)).symm.trans (List.getElem?_drop.symm.trans (List.head?_eq_getElem?.symm.trans hs))
   rw[LG hs] at z e;exact segS_is h ok F1 F2 F3 ((congrArg (n + ·) (M4 hs)).trans (Gv ..).symm) z e
end
theorem Pz (h:R.Ok σ)(A:At R n (sgT V sg))(ok:V.Ok)(F1:1≤lv->Facts1)(F2:2≤lv->Facts2)(F3:3≤lv->Facts3){d:Nat}{g:SV}{l:List SV}{st st' : Ss}{r:SV}(K:Nat)(e:callS (rdNv (pk0 sc) lv sg) d g l st=some (r,st')) :
  callN (pk0 sc) (K+d) (den (rdD V R σ n sg) g) (l.map (den (rdD V R σ n sg))) (denS (rdD V R σ n sg) st)=some (den (rdD V R σ n sg) r,denS (rdD V R σ n sg) st'):=by
 have H:=rdnv_ok (sc:=sc) (lv:=lv) h A
 refine H8 (nv:=rdNv (pk0 sc) lv sg) H (leB rfl) (λm g l st r st' e=>?_) d g l st r st' e
 cases g with
 |glob v=>cases v with
  |ref a=>
   refine oi e λhc e=>om e λr q e1 e=>oe2 e ?_
   have ho:R.Ok (σ++st.2.map λl=>AO.list (denC (rdD V R σ n sg) l)):=h.app (by
    rw[QH];generalize hm:st.2.length=m at hc ⊢
    generalize st.2=L at hc
    induction L with
    |nil=>rfl
    |cons a L ih=>exact anI ⟨(R8 H m a).trans (and2 hc).1,ih (and2 hc).2⟩)
   have z:callN (pk0 sc) (K+m+1) (.glob (.ref a)) (l.map (den (rdD V R σ n sg))) _=some (_,_):=natQ_is (σ:=σ) (sc:=sc) (K:=K) ho A ok F1 F2 F3 e1;rw[← KV h,← KV h] at z
   exact z
  |_=>exact nos e
 |_=>exact nos e
end
end
section
open PySem.SeqAt
open Rdr
noncomputable def scK:Sc->Nat×Nat
 | .c n=>(0,n)
 | .a n=>(1,n)
 | .e n=>(2,n)
noncomputable def scU (p:Nat×Nat):Sc:=if p.1=0 then .c p.2 else if p.1=1 then .a p.2 else .e p.2
theorem sc_u (a:Sc):scU (scK a)=a:=by cases a<;>rfl
noncomputable def eqSc (l r:List Sc):Bool:=l.map scK==r.map scK
theorem codeL {α β:Type}{f:α->β}{g:β->α}(h:∀ a,g (f a)=a):∀ {l r:List α},l.map f=r.map f->l=r:=
 λe=>(List.map_inj_right λx y e=>(h x).symm.trans ((congrArg g e).trans (h y))).mp e
theorem eqSc_is {a b:List Sc}(h:eqSc a b=true):a=b:=codeL sc_u (eq_of_beq h)
noncomputable def svN:SV->Option (Nat×Nat)
 | .none=>some (0,0)
 | .kn x=>some (1,x)
 | .at x=>some (2,x)
 | .tp x=>some (3,x)
 | .sp x=>some (4,x)
 |_=>none
noncomputable def svU (p:Nat×Nat):SV:=if p.1=0 then .none else if p.1=1 then .kn p.2 else if p.1=2 then .at p.2 else if p.1=3 then .tp p.2 else .sp p.2
theorem svN_is {b:SV}{p:Nat×Nat}(h:svN b=some p):b=svU p:=by cases b<;>first|exact nos h|exact congrArg svU (soI h)
theorem hd_tl {α:Type}{y:α}{l:List α}(e:l.head? = some y):y::l.tail=l:=by
 cases l with
 |nil=>exact nos e
 |cons a l=>exact congrArg (·::l) (soI e).symm
def eqM (b:SV)(k x:Nat):Bool:=svN b==some (k,x)
theorem qK {b:SV}{k x:Nat}(h:eqM b k x=true):svU (k,x)=b:=(svN_is (eq_of_beq h)).symm
mutual
noncomputable def eqV:SV->SV->Bool
 | .none,b=>eqM b 0 0
 | .bool x,b=>okO (svBool b) λy=>x==y
 | .int x,b=>okO (asInt b) λy=>x==y
 | .str x,b=>okO (svStr b) λy=>eqSc x y
 | .byt x,b=>okO (asByt b) λy=>x.toList==y.toList
 | .tup x,b=>okO (svTup b) λy=>eqW x y
 | .ref x,b=>okO (asRef b) λy=>x==y
 | .kn x,b=>eqM b 1 x
 | .at x,b=>eqM b 2 x
 | .tp x,b=>eqM b 3 x
 | .sp x,b=>eqM b 4 x
 |_,_=>false
noncomputable def eqW:List SV->List SV->Bool
 | [],b=>b.isEmpty
 |x::l,b=>okO b.head? λy=>eqV x y&&eqW l b.tail
end
theorem Mz (a:SV):∀ b,eqV a b=true->a=b:=SV.rec (motive_1:=λa=>∀ b,eqV a b=true->a=b) (motive_2:=λl=>∀ b,eqW l b=true->l=b)
 (λb h=>qK h) (λx b h=>okE h λy e h=>eBool (G:=λb=>.bool x=b) e (congrArg _ (eq_of_beq h))) (λx b h=>okE h λy e h=>eInt (G:=λb=>.int x=b) e (congrArg _ (eq_of_beq h)))
 (λx b h=>okE h λy e h=>eStr (G:=λb=>.str x=b) e (congrArg _ (eqSc_is h))) (λx b h=>okE h λy e h=>eByt (G:=λb=>.byt x=b) e (congrArg _ (Array.toList_inj.mp (eq_of_beq h)))) (λx ih b h=>okE h λy e h=>eTup (G:=λb=>.tup x=b) e (congrArg _ (ih _ h)))
 (λx b h=>okE h λy e h=>eRef (G:=λb=>.ref x=b) e (congrArg _ (eq_of_beq h))) (λx b h=>qK h) (λx b h=>qK h) (λx b h=>qK h)
 (λx b h=>qK h) (λZ h=>nof h) (λZ Z h=>nof h) (λZ Z h=>nof h) (λZ Z h=>nof h) (λZ Z Z Z h=>nof h)
 (λb h=>(Qx.mp h).symm) (λa l i j b h=>okE h λy e h=>(congr (congrArg V5 (i y (and2 h).1)) (j _ (and2 h).2)).trans (hd_tl e)) a
theorem qZ {a b:List SV}(h:eqW a b=true):a=b:=soI (congrArg svTup (Mz (.tup a) (.tup b) h))
def chk (r:Sr)(a:SV)(q:Nat):Bool:=okO r λx=>eqV x.1 a&&x.2.1==q&&x.2.2.isEmpty
theorem chk_is {r:Sr}{a:SV}{q:Nat}(h:chk r a q=true):r=some (a,q,[]):=
 okE h λx e h=>e.trans (congrArg some (Prod.ext (Mz _ _ (and3 h).1) (Prod.ext (eq_of_beq (and3 h).2.1) (Qx.mp (and3 h).2.2))))
noncomputable def toSg (ts:List Tk):List Sg:=ts.map λt=>.tk t.1 t.2
noncomputable def refS (w:Str) (subs:List SV):SV:=.tup [liftStr "ref",liftStr w,.tup [],.tup subs,.none]
def Itm.sv (x:Itm):SV:=refS x.nm (if x.sub then [refS "I" []] else [])
noncomputable def Tx.sv:Tx->SV
 | .itm x=>x.sv
 | .fig w=>.tup [liftStr "figure",liftStr w]
 | .lit c=>.tup [liftStr "text",.byt #[c.toUInt8]]
section
variable {V:Rv}{R:Rdr}{σ:Store}{n:Nat}{sg:List Sg}{sc:ScT}{lv d q:Nat}{a:Addr}{v:SV}
theorem goL (h:R.Ok σ)(A:At R n (sgT V sg))(ok:V.Ok)(F1:1≤lv->Facts1)(F2:2≤lv->Facts2)(F3:3≤lv->Facts3){l:List SV}(c:chk (callS (rdNv (pk0 sc) lv sg) d (.glob (.ref a)) l (0,[])) v q=true)(k:Nat) :
  callN (pk0 sc) (k+d) (.glob (.ref a)) (l.map (den (rdD V R σ n sg))) (R.at σ n)=some (den (rdD V R σ n sg) v,R.at σ (n+plen V sg q)):=by
 have z:=Pz (sc:=sc) h A ok F1 F2 F3 k (chk_is c)
 have e:∀ q,denS (rdD V R σ n sg) (q,[])=R.at σ (n+plen V sg q):=λq=>QX _
 rw[e,e] at z
 exact z
theorem go0 (h:R.Ok σ)(A:At R n (sgT V sg))(ok:V.Ok)(c:chk (callS (rdNv (pk0 sc) 0 sg) d (.glob (.ref a)) [.rdr] (0,[])) v q=true)(k:Nat) :
  callN (pk0 sc) (k+d) (.glob (.ref a)) [.ref R.r] (R.at σ n)=some (den (rdD V R σ n sg) v,R.at σ (n+plen V sg q)):=
 goL h A ok (λh=>absurd h (by decide)) (λh=>absurd h (by decide)) (λh=>absurd h (by decide)) c k
end
theorem NX {V:Rv}:∀ (ts:List Tk),sgT V (toSg ts)=ts
 | []=>rfl
 |t::ts=>congrArg (t::·) (NX ts)
theorem toSg_plen {V:Rv}(ts:List Tk)(r:List Sg):plen V (toSg ts++r) ts.length=ts.length:=by
 have e:(toSg ts++r).take ts.length=toSg ts:=List.take_left' (QH ..)
 unfold plen
 rw[e,NX]
theorem toSg_app {V:Rv}{ts:List Tk}{s:Sg}{t:Tk}(h:s.toks V=[t]):sgT V (toSg ts++[s])=ts++[t]:=by
 show (toSg ts++[s]).flatMap _=_
 rw[Q8]
 exact congr (congrArg _ (NX ts)) ((QX _).trans h)
noncomputable def it0:Itm:=⟨"T",false⟩
noncomputable def tx0:Tx:=.itm it0
noncomputable def bn0:Bnd:=⟨none,none,true⟩
def rv0 (w:Str):Rv:=⟨λZ=>it0,λZ=>tx0,λZ=>bn0,[⟨it0,.chars,bn0⟩],[⟨.chars,tx0,bn0⟩],λb=>if b then "T" else w,wtk "END-IF"⟩
theorem Gj {w:Str}(h:wtk w∈stopL):(rv0 w).Ok:=⟨λZ=>.head _,λZ=>.head _,λZ=>⟨trivial,trivial⟩,⟨VU _ _,leB rfl,λr hr=>by rw[Hk.mp hr];exact⟨.head _,trivial,trivial,trivial⟩⟩,
 ⟨VU _ _,leB rfl,λr hr=>by rw[Hk.mp hr];exact⟨trivial,.head _,trivial,trivial⟩⟩,h,ciM rfl,ciM rfl⟩
noncomputable def stopS:List Sg:=[.sw false,.tk "sign" "."]
theorem stop_sg {t:Tk}(h:t∈stopL):∃ V s,Rv.Ok V∧s.toks V=[t]∧s∈stopS:=by
 by_cases e:t.1 = "word"
 · refine⟨rv0 t.2,.sw false,Gj (by rw[wtk,← e];exact h),?_,.head _⟩
   show [wtk t.2]=_;rw[wtk,← e]
 · refine⟨rv0 "T",.tk "sign" ".",Gj (ciM rfl),?_,.tail _ (.head _)⟩
   have z:=alT (rfl:stopL.all (λt=>t.1 == "word"||(t.1 == "sign"&&t.2 == "."))=true) t h
   rcases Qv.mp z with z|z
   · exact absurd (eq_of_beq z) e
   · show [(("sign" : Str),(("." : Str)))]=_
     rw[← eq_of_beq (and2 z).1,← eq_of_beq (and2 z).2]
theorem ref_sv {D:Dn}{w:Str}{l:List SV}:den D (refS w l)=refV w (denM D l):=by
 show AV.tup [den D (liftStr _),den D (liftStr _),_,_,_]=_
 rw[JM,JM];rfl
theorem itm_sv {D:Dn}(x:Itm):den D x.sv=x.val:=by
 obtain⟨w,s⟩:=x
 refine ref_sv.trans (congrArg (refV w) ?_)
 cases s with
 |false=>rfl
 |true=>exact congrArg (·::[]) ref_sv
theorem tx_sv {D:Dn}(x:Tx):den D x.sv=x.val:=by
 cases x with
 |itm x=>exact itm_sv x
 |fig w=>exact congrArg AV.tup (congr (congrArg V5 (JM _)) (congrArg (·::[]) (JM _)))
 |lit c=>exact congrArg AV.tup (congrArg (·::_) (JM _))
abbrev run1 (sc:ScT)(sg:List Sg)(d:Nat)(a:Addr):Sr:=callS (rdNv (pk0 sc) 0 sg) d (.glob (.ref a)) [.rdr] (0,[])
theorem text_run (sc:ScT):(allT.all λx=>stopS.all λs=>chk (run1 sc (toSg x.toks++[s]) 40 391) x.sv x.toks.length)=true:=by kernel_rfl
theorem ref_run (sc:ScT):(allI.all λx=>stopS.all λs=>chk (run1 sc (toSg x.toks++[s]) 40 370) x.sv x.toks.length)=true:=by kernel_rfl
theorem beg_run (sc:ScT):(allT.all λx=>chk (run1 sc (toSg x.toks) 30 398) (.bool true) 0)=true:=by kernel_rfl
theorem opn_run (sc:ScT):(allI.all λx=>chk (run1 sc (toSg (x.toks++[wtk "FOR"])) 42 412) (.bool true) 0)=true:=by kernel_rfl
theorem last_run (sc:ScT):(lastL.all λt=>chk (run1 sc (toSg [t]) 30 398) (.bool false) 0&&chk (run1 sc (toSg [t]) 42 412) (.bool false) 0)=true:=by kernel_rfl
noncomputable def opS:Option Tx->SV
 |none=>.none
 |some x=>x.sv
theorem wid_run (sc:ScT):((none::allT.map some).all λo=>allT.all λx=>chk (callS (rdNv (pk0 sc) 0 []) 10 (.glob (.ref 433)) [opS o,x.sv] (0,[])) (.bool true) 0)=true:=by kernel_rfl
theorem facts1:Facts1 where
 begL sc R σ n k t l h A ht:=by
  have z:=alT (last_run sc) t ht;exact go0 (V:=rv0 "T") h (sg:=toSg [t]) (At.left (m:=l) A) (Gj (ciM rfl)) (and2 z).1 k
 opnL sc R σ n k t l h A ht:=by
  have z:=alT (last_run sc) t ht;exact go0 (V:=rv0 "T") h (sg:=toSg [t]) (At.left (m:=l) A) (Gj (ciM rfl)) (and2 z).2 k
 text sc R σ n k x t l h hx A ht:=by
  refine xe23 (stop_sg ht) λV s ok es hs=>?_
  have A' : At R n (sgT V (toSg x.toks++[s])):=by rw[toSg_app es];exact At.left (m:=l) (by rw[QW];exact A)
  have z:=go0 h A' ok (alT (alT (text_run sc) x hx) s hs) k;rw[toSg_plen,tx_sv] at z
  exact z
 beg sc R σ n k x l h hx A:=go0 (V:=rv0 "T") h (sg:=toSg x.toks) (by rw[NX];exact A.left) (Gj (ciM rfl)) (alT (beg_run sc) x hx) k
 ref sc R σ n k x t l h hx A ht:=by
  refine xe23 (stop_sg ht) λV s ok es hs=>?_
  have A' : At R n (sgT V (toSg x.toks++[s])):=by rw[toSg_app es];exact At.left (m:=l) (by rw[QW];exact A)
  have z:=go0 h A' ok (alT (alT (ref_run sc) x hx) s hs) k;rw[toSg_plen,itm_sv] at z
  exact z
 opn sc R σ n k x l h hx A:=go0 (V:=rv0 "T") h (sg:=toSg (x.toks++[wtk "FOR"])) (by rw[NX];exact At.left (m:=l) (by rw[QW];exact A)) (Gj (ciM rfl)) (alT (opn_run sc) x hx) k
 wid sc R σ n k o x h ho hx:=by
  have hm:o∈none::allT.map some:=by
   cases o with
   |none=>exact .head _
   |some y=>exact .tail _ (VQ (ho:y∈allT))
  have z:=goL (V:=rv0 "T") (R:=R) (σ:=σ) (n:=n) (sg:=[]) h ⟨R.toks.drop n,rfl⟩ (Gj (ciM rfl)) (λh=>absurd h (by decide)) (λh=>absurd h (by decide)) (λh=>absurd h (by decide)) (alT (alT (wid_run sc) o hm) x hx) k
  have eo:∀ D,den D (opS o)=opAV o:=λD=>by cases o<;>first|rfl|exact tx_sv _
  rw[QM,QM,eo,tx_sv] at z;exact z
end
section
open PySem.SeqAt
open Rdr
noncomputable def endS:List Sg:=[.sw true,.tk "sign" "."]
noncomputable def Rv.se (V:Rv) (w:Str):Rv:={ V with sw:=λb=>if b then w else "T" }
theorem Rv.Ok.se' {V:Rv}(h:V.Ok){w:Str}(hw:wtk w∈endL):(V.se w).Ok:=⟨h.it,h.tx,h.bn,h.tr,h.er,ciM rfl,hw,h.la⟩
theorem end_sg {t:Tk}(h:t∈endL){V:Rv}(ok:V.Ok):∃ w s,(V.se w).Ok∧s.toks (V.se w)=[t]∧s∈endS:=by
 by_cases e:t.1 = "word"
 · refine⟨t.2,.sw true,ok.se' (by rw[wtk,← e];exact h),?_,.head _⟩
   show [wtk t.2]=_;rw[wtk,← e]
 · refine⟨"T",.tk "sign" ".",ok.se' (ciM rfl),?_,.tail _ (.head _)⟩
   have z:=alT (rfl:endL.all (λt=>t.1 == "word"||(t.1 == "sign"&&t.2 == "."))=true) t h
   rcases Qv.mp z with z|z
   · exact absurd (eq_of_beq z) e
   · show [(("sign" : Str),(("." : Str)))]=_
     rw[← eq_of_beq (and2 z).1,← eq_of_beq (and2 z).2]
noncomputable abbrev wsg (w:Str):Sg:=.tk "word" w
noncomputable def partG (w:Str) (o:Option Bool) (j:Nat):List Sg:=match o with
 |none=>[]
 |some i=>wsg w::((if i then [wsg "INITIAL"] else [])++[.tx j])
def bndG (b a:Option Bool)(ba:Bool):List Sg:=if ba then partG "BEFORE" b 0++partG "AFTER" a 1 else partG "AFTER" a 1++partG "BEFORE" b 0
noncomputable def partS (o:Option Bool) (j:Nat):SV:=match o with
 |none=>.none
 |some _=>.tp (3 * j+1)
noncomputable def threeB:List (Option Bool):=[none,some false,some true]
theorem three_mem (o:Option Bool):o∈threeB:=by
 cases o with
 |none=>exact .head _
 |some b=>cases b<;>first|exact .tail _ (.head _)|exact .tail _ (.tail _ (.head _))
abbrev runL (sc:ScT)(lv:Nat)(sg:List Sg)(d:Nat)(a:Addr):Sr:=callS (rdNv (pk0 sc) lv sg) d (.glob (.ref a)) [.rdr] (0,[])
theorem bound_run (sc:ScT):(threeB.all λb=>threeB.all λa=>[false,true].all λba=>endS.all λs=>chk (runL sc 1 (bndG b a ba++[s]) 50 405) (.tup [partS b 0,partS a 1]) (bndG b a ba).length)=true:=by kernel_rfl
def Bnd.rv (x:Bnd):Rv:={ rv0 "T" with tx:=λi=>if i=0 then (match x.b with|some p=>p.2|none=>tx0) else (match x.a with|some p=>p.2|none=>tx0) }
theorem rv0T:(rv0 "T").Ok:=Gj (ciM rfl)
theorem Bnd.rv_ok {x:Bnd}(h:x.Is):x.rv.Ok where
 it:=rv0T.it
 tx i:=by
  obtain⟨hb,ha⟩:=h;obtain⟨b,a,ba⟩:=x
  show (if i=0 then _ else _)∈allT
  by_cases e:i=0
  · rw[if_pos e];cases b<;>first|exact .head _|exact hb
  · rw[if_neg e];cases a<;>first|exact .head _|exact ha
 bn:=rv0T.bn
 tr:=rv0T.tr
 er:=rv0T.er
 sw:=rv0T.sw
 se:=rv0T.se
 la:=rv0T.la
theorem app2 {α:Type}{a b c d:List α}(h:a=b)(h' : c=d):a++c=b++d:=by rw[h,h']
theorem qj (x:Bnd)(w:Str):sgT (x.rv.se w) (bndG (x.b.map (·.1)) (x.a.map (·.1)) x.ba)=x.toks:=by
 obtain⟨b,a,ba⟩:=x
 have e:∀ (u:Str) (p:Option (Bool×Tx)) (j:Nat) (V:Rv),(∀ q,p=some q->V.tx j=q.2)->sgT V (partG u (p.map (·.1)) j)=bpart u p:=λu p j V hp=>by
  cases p with
  |none=>rfl
  |some q=>
   obtain⟨i,y⟩:=q;have ey:sgT V [.tx j]=y.toks:=(QX _).trans (congrArg Tx.toks (hp _ rfl))
   cases i<;>exact congrArg (_::·) (by first|exact ey|exact congrArg (_::·) ey)
 have eb:=e "BEFORE" b 0 (Bnd.rv ⟨b,a,ba⟩ |>.se w) (λq h=>by subst h;rfl)
 have ea:=e "AFTER" a 1 (Bnd.rv ⟨b,a,ba⟩ |>.se w) (λq h=>by subst h;rfl)
 cases ba with
 |true=>exact Q8.trans (app2 eb ea)
 |false=>exact Q8.trans (app2 ea eb)
theorem W5 {V:Rv}(a b:List Sg):plen V (a++b) a.length=(sgT V a).length:=by
 unfold plen
 rw[RK]
theorem facts2:Facts2:=λsc R σ n k x t l h hx A ht=>by
 refine xe23 (end_sg ht (Bnd.rv_ok hx)) λw s ok es hs=>?_
 have A' : At R n (sgT (x.rv.se w) (bndG (x.b.map (·.1)) (x.a.map (·.1)) x.ba++[s])):=by
  rw[sgT,Q8,show G7 _ (bndG _ _ _)=_ from qj x w];refine At.left (m:=l) ?_
  rw[show G7 _ [s]=[t] from(QX _).trans es,QW];exact A
 have c:=alT (alT (alT (alT (bound_run sc) _ (three_mem (x.b.map (·.1)))) _ (three_mem (x.a.map (·.1)))) x.ba (by cases x.ba<;>first|exact .head _|exact .tail _ (.head _))) s hs
 have z:=goL h A' ok (λZ=>facts1) (λh=>absurd h (by decide)) (λh=>absurd h (by decide)) c k
 rw[W5,qj] at z
 refine z.trans (congrArg (λv=>some (AV.tup v,R.at σ (n+x.toks.length))) ?_)
 obtain⟨b,a,ba⟩:=x
 have eb:den (rdD (Bnd.rv ⟨b,a,ba⟩ |>.se w) R σ n (bndG (b.map (·.1)) (a.map (·.1)) ba++[s])) (partS (b.map (·.1)) 0)=partV b:=by
  cases b with
  |none=>rfl
  |some p=>exact NU _ 1
 have ea:den (rdD (Bnd.rv ⟨b,a,ba⟩ |>.se w) R σ n (bndG (b.map (·.1)) (a.map (·.1)) ba++[s])) (partS (a.map (·.1)) 1)=partV a:=by
  cases a with
  |none=>rfl
  |some p=>exact NU _ 4
 exact congr (congrArg V5 eb) (congrArg (·::[]) ea)
end
section
open PySem.SeqAt
open Rdr
noncomputable def optG (o:Bool) (i:Nat):List Sg:=if o then [.tx i] else []
noncomputable def optS (o:Bool) (i:Nat):SV:=if o then .tp (3 * i+1) else .none
noncomputable abbrev Shp:=Str×Bool
noncomputable def tallG:Nat->List Shp->List Sg
 |_,[]=>[]
 |i,p::r=>.it i::wsg "FOR"::wsg p.1::(optG p.2 i++.bn i::tallG (i+1) r)
noncomputable def tallS:Nat->List Shp->List SV
 |_,[]=>[]
 |i,p::r=>.tup [.tp (3 * i),liftStr p.1,optS p.2 i,.at (2 * i),.at (2 * i+1)]::tallS (i+1) r
noncomputable def exG:Nat->List Shp->List Sg
 |_,[]=>[]
 |i,p::r=>wsg p.1::(optG p.2 (2 * i)++wsg "BY"::.tx (2 * i+1)::.bn i::exG (i+1) r)
noncomputable def exS:Nat->List Shp->List SV
 |_,[]=>[]
 |i,p::r=>.tup [liftStr p.1,optS p.2 (2 * i),.tp (3 * (2 * i+1)+1),.at (2 * i),.at (2 * i+1)]::exS (i+1) r
noncomputable def tKs:List Shp:=[("CHARACTERS",false),("ALL",true),("LEADING",true)]
noncomputable def eKs:List Shp:=[("CHARACTERS",false),("ALL",true),("LEADING",true),("FIRST",true)]
noncomputable def upTo (ks:List Shp):Nat->List (List Shp)
 |0=>[]
 |n+1=>ks.flatMap λa=>[a]::(upTo ks n).map (a::·)
theorem MN {ks:List Shp}:∀ {n:Nat} {l:List Shp},l≠[]->l.length≤n->(∀ p∈l,p∈ks)->l∈upTo ks n
 |_,[],h,_,_=>absurd rfl h
 |n+1,[a],_,_,hk=>List.mem_flatMap.mpr ⟨a,hk a (.head _),.head _⟩
 |n+1,a::b::l,_,hl,hk=>List.mem_flatMap.mpr ⟨a,hk a (.head _),.tail _ (VQ (MN (VU b l) (V2 hl) λp hp=>hk p (.tail _ hp)))⟩
theorem tal_run (sc:ScT):((upTo tKs 3).all λps=>chk (runL sc 2 (tallG 0 ps++[.la]) 60 426) (.tup (tallS 0 ps)) (tallG 0 ps).length)=true:=by kernel_rfl
theorem rep_run (sc:ScT):((upTo eKs 2).all λps=>chk (runL sc 2 (exG 0 ps++[.la]) 60 454) (.tup (exS 0 ps)) (exG 0 ps).length)=true:=by kernel_rfl
noncomputable def Trow.shp (r:Trow):Shp:=(r.k.word,r.k.op.isSome)
noncomputable def Rrow.shp (r:Rrow):Shp:=(r.k.word,r.k.op.isSome)
noncomputable def opX (o:Option Tx):Tx:=o.getD tx0
def rowsV (rs:List Trow)(t:Tk):Rv:={ rv0 "T" with it:=λi=>(rs[i]?.map (·.c)).getD it0,tx:=λi=>(rs[i]?.map λr=>opX r.k.op).getD tx0,bn:=λi=>(rs[i]?.map (·.bd)).getD bn0,la:=t }
def exsV (rs:List Rrow)(t:Tk):Rv:={ rv0 "T" with tx:=λi=>(rs[i / 2]?.map λr=>if i % 2=0 then opX r.k.op else r.by_).getD tx0,bn:=λi=>(rs[i]?.map (·.bd)).getD bn0,la:=t }
theorem qJ {α β:Type}{P:β->Prop}{f:α->β}{d:β}{l:List α}{i:Nat}(h:∀ a∈l,P (f a))(hd:P d):P ((l[i]?.map f).getD d):=by
 cases e:l[i]? with
 |none=>exact hd
 |some a=>exact h a (HX e)
theorem opX_is {o:Option Tx}(h:OpIs o):(opX o).Is:=by
 cases o with
 |none=>exact .head _
 |some x=>exact h
theorem rowsV_ok {rs:List Trow}(h:∀ r∈rs,r.Is){t:Tk}(ht:t∈lastL):(rowsV rs t).Ok where
 it i:=qJ (P:=Itm.Is) (λr hr=>(h r hr).c) (.head _)
 tx i:=qJ (P:=Tx.Is) (λr hr=>opX_is (h r hr).k) (.head _)
 bn i:=qJ (P:=Bnd.Is) (λr hr=>(h r hr).bd) ⟨trivial,trivial⟩
 tr:=rv0T.tr
 er:=rv0T.er
 sw:=rv0T.sw
 se:=rv0T.se
 la:=ht
theorem exsV_ok {rs:List Rrow}(h:∀ r∈rs,r.Is){t:Tk}(ht:t∈lastL):(exsV rs t).Ok where
 it:=rv0T.it
 tx i:=qJ (P:=Tx.Is) (λr hr=>by
  show Tx.Is (if i % 2=0 then _ else _)
  by_cases e:i % 2=0
  · rw[if_pos e];exact opX_is (h r hr).k
  · rw[if_neg e];exact(h r hr).b) (.head _)
 bn i:=qJ (P:=Bnd.Is) (λr hr=>(h r hr).bd) ⟨trivial,trivial⟩
 tr:=rv0T.tr
 er:=rv0T.er
 sw:=rv0T.sw
 se:=rv0T.se
 la:=ht
theorem VW {α:Type}{a b:α}{c d:List α}(h:a=b)(h' : c=d):a::c=b::d:=by rw[h,h']
theorem W4 {V:Rv}(a b:List Sg):sgT V (a++b)=sgT V a++sgT V b:=Q8
theorem opt_toks {V:Rv}{o:Option Tx}{i:Nat}(h:V.tx i=opX o):sgT V (optG o.isSome i)=opT o:=by
 cases o with
 |none=>rfl
 |some x=>exact(QX _).trans (congrArg Tx.toks h)
theorem W2 {rs:List Trow}{t:Tk}:∀ (r p:List Trow),rs=p++r->sgT (rowsV rs t) (tallG p.length (r.map Trow.shp))=rowsT r
 | [],p,_=>rfl
 |x::r,p,e=>by
  have z:=W2 (rs:=rs) (t:=t) r (p++[x]) (by rw[e,QW];rfl);rw[QV] at z
  have g:rs[p.length]? = some x:=by rw[e,JJ (QN _),UH];rfl
  have e1:(rowsV rs t).it p.length=x.c:=by show (rs[p.length]?.map _).getD _=_;rw[g];rfl
  have e2:(rowsV rs t).tx p.length=opX x.k.op:=by show (rs[p.length]?.map _).getD _=_;rw[g];rfl
  have e3:(rowsV rs t).bn p.length=x.bd:=by show (rs[p.length]?.map _).getD _=_;rw[g];rfl
  refine(app2 (congrArg Itm.toks e1) (VW rfl (VW rfl ((W4 (optG x.k.op.isSome p.length) (.bn p.length::tallG (p.length+1) (r.map Trow.shp))).trans (app2 (opt_toks e2) (app2 (congrArg Bnd.toks e3) z:sgT (rowsV rs t) (.bn p.length::tallG (p.length+1) (r.map Trow.shp))=x.bd.toks++rowsT r)))))).trans ?_;show _=(x.c.toks++(wtk "FOR"::wtk x.k.word::(opT x.k.op++x.bd.toks)))++rowsT r
  rw[QW,GH,GH,QW];rfl
theorem LH {rs:List Rrow}{t:Tk}:∀ (r p:List Rrow),rs=p++r->sgT (exsV rs t) (exG p.length (r.map Rrow.shp))=exT r
 | [],p,_=>rfl
 |x::r,p,e=>by
  have z:=LH (rs:=rs) (t:=t) r (p++[x]) (by rw[e,QW];rfl);rw[QV] at z
  have g:rs[p.length]? = some x:=by rw[e,JJ (QN _),UH];rfl
  have e1:(exsV rs t).tx (2 * p.length)=opX x.k.op:=by show (rs[2 * p.length / 2]?.map _).getD _=_;rw[show 2 * p.length / 2=p.length from d20,g];exact if_pos m20
  have e2:(exsV rs t).tx (2 * p.length+1)=x.by_:=by show (rs[(2 * p.length+1) / 2]?.map _).getD _=_;rw[show (2 * p.length+1) / 2=p.length from d21,g];exact if_neg n21
  have e3:(exsV rs t).bn p.length=x.bd:=by show (rs[p.length]?.map _).getD _=_;rw[g];rfl
  refine(VW rfl ((W4 (optG x.k.op.isSome (2 * p.length)) (wsg "BY"::.tx (2 * p.length+1)::.bn p.length::exG (p.length+1) (r.map Rrow.shp))).trans (app2 (opt_toks e1) (app2 (rfl:[wtk "BY"]=[wtk "BY"]) (app2 (congrArg Tx.toks e2) (app2 (congrArg Bnd.toks e3) z)):sgT (exsV rs t) (wsg "BY"::.tx (2 * p.length+1)::.bn p.length::exG (p.length+1) (r.map Rrow.shp))=wtk "BY"::(x.by_.toks++(x.bd.toks++exT r)))))).trans ?_
  show wtk x.k.word::(opT x.k.op++(wtk "BY"::(x.by_.toks++(x.bd.toks++exT r))))=(wtk x.k.word::(opT x.k.op++(wtk "BY"::(x.by_.toks++x.bd.toks))))++exT r
  rw[GH,QW,GH,QW]
section
variable {D:Dn}
theorem opt_val {V:Rv}(H:DenV D V){o:Option Tx}{i:Nat}(h:V.tx i=opX o):den D (optS o.isSome i)=opAV o:=by
 cases o with
 |none=>rfl
 |some x=>exact(H.tx i).trans (congrArg Tx.val h)
theorem L9 {rs:List Trow}{t:Tk}(H:DenV D (rowsV rs t)):∀ (r p:List Trow),rs=p++r->denM D (tallS p.length (r.map Trow.shp))=r.map Trow.val
 | [],p,_=>rfl
 |x::r,p,e=>by
  have z:=L9 H r (p++[x]) (by rw[e,QW];rfl);rw[QV] at z
  have g:rs[p.length]? = some x:=by rw[e,JJ (QN _),UH];rfl
  have e1:(rowsV rs t).it p.length=x.c:=by show (rs[p.length]?.map _).getD _=_;rw[g];rfl
  have e2:(rowsV rs t).tx p.length=opX x.k.op:=by show (rs[p.length]?.map _).getD _=_;rw[g];rfl
  have e3:(rowsV rs t).bn p.length=x.bd:=by show (rs[p.length]?.map _).getD _=_;rw[g];rfl
  exact VW (congrArg AV.tup (VW ((H.it _).trans (congrArg Itm.val e1)) (VW (JM _) (VW (opt_val H e2) (VW ((H.b _).trans (congrArg (λx=>partV x.b) e3)) (VW ((H.a _).trans (congrArg (λx=>partV x.a) e3)) rfl)))))) z
theorem ex_vals {rs:List Rrow}{t:Tk}(H:DenV D (exsV rs t)):∀ (r p:List Rrow),rs=p++r->denM D (exS p.length (r.map Rrow.shp))=r.map Rrow.val
 | [],p,_=>rfl
 |x::r,p,e=>by
  have z:=ex_vals H r (p++[x]) (by rw[e,QW];rfl);rw[QV] at z
  have g:rs[p.length]? = some x:=by rw[e,JJ (QN _),UH];rfl
  have e1:(exsV rs t).tx (2 * p.length)=opX x.k.op:=by show (rs[2 * p.length / 2]?.map _).getD _=_;rw[show 2 * p.length / 2=p.length from d20,g];exact if_pos m20
  have e2:(exsV rs t).tx (2 * p.length+1)=x.by_:=by show (rs[(2 * p.length+1) / 2]?.map _).getD _=_;rw[show (2 * p.length+1) / 2=p.length from d21,g];exact if_neg n21
  have e3:(exsV rs t).bn p.length=x.bd:=by show (rs[p.length]?.map _).getD _=_;rw[g];rfl
  exact VW (congrArg AV.tup (VW (JM _) (VW (opt_val H e1) (VW ((H.tx _).trans (congrArg Tx.val e2)) (VW ((H.b _).trans (congrArg (λx=>partV x.b) e3)) (VW ((H.a _).trans (congrArg (λx=>partV x.a) e3)) rfl)))))) z
end
theorem facts3:Facts3 where
 tal sc R σ n k rs t l h hr A ht:=by
  have A' : At R n (sgT (rowsV rs t) (tallG 0 (rs.map Trow.shp)++[.la])):=by
   rw[sgT,Q8,show G7 _ (tallG 0 _)=_ from W2 (rs:=rs) (t:=t) rs [] rfl];refine At.left (m:=l) ?_
   rw[show G7 _ [Sg.la]=[t] from QX _,QW];exact A
  have c:=alT (tal_run sc) (rs.map Trow.shp) (MN (λe=>hr.ne (Vw.mp e)) (by rw[QH];exact hr.le) λp hp=>by
   obtain⟨r,_,rfl⟩:=Jz.mp hp;unfold Trow.shp
   cases r.k<;>first|exact .head _|exact .tail _ (.head _)|exact .tail _ (.tail _ (.head _)))
  have z:=goL h A' (rowsV_ok hr.is ht) (λZ=>facts1) (λZ=>facts2) (λh=>absurd h (by decide)) c k;rw[W5,show sgT _ (tallG 0 _)=_ from W2 (rs:=rs) (t:=t) rs [] rfl] at z
  exact z.trans (congrArg (λv=>some (AV.tup v,R.at σ (n+(rowsT rs).length))) (L9 rd_den rs [] rfl))
 rep sc R σ n k rs t l h hr A ht:=by
  have A' : At R n (sgT (exsV rs t) (exG 0 (rs.map Rrow.shp)++[.la])):=by
   rw[sgT,Q8,show G7 _ (exG 0 _)=_ from LH (rs:=rs) (t:=t) rs [] rfl];refine At.left (m:=l) ?_
   rw[show G7 _ [Sg.la]=[t] from QX _,QW];exact A
  have c:=alT (rep_run sc) (rs.map Rrow.shp) (MN (λe=>hr.ne (Vw.mp e)) (by rw[QH];exact hr.le) λp hp=>by
   obtain⟨r,_,rfl⟩:=Jz.mp hp;unfold Rrow.shp
   cases r.k<;>first|exact .head _|exact .tail _ (.head _)|exact .tail _ (.tail _ (.head _))|exact .tail _ (.tail _ (.tail _ (.head _))))
  have z:=goL h A' (exsV_ok hr.is ht) (λZ=>facts1) (λZ=>facts2) (λh=>absurd h (by decide)) c k;rw[W5,show sgT _ (exG 0 _)=_ from LH (rs:=rs) (t:=t) rs [] rfl] at z
  exact z.trans (congrArg (λv=>some (AV.tup v,R.at σ (n+(exT rs).length))) (ex_vals rd_den rs [] rfl))
end
section
open PySem.SeqAt
open Rdr
noncomputable abbrev dotTk:Tk:=("sign",".")
inductive Sk where
 |both
 |tally
 |repl
noncomputable def Stm.kind:Stm->Sk
 | .both _ _ _=>.both
 | .tally _ _=>.tally
 | .repl _ _=>.repl
noncomputable def stmG:Sk->List Sg
 | .both=>[wsg "INSPECT",.it 0,wsg "TALLYING",.tr,wsg "REPLACING",.er]
 | .tally=>[wsg "INSPECT",.it 0,wsg "TALLYING",.tr]
 | .repl=>[wsg "INSPECT",.it 0,wsg "REPLACING",.er]
noncomputable def stmS:Sk->SV
 | .both=>.tup [liftStr "tally-replace",.tp 0,.tp 2,.tp 5]
 | .tally=>.tup [liftStr "tally",.tp 0,.tp 2]
 | .repl=>.tup [liftStr "replace",.tp 0,.tp 5]
noncomputable def nestS (k:Sk):Nat->SV
 |0=>stmS k
 |m+1=>.tup [liftStr "if",.tup [],.tup [nestS k m],.tup []]
noncomputable def nestV (s:Stm):Nat->AV
 |0=>s.val
 |m+1=>.tup [.str "if",.tup [],.tup [nestV s m],.tup []]
abbrev rowOf (m:Nat)(ts:List Tk):List Tk:=QK m (wtk "IF")++(ts++(QK m (wtk "END-IF")++[dotTk]))
def nestG (k:Sk)(m:Nat):List Sg:=QK m (wsg "IF")++(stmG k++QK m (wsg "END-IF"))
theorem nest_run (sc:ScT):([Sk.both,.tally,.repl].all λk=>(Nx 13).all λm=>chk (callS (rdNv (pk0 sc) 3 (nestG k m++[.tk "sign" "."])) 120 (.glob (.ref 483)) [.rdr,.int 0,.clo 2 []] (0,[])) (nestS k m) (nestG k m).length)=true:=by kernel_rfl
def Stm.rv:Stm->Rv
 | .both x rs es=>{ rv0 "T" with it:=λZ=>x,tr:=rs,er:=es }
 | .tally x rs=>{ rv0 "T" with it:=λZ=>x,tr:=rs }
 | .repl x es=>{ rv0 "T" with it:=λZ=>x,er:=es }
theorem Stm.rv_ok {s:Stm}(h:s.Is):s.rv.Ok:=by
 cases s with
 |both x rs es=>exact⟨λZ=>h.1,rv0T.tx,rv0T.bn,h.2.1,h.2.2,rv0T.sw,rv0T.se,rv0T.la⟩
 |tally x rs=>exact⟨λZ=>h.1,rv0T.tx,rv0T.bn,h.2,rv0T.er,rv0T.sw,rv0T.se,rv0T.la⟩
 |repl x es=>exact⟨λZ=>h.1,rv0T.tx,rv0T.bn,rv0T.tr,h.2,rv0T.sw,rv0T.se,rv0T.la⟩
theorem Pj {V:Rv}(w:Str):∀ m,sgT V (QK m (wsg w))=QK m (wtk w)
 |0=>rfl
 |m+1=>congrArg (wtk w::·) (Pj w m)
theorem stm_toks (s:Stm):sgT s.rv (stmG s.kind)=s.toks:=by
 cases s with
 |both x rs es=>
  show wtk "INSPECT"::(x.toks++(wtk "TALLYING"::(rowsT rs++(wtk "REPLACING"::(exT es++[])))))=_
  rw[QX];rfl
 |tally x rs=>
  show wtk "INSPECT"::(x.toks++(wtk "TALLYING"::(rowsT rs++[])))=_
  rw[QX];rfl
 |repl x es=>
  show wtk "INSPECT"::(x.toks++(wtk "REPLACING"::(exT es++[])))=_
  rw[QX];rfl
theorem nest_toks (s:Stm)(m:Nat):sgT s.rv (nestG s.kind m)=QK m (wtk "IF")++(s.toks++QK m (wtk "END-IF")):=
 (W4 _ _).trans (app2 (Pj _ m) ((W4 _ _).trans (app2 (stm_toks s) (Pj _ m))))
theorem P3 (s:Stm){D:Dn}(H:DenV D s.rv):∀ m,den D (nestS s.kind m)=nestV s m
 |0=>by
  have e0:=H.it 0;have e2:=H.tr
  have e5:=H.er
  cases s with
  |both x rs es=>exact congrArg AV.tup (VW (JM _) (VW e0 (VW e2 (VW e5 rfl))))
  |tally x rs=>exact congrArg AV.tup (VW (JM _) (VW e0 (VW e2 rfl)))
  |repl x es=>exact congrArg AV.tup (VW (JM _) (VW e0 (VW e5 rfl)))
 |m+1=>congrArg AV.tup (VW (JM _) (VW rfl (VW (congrArg AV.tup (VW (P3 s H m) rfl)) rfl)))
theorem nest_ok (sc:ScT){R:Rdr}{σ:Store}{n k m:Nat}(h:R.Ok σ){s:Stm}(hs:s.Is)(hm:m≤12)(A:At R n (rowOf m s.toks)) :
  callN (pk0 sc) (k+120) (.glob (.ref 483)) [.ref R.r,.int 0,.clo 2 []] (R.at σ n)=some (nestV s m,R.at σ (n+(QK m (wtk "IF")++(s.toks++QK m (wtk "END-IF"))).length)):=by
 have A' : At R n (sgT s.rv (nestG s.kind m++[.tk "sign" "."])):=by
  rw[W4,nest_toks,show sgT s.rv [.tk "sign" "."]=[dotTk] from rfl,QW,QW];exact A
 have c:=alT (alT (nest_run sc) s.kind (by cases s<;>first|exact .head _|exact .tail _ (.head _)|exact .tail _ (.tail _ (.head _)))) m (List.mem_range.mpr (MK hm))
 have z:=goL h A' (Stm.rv_ok hs) (λZ=>facts1) (λZ=>facts2) (λZ=>facts3) c k
 rw[W5,nest_toks,P3 s rd_den] at z
 exact z
end
section
open PySem.SeqAt
open Rdr
noncomputable def nthY:Nat->Y->Y
 |0,.cons s _=>s
 |n+1,.cons _ r=>nthY n r
 |_,_=>.nil
noncomputable def whB:Y->Y
 | .while _ b=>b
 | .for _ _ b=>b
 | .forR _ _ b=>b
 |_=>.nil
theorem call_split {p:Pk}{n:Nat}{l:List AV}{τ:Store}:callN p (n+1) (.glob (.builtin "str.split")) l τ=gc τ.length (splitF l τ):=rfl
def Cl (σ:Store):Prop:=clS σ.length σ=true
theorem Cl.app {σ l:Store}(h:Cl σ)(hl:clS (σ.length+l.length) l=true):Cl (σ++l):=by
 show clS (σ++l).length (σ++l)=true
 rw[QV,G2,hl,R7 (QG _ _) σ h]
 rfl
theorem gcId {τ:Store}{N:Nat}{v:AV}(h:τ.length≤N):gc N (some (v,τ))=some (v,τ):=by
 have e1:τ.take N=τ:=J7 h
 have e2:τ.take (N+1)=τ:=J7 (MW h)
 simp only[gc,gcR,e1,e2]
 split
 · rfl
 · split<;>rfl
theorem gcS {σ l:Store}{N:Nat}{v:AV}(h:Cl σ)(hN:σ.length=N)(hv:clA N v=true):gc N (some (v,σ++l))=some (v,σ):=by
 subst hN
 have e:(σ++l).take σ.length=σ:=RK
 have c:gc1 σ.length (v,σ++l)=true:=anI ⟨hv,(congrArg (clS _) e).trans h⟩
 exact congrArg some ((if_pos c).trans (congrArg (Prod.mk v) e))
theorem gcS1 {σ l:Store}{o:AO}{N:Nat}(h:Cl σ)(hN:σ.length=N)(ho:clO (N+1) o=true):gc N (some (.ref N,σ++o::l))=some (.ref N,σ++[o]):=by
 subst hN
 have e:(σ++o::l).take (σ.length+1)=σ++[o]:=by
  rw[List.append_cons];exact List.take_left' QV
 have c1:¬ gc1 σ.length (.ref σ.length,σ++o::l)=true:=λc=>J4 _ (of_decide_eq_true (Q7.mp c).1)
 have c2:gc1 (σ.length+1) (.ref σ.length,σ++o::l)=true:=anI ⟨decide_eq_true (J3 _),(congrArg (clS _) e).trans ((G2 ..).trans (anI ⟨R7 (HK _) σ h,anI ⟨ho,rfl⟩⟩))⟩
 exact congrArg some ((if_neg c1).trans ((if_pos c2).trans (congrArg (Prod.mk _) e)))
noncomputable def tkS (w:Str):List Tk:=if w = "("∨w = ")" then [("sign",w)] else if Txt.slice w none (some 1) = "\"" then [("literal",Txt.slice w (some 1) (some (-1)))] else if w = "" then [] else [("word",w)]
noncomputable abbrev tkV (t:Tk):AV:=.tup [.str t.1,.str t.2]
theorem spl_app2 (c:Nat):∀ (u v:List Nat),spl c (u++c::v)=spl c u++spl c v
 | [],v=>by
  show spl c (c::v)=[[]]++spl c v;rw[spl,if_pos rfl]
  rfl
 |a::u,v=>by
  show spl c (a::(u++c::v))=spl c (a::u)++spl c v;rw[spl,spl,spl_app2 c u v]
  by_cases h:a=c
  · rw[if_pos h,if_pos h];rfl
  · rw[if_neg h,if_neg h]
    match e:spl c u with
    | []=>exact absurd e (spl_ne c u)
    |x::r=>rfl
theorem spl_count (c:Nat):∀ (l:List Nat),(spl c l).length≤l.length+1
 | []=>QN _
 |a::l=>by
  have ih:=spl_count c l;rw[spl]
  by_cases h:a=c
  · rw[if_pos h];simp;exact ih
  · rw[if_neg h]
    match e:spl c l with
    | []=>exact absurd e (spl_ne c l)
    |x::r=>rw[e] at ih;simp at ih ⊢;exact ar24 ih
theorem rep_len {c:Nat}{z:List Nat}(hz:z.length=3):∀ (l:List Nat),(rep c z l).length≤3 * l.length
 | []=>Q4 _
 |a::l=>by
  have ih:=rep_len (c:=c) hz l;unfold rep at ih ⊢
  rw[Vv,QV,Qw]
  split
  · rw[hz];exact QJ (Q9 (U6 _ _)) (JU ih 3)
  · rw[show [a].length=1 from rfl];exact QJ (Q9 (U6 1 _)) (Q6 ih (leB rfl))
theorem rep_cons {c:Nat}{z:List Nat}{a:Nat}{l:List Nat}(h:a≠c):rep c z (a::l)=a::rep c z l:=by
 unfold rep
 rw[Vv,if_neg h]
 rfl
noncomputable def Pt (l:List Nat):List (List Nat):=spl 32 (rep 41 [32,41,32] (rep 40 [32,40,32] l))
theorem Pt_app (a b:List Nat):Pt (a++32::b)=Pt a++Pt b:=by
 unfold Pt
 rw[LU,rep_cons (by decide),LU,rep_cons (by decide),spl_app2]
def tkL (l:List Nat):List Tk:=tkS ⟨l.toArray⟩
def WL (l:List Nat):List Tk:=(Pt l).flatMap tkL
theorem WL_app (a b:List Nat):WL (a++32::b)=WL a++WL b:=by
 unfold WL;rw[Pt_app,Q8]
noncomputable abbrev cps (x:Str):List Nat:=x.cps.toList
theorem s_open:PySem.Str.ofString "("=⟨#[40]⟩:=by decide +kernel
theorem s_shut:PySem.Str.ofString ")"=⟨#[41]⟩:=by decide +kernel
theorem s_blank:PySem.Str.ofString " "=⟨#[32]⟩:=by decide +kernel
theorem s_open3:cps (PySem.Str.ofString " ( ")=[32,40,32]:=by decide +kernel
theorem s_shut3:cps (PySem.Str.ofString " ) ")=[32,41,32]:=by decide +kernel
theorem parts_eq (x:Str):(Txt.split (Txt.replace (Txt.replace x "(" " ( ") ")" " ) ") " ").map cps=Pt (cps x):=by
 rw[s_blank,Nw,s_shut,GW,s_open,GW]
 unfold Pt
 rw[show (PySem.Str.ofString " ( ").cps.toList=[32,40,32] from s_open3,show (PySem.Str.ofString " ) ").cps.toList=[32,41,32] from s_shut3]
theorem parts_is (x:Str):Txt.split (Txt.replace (Txt.replace x "(" " ( ") ")" " ) ") " "=(Pt (cps x)).map λl=>⟨l.toArray⟩:=by
 rw[← parts_eq,VZ]
 have:((λl:List Nat=>(⟨l.toArray⟩:Str))∘cps)=id:=by
  funext y
  cases y
  rfl
 rw[this,List.map_id]
noncomputable def wordsL:List Str:=["INSPECT","T","N-1","K","(","I",")","TALLYING","FOR","ALL","LEADING","CHARACTERS","FIRST","REPLACING","BY","BEFORE","INITIAL","AFTER","SPACE","ZERO","QUOTE","\"x\"","\"B\"","\"7\"","\".\"","","IF","END-IF"]
noncomputable def wdB:Y:=whB (nthY 1 b_L_words)
noncomputable def nv0 (p:Pk):Nv:=⟨p,40,λZ Z Z Z=>none,λZ Z Z=>none,λZ Z Z Z=>none,λZ=>none,λZ Z=>none,λZ=>none⟩
noncomputable def eqLs {α:Type} (f:α->α->Bool):List α->List α->Bool
 | [],b=>b.isEmpty
 |x::l,b=>okO b.head? λy=>f x y&&eqLs f l b.tail
theorem eqLs_is {α:Type}{f:α->α->Bool}(k:∀ {a b},f a b=true->a=b):∀ {a b:List α},eqLs f a b=true->a=b
 | [],_,h=>(Qx.mp h).symm
 |_::_,_,h=>okE h λy e h=>(congr (congrArg V5 (k (and2 h).1)) (eqLs_is k (and2 h).2)).trans (hd_tl e)
def eqOV:Option SV->Option SV->Bool
 |none,b=>b.isNone
 |some x,b=>okO b λy=>eqV x y
theorem eqOV_is:∀ {a b:Option SV},eqOV a b=true->a=b
 |none,_,h=>(Option.isNone_iff_eq_none.mp h).symm
 |some _,_,h=>okE h λy e h=>(congrArg some (Mz _ _ h)).trans e.symm
def eqO:=eqLs eqOV
theorem eqO_is {a b:List (Option SV)}(h:eqO a b=true):a=b:=eqLs_is eqOV_is h
def eqWW:=eqLs eqW
theorem eqWW_is {a b:List (List SV)}(h:eqWW a b=true):a=b:=eqLs_is qZ h
noncomputable def sfNext:Sf->Bool
 | .next=>true
 |_=>false
def chkN (r:Option (Sf×Sn×Ss))(loc:List (Option SV))(n:List (List SV)):Bool:=okO r λx=>sfNext x.1&&(eqO x.2.1.loc loc&&x.2.1.cel.isEmpty&&x.2.2.1==0&&eqWW x.2.2.2 n)
theorem RQ {r:Option (Sf×Sn×Ss)}{loc:List (Option SV)}{n:List (List SV)}(h:chkN r loc n=true):r=some (.next,⟨loc,[]⟩,0,n):=
 okE h λx e h=>by
  have h1:=and4 (and2 h).2;have e1:x.1 = .next:=by
   have h:=(and2 h).1;generalize x.1=f at h
   cases f<;>first|rfl|exact nos h|exact nof h|cases h
  have e2:x.2.1=⟨loc,[]⟩:=congr (congrArg Sn.mk (eqO_is h1.1)) (Qx.mp h1.2.1);exact e.trans (congrArg some (Prod.ext e1 (Prod.ext e2 (Prod.ext (eq_of_beq h1.2.2.1) (eqWW_is h1.2.2.2)))))
noncomputable def tkSV (t:Tk):SV:=.tup [liftStr t.1,liftStr t.2]
noncomputable abbrev wdLoc (w:Str):List (Option SV):=[some (.at 0),some (.ref 0),some (liftStr w)]
theorem word_run (sc:ScT):(wordsL.all λw=>chkN (sS ⟨nv0 (pk0 sc),callS (nv0 (pk0 sc)) 1⟩ wdB ⟨wdLoc w,[]⟩ (0,[[.sp 0],[.sp 1]])) (wdLoc w) [.sp 0::(tkS w).map tkSV,[.sp 1]])=true:=by kernel_rfl
noncomputable def stD (σ:Store) (v:Nat->AV) (t:Nat->List AV) (s e:Nat->List Nat) (l:Nat->List AV):Dn:=⟨σ.length,v,t,s,e,l,λZ=>0,0,λq=>q,λZ=>.bool false,λZ=>σ⟩
noncomputable def nvC (p:Pk) (call:Nat->SV->List SV->Ss->Sr):Nv:=⟨p,40,call,λZ Z Z=>none,λZ Z Z Z=>none,λZ=>none,λZ Z=>none,λZ=>none⟩
theorem stD_ok {σ:Store}{v:Nat->AV}{t:Nat->List AV}{s e:Nat->List Nat}{l:Nat->List AV}{p:Pk}{call:Nat->SV->List SV->Ss->Sr}(h:Cl σ)(h0:0<σ.length)(hv:∀ i,clA σ.length (v i)=true)(ht:∀ i,clL σ.length (t i)=true)(hs:∀ i,s i≠[]∧(s i).length≤1000)(he:∀ i,(e i).length≤1000)
  (hl:∀ i,clL σ.length (l i)=true∧(l i).length≤1000):DnOk (stD σ v t s e l) (nvC p call) where
 len _:=rfl
 cl _:=h
 v:=hv
 t:=ht
 tk _:=rfl
 tkn _:=rfl
 l i:=(hl i).1
 ll i:=(hl i).2
 r:=h0
 k _:=h0
 s:=hs
 e:=he
 attr _ _ _ _ q:=nos q
 set _ _ _ _ _ q:=nos q
 get _ _ q:=nos q
 padd _ _ _ q:=nos q
 cell _ _ q:=nos q
theorem ne0:∀ i:Nat,(λZ=>[0]:Nat->List Nat) i≠[]∧((λZ=>[0]:Nat->List Nat) i).length≤1000:=λZ=>⟨VU _ _,leB rfl⟩
section
variable (sc:ScT){σ:Store}{k:Nat}
theorem wd_step (h:Cl σ)(h0:0<σ.length){w:Str}(hw:w∈wordsL){acc ps:List AV}(ha:clL σ.length acc=true)(hp:clL σ.length ps=true)(la:acc.length≤1000)(lp:ps.length≤1000){x0:AV}(hx:clA σ.length x0=true) :
  evS (pc sc (k+1)) wdB ⟨[some x0,some (.ref σ.length),some (.str w)],[]⟩ (σ++[.list acc,.list ps])=some (.next,⟨[some x0,some (.ref σ.length),some (.str w)],[]⟩,σ++[.list (acc++(tkS w).map tkV),.list ps]):=by
 have H:DnOk (stD σ (λZ=>x0) (λZ=>[]) (λZ=>[0]) (λZ=>[]) (λi=>if i=0 then acc else ps)) (nv0 (pk0 sc)):=stD_ok h h0 (λZ=>hx) (λZ=>rfl) ne0 (λZ=>Q4 _) λi=>by
  by_cases e:i=0
  · rw[if_pos e];exact⟨ha,la⟩
  · rw[if_neg e];exact⟨hp,lp⟩
 generalize hD:stD σ (λZ=>x0) (λZ=>[]) (λZ=>[0]) (λZ=>[]) (λi=>if i=0 then acc else ps)=D at H
 have O:SeOk D ⟨nv0 (pk0 sc),callS (nv0 (pk0 sc)) 1⟩ (pc sc (k+1)):=⟨H,rfl,leB rfl,H8 (K:=k) H (leB rfl) (λZ Z Z Z Z Z e=>nos e) 1⟩
 have z:=PH O wdB _ _ _ _ _ (RQ (alT (word_run sc) w hw))
 have et:∀ l:List Tk,denC D (l.map tkSV)=l.map tkV:=λl=>by
  induction l with
  |nil=>rfl
  |cons t l ih=>exact congr (congrArg V5 (congrArg AV.tup (congr (congrArg V5 (JM _)) (congrArg (·::[]) (JM _))))) ih
 have ew:=JM (D:=D) w
 subst hD
 have e1:(wdLoc w).map (KZ (den (stD σ (λZ=>x0) (λZ=>[]) (λZ=>[0]) (λZ=>[]) (λi=>if i=0 then acc else ps))))=[some x0,some (.ref σ.length),some (.str w)]:=by
  show [some x0,some (.ref (σ.length+0)),some (den _ (liftStr w))]=_;rw[ew];rfl
 have e2:denS (stD σ (λZ=>x0) (λZ=>[]) (λZ=>[0]) (λZ=>[]) (λi=>if i=0 then acc else ps)) (0,[[.sp 0],[.sp 1]])=σ++[.list acc,.list ps]:=by
  show σ++[AO.list (acc++[]),AO.list (ps++[])]=_;rw[QX,QX]
 have e3:denS (stD σ (λZ=>x0) (λZ=>[]) (λZ=>[0]) (λZ=>[]) (λi=>if i=0 then acc else ps)) (0,[.sp 0::(tkS w).map tkSV,[.sp 1]])=σ++[.list (acc++(tkS w).map tkV),.list ps]:=by
  show σ++[AO.list (acc++denC _ ((tkS w).map tkSV)),AO.list (ps++[])]=_;rw[QX,et]
 unfold Sn.dn at z
 rw[e1,e2,e3] at z
 exact z
section
variable {e:Pc}{en:En}{σ σ₁ σ₂:Store}{o x:X}{y z u:Str}{v g:AV}{as fst:List AV}
end
theorem wd_eq:b_L_words = .cons (.set 1 (.lst .nil)) (.cons (.for (.name 2) (.meth (.repl (.repl (.loc 0) "(" " ( ") ")" " ) ") "split" (.cons (.val (.str " ")) .nil)) wdB) (.cons (.ret (.loc 1)) .nil)):=rfl
theorem tkS_len (w:Str):(tkS w).length≤1:=by
 unfold tkS
 by_cases h:w = "("∨w = ")"
 · rw[if_pos h];exact QN _
 · rw[if_neg h]
   by_cases h:Txt.slice w none (some 1) = "\""
   · rw[if_pos h];exact QN _
   · rw[if_neg h]
     by_cases h:w = ""
     · rw[if_pos h];exact Q4 _
     · rw[if_neg h];exact QN _
theorem R6 {m:Nat}:∀ (l:List Tk),clL m (l.map tkV)=true
 | []=>rfl
 |_::l=>R6 l
theorem clV_st {m:Nat}:∀ (l:List Str),clL m (l.map .str)=true
 | []=>rfl
 |_::l=>clV_st l
abbrev wdF (k f j:Nat)(i:Nat)(x0:AV)(l2:Option AV)(τ:Store):=forM (evA (pc sc k) (.name 2)) (evS (pc sc k) wdB) (.list (i+1)) f j ⟨[some x0,some (.ref i),l2],[]⟩ τ
theorem VN {l:Store}{i:Nat}:(σ++l)[σ.length+i]? = l[i]? := by
 rw[JJ (QG _ _),Uk]
theorem wd_loop (h:Cl σ)(h0:0<σ.length){x0:AV}(hx:clA σ.length x0=true)(all:List Str)(lp:all.length≤1000):∀ (ps:List Str) (hp:∀ w∈ps,w∈wordsL) (j:Nat) (ha:all.drop j=ps) {acc:List Tk} {l2:Option AV} (hl:acc.length+ps.length≤1000) (f:Nat) (hf:ps.length<f),
  ∃ l2',wdF sc (k+1) f j σ.length x0 l2 (σ++[.list (acc.map tkV),.list (all.map .str)])=some (.next,⟨[some x0,some (.ref σ.length),l2'],[]⟩,σ++[.list ((acc++ps.flatMap tkS).map tkV),.list (all.map .str)])
 |ps,hp,j,ha,acc,l2,hl,0,hf=>absurd hf (G3 _)
 | [],hp,j,ha,acc,l2,hl,f+1,hf=>by
  have hj:all[j]? = none:=by rw[← UZ,ha];rfl
  refine⟨l2,onNn (onLs VN ?_) (by rw[List.flatMap_nil,QX])⟩;rw[Q2,hj];rfl
 |w::ps,hp,j,ha,acc,l2,hl,f+1,hf=>by
  have hj:all[j]? = some w:=by rw[← UZ,ha];rfl
  have ha' : all.drop (j+1)=ps:=by rw[← RW,ha];rfl
  have ht:=tkS_len w;have hl:acc.length+(ps.length+1)≤1000:=hl
  obtain⟨l2',q⟩:=wd_loop h h0 hx all lp ps (λw h=>hp w (.tail _ h)) (j+1) ha' (acc:=acc++tkS w) (l2:=some (.str w)) (by rw[QV];exact QJ (JU (VK ht _) _) (ar2 hl)) f (V1 hf);refine⟨l2',onNv (a:=.str w) (onLs VN (by rw[Q2,hj];rfl)) (on2s (a:=⟨[some x0,some (.ref σ.length),some (.str w)],[]⟩) rfl (on3s (wd_step sc h h0 (hp w (.head _)) (R6 _) (clV_st _) (by rw[QH];exact ar3 hl) (by rw[QH];exact lp) hx) ?_))⟩
  rw[← Q5,Vv,← QW];exact q
noncomputable def allP:List (List Nat):=wordsL.map cps
structure TP (l:List Nat)(ts:List Tk)(n:Nat):Prop where
 cnt:(Pt l).length≤n
 mem:∀ p∈Pt l,p∈allP
 is:WL l=ts
theorem TP.app {a b:List Nat}{ts us:List Tk}{n m:Nat}(x:TP a ts n)(y:TP b us m):TP (a++32::b) (ts++us) (n+m) where
 cnt:=by rw[Pt_app,QV];exact Q6 x.cnt y.cnt
 mem p hp:=by
  rw[Pt_app] at hp;exact(Hx.mp hp).elim (x.mem p) (y.mem p)
 is:=by rw[WL_app,x.is,y.is]
theorem words_ok (h:Cl σ)(h0:0<σ.length){l:List Nat}{ts:List Tk}{n:Nat}(t:TP l ts n)(hn:n≤900)(hl:l.length≤100000):callN (pk0 sc) (k+2) (.glob (.ref 822)) [.str ⟨l.toArray⟩] σ=some (.ref σ.length,σ++[.list (ts.map tkV)]):=by
 have r1:(rep 40 [32,40,32] l).length≤3 * l.length:=rep_len rfl l
 have r2:=rep_len (c:=41) (z:=[32,41,32]) rfl (rep 40 [32,40,32] l)
 have e1:Txt.replace ⟨l.toArray⟩ "(" " ( "=⟨(rep 40 [32,40,32] l).toArray⟩:=Hj (by rw[s_open,GW,show (PySem.Str.ofString " ( ").cps.toList=[32,40,32] from s_open3])
 have e2:Txt.replace ⟨(rep 40 [32,40,32] l).toArray⟩ ")" " ) "=⟨(rep 41 [32,41,32] (rep 40 [32,40,32] l)).toArray⟩:=Hj (by rw[s_shut,GW,show (PySem.Str.ofString " ) ").cps.toList=[32,41,32] from s_shut3])
 have hp:=parts_is ⟨l.toArray⟩
 rw[e1,e2] at hp
 have hp:Txt.split ⟨(rep 41 [32,41,32] (rep 40 [32,40,32] l)).toArray⟩ " "=(Pt l).map λl=>⟨l.toArray⟩:=hp
 have hq:((Pt l).map λl=>(⟨l.toArray⟩:Str)).flatMap tkS=ts:=by
  rw[List.flatMap_map];exact t.is
 have hx:clA σ.length (.str ⟨l.toArray⟩)=true:=rfl
 have hc:=t.cnt
 obtain⟨l2',q⟩:=wd_loop sc (k:=k) h h0 hx ((Pt l).map λl=>⟨l.toArray⟩) (by rw[QH];exact ar8 hc hn rfl) _ (λw hw=>by
  rw[RH] at hw;refine xe12 (Jz.mp hw) λp hp1 ep=>?_
  refine xe12 (Jz.mp (t.mem p hp1)) λw2 hw2 e2=>?_
  rw[← ep,← e2];exact hw2) 0 rfl (acc:=[]) (l2:=none) (by rw[RH,QH];show 0+_≤_;exact ar9 hc hn rfl) 1000 (by rw[RH,QH];exact Q1 (QJ hc hn) (leB rfl))
 rw[RH,hq,WX] at q
 generalize ((Pt l).map λl=>(⟨l.toArray⟩:Str))=ps at q hp
 have gn:gc (σ++[AO.list []]).length (some (.ref (σ++[AO.list []]).length,(σ++[AO.list []])++[.list (ps.map .str)]))=some (.ref (σ++[AO.list []]).length,(σ++[AO.list []])++[.list (ps.map .str)]):=gcS1 (h.app rfl) rfl (clV_st _)
 have src:srcOf (.ref (σ.length+1)) (σ++[.list [],.list (ps.map .str)])=some (.list (σ.length+1)):=onLs ((VN (i:=1)).trans rfl) rfl
 have step:evS (pc sc (k+1)) b_L_words ⟨[some (.str ⟨l.toArray⟩),none,none],[]⟩ σ=some (.ret (.ref σ.length),⟨[some (.str ⟨l.toArray⟩),some (.ref σ.length),l2'],[]⟩,σ++[.list (ts.map tkV),.list (ps.map .str)]):=by
  rw[wd_eq];refine zSeq (en₁:=⟨[some (.str ⟨l.toArray⟩),some (.ref σ.length),none],[]⟩) (σ₁:=σ++[.list []]) rfl (zSeq (en₁:=⟨[some (.str ⟨l.toArray⟩),some (.ref σ.length),l2'],[]⟩) (σ₁:=σ++[.list (ts.map tkV),.list (ps.map .str)]) ?_ rfl)
  have e3:(PySem.Str.ofString " ( ").length=3:=by decide +kernel
  have e4:(PySem.Str.ofString " ) ").length=3:=by decide +kernel
  have z1:ev (pc sc (k+1)) (.repl (.loc 0) "(" " ( ") ⟨[some (.str ⟨l.toArray⟩),some (.ref σ.length),none],[]⟩ (σ++[.list []])=some (.str ⟨(rep 40 [32,40,32] l).toArray⟩,σ++[.list []]):=by
   rw[← e1];refine zRepl rfl ⟨by decide +kernel,?_⟩
   show l.length+(l.length+1) * (PySem.Str.ofString " ( ").length≤_
   rw[e3];exact QJ (Q6 hl (Nat.mul_le_mul_right 3 (JU hl 1))) (leB rfl)
  have z2:ev (pc sc (k+1)) (.repl (.repl (.loc 0) "(" " ( ") ")" " ) ") ⟨[some (.str ⟨l.toArray⟩),some (.ref σ.length),none],[]⟩ (σ++[.list []])=some (.str ⟨(rep 41 [32,41,32] (rep 40 [32,40,32] l)).toArray⟩,σ++[.list []]):=by
   rw[← e2];refine zRepl z1 ⟨by decide +kernel,?_⟩
   show (rep 40 [32,40,32] l).length+((rep 40 [32,40,32] l).length+1) * (PySem.Str.ofString " ) ").length≤_
   rw[e4];exact QJ (Q6 (QJ r1 (JK 3 hl)) (Nat.mul_le_mul_right 3 (JU (QJ r1 (JK 3 hl)) 1))) (leB rfl)
  refine zFor (Ww z2 (zGetS P4) (as:=[.str " "]) (σ₂:=σ++[.list []]) rfl ((call_split (n:=k)).trans ?_)) src q
  have e5:splitF [.str ⟨(rep 41 [32,41,32] (rep 40 [32,40,32] l)).toArray⟩,.str " "] (σ++[.list []])=some (.ref (σ++[AO.list []]).length,(σ++[AO.list []])++[.list (ps.map .str)]):=by
   refine(if_pos ⟨by decide +kernel,?_⟩).trans (by rw[hp]);show (rep 41 [32,41,32] (rep 40 [32,40,32] l)).length≤_
   exact QJ r2 (QJ (JK 3 (QJ r1 (JK 3 hl))) (leB rfl))
  refine(congrArg (gc _) e5).trans (gn.trans ?_);rw[QW,QV]
  rfl
 rw[c_L_words]
 have run:runE e_L_words (evS (pc sc (k+1)) b_L_words) [.str ⟨l.toArray⟩] σ=some (.ref σ.length,σ++.list (ts.map tkV)::[.list (ps.map .str)]):=by
  unfold runE runB;rw[if_pos ⟨leB rfl,leB rfl⟩]
  exact on3s step rfl
 rw[run]
 exact gcS1 h rfl (R6 _)
end
end
section
open PySem.SeqAt
open Rdr
noncomputable def isB:Sc->Bool
 | .c n=>n==32
 |_=>false
noncomputable def cutB:List Sc->List (List Sc)
 | []=>[[]]
 |a::l=>match cutB l with
  | []=>[]
  |h::t=>if isB a then []::h::t else (a::h)::t
noncomputable def conE:List Sc->Option (List Nat×Option Nat)
 | []=>some ([],none)
 | [.e i]=>some ([],some i)
 | .c n::l=>on2 (conE l) λr e=>some (n::r,e)
 |_=>none
noncomputable def segOf (j:Nat):Sg:=if j % 3=0 then .it (j / 3) else if j % 3=1 then .tx (j / 3) else if j=2 then .tr else .er
noncomputable def bndE:Option Nat->Option (List Sg×Nat)
 |none=>some ([],0)
 |some i=>if i % 2=1 then some ([.bn (i / 2)],60) else none
def pieceG (lv:Bool)(p:List Sc):Option (List Sg×Nat):=match p with
 | [.a j]=>if j % 3 != 2||lv then some ([segOf j],if j % 3=2 then 400 else 10) else none
 | [.a j,.e i]=>if j % 3 != 2||lv then on2 (bndE (some i)) λs n=>some (segOf j::s,n+if j % 3=2 then 400 else 10) else none
 |p=>on2 (conE p) λw e=>if (Pt w).all (allP.contains ·) then on2 (bndE e) λs n=>some (toSg (WL w)++s,n+(Pt w).length) else none
noncomputable def lexG (lv:Bool):List (List Sc)->Option (List Sg×Nat)
 | []=>some ([],0)
 |p::r=>on2 (pieceG lv p) λs n=>on2 (lexG lv r) λt m=>some (s++t,n+m)
noncomputable def sgK:Sg->Nat×Nat×Str×Str
 | .tk k w=>(0,0,k,w)
 | .it i=>(1,i,"","")
 | .tx i=>(2,i,"","")
 | .bn i=>(3,i,"","")
 | .tr=>(4,0,"","")
 | .er=>(5,0,"","")
 | .sw b=>(6,if b then 1 else 0,"","")
 | .la=>(7,0,"","")
noncomputable def sgU (p:Nat×Nat×Str×Str):Sg:=if p.1=0 then .tk p.2.2.1 p.2.2.2 else if p.1=1 then .it p.2.1 else if p.1=2 then .tx p.2.1 else if p.1=3 then .bn p.2.1 else if p.1=4 then .tr else if p.1=5 then .er else if p.1=6 then .sw (p.2.1==1) else .la
theorem sg_u (a:Sg):sgU (sgK a)=a:=by cases a with
 |sw b=>cases b<;>rfl
 |_=>rfl
def eqSgs (l r:List Sg):Bool:=l.map sgK==r.map sgK
theorem eqSgs_is {a b:List Sg}(h:eqSgs a b=true):a=b:=codeL sg_u (eq_of_beq h)
def lxT (lv:Bool)(V:Rv)(s:Sg):List Tk:=cond lv (match s with
 | .tr=>wtk "TALLYING"::rowsT V.tr
 | .er=>wtk "REPLACING"::exT V.er
 |s=>s.toks V) (s.toks V)
abbrev lxL (lv:Bool)(V:Rv)(sg:List Sg):List Tk:=sg.flatMap (lxT lv V)
noncomputable def bndS (j:Nat):Nat:=if j % 3=2 then 1000 else 20
noncomputable def lenB:List Sc->Nat
 | []=>0
 | .c _::l=>1+lenB l
 | .a j::l=>bndS j+lenB l
 | .e _::l=>100+lenB l
def shw (lv:Bool)(r:Sr)(sg:List Sg)(n B:Nat):Bool:=okO r λx=>okO (svStr x.1) λl=>x.2.1==0&&x.2.2.isEmpty&&okO (lexG lv (cutB l)) λy=>eqSgs y.1 sg&&JQ y.2 n&&JQ (lenB l) B&&sureS l
noncomputable def eL (D:Dn):Option Nat->List Nat
 |none=>[]
 |some i=>D.e i
structure LexOk (D:Dn)(V:Rv)(lv:Bool):Prop where
 a:∀ j,(j % 3 != 2||lv)=true->TP (D.s j) (lxT lv V (segOf j)) (if j % 3=2 then 400 else 10)
 e:∀ i,(D.e (2 * i+1)=[]∧(V.bn i).toks=[])∨∃ l,D.e (2 * i+1)=32::l∧TP l (V.bn i).toks 60
 sb:∀ j,(D.s j).length≤bndS j
 eb:∀ i,(D.e i).length≤100
section
variable {D:Dn}{V:Rv}{lv:Bool}(L:LexOk D V lv)
omit L in
theorem lxL_app (a b:List Sg):lxL lv V (a++b)=lxL lv V a++lxL lv V b:=Q8
omit L in
theorem LW:∀ (ts:List Tk),lxL lv V (toSg ts)=ts
 | []=>rfl
 |t::ts=>(by cases lv<;>rfl:lxL lv V (toSg (t::ts))=t::lxL lv V (toSg ts)).trans (congrArg (t::·) (LW ts))
include L
theorem LM:∀ (l:List Sc),(l.flatMap (Sc.dn D)).length≤lenB l
 | []=>QN _
 |v::l=>by
  show (v.dn D++l.flatMap (Sc.dn D)).length≤_;rw[QV]
  cases v with
  |c n=>exact Q6 (QN 1) (LM l)
  |a j=>exact Q6 (L.sb j) (LM l)
  |e i=>exact Q6 (L.eb i) (LM l)
theorem bnd_is {e:Option Nat}{s:List Sg}{n m:Nat}{x:List Nat}{ts:List Tk}(h:bndE e=some (s,n))(t:TP x ts m):TP (x++eL D e) (ts++lxL lv V s) (n+m):=by
 cases e with
 |none=>
  show TP (x++[]) _ _;rw[QX]
  exact oe2 h (by rw[G8];show TP x (ts++[]) m;rw[QX];exact t)
 |some i=>
  refine oi h λh0 h=>oe2 h ?_
  have ei:i=2 * (i / 2)+1:=q1' 2 h0;have es:lxL lv V [.bn (i / 2)]=(V.bn (i / 2)).toks:=(QX _).trans (by cases lv<;>rfl)
  rw[es];show TP (x++D.e i) _ _
  rw[ei];rcases L.e (i / 2) with ⟨h1,h2⟩|⟨l,h1,h2⟩
  · rw[h1,show (2 * (i / 2)+1) / 2=i / 2 from d21,h2,QX,QX]
    exact⟨QJ t.cnt (G4 _ _),t.mem,t.is⟩
  · rw[h1,show (2 * (i / 2)+1) / 2=i / 2 from d21,U6]
    exact t.app h2
omit L in
theorem conE_is:∀ {p:List Sc} {w:List Nat} {e:Option Nat},conE p=some (w,e)->p.flatMap (Sc.dn D)=w++eL D e
 | [],_,_,h=>oe2 h rfl
 | [.e i],_,_,h=>oe2 h (QX _)
 | .c n::l,_,_,h=>om h λr e hr h=>oe2 h (congrArg (n::·) (conE_is hr))
 | .e _::_::_,_,_,h=>nos h
 | .a _::_,_,_,h=>nos h
theorem piece_is {p:List Sc}{s:List Sg}{n:Nat}(h:pieceG lv p=some (s,n)):TP (p.flatMap (Sc.dn D)) (lxL lv V s) n:=by
 have con:(on2 (conE p) λw e=>if (Pt w).all (allP.contains ·) then on2 (bndE e) λs n=>some (toSg (WL w)++s,n+(Pt w).length) else none)=some (s,n)->TP (p.flatMap (Sc.dn D)) (lxL lv V s) n:=λh=>
  om h λw e hc h=>oi h λhm h=>om h λb k hb h=>oe2 h (by
   rw[conE_is hc,lxL_app,LW];exact bnd_is L hb ⟨QN _,λq hq=>ciM (alT hm q hq),rfl⟩)
 cases p with
 |nil=>exact con h
 |cons x l=>cases x with
  |c n=>exact con h
  |e n=>exact con h
  |a j=>cases l with
   |nil=>exact oi h λh0 h=>oe2 h (by show TP (D.s _++[]) (_++[]) _;rw[QX,QX];exact L.a _ h0)
   |cons y l=>cases y with
    |c n=>exact con h
    |a n=>exact con h
    |e i=>cases l with
     |cons z l=>exact con h
     |nil=>
      refine oi h λh0 h=>om h λb k hb h=>oe2 h ?_
      have z:=bnd_is L hb (L.a j h0);show TP (D.s j++(D.e i++[])) _ _
      rw[QX];exact z
omit L in
theorem cut_is:∀ (l:List Sc),∃ p r,cutB l=p::r∧l.flatMap (Sc.dn D)=p.flatMap (Sc.dn D)++(r.flatMap λq=>32::q.flatMap (Sc.dn D))
 | []=>⟨[],[],rfl,rfl⟩
 |a::l=>by
  refine xe22 (cut_is l) λp r e1 e2=>?_
  unfold cutB;rw[e1]
  cases h:isB a with
  |true=>
   have ea:a.dn D=[32]:=by cases a<;>first|exact congrArg (·::[]) (eq_of_beq h)|exact nof h
   exact⟨[],p::r,rfl,(congrArg (·++l.flatMap (Sc.dn D)) ea).trans (congrArg (32::·) e2)⟩
  |false=>
   refine⟨a::p,r,rfl,?_⟩;show a.dn D++l.flatMap _=(a.dn D++p.flatMap _)++_
   rw[e2,QW]
theorem lex_is:∀ {p:List Sc} {r:List (List Sc)} {s:List Sg} {n:Nat},lexG lv (p::r)=some (s,n)->TP (p.flatMap (Sc.dn D)++(r.flatMap λq=>32::q.flatMap (Sc.dn D))) (lxL lv V s) n
 |p,[],_,_,h=>om h λs k hs h=>oe2 (h:some (s++[],k+0)=_) (by
   rw[QX];show TP (_++[]) _ _
   rw[QX];exact piece_is L hs)
 |p,q::r,_,_,h=>om h λs k hs h=>om h λt m ht h=>oe2 h (by
   rw[lxL_app];exact(piece_is L hs).app (lex_is ht))
theorem shw_is {r:Sr}{sg:List Sg}{n:Nat}{B:Nat}(h:shw lv r sg n B=true):∃ l,r=some (.str l,0,[])∧(l.flatMap (Sc.dn D)).length≤B∧sureS l=true∧TP (l.flatMap (Sc.dn D)) (lxL lv V sg) n:=by
 refine okE h λx ex h=>okE h λl el h=>?_
 obtain⟨v,q,m⟩:=x
 have h:=and3 h
 refine okE h.2.2 λy e h2=>?_
 have h2:=and4 h2
 refine xe22 (cut_is (D:=D) l) λp r e1 e2=>?_
 rw[e1] at e
 have z:=lex_is L e
 rw[eqSgs_is h2.1] at z
 have ev:v = .str l:=eStr (G:=λa=>a = .str l) el rfl
 refine⟨l,ex.trans (congrArg some (Prod.ext ev (Prod.ext (eq_of_beq h.1) (Qx.mp h.2.1)))),QJ (LM L l) (leB h2.2.2.1),h2.2.2.2,?_⟩
 rw[e2]
 exact⟨QJ z.cnt (leB h2.2.1),z.mem,z.is⟩
end
end
section
open PySem.SeqAt
open Rdr
noncomputable abbrev full (ps:List Str):List Str:=ps.filter λx => !(x==PySem.Str.ofString "")
theorem call_join {p:Pk}{n:Nat}{l:List AV}{τ:Store}:callN p (n+1) (.glob (.builtin "str.join")) l τ=gc τ.length (withS τ (joinF l τ)):=rfl
theorem blank_is:(PySem.Str.ofString " ").length=1:=by decide +kernel
theorem strs_map:∀ (l:List Str),strsOf (l.map AV.str)=some l
 | []=>rfl
 |a::l=>on1s (strs_map l) rfl
noncomputable abbrev jX:X:=.cons (.cmp .NotEq (.loc 0) (.val (.str ""))) .nil
section
variable {e:Pc}{en en' : En}{σ σ₁ σ₂ σC:Store}{o x elt iter ifs y:X}{v w a b:AV}{as:List AV}{c:Bool}{src:Src}{is:List Nat}{caps:List AV}
theorem compYes {M:Md}{T:MdB}{D n k:Nat}{cel:List AV}{r:Option Store}(h1:nextF src k σ=some (some a))(h2:T ⟨[some a],cel⟩ σ=some (true,σ₁))(h3:M ⟨[some a],cel⟩ σ₁=some (b,σ₂))(h4:appendF [.ref D,b] σ₂=some (v,σC))(h5:compM M T src D cel n (k+1) σC=r):compM M T src D cel (n+1) k σ=r:=
 onNv h1 (on2s h2 (on2s h3 (on2s h4 h5)))
theorem compNo {M:Md}{T:MdB}{D n k:Nat}{cel:List AV}{r:Option Store}(h1:nextF src k σ=some (some a))(h2:T ⟨[some a],cel⟩ σ=some (false,σ₁))(h5:compM M T src D cel n (k+1) σ₁=r):compM M T src D cel (n+1) k σ=r:=onNv h1 (on2s h2 h5)
theorem jn_test {w:Str}{τ:Store}:evI e jX ⟨[some (.str w)],[]⟩ τ=some (!(w==PySem.Str.ofString ""),τ):=by
 rw[← K3]
 exact H6 (zCmp rfl rfl rfl) rfl
end
section
variable (sc:ScT){σ:Store}{k:Nat}
theorem jn_loop {e:Pc}{i:Nat}{all:List Str}(hi:σ[i]? = some (.list (all.map .str))):∀ (ps:List Str) (j:Nat) (ha:all.drop j=ps) {acc:List Str} (hl:acc.length+ps.length≤1000) (f:Nat) (hf:ps.length<f),
  compM (ev e (.loc 0)) (evI e jX) (.list i) σ.length [] f j (σ++[.list (acc.map .str)])=some (σ++[.list ((acc++full ps).map .str)])
 |ps,j,ha,acc,hl,0,hf=>absurd hf (G3 _)
 | [],j,ha,acc,hl,f+1,hf=>by
  have hj:all[j]? = none:=by rw[← UZ,ha];rfl
  refine onNn (onLs (U9 hi) (by rw[Q2,hj];rfl)) ?_;rw[show full []=[] from rfl,QX]
 |w::ps,j,ha,acc,hl,f+1,hf=>by
  have hj:all[j]? = some w:=by rw[← UZ,ha];rfl
  have ha' : all.drop (j+1)=ps:=by rw[← RW,ha];rfl
  have hl:acc.length+(ps.length+1)≤1000:=hl;have hf' := V1 hf
  have nx:nextF (.list i) j (σ++[.list (acc.map .str)])=some (some (.str w)):=onLs (U9 hi) (by rw[Q2,hj];rfl)
  cases e:w==PySem.Str.ofString "" with
  |true=>
   rw[show full (w::ps)=full ps from Mk (by rw[e];exact U5)];exact compNo nx (by rw[jn_test,e];rfl) (jn_loop hi ps (j+1) ha' (acc:=acc) (ar4 hl) f hf')
  |false=>
   rw[show full (w::ps)=w::full ps from Hw (by rw[e];rfl),show acc++w::full ps=(acc++[w])++full ps from List.append_cons ..];refine compYes nx (by rw[jn_test,e];rfl) (b:=.str w) (σ₂:=σ++[.list (acc.map .str)]) rfl (v:=.none) ?_ (jn_loop hi ps (j+1) ha' (acc:=acc++[w]) (by rw[QV];show acc.length+1+_≤_;exact ar2 hl) f hf')
   refine onLs (l:=acc.map .str) (by rw[← V3 σ.length,VN];rfl) ((if_pos (by rw[QH];exact ar5 hl rfl)).trans ?_);rw[Q5,UQ _ _ (QN _),UH]
   rfl
theorem joined_ok (h:Cl σ){i:Nat}{ps:List Str}(hi:σ[i]? = some (.list (ps.map .str)))(hp:ps.length≤900)(hb:((full ps).map (·.length)).sum+(full ps).length≤16777216):callN (pk0 sc) (k+2) (.glob (.ref 688)) [.ref i] σ=some (.str (Txt.join (PySem.Str.ofString " ") (full ps)),σ):=by
 have q:=jn_loop (e:=pc sc (k+1)) hi ps 0 rfl (acc:=[]) (by show 0+_≤_;exact ar7 hp rfl) 1000 (adL 1 hp rfl)
 rw[WX] at q
 have g:=gcS h (l:=[.list ((full ps).map .str)]) rfl (v:=.str (Txt.join (PySem.Str.ofString " ") (full ps))) rfl
 have gj:gc (σ++[AO.list ((full ps).map .str)]).length (some (.str (Txt.join (PySem.Str.ofString " ") (full ps)),σ++[AO.list ((full ps).map .str)]))=some (.str (Txt.join (PySem.Str.ofString " ") (full ps)),σ++[AO.list ((full ps).map .str)]):=gcId (QN _)
 have step:evS (pc sc (k+1)) b_joined ⟨[some (.ref i)],[]⟩ σ=some (.ret (.str (Txt.join (PySem.Str.ofString " ") (full ps))),⟨[some (.ref i)],[]⟩,σ++[.list ((full ps).map .str)]):=by
  refine zRet (Ww (o:=.val (.str " ")) (v:=.str " ") (σ₁:=σ) (as:=[.ref σ.length]) (σ₂:=σ++[.list ((full ps).map .str)]) rfl (zGetS meth_join) ?_ ((call_join (n:=k)).trans ?_))
  · exact JG (zComp rfl (onLs hi rfl) rfl q) rfl
  · refine(congrArg (gc _) ?_).trans gj
    refine on1s (onLs (l:=(full ps).map .str) (by rw[← V3 σ.length,VN];rfl) (on1s (strs_map _) (if_pos ?_))) rfl;rw[blank_is];exact(Nat.mul_one _).symm▸hb
 rw[c_joined]
 have run:runE e_joined (evS (pc sc (k+1)) b_joined) [.ref i] σ=some (.str (Txt.join (PySem.Str.ofString " ") (full ps)),σ++[.list ((full ps).map .str)]):=by
  unfold runE runB;rw[if_pos ⟨leB rfl,leB rfl⟩]
  exact on3s step rfl
 rw[run]
 exact g
end
end
section
open PySem.SeqAt
open Rdr
theorem cps_app (x y:Str):cps (x++y)=cps x++cps y:=by
 show (x++y).cps.toList=_
 rw[PySem.Str.cps_append,Vz]
noncomputable def spL (l:List Nat):List Nat:=if l.isEmpty then [] else 32::l
noncomputable def Bnd.norm (x:Bnd):Bnd:=⟨x.b.map λp=>(true,p.2),x.a.map λp=>(true,p.2),true⟩
noncomputable def Trow.norm (r:Trow):Trow:=⟨r.c,r.k,r.bd.norm⟩
noncomputable def Rrow.norm (r:Rrow):Rrow:=⟨r.k,r.by_,r.bd.norm⟩
noncomputable def Rv.norm (V:Rv):Rv:={ V with bn:=λi=>(V.bn i).norm,tr:=V.tr.map Trow.norm,er:=V.er.map Rrow.norm }
abbrev Gives (sc:ScT)(a:Addr)(c:Nat)(l:List AV)(L:List Nat):Prop := ∀ (σ:Store) (k:Nat),Cl σ->0<σ.length->callN (pk0 sc) (k+c) (.glob (.ref a)) l σ=some (.str ⟨L.toArray⟩,σ)
structure TxtP (L:List Nat)(ts:List Tk)(n B:Nat):Prop where
 ne:L≠[]
 len:L.length≤B
 tp:TP L ts n
structure HOk (sc:ScT)(V:Rv)(lv:Nat)(s e:Nat->List Nat):Prop where
 it:1≤lv->∀ i,TxtP (s (3 * i)) (V.it i).toks 10 20∧Gives sc 250 40 [(V.it i).val,.glob (.ref 335)] (s (3 * i))
 tx:1≤lv->∀ i,TxtP (s (3 * i+1)) (V.tx i).toks 10 20∧Gives sc 257 40 [(V.tx i).val,.glob (.ref 335)] (s (3 * i+1))
 w:∀ j,s j≠[]∧(s j).length≤bndS j
 sp:∀ i,e (2 * i+1)=spL (e (2 * i))
 eb:∀ i,(e i).length≤100
 bd:2≤lv->∀ i,((e (2 * i)=[]∧(V.bn i).norm.toks=[])∨TxtP (e (2 * i)) (V.bn i).norm.toks 60 99)∧Gives sc 740 60 [partV (V.bn i).b,partV (V.bn i).a] (e (2 * i))
 tal:3≤lv->TxtP (s 2) (wtk "TALLYING"::rowsT (V.tr.map Trow.norm)) 400 1000∧Gives sc 766 90 [.tup (V.tr.map Trow.val)] (s 2)
 rep:3≤lv->TxtP (s 5) (wtk "REPLACING"::exT (V.er.map Rrow.norm)) 400 1000∧Gives sc 773 90 [.tup (V.er.map Rrow.val)] (s 5)
noncomputable def isShow:SV->Bool
 | .glob (.ref a)=>a==335
 |_=>false
noncomputable def asE:List Sc->Option Nat
 | [.e i]=>some i
 |_=>none
@[elab_as_elim] theorem eE {p:List Sc}{i:Nat}{G:List Sc->Prop}(h:asE p=some i)(k:G [.e i]):G p:=by
 cases p with
 |nil=>exact nos h
 |cons a l=>cases a with
  |e j=>cases l with
   |nil=>exact(soI h:_=i)▸k
   |cons=>exact nos h
  |_=>exact nos h
noncomputable def tailH:List (List Sc)->Option (List Sc)
 | []=>some []
 |p::r=>on1 (tailH r) λq=>if sureS p then some (.c 32::(p++q)) else on1 (asE p) λi=>if i % 2==0 then some (.e (i+1)::q) else none
def joinH:List (List Sc)->Option (List Sc)
 | []=>none
 |p::r=>if sureS p then on1 (tailH r) λq=>some (p++q) else none
noncomputable def asAt:SV->Option Nat
 | .at j=>some j
 |_=>none
def natH (lv n:Nat)(a:Addr)(l:List SV)(st:Ss):Option SV:=if JQ 1 lv then
 orE (dep a 257 40 n (uL2 l λv g=>if isShow g then on1 (asTp v) λj=>if j % 3==1 then some (.str [.a j]) else none else none)) <|
 orE (dep a 250 40 n (uL2 l λv g=>if isShow g then on1 (asTp v) λj=>if j % 3==0 then some (.str [.a j]) else none else none)) <|
 if JQ 2 lv then
  orE (dep a 740 60 n (uL2 l λu v=>on1 (asAt u) λi=>on1 (asAt v) λj=>if i % 2==0&&j==i+1 then some (.str [.e i]) else none)) <|
  orE (dep a 688 2 n (uL1 l λv=>on1 (asRef v) λj=>on1 st.2[j]? λc=>on1 (strsS c) λys=>on1 (joinH ys) λx=>if joinOk [.c 32] ys&&JQ ys.length 900 then some (.str x) else none)) <|
  if JQ 3 lv then orE (dep a 766 90 n (uL1 l λv=>on1 (asTp v) λj=>if j==2 then some (.str [.a 2]) else none)) (dep a 773 90 n (uL1 l λv=>on1 (asTp v) λj=>if j==5 then some (.str [.a 5]) else none))
  else none
 else none
 else none
def nvH (p:Pk)(lv:Nat):Nv:=nvC p λn g l st=>match g with
 | .glob (.ref a)=>if st.2.all (clW st.2.length) then on1 (natH lv n a l st) λr=>some (r,st) else none
 |_=>none
abbrev shD (V:Rv)(σ:Store)(s e:Nat->List Nat):Dn:=stD σ (λi=>if i % 2=0 then partV (V.bn (i / 2)).b else partV (V.bn (i / 2)).a) (λi=>tupL (tpV V i)) s e (λZ=>[])
@[elab_as_elim] theorem eTp {a:SV}{i:Nat}{G:SV->Prop}(h:asTp a=some i)(k:G (.tp i)):G a:=by cases a<;>first|exact nos h|exact(soI h:_=i)▸k
@[elab_as_elim] theorem eAt {a:SV}{i:Nat}{G:SV->Prop}(h:asAt a=some i)(k:G (.at i)):G a:=by cases a<;>first|exact nos h|exact(soI h:_=i)▸k
@[elab_as_elim] theorem eShow {a:SV}{G:SV->Prop}(h:isShow a=true)(k:G (.glob (.ref 335))):G a:=by
 cases a with
 |glob v=>cases v with
  |ref x=>exact(eq_of_beq h:x=335)▸k
  |_=>exact nof h
 |_=>exact nof h
theorem spL_nil {l:List Nat}(h:l=[]):spL l=[]:=by rw[h];rfl
theorem spL_ne {l:List Nat}(h:l≠[]):spL l=32::l:=if_neg λe=>h (Qx.mp e)
theorem str_nil {w:Str}:(w==PySem.Str.ofString "")=w.cps.toList.isEmpty:=by
 have e:PySem.Str.ofString ""=⟨#[]⟩:=by decide +kernel
 rw[e,Hz,beq_iff_eq,Qx]
 exact⟨λh=>h▸rfl,λh=>Hj h⟩
theorem join_sp:∀ (r:List Str) (p:Str),(PySem.Str.join ⟨#[32]⟩ (p::full r)).cps.toList=cps p++r.flatMap λw=>spL (cps w)
 | [],p=>(QX _).symm
 |w::r,p=>by
  cases e:w==PySem.Str.ofString "" with
  |true=>
   have e2:cps w=[]:=Qx.mp (str_nil.symm.trans e);rw[show full (w::r)=full r from Mk (by rw[e];exact U5),join_sp r p,Vv,spL_nil e2]
   rfl
  |false=>
   have e2:cps w≠[]:=λh=>by rw[str_nil,Qx.mpr h] at e;cases e
   rw[show full (w::r)=w::full r from Hw (by rw[e];rfl),Vv,spL_ne e2];show cps (p++⟨#[32]⟩++PySem.Str.join ⟨#[32]⟩ (w::full r))=_
   rw[cps_app,cps_app,show cps (PySem.Str.join ⟨#[32]⟩ (w::full r))=_ from join_sp r w,QW];rfl
section
variable {sc:ScT}{V:Rv}{lv:Nat}{s e:Nat->List Nat}(O:HOk sc V lv s e){σ:Store}
include O
theorem shD_ok {p:Pk}{call:Nat->SV->List SV->Ss->Sr}(h:Cl σ)(h0:0<σ.length):DnOk (shD V σ s e) (nvC p call):=stD_ok h h0 (λi=>by
  by_cases e:i % 2=0
  · rw[if_pos e];exact HZ
  · rw[if_neg e];exact HZ) (λi=>tp_cl V i _) (λj=>⟨(O.w j).1,QJ (O.w j).2 (by unfold bndS;by_cases e:j % 3=2<;>simp[e])⟩) (λi=>QJ (O.eb i) (by decide)) λZ=>⟨rfl,Q4 _⟩
omit O in
theorem Wq:DenV (shD V σ s e) V:=⟨den_it (R:=⟨0,0,0,0,0,[],[]⟩) (σ:=[]) (n:=0) (sg:=[]),den_tx (R:=⟨0,0,0,0,0,[],[]⟩) (σ:=[]) (n:=0) (sg:=[]),den_b (R:=⟨0,0,0,0,0,[],[]⟩) (σ:=[]) (n:=0) (sg:=[]),den_a (R:=⟨0,0,0,0,0,[],[]⟩) (σ:=[]) (n:=0) (sg:=[]),NU V 2,NU V 5⟩
omit O in
theorem strA (j:Nat):den (shD V σ s e) (.str [.a j]) = .str ⟨(s j).toArray⟩:=congrArg (λl:List Nat=>AV.str ⟨l.toArray⟩) (QX _)
omit O in
theorem strE (j:Nat):den (shD V σ s e) (.str [.e j]) = .str ⟨(e j).toArray⟩:=congrArg (λl:List Nat=>AV.str ⟨l.toArray⟩) (QX _)
theorem tail_is:∀ {ys:List (List Sc)} {q:List Sc},tailH ys=some q->q.flatMap (Sc.dn (shD V σ s e))=(ys.map (strD (shD V σ s e))).flatMap λw=>spL (cps w)
 | [],_,h=>oe h rfl
 |p::r,_,h=>om1 h λq hq h=>by
  have z:=tail_is hq;rw[QM,Vv,← z]
  have H:∀ {p:List Sc},sureS p=true->p.flatMap (Sc.dn (shD V σ s e))≠[]:=λ{p} h=>by
   have key:∀ {l:List Sc},sureS l=true->l.flatMap (Sc.dn (shD V σ s e))≠[]:=λ{l}=>by
    induction l with
    |nil=>intro h;exact nof h
    |cons v l ih=>
     intro h e;have e:=GQ.mp e
     cases v with
     |c n=>first|exact nos e.1|exact nof e.1|cases e.1
     |a i=>exact(O.w i).1 e.1
     |e i=>exact ih h e.2
   exact key h
  refine oif h (λh0 h=>oe h ?yes) λh=>?no
  case yes=>
   rw[show spL (cps (strD (shD V σ s e) p))=32::p.flatMap (Sc.dn (shD V σ s e)) from spL_ne (H h0)];show 32::(p++q).flatMap _=_
   rw[Q8];rfl
  case no=>
   refine om1 h λi hi h=>oi h λh0 h=>oe h (eE (G:=λp=>(Sc.e (i+1)::q).flatMap (Sc.dn (shD V σ s e))=spL (cps (strD (shD V σ s e) p))++q.flatMap (Sc.dn (shD V σ s e))) hi ?_)
   have hi:i=2 * (i / 2):=by have:=eq_of_beq h0;exact q0' 2 this
   show e (i+1)++q.flatMap _=spL (e i++[])++_;rw[QX,hi,O.sp]
omit O in
theorem full_sum (ps:List Str):((full ps).map (·.length)).sum+(full ps).length≤(ps.map (·.length)).sum+ps.length:=by
 induction ps with
 |nil=>exact QN _
 |cons w ps ih=>
  cases e:w==PySem.Str.ofString "" with
  |true=>
   rw[show full (w::ps)=full ps from Mk (by rw[e];exact U5)];refine QJ ih (Q6 ?_ (HK _))
   rw[QM,MM];exact G4 _ _
  |false=>
   rw[show full (w::ps)=w::full ps from Hw (by rw[e];rfl),QM,MM,QM,MM,Qw,Qw];omega
theorem joinH_is {ys:List (List Sc)}{x:List Sc}(h:joinH ys=some x):Txt.join (PySem.Str.ofString " ") (full (ys.map (strD (shD V σ s e))))=strD (shD V σ s e) x:=by
 cases ys with
 |nil=>exact nos h
 |cons p r=>
  refine oi h λh0 h=>om1 h λq hq h=>oe h ?_
  have hne:(strD (shD V σ s e) p==PySem.Str.ofString "")=false:=by
   rw[str_nil]
   cases eq1:(strD (shD V σ s e) p).cps.toList.isEmpty with
   |false=>rfl
   |true=>
    have key:∀ {l:List Sc},sureS l=true->l.flatMap (Sc.dn (shD V σ s e))≠[]:=λ{l}=>by
     induction l with
     |nil=>intro h;exact nof h
     |cons v l ih=>
      intro h e;have e:=GQ.mp e
      cases v with
      |c n=>first|exact nos e.1|exact nof e.1|cases e.1
      |a i=>exact(O.w i).1 e.1
      |e i=>exact ih h e.2
    exact absurd (Qx.mp eq1) (key h0)
  rw[QM,show full (strD (shD V σ s e) p::r.map (strD (shD V σ s e)))=strD (shD V σ s e) p::full (r.map (strD (shD V σ s e))) from Hw (by rw[hne];rfl),s_blank];refine(StrLaws.glued_eq_join _ _).trans (Hj ?_)
  rw[join_sp,← tail_is O hq];exact Q8.symm
abbrev NatI (sc:ScT)(V:Rv)(σ:Store)(s e:Nat->List Nat)(l:List SV)(st:Ss)(r:SV)(k:Nat)(a:Addr):Prop:=callN (pk0 sc) k (.glob (.ref a)) (l.map (den (shD V σ s e))) (denS (shD V σ s e) st)=some (den (shD V σ s e) r,denS (shD V σ s e) st)
theorem natH_is {m K:Nat}{a:Addr}{l:List SV}{st:Ss}{r:SV}(h:Cl σ)(h0:0<σ.length)(hc:Cl (denS (shD V σ s e) st))(q:natH lv m a l st=some r):NatI sc V σ s e l st r (K+m+1) a:=by
 have H:=shD_ok O (p:=pk0 sc) (call:=λZ Z Z Z=>none) h h0
 have hp:0<(denS (shD V σ s e) st).length:=by rw[lenS H];exact ltL h0 (QG _ _)
 refine oi q λhv q=>oOr q (λq=>UU (P:=NatI sc V σ s e l st r) q λk q=>uE2 q λv g q=>oi q λhg q=>eShow hg (om1 q λj hj q=>oi q λh1 q=>eTp hj (oe q ?hTx))) λq=>oOr q (λq=>UU (P:=NatI sc V σ s e l st r) q λk q=>uE2 q λv g q=>oi q λhg q=>eShow hg (om1 q λj hj q=>oi q λh1 q=>eTp hj (oe q ?hIt))) λq=>oi q λh2 q=>
  oOr q (λq=>UU (P:=NatI sc V σ s e l st r) q λk q=>uE2 q λu v q=>om1 q λi hi q=>om1 q λj hj q=>oi q λh1 q=>eAt hi (eAt hj (oe q ?hBd))) λq=>oOr q (λq=>UU (P:=NatI sc V σ s e l st r) q λk q=>uE1 q λv q=>om1 q λj hj q=>om1 q λc hcj q=>om1 q λys hy q=>om1 q λx hx q=>oi q λh1 q=>oe q ?hJn) λq=>oi q λh3 q=>
  oOr q (λq=>UU (P:=NatI sc V σ s e l st r) q λk q=>uE1 q λv q=>om1 q λj hj q=>oi q λh1 q=>eTp hj (oe q ?hTa)) λq=>UU (P:=NatI sc V σ s e l st r) q λk q=>uE1 q λv q=>om1 q λj hj q=>oi q λh1 q=>eTp hj (oe q ?hRe)
 case hTx=>
  have hj:j=3 * (j / 3)+1:=by have:=eq_of_beq h1;exact q1' 3 this
  have z:=(O.tx (leB hv) (j / 3)).2 (denS (shD V σ s e) st) k hc hp;unfold NatI
  rw[strA,hj];rw[← (Wq (σ:=σ) (s:=s) (e:=e)).tx] at z
  exact z
 case hIt=>
  have hj:j=3 * (j / 3):=by have:=eq_of_beq h1;exact q0' 3 this
  have z:=(O.it (leB hv) (j / 3)).2 (denS (shD V σ s e) st) k hc hp;unfold NatI
  rw[strA,hj];rw[← (Wq (σ:=σ) (s:=s) (e:=e)).it] at z
  exact z
 case hBd=>
  have hi' : i=2 * (i / 2):=by have:=eq_of_beq (and2 h1).1;exact q0' 2 this
  have hj' : j=2 * (i / 2)+1:=by rw[eq_of_beq (and2 h1).2,← hi']
  have z:=(O.bd (leB h2) (i / 2)).2 (denS (shD V σ s e) st) k hc hp;unfold NatI
  rw[strE,hi',hj'];rw[← (Wq (σ:=σ) (s:=s) (e:=e)).b,← (Wq (σ:=σ) (s:=s) (e:=e)).a] at z
  exact z
 case hJn=>
  have g:=eRefC (G:=λv=>callN (pk0 sc) (k+2) (.glob (.ref 688)) [v] (denS (shD V σ s e) st)=some (den (shD V σ s e) (.str x),denS (shD V σ s e) st)) H hj hcj λg=>by
   have hs:=M1 (D:=shD V σ s e) hy;have gl:denC (shD V σ s e) c=(ys.map (strD (shD V σ s e))).map .str:=by
    have e1:=R1 (D:=shD V σ s e) hs.1;rw[e1]
    have key:∀ {l:List AV} {xs:List Str},strsOf l=some xs->l=xs.map .str:=λ{l}=>by
     induction l with
     |nil=>intro xs h;exact oe h rfl
     |cons a l ih=>intro xs h;exact oStr h λw hw h=>om1 h λr hr h=>oe h (by rw[hw,ih hr];rfl)
    exact key hs.2
   rw[gl] at g;have hb:=R2 H (and2 h1).1
   rw[show (strD (shD V σ s e) [.c 32]).length=1 from rfl,Nat.mul_one] at hb;have z:=joined_ok sc (k:=k) hc g (by rw[QH];exact leB (and2 h1).2) (QJ (full_sum _) hb)
   rw[joinH_is O hx] at z;exact z
  exact g
 case hTa=>
  have z:=(O.tal (leB h3)).2 (denS (shD V σ s e) st) k hc hp;unfold NatI
  rw[strA,eq_of_beq h1];exact z
 case hRe=>
  have z:=(O.rep (leB h3)).2 (denS (shD V σ s e) st) k hc hp;unfold NatI
  rw[strA,eq_of_beq h1];exact z
theorem goH (h:Cl σ)(h0:0<σ.length){d:Nat}{g r:SV}{l:List SV}(q:callS (nvH (pk0 sc) lv) d g l (0,[])=some (r,0,[]))(k:Nat):callN (pk0 sc) (k+d) (den (shD V σ s e) g) (l.map (den (shD V σ s e))) σ=some (den (shD V σ s e) r,σ):=by
 have H:=shD_ok O (p:=pk0 sc) (call:=(nvH (pk0 sc) lv).call) h h0
 have z:=H8 (nv:=nvH (pk0 sc) lv) (K:=k) H (leB rfl) (λm g l st r st' e=>by
  cases g with
  |glob v=>cases v with
   |ref a=>
    refine oi e λhc e=>om1 e λr e1 e=>oe2 e (natH_is O h h0 ?_ e1)
    show clS (denS _ st).length (σ++_)=true;rw[lenS H]
    refine(G2 ..).trans (anI ⟨R7 (QG _ _) _ h,?_⟩);show clS (σ.length+st.2.length) _=true
    generalize hm:st.2.length=m at hc ⊢;generalize st.2=L at hc
    induction L with
    |nil=>rfl
    |cons a L ih=>exact anI ⟨(R8 H m a).trans (and2 hc).1,ih (and2 hc).2⟩
   |_=>exact nos e
  |_=>exact nos e) d g l _ _ _ q
 have e0:denS (shD V σ s e) (0,[])=σ:=QX _
 rw[e0] at z
 exact z
end
end
section
open PySem.SeqAt
open Rdr
abbrev runH (sc:ScT)(lv d:Nat)(a:Addr)(l:List SV):Sr:=callS (nvH (pk0 sc) lv) d (.glob (.ref a)) l (0,[])
theorem txt_run (sc:ScT):(allT.all λx=>shw false (runH sc 0 40 257 [x.sv,.glob (.ref 335)]) (toSg x.toks) 10 20)=true:=by kernel_rfl
theorem itm_run (sc:ScT):(allI.all λx=>shw false (runH sc 0 40 250 [x.sv,.glob (.ref 335)]) (toSg x.toks) 10 20)=true:=by kernel_rfl
noncomputable def oneB:List (Option Bool):=[none,some true]
theorem bd_run (sc:ScT):(oneB.all λb=>oneB.all λa=>if b.isNone&&a.isNone then chk (runH sc 1 60 740 [partS b 0,partS a 1]) (.str []) 0 else shw false (runH sc 1 60 740 [partS b 0,partS a 1]) (bndG b a true) 60 99)=true:=by kernel_rfl
theorem talH_run (sc:ScT):((upTo tKs 3).all λps=>shw false (runH sc 2 90 766 [.tup (tallS 0 ps)]) (wsg "TALLYING"::tallG 0 ps) 400 1000)=true:=by kernel_rfl
theorem repH_run (sc:ScT):((upTo eKs 2).all λps=>shw false (runH sc 2 90 773 [.tup (exS 0 ps)]) (wsg "REPLACING"::exG 0 ps) 400 1000)=true:=by kernel_rfl
noncomputable def stmH:Sk->List Sg
 | .both=>[wsg "INSPECT",.it 0,.tr,.er]
 | .tally=>[wsg "INSPECT",.it 0,.tr]
 | .repl=>[wsg "INSPECT",.it 0,.er]
theorem stm_run (sc:ScT):([Sk.both,.tally,.repl].all λk=>shw true (runH sc 3 100 794 [stmS k,.none]) (stmH k) 900 5000)=true:=by kernel_rfl
abbrev TxP (sc:ScT)(x:Tx)(L:List Nat):Prop:=TxtP L x.toks 10 20∧Gives sc 257 40 [x.val,.glob (.ref 335)] L
abbrev ItP (sc:ScT)(x:Itm)(L:List Nat):Prop:=TxtP L x.toks 10 20∧Gives sc 250 40 [x.val,.glob (.ref 335)] L
abbrev BdP (sc:ScT)(x:Bnd)(L:List Nat):Prop:=((L=[]∧x.norm.toks=[])∨TxtP L x.norm.toks 60 99)∧Gives sc 740 60 [partV x.b,partV x.a] L
abbrev TaP (sc:ScT)(rs:List Trow)(L:List Nat):Prop:=TxtP L (wtk "TALLYING"::rowsT (rs.map Trow.norm)) 400 1000∧Gives sc 766 90 [.tup (rs.map Trow.val)] L
abbrev ReP (sc:ScT)(rs:List Rrow)(L:List Nat):Prop:=TxtP L (wtk "REPLACING"::exT (rs.map Rrow.norm)) 400 1000∧Gives sc 773 90 [.tup (rs.map Rrow.val)] L
section
variable {sc:ScT}{V V' : Rv}{lv:Nat}{lb:Bool}{s e:Nat->List Nat}
theorem shown (O:HOk sc V lv s e)(X:LexOk (shD V [] s e) V' lb){d n B:Nat}{a:Addr}{l:List SV}{lA:List AV}{sg:List Sg}(hl:∀ σ,l.map (den (shD V σ s e))=lA)(q:shw lb (runH sc lv d a l) sg n B=true):∃ L,TxtP L (lxL lb V' sg) n B∧Gives sc a d lA L:=by
 refine xe14 (shw_is X q) λx h1 h2 h3 h4=>?_
 have H:=λ(σ:Store) (h:Cl σ) (h0:0<σ.length)=>strD_ne (shD_ok O (p:=pk0 sc) (call:=λZ Z Z Z=>none) h h0) h3
 refine⟨x.flatMap (Sc.dn (shD V [] s e)),⟨H [.list []] rfl (by decide),h2,h4⟩,λσ k h h0=>?_⟩
 rw[← hl σ]
 exact goH O h h0 h1 k
theorem lexOk (O:HOk sc V lv s e)(hlv:1≤lv)(hi:∀ i,(V'.it i).toks=(V.it i).toks)(ht:∀ i,(V'.tx i).toks=(V.tx i).toks)(hb:∀ i,(e (2 * i)=[]∧(V'.bn i).toks=[])∨TxtP (e (2 * i)) (V'.bn i).toks 60 99)
  (hr:lb=true->TP (s 2) (wtk "TALLYING"::rowsT V'.tr) 400∧∀ j,j % 3=2->j≠2->TP (s j) (wtk "REPLACING"::exT V'.er) 400):LexOk (shD V [] s e) V' lb where
 a j h:=by
  show TP (s j) _ _
  by_cases e0:j % 3=0
  · rw[show lxT lb V' (segOf j)=(V'.it (j / 3)).toks by unfold segOf;rw[if_pos e0];cases lb<;>rfl,if_neg (nm e0 rfl),hi]
    have z:=(O.it hlv (j / 3)).1.tp
    rwa [show 3 * (j / 3)=j from q0 3 e0] at z
  · by_cases e1:j % 3=1
    · rw[show lxT lb V' (segOf j)=(V'.tx (j / 3)).toks by unfold segOf;rw[if_neg e0,if_pos e1];cases lb<;>rfl,if_neg (nm e1 rfl),ht]
      have z:=(O.tx hlv (j / 3)).1.tp
      rwa [show 3 * (j / 3)+1=j from q1 3 e1] at z
    · have e2:j % 3=2:=t2 e0 e1
      rw[e2] at h;have hlb:lb=true:=h
      subst hlb;rw[if_pos e2]
      by_cases ej:j=2
      · subst ej;exact(hr rfl).1
      · rw[show lxT true V' (segOf j)=wtk "REPLACING"::exT V'.er by unfold segOf;rw[if_neg e0,if_neg e1,if_neg ej];rfl]
        exact(hr rfl).2 j e2 ej
 e i:=by
  show (e (2 * i+1)=[]∧_)∨∃ l,e (2 * i+1)=32::l∧_;rw[O.sp]
  rcases hb i with ⟨h1,h2⟩|h
  · exact .inl ⟨spL_nil h1,h2⟩
  · exact .inr ⟨_,spL_ne h.ne,h.tp⟩
 sb j:=(O.w j).2
 eb:=O.eb
end
theorem rv0_lex:LexOk (shD (rv0 "T") [] (λZ=>[84]) (λZ=>[])) (rv0 "T") false where
 a j h:=by
  have z:TP [84] [wtk "T"] 10:=⟨by decide +kernel,λp hp=>ciM (alT (by decide +kernel:(Pt [84]).all (allP.contains ·)=true) p hp),by decide +kernel⟩
  show TP [84] _ _;have e:lxT false (rv0 "T") (segOf j)=[wtk "T"]:=by
   unfold segOf
   by_cases e0:j % 3=0
   · rw[if_pos e0];rfl
   · rw[if_neg e0]
     by_cases e1:j % 3=1
     · rw[if_pos e1];rfl
     · rw[Bool.or_false] at h
       exact absurd (show j % 3=2 from t2 e0 e1) (bne_iff_ne.mp h)
  rw[e];exact⟨QJ z.cnt (by by_cases e:j % 3=2<;>simp[e]),z.mem,z.is⟩
 e i:=.inl ⟨rfl,rfl⟩
 sb j:=by show 1≤bndS j;unfold bndS;by_cases e:j % 3=2<;>simp[e]
 eb i:=Q4 _
theorem rv0_h (sc:ScT):HOk sc (rv0 "T") 0 (λZ=>[84]) (λZ=>[]) where
 it h:=absurd h (by decide)
 tx h:=absurd h (by decide)
 w j:=⟨VU _ _,by show 1≤bndS j;unfold bndS;by_cases e:j % 3=2<;>simp[e]⟩
 sp _:=rfl
 eb _:=Q4 _
 bd h:=absurd h (by decide)
 tal h:=absurd h (by decide)
 rep h:=absurd h (by decide)
theorem tx_ex (sc:ScT){x:Tx}(h:x.Is):∃ L,TxP sc x L:=by
 refine xe12 (shown (rv0_h sc) rv0_lex (l:=[x.sv,.glob (.ref 335)]) (lA:=[x.val,.glob (.ref 335)]) (λσ=>VW (tx_sv x) rfl) (alT (txt_run sc) x h)) λL h1 h2=>?_
 rw[LW] at h1
 exact⟨L,h1,h2⟩
theorem it_ex (sc:ScT){x:Itm}(h:x.Is):∃ L,ItP sc x L:=by
 refine xe12 (shown (rv0_h sc) rv0_lex (l:=[x.sv,.glob (.ref 335)]) (lA:=[x.val,.glob (.ref 335)]) (λσ=>VW (itm_sv x) rfl) (alT (itm_run sc) x h)) λL h1 h2=>?_
 rw[LW] at h1
 exact⟨L,h1,h2⟩
open Classical in
def txL (sc:ScT)(x:Tx):List Nat:=if h:∃ L,TxP sc x L then choose h else [0]
open Classical in
def itL (sc:ScT)(x:Itm):List Nat:=if h:∃ L,ItP sc x L then choose h else [0]
open Classical in
def bdL (sc:ScT)(x:Bnd):List Nat:=if h:∃ L,BdP sc x L then choose h else []
theorem txL_is (sc:ScT){x:Tx}(h:x.Is):TxP sc x (txL sc x):=by unfold txL;rw[dif_pos (tx_ex sc h)];exact Classical.choose_spec _
theorem itL_is (sc:ScT){x:Itm}(h:x.Is):ItP sc x (itL sc x):=by unfold itL;rw[dif_pos (it_ex sc h)];exact Classical.choose_spec _
def shS (sc:ScT)(V:Rv)(w:Nat->List Nat)(j:Nat):List Nat:=if j % 3=0 then itL sc (V.it (j / 3)) else if j % 3=1 then txL sc (V.tx (j / 3)) else w j
def shE (sc:ScT)(V:Rv)(i:Nat):List Nat:=if i % 2=0 then bdL sc (V.bn (i / 2)) else spL (bdL sc (V.bn (i / 2)))
section
variable {sc:ScT}{V:Rv}(ok:V.Ok){w:Nat->List Nat}(hw:∀ j,w j≠[]∧(w j).length≤1000)
include ok
theorem shS_it (i:Nat):ItP sc (V.it i) (shS sc V w (3 * i)):=by
 unfold shS
 rw[if_pos m30,show 3 * i / 3=i from d30]
 exact itL_is sc (ok.it i)
theorem shS_tx (i:Nat):TxP sc (V.tx i) (shS sc V w (3 * i+1)):=by
 unfold shS
 rw[if_neg n31,if_pos m31,show (3 * i+1) / 3=i from d31]
 exact txL_is sc (ok.tx i)
include hw
theorem shS_w (j:Nat):shS sc V w j≠[]∧(shS sc V w j).length≤bndS j:=by
 unfold shS bndS
 by_cases e0:j % 3=0
 · rw[if_pos e0,if_neg (nm e0 rfl)]
   exact⟨(itL_is sc (ok.it _)).1.ne,(itL_is sc (ok.it _)).1.len⟩
 · rw[if_neg e0]
   by_cases e1:j % 3=1
   · rw[if_pos e1,if_neg (nm e1 rfl)]
     exact⟨(txL_is sc (ok.tx _)).1.ne,(txL_is sc (ok.tx _)).1.len⟩
   · rw[if_neg e1,if_pos (t2 e0 e1)]
     exact hw j
theorem h1_ok:HOk sc V 1 (shS sc V w) (λZ=>[]) where
 it _ i:=shS_it ok i
 tx _ i:=shS_tx ok i
 w:=shS_w ok hw
 sp _:=rfl
 eb _:=Q4 _
 bd h:=absurd h (by decide)
 tal h:=absurd h (by decide)
 rep h:=absurd h (by decide)
end
theorem w0:∀ j:Nat,(λZ=>[0]:Nat->List Nat) j≠[]∧((λZ=>[0]:Nat->List Nat) j).length≤1000:=λZ=>⟨VU _ _,leB rfl⟩
theorem norm_is {x:Bnd}(h:x.Is):x.norm.Is:=by
 obtain⟨b,a,ba⟩:=x
 cases b<;>cases a<;>exact h
theorem P1 (x:Option (Bool×Tx)):partV (x.map λp=>(true,p.2))=partV x:=by cases x<;>rfl
theorem one_mem (x:Option (Bool×Tx)):((x.map λp=>(true,p.2)).map (·.1))∈oneB:=by cases x<;>first|exact .head _|exact .tail _ (.head _)
theorem bd_ex (sc:ScT){x:Bnd}(h:x.Is):∃ L,BdP sc x L:=by
 have ok:(x.norm.rv.se "T").Ok:=(Bnd.rv_ok (norm_is h)).se' (ciM rfl)
 have O:=h1_ok (sc:=sc) ok w0
 have X:LexOk (shD (x.norm.rv.se "T") [] (shS sc (x.norm.rv.se "T") λZ=>[0]) λZ=>[]) (x.norm.rv.se "T") false:=lexOk O (QN 1) (λZ=>rfl) (λZ=>rfl) (λZ=>.inl ⟨rfl,rfl⟩) λh=>nof h
 have hv:∀ σ,[partS (x.norm.b.map (·.1)) 0,partS (x.norm.a.map (·.1)) 1].map (den (shD (x.norm.rv.se "T") σ (shS sc (x.norm.rv.se "T") λZ=>[0]) λZ=>[]))=[partV x.b,partV x.a]:=λσ=>by
  obtain⟨b,a,ba⟩:=x;refine VW ?_ (VW ?_ rfl)
  · cases b with
    |none=>rfl
    |some p=>exact NU _ 1
  · cases a with
    |none=>rfl
    |some p=>exact NU _ 4
 have c:=alT (alT (bd_run sc) _ (one_mem x.b)) _ (one_mem x.a)
 cases e:(((x.b.map λp=>(true,p.2)).map (·.1)).isNone&&((x.a.map λp=>(true,p.2)).map (·.1)).isNone) with
 |true=>
  rw[e] at c;refine⟨[],.inl ⟨rfl,?_⟩,λσ k h h0=>?_⟩
  · obtain⟨b,a,ba⟩:=x
    cases b<;>cases a<;>first|rfl|exact nos e|exact nof e|cases e
  · have z:=goH O h h0 (chk_is c) k
    exact Eq.trans (congrArg (λl=>callN (pk0 sc) (k+60) (.glob (.ref 740)) l σ) (hv σ).symm) z
 |false=>
  rw[e] at c;refine xe12 (shown O X hv c) λL h1 h2=>?_
  refine⟨L,.inr ?_,h2⟩;have et:lxL false (x.norm.rv.se "T") (bndG ((x.b.map λp=>(true,p.2)).map (·.1)) ((x.a.map λp=>(true,p.2)).map (·.1)) true)=x.norm.toks:=qj x.norm "T"
  rw[et] at h1;exact h1
theorem bdL_is (sc:ScT){x:Bnd}(h:x.Is):BdP sc x (bdL sc x):=by unfold bdL;rw[dif_pos (bd_ex sc h)];exact Classical.choose_spec _
section
variable {sc:ScT}{V:Rv}(ok:V.Ok){w:Nat->List Nat}(hw:∀ j,w j≠[]∧(w j).length≤1000)
include ok
theorem shE_b (i:Nat):BdP sc (V.bn i) (shE sc V (2 * i)):=by
 unfold shE
 rw[if_pos m20,show 2 * i / 2=i from d20]
 exact bdL_is sc (ok.bn i)
theorem shE_sp (i:Nat):shE sc V (2 * i+1)=spL (shE sc V (2 * i)):=by
 unfold shE
 rw[if_neg n21,if_pos m20,show (2 * i+1) / 2=i from d21,show 2 * i / 2=i from d20]
theorem shE_len (i:Nat):(shE sc V i).length≤100:=by
 have key:∀ i,(bdL sc (V.bn i)).length≤99:=λi=>(bdL_is sc (ok.bn i)).1.elim (λh=>by rw[h.1];exact Q4 _) λh=>h.len
 unfold shE
 by_cases e:i % 2=0
 · rw[if_pos e];exact MW (key _)
 · rw[if_neg e]
   by_cases e:bdL sc (V.bn (i / 2))=[]
   · rw[spL_nil e];exact Q4 _
   · rw[spL_ne e];exact Nat.succ_le_succ (key _)
include hw
theorem h2_ok {lv:Nat}(tal:3≤lv->TaP sc V.tr (shS sc V w 2))(rep:3≤lv->ReP sc V.er (shS sc V w 5)):HOk sc V lv (shS sc V w) (shE sc V) where
 it _ i:=shS_it ok i
 tx _ i:=shS_tx ok i
 w:=shS_w ok hw
 sp:=shE_sp ok
 eb:=shE_len ok
 bd _ i:=shE_b ok i
 tal:=tal
 rep:=rep
end
theorem Rw {rs:List Trow}{t:Tk}(i:Nat):((rowsV (rs.map Trow.norm) t).it i).toks=((rowsV rs t).it i).toks∧((rowsV (rs.map Trow.norm) t).tx i).toks=((rowsV rs t).tx i).toks∧(rowsV (rs.map Trow.norm) t).bn i=((rowsV rs t).bn i).norm:=by
 show (Itm.toks (((rs.map Trow.norm)[i]?.map _).getD _)=Itm.toks ((rs[i]?.map _).getD _))∧(Tx.toks (((rs.map Trow.norm)[i]?.map _).getD _)=Tx.toks ((rs[i]?.map _).getD _))∧((rs.map Trow.norm)[i]?.map _).getD _=Bnd.norm ((rs[i]?.map _).getD _)
 rw[Q2]
 cases rs[i]? <;> exact⟨rfl,rfl,rfl⟩
theorem exs_norm {rs:List Rrow}{t:Tk}(i:Nat):((exsV (rs.map Rrow.norm) t).tx i).toks=((exsV rs t).tx i).toks∧(exsV (rs.map Rrow.norm) t).bn i=((exsV rs t).bn i).norm:=by
 show (Tx.toks (((rs.map Rrow.norm)[i / 2]?.map _).getD _)=Tx.toks ((rs[i / 2]?.map _).getD _))∧((rs.map Rrow.norm)[i]?.map _).getD _=Bnd.norm ((rs[i]?.map _).getD _)
 rw[Q2,Q2]
 constructor
 · cases rs[i / 2]? <;> rfl
 · cases rs[i]? <;> rfl
abbrev lEnd:Tk:=wtk "END-IF"
theorem lEnd_in:lEnd∈lastL:=.tail _ (.head _)
theorem norm_shp (rs:List Trow):(rs.map Trow.norm).map Trow.shp=rs.map Trow.shp:=by rw[VZ];rfl
theorem normE_shp (rs:List Rrow):(rs.map Rrow.norm).map Rrow.shp=rs.map Rrow.shp:=by rw[VZ];rfl
theorem shp_mem {rs:List Trow}(h:RowsIs rs):rs.map Trow.shp∈upTo tKs 3:=MN (λe=>h.ne (Vw.mp e)) (by rw[QH];exact h.le) λp hp=>by
 obtain⟨r,_,rfl⟩:=Jz.mp hp
 unfold Trow.shp
 cases r.k<;>first|exact .head _|exact .tail _ (.head _)|exact .tail _ (.tail _ (.head _))
theorem shpE_mem {rs:List Rrow}(h:ExsIs rs):rs.map Rrow.shp∈upTo eKs 2:=MN (λe=>h.ne (Vw.mp e)) (by rw[QH];exact h.le) λp hp=>by
 obtain⟨r,_,rfl⟩:=Jz.mp hp
 unfold Rrow.shp
 cases r.k<;>first|exact .head _|exact .tail _ (.head _)|exact .tail _ (.tail _ (.head _))|exact .tail _ (.tail _ (.tail _ (.head _)))
theorem ta_ex (sc:ScT){rs:List Trow}(h:RowsIs rs):∃ L,TaP sc rs L:=by
 have ok:=rowsV_ok h.is lEnd_in
 have O:=h2_ok (sc:=sc) ok w0 (lv:=2) (λh=>absurd h (by decide)) (λh=>absurd h (by decide))
 have X:LexOk (shD (rowsV rs lEnd) [] (shS sc (rowsV rs lEnd) λZ=>[0]) (shE sc (rowsV rs lEnd))) (rowsV (rs.map Trow.norm) lEnd) false:=lexOk O (by decide) (λi=>(Rw i).1) (λi=>(Rw i).2.1) (λi=>by rw[(Rw i).2.2];exact(O.bd (QN 2) i).1) λh=>nof h
 refine xe12 (shown O X (l:=[.tup (tallS 0 (rs.map Trow.shp))]) (lA:=[.tup (rs.map Trow.val)]) (λσ=>VW (congrArg AV.tup (L9 Wq rs [] rfl)) rfl) (alT (talH_run sc) _ (shp_mem h))) λL h1 h2=>?_
 refine⟨L,?_,h2⟩
 have et:lxL false (rowsV (rs.map Trow.norm) lEnd) (wsg "TALLYING"::tallG 0 (rs.map Trow.shp))=wtk "TALLYING"::rowsT (rs.map Trow.norm):=by
  rw[← norm_shp];exact congrArg (_::·) (W2 (rs:=rs.map Trow.norm) (t:=lEnd) _ [] rfl)
 rw[et] at h1
 exact h1
theorem re_ex (sc:ScT){rs:List Rrow}(h:ExsIs rs):∃ L,ReP sc rs L:=by
 have ok:=exsV_ok h.is lEnd_in
 have O:=h2_ok (sc:=sc) ok w0 (lv:=2) (λh=>absurd h (by decide)) (λh=>absurd h (by decide))
 have X:LexOk (shD (exsV rs lEnd) [] (shS sc (exsV rs lEnd) λZ=>[0]) (shE sc (exsV rs lEnd))) (exsV (rs.map Rrow.norm) lEnd) false:=lexOk O (by decide) (λi=>rfl) (λi=>(exs_norm i).1) (λi=>by rw[(exs_norm i).2];exact(O.bd (QN 2) i).1) λh=>nof h
 refine xe12 (shown O X (l:=[.tup (exS 0 (rs.map Rrow.shp))]) (lA:=[.tup (rs.map Rrow.val)]) (λσ=>VW (congrArg AV.tup (ex_vals Wq rs [] rfl)) rfl) (alT (repH_run sc) _ (shpE_mem h))) λL h1 h2=>?_
 refine⟨L,?_,h2⟩
 have et:lxL false (exsV (rs.map Rrow.norm) lEnd) (wsg "REPLACING"::exG 0 (rs.map Rrow.shp))=wtk "REPLACING"::exT (rs.map Rrow.norm):=by
  rw[← normE_shp];exact congrArg (_::·) (LH (rs:=rs.map Rrow.norm) (t:=lEnd) _ [] rfl)
 rw[et] at h1
 exact h1
noncomputable def Stm.norm:Stm->Stm
 | .both x rs es=>.both x (rs.map Trow.norm) (es.map Rrow.norm)
 | .tally x rs=>.tally x (rs.map Trow.norm)
 | .repl x es=>.repl x (es.map Rrow.norm)
theorem show_ok (sc:ScT){s:Stm}(h:s.Is):∃ L,TxtP L s.norm.toks 900 5000∧Gives sc 794 100 [s.val,.none] L:=by
 have ok:=Stm.rv_ok h
 refine xe12 (ta_ex sc ok.tr) λL2 t1 t2=>?_
 refine xe12 (re_ex sc ok.er) λL5 r1 r2=>?_
 have O:HOk sc s.rv 3 (shS sc s.rv λj=>if j=2 then L2 else L5) (shE sc s.rv):=h2_ok ok (λj=>by
  by_cases e:j=2
  · rw[if_pos e];exact⟨t1.ne,t1.len⟩
  · rw[if_neg e];exact⟨r1.ne,r1.len⟩) (λZ=>⟨t1,t2⟩) λZ=>⟨r1,r2⟩
 have X:LexOk (shD s.rv [] (shS sc s.rv λj=>if j=2 then L2 else L5) (shE sc s.rv)) s.norm.rv true:=by
  have e1:∀ i,(s.norm.rv.it i).toks=(s.rv.it i).toks:=λi=>by cases s<;>rfl
  have e2:∀ i,(s.norm.rv.tx i).toks=(s.rv.tx i).toks:=λi=>by cases s<;>rfl
  have e3:∀ i,s.norm.rv.bn i=(s.rv.bn i).norm:=λi=>by cases s<;>rfl
  have e4:wtk "TALLYING"::rowsT s.norm.rv.tr=wtk "TALLYING"::rowsT (s.rv.tr.map Trow.norm):=by cases s<;>rfl
  have e5:wtk "REPLACING"::exT s.norm.rv.er=wtk "REPLACING"::exT (s.rv.er.map Rrow.norm):=by cases s<;>rfl
  refine lexOk O (by decide) e1 e2 (λi=>by rw[e3];exact(O.bd (by decide) i).1) λZ=>⟨by rw[e4];exact t1.tp,λj h2 hn=>?_⟩
  rw[e5];have ew:shS sc s.rv (λj=>if j=2 then L2 else L5) j=L5:=by
   unfold shS;rw[if_neg (nm h2 rfl),if_neg (nm h2 rfl)]
   exact if_neg hn
  rw[ew];exact r1.tp
 have ek:s.kind∈[Sk.both,.tally,.repl]:=by cases s<;>first|exact .head _|exact .tail _ (.head _)|exact .tail _ (.tail _ (.head _))
 refine xe12 (shown O X (l:=[stmS s.kind,.none]) (lA:=[s.val,.none]) (λσ=>VW (P3 s Wq 0) rfl) (alT (stm_run sc) _ ek)) λL h1 h2=>?_
 refine⟨L,?_,h2⟩
 have et:lxL true s.norm.rv (stmH s.kind)=s.norm.toks:=by
  cases s with
  |both x rs es=>
   show wtk "INSPECT"::(x.toks++((wtk "TALLYING"::rowsT _)++((wtk "REPLACING"::exT _)++[])))=_
   rw[QX];rfl
  |tally x rs=>
   show wtk "INSPECT"::(x.toks++((wtk "TALLYING"::rowsT _)++[]))=_
   rw[QX];rfl
  |repl x es=>
   show wtk "INSPECT"::(x.toks++((wtk "REPLACING"::exT _)++[]))=_
   rw[QX];rfl
 rw[et] at h1
 exact h1
end
section
open PySem.SeqAt
open Rdr
section
variable {p:Pk}{σ l:Store}{es:List (Str×AV)}{C:Addr}{x:Str}{b:AV}
theorem H7 (h:(p.set C x&&decide (es.length<900))=true):setP p (.ref (σ.length+1)) x b (σ++.dict es::.inst C σ.length::l)=some (σ++.dict (putS x b es)::.inst C σ.length::l):=by
 refine onIs (d:=σ.length) (C:=C) (VN (i:=1)) (onDs (es:=es) (by rw[← V3 σ.length,VN];rfl) ((if_pos h).trans ?_))
 rw[UQ _ _ (QN _),UH]
 rfl
variable {e:Pc}{en:En}{σ₁ σ₂ σC:Store}{o y:X}{a v:AV}
end
theorem gcK2 {σ:Store}{a b:AO}{l:Store}:gc σ.length (some (.ref (σ.length+1),σ++a::b::l))=some (.ref (σ.length+1),σ++a::b::l):=by
 have c1:clA σ.length (.ref (σ.length+1))=false:=decide_eq_false (Nat.not_lt_of_le (HK _))
 have c2:clA (σ.length+1) (.ref (σ.length+1))=false:=decide_eq_false (J4 _)
 show some (if gc1 σ.length _=true then _ else if gc1 (σ.length+1) _=true then _ else _)=_
 unfold gc1
 rw[show clA σ.length _=false from c1,show clA (σ.length+1) _=false from c2]
 rfl
theorem c_Token (sc:ScT)(n:Nat)(l:List AV)(σ:Store):callN (pk0 sc) (n+1) (.glob (.ref 164)) l σ=gc σ.length (on2 (runE e_Token_init (evS (pc sc n) b_Token_init) (.ref (σ.length+1)::l) (σ++[.dict [],.inst 164 σ.length])) λr σ'=>onNT r (some (.ref (σ.length+1),σ')) none):=rfl
theorem c_Reader (sc:ScT)(n:Nat)(l:List AV)(σ:Store):callN (pk0 sc) (n+1) (.glob (.ref 664)) l σ=gc σ.length (on2 (runE e_Reader_init (evS (pc sc n) b_Reader_init) (.ref (σ.length+1)::l) (σ++[.dict [],.inst 664 σ.length])) λr σ'=>onNT r (some (.ref (σ.length+1),σ')) none):=rfl
section
variable (sc:ScT){σ:Store}{k:Nat}
theorem token_ok {kd w:Str}{j:Nat}:callN (pk0 sc) (k+1) (.glob (.ref 164)) [.str kd,.str w,.tup [.int ((j:Int)+1),.int 12]] σ=some (.ref (σ.length+1),σ++[.dict (tokD j kd w),.inst 164 σ.length]):=by
 have run:runE e_Token_init (evS (pc sc k) b_Token_init) [.ref (σ.length+1),.str kd,.str w,.tup [.int ((j:Int)+1),.int 12]] (σ++[.dict [],.inst 164 σ.length])=some (.none,σ++[.dict (tokD j kd w),.inst 164 σ.length]):=by
  unfold runE runB;rw[if_pos ⟨leB rfl,leB rfl⟩]
  exact on3s (zSeq (Hq rfl rfl (H7 (l:=[]) rfl)) (zSeq (Hq rfl rfl (H7 (l:=[]) rfl)) (zSeq (Hq rfl rfl (H7 (l:=[]) rfl)) (zSeq (Hq rfl rfl (H7 (l:=[]) rfl)) rfl)))) rfl
 rw[c_Token,run]
 exact gcK2
theorem reader_ok {t:Nat}:callN (pk0 sc) (k+1) (.glob (.ref 664)) [.ref t] σ=some (.ref (σ.length+1),σ++[.dict [("tokens",.ref t),("at",.int 0),("named",.ref (σ.length+2)),("shared",.ref (σ.length+3))],.inst 664 σ.length,.dict [],.dict []]):=by
 have d0:∀ (es:List (Str×AV)) (l:Store) (en:En),ev (pc sc k) .dict0 en (σ++.dict es::.inst 664 σ.length::l)=some (.ref (σ.length+(l.length+2)),σ++.dict es::.inst 664 σ.length::(l++[.dict []])):=λes l en=>by
  show some (AV.ref (σ++.dict es::.inst 664 σ.length::l).length,(σ++.dict es::.inst 664 σ.length::l)++[AO.dict []])=_;rw[QV,QW];rfl
 have run:runE e_Reader_init (evS (pc sc k) b_Reader_init) [.ref (σ.length+1),.ref t] (σ++[.dict [],.inst 664 σ.length])=some (.none,σ++[.dict [("tokens",.ref t),("at",.int 0),("named",.ref (σ.length+2)),("shared",.ref (σ.length+3))],.inst 664 σ.length,.dict [],.dict []]):=by
  unfold runE runB;rw[if_pos ⟨leB rfl,leB rfl⟩]
  exact on3s (zSeq (Hq rfl rfl (H7 (l:=[]) rfl)) (zSeq (Hq rfl rfl (H7 (l:=[]) rfl)) (zSeq (Hq (d0 _ [] _) rfl (H7 (l:=[.dict []]) rfl)) (zSeq (Hq (d0 _ [.dict []] _) rfl (H7 (l:=[.dict [],.dict []]) rfl)) rfl)))) rfl
 rw[c_Reader,run]
 exact gcK2
end
noncomputable def tkR:Nat->List Tk->List AV
 |_,[]=>[]
 |N,_::l=>.ref (N+1)::tkR (N+2) l
noncomputable def tkO:Nat->Nat->List Tk->Store
 |_,_,[]=>[]
 |N,j,t::l=>.dict (tokD j t.1 t.2)::.inst 164 N::tkO (N+2) (j+1) l
theorem tkR_len:∀ (N:Nat) (l:List Tk),(tkR N l).length=l.length
 |_,[]=>rfl
 |N,_::l=>congrArg (· + 1) (tkR_len (N+2) l)
theorem K9:∀ (N j:Nat) (l:List Tk),(tkO N j l).length=2 * l.length
 |_,_,[]=>rfl
 |N,j,_::l=>congrArg (· + 2) (K9 (N+2) (j+1) l)
theorem tk_get:∀ (N j:Nat) (l:List Tk) (i:Nat) (t:Tk),l[i]? = some t->(tkR N l)[i]? = some (.ref (N+2 * i+1))∧(tkO N j l)[2 * i]? = some (.dict (tokD (j+i) t.1 t.2))∧(tkO N j l)[2 * i+1]? = some (.inst 164 (N+2 * i))
 |N,j,a::l,0,t,h=>by
  have h:some a=some t:=h;cases h
  exact⟨rfl,rfl,rfl⟩
 |N,j,a::l,i+1,t,h=>by
  refine xe03 (tk_get (N+2) (j+1) l i t h) λh1 h2 h3=>?_
  rw[show N+2 * (i+1)=N+2+2 * i from ar35,show j+(i+1)=j+1+i from ar36,show 2 * (i+1)=2 * i+1+1 from rfl];exact⟨h1,h2,h3⟩
theorem tkR_cl:∀ (N M:Nat) (l:List Tk),N+2 * l.length≤M->clL M (tkR N l)=true
 |_,_,[],_=>rfl
 |N,M,_::l,h=>by
  rw[Qw] at h;exact Jj (decide_eq_true (QJ (VK (G4 2 _) _) h)) (tkR_cl (N+2) M l (ar34 h))
theorem tkO_cl:∀ (N j M:Nat) (l:List Tk),N+2 * l.length≤M->clS M (tkO N j l)=true
 |_,_,_,[],_=>rfl
 |N,j,M,_::l,h=>by
  rw[Qw] at h;exact anI ⟨rfl,anI ⟨decide_eq_true (ltL (WQ (Qq _)) h),tkO_cl (N+2) (j+1) M l (ar34 h)⟩⟩
section
variable (sc:ScT){σ:Store}{k n:Nat}
theorem toks_ok {p:Nat}{row:List Tk}(hp:σ[p]? = some (.list (row.map tkV))):∀ (l:List Tk) (j:Nat) (hd:row.drop j=l) {hs:List AV} {g:Store} (hl:hs.length+l.length≤1000000),
  toksM (callN (pk0 sc) (k+1)) 164 12 p σ.length (l.length+1) j (σ++.list hs::g)=some (σ++.list (hs++tkR (σ.length+(g.length+1)) l)::(g++tkO (σ.length+(g.length+1)) j l))
 | [],j,hd,hs,g,hl=>by
  have hj:row[j]? = none:=by rw[← UZ,hd];rfl
  refine onNn (onLs (U9 hp) (by rw[Q2,hj];rfl)) ?_;rw[show tkR (σ.length+(g.length+1)) []=[] from rfl,show tkO (σ.length+(g.length+1)) j []=[] from rfl,QX,QX]
 |t::l,j,hd,hs,g,hl=>by
  have hj:row[j]? = some t:=by rw[← UZ,hd];rfl
  have hd' : row.drop (j+1)=l:=by rw[← RW,hd];rfl
  have q:=token_ok sc (σ:=σ++.list hs::g) (k:=k) (kd:=t.1) (w:=t.2) (j:=j);have hl:hs.length+(l.length+1)≤1000000:=hl
  have ih:=toks_ok hp l (j+1) hd' (hs:=hs++[.ref (σ.length+(g.length+1)+1)]) (g:=g++[.dict (tokD j t.1 t.2),.inst 164 (σ.length+(g.length+1))]) (by rw[QV];show hs.length+1+_≤_;exact ar2 hl);rw[QV,QW] at q
  rw[QV] at ih;refine onNv (a:=tkV t) (onLs (U9 hp) (by rw[Q2,hj];rfl)) (on2s q (on2s (a:=.none) (b:=σ++.list (hs++[.ref (σ.length+(g.length+1)+1)])::(g++[.dict (tokD j t.1 t.2),.inst 164 (σ.length+(g.length+1))])) ?_ (ih.trans ?_)))
  · refine onLs (l:=hs) (by rw[← V3 σ.length,VN];rfl) ((if_pos (ar3 hl)).trans ?_)
    rw[UQ _ _ (QN _),UH];rfl
  · rw[QW,QW];rfl
end
end
section
open PySem.SeqAt
open Rdr
noncomputable def mkR (T:Nat) (row:List Tk):Rdr:=⟨T+2 * row.length+2,T+2 * row.length+1,T,T+2 * row.length+3,T+2 * row.length+4,tkR (T+1) row,row⟩
noncomputable def mkE (T:Nat) (row:List Tk):Store:=[.dict ((mkR T row).rows 0),.inst 664 (T+2 * row.length+1),.dict [],.dict []]
def mkS (T:Nat)(row:List Tk):Store:=.list (tkR (T+1) row)::(tkO (T+1) 0 row++mkE T row)
theorem LK (T:Nat)(row:List Tk):(mkS T row).length=2 * row.length+5:=by
 show (tkO (T+1) 0 row++mkE T row).length+1=_
 rw[QV,K9];rfl
section
variable {σ:Store}{row:List Tk}
theorem mkS_end (i:Nat):(σ++mkS σ.length row)[σ.length+(2 * row.length+1+i)]? = (mkE σ.length row)[i]? := by
 rw[VN,show 2 * row.length+1+i=2 * row.length+i+1 from ar37]
 show (tkO (σ.length+1) 0 row++mkE σ.length row)[2 * row.length+i]? = _
 rw[← K9 (σ.length+1) 0 row,VN]
theorem mkS_tok {i:Nat}{o:AO}(h:(tkO (σ.length+1) 0 row)[i]? = some o):(σ++mkS σ.length row)[σ.length+(i+1)]? = some o:=VN.trans (U9 h)
theorem mk_ok (h:Cl σ)(hl:row.length≤1000000):(mkR σ.length row).Ok (σ++mkS σ.length row) where
 cl:=by
  refine h.app ?_;rw[LK]
  refine anI ⟨tkR_cl _ _ _ ar38,(G2 ..).trans (anI ⟨tkO_cl _ _ _ _ ar38,?_⟩)⟩;have lt:∀ j,j≤2 * row.length+4->decide (σ.length+j<σ.length+(2 * row.length+5))=true:=λj hj=>decide_eq_true (Nat.add_lt_add_left (MK hj) _)
  refine anI ⟨anI ⟨decide_eq_true (show σ.length<_ from WQ (Qq _)),anI ⟨rfl,anI ⟨decide_eq_true (show σ.length+2 * row.length+3<_ from HK _),anI ⟨decide_eq_true (show σ.length+2 * row.length+4<_ from QN _),rfl⟩⟩⟩⟩,anI ⟨decide_eq_true (adC 2 5 rfl),rfl⟩⟩
 hr:=by
  show (σ++mkS σ.length row)[σ.length+2 * row.length+2]? = _;rw[show σ.length+2 * row.length+2=σ.length+(2 * row.length+1+1) from rfl,mkS_end];rfl
 rd:=λe=>by have e:σ.length+2 * row.length+2=σ.length+2 * row.length+1:=e;exact Nat.succ_ne_self _ e
 td:=λe=>by have e:σ.length=σ.length+2 * row.length+1:=e;exact VV (MK (QG ..)) e
 dl:=by rw[QV,LK];show σ.length+2 * row.length+1<_;exact adC 2 5 rfl
 nml:=by rw[QV,LK];show σ.length+2 * row.length+3<_;exact HK _
 shl:=by rw[QV,LK];show σ.length+2 * row.length+4<_;exact QN _
 ht:=VN (i:=0)
 len:=tkR_len _ _
 big:=hl
 tok:=λi kd w e=>by
  refine xe03 (tk_get (σ.length+1) 0 row i (kd,w) e) λh1 h2 h3=>?_
  rw[G8] at h2;have hi:i<row.length:=(QQ.mp e).1
  refine⟨σ.length+1+2 * i+1,σ.length+1+2 * i,h1,?_,?_,λe=>?_,λe=>?_⟩
  · rw[show σ.length+1+2 * i+1=σ.length+(2 * i+1+1) from congrArg (· + 1) (UN ..),mkS_tok h3]
  · rw[show σ.length+1+2 * i=σ.length+(2 * i+1) from ar37,mkS_tok h2]
  · have e:σ.length+1+2 * i+1=σ.length+2 * row.length+1:=e;omega
  · have e:σ.length+1+2 * i=σ.length+2 * row.length+1:=e;omega
theorem mk_at:(mkR σ.length row).at (σ++mkS σ.length row) 0=σ++mkS σ.length row:=by
 have g:(σ++mkS σ.length row)[(mkR σ.length row).d]? = some (.dict ((mkR σ.length row).rows 0)):=by
  show (σ++mkS σ.length row)[σ.length+2 * row.length+1]? = _;rw[show σ.length+2 * row.length+1=σ.length+(2 * row.length+1+0) from rfl,mkS_end];rfl
 unfold Rdr.at
 obtain⟨hi,e⟩:=QQ.mp g
 rw[← e]
 exact GX hi
end
noncomputable def setX:Y->X
 | .set _ x=>x
 |_=>.nil
def rdRow:X:=setX (nthY 0 b_L_read)
def wordOk (x:List Nat):Bool:=(Pt x).all (allP.contains ·)&&JQ (Pt x).length 100&&JQ x.length 1000
def natW (m:Nat)(a:Addr)(l:List SV)(st:Ss):Sr:=dep a 822 2 m (uL1 l λv=>on1 (asCon v) λx=>if wordOk x then some (newL ((WL x).map tkSV) st) else none)
def nvW (p:Pk)(c:Nat->Option (List SV)):Nv:={ nvC p λn g l st=>match g with
 | .glob (.ref a)=>if st.2.all (clW st.2.length) then natW n a l st else none
 |_=>none with cell:=c }
def stK (σ:Store)(l:Nat->List AV)(k:Nat->Nat)(v:Nat->AV):Dn:={ stD σ v (λZ=>[]) (λZ=>[0]) (λZ=>[]) l with k:=k }
theorem GK {D:Dn}:∀ l:List Tk,denC D (l.map tkSV)=l.map tkV
 | []=>rfl
 |_::l=>congr (congrArg V5 (congrArg AV.tup (congr (congrArg V5 (JM _)) (congrArg (·::[]) (JM _))))) (GK l)
section
variable {σ:Store}{ls:Nat->List AV}{k:Nat->Nat}{v:Nat->AV}{c:Nat->Option (List SV)}
theorem stK_ok {p:Pk}(h:Cl σ)(h0:0<σ.length)(hl:∀ i,clL σ.length (ls i)=true∧(ls i).length≤1000)(hk:∀ i,k i<σ.length)(hv:∀ i,clA σ.length (v i)=true)(hc:∀ i x,c i=some x->σ[k i]? = some (.list (denC (stK σ ls k v) x))):DnOk (stK σ ls k v) (nvW p c) where
 len _:=rfl
 cl _:=h
 v:=hv
 t _:=rfl
 tk _:=rfl
 tkn _:=rfl
 l i:=(hl i).1
 ll i:=(hl i).2
 r:=h0
 k:=hk
 s:=ne0
 e _:=Q4 _
 attr _ _ _ _ q:=nos q
 set _ _ _ _ _ q:=nos q
 get _ _ q:=nos q
 padd _ _ _ q:=nos q
 cell i x q _:=hc i x q
theorem cl_st {D:Dn}{nv:Nv}(H:DnOk D nv){st:Ss}(hc:st.2.all (clW st.2.length)=true):Cl (denS D st):=by
 show clS (denS _ st).length (D.B _++_)=true
 rw[lenS H]
 refine(G2 ..).trans (anI ⟨R7 (QG _ _) _ (H.cl _),?_⟩)
 generalize st.2.length=m at hc ⊢
 generalize st.2=L at hc
 induction L with
 |nil=>rfl
 |cons a L ih=>exact anI ⟨(R8 H m a).trans (and2 hc).1,ih (and2 hc).2⟩
theorem natW_is {sc:ScT}{D:Dn}{nv:Nv}(H:DnOk D nv)(h0:0<D.N){K m:Nat}{a:Addr}{l:List SV}{st st' : Ss}{r:SV}(e:(if st.2.all (clW st.2.length) then natW m a l st else none)=some (r,st')) :
  callN (pk0 sc) (K+m+1) (.glob (.ref a)) (l.map (den D)) (denS D st)=some (den D r,denS D st'):=by
 refine oi e λhc e=>UU (P:=λk' a=>callN (pk0 sc) k' (.glob (.ref a)) (l.map (den D)) (denS D st)=some (den D r,denS D st')) e λk' e=>uE1 e λw e=>om1 e λx hx e=>oi e λhw e=>?_
 have hw:=and3 hw
 have hC:Cl (denS D st):=cl_st H hc
 have h1:0<(denS D st).length:=by rw[lenS H];exact ltL h0 (QG _ _)
 have z:=words_ok sc (k:=k') hC h1 (l:=x) ⟨leB hw.2.1,λp hp=>ciM (alT hw.1 p hp),rfl⟩ (by decide) (QJ (leB hw.2.2) (by decide))
 refine oe2 (e:some ((newL ((WL x).map tkSV) st).1,(newL ((WL x).map tkSV) st).2)=_) (eCon (G:=λw=>callN (pk0 sc) (k' + 2) (.glob (.ref 822)) [w] _=_) hx (z.trans ?_))
 rw[← GK (D:=D)]
 exact Wj H _ st
theorem seK {sc:ScT}(H:DnOk (stK σ ls k v) (nvW (pk0 sc) c))(h:Cl σ)(h0:0<σ.length)(K d:Nat):SeOk (stK σ ls k v) ⟨nvW (pk0 sc) c,callS (nvW (pk0 sc) c) d⟩ (pc sc (K+d)):=by
 refine⟨H,rfl,leB rfl,H8 (K:=K) H (leB rfl) (λm g l st r st' e=>?_) d⟩
 cases g with
 |glob g=>cases g with
  |ref a=>exact natW_is H h0 e
  |_=>exact nos e
 |_=>exact nos e
end
end
section
open PySem.SeqAt
open Rdr
section
variable {e:Pc}{en:En}{σ σ₁ σ₂:Store}{x y t a b:X}{v g:AV}{as:List AV}{q:Option (AV×Store)}{c:Bool}
end
noncomputable abbrev cK:Nat->Option (List SV):=λi=>if i=0 then some [.sp 0] else none
def rowS (m:Nat):List SV:=QK m (tkSV (wtk "IF"))++.sp 0::(QK m (tkSV (wtk "END-IF"))++[tkSV dotTk])
def chkRow (r:Sr)(L:List SV):Bool:=okO r λx=>okO (asRef x.1) λj=>(j==7&&x.2.1==0&&x.2.2.length==8)&&(x.2.2.all (clW 8)&&okO x.2.2[7]? λl=>eqW l L)
theorem chkRow_is {r:Sr}{L:List SV}(h:chkRow r L=true):∃ n,r=some (.ref 7,0,n)∧n.length=8∧n.all (clW 8)=true∧n[7]? = some L:=
 okE h λx ex h=>okE h λj ej h=>okE (and2 (and2 h).2).2 λl el h3=>by
  obtain⟨v,q,n⟩:=x;have h1:=and3 (and2 h).1
  have ev:v = .ref 7:=eRef (G:=λa=>a = .ref 7) ej (by rw[eq_of_beq h1.1]);exact⟨n,ex.trans (congrArg some (Prod.ext ev (Prod.ext (eq_of_beq h1.2.1) rfl))),eq_of_beq h1.2.2,(and2 (and2 h).2).1,by rw[el,qZ h3]⟩
theorem row_run (sc:ScT):((Nx 14).all λm=>chkRow (sX ⟨nvW (pk0 sc) cK,callS (nvW (pk0 sc) cK) 2⟩ rdRow ⟨[some (.kn 0),some (.int m),none,none,none,none,none],[]⟩ (0,[])) (rowS m))=true:=by kernel_rfl
noncomputable def forRB:Y->Y
 | .forR _ _ b=>b
 |_=>.nil
def rdB:Y:=forRB (nthY 3 b_L_read)
theorem rd_run (sc:ScT):chkN (sS ⟨nv0 (pk0 sc),callS (nv0 (pk0 sc)) 1⟩ rdB ⟨[some (.at 1),some (.at 2),some (.at 3),some (.at 4),some (.tup [liftStr "if",.tup [],.tup [.at 0],.tup []]),none,some (.at 5)],[]⟩ (0,[])) [some (.at 1),some (.at 2),some (.at 3),some (.at 4),some (.at 0),none,some (.at 5)] []=true:=by kernel_rfl
theorem nestV_cl {s:Stm}{m:Nat}:∀ i,clA m (nestV s i)=true
 |0=>Stm.cl
 |i+1=>Jj rfl (Jj rfl (Jj (Jj (nestV_cl i) rfl) (Jj rfl rfl)))
section
variable (sc:ScT){σ τ:Store}{k n i p m:Nat}{row ts:List Tk}
theorem row_is (h:Cl σ)(hi:σ[i]? = some (.list (ts.map tkV)))(hm:m≤13)(hl:ts.length≤1000):∃ g,g.length=8∧clS (σ.length+8) g=true∧g[7]? = some (.list ((rowOf m ts).map tkV)) ∧
  ev (pc sc (k+2)) rdRow ⟨[some (.ref i),some (.int m),none,none,none,none,none],[]⟩ σ=some (.ref (σ.length+7),σ++g):=by
 have li:i<σ.length:=(QQ.mp hi).1
 have h0:0<σ.length:=Q1 (Q4 _) li
 have H:DnOk (stK σ (λZ=>ts.map tkV) (λZ=>i) λZ=>.none) (nvW (pk0 sc) cK):=stK_ok h h0 (λZ=>⟨R6 _,by rw[QH];exact hl⟩) (λZ=>li) (λZ=>rfl) λj x e=>oi e λZ e=>oe e (hi.trans (congrArg (λl=>some (AO.list l)) (QX _).symm))
 refine xe14 (chkRow_is (alT (row_run sc) m (List.mem_range.mpr (MK hm)))) λg e1 e2 e3 e4=>?_
 have z:=(sX_is (seK H h h0 k 2) rdRow).m _ _ _ _ e1
 have z0:denS (stK σ (λZ=>ts.map tkV) (λZ=>i) λZ=>.none) (0,[])=σ:=QX _
 rw[z0] at z
 refine⟨g.map λl=>.list (denC (stK σ (λZ=>ts.map tkV) (λZ=>i) λZ=>.none) l),by rw[QH,e2],?_,?_,z⟩
 · generalize 8=m8 at e3
   generalize g=L at e3
   induction L with
   |nil=>rfl
   |cons a L ih=>exact anI ⟨(R8 H m8 a).trans (and2 e3).1,ih (and2 e3).2⟩
 · rw[Q2,e4]
   refine congrArg (λl=>some (AO.list l)) ?_;have er:∀ (t:Tk) (m:Nat),denC (stK σ (λZ=>ts.map tkV) (λZ=>i) λZ=>.none) (QK m (tkSV t))=QK m (tkV t):=λt m=>by
    rw[← U2,GK,U2]
   unfold rowS;rw[Ux,er,show ∀ l,denC (stK σ (λZ=>ts.map tkV) (λZ=>i) λZ=>.none) (.sp 0::l)=ts.map tkV++denC _ l from λZ=>rfl,Ux,er,Q5,Q5,Q5,U2,U2]
   exact congrArg (λz=>QK m (tkV (wtk "IF"))++(ts.map tkV++(QK m (tkV (wtk "END-IF"))++z))) (GK [dotTk])
theorem Kq (hp:σ[p]? = some (.list (row.map tkV)))(hl:row.length≤1000000){en:En}(he:ev (pc sc (k+1)) (.loc 2) en σ=some (.ref p,σ)) :
  ev (pc sc (k+1)) (.call (.val (.glob (.ref 664))) (.cons (.toks 164 12 (.loc 2)) .nil)) en σ=some (.ref (mkR σ.length row).r,σ++mkS σ.length row):=by
 have q:=toks_ok sc (k:=k) (σ:=σ) hp row 0 rfl (hs:=[]) (g:=[]) (by show 0+_≤_;exact ar6 hl)
 have q2:=reader_ok sc (σ:=σ++.list (tkR (σ.length+1) row)::tkO (σ.length+1) 0 row) (k:=k) (t:=σ.length)
 have eL:(σ++AO.list (tkR (σ.length+1) row)::tkO (σ.length+1) 0 row).length=σ.length+2 * row.length+1:=by
  rw[QV,Qw,K9];rfl
 rw[eL,QW] at q2
 exact Vj rfl (JG (zToks he hp (by rw[QH];exact q)) rfl) q2
theorem rd_step (h:Cl τ)(h0:0<τ.length){x1 x2 x3 x4 x5 w:AV}(c1:clL τ.length [x1,x2,x3,x4,x5,w]=true) :
  evS (pc sc (k+1)) rdB ⟨[some x1,some x2,some x3,some x4,some (.tup [.str "if",.tup [],.tup [w],.tup []]),none,some x5],[]⟩ τ=some (.next,⟨[some x1,some x2,some x3,some x4,some w,none,some x5],[]⟩,τ):=by
 have H:DnOk (stD τ (λi=>if i=0 then w else if i=1 then x1 else if i=2 then x2 else if i=3 then x3 else if i=4 then x4 else x5) (λZ=>[]) (λZ=>[0]) (λZ=>[]) λZ=>[]) (nv0 (pk0 sc)):=stD_ok h h0 (λi=>by
  have a:=and2 c1;have b:=and2 a.2
  have c:=and2 b.2;have d:=and2 c.2
  have f:=and2 d.2;have g:=and2 f.2
  by_cases e:i=0
  · rw[if_pos e];exact g.1
  · rw[if_neg e]
    by_cases e:i=1
    · rw[if_pos e];exact a.1
    · rw[if_neg e]
      by_cases e:i=2
      · rw[if_pos e];exact b.1
      · rw[if_neg e]
        by_cases e:i=3
        · rw[if_pos e];exact c.1
        · rw[if_neg e]
          by_cases e:i=4
          · rw[if_pos e];exact d.1
          · rw[if_neg e];exact f.1) (λZ=>rfl) ne0 (λZ=>Q4 _) λZ=>⟨rfl,Q4 _⟩
 have O:SeOk _ ⟨nv0 (pk0 sc),callS (nv0 (pk0 sc)) 1⟩ (pc sc (k+1)):=⟨H,rfl,leB rfl,H8 (K:=k) H (leB rfl) (λZ Z Z Z Z Z e=>nos e) 1⟩
 have z:=PH O rdB _ _ _ _ _ (RQ (rd_run sc))
 have z0:denS (stD τ (λi=>if i=0 then w else if i=1 then x1 else if i=2 then x2 else if i=3 then x3 else if i=4 then x4 else x5) (λZ=>[]) (λZ=>[0]) (λZ=>[]) λZ=>[]) (0,[])=τ:=QX _
 have e1:=JM (D:=stD τ (λi=>if i=0 then w else if i=1 then x1 else if i=2 then x2 else if i=3 then x3 else if i=4 then x4 else x5) (λZ=>[]) (λZ=>[0]) (λZ=>[]) λZ=>[]) "if"
 rw[z0] at z
 refine Eq.trans (congrArg (λy=>evS (pc sc (k+1)) rdB ⟨[some x1,some x2,some x3,some x4,some (.tup [y,.tup [],.tup [w],.tup []]),none,some x5],[]⟩ τ) e1.symm) z
theorem rd_loop (h:Cl τ)(h0:0<τ.length){s:Stm}{x1 x2 x3 x4:AV}(c1:clL τ.length [x1,x2,x3,x4]=true):∀ (d:Nat) (j:Nat) (hd:j+d=m) (x6:Option AV) (f:Nat) (hf:d<f),
  ∃ y6,forM (evA (pc sc (k+1)) (.name 6)) (evS (pc sc (k+1)) rdB) (.range m) f j ⟨[some x1,some x2,some x3,some x4,some (nestV s d),none,x6],[]⟩ τ=some (.next,⟨[some x1,some x2,some x3,some x4,some s.val,none,y6],[]⟩,τ)
 |d,j,hd,x6,0,hf=>absurd hf (G3 _)
 |0,j,hd,x6,f+1,hf=>⟨x6,onNn (if_neg (ar14 hd)) rfl⟩
 |d+1,j,hd,x6,f+1,hf=>by
  obtain⟨y6,q⟩:=rd_loop h h0 (s:=s) c1 d (j+1) (ar1 hd) (some (.int j)) f (V1 hf);have a:=and4 (show (clA τ.length x1&&clA τ.length x2&&clA τ.length x3&&clA τ.length x4)=true by
   have a:=and2 c1;have b:=and2 a.2
   have c:=and2 b.2;have d:=and2 c.2
   rw[a.1,b.1,c.1,d.1];rfl)
  have nx:nextF (.range m) j τ=some (some (.int j)):=by
   show (if (j:Int)<(m:Int) then some (some (AV.int j)) else some none)=_;exact if_pos (ar13 hd)
  exact⟨y6,Lk nx (en₁:=⟨[some x1,some x2,some x3,some x4,some (nestV s (d+1)),none,some (.int j)],[]⟩) (σ₁:=τ) rfl (rd_step sc h h0 (Jj a.1 (Jj a.2.1 (Jj a.2.2.1 (Jj a.2.2.2 (Jj rfl (Jj (nestV_cl d) rfl))))))) q⟩
noncomputable def rdLast:Y:=.cons (.ret (.ite (.cmp .Eq (.attr (.loc 3) "at") (.bin .Sub (.call (.val (.glob (.builtin "len"))) (.cons (.loc 2) .nil)) (.val (.int 1)))) (.loc 4) (.val .none))) .nil
theorem rd_eq:b_L_read = .cons (.set 2 rdRow) (.cons (.set 3 (.call (.val (.glob (.ref 664))) (.cons (.toks 164 12 (.loc 2)) .nil))) (.cons (.tryR (.cons (.set 4 (.call (.val (.glob (.ref 483))) (.cons (.loc 3) (.cons (.val (.int 0)) (.cons (.lam 2 []) .nil))))) .nil)) (.cons (.forR (.name 6) (.loc 1) rdB) rdLast))):=rfl
theorem Kz (h:Cl σ){s:Stm}(o:s.Is)(hi:σ[i]? = some (.list (s.toks.map tkV)))(hm:m≤12)(hl:s.toks.length≤1000) :
  callN (pk0 sc) (k+122) (.glob (.ref 876)) [.ref i,.int m] σ=some (s.val,σ):=by
 refine xe14 (row_is sc (k:=k+119) h hi (MW hm) hl) λg g1 g2 g3 r1=>?_
 have hrow:(rowOf m s.toks).length≤1000000:=by
  rw[QV,QV,QV,HQ,HQ];show m+(s.toks.length+(m+1))≤_
  exact ad2 hm (Q6 hl (JU hm 1)) rfl
 have h2:Cl (σ++g):=h.app (by rw[g1];exact g2)
 have hp:(σ++g)[σ.length+7]? = some (.list ((rowOf m s.toks).map tkV)):=VN.trans g3
 have r2:=Kq sc (k:=k+120) hp hrow (en:=⟨[some (.ref i),some (.int m),some (.ref (σ.length+7)),none,none,none,none],[]⟩) rfl
 have hR:=mk_ok h2 hrow
 have hA:=mk_at (σ:=σ++g) (row:=rowOf m s.toks)
 have eL:(σ++g).length=σ.length+8:=by rw[QV,g1]
 have eN:(rowOf m s.toks).length=(QK m (wtk "IF")++(s.toks++QK m (wtk "END-IF"))).length+1:=by
  rw[QV,QV,QV,QV,QV];show _+(_+(_+1))=_
  exact rfl
 have hd2:σ.length+8≤(mkR (σ++g).length (rowOf m s.toks)).d:=by
  show _≤(σ++g).length+2 * (rowOf m s.toks).length+1;omega
 have a0:At (mkR (σ++g).length (rowOf m s.toks)) 0 (rowOf m s.toks):=⟨[],(QX _).symm⟩
 have r3:=nest_ok sc (k:=k+1) hR o hm a0
 rw[hA,G8] at r3
 generalize (QK m (wtk "IF")++(s.toks++QK m (wtk "END-IF"))).length=N at r3 eN
 have gr:=at_r (n:=N) hR
 have gd:=at_d (n:=N) hR
 have gp:((mkR (σ++g).length (rowOf m s.toks)).at ((σ++g)++mkS (σ++g).length (rowOf m s.toks)) N)[σ.length+7]? = some (.list ((rowOf m s.toks).map tkV)):=by
  rw[KJ (VV hd2)];exact U9 hp
 have hE:∃ l,(mkR (σ++g).length (rowOf m s.toks)).at ((σ++g)++mkS (σ++g).length (rowOf m s.toks)) N=σ++l:=by
  unfold Rdr.at;rw[QW,UQ _ _ (ar3 hd2)]
  exact⟨_,rfl⟩
 have cE:Cl ((mkR (σ++g).length (rowOf m s.toks)).at ((σ++g)++mkS (σ++g).length (rowOf m s.toks)) N):=by
  show clS (Rdr.at _ _ _).length _=true;rw[Vx];exact hR.clat
 have lE:((mkR (σ++g).length (rowOf m s.toks)).at ((σ++g)++mkS (σ++g).length (rowOf m s.toks)) N).length=_:=Vx
 have hr:=hR.rl
 generalize (mkR (σ++g).length (rowOf m s.toks))=R at *
 generalize (σ++g)++mkS (σ++g).length (rowOf m s.toks)=τ at *
 generalize R.at τ N=τE at *
 obtain⟨l,hl2⟩:=hE
 have l1:(rowOf m s.toks).length≤1000000:=hrow
 have hi2:i<σ.length:=(QQ.mp hi).1
 have hlt:σ.length+7<τE.length:=(QQ.mp gp).1
 have c1:clL τE.length [.ref i,.int m,.ref (σ.length+7),.ref R.r]=true:=Jj (decide_eq_true (G9 (ltL hi2 (QG ..)) hlt)) (Jj rfl (Jj (decide_eq_true hlt) (Jj (decide_eq_true (ar18 hr lE)) rfl)))
 obtain⟨y6,r4⟩:=rd_loop sc (k:=k+120) (m:=m) cE (Q1 (Q4 _) (ar18 hr lE)) (s:=s) c1 m 0 (G8 _) none 1000 (adL 1 hm rfl)
 have last:evS (pc sc (k+121)) rdLast ⟨[some (.ref i),some (.int m),some (.ref (σ.length+7)),some (.ref R.r),some s.val,none,y6],[]⟩ τE=some (.ret s.val,⟨[some (.ref i),some (.int m),some (.ref (σ.length+7)),some (.ref R.r),some s.val,none,y6],[]⟩,τE):=by
  refine zRet (zIteT (H6 (zCmp (W0 (v:=.ref R.r) (σ₁:=τE) (w:=.int N) rfl (onIs gr (onDs gd (on1s (a:=.int N) rfl rfl)))) (zBin (v:=.int (rowOf m s.toks).length) (w:=.int 1) (σ₁:=τE) (σ₂:=τE) (Vj (g:=.glob (.builtin "len")) (as:=[.ref (σ.length+7)]) (σ₁:=τE) (σ₂:=τE) rfl rfl ((c_len (n:=k+120)).trans ?_)) rfl rfl) (v:=.int N) (w:=.int ((rowOf m s.toks).length - 1)) rfl) ?_) rfl)
  · refine(congrArg (gc _) (on1s (onLs gp ((if_pos (by rw[QH];exact l1)).trans (by rw[QH]))) rfl)).trans (gcId (QN _))
  · refine congrArg some ?_
    rw[RG,beq_iff_eq,eN];omega
 have step:evS (pc sc (k+121)) b_L_read ⟨[some (.ref i),some (.int m),none,none,none,none,none],[]⟩ σ=some (.ret s.val,⟨[some (.ref i),some (.int m),some (.ref (σ.length+7)),some (.ref R.r),some s.val,none,y6],[]⟩,τE):=by
  rw[rd_eq];exact zSeq (zSet r1) (zSeq (zSet r2) (zSeq (zSeq (zSet (Vj rfl rfl r3)) rfl) (zSeq (zForR rfl ⟨by omega,ar23 hm rfl⟩ r4) last)))
 have run:runE e_L_read (evS (pc sc (k+121)) b_L_read) [.ref i,.int m] σ=some (s.val,σ++l):=by
  unfold runE runB;rw[if_pos ⟨leB rfl,leB rfl⟩,← hl2]
  exact on3s step rfl
 rw[c_L_read,run]
 exact gcS h rfl Stm.cl
end
end
section
open PySem.SeqAt
open Rdr
noncomputable def eqOk:Nat->AV->Bool
 |n+1,.tup l=>l.all (eqOk n)
 |_,.none=>true
 |_,.str _=>true
 |_,.byt _=>true
 |_,_=>false
theorem eqL_self {f:AV->AV->Option Bool}:∀ (l:List AV),(∀ a∈l,f a a=some true)->eqL f l l=some true
 | [],_=>rfl
 |a::l,h=>on1s (h a (.head _)) (on1s (eqL_self l λb hb=>h b (.tail _ hb)) rfl)
theorem eqN_self:∀ (n:Nat) (a:AV),eqOk n a=true->eqN n a a=some true
 |n+1,.tup l,h=>eqL_self l λb hb=>eqN_self n b (alT h b hb)
 |0,.tup _,h=>nof h
 |0,.none,_=>rfl
 |_+1,.none,_=>rfl
 |0,.str x,_=>congrArg some (beq_self_eq_true x)
 |_+1,.str x,_=>congrArg some (beq_self_eq_true x)
 |0,.byt x,_=>congrArg some (beq_self_eq_true x.toList)
 |_+1,.byt x,_=>congrArg some (beq_self_eq_true x.toList)
 |0,.bool _,h=>nof h
 |_+1,.bool _,h=>nof h
 |0,.int _,h=>nof h
 |_+1,.int _,h=>nof h
 |0,.ref _,h=>nof h
 |_+1,.ref _,h=>nof h
 |0,.glob _,h=>nof h
 |_+1,.glob _,h=>nof h
 |0,.clo _ _,h=>nof h
 |_+1,.clo _ _,h=>nof h
theorem UM {n:Nat}{a:AV}{l:List AV}(h:eqOk n a=true)(h' : l.all (eqOk n)=true):(a::l).all (eqOk n)=true:=anI ⟨h,h'⟩
theorem itm_e {n:Nat}{x:Itm}:eqOk (n+4) x.val=true:=by
 obtain⟨w,s⟩:=x
 cases s<;>rfl
theorem tx_e {n:Nat}{x:Tx}:eqOk (n+4) x.val=true:=by
 cases x<;>first|exact itm_e|rfl
theorem op_e {n:Nat}{x:Option Tx}:eqOk (n+4) (opAV x)=true:=by
 cases x<;>first|exact tx_e|rfl
theorem part_e {n:Nat}{x:Option (Bool×Tx)}:eqOk (n+4) (partV x)=true:=by
 cases x<;>first|exact tx_e|rfl
theorem Lz {α:Type}{f:α->AV}{n:Nat}(h:∀ x,eqOk n (f x)=true)(l:List α):(l.map f).all (eqOk n)=true:=by
 rw[List.all_map];exact List.all_eq_true.mpr λx Z=>h x
theorem stm_e {s:Stm}:eqOk 20 s.val=true:=by
 have r:∀ {n:Nat} (x:Trow),eqOk (n+5) x.val=true:=λx=>UM itm_e (UM rfl (UM op_e (UM part_e (UM part_e rfl))))
 have e:∀ {n:Nat} (x:Rrow),eqOk (n+5) x.val=true:=λx=>UM rfl (UM op_e (UM tx_e (UM part_e (UM part_e rfl))))
 cases s with
 |both x rs es=>exact UM rfl (UM itm_e (UM (Lz (n:=18) r rs) (UM (Lz (n:=18) e es) rfl)))
 |tally x rs=>exact UM rfl (UM itm_e (UM (Lz (n:=18) r rs) rfl))
 |repl x es=>exact UM rfl (UM itm_e (UM (Lz (n:=18) e es) rfl))
theorem stm_same {s:Stm}{b:Bool}{σ:Store}:eqF2 b s.val s.val σ=some (.bool (b ^^ true),σ):=by
 have e:eqAV s.val s.val σ=some true:=by
  have z:=eqN_self 20 s.val stm_e
  cases s<;>exact z
 exact on1s e rfl
theorem N5 (x:Itm):x.toks.length≤4:=by
 obtain⟨w,s⟩:=x
 cases s<;>exact leB rfl
theorem L4 (x:Tx):x.toks.length≤4:=by
 cases x<;>first|exact N5 _|exact leB rfl
theorem op_len (x:Option Tx):(opT x).length≤4:=by
 cases x<;>first|exact L4 _|exact Q4 _
theorem M9 (w:Str)(x:Option (Bool×Tx)):(bpart w x).length≤6:=by
 match x with
 |none=>exact Q4 _
 |some (i,x)=>
  have:=L4 x;show (ini i++x.toks).length+1≤6
  rw[QV];have:(ini i).length≤1:=by cases i<;>exact leB rfl
  omega
theorem bd_len (x:Bnd):x.toks.length≤12:=by
 obtain⟨b,a,ba⟩:=x
 have h1:=M9 "BEFORE" b
 have h2:=M9 "AFTER" a
 cases ba with
 |true=>show (bpart _ b++bpart _ a).length≤_;rw[QV];exact ad2 h1 h2 rfl
 |false=>show (bpart _ a++bpart _ b).length≤_;rw[QV];exact ad2 h2 h1 rfl
theorem L8 (r:Trow):r.toks.length≤22:=by
 have h1:=N5 r.c;have h2:=op_len r.k.op;have h3:=bd_len r.bd
 show (r.c.toks++(_::_::(opT r.k.op++r.bd.toks))).length≤_
 rw[QV,Qw,Qw,QV];exact ad2 h1 (JU (Q6 h2 h3) 2) rfl
theorem PG (r:Rrow):r.toks.length≤22:=by
 have h1:=L4 r.by_;have h2:=op_len r.k.op;have h3:=bd_len r.bd
 show (opT r.k.op++(_::(r.by_.toks++r.bd.toks))).length+1≤_
 rw[QV,Qw,QV];exact adL 1 (Q6 h2 (JU (Q6 h1 h3) 1)) rfl
theorem Mx {α:Type}{f:α->List Tk}{m:Nat}(h:∀ x,(f x).length≤m):∀ l:List α,(l.flatMap f).length≤m * l.length
 | []=>Q4 _
 |x::l=>by
  have h1:=h x;have h2:=Mx h l
  rw[Vv,QV,Qw,Nat.mul_add,Nat.mul_one];exact QJ (Q9 (U6 _ _)) (Q6 h2 h1)
theorem Stm.Is.len {s:Stm}(h:s.Is):s.toks.length≤200:=by
 have r:∀ rs:List Trow,(rowsT rs).length≤22 * rs.length:=λrs=>Mx L8 rs
 have e:∀ rs:List Rrow,(exT rs).length≤22 * rs.length:=λrs=>Mx PG rs
 cases s with
 |both x rs es=>
  have h1:=N5 x;have h2:=r rs;have h3:=e es;have h4:=h.2.1.le;have h5:=h.2.2.le
  show (x.toks++(_::(rowsT rs++(_::exT es)))).length+1≤_;rw[QV,Qw,QV,Qw]
  exact adL 1 (Q6 h1 (JU (Q6 (QJ h2 (JK 22 h4)) (JU (QJ h3 (JK 22 h5)) 1)) 1)) rfl
 |tally x rs=>
  have h1:=N5 x;have h2:=r rs;have h4:=h.2.le
  show (x.toks++(_::rowsT rs)).length+1≤_;rw[QV,Qw]
  exact adL 1 (Q6 h1 (JU (QJ h2 (JK 22 h4)) 1)) rfl
 |repl x es=>
  have h1:=N5 x;have h3:=e es;have h5:=h.2.le
  show (x.toks++(_::exT es)).length+1≤_;rw[QV,Qw]
  exact adL 1 (Q6 h1 (JU (QJ h3 (JK 22 h5)) 1)) rfl
theorem M8 (x:Bnd):partV x.norm.b=partV x.b∧partV x.norm.a=partV x.a:=⟨P1 _,P1 _⟩
theorem tval_norm (r:Trow):r.norm.val=r.val:=by
 show AV.tup [_,_,_,partV r.bd.norm.b,partV r.bd.norm.a]=_
 rw[(M8 r.bd).1,(M8 r.bd).2];rfl
theorem rval_norm (r:Rrow):r.norm.val=r.val:=by
 show AV.tup [_,_,_,partV r.bd.norm.b,partV r.bd.norm.a]=_
 rw[(M8 r.bd).1,(M8 r.bd).2];rfl
theorem stm_norm (s:Stm):s.norm.val=s.val:=by
 have e1:∀ rs:List Trow,(rs.map Trow.norm).map Trow.val=rs.map Trow.val:=λrs=>by
  rw[VZ];exact G5 λr Z=>tval_norm r
 have e2:∀ rs:List Rrow,(rs.map Rrow.norm).map Rrow.val=rs.map Rrow.val:=λrs=>by
  rw[VZ];exact G5 λr Z=>rval_norm r
 cases s with
 |both x rs es=>show AV.tup [_,_,.tup ((rs.map Trow.norm).map Trow.val),.tup ((es.map Rrow.norm).map Rrow.val)]=_;rw[e1,e2];rfl
 |tally x rs=>show AV.tup [_,_,.tup ((rs.map Trow.norm).map Trow.val)]=_;rw[e1];rfl
 |repl x es=>show AV.tup [_,_,.tup ((es.map Rrow.norm).map Rrow.val)]=_;rw[e2];rfl
theorem rows_n {rs:List Trow}(h:RowsIs rs):RowsIs (rs.map Trow.norm):=⟨λe=>h.ne (Vw.mp e),by rw[QH];exact h.le,λr hr=>by
 obtain⟨x,hx,rfl⟩:=Jz.mp hr
 exact⟨(h.is x hx).c,(h.is x hx).k,norm_is (h.is x hx).bd⟩⟩
theorem exs_n {rs:List Rrow}(h:ExsIs rs):ExsIs (rs.map Rrow.norm):=⟨λe=>h.ne (Vw.mp e),by rw[QH];exact h.le,λr hr=>by
 obtain⟨x,hx,rfl⟩:=Jz.mp hr
 exact⟨(h.is x hx).k,(h.is x hx).b,norm_is (h.is x hx).bd⟩⟩
theorem stm_n {s:Stm}(h:s.Is):s.norm.Is:=by
 cases s with
 |both x rs es=>exact⟨h.1,rows_n h.2.1,exs_n h.2.2⟩
 |tally x rs=>exact⟨h.1,rows_n h.2⟩
 |repl x es=>exact⟨h.1,exs_n h.2⟩
section
variable (sc:ScT){σ:Store}{k i m:Nat}
theorem law_right_ok (h:Cl σ){s:Stm}(o:s.Is)(hi:σ[i]? = some (.list (s.toks.map tkV)))(hm:m≤12) :
  callN (pk0 sc) (k+123) (.glob (.ref 883)) [.ref i,s.val,.int m] σ=some (.bool true,σ):=by
 have h0:0<σ.length:=Q1 (Q4 _) (QQ.mp hi).1
 have on:=stm_n o
 have r1:=Kz sc (k:=k) h o hi hm (QJ o.len (by decide))
 refine xe12 (show_ok sc o) λL t1 t2=>?_
 have q2:=t2 σ (k+22) h h0
 have q3:=words_ok sc (k:=k+120) h h0 t1.tp (QN _) (QJ t1.len (by decide))
 have h2:Cl (σ++[.list (s.norm.toks.map tkV)]):=h.app (anI ⟨R6 _,rfl⟩)
 have r2:=Kz sc (k:=k) h2 on (i:=σ.length) (by rw[← V3 σ.length,VN];rfl) hm (QJ on.len (by decide))
 rw[stm_norm] at r2
 have step:evS (pc sc (k+122)) b_L_right ⟨[some (.ref i),some s.val,some (.int m)],[]⟩ σ=some (.ret (.bool true),⟨[some (.ref i),some s.val,some (.int m)],[]⟩,σ++[.list (s.norm.toks.map tkV)]):=
  zSeq (zIfF (H6 (zCmp (Vj rfl rfl r1) rfl stm_same) rfl) rfl) (zRet (zCmp (Vj rfl (JG (Vj rfl (JG (Vj rfl rfl q2) rfl) q3) rfl) r2) rfl stm_same))
 have run:runE e_L_right (evS (pc sc (k+122)) b_L_right) [.ref i,s.val,.int m] σ=some (.bool true,σ++[.list (s.norm.toks.map tkV)]):=by
  unfold runE runB;rw[if_pos ⟨leB rfl,leB rfl⟩]
  exact on3s step rfl
 rw[c_L_right,run]
 exact gcS h rfl rfl
end
end
section
open PySem.SeqAt
open Rdr
structure Hn where
 a:Int
 b:Int
 c:Int
noncomputable abbrev Hn.o (h:Hn):AO:=.list [.int h.a,.int h.b,.int h.c]
noncomputable def Hn.fill (h:Hn):Hn:=if h.a=0 then ⟨1000003 ^ (5+(h.b+1)).toNat * h.c,h.b+1,h.c⟩ else h
noncomputable def Hn.next (h:Hn) (m:Nat):Hn:=⟨h.fill.a.fdiv m,h.fill.b,h.fill.c⟩
noncomputable def Hn.got (h:Hn) (m:Nat):Nat:=(h.fill.a.fmod m).toNat
structure HnOk (t:Nat)(h:Hn):Prop where
 a:0≤h.a
 b:0≤h.b
 bt:h.b≤t
 c:0≤h.c
 cl:h.c<2 ^ 400
open Builtin.Int in
theorem bits_le {x:Int}{m:Nat}(h0:0≤x)(h:x<2 ^ m):intBits x≤m:=by
 unfold intBits
 by_cases hx:x=0
 · rw[hx];exact Q4 _
 · have h1:x.natAbs≠0:=by omega
   have h2:x.natAbs<2 ^ m:=by
    have e:((2 ^ m:Nat):Int)=2 ^ m:=Int.natCast_pow 2 m;omega
   have:=(Nat.log2_lt h1).mpr h2
   split
   · exact Q4 _
   · exact this
theorem div_small {a b:Int}(h0:0<b)(h:b<2 ^ 64):divOk a b=true:=by
 unfold divOk Builtin.divisionGoesByPylong
 have h1:b≠0:=Int.ne_of_gt h0
 have h2:b.natAbs.log2<64:=(Nat.log2_lt (by omega)).mpr (by omega)
 have h3:¬ (b.natAbs.log2 / 30+1>300):=by omega
 have h4:¬ (300<b.natAbs.log2 / 30+1):=h3
 simp[h1,h4]
theorem pow_bits (m:Nat):Builtin.Int.intBits ((1000003:Int) ^ m)≤20 * m+1:=by
 refine bits_le (Int.pow_nonneg (by decide)) ?_
 have h1:1000003 ^ m≤(2 ^ 20) ^ m:=Nat.pow_le_pow_left (by decide) m
 rw[← Nat.pow_mul] at h1
 have h2:1000003 ^ m<2 ^ (20 * m+1):=by
  have:0<2 ^ (20 * m):=Nat.pow_pos (by decide);rw[Nat.pow_succ];omega
 have h3:((1000003 ^ m:Nat):Int)<((2 ^ (20 * m+1):Nat):Int):=ar15 h2
 simpa using h3
theorem mul_big {b c:Int}{t:Nat}(hb0:0≤b)(hb:b≤t)(ht:t≤1000)(h0:0≤c)(h:c<2 ^ 400):mulOk (1000003 ^ (5+(b+1)).toNat) c=true:=by
 have h1:=pow_bits (5+(b+1)).toNat
 have h2:=bits_le h0 h
 unfold mulOk Builtin.Int.intTooBig bitsLine
 have h4:decide (((Builtin.Int.intBits (1000003 ^ (5+(b+1)).toNat):Nat):Int)+((Builtin.Int.intBits c:Nat):Int)>((2 ^ 27:Nat):Int))=false:=by
  rw[decide_eq_false_iff_not];omega
 rw[h4]
 simp
theorem pow_ok {b:Int}{t:Nat}(hb0:0≤b)(hb:b≤t)(ht:t≤1000):powOk 1000003 (5+(b+1))=true:=by
 unfold powOk
 rw[show Builtin.Int.intBits 1000003=20 by decide +kernel]
 simp
 omega
theorem HnOk.fill {t:Nat}{h:Hn}(o:HnOk t h):HnOk (t+1) h.fill:=by
 unfold Hn.fill
 by_cases e:h.a=0
 · rw[if_pos e]
   exact⟨Int.mul_nonneg (Int.pow_nonneg (by decide)) o.c,Int.le_trans o.b (by show h.b≤h.b+1;omega),by have:=o.bt;show h.b+1≤_;omega,o.c,o.cl⟩
 · rw[if_neg e]
   exact⟨o.a,o.b,by have:=o.bt;omega,o.c,o.cl⟩
theorem HnOk.next {t m:Nat}{h:Hn}(o:HnOk t h):HnOk (t+1) (h.next m):=⟨Int.fdiv_nonneg o.fill.a (H0 m),o.fill.b,o.fill.bt,o.fill.c,o.fill.cl⟩
theorem Hn.got_lt {m:Nat}{h:Hn}(hm:0<m):h.got m<m:=by
 have h1:=Int.fmod_lt_of_pos h.fill.a (show (0:Int)<m from ar12 hm)
 unfold Hn.got
 omega
section
variable {e:Pc}{en:En}{σ σ₁ σ₂ σC σD:Store}{x y o i:X}{u v w b:AV}
end
section
variable {σ:Store}{j:Nat}{h:Hn}
theorem R3 {p:Pk}(g:σ[j]? = some h.o)(n:Nat)(x:AV)(hx:[AV.int h.a,.int h.b,.int h.c][n]? = some x):subP p (.ref j) (.int n) σ=some x:=by
 refine onLs g ?_
 match n,hx with
 |0,hx=>exact hx
 |1,hx=>exact hx
 |2,hx=>exact hx
theorem hn_set {n:Nat}{x:Int}{h' : Hn}(g:σ[j]? = some h.o)(hn:n<3)(e:[AV.int h.a,.int h.b,.int h.c].set n (.int x)=[AV.int h'.a,.int h'.b,.int h'.c]):setItemF (.ref j) (.int n) (.int x) σ=some (σ.set j h'.o):=
 onLs g ((if_pos ⟨H0 n,by show (n:Int)<3;exact ar15 hn,leB rfl⟩).trans (congrArg (λl=>some (σ.set j (AO.list l))) e))
theorem hn_get (g:σ[j]? = some h.o)(o:AO):(σ.set j o)[j]? = some o:=J1 (QQ.mp g).1
end
section
variable (sc:ScT){σ:Store}{k j t m:Nat}{h:Hn}
noncomputable def fillY:Y:=nthY 0 b_L_draw
noncomputable def drawY:Y:=.cons (.set 2 (.bin .Mod (.sub (.loc 0) (.val (.int 0))) (.loc 1))) (.cons (.setSub (.loc 0) (.val (.int 0)) (.bin .FloorDiv (.sub (.loc 0) (.val (.int 0))) (.loc 1))) (.cons (.ret (.loc 2)) .nil))
theorem draw_eq:b_L_draw = .cons fillY drawY:=rfl
theorem fill_run (g:σ[j]? = some h.o)(o:HnOk t h)(ht:t≤1000):evS (pc sc k) fillY ⟨[some (.ref j),some (.int m),none],[]⟩ σ=some (.next,⟨[some (.ref j),some (.int m),none],[]⟩,σ.set j h.fill.o):=by
 have t1:tested (ev (pc sc k) (.cmp .Eq (.sub (.loc 0) (.val (.int 0))) (.val (.int 0)))) truthF2 ⟨[some (.ref j),some (.int m),none],[]⟩ σ=some (h.a==0,σ):=by
  rw[← Bool.xor_false (h.a==0),Bool.xor_comm];exact H6 (zCmp (zSub rfl rfl (R3 g 0 _ rfl)) rfl rfl) rfl
 refine zIff t1 ?_
 unfold Hn.fill
 by_cases e:h.a=0
 · rw[if_pos e,e]
   have g1:=hn_get g (Hn.o ⟨h.a,h.b+1,h.c⟩);refine zSeq (zSetSub (zBin (zSub rfl rfl (R3 g 1 _ rfl)) rfl rfl) rfl rfl (hn_set g (h' := ⟨h.a,h.b+1,h.c⟩) (by decide) rfl)) (zSeq (zSetSub (zBin (zBin rfl (zBin rfl (zSub rfl rfl (R3 g1 1 _ rfl)) rfl) (if_pos (pow_ok o.b o.bt ht))) (zSub rfl rfl (R3 g1 2 _ rfl)) (if_pos (mul_big o.b o.bt ht o.c o.cl))) rfl rfl (hn_set g1 (h' := ⟨1000003 ^ (5+(h.b+1)).toNat * h.c,h.b+1,h.c⟩) (by decide) rfl)) ?_)
   rw[q7];rfl
 · have e1:(h.a==0)=false:=beq_eq_false_iff_ne.mpr e
   rw[if_neg e,e1];refine congrArg (λs=>some (Fl.next,(⟨[some (.ref j),some (.int m),none],[]⟩:En),s)) ?_
   obtain⟨hi,q⟩:=QQ.mp g;rw[← q]
   exact(GX hi).symm
theorem draw_run (g:σ[j]? = some h.o)(o:HnOk t h)(ht:t≤1000)(m0:0<m)(m1:m≤12):callN (pk0 sc) (k+1) (.glob (.ref 808)) [.ref j,.int m] σ=some (.int (h.got m),σ.set j (h.next m).o):=by
 have g1:=hn_get g h.fill.o
 have hm:(m:Int)≠0:=by omega
 have hd:divOk h.fill.a (m:Int)=true:=div_small (ar12 m0) (by omega)
 have eg:((h.got m:Nat):Int)=h.fill.a.fmod m:=Int.toNat_of_nonneg (Int.fmod_nonneg_of_pos _ (ar12 m0))
 have step:evS (pc sc k) b_L_draw ⟨[some (.ref j),some (.int m),none],[]⟩ σ=some (.ret (.int (h.got m)),⟨[some (.ref j),some (.int m),some (.int (h.got m))],[]⟩,σ.set j (h.next m).o):=by
  rw[draw_eq,eg];refine zSeq (fill_run sc g o ht) (zSeq (zSet (zBin (zSub rfl rfl (R3 g1 0 _ rfl)) rfl (if_pos hm))) (zSeq (zSetSub (zBin (zSub rfl rfl (R3 g1 0 _ rfl)) rfl (if_pos hd)) rfl rfl (hn_set g1 (h' := h.next m) (by decide) rfl)) ?_))
  rw[q7];exact zRet rfl
 have run:runE e_L_draw (evS (pc sc k) b_L_draw) [.ref j,.int m] σ=some (.int (h.got m),σ.set j (h.next m).o):=by
  unfold runE runB;rw[if_pos ⟨leB rfl,leB rfl⟩]
  exact on3s step rfl
 rw[c_L_draw,run]
 exact gcId (by rw[J2];exact QN _)
end
inductive Tr where
 |leaf
 |node (m:Nat) (f:Nat->Tr)
noncomputable def Tr.paths:Tr->List (List (Nat×Nat))
 | .leaf=>[[]]
 | .node m f=>(Nx m).flatMap λd=>(f d).paths.map ((m,d)::·)
structure Drs (tr:List (Nat×Nat))(hs:Nat->Hn)(t:Nat):Prop where
 ok:∀ q,HnOk (t+q) (hs q)
 is:∀ q m d,tr[q]? = some (m,d)->0<m∧m≤12∧(hs q).got m=d∧(hs q).next m=hs (q+1)
noncomputable def Tr.Ok:Tr->Prop
 | .leaf=>True
 | .node m f=>0<m∧m≤12∧∀ d,(f d).Ok
theorem Tr.drs:∀ (T:Tr) (_:T.Ok) (h:Hn) (t:Nat) (_:HnOk t h),∃ tr∈T.paths,∃ hs:Nat->Hn,hs 0=h∧Drs tr hs t
 | .leaf,_,h,t,o=>⟨[],.head _,λZ=>h,rfl,λq=>⟨o.a,o.b,by have:=o.bt;omega,o.c,o.cl⟩,λZ Z Z e=>nos e⟩
 | .node m f,⟨m0,m1,hf⟩,h,t,o=>by
  obtain⟨tr,h1,hs,h2,h3⟩:=(f (h.got m)).drs (hf _) (h.next m) (t+1) o.next;refine⟨(m,h.got m)::tr,List.mem_flatMap.mpr ⟨h.got m,List.mem_range.mpr (Hn.got_lt m0),Jz.mpr ⟨tr,h1,rfl⟩⟩,λq=>match q with|0=>h|q+1=>hs q,rfl,λq=>?_,λq m d e=>?_⟩
  · cases q with
    |zero=>exact o
    |succ q=>have:=h3.ok q;rw[VH] at this;exact this
  · cases q with
    |zero=>cases e;exact⟨m0,m1,rfl,h2.symm⟩
    |succ q=>exact h3.is q m d e
end
section
open PySem.SeqAt
open Rdr
def Hp (σ:Store)(j t:Nat):Prop := ∃ h:Hn,σ[j]? = some h.o∧HnOk t h
structure Ext (j:Nat)(σ σ' : Store)(t:Nat):Prop where
 le:σ.length≤σ'.length
 old:∀ i,i≠j->i<σ.length->σ'[i]? = σ[i]?
 cl:Cl σ'
 hp:Hp σ' j t
theorem Ext.keep {j i t:Nat}{σ τ:Store}{o:AO}(e:Ext j σ τ t)(h:σ[i]? = some o)(hn:i≠j):τ[i]? = some o:=(e.old i hn (QQ.mp h).1).trans h
theorem Ext.trans {j:Nat}{σ σ₁ σ₂:Store}{t tB:Nat}(a:Ext j σ σ₁ t)(b:Ext j σ₁ σ₂ tB):Ext j σ σ₂ tB:=
 ⟨QJ a.le b.le,λi h1 h2=>(b.old i h1 (ltL h2 a.le)).trans (a.old i h1 h2),b.cl,b.hp⟩
theorem HnOk.mono {t u:Nat}{h:Hn}(o:HnOk t h)(hu:t≤u):HnOk u h:=⟨o.a,o.b,Int.le_trans o.bt (Int.ofNat_le.mpr hu),o.c,o.cl⟩
theorem Hp.mono {σ:Store}{j t u:Nat}(h:Hp σ j t)(hu:t≤u):Hp σ j u:=let ⟨x,g,o⟩:=h; ⟨x,g,o.mono hu⟩
theorem Ext.mono {j:Nat}{σ σ' : Store}{t u:Nat}(e:Ext j σ σ' t)(h:t≤u):Ext j σ σ' u:=⟨e.le,e.old,e.cl,e.hp.mono h⟩
theorem Hp.lt {σ:Store}{j t:Nat}(h:Hp σ j t):j<σ.length:=let ⟨_,g,_⟩:=h;(QQ.mp g).1
theorem Ext.app {j t:Nat}{σ τ l:Store}(e:Ext j σ τ t)(hl:clS (τ.length+l.length) l=true):Ext j σ (τ++l) t:=
 ⟨by rw[QV];exact QJ e.le (QG _ _),λi h1 h2=>(Q3 (ltL h2 e.le)).trans (e.old i h1 h2),e.cl.app hl,let ⟨h,g,o⟩:=e.hp; ⟨h,U9 g,o⟩⟩
theorem Ext.refl {j t:Nat}{σ:Store}(h:Hp σ j t)(c:Cl σ):Ext j σ σ t:=⟨QN _,λZ Z Z=>rfl,c,h⟩
def natD (tr:List (Nat×Nat))(m:Nat)(a:Addr)(l:List SV)(st:Ss):Sr:=dep a 808 1 m (uL2 l λu v=>if eqV u (.at 0) then on1 (asInt v) λi=>on1 tr[st.1]? λp=>if i=p.1 then some (.int p.2,st.1+1,st.2) else none else none)
def nvD (p:Pk)(c:Nat->Option (List SV))(tr:List (Nat×Nat)):Nv:={ nvC p λn g l st=>match g with
 | .glob (.ref a)=>orE (natD tr n a l st) (if st.2.all (clW st.2.length) then natW n a l st else none)
 |_=>none with cell:=c }
noncomputable def KnL (σ:Store) (j:Nat):List (Nat×List Tk)->Prop
 | []=>True
 |p::r=>(p.1≠j∧σ[p.1]? = some (.list (p.2.map tkV))∧p.2.length≤1000)∧KnL σ j r
theorem KnL.get {σ:Store}{j:Nat}:∀ {ks:List (Nat×List Tk)} (_:KnL σ j ks) {i:Nat} {p:Nat×List Tk},ks[i]? = some p->p.1≠j∧σ[p.1]? = some (.list (p.2.map tkV))∧p.2.length≤1000
 |_::_,h,0,_,e=>soI e▸h.1
 |_::_,h,_+1,_,e=>KnL.get h.2 (by simpa using e)
noncomputable def kOf (ks:List (Nat×List Tk)) (j i:Nat):Nat:=match ks[i]? with
 |some p=>p.1
 |none=>j
noncomputable def lOf (ks:List (Nat×List Tk)) (i:Nat):List AV:=match ks[i]? with
 |some p=>p.2.map tkV
 |none=>[]
noncomputable def cOf (n i:Nat):Option (List SV):=if i<n then some [.sp i] else none
noncomputable def vOf (j:Nat) (vs:List AV):Nat->AV
 |0=>.ref j
 |i+1=>match vs[i]? with
  |some v=>v
  |none=>.none
noncomputable def drD (σ:Store) (j:Nat) (hs:Nat->Hn) (ks:List (Nat×List Tk)) (vs:List AV):Dn:={ stK σ (lOf ks) (kOf ks j) (vOf j vs) with B:=λq=>σ.set j (hs q).o }
section
variable {σ:Store}{ks:List (Nat×List Tk)}{vs:List AV}{c:Nat->Option (List SV)}{j t:Nat}{hs:Nat->Hn}{tr:List (Nat×Nat)}
theorem vs_cl {n:Nat}(hj:j<n):∀ (i:Nat) {vs:List AV},clL n vs=true->clA n (vOf j vs i)=true
 |0,_,_=>decide_eq_true hj
 |i+1,[],_=>rfl
 |1,_::_,h=>(and2 h).1
 |i+2,_::vs,h=>vs_cl hj (i+1) (and2 h).2
theorem drD_ok {p:Pk}{call:Nat->SV->List SV->Ss->Sr}(h:Cl σ)(hj:j<σ.length)(hk:KnL σ j ks)(hv:clL σ.length vs=true):DnOk (drD σ j hs ks vs) { nvC p call with cell:=cOf ks.length } where
 len q:=J2 ..
 cl q:=Lv rfl σ h hj
 v i:=vs_cl hj i hv
 t _:=rfl
 tk _:=rfl
 tkn _:=rfl
 l i:=by
  show clL _ (lOf ks i)=true;unfold lOf
  cases ks[i]? with
  |none=>rfl
  |some p=>exact R6 _
 ll i:=by
  show (lOf ks i).length≤_;unfold lOf
  cases e:ks[i]? with
  |none=>exact Q4 _
  |some p=>show (p.2.map tkV).length≤_;rw[QH];exact(hk.get e).2.2
 r:=Q1 (Q4 _) hj
 k i:=by
  show kOf ks j i<_;unfold kOf
  cases e:ks[i]? with
  |none=>exact hj
  |some p=>exact(QQ.mp (hk.get e).2.1).1
 s:=ne0
 e _:=Q4 _
 attr _ _ _ _ q:=nos q
 set _ _ _ _ _ q:=nos q
 get _ _ q:=nos q
 padd _ _ _ q:=nos q
 cell i x q _:=oi q λhi q=>soI q▸by
  have e:=JN hi;have g:=hk.get e
  show (σ.set j _)[kOf ks j i]? = some (.list (lOf ks i++[]));unfold kOf lOf
  rw[e,QX];exact(JW (Ne.symm g.1)).trans g.2.1
theorem natD_is {sc:ScT}(hj:j<σ.length)(D:Drs tr hs t)(ht:t+tr.length≤1000){K m:Nat}{a:Addr}{l:List SV}{st st' : Ss}{r:SV}(e:natD tr m a l st=some (r,st')) :
  callN (pk0 sc) (K+m+1) (.glob (.ref a)) (l.map (den (drD σ j hs ks vs))) (denS (drD σ j hs ks vs) st)=some (den (drD σ j hs ks vs) r,denS (drD σ j hs ks vs) st'):=by
 refine UU (P:=λk' a=>callN (pk0 sc) k' (.glob (.ref a)) (l.map (den (drD σ j hs ks vs))) (denS (drD σ j hs ks vs) st)=some (den (drD σ j hs ks vs) r,denS (drD σ j hs ks vs) st')) e λk' e=>uE2 e λu v e=>oi e λhu e=>om1 e λi hi e=>om1 e λp hp e=>oi e λh e=>oe2 e ?_
 refine xe04 (D.is _ _ _ hp) λm0 m1 d1 d2=>?_
 have hq:st.1<tr.length:=(QQ.mp hp).1
 have g:(denS (drD σ j hs ks vs) st)[j]? = some (hs st.1).o:=(Q3 (by show j<(σ.set j _).length;rw[J2];exact hj)).trans (J1 hj)
 have z:=draw_run sc (k:=k') g (D.ok st.1) (QJ (VK (NQ hq) _) ht) m0 m1
 rw[d1,d2] at z
 rw[Mz _ _ hu]
 refine eInt hi ?_
 subst h
 refine z.trans ?_
 refine congrArg (λs=>some (AV.int p.2,s)) ?_
 show ((σ.set j _)++_).set j _=σ.set j _++_
 rw[RM _ _ (by rw[J2];exact hj),q7]
theorem seD {sc:ScT}(H:DnOk (drD σ j hs ks vs) (nvD (pk0 sc) c tr))(hj:j<σ.length)(D:Drs tr hs t)(ht:t+tr.length≤1000)(K d:Nat):SeOk (drD σ j hs ks vs) ⟨nvD (pk0 sc) c tr,callS (nvD (pk0 sc) c tr) d⟩ (pc sc (K+d)):=by
 refine⟨H,rfl,leB rfl,H8 (K:=K) H (leB rfl) (λm g l st r st' e=>?_) d⟩
 cases g with
 |glob g=>cases g with
  |ref a=>exact oOr e (λe=>natD_is hj D ht e) λe=>natW_is H (Q1 (Q4 _) hj) e
  |_=>exact nos e
 |_=>exact nos e
end
noncomputable def okTwo (l:List SV) (f:SV->SV->Bool):Bool:=match l with
 | [a,b]=>f a b
 |_=>false
theorem okTwoE {l:List SV}{f:SV->SV->Bool}{P:Prop}(h:okTwo l f=true)(k:∀ a b,l=[a,b]->f a b=true->P):P:=by
 match l,h with
 | [a,b],h=>exact k a b rfl h
def chkT (r:Sr)(toks:List Tk)(v:SV):Bool:=okO r λx=>okO (svTup x.1) λl=>okTwo l λa w=>okO (asRef a) λi=>eqV w v&&x.2.2.all (clW x.2.2.length)&&JQ x.2.1 3&&okO x.2.2[i]? λl=>eqW l (toks.map tkSV)
theorem chkT_is {r:Sr}{toks:List Tk}{v:SV}(h:chkT r toks v=true):∃ i q n,r=some (.tup [.ref i,v],q,n)∧n.all (clW n.length)=true∧n[i]? = some (toks.map tkSV)∧q≤3:=
 okE h λx ex h=>okE h λl el h=>okTwoE h λa w eaw h=>okE h λi ei h=>okE (and4 h).2.2.2 λl2 el2 h3=>by
  obtain⟨u,q,n⟩:=x;have h1:=and4 h
  have ea:a = .ref i:=eRef (G:=λa=>a = .ref i) ei rfl;have eu:u = .tup l:=eTup (G:=λa=>a = .tup l) el rfl
  exact⟨i,q,n,by rw[ex,eu,eaw,ea,Mz _ _ h1.1],h1.2.1,by rw[el2,qZ h3],leB h1.2.2.1⟩
noncomputable def itmT:Tr:=.node 3 λZ=>.node 3 λZ=>.leaf
noncomputable def txT:Tr:=.node 4 λd=>if d=0 then itmT else if d=1 then .node 3 λZ=>.leaf else .node 4 λZ=>.leaf
abbrev runD (sc:ScT)(tr:List (Nat×Nat))(d:Nat)(a:Addr)(l:List SV):Sr:=callS (nvD (pk0 sc) (cOf 0) tr) d (.glob (.ref a)) (.at 0::l) (0,[])
theorem dItm_run (sc:ScT):(itmT.paths.all λtr=>JQ tr.length 3&&allI.any λx=>chkT (runD sc tr 4 829 []) x.toks x.sv)=true:=by kernel_rfl
theorem dTx_run (sc:ScT):(txT.paths.all λtr=>JQ tr.length 3&&allT.any λx=>chkT (runD sc tr 5 836 []) x.toks x.sv)=true:=by kernel_rfl
theorem itmT_ok:itmT.Ok:=⟨by decide,by decide,λZ=>⟨by decide,by decide,λZ=>trivial⟩⟩
theorem txT_ok:txT.Ok:=⟨by decide,by decide,λd=>by
 by_cases h0:d=0
 · subst h0;exact itmT_ok
 · by_cases h1:d=1
   · subst h1;exact⟨by decide,by decide,λZ=>trivial⟩
   · show Tr.Ok (if d=0 then itmT else if d=1 then _ else _)
     rw[if_neg h0,if_neg h1];exact⟨by decide,by decide,λZ=>trivial⟩⟩
def chkL (r:Sr)(L:List SV):Bool:=okO r λx=>okO (asRef x.1) λi=>x.2.2.all (clW x.2.2.length)&&JQ x.2.1 3&&okO x.2.2[i]? λl=>eqW l L
theorem chkL_is {r:Sr}{L:List SV}(h:chkL r L=true):∃ i q n,r=some (.ref i,q,n)∧n.all (clW n.length)=true∧n[i]? = some L∧q≤3:=
 okE h λx ex h=>okE h λi ei h=>okE (and3 h).2.2 λl el h3=>by
  obtain⟨u,q,n⟩:=x;have eu:u = .ref i:=eRef (G:=λa=>a = .ref i) ei rfl
  exact⟨i,q,n,by rw[ex,eu],(and3 h).1,by rw[el,qZ h3],leB (and3 h).2.1⟩
section
variable (sc:ScT){σ:Store}{ks:List (Nat×List Tk)}{vs:List AV}{k d j t:Nat}
theorem dr0 {T:Tr}(hT:T.Ok)(h:Hp σ j t)(hC:Cl σ):∃ tr∈T.paths,∃ hs:Nat->Hn,Drs tr hs t∧∀ ks vs,denS (drD σ j hs ks vs) (0,[])=σ:=by
 refine xe12 h λh0 g o=>?_
 obtain⟨tr,m1,hs,e0,D⟩:=T.drs hT h0 t o
 refine⟨tr,m1,hs,D,λks vs=>?_⟩
 show σ.set j (hs 0).o++[]=σ
 rw[QX,e0]
 obtain⟨hi,q⟩:=QQ.mp g
 rw[← q];exact GX hi
theorem dr_ext {hs:Nat->Hn}{tr:List (Nat×Nat)}{nv:Nv}(hj:j<σ.length)(hC:Cl σ)(D:Drs tr hs t)(H:DnOk (drD σ j hs ks vs) nv){q:Nat}{n:List (List SV)}(hq:q≤3)(hn:n.all (clW n.length)=true):Ext j σ (denS (drD σ j hs ks vs) (q,n)) (t+3):=by
 have hset:(σ.set j (hs q).o).length=σ.length:=J2 ..
 have gj:(denS (drD σ j hs ks vs) (q,n))[j]? = some (hs q).o:=(Q3 (Nz hj hset.symm)).trans (J1 hj)
 exact⟨by rw[lenS H];exact QG _ _,λi h1 h2=>(Q3 (Nz h2 hset.symm)).trans (JW (Ne.symm h1)),cl_st H hn,_,gj,(D.ok q).mono (VK hq _)⟩
theorem drawn {T:Tr}(hT:T.Ok){α:Type}{l:List α}{toks:α->List Tk}{sv:α->SV}{a:Addr}(run:(T.paths.all λtr=>JQ tr.length 3&&l.any λx=>chkT (runD sc tr d a []) (toks x) (sv x))=true)(h:Hp σ j t)(ht:t≤900)(hC:Cl σ){val:α->AV}(hv:∀ (D:Dn) x,den D (sv x)=val x) :
  ∃ (x:α) (i:Nat) (σ' : Store),x∈l∧callN (pk0 sc) (k+d) (.glob (.ref a)) [.ref j] σ=some (.tup [.ref i,val x],σ')∧σ.length≤i∧σ'[i]? = some (.list ((toks x).map tkV))∧Ext j σ σ' (t+3):=by
 have hj:=h.lt
 obtain⟨tr,m1,hs,D,z0⟩:=dr0 hT h hC
 obtain⟨c1,c2⟩:=and2 (alT run tr m1)
 refine xe12 (List.any_eq_true.mp c2) λx hx c3=>?_
 refine xe34 (chkT_is c3) λi q n r1 r2 r3 r4=>?_
 have c1:=leB c1
 have H:DnOk (drD σ j hs [] []) (nvD (pk0 sc) (cOf 0) tr):=drD_ok hC hj trivial rfl
 have z:=(seD H hj D (ad2 ht c1 rfl) k d).C _ _ _ _ _ r1
 rw[z0] at z
 have zv:den (drD σ j hs [] []) (.tup [.ref i,sv x]) = .tup [.ref (σ.length+i),val x]:=congrArg (λy=>AV.tup [.ref (σ.length+i),y]) (hv _ x)
 rw[zv] at z
 refine⟨x,σ.length+i,_,hx,z,QG _ _,?_,dr_ext hj hC D H r4 r2⟩
 refine(getN H (q,n) i).trans ?_
 show KZ _ n[i]? = _
 rw[r3]
 exact congrArg (λl=>some (AO.list l)) (GK _)
theorem P7 (h:Hp σ j t)(ht:t≤900)(hC:Cl σ):∃ (x:Itm) (i:Nat) (σ' : Store),x.Is∧callN (pk0 sc) (k+4) (.glob (.ref 829)) [.ref j] σ=some (.tup [.ref i,x.val],σ')∧σ.length≤i∧σ'[i]? = some (.list (x.toks.map tkV))∧Ext j σ σ' (t+3):=
 drawn sc itmT_ok (dItm_run sc) h ht hC λZ=>itm_sv
theorem WW (h:Hp σ j t)(ht:t≤900)(hC:Cl σ):∃ (x:Tx) (i:Nat) (σ' : Store),x.Is∧callN (pk0 sc) (k+5) (.glob (.ref 836)) [.ref j] σ=some (.tup [.ref i,x.val],σ')∧σ.length≤i∧σ'[i]? = some (.list (x.toks.map tkV))∧Ext j σ σ' (t+3):=
 drawn sc txT_ok (dTx_run sc) h ht hC λZ=>tx_sv
noncomputable def pickT (m:Nat):Tr:=.node m λZ=>.leaf
theorem picked {m:Nat}(hm:0<m∧m≤12){α:Type}{l:List α}{sv:α->SV}(run:((pickT m).paths.all λtr=>JQ tr.length 3&&l.any λx=>chk (runD sc tr 2 815 [.tup (l.map sv)]) (sv x) 1)=true)(h:Hp σ j t)(ht:t≤900)(hC:Cl σ){val:α->AV}(hv:∀ (D:Dn) x,den D (sv x)=val x) :
  ∃ (x:α) (σ' : Store),x∈l∧callN (pk0 sc) (k+2) (.glob (.ref 815)) [.ref j,.tup (l.map val)] σ=some (val x,σ')∧Ext j σ σ' (t+3):=by
 have hj:=h.lt
 obtain⟨tr,m1,hs,D,z0⟩:=dr0 (T:=pickT m) ⟨hm.1,hm.2,λZ=>trivial⟩ h hC
 obtain⟨c1,c2⟩:=and2 (alT run tr m1)
 refine xe12 (List.any_eq_true.mp c2) λx hx c3=>?_
 have c1:=leB c1
 have H:DnOk (drD σ j hs [] []) (nvD (pk0 sc) (cOf 0) tr):=drD_ok hC hj trivial rfl
 have c4:callS (nvD (pk0 sc) (cOf 0) tr) 2 (.glob (.ref 815)) [.at 0,.tup (l.map sv)] (0,[])=_:=chk_is c3
 have z:=(seD H hj D (ad2 ht c1 rfl) k 2).C (.glob (.ref 815)) [.at 0,.tup (l.map sv)] (0,[]) (sv x) (1,[]) c4
 rw[z0,hv] at z
 have zl:[.at 0,.tup (l.map sv)].map (den (drD σ j hs [] []))=[.ref j,.tup (l.map val)]:=by
  show [AV.ref j,.tup (denM _ (l.map sv))]=_;rw[Uv,VZ,show den (drD σ j hs [] [])∘sv=val from funext λy=>hv _ y]
 rw[zl] at z
 exact⟨x,_,hx,z,dr_ext hj hC D H (by decide) rfl⟩
theorem summed {T:Tr}(hT:T.Ok){α:Type}{l:List α}{x:X}{en:Sn}{L:α->List SV}(run:(T.paths.all λtr=>JQ tr.length 3&&l.any λb=>chkL (sX ⟨nvD (pk0 sc) (cOf ks.length) tr,callS (nvD (pk0 sc) (cOf ks.length) tr) d⟩ x en (0,[])) (L b))=true)
  (h:Hp σ j t) (ht:t≤900) (hC:Cl σ) (hk:KnL σ j ks) (hv:clL σ.length vs=true) {en' : En} (he:∀ hs,en.dn (drD σ j hs ks vs)=en') {ts:α->List Tk} (hL:∀ hs b,denC (drD σ j hs ks vs) (L b)=(ts b).map tkV) :
  ∃ (b:α) (i:Nat) (σ' : Store),b∈l∧ev (pc sc (k+d)) x en' σ=some (.ref i,σ')∧σ.length≤i∧σ'[i]? = some (.list ((ts b).map tkV))∧Ext j σ σ' (t+3):=by
 have hj:=h.lt
 obtain⟨tr,m1,hs,D,z0⟩:=dr0 hT h hC
 obtain⟨c1,c2⟩:=and2 (alT run tr m1)
 refine xe12 (List.any_eq_true.mp c2) λb hb c3=>?_
 refine xe34 (chkL_is c3) λi q n r1 r2 r3 r4=>?_
 have c1:=leB c1
 have H:DnOk (drD σ j hs ks vs) (nvD (pk0 sc) (cOf ks.length) tr):=drD_ok hC hj hk hv
 have z:=(sX_is (seD H hj D (ad2 ht c1 rfl) k d) x).m _ _ _ _ r1
 rw[z0,he] at z
 refine⟨b,σ.length+i,_,hb,z,QG _ _,?_,dr_ext hj hC D H r4 r2⟩
 refine(getN H (q,n) i).trans ?_
 show KZ _ n[i]? = _
 rw[r3]
 exact congrArg (λl=>some (AO.list l)) (hL hs b)
end
end
section
open PySem.SeqAt
open Rdr
theorem gcExt {j t:Nat}{σ τ:Store}(e:Ext j σ τ t)(hj:j<σ.length)(v:AV):∃ τ',gc σ.length (some (v,τ))=some (v,τ')∧Ext j σ τ' t∧∀ i o,(∀ m,clA m v=true->i<m)->τ[i]? = some o->τ'[i]? = some o:=by
 have key:∀ M,σ.length≤M->gc1 M (v,τ)=true->Ext j σ (τ.take M) t∧∀ i o,(∀ m,clA m v=true->i<m)->τ[i]? = some o->(τ.take M)[i]? = some o:=λM hM hg=>by
  have hg:=and2 hg;refine⟨⟨?_,λi h1 h2=>(VG (ltL h2 hM)).trans (e.old i h1 h2),?_,let ⟨h,g,r⟩:=e.hp; ⟨h,(VG (ltL hj hM)).trans g,r⟩⟩,λi o hi g=>(VG (hi M hg.1)).trans g⟩
  · rw[HM];have:=e.le;exact Nat.le_min.mpr ⟨hM,this⟩
  · by_cases hl:M≤τ.length
    · show clS (τ.take M).length _=true
      rw[HM,Nat.min_eq_left hl];exact hg.2
    · rw[J7 (Nat.le_of_not_le hl)]
      exact e.cl
 by_cases h1:gc1 σ.length (v,τ)=true
 · exact⟨_,congrArg some (if_pos h1),key σ.length (QN _) h1⟩
 · by_cases h2:gc1 (σ.length+1) (v,τ)=true
   · exact⟨_,congrArg some ((if_neg h1).trans (if_pos h2)),key (σ.length+1) (HK _) h2⟩
   · exact⟨τ,congrArg some ((if_neg h1).trans (if_neg h2)),e,λZ Z Z g=>g⟩
theorem tup_ref {i:Nat}{v:AV}(m:Nat)(h:clA m (.tup [.ref i,v])=true):i<m:=of_decide_eq_true (and2 h).1
theorem Ext.set {j δ t:Nat}{σ τ:Store}{o:AO}(e:Ext j σ τ t)(h1:σ.length≤δ)(h2:δ≠j)(hd:δ<τ.length)(ho:clO τ.length o=true):Ext j σ (τ.set δ o) t where
 le:=by rw[J2];exact e.le
 old i h3 h4:=(JW (Qj (ltL h4 h1))).trans (e.old i h3 h4)
 cl:=by
  show clS _ _=true;rw[J2];exact Lv ho τ e.cl hd
 hp:=let ⟨h,g,r⟩:=e.hp; ⟨h,(JW h2).trans g,r⟩
def bdB:Y:=whB (nthY 1 b_L_bounds)
noncomputable def bdX:X:=.call (.val (.glob (.ref 815))) (.cons (.loc 0) (.cons (.tup (.cons (.tup .nil) (.cons (.tup .nil) (.cons (.tup (.cons (.val (.str "BEFORE")) .nil)) (.cons (.tup (.cons (.val (.str "AFTER")) .nil)) (.cons (.tup (.cons (.val (.str "BEFORE")) (.cons (.val (.str "AFTER")) .nil))) (.cons (.tup (.cons (.val (.str "AFTER")) (.cons (.val (.str "BEFORE")) .nil))) .nil))))))) .nil))
noncomputable def bdR:Y:=.cons (.ret (.tup (.cons (.loc 1) (.cons (.tup (.cons (.sub (.loc 2) (.val (.str "BEFORE"))) (.cons (.sub (.loc 2) (.val (.str "AFTER"))) .nil))) .nil)))) .nil
def bdSum:X:=setX (nthY 1 bdB)
noncomputable def txC:X:=.call (.val (.glob (.ref 836))) (.cons (.loc 0) .nil)
theorem bd_eq:b_L_bounds = .cons (.pair 1 2 (.tup (.cons (.lst .nil) (.cons (.dict2 "BEFORE" "AFTER") .nil)))) (.cons (.for (.name 3) bdX bdB) bdR):=rfl
theorem bdB_eq:bdB = .cons (.setT 2 (.cons (.name 4) (.cons (.sub (.loc 2) (.loc 3)) .nil)) txC) (.cons (.set 1 bdSum) .nil):=rfl
noncomputable def bwd (w:Bool):Str:=if w then "BEFORE" else "AFTER"
noncomputable def bws:List (List Bool):=[[],[],[true],[false],[true,false],[false,true]]
noncomputable def bwS (ws:List Bool):SV:=.tup (ws.map λw=>liftStr (bwd w))
noncomputable def bwV (ws:List Bool):AV:=.tup (ws.map λw=>.str (bwd w))
theorem bw_is (D:Dn)(ws:List Bool):den D (bwS ws)=bwV ws:=by
 show AV.tup (denM D (ws.map _))=AV.tup _
 rw[Uv,VZ]
 exact congrArg AV.tup (G5 λw Z=>JM _)
theorem bw_run (sc:ScT):((pickT 6).paths.all λtr=>JQ tr.length 3&&bws.any λx=>chk (runD sc tr 2 815 [.tup (bws.map bwS)]) (bwS x) 1)=true:=by kernel_rfl
def bwT (w b:Bool):List SV:=.sp 0::((wtk (bwd w)::ini b).map tkSV++[.sp 1])
theorem bs_run (sc:ScT):([true,false].all λw=>((pickT 2).paths.all λtr=>JQ tr.length 3&&[true,false].any λb=>chkL (sX ⟨nvD (pk0 sc) (cOf 2) tr,callS (nvD (pk0 sc) (cOf 2) tr) 3⟩ bdSum ⟨[some (.at 0),some (.kn 0),some (.at 1),some (liftStr (bwd w)),some (.kn 1)],[]⟩ (0,[])) (bwT w b)))=true:=by kernel_rfl
section
variable {e:Pc}{en en₁ enB:En}{σ σ₁ σ₂ σC:Store}{x y o i:X}{u v w b:AV}
end
theorem bdNd:[("BEFORE" : Str),"AFTER"].Nodup:=by decide +kernel
noncomputable abbrev bdD (vb va:AV):AO:=.dict [("BEFORE",vb),("AFTER",va)]
noncomputable abbrev bdV (w:Bool) (x vb va:AV):AO:=bdD (if w then x else vb) (if w then va else x)
structure Bs (σ τ:Store)(j t i δ:Nat)(ts:List Tk)(vb va:AV):Prop where
 e:Ext j σ τ t
 hi:τ[i]? = some (.list (ts.map tkV))
 hd:τ[δ]? = some (bdD vb va)
 i1:σ.length≤i
 d1:σ.length≤δ
 ne:i≠δ
 len:ts.length≤900
 cb:∀ m,clA m vb=true
 ca:∀ m,clA m va=true
section
variable (sc:ScT){σ τ:Store}{k n j t i δ:Nat}{ts:List Tk}{vb va:AV}
noncomputable abbrev bdEn (j i δ:Nat) (l3 l4:Option AV):En:=⟨[some (.ref j),some (.ref i),some (.ref δ),l3,l4],[]⟩
theorem bd_step (B:Bs σ τ j t i δ ts vb va)(ht:t≤700)(hl:ts.length≤100){w:Bool}(hj:j<σ.length){l4:Option AV} :
  ∃ (p:Bool×Tx) (i' : Nat) (m:Option AV) (τ' : Store),p.2.Is∧evS (pc sc (k+5)) bdB (bdEn j i δ (some (.str (bwd w))) l4) τ=some (.next,bdEn j i' δ (some (.str (bwd w))) m,τ') ∧
   Bs σ τ' j (t+6) i' δ (ts++bpart (bwd w) (some p)) (if w then p.2.val else vb) (if w then va else p.2.val):=by
 refine xe35 (WW sc (k:=k) B.e.hp (adL 0 ht rfl) B.e.cl) λx m τA hx q1 hm om x1=>?_
 have jδ:δ≠j:=Qj (ltL hj B.d1)
 have il:=(QQ.mp B.hi).1
 have dl:=(QQ.mp B.hd).1
 have d1:=x1.keep B.hd jδ
 have s1:setItemF (.ref δ) (.str (bwd w)) x.val τA=some (τA.set δ (bdV w x.val vb va)):=onDs d1 (by cases w<;>exact if_pos ⟨leB rfl,bdNd⟩)
 have x2:=(B.e.trans x1).set B.d1 jδ (QQ.mp d1).1 (o:=bdV w x.val vb va) (by
  cases w
  · exact anI ⟨B.cb _,anI ⟨Tx.cl,rfl⟩⟩
  · exact anI ⟨Tx.cl,anI ⟨B.ca _,rfl⟩⟩)
 have i2:=(JW (a:=bdV w x.val vb va) B.ne.symm).trans (x1.keep B.hi (Qj (ltL hj B.i1)))
 have m2:=(JW (a:=bdV w x.val vb va) (VV (ltL dl hm))).trans om
 have dd:(τA.set δ (bdV w x.val vb va))[δ]? = some (bdV w x.val vb va):=J1 (QQ.mp d1).1
 generalize τA.set δ (bdV w x.val vb va)=τB at s1 x2 i2 m2 dd
 have xl:=L4 x
 have ij:=Qj (ltL hj B.i1)
 have mj:=Qj (ltL hj (QJ B.e.le hm))
 obtain⟨b,i',τC,-,q2,h2,o2,x3⟩:=summed sc (k:=k+2) (d:=3) (ks:=[(i,ts),(m,x.toks)]) (vs:=[.ref δ]) (T:=pickT 2) ⟨by decide,by decide,λZ=>trivial⟩ (alT (bs_run sc) w (by cases w<;>decide)) x2.hp (adL 3 ht rfl) x2.cl ⟨⟨ij,i2,QJ hl (by decide)⟩,⟨mj,m2,QJ xl (by decide)⟩,trivial⟩
  (anI ⟨decide_eq_true (QQ.mp dd).1,rfl⟩) (en' := bdEn j i δ (some (.str (bwd w))) (some (.ref m))) (λhs=>congrArg (λy=>bdEn j i δ (some y) (some (.ref m))) (JM _)) (ts:=λb=>ts++bpart (bwd w) (some (b,x))) λhs b=>by
   show ts.map tkV++denC _ ((wtk (bwd w)::ini b).map tkSV++[.sp 1])=_;rw[Ux,GK,Q5]
   refine congrArg (ts.map tkV++·) ?_;show _++(x.toks.map tkV++[])=List.map tkV ((wtk (bwd w)::ini b)++x.toks)
   rw[Q5,QX]
 refine⟨(b,x),i',some (.ref m),τC,hx,?_,⟨(x2.trans x3).mono (QN _),o2,x3.keep dd jδ,QJ x2.le h2,B.d1,Qj (ltL (QQ.mp dd).1 h2),?_,?_,?_⟩⟩
 · rw[bdB_eq]
   exact zSeq (WV (Vj rfl (JG rfl rfl) q1) rfl (zASub rfl rfl s1)) (zSeq (zSet q2) rfl)
 · have:=M9 (bwd w) (some (b,x))
   rw[QV];exact ad2 hl this rfl
 · cases w
   · exact B.cb
   · exact λZ=>Tx.cl
 · cases w
   · exact λZ=>Tx.cl
   · exact B.ca
noncomputable def bnd1 (w:Bool) (p:Bool×Tx):Bnd:=⟨if w then some p else none,if w then none else some p,true⟩
noncomputable def bnd2 (w:Bool) (p q:Bool×Tx):Bnd:=⟨if w then some p else some q,if w then some q else some p,w⟩
theorem bd_loop {ws:List Bool}(hws:ws∈bws)(B:Bs σ τ j t i δ [] .none .none)(ht:t≤600)(hj:j<σ.length) :
  ∃ (x:Bnd) (i' : Nat) (m3 m4:Option AV) (τ' : Store),x.Is∧forM (evA (pc sc (k+5)) (.name 3)) (evS (pc sc (k+5)) bdB) (.tup (ws.map λw=>.str (bwd w))) 1000 0 (bdEn j i δ none none) τ=some (.next,bdEn j i' δ m3 m4,τ') ∧
   Bs σ τ' j (t+12) i' δ x.toks (partV x.b) (partV x.a):=by
 have none' : ws=[]->∃ (x:Bnd) (i' : Nat) (m3 m4:Option AV) (τ' : Store),x.Is∧forM (evA (pc sc (k+5)) (.name 3)) (evS (pc sc (k+5)) bdB) (.tup (ws.map λw=>.str (bwd w))) 1000 0 (bdEn j i δ none none) τ=some (.next,bdEn j i' δ m3 m4,τ')∧Bs σ τ' j (t+12) i' δ x.toks (partV x.b) (partV x.a):=λe=>by
  subst e;exact⟨bn0,i,none,none,τ,⟨trivial,trivial⟩,zDone (n:=999) rfl,{ B with e:=B.e.mono (QG _ _) }⟩
 have one:∀ w,ws=[w]->∃ (x:Bnd) (i' : Nat) (m3 m4:Option AV) (τ' : Store),x.Is∧forM (evA (pc sc (k+5)) (.name 3)) (evS (pc sc (k+5)) bdB) (.tup (ws.map λw=>.str (bwd w))) 1000 0 (bdEn j i δ none none) τ=some (.next,bdEn j i' δ m3 m4,τ')∧Bs σ τ' j (t+12) i' δ x.toks (partV x.b) (partV x.a):=λw e=>by
  subst e;refine xe43 (bd_step sc (k:=k) B (adL 0 ht rfl) (Q4 _) (w:=w) hj (l4:=none)) λp i' m τ' hp q B'=>?_
  refine⟨bnd1 w p,i',_,m,τ',?_,Lk (k:=0) (n:=999) rfl rfl q (zDone (n:=998) rfl),?_⟩
  · cases w<;>first|exact⟨trivial,hp⟩|exact⟨hp,trivial⟩
  · have B' := { B' with e:=B'.e.mono (show t+6≤t+12 from adC 6 12 rfl) }
    cases w
    · exact B'
    · have e:(bnd1 true p).toks=[]++bpart (bwd true) (some p):=QX _
      rw[e];exact B'
 have two:∀ w,ws=[w,!w]->∃ (x:Bnd) (i' : Nat) (m3 m4:Option AV) (τ' : Store),x.Is∧forM (evA (pc sc (k+5)) (.name 3)) (evS (pc sc (k+5)) bdB) (.tup (ws.map λw=>.str (bwd w))) 1000 0 (bdEn j i δ none none) τ=some (.next,bdEn j i' δ m3 m4,τ')∧Bs σ τ' j (t+12) i' δ x.toks (partV x.b) (partV x.a):=λw e=>by
  subst e;refine xe43 (bd_step sc (k:=k) B (adL 0 ht rfl) (Q4 _) (w:=w) hj (l4:=none)) λp i' m τ' hp q B'=>?_
  have bl:=M9 (bwd w) (some p);refine xe43 (bd_step sc (k:=k) B' (adL 6 ht rfl) (QJ bl (by decide)) (w := !w) hj (l4:=m)) λp' iB mB τB hp' q' BB=>?_
  refine⟨bnd2 w p p',iB,_,mB,τB,?_,Lk (k:=0) (n:=999) rfl rfl q (Lk (k:=1) (n:=998) rfl rfl q' (zDone (n:=997) rfl)),?_⟩
  · cases w<;>first|exact⟨hp',hp⟩|exact⟨hp,hp'⟩
  · cases w<;>exact BB
 simp only[bws,U8,Uz,or_false] at hws
 rcases hws with e|e|e|e|e|e
 · exact none' e
 · exact none' e
 · exact one _ e
 · exact one _ e
 · exact two _ e
 · exact two _ e
theorem RX (h:Hp σ j t)(ht:t≤500)(hC:Cl σ):∃ (x:Bnd) (i:Nat) (σ' : Store),x.Is∧callN (pk0 sc) (k+6) (.glob (.ref 843)) [.ref j] σ=some (.tup [.ref i,.tup x.val],σ')∧σ.length≤i∧σ'[i]? = some (.list (x.toks.map tkV))∧Ext j σ σ' (t+15):=by
 have hj:=h.lt
 have x0:Ext j σ (σ++[.list [],bdD .none .none]) t:=(Ext.refl h hC).app rfl
 refine xe23 (picked sc (k:=k+3) (m:=6) (by decide) (bw_run sc) x0.hp (adL 0 ht rfl) x0.cl bw_is) λws σ₁ hw q1 x1=>?_
 have i1:σ₁[σ.length]? = some (.list (([]:List Tk).map tkV)):=x1.keep (by rw[← V3 σ.length,VN];rfl) (Qj hj)
 have d1:σ₁[σ.length+1]? = some (bdD .none .none):=x1.keep (VN (i:=1)) (ar20 hj)
 have B:Bs σ σ₁ j (t+3) σ.length (σ.length+1) [] .none .none:=⟨x0.trans x1,i1,d1,QN _,HK _,VV (J3 _),Q4 _,λZ=>rfl,λZ=>rfl⟩
 refine xe53 (bd_loop sc (k:=k) hw B (adL 3 ht rfl) hj) λx i' m3 m4 τ' hx q2 B'=>?_
 refine xe13 (gcExt B'.e hj (.tup [.ref i',.tup x.val])) λτ'' g1 g2 g3=>?_
 refine⟨x,i',τ'',hx,?_,B'.i1,g3 _ _ tup_ref B'.hi,g2⟩
 have qx:ev (pc sc (k+5)) bdX (bdEn j σ.length (σ.length+1) none none) (σ++[.list [],bdD .none .none])=some (bwV ws,σ₁):=Vj rfl (JG rfl (JG rfl rfl)) q1
 have step:evS (pc sc (k+5)) b_L_bounds ⟨[some (.ref j),none,none,none,none],[]⟩ σ=some (.ret (.tup [.ref i',.tup x.val]),bdEn j i' (σ.length+1) m3 m4,τ'):=by
  rw[bd_eq];refine zSeq (en₁:=bdEn j σ.length (σ.length+1) none none) (σ₁:=σ++[.list [],bdD .none .none]) ?_ (zSeq (zFor qx rfl q2) ?_)
  · refine zPair (zTup2 (u:=.ref σ.length) (σ₁:=σ++[.list []]) (v:=.ref (σ.length+1)) (σ₂:=σ++[.list [],bdD .none .none]) zL0 ?_)
    show some (AV.ref (σ++[AO.list []]).length,(σ++[AO.list []])++[_])=_;rw[QV,QW];rfl
  · exact zRet (zTup2 rfl (zTup2 (zSub rfl rfl (onDs B'.hd rfl)) (zSub rfl rfl (onDs B'.hd rfl))))
 have run:runE e_L_bounds (evS (pc sc (k+5)) b_L_bounds) [.ref j] σ=some (.tup [.ref i',.tup x.val],τ'):=by
  unfold runE runB;rw[if_pos ⟨leB rfl,leB rfl⟩]
  exact on3s step rfl
 rw[c_L_bounds,run]
 exact g1
end
end
section
open PySem.SeqAt
open Rdr
structure Lp (σ τ:Store)(j t i ρ:Nat)(ts:List Tk)(acc:List AV):Prop where
 e:Ext j σ τ t
 hi:τ[i]? = some (.list (ts.map tkV))
 hr:τ[ρ]? = some (.list acc)
 i1:σ.length≤i
 r1:σ.length≤ρ
 ne:i≠ρ
 ac:∀ m,clL m acc=true
noncomputable abbrev rowEn (j i ρ:Nat) (l3:Option AV) (ms:List (Option AV)):En:=⟨some (.ref j)::some (.ref i)::some (.ref ρ)::l3::ms,[]⟩
noncomputable def opC (q:Nat):X:=.ite (.cmp .Eq (.loc q) (.val (.str "CHARACTERS"))) (.tup (.cons (.lst .nil) (.cons (.val .none) .nil))) txC
def ctB:Y:=forRB (nthY 1 b_L_counted)
def exB:Y:=forRB (nthY 1 b_L_exchanged)
def ctSum:X:=setX (nthY 4 ctB)
def exSum:X:=setX (nthY 4 exB)
noncomputable def rowX (a b c d:X):Y:=.expr (.meth (.loc 2) "append" (.cons (.tup (.cons a (.cons b (.cons c (.cons (.sub d (.val (.int 0))) (.cons (.sub d (.val (.int 1))) .nil)))))) .nil))
noncomputable def retX:Y:=.cons (.ret (.tup (.cons (.loc 1) (.cons (.call (.val (.glob (.type "tuple"))) (.cons (.loc 2) .nil)) .nil)))) .nil
noncomputable def mnyX (m:Nat):X:=.bin .Add (.val (.int 1)) (.call (.val (.glob (.ref 808))) (.cons (.loc 0) (.cons (.val (.int m)) .nil)))
noncomputable def twoL:X:=.tup (.cons (.lst .nil) (.cons (.lst .nil) .nil))
noncomputable def stC (ws:List Str):X:=ws.foldr (λw x=>.cons (.val (.str w)) x) .nil
noncomputable def pkC (ws:List Str):X:=.call (.val (.glob (.ref 815))) (.cons (.loc 0) (.cons (.tup (stC ws)) .nil))
noncomputable def ctW:List Str:=["ALL","LEADING","CHARACTERS"]
noncomputable def exW:List Str:=["ALL","FIRST","CHARACTERS","LEADING"]
theorem ct_eq:b_L_counted = .cons (.pair 1 2 twoL) (.cons (.forR (.name 3) (mnyX 3) ctB) retX):=rfl
theorem ex_eq:b_L_exchanged = .cons (.pair 1 2 twoL) (.cons (.forR (.name 3) (mnyX 2) exB) retX):=rfl
noncomputable abbrev two2 (a b:Nat) (x:X):Y:=.setT 2 (.cons (.name a) (.cons (.name b) .nil)) x
noncomputable def itC:X:=.call (.val (.glob (.ref 829))) (.cons (.loc 0) .nil)
noncomputable def bdC:X:=.call (.val (.glob (.ref 843))) (.cons (.loc 0) .nil)
theorem ctB_eq:ctB = .cons (two2 4 5 itC) (.cons (.set 6 (pkC ctW)) (.cons (two2 7 8 (opC 6)) (.cons (two2 9 10 bdC) (.cons (.set 1 ctSum) (.cons (rowX (.loc 5) (.loc 6) (.loc 8) (.loc 10)) .nil))))):=rfl
theorem exB_eq:exB = .cons (.set 4 (pkC exW)) (.cons (two2 5 6 (opC 4)) (.cons (two2 7 8 txC) (.cons (two2 9 10 bdC) (.cons (.set 1 exSum) (.cons (rowX (.loc 4) (.loc 6) (.loc 8) (.loc 10)) .nil))))):=rfl
theorem ctW_run (sc:ScT):((pickT 3).paths.all λtr=>JQ tr.length 3&&ctW.any λx=>chk (runD sc tr 2 815 [.tup (ctW.map liftStr)]) (liftStr x) 1)=true:=by kernel_rfl
theorem exW_run (sc:ScT):((pickT 4).paths.all λtr=>JQ tr.length 3&&exW.any λx=>chk (runD sc tr 2 815 [.tup (exW.map liftStr)]) (liftStr x) 1)=true:=by kernel_rfl
def ctL (w:Str):List SV:=.sp 0::.sp 1::([wtk "FOR",wtk w].map tkSV++[.sp 2,.sp 3])
def exL (w:Str):List SV:=.sp 0::([wtk w].map tkSV++.sp 1::([wtk "BY"].map tkSV++[.sp 2,.sp 3]))
theorem ctS_run (sc:ScT):(ctW.all λw=>(Tr.leaf.paths.all λtr=>JQ tr.length 3&&[()].any λZ=>chkL (sX ⟨nvD (pk0 sc) (cOf 4) tr,callS (nvD (pk0 sc) (cOf 4) tr) 3⟩ ctSum ⟨[some (.at 0),some (.kn 0),some (.at 1),some (.at 2),some (.kn 1),some (.at 3),some (liftStr w),some (.kn 2),some (.at 4),some (.kn 3),some (.at 5)],[]⟩ (0,[])) (ctL w)))=true:=by kernel_rfl
theorem exS_run (sc:ScT):(exW.all λw=>(Tr.leaf.paths.all λtr=>JQ tr.length 3&&[()].any λZ=>chkL (sX ⟨nvD (pk0 sc) (cOf 4) tr,callS (nvD (pk0 sc) (cOf 4) tr) 3⟩ exSum ⟨[some (.at 0),some (.kn 0),some (.at 1),some (.at 2),some (liftStr w),some (.kn 1),some (.at 3),some (.kn 2),some (.at 4),some (.kn 3),some (.at 5)],[]⟩ (0,[])) (exL w)))=true:=by kernel_rfl
theorem c_append {p:Pk}{n:Nat}{l:List AV}{τ:Store}:callN p (n+1) (.glob (.builtin "list.append")) l τ=gc τ.length (appendF l τ):=rfl
theorem c_tuple {p:Pk}{n:Nat}{l:List AV}{τ:Store}:callN p (n+1) (.glob (.type "tuple")) l τ=gc τ.length (withS τ (tupleF l τ)):=rfl
theorem qH {m:Nat}{a:AV}(h' : clA m a=true):∀ {l:List AV},clL m l=true->clL m (l++[a])=true
 | [],_=>Jj h' rfl
 |_::_,h=>Jj (and2 h).1 (qH h' (and2 h).2)
section
variable (sc:ScT){σ τ:Store}{k n j t i ρ:Nat}{ts:List Tk}{acc:List AV}
theorem op_drawn {q:Nat}(h:Hp τ j t)(ht:t≤800)(hC:Cl τ){w:Str}{en:En}(h0:∀ s,ev (pc sc (k+5)) (.loc 0) en s=some (.ref j,s))(hq:∀ s,ev (pc sc (k+5)) (.loc q) en s=some (.str w,s)) :
  ∃ (o:Option Tx) (i:Nat) (τ' : Store),OpIs o∧(o=none↔w = "CHARACTERS")∧ev (pc sc (k+5)) (opC q) en τ=some (.tup [.ref i,opAV o],τ')∧τ.length≤i∧τ'[i]? = some (.list ((opT o).map tkV))∧Ext j τ τ' (t+3):=by
 have t1:∀ c,(w==PySem.Str.ofString "CHARACTERS")=c->tested (ev (pc sc (k+5)) (.cmp .Eq (.loc q) (.val (.str "CHARACTERS")))) truthF2 en τ=some (c,τ):=λc e=>by
  rw[← e,← Bool.xor_false (w==_),Bool.xor_comm];exact H6 (zCmp (hq τ) rfl rfl) rfl
 by_cases e:w = "CHARACTERS"
 · refine⟨none,τ.length,τ++[.list []],trivial,⟨λZ=>e,λZ=>rfl⟩,zIteT (t1 true (beq_iff_eq.mpr e)) (zTup2 (v:=.none) (σ₂:=τ++[.list []]) zL0 rfl),QN _,by rw[← V3 τ.length,VN];rfl,((Ext.refl h hC).app rfl).mono (QG _ _)⟩
 · obtain⟨x,i,τ',hx,q1,hi,ho,x1⟩:=WW sc (k:=k) h (adL 0 ht rfl) hC
   exact⟨some x,i,τ',hx,⟨(λh=>nomatch h),λh=>absurd h e⟩,zIteF (t1 false (beq_eq_false_iff_ne.mpr e)) (Vj rfl (JG (h0 τ) rfl) q1),hi,ho,x1⟩
theorem row_put (L:Lp σ τ j t i ρ ts acc)(hj:j<σ.length)(hn:acc.length≤10){a b c d:X}{en:En}{u v w y z:AV}(ha:ev (pc sc (k+1)) a en τ=some (u,τ))(hb:ev (pc sc (k+1)) b en τ=some (v,τ))(hc:ev (pc sc (k+1)) c en τ=some (w,τ))(hd:ev (pc sc (k+1)) d en τ=some (.tup [y,z],τ))(h2:ev (pc sc (k+1)) (.loc 2) en τ=some (.ref ρ,τ))
  (cu:∀ m,clA m (.tup [u,v,w,y,z])=true) :
  ∃ τ',evS (pc sc (k+1)) (.cons (rowX a b c d) .nil) en τ=some (.next,en,τ')∧Lp σ τ' j t i ρ ts (acc++[.tup [u,v,w,y,z]]):=by
 have s0:=zSub hd (y:=.val (.int 0)) rfl (u:=y) rfl
 have s1:=zSub hd (y:=.val (.int 1)) rfl (u:=z) rfl
 have cO:clO τ.length (.list (acc++[.tup [u,v,w,y,z]]))=true:=qH (cu τ.length) (L.ac τ.length)
 have hl:(τ.set ρ (.list (acc++[.tup [u,v,w,y,z]]))).length≤τ.length:=Q9 (J2 ..)
 exact⟨τ.set ρ (.list (acc++[.tup [u,v,w,y,z]])),zSeq (on2s (Ww h2 (onILl L.hr (on1s Kx rfl)) (JG (on2s (JG ha (JG hb (JG hc (JG s0 (JG s1 rfl))))) rfl) rfl) (c_append.trans ((congrArg (gc _) (onLs L.hr (if_pos (QJ hn (by decide))))).trans (gcId hl)))) rfl) rfl,
  ⟨L.e.set L.r1 (Qj (ltL hj L.r1)) (QQ.mp L.hr).1 cO,(JW L.ne.symm).trans L.hi,J1 (QQ.mp L.hr).1,L.i1,L.r1,L.ne,λm=>qH (cu m) (L.ac m)⟩⟩
theorem drew {m:Nat}(h:Hp σ j t)(hC:Cl σ)(ht:t≤900)(m0:0<m)(m1:m≤12):∃ (d:Nat) (σ' : Store),d<m∧callN (pk0 sc) (k+1) (.glob (.ref 808)) [.ref j,.int m] σ=some (.int d,σ')∧Ext j σ σ' (t+1):=by
 refine xe12 h λh0 g o=>?_
 have hj:=(QQ.mp g).1
 refine⟨h0.got m,σ.set j (h0.next m).o,Hn.got_lt m0,draw_run sc g o (adL 0 ht rfl) m0 m1,Q9 (J2 ..).symm,λi h1 Z=>JW (Ne.symm h1),?_,_,J1 hj,o.next⟩
 show clS _ _=true
 rw[J2];exact Lv rfl σ hC hj
theorem lenZ {α:Type}{l:List α}{n:Nat}{P:Prop}(h:l.length=n+1)(k:∀ a r,l=a::r->r.length=n->P):P:=by
 cases l with
 |nil=>exact absurd h (Nat.succ_ne_zero n).symm
 |cons a r=>exact k a r rfl (Nat.succ.inj h)
theorem len7 {α:Type}{l:List α}(h:l.length=7):∃ a b c d e f g,l=[a,b,c,d,e,f,g]:=
 lenZ h λa Z e1 h=>lenZ h λb Z e2 h=>lenZ h λc Z e3 h=>lenZ h λd Z e4 h=>lenZ h λe Z e5 h=>lenZ h λf Z e6 h=>lenZ h λg Z e7 h=>
  ⟨a,b,c,d,e,f,g,by rw[e1,e2,e3,e4,e5,e6,e7,List.length_eq_zero_iff.mp h]⟩
theorem rows_loop {B:Y}{d0:Nat}{α:Type}{Is:α->Prop}{toks:α->List Tk}{val:α->AV}(hj:j<σ.length)
  (step:∀ {τ:Store} {t i c:Nat} {ts:List Tk} {acc:List AV} {l4 l5 l6 l7 l8 l9 l10:Option AV},Lp σ τ j t i ρ ts acc->t≤400->ts.length≤100->acc.length≤10->∃ (r:α) (i' : Nat) (ms:List (Option AV)) (τ' : Store),Is r∧ms.length=7∧evS (pc sc d0) B (rowEn j i ρ (some (.int c)) [l4,l5,l6,l7,l8,l9,l10]) τ=some (.next,rowEn j i' ρ (some (.int c)) ms,τ') ∧
   Lp σ τ' j (t+30) i' ρ (ts++toks r) (acc++[val r])) (len:∀ r,(toks r).length≤22) {N t0:Nat} (hN:N≤3) (h0:t0≤300) :
  ∀ (d c:Nat) (hd:c+d=N) {τ:Store} {t i:Nat} {ts:List Tk} {acc:List AV} {l3:Option AV} {ms:List (Option AV)} (L:Lp σ τ j t i ρ ts acc) (ht:t≤t0+30 * c) (hl:ts.length≤22 * c) (ha:acc.length=c) (hm:ms.length=7) (f:Nat) (hf:d<f),
   ∃ (rs:List α) (i' : Nat) (l3' : Option AV) (ms' : List (Option AV)) (τ' : Store),rs.length=d∧(∀ r∈rs,Is r)∧forM (evA (pc sc d0) (.name 3)) (evS (pc sc d0) B) (.range N) f c (rowEn j i ρ l3 ms) τ=some (.next,rowEn j i' ρ l3' ms',τ')∧Lp σ τ' j (t0+30 * N) i' ρ (ts++rs.flatMap toks) (acc++rs.map val)
 |0=>λc hd τ t i ts acc l3 ms L ht hl ha hm f hf=>by
  obtain⟨f,rfl⟩:∃ g,f=g+1:=⟨f - 1,ar11 hf⟩;refine⟨[],i,l3,ms,τ,rfl,(λZ h=>nomatch h),zDone (if_neg (ar14 hd)),?_⟩
  rw[show ts++[].flatMap toks=ts from QX _,show acc++[].map val=acc from QX _];exact { L with e:=L.e.mono (hd▸ht) }
 |d+1=>λc hd τ t i ts acc l3 ms L ht hl ha hm f hf=>by
  obtain⟨f,rfl⟩:∃ g,f=g+1:=⟨f - 1,ar11 hf⟩;obtain⟨l4,l5,l6,l7,l8,l9,l10,rfl⟩:=len7 hm
  have cN:c≤3:=QJ (QJ (QG ..) (Q9 hd)) hN;refine xe44 (step (c:=c) (l4:=l4) (l5:=l5) (l6:=l6) (l7:=l7) (l8:=l8) (l9:=l9) (l10:=l10) L (QJ ht (ad2 h0 (JK 30 cN) rfl)) (QJ hl (leL (JK 22 cN) rfl)) (leL (QJ (Q9 ha) cN) rfl)) λr i' ms τ' hr hm' q L'=>?_
  have lr:=len r;refine xe54 (rows_loop hj step len hN h0 d (c+1) (ar1 hd) (l3:=some (.int c)) L' (JU ht 30) (by rw[QV];exact Q6 hl lr) (by rw[QV,ha];rfl) hm' f (V1 hf)) λrs iB l3' ms' τB h1 h2 q' LB=>?_
  have nx:nextF (.range N) c τ=some (some (.int c)):=by
   show (if (c:Int)<(N:Int) then some (some (AV.int c)) else some none)=_;exact if_pos (ar13 hd)
  rw[QW,QW] at LB;exact⟨r::rs,iB,l3',ms',τB,congrArg (· + 1) h1,λx hx=>(mcM hx).elim (λe=>e▸hr) (h2 x),Lk nx rfl q q',LB⟩
theorem Pq {B b:Y}{E:Ent}{m:Nat}{α:Type}{Is:α->Prop}{toks:α->List Tk}{val:α->AV}(hb:b = .cons (.pair 1 2 twoL) (.cons (.forR (.name 3) (mnyX m) B) retX))(hE:∀ l σ,runE E (evS (pc sc (k+6)) b) l σ=runB [false] 10 1 1 [] (evS (pc sc (k+6)) b) l σ)(m0:0<m)(m1:m≤3)
  (h:Hp σ j t) (ht:t≤250) (hC:Cl σ)
  (step:∀ {ρ:Nat} {τ:Store} {t i c:Nat} {ts:List Tk} {acc:List AV} {l4 l5 l6 l7 l8 l9 l10:Option AV},Lp σ τ j t i ρ ts acc->t≤400->ts.length≤100->acc.length≤10->∃ (r:α) (i' : Nat) (ms:List (Option AV)) (τ' : Store),Is r∧ms.length=7∧evS (pc sc (k+6)) B (rowEn j i ρ (some (.int c)) [l4,l5,l6,l7,l8,l9,l10]) τ=some (.next,rowEn j i' ρ (some (.int c)) ms,τ') ∧
   Lp σ τ' j (t+30) i' ρ (ts++toks r) (acc++[val r])) (len:∀ r,(toks r).length≤22) :
  ∃ (rs:List α) (i:Nat) (σ' : Store),(rs≠[]∧rs.length≤m∧∀ r∈rs,Is r)∧gc σ.length (runE E (evS (pc sc (k+6)) b) [.ref j] σ)=some (.tup [.ref i,.tup (rs.map val)],σ')∧σ.length≤i∧σ'[i]? = some (.list ((rs.flatMap toks).map tkV))∧Ext j σ σ' (t+100):=by
 have hj:=h.lt
 have x0:Ext j σ (σ++[.list [],.list []]) t:=(Ext.refl h hC).app rfl
 refine xe23 (drew sc (k:=k+5) (m:=m) x0.hp x0.cl (adL 0 ht rfl) m0 (adL 0 m1 rfl)) λd σ₁ hd q1 x1=>?_
 have L:Lp σ σ₁ j (t+1) σ.length (σ.length+1) [] []:=⟨x0.trans x1,x1.keep (by rw[← V3 σ.length,VN];rfl) (Qj hj),x1.keep (VN (i:=1)) (ar20 hj),QN _,HK _,VV (J3 _),λZ=>rfl⟩
 have d3:1+d≤3:=ar10 (ltL hd m1)
 refine xe54 (rows_loop sc hj step len (N:=1+d) (t0:=t+1) d3 (adL 1 ht rfl) (1+d) 0 (G8 _) (l3:=none) (ms:=QK 7 none) L (QN _) (Q4 _) rfl rfl 1000 (Q1 d3 (leB rfl))) λrs i' l3' ms' τ' h1 h2 q2 L'=>?_
 rw[WX,WX] at L'
 refine xe13 (gcExt L'.e hj (.tup [.ref i',.tup (rs.map val)])) λτ'' g1 g2 g3=>?_
 have hl:(rs.map val).length≤1000000:=by rw[QH,h1];exact leL d3 rfl
 refine⟨rs,i',τ'',⟨λe=>by rw[e] at h1;exact absurd (h1.trans (U6 1 d)) (Nat.succ_ne_zero d).symm,QJ (Q9 h1) (ar10 hd),h2⟩,?_,L'.i1,g3 _ _ tup_ref L'.hi,g2.mono (QJ (VK (JK 30 d3) (t+1)) (adC (t:=t) 91 100 rfl))⟩
 have qm:ev (pc sc (k+6)) (mnyX m) (rowEn j σ.length (σ.length+1) none (QK 7 none)) (σ++[.list [],.list []])=some (.int ((1+d:Nat):Int),σ₁):=zBin rfl (Vj rfl (JG rfl (JG rfl rfl)) q1) (congrArg (λz=>some (AV.int z,σ₁)) (Int.natCast_add 1 d).symm)
 have i1:(0:Int)≤((1+d:Nat):Int):=H0 _
 have i2:((1+d:Nat):Int)≤1000000:=ar15 (leL d3 rfl)
 have qf:evS (pc sc (k+6)) (.forR (.name 3) (mnyX m) B) (rowEn j σ.length (σ.length+1) none (QK 7 none)) (σ++[.list [],.list []])=some (.next,rowEn j i' (σ.length+1) l3' ms',τ'):=zForR qm ⟨i1,i2⟩ q2
 have ql:evS (pc sc (k+6)) retX (rowEn j i' (σ.length+1) l3' ms') τ'=some (.ret (.tup [.ref i',.tup (rs.map val)]),rowEn j i' (σ.length+1) l3' ms',τ'):=
  zRet (zTup2 rfl (Vj rfl (JG rfl rfl) (c_tuple.trans ((congrArg (gc _) (on1s (onLs L'.hr (if_pos hl)) rfl)).trans (gcId (QN _))))))
 have qp:evS (pc sc (k+6)) (.pair 1 2 twoL) ⟨some (.ref j)::QK 10 none,[]⟩ σ=some (.next,rowEn j σ.length (σ.length+1) none (QK 7 none),σ++[.list [],.list []]):=by
  refine zPair (zTup2 (u:=.ref σ.length) (σ₁:=σ++[.list []]) (v:=.ref (σ.length+1)) (σ₂:=σ++[.list [],.list []]) zL0 ?_);show some (AV.ref (σ++[AO.list []]).length,(σ++[AO.list []])++[_])=_
  rw[QV,QW];rfl
 have step' := zSeq qp (zSeq qf ql)
 rw[← hb] at step'
 rw[hE]
 unfold runB
 rw[if_pos ⟨leB rfl,leB rfl⟩]
 exact(congrArg (gc _) (on3s step' rfl)).trans g1
end
end
section
open PySem.SeqAt
open Rdr
theorem tk_of {w:Str}{o:Option Tx}(hw:w∈ctW)(h:o=none↔w = "CHARACTERS"):∃ x:TK,x.word=w∧x.op=o:=by
 cases o with
 |none=>exact⟨.chars,(h.mp rfl).symm,rfl⟩
 |some x=>
  simp only[ctW,U8,Uz,or_false] at hw;rcases hw with e|e|e
  · exact⟨.all x,e.symm,rfl⟩
  · exact⟨.lead x,e.symm,rfl⟩
  · exact absurd (h.mpr e) (λh=>nomatch h)
theorem ek_of {w:Str}{o:Option Tx}(hw:w∈exW)(h:o=none↔w = "CHARACTERS"):∃ x:EK,x.word=w∧x.op=o:=by
 cases o with
 |none=>exact⟨.chars,(h.mp rfl).symm,rfl⟩
 |some x=>
  simp only[exW,U8,Uz,or_false] at hw;rcases hw with e|e|e|e
  · exact⟨.all x,e.symm,rfl⟩
  · exact⟨.first x,e.symm,rfl⟩
  · exact absurd (h.mpr e) (λh=>nomatch h)
  · exact⟨.lead x,e.symm,rfl⟩
section
variable (sc:ScT){σ τ:Store}{k n j t i ρ c:Nat}{ts:List Tk}{acc:List AV}{l4 l5 l6 l7 l8 l9 l10:Option AV}
theorem ct_step (L:Lp σ τ j t i ρ ts acc)(ht:t≤400)(hl:ts.length≤100)(hn:acc.length≤10)(hj:j<σ.length) :
  ∃ (r:Trow) (i' : Nat) (ms:List (Option AV)) (τ' : Store),r.Is∧ms.length=7∧evS (pc sc (k+6)) ctB (rowEn j i ρ (some (.int c)) [l4,l5,l6,l7,l8,l9,l10]) τ=some (.next,rowEn j i' ρ (some (.int c)) ms,τ') ∧
   Lp σ τ' j (t+30) i' ρ (ts++r.toks) (acc++[r.val]):=by
 refine xe35 (P7 sc (k:=k+2) L.e.hp (adL 0 ht rfl) L.e.cl) λx m4 τA hx q1 h4 o4 x1=>?_
 refine xe23 (picked sc (k:=k+4) (m:=3) (by decide) (ctW_run sc) x1.hp (adL 3 ht rfl) x1.cl (val:=.str) λZ=>JM) λw τB hw q2 x2=>?_
 refine xe36 (op_drawn sc (k:=k+1) (q:=6) (j:=j) (w:=w) (en:=rowEn j i ρ (some (.int c)) [some (.ref m4),some x.val,some (.str w),l7,l8,l9,l10]) x2.hp (adL 6 ht rfl) x2.cl (λZ=>rfl) λZ=>rfl) λo m7 τC ho hwo q3 h7 o7 x3=>?_
 refine xe35 (RX sc (k:=k) x3.hp (adL 9 ht rfl) x3.cl) λbd m9 τD hbd q4 h9 o9 x4=>?_
 obtain⟨kk,rfl,rfl⟩:=tk_of hw hwo
 have n1:=ltL hj L.i1
 have n0:=ltL hj L.e.le
 have n4:=ltL n0 h4
 have n7:j<m7:=ltL (ltL n0 (QJ x1.le x2.le)) h7
 have n9:j<m9:=ltL (ltL n0 (QJ (QJ x1.le x2.le) x3.le)) h9
 have e4:=((x1.trans x2).trans x3).trans x4
 have i4:=e4.keep L.hi (Qj n1)
 have r4:=e4.keep L.hr (Qj (ltL hj L.r1))
 have c4:=((x2.trans x3).trans x4).keep o4 (Qj n4)
 have p4:=x4.keep o7 (Qj n7)
 obtain⟨-,i',τ₅,-,q5,h5,o5,x5⟩:=summed sc (k:=k+3) (d:=3) (ks:=[(i,ts),(m4,x.toks),(m7,opT kk.op),(m9,bd.toks)]) (vs:=[.ref ρ,.int c,x.val,opAV kk.op,.tup bd.val]) (T:=.leaf) trivial (alT (ctS_run sc) kk.word hw) x4.hp (adL 24 ht rfl) x4.cl
  ⟨⟨Qj n1,i4,QJ hl (by decide)⟩,⟨Qj n4,c4,QJ (N5 x) (by decide)⟩,⟨Qj n7,p4,QJ (op_len _) (by decide)⟩,⟨Qj n9,o9,QJ (bd_len bd) (by decide)⟩,trivial⟩
  (Jj (decide_eq_true (QQ.mp r4).1) (Jj rfl (Jj Itm.cl (Jj op_cl (Jj (Jj HZ (Jj HZ rfl)) rfl))))) (en' := rowEn j i ρ (some (.int c)) [some (.ref m4),some x.val,some (.str kk.word),some (.ref m7),some (opAV kk.op),some (.ref m9),some (.tup bd.val)])
  (λhs=>congrArg (λy=>rowEn j i ρ (some (.int c)) [some (.ref m4),some x.val,some y,some (.ref m7),some (opAV kk.op),some (.ref m9),some (.tup bd.val)]) (JM _)) (ts:=λZ=>ts++Trow.toks ⟨x,kk,bd⟩) λhs Z=>by
   show ts.map tkV++(x.toks.map tkV++denC _ ([wtk "FOR",wtk kk.word].map tkSV++[.sp 2,.sp 3]))=_
   rw[Ux,GK,show Trow.toks ⟨x,kk,bd⟩=x.toks++([wtk "FOR",wtk kk.word]++(opT kk.op++bd.toks)) from rfl,Q5,Q5,Q5,Q5]
   refine congrArg (λz=>ts.map tkV++(x.toks.map tkV++([wtk "FOR",wtk kk.word].map tkV++((opT kk.op).map tkV++z)))) (QX _)
 have rl:=(QQ.mp r4).1
 have L5:Lp σ τ₅ j (t+30) i' ρ (ts++Trow.toks ⟨x,kk,bd⟩) acc:=⟨((L.e.trans e4).trans x5).mono (adC 27 30 rfl),o5,x5.keep r4 (Qj (ltL hj L.r1)),QJ (QJ L.e.le e4.le) h5,L.r1,Qj (ltL rl h5),L.ac⟩
 refine xe12 (row_put sc (k:=k+5) L5 hj hn (a:=.loc 5) (b:=.loc 6) (c:=.loc 8) (d:=.loc 10) (en:=rowEn j i' ρ (some (.int c)) [some (.ref m4),some x.val,some (.str kk.word),some (.ref m7),some (opAV kk.op),some (.ref m9),some (.tup bd.val)]) rfl rfl rfl rfl rfl λZ=>Trow.cl (r:=⟨x,kk,bd⟩)) λτF q6 L6=>?_
 refine⟨⟨x,kk,bd⟩,i',[some (.ref m4),some x.val,some (.str kk.word),some (.ref m7),some (opAV kk.op),some (.ref m9),some (.tup bd.val)],τF,⟨hx,ho,hbd⟩,rfl,?_,L6⟩
 rw[ctB_eq]
 exact zSeq (WV (Vj rfl (JG rfl rfl) q1) rfl rfl) (zSeq (zSet (Vj rfl (JG rfl (JG rfl rfl)) q2)) (zSeq (WV q3 rfl rfl) (zSeq (WV (Vj rfl (JG rfl rfl) q4) rfl rfl) (zSeq (zSet q5) q6))))
theorem ex_step (L:Lp σ τ j t i ρ ts acc)(ht:t≤400)(hl:ts.length≤100)(hn:acc.length≤10)(hj:j<σ.length) :
  ∃ (r:Rrow) (i' : Nat) (ms:List (Option AV)) (τ' : Store),r.Is∧ms.length=7∧evS (pc sc (k+6)) exB (rowEn j i ρ (some (.int c)) [l4,l5,l6,l7,l8,l9,l10]) τ=some (.next,rowEn j i' ρ (some (.int c)) ms,τ') ∧
   Lp σ τ' j (t+30) i' ρ (ts++r.toks) (acc++[r.val]):=by
 refine xe23 (picked sc (k:=k+4) (m:=4) (by decide) (exW_run sc) L.e.hp (adL 0 ht rfl) L.e.cl (val:=.str) λZ=>JM) λw τA hw q1 x1=>?_
 refine xe36 (op_drawn sc (k:=k+1) (q:=4) (j:=j) (w:=w) (en:=rowEn j i ρ (some (.int c)) [some (.str w),l5,l6,l7,l8,l9,l10]) x1.hp (adL 3 ht rfl) x1.cl (λZ=>rfl) λZ=>rfl) λo m5 τB ho hwo q2 h5 o5 x2=>?_
 refine xe35 (WW sc (k:=k+1) x2.hp (adL 6 ht rfl) x2.cl) λy m7 τC hy q3 h7 o7 x3=>?_
 refine xe35 (RX sc (k:=k) x3.hp (adL 9 ht rfl) x3.cl) λbd m9 τD hbd q4 h9 o9 x4=>?_
 obtain⟨kk,rfl,rfl⟩:=ek_of hw hwo
 have n1:=ltL hj L.i1
 have n0:=ltL hj L.e.le
 have n5:j<m5:=ltL (ltL n0 x1.le) h5
 have n7:j<m7:=ltL (ltL n0 (QJ x1.le x2.le)) h7
 have n9:j<m9:=ltL (ltL n0 (QJ (QJ x1.le x2.le) x3.le)) h9
 have e4:=((x1.trans x2).trans x3).trans x4
 have i4:=e4.keep L.hi (Qj n1)
 have r4:=e4.keep L.hr (Qj (ltL hj L.r1))
 have c4:=(x3.trans x4).keep o5 (Qj n5)
 have p4:=x4.keep o7 (Qj n7)
 obtain⟨-,i',τ₅,-,q5,h6,o6,x5⟩:=summed sc (k:=k+3) (d:=3) (ks:=[(i,ts),(m5,opT kk.op),(m7,y.toks),(m9,bd.toks)]) (vs:=[.ref ρ,.int c,opAV kk.op,y.val,.tup bd.val]) (T:=.leaf) trivial (alT (exS_run sc) kk.word hw) x4.hp (adL 24 ht rfl) x4.cl
  ⟨⟨Qj n1,i4,QJ hl (by decide)⟩,⟨Qj n5,c4,QJ (op_len _) (by decide)⟩,⟨Qj n7,p4,QJ (L4 y) (by decide)⟩,⟨Qj n9,o9,QJ (bd_len bd) (by decide)⟩,trivial⟩
  (Jj (decide_eq_true (QQ.mp r4).1) (Jj rfl (Jj op_cl (Jj Tx.cl (Jj (Jj HZ (Jj HZ rfl)) rfl))))) (en' := rowEn j i ρ (some (.int c)) [some (.str kk.word),some (.ref m5),some (opAV kk.op),some (.ref m7),some y.val,some (.ref m9),some (.tup bd.val)])
  (λhs=>congrArg (λz=>rowEn j i ρ (some (.int c)) [some z,some (.ref m5),some (opAV kk.op),some (.ref m7),some y.val,some (.ref m9),some (.tup bd.val)]) (JM _)) (ts:=λZ=>ts++Rrow.toks ⟨kk,y,bd⟩) λhs Z=>by
   show ts.map tkV++denC _ ([wtk kk.word].map tkSV++.sp 1::([wtk "BY"].map tkSV++[.sp 2,.sp 3]))=_
   rw[Ux,GK,show Rrow.toks ⟨kk,y,bd⟩=[wtk kk.word]++(opT kk.op++([wtk "BY"]++(y.toks++bd.toks))) from rfl,Q5,Q5,Q5,Q5,Q5]
   show ts.map tkV++([wtk kk.word].map tkV++((opT kk.op).map tkV++denC _ ([wtk "BY"].map tkSV++[.sp 2,.sp 3])))=_
   rw[Ux,GK];refine congrArg (λz=>ts.map tkV++([wtk kk.word].map tkV++((opT kk.op).map tkV++([wtk "BY"].map tkV++(y.toks.map tkV++z))))) (QX _)
 have rl:=(QQ.mp r4).1
 have L5:Lp σ τ₅ j (t+30) i' ρ (ts++Rrow.toks ⟨kk,y,bd⟩) acc:=⟨((L.e.trans e4).trans x5).mono (adC 27 30 rfl),o6,x5.keep r4 (Qj (ltL hj L.r1)),QJ (QJ L.e.le e4.le) h6,L.r1,Qj (ltL rl h6),L.ac⟩
 refine xe12 (row_put sc (k:=k+5) L5 hj hn (a:=.loc 4) (b:=.loc 6) (c:=.loc 8) (d:=.loc 10) (en:=rowEn j i' ρ (some (.int c)) [some (.str kk.word),some (.ref m5),some (opAV kk.op),some (.ref m7),some y.val,some (.ref m9),some (.tup bd.val)]) rfl rfl rfl rfl rfl λZ=>Rrow.cl (r:=⟨kk,y,bd⟩)) λτF q6 L6=>?_
 refine⟨⟨kk,y,bd⟩,i',[some (.str kk.word),some (.ref m5),some (opAV kk.op),some (.ref m7),some y.val,some (.ref m9),some (.tup bd.val)],τF,⟨ho,hy,hbd⟩,rfl,?_,L6⟩
 rw[exB_eq]
 exact zSeq (zSet (Vj rfl (JG rfl (JG rfl rfl)) q1)) (zSeq (WV q2 rfl rfl) (zSeq (WV (Vj rfl (JG rfl rfl) q3) rfl rfl) (zSeq (WV (Vj rfl (JG rfl rfl) q4) rfl rfl) (zSeq (zSet q5) q6))))
theorem counted_drawn (h:Hp σ j t)(ht:t≤250)(hC:Cl σ):∃ (rs:List Trow) (i:Nat) (σ' : Store),RowsIs rs∧callN (pk0 sc) (k+7) (.glob (.ref 850)) [.ref j] σ=some (.tup [.ref i,.tup (rs.map Trow.val)],σ')∧σ.length≤i∧σ'[i]? = some (.list ((rowsT rs).map tkV))∧Ext j σ σ' (t+100):=by
 refine xe33 (Pq sc (k:=k) (m:=3) (E:=e_L_counted) ct_eq (λZ Z=>rfl) (by decide) (by decide) h ht hC (λL h1 h2 h3=>ct_step sc L h1 h2 h3 h.lt) L8) λrs i σ' r1 q r2=>?_
 exact⟨rs,i,σ',⟨r1.1,r1.2.1,r1.2.2⟩,q,r2⟩
theorem K6 (h:Hp σ j t)(ht:t≤250)(hC:Cl σ):∃ (rs:List Rrow) (i:Nat) (σ' : Store),ExsIs rs∧callN (pk0 sc) (k+7) (.glob (.ref 857)) [.ref j] σ=some (.tup [.ref i,.tup (rs.map Rrow.val)],σ')∧σ.length≤i∧σ'[i]? = some (.list ((exT rs).map tkV))∧Ext j σ σ' (t+100):=by
 refine xe33 (Pq sc (k:=k) (m:=2) (E:=e_L_exchanged) ex_eq (λZ Z=>rfl) (by decide) (by decide) h ht hC (λL h1 h2 h3=>ex_step sc L h1 h2 h3 h.lt) PG) λrs i σ' r1 q r2=>?_
 exact⟨rs,i,σ',⟨r1.1,r1.2.1,r1.2.2⟩,q,r2⟩
end
end
section
open PySem.SeqAt
open Rdr
theorem pick_ints (ns:List Int):∃ xs:List Int,pickL (ns.map .int) none (some 24)=xs.map .int∧xs.length≤24:=by
 have key:∀ is:List Nat,is.filterMap ((ns.map AV.int)[·]?)=(is.filterMap (ns[·]?)).map .int:=by
  intro is
  induction is with
  |nil=>rfl
  |cons i is ih=>
   rw[Jk,Jk,Q2,ih]
   cases ns[i]? <;> rfl
 refine⟨_,key _,?_⟩
 refine QJ (List.length_filterMap_le _ _) (QJ (sliceRange_len_le _ _ _ (by simp[sliceBounds])) ?_)
 simp[sliceBounds]
 omega
theorem mul_small {a b:Int}(h:JQ (Builtin.Int.intBits a) 64||JQ (Builtin.Int.intBits b) 64):mulOk a b=true:=by
 unfold mulOk shortFactorBits
 rcases Qv.mp h with h|h
 · have h:=leB h
   have:¬ (Builtin.Int.intBits a>64):=ar22 h _ rfl;simp[this]
 · have h:=leB h
   have:¬ (Builtin.Int.intBits b>64):=ar22 h _ rfl;simp[this]
theorem mul_1543 {w:Int}:mulOk w 1543=true:=mul_small (Qv.mpr (.inr (by decide +kernel)))
theorem mul_2 {w:Int}:mulOk 2 w=true:=mul_small (Qv.mpr (.inl (by decide +kernel)))
noncomputable def hpB:Y:=whB (nthY 1 b_L_heap)
noncomputable def hpX:X:=.slice true (.loc 0) .nil (.cons (.val (.int 24)) .nil)
noncomputable def hpR:X:=.lst (.cons (.loc 1) (.cons (.val (.int 0)) (.cons (.bin .Add (.bin .Mult (.val (.int 2)) (.loc 1)) (.val (.int 1))) .nil)))
theorem hp_eq:b_L_heap = .cons (.set 1 (.val (.int 17))) (.cons (.for (.name 2) hpX hpB) (.cons (.ret hpR) .nil)):=rfl
noncomputable def hpAdd (x:Int):Int:=(2 * (if x<0 then -x else x)+(if decide (x<0) then 1 else 0)).fmod 1000000000000000000000000000000000000
def hpNew (w x:Int):Int:=w * 1543+hpAdd x
noncomputable def B36:Int:=1000000000000000000000000000000000000
theorem pow_36 {τ:Store}:binF2 .Pow (.int 10) (.int 36) τ=some (.int B36,τ):=by kernel_rfl
theorem mod_36 {a:Int}{τ:Store}:binF2 .Mod (.int a) (.int B36) τ=some (.int (a.fmod B36),τ):=by
 show (if B36≠0 then some (AV.int (a.fmod B36),τ) else none)=_
 exact if_pos (by decide)
theorem hp_bound {w x P:Int}(hP:0<P)(h0:0≤w)(h:w≤B36 * P):0≤hpNew w x∧hpNew w x≤B36 * (P * 1544):=by
 have h1:0≤hpAdd x:=Int.fmod_nonneg_of_pos _ (by decide)
 have h2:hpAdd x<B36:=Int.fmod_lt_of_pos _ (by decide)
 have h3:B36 * 1≤B36 * P:=Int.mul_le_mul_of_nonneg_left hP (by decide)
 have h4:B36 * (P * 1544)=(B36 * P) * 1544:=(Int.mul_assoc ..).symm
 unfold hpNew
 rw[h4]
 generalize B36 * P=Q at h h3 ⊢
 omega
theorem c_int {p:Pk}{n:Nat}{l:List AV}{τ:Store}:callN p (n+1) (.glob (.type "int")) l τ=gc τ.length (withS τ (intF l)):=rfl
theorem c_abs {p:Pk}{n:Nat}{l:List AV}{τ:Store}:callN p (n+1) (.glob (.builtin "abs")) l τ=gc τ.length (withS τ (absF l)):=rfl
section
variable (sc:ScT){σ τ:Store}{k n i:Nat}
theorem hp_step {w x:Int}{l0:Option AV}:evS (pc sc (k+1)) hpB ⟨[l0,some (.int w),some (.int x)],[]⟩ τ=some (.next,⟨[l0,some (.int (hpNew w x)),some (.int x)],[]⟩,τ):=by
 have g:∀ v:AV,gc τ.length (some (v,τ))=some (v,τ):=λv=>gcId (QN _)
 have a0:ev (pc sc (k+1)) (.call (.val (.glob (.type "int"))) (.cons (.loc 2) .nil)) ⟨[l0,some (.int w),some (.int x)],[]⟩ τ=some (.int x,τ):=Vj rfl (JG rfl rfl) ((c_int (p:=pk0 sc) (n:=k) (l:=[.int x]) (τ:=τ)).trans (g (.int x)))
 have a1:ev (pc sc (k+1)) (.call (.val (.glob (.builtin "abs"))) (.cons (.call (.val (.glob (.type "int"))) (.cons (.loc 2) .nil)) .nil)) ⟨[l0,some (.int w),some (.int x)],[]⟩ τ=some (.int (if x<0 then -x else x),τ):=
  Vj rfl (JG a0 rfl) ((c_abs (p:=pk0 sc) (n:=k) (l:=[.int x]) (τ:=τ)).trans (g (.int (if x<0 then -x else x))))
 have a2:ev (pc sc (k+1)) (.call (.val (.glob (.type "int"))) (.cons (.cmp .Lt (.loc 2) (.val (.int 0))) .nil)) ⟨[l0,some (.int w),some (.int x)],[]⟩ τ=some (.int (if decide (x<0) then 1 else 0),τ):=
  Vj rfl (JG (zCmp rfl rfl (rfl:_=some (AV.bool (decide (x<0)),τ))) rfl) ((c_int (p:=pk0 sc) (n:=k) (l:=[.bool (decide (x<0))]) (τ:=τ)).trans (g (.int (if decide (x<0) then 1 else 0))))
 have a3:ev (pc sc (k+1)) (.bin .Pow (.val (.int 10)) (.val (.int 36))) ⟨[l0,some (.int w),some (.int x)],[]⟩ τ=some (.int B36,τ):=zBin rfl rfl pow_36
 exact zSeq (zSet (zBin (zMul rfl rfl mul_1543) (zBin (zBin (zMul rfl a1 mul_2) a2 rfl) a3 mod_36) rfl)) rfl
theorem hp_loop {l0:Option AV}{all:List Int}(hi:τ[i]? = some (.list (all.map .int))):∀ (ps:List Int) (j:Nat) (ha:all.drop j=ps) {w P:Int} {l2:Option AV} (hP:0<P) (h0:0≤w) (h:w≤B36 * P) (f:Nat) (hf:ps.length<f),
  ∃ w' l2',0≤w'∧w'≤B36 * (P * 1544 ^ ps.length)∧forM (evA (pc sc (k+1)) (.name 2)) (evS (pc sc (k+1)) hpB) (.list i) f j ⟨[l0,some (.int w),l2],[]⟩ τ=some (.next,⟨[l0,some (.int w'),l2'],[]⟩,τ)
 |_,_,_,_,_,_,_,_,_,0,hf=>absurd hf (G3 _)
 | [],j,ha,w,P,l2,hP,h0,h,f+1,hf=>by
  have hj:all[j]? = none:=by rw[← UZ,ha];rfl
  exact⟨w,l2,h0,by rw[show P * 1544 ^ ([]:List Int).length=P from Int.mul_one P];exact h,zDone (onLs hi (by rw[Q2,hj];rfl))⟩
 |x::ps,j,ha,w,P,l2,hP,h0,h,f+1,hf=>by
  have hj:all[j]? = some x:=by rw[← UZ,ha];rfl
  have ha' : all.drop (j+1)=ps:=by rw[← RW,ha];rfl
  obtain⟨b0,b1⟩:=hp_bound (x:=x) hP h0 h;refine xe23 (hp_loop hi ps (j+1) ha' (l2:=some (.int x)) (l0:=l0) (Int.mul_pos hP (by decide)) b0 b1 f (V1 hf)) λw' l2' c0 c1 q=>?_
  refine⟨w',l2',c0,?_,Lk (a:=.int x) (onLs hi (by rw[Q2,hj];rfl)) rfl (hp_step sc) q⟩;rw[Qw,Int.pow_succ,Int.mul_comm (1544 ^ ps.length) 1544,← Int.mul_assoc P]
  exact c1
theorem hp_400 {w:Int}{c:Nat}(hc:c≤24)(h0:0≤w)(h:w≤B36 * (1 * 1544 ^ c)):0≤2 * w+1∧2 * w+1<2 ^ 400:=by
 have h1:(1544:Nat) ^ c≤1544 ^ 24:=Nat.pow_le_pow_right (by decide) hc
 have h2:(1544:Int) ^ c≤1544 ^ 24:=by
  have:((1544 ^ c:Nat):Int)≤((1544 ^ 24:Nat):Int):=Int.ofNat_le.mpr h1
  simpa using this
 rw[Int.one_mul] at h
 have h3:=Int.mul_le_mul_of_nonneg_left h2 (show 0≤B36 by decide)
 have h4:2 * (B36 * 1544 ^ 24)+1<(2:Int) ^ 400:=by decide +kernel
 generalize B36 * (1544:Int) ^ c=Q at h h3
 generalize B36 * (1544:Int) ^ 24=R at h3 h4
 generalize (2:Int) ^ 400=S at h4 ⊢
 omega
theorem clL_ints {m:Nat}:∀ (xs:List Int),clL m (xs.map AV.int)=true
 | []=>rfl
 |_::xs=>clL_ints xs
theorem heap_ok (hl:sc.2.length≤63):∃ τ:Store,callN (pk0 sc) (k+2) (.glob (.ref 801)) [.glob (.ref sc.1)] []=some (.ref 1,τ)∧Hp τ 1 0∧Cl τ:=by
 refine xe12 (pick_ints sc.2) λxs e hx=>?_
 have hi:([.list (xs.map .int)]:Store)[0]? = some (.list (xs.map .int)):=rfl
 refine xe23 (hp_loop sc (k:=k) (l0:=some (.glob (.ref sc.1))) hi xs 0 rfl (w:=17) (P:=1) (l2:=none) (by decide) (by decide) (by decide) 1000 (adL 1 hx rfl)) λw l2 h0 h1 q=>?_
 obtain⟨c0,c1⟩:=hp_400 hx h0 h1
 have c2:Cl [.list (xs.map .int),.list [.int w,.int 0,.int (2 * w+1)]]:=anI ⟨clL_ints xs,rfl⟩
 refine⟨[.list (xs.map .int),.list [.int w,.int 0,.int (2 * w+1)]],?_,⟨⟨w,0,2 * w+1⟩,rfl,h0,Rq _,Rq _,c0,c1⟩,c2⟩
 have qs:ev (pc sc (k+1)) hpX ⟨[some (.glob (.ref sc.1)),some (.int 17),none],[]⟩ []=some (.ref 0,[.list (xs.map .int)]):=by
  refine zSlice (v:=.glob (.ref sc.1)) (σ₁:=[]) rfl ((if_pos ⟨rfl,rfl,QJ hl (by decide)⟩).trans ?_);show some (AV.ref 0,[AO.list (pickL (sc.2.map AV.int) none (some 24))])=_
  rw[e]
 have qr:ev (pc sc (k+1)) hpR ⟨[some (.glob (.ref sc.1)),some (.int w),l2],[]⟩ [.list (xs.map .int)]=some (.ref 1,[.list (xs.map .int),.list [.int w,.int 0,.int (2 * w+1)]]):=
  zLst (l:=[.int w,.int 0,.int (2 * w+1)]) (σ₁:=[.list (xs.map .int)]) (JG rfl (JG rfl (JG (zBin (zMul rfl rfl mul_2) rfl rfl) rfl))) (leB rfl)
 have step:evS (pc sc (k+1)) b_L_heap ⟨[some (.glob (.ref sc.1)),none,none],[]⟩ []=some (.ret (.ref 1),⟨[some (.glob (.ref sc.1)),some (.int w),l2],[]⟩,[.list (xs.map .int),.list [.int w,.int 0,.int (2 * w+1)]]):=by
  rw[hp_eq];exact zSeq (zSet rfl) (zSeq (zFor qs rfl q) (zRet qr))
 have run:runE e_L_heap (evS (pc sc (k+1)) b_L_heap) [.glob (.ref sc.1)] []=some (.ref 1,[.list (xs.map .int),.list [.int w,.int 0,.int (2 * w+1)]]):=by
  unfold runE runB;rw[if_pos ⟨leB rfl,leB rfl⟩]
  exact on3s step rfl
 rw[c_L_heap,run]
 rfl
end
end
section
open PySem.SeqAt
open Rdr
noncomputable def dropY:Nat->Y->Y
 |n+1,.cons _ r=>dropY n r
 |_,y=>y
def lwZ:Y:=dropY 9 b_law
theorem lw_eq:b_law = .cons (.set 1 (.call (.val (.glob (.ref 801))) (.cons (.loc 0) .nil))) (.cons (two2 2 3 (.call (.val (.glob (.ref 829))) (.cons (.loc 1) .nil))) (.cons (two2 4 5 (.call (.val (.glob (.ref 850))) (.cons (.loc 1) .nil))) (.cons (two2 6 7 (.call (.val (.glob (.ref 857))) (.cons (.loc 1) .nil))) (.cons (.set 8 (.call (.val (.glob (.ref 808))) (.cons (.loc 1) (.cons (.val (.int 12)) .nil)))) (.cons (nthY 5 b_law) (.cons (nthY 6 b_law) (.cons (nthY 7 b_law) (.cons .exc lwZ)))))))):=rfl
def lwB:List SV:=tkSV (wtk "INSPECT")::.sp 0::tkSV (wtk "TALLYING")::.sp 1::tkSV (wtk "REPLACING")::[.sp 2]
def lwT:List SV:=tkSV (wtk "INSPECT")::.sp 0::tkSV (wtk "TALLYING")::[.sp 1]
def lwR:List SV:=tkSV (wtk "INSPECT")::.sp 0::tkSV (wtk "REPLACING")::[.sp 2]
def lwRight (m:Nat)(a:Addr)(l:List SV)(st:Ss):Sr:=dep a 883 123 m (on1 l.head? λr=>uL2 l.tail λs d=>on1 (asRef r) λj=>on1 st.2[j]? λL=>if (eqV d (.int 12)||eqV d (.at 5))&&st.2.all (clW st.2.length)&&((eqW L lwB&&eqV s (.tup [liftStr "tally-replace",.at 2,.at 3,.at 4]))||((eqW L lwT&&eqV s (.tup [liftStr "tally",.at 2,.at 3]))||(eqW L lwR&&eqV s (.tup [liftStr "replace",.at 2,.at 4])))) then some (.bool true,st) else none)
def nvL (p:Pk):Nv:={ nvC p λn g l st=>match g with
 | .glob (.ref a)=>orE (lwRight n a l st) (if st.2.all (clW st.2.length) then natW n a l st else none)
 |_=>none with cell:=cOf 3 }
def lwN:List (List SV):=[[tkSV (wtk "INSPECT")],[tkSV (wtk "INSPECT"),.sp 0],[tkSV (wtk "REPLACING")],[tkSV (wtk "TALLYING")],[tkSV (wtk "INSPECT"),.sp 0,tkSV (wtk "TALLYING")],lwT,lwT++[tkSV (wtk "REPLACING")],lwB]
noncomputable def lwLoc (r:List (Option SV)):List (Option SV):=[some (.at 1),some (.at 0),some (.kn 0),some (.at 2),some (.kn 1),some (.at 3),some (.kn 2),some (.at 4),some (.at 5)]++r
noncomputable def lw1:List (Option SV):=[some (.ref 1),some (.ref 2),none,none]
noncomputable def lw2:List (Option SV):=[some (.ref 1),some (.ref 2),some (.ref 7),none]
noncomputable def lw3:List (Option SV):=[some (.ref 1),some (.ref 2),some (.ref 7),some (.at 5)]
abbrev lwRun (sc:ScT)(y:Y)(r:List (Option SV))(n:List (List SV)):Option (Sf×Sn×Ss):=sS ⟨nvL (pk0 sc),callS (nvL (pk0 sc)) 123⟩ y ⟨lwLoc r,[]⟩ (0,n)
theorem lw5_run (sc:ScT):chkN (lwRun sc (nthY 5 b_law) [none,none,none,none] []) (lwLoc lw1) (lwN.take 3)=true:=by kernel_rfl
theorem lw6_run (sc:ScT):chkN (lwRun sc (nthY 6 b_law) lw1 (lwN.take 3)) (lwLoc lw2) lwN=true:=by kernel_rfl
theorem lw7_run (sc:ScT):chkN (lwRun sc (nthY 7 b_law) lw2 lwN) (lwLoc lw3) lwN=true:=by kernel_rfl
noncomputable def sfRet:Sf->Option SV
 | .ret a=>some a
 |_=>none
def chkB (r:Option (Sf×Sn×Ss)):Bool:=okO r λx=>okO (sfRet x.1) λa=>okO (svBool a) id
theorem lwZ_run (sc:ScT):chkB (lwRun sc lwZ lw3 lwN)=true:=by kernel_rfl
theorem chkB_is {r:Option (Sf×Sn×Ss)}(h:chkB r=true):∃ en st,r=some (.ret (.bool true),en,st):=
 okE h λx ex h=>okE h λa ea h=>okE h λb eb hb=>by
  obtain⟨f,en,st⟩:=x;have hb:b=true:=hb
  have e1:a = .bool b:=eBool (G:=λa=>a = .bool b) eb rfl;have e2:f = .ret a:=by
   have ea:sfRet f=some a:=ea
   cases f with
   |ret c=>cases ea;rfl
   |_=>exact nos ea
  exact⟨en,st,by rw[ex,e2,e1,hb]⟩
theorem tkC {D:Dn}{t:Tk}{r:List SV}:denC D (tkSV t::r)=tkV t::denC D r:=congrArg (λy=>y::denC D r) (congrArg AV.tup (congr (congrArg V5 (JM _)) (congrArg (·::[]) (JM _))))
theorem spC {D:Dn}{i:Nat}{r:List SV}:denC D (.sp i::r)=D.l i++denC D r:=rfl
theorem denTL {D:Dn}(w:Str)(l:List SV):den D (.tup (liftStr w::l)) = .tup (.str w::denM D l):=congrArg (λy=>AV.tup (y::denM D l)) (JM w)
section
variable (sc:ScT){σ:Store}{j i2 i4 i6 m:Nat}{x:Itm}{rs:List Trow}{es:List Rrow}
abbrev lwD (sc:ScT)(σ:Store)(j i2 i4 i6 m:Nat)(x:Itm)(rs:List Trow)(es:List Rrow)(h0:Hn):Dn:=drD σ j (λZ=>h0) [(i2,x.toks),(i4,rowsT rs),(i6,exT es)] [.glob (.ref sc.1),x.val,.tup (rs.map Trow.val),.tup (es.map Rrow.val),.int m]
theorem lwB_is (x:Itm)(rs:List Trow)(es:List Rrow){h0:Hn}:denC (lwD sc σ j i2 i4 i6 m x rs es h0) lwB=(Stm.both x rs es).toks.map tkV:=by
 show denC _ (_::.sp 0::_::.sp 1::_::[.sp 2])=_
 rw[tkC,spC,tkC,spC,tkC,spC]
 show _::(x.toks.map tkV++_::((rowsT rs).map tkV++_::((exT es).map tkV++[])))=_
 rw[QX]
 show _=(wtk "INSPECT"::(x.toks++(wtk "TALLYING"::(rowsT rs++(wtk "REPLACING"::exT es))))).map tkV
 rw[QM,Q5,QM,Q5,QM]
theorem lw_se {h0:Hn}(H:DnOk (lwD sc σ j i2 i4 i6 m x rs es h0) (nvL (pk0 sc)))(hj:j<σ.length)(hx:x.Is)(hrs:RowsIs rs)(hes:ExsIs es)(hm:m≤12)(K:Nat):SeOk (lwD sc σ j i2 i4 i6 m x rs es h0) ⟨nvL (pk0 sc),callS (nvL (pk0 sc)) 123⟩ (pc sc (K+123)):=by
 refine⟨H,rfl,leB rfl,H8 (K:=K) H (leB rfl) (λn g l st r st' e=>?_) 123⟩
 cases g with
 |glob g=>cases g with
  |ref a=>
   refine oOr e (λe=>?_) λe=>natW_is H (Q1 (Q4 _) hj) e
   refine UU (P:=λk' a=>callN (pk0 sc) k' (.glob (.ref a)) (l.map (den (lwD sc σ j i2 i4 i6 m x rs es h0))) (denS (lwD sc σ j i2 i4 i6 m x rs es h0) st)=some (den (lwD sc σ j i2 i4 i6 m x rs es h0) r,denS (lwD sc σ j i2 i4 i6 m x rs es h0) st')) e λk' e=>?_
   refine om1 e λr' hr' e=>?_
   rw[← hd_tl hr'];refine uE2 (G:=λt=>callN (pk0 sc) (k' + 123) (.glob (.ref 883)) ((r'::t).map (den (lwD sc σ j i2 i4 i6 m x rs es h0))) (denS (lwD sc σ j i2 i4 i6 m x rs es h0) st)=some (den (lwD sc σ j i2 i4 i6 m x rs es h0) r,denS (lwD sc σ j i2 i4 i6 m x rs es h0) st')) e λs d e=>?_
   refine om1 e λjj hr e=>om1 e λL hL e=>oi e λhc e=>oe2 e ?_
   have hc:=and2 hc;have hd:=and2 hc.1
   have hC:=cl_st H hd.2;obtain⟨dm,hdm,ed⟩:∃ dm:Nat,dm≤12∧den (lwD sc σ j i2 i4 i6 m x rs es h0) d = .int dm:=by
    rcases Qv.mp hd.1 with h|h
    · exact⟨12,QN _,by rw[Mz _ _ h];rfl⟩
    · exact⟨m,hm,by rw[Mz _ _ h];rfl⟩
   have fin:∀ (S:Stm) (L' : List SV) (s' : SV),S.Is->eqW L L'=true->eqV s s'=true->denC (lwD sc σ j i2 i4 i6 m x rs es h0) L'=S.toks.map tkV->den (lwD sc σ j i2 i4 i6 m x rs es h0) s'=S.val->callN (pk0 sc) (k' + 123) (.glob (.ref 883)) ([r',s,d].map (den (lwD sc σ j i2 i4 i6 m x rs es h0))) (denS (lwD sc σ j i2 i4 i6 m x rs es h0) st)=some (.bool true,denS (lwD sc σ j i2 i4 i6 m x rs es h0) st):=λS L' s' o h1 h2 h3 h4=>by
    have g:(denS (lwD sc σ j i2 i4 i6 m x rs es h0) st)[(lwD sc σ j i2 i4 i6 m x rs es h0).N+jj]? = some (.list (S.toks.map tkV)):=by
     rw[getN H,hL,qZ h1];exact congrArg (λl=>some (AO.list l)) h3
    have z:=law_right_ok sc (k:=k') hC o g hdm;refine eRef (G:=λr=>callN (pk0 sc) (k' + 123) (.glob (.ref 883)) ([r,s,d].map (den (lwD sc σ j i2 i4 i6 m x rs es h0))) (denS (lwD sc σ j i2 i4 i6 m x rs es h0) st)=_) hr ?_
    show callN _ _ _ [_,den _ s,den _ d] _=_;rw[ed,Mz _ _ h2,h4]
    exact z
   rcases Qv.mp hc.2 with h|h
   · refine fin (.both x rs es) _ _ ⟨hx,hrs,hes⟩ (and2 h).1 (and2 h).2 ?_ (denTL _ _)
     exact lwB_is sc x rs es
   · rcases Qv.mp h with h|h
     · refine fin (.tally x rs) _ _ ⟨hx,hrs⟩ (and2 h).1 (and2 h).2 ?_ (denTL _ _)
       show denC _ (_::.sp 0::_::[.sp 1])=_;rw[tkC,spC,tkC,spC]
       show _::(x.toks.map tkV++_::((rowsT rs).map tkV++[]))=_;rw[QX]
       show _=(wtk "INSPECT"::(x.toks++(wtk "TALLYING"::rowsT rs))).map tkV
       rw[QM,Q5,QM]
     · refine fin (.repl x es) _ _ ⟨hx,hes⟩ (and2 h).1 (and2 h).2 ?_ (denTL _ _)
       show denC _ (_::.sp 0::_::[.sp 2])=_;rw[tkC,spC,tkC,spC]
       show _::(x.toks.map tkV++_::((exT es).map tkV++[]))=_;rw[QX]
       show _=(wtk "INSPECT"::(x.toks++(wtk "REPLACING"::exT es))).map tkV
       rw[QM,Q5,QM]
  |_=>exact nos e
 |_=>exact nos e
theorem law_pure {k:Nat}(hl:sc.2.length≤63):∃ en σ,evS (pc sc (k+123)) b_law ⟨some (.glob (.ref sc.1))::QK 12 none,[]⟩ []=some (.ret (.bool true),en,σ):=by
 refine xe13 (heap_ok sc (k:=k+121) hl) λτA q1 h1 C1=>?_
 refine xe35 (P7 sc (k:=k+119) h1 (by decide) C1) λx i2 τB hx q2 g2 o2 x2=>?_
 refine xe35 (counted_drawn sc (k:=k+116) x2.hp (by decide) x2.cl) λrs i4 τC hrs q3 g4 o4 x3=>?_
 refine xe35 (K6 sc (k:=k+116) x3.hp (by decide) x3.cl) λes i6 τD hes q4 g6 o6 x4=>?_
 refine xe23 (drew sc (k:=k+122) (m:=12) x4.hp x4.cl (by decide) (by decide) (by decide)) λm τ₅ hm q5 x5=>?_
 have j1:=h1.lt
 have n2:=ltL j1 g2
 have n4:=ltL j1 (QJ x2.le g4)
 have n6:=ltL j1 (QJ (QJ x2.le x3.le) g6)
 have o2:=((x3.trans x4).trans x5).keep o2 (Qj n2)
 have o4:=(x4.trans x5).keep o4 (Qj n4)
 have o6:=x5.keep o6 (Qj n6)
 have rl:(rowsT rs).length≤22 * rs.length:=Mx L8 rs
 have el:(exT es).length≤22 * es.length:=Mx PG es
 have rl' := hrs.le
 have el' := hes.le
 refine xe12 x5.hp λh0 gh Z=>?_
 have hj:=(QQ.mp gh).1
 have H:DnOk (lwD sc τ₅ 1 i2 i4 i6 m x rs es h0) (nvL (pk0 sc)):=drD_ok x5.cl hj ⟨⟨Qj n2,o2,QJ (N5 x) (by decide)⟩,⟨Qj n4,o4,ar40 _ rl rl' rfl⟩,⟨Qj n6,o6,ar40 _ el el' rfl⟩,trivial⟩ (Jj rfl (Jj Itm.cl (Jj LV (Jj exs_cl rfl))))
 have O:=lw_se sc H hj hx hrs hes (NQ hm) k
 have z0:denS (lwD sc τ₅ 1 i2 i4 i6 m x rs es h0) (0,[])=τ₅:=by
  show τ₅.set 1 h0.o++[]=τ₅;rw[QX]
  obtain⟨hi,q⟩:=QQ.mp gh;rw[← q];exact GX hi
 have r5:=PH O (nthY 5 b_law) _ _ _ _ _ (RQ (lw5_run sc))
 have r6:=PH O (nthY 6 b_law) _ _ _ _ _ (RQ (lw6_run sc))
 have r7:=PH O (nthY 7 b_law) _ _ _ _ _ (RQ (lw7_run sc))
 refine xe21 (chkB_is (lwZ_run sc)) λen st e=>?_
 have rZ:=PH O lwZ _ _ _ _ _ e
 rw[z0] at r5
 have gB:=(getN H (0,lwN) 7).trans (congrArg (λl=>some (AO.list l)) (lwB_is sc x rs es))
 have hx:excL (Sn.dn (lwD sc τ₅ 1 i2 i4 i6 m x rs es h0) ⟨lwLoc lw3,[]⟩) (denS (lwD sc τ₅ 1 i2 i4 i6 m x rs es h0) (0,lwN))=some (.none,denS (lwD sc τ₅ 1 i2 i4 i6 m x rs es h0) (0,lwN)):=by
  have hb:=Stm.Is.len (s:=.both x rs es) ⟨hx,hrs,hes⟩;exact if_pos ⟨_,x.toks++(wtk "TALLYING"::(rowsT rs++(wtk "REPLACING"::exT es))),rfl,gB,QJ (Nat.le_of_succ_le hb) (by decide),cl_st H (by kernel_rfl)⟩
 have rX:evS (pc sc (k+123)) .exc (Sn.dn (lwD sc τ₅ 1 i2 i4 i6 m x rs es h0) ⟨lwLoc lw3,[]⟩) (denS (lwD sc τ₅ 1 i2 i4 i6 m x rs es h0) (0,lwN))=some (.next,_,_):=on2s hx rfl
 refine⟨Sn.dn (lwD sc τ₅ 1 i2 i4 i6 m x rs es h0) en,denS (lwD sc τ₅ 1 i2 i4 i6 m x rs es h0) st,?_⟩
 rw[lw_eq]
 exact zSeq (zSet (Vj rfl (JG rfl rfl) q1)) (zSeq (WV (Vj rfl (JG rfl rfl) q2) rfl rfl) (zSeq (WV (Vj rfl (JG rfl rfl) q3) rfl rfl) (zSeq (WV (Vj rfl (JG rfl rfl) q4) rfl rfl) (zSeq (zSet (Vj rfl (JG rfl (JG rfl rfl)) q5)) (zSeq r5 (zSeq r6 (zSeq r7 (zSeq rX rZ))))))))
end
end
section
open PySem.SeqAt
section
variable {prog:Program}{w:World}{A:Around}{E:Value->Shared->Prop}{R:Result->Shared->Prop}{h:Heap}{g:Array GenState}{d:Drawn}{t:Nat}{os:OsState}{K:Frag}
variable {nm q:Str}{C N:Addr}{bs bm:List Value}{hdct:Bool}{sn:List Str}{sub:List Value}{ab:Bool}{col:Option Bool}{dd:Option Addr}{k0 k1 k2 k3 k5:Option Value}
noncomputable abbrev excObj (C:Addr) (dx:Option Addr) (t:Addr):Obj:={ cls:=.ref C,dict:=dx,data:=.fields #[.ref t,.none,.none,.none,.bool false,.none] }
theorem x_check_new {M:Model}{rest:List Value}{Q:Unit->Shared->Prop}(hB:bm.contains (.type "Exception")=true)(hC:h.get? C=some (excClassObj nm q C N bs bm hdct sn sub ab col dd k0 k1 k2 k3 k5 "Exception.__new__"))
  (hq:Q () ⟨h,g,d,t,os⟩):wpAny M A (checkBuiltinCall "Exception.__new__" ⟨.ref C::rest,[]⟩) Q E ⟨h,g,d,t,os⟩:=by
 have F:=PySem.F.excBase_Exception
 have hcont:(Value.ref C::bm).contains (.type "Exception")=true:=by rw[V9,hB,jQ]
 have hstar:=F.noStar
 simp only[checkBuiltinCall,F.newKind,F.newSplit,F.newRow]
 repeat (first|refine VM hC ?_|(refine Uw hC ?_;rw[hcont])|refine wpAny_staticBase_exc hC ?_|refine wpAny_madeBy_exc hC ?_|simp only[bne_self_eq_false,K8,if_false]|wp_step)
 exact hq
theorem x_new {rest:List Value}(hB:bm.contains (.type "Exception")=true)(hA:bm.contains (.type "AttributeError")=false)(hN:bm.contains (.type "NameError")=false)(hC:h.get? C=some (excClassObj nm q C N bs bm hdct sn sub ab col dd k0 k1 k2 k3 k5 "Exception.__new__"))
  (hq:R (.ok (.ret (.ref (h.objs.size+1)))) ⟨(h.push { cls:=.type "tuple",data:=.seq rest.toArray }).push (excObj C none h.objs.size),g,d,t,os⟩) (hrest:rest.length≤sizeLine) :
  codeAny (model prog w) A (.builtin "Exception.__new__" ⟨.ref C::rest,[]⟩) R ⟨h,g,d,t,os⟩:=by
 have F:=PySem.F.excBase_Exception
 have hends:=F.ends
 have hcB:(Value.ref C::bm).contains (.type "Exception")=true:=by rw[V9,hB,jQ]
 have hcA:(Value.ref C::bm).contains (.type "AttributeError")=false:=by rw[V9,hA];rfl
 have hcN:(Value.ref C::bm).contains (.type "NameError")=false:=by rw[V9,hN];rfl
 refine codeAny_builtinAt F.entry ?_
 refine PySem.wpAt_bind ?_
 show PySem.wpAt _ _ _ (stack >>= _) _ _ _
 refine PySem.wpAt_bind (PySem.wpAt_stack λp below=>PySem.wpAt_of_wpAny ?_)
 wp_walk
 refine PySem.wpAt_of_wpAny ?_
 rw[F.owner]
 repeat (first|with_reducible refine wpAny_madeHere_exc F.canon hC ?_|with_reducible refine VM hC ?_|(with_reducible refine Uw hC ?_;first|rw[hcB]|rw[hcA]|rw[hcN])|wp_step)
 show R _ _
 rw[Heap.size_push]
 exact hq
theorem x_make {rest:List Value}{fI:Addr}(X:K.In h)(hB:bm.contains (.type "Exception")=true)(hA:bm.contains (.type "AttributeError")=false)(hN:bm.contains (.type "NameError")=false)
  (hC:h.get? C=some (excClassObj nm q C N bs bm hdct sn sub ab col dd k0 k1 k2 k3 k5 "Exception.__new__")) (hi:findIn K (.ref C) "__init__"=some (some (.ref fI))) (hf:isFn K (.ref fI)=true) (hrest:rest.length≤sizeLine)
  (hq:codeAny (model prog w) (A.under (.builtin "type.__call__" ⟨.ref C::rest,[]⟩)) (.call (.ref fI) ⟨.ref (h.objs.size+1)::rest,[]⟩) (InitBack (h.objs.size+1) R) ⟨(h.push { cls:=.type "tuple",data:=.seq rest.toArray }).push (excObj C none h.objs.size),g,d,t,os⟩) :
  codeAny (model prog w) A (.call (.ref C) ⟨rest,[]⟩) R ⟨h,g,d,t,os⟩:=by
 have f1:=tc_lookup
 have f2:=tc_bind (.ref C)
 have hT:(⟨h,g,d,t,os⟩:Shared).TypeIs (.ref C) "type" := ⟨_,hC,rfl⟩
 refine codeAny_of_tree ?_
 show wpAny _ _ (callAny (.ref C) _) _ _ _
 repeat (any_goals (first|assumption|with_reducible refine VM hC ?_|wp_step))
 refine⟨rfl,?_⟩
 refine codeAny_call_builtin_at (Code.quiet_builtin _ (by decide +kernel)) entry_typeCall (wpAny_check_type_call_sub hC ?_)
 repeat (first|with_reducible refine VM hC ?_|with_reducible refine wpAny_madeBy_exc hC ?_|wp_step)
 refine codeAny_call_builtin_code (Code.quiet_builtin _ PySem.F.excBase_Exception.quiet) (x_check_new hB hC ?_)
 refine x_new hB hA hN hC ?_ hrest
 show wpAny _ _ _ _ _ _
 have k:∀ b o,h.get? b=some o->((h.push { cls:=.type "tuple",data:=.seq rest.toArray }).push (excObj C none h.objs.size)).get? b=some o:=λb o e=>Jx _ (Jx _ e)
 have hCA:=k _ _ hC
 have hget:((h.push { cls:=.type "tuple",data:=.seq rest.toArray }).push (excObj C none h.objs.size)).get? (h.objs.size+1)=some (excObj C none h.objs.size):=by heap_get
 have hcC:(Value.ref C::bm).contains (.ref C)=true:=by simp
 have i1:=(looks_findIn (M:=model prog w) X hi).keeps k
 have b1:=(bind_fn (M:=model prog w) X (.ref (h.objs.size+1)) (bqM hf)).keeps k
 repeat (first|with_reducible refine VM hget ?_|(with_reducible refine Uw hCA ?_;rw[hcC])|wp_step)
 refine Uw hCA ?_
 rw[hcC]
 simp only[Bool.not_true,K8,if_false]
 have I:InstAt ((h.push { cls:=.type "tuple",data:=.seq rest.toArray }).push (excObj C none h.objs.size)) (h.objs.size+1) (excObj C none h.objs.size) C none:=⟨hget,rfl,rfl,trivial⟩
 refine QZ (J8 (special_fn (s:=⟨(h.push { cls:=.type "tuple",data:=.seq rest.toArray }).push (excObj C none h.objs.size),g,d,t,os⟩) (args:=rest) (X.keeps k) I hi (bqM hf) (Uq (codeAny_mono hq λr s' z=>?_))))
 rcases r with e|(v|_|_|_)<;>first|exact z|exact z.elim|skip
 obtain⟨rfl,z⟩:=z
 exact Qk z
end
end
section
open PySem.SeqAt
open PySem.Builtin PySem.Builtin.ObjectAttr
section
variable {prog:Program}{w:World}{A:Around}{E:Value->Shared->Prop}{R:Result->Shared->Prop}{h:Heap}{g:Array GenState}{d:Drawn}{t:Nat}{os:OsState}{K:Frag}
variable {nm q:Str}{C N x:Addr}{bs bm:List Value}{hdct:Bool}{sn:List Str}{sub:List Value}{ab:Bool}{col:Option Bool}{dd:Option Addr}{k0 k1 k2 k3 k5:Option Value}
theorem x_check_init {M:Model}{e:Addr}{oe:Obj}{rest:List Value}{Q:Unit->Shared->Prop}(hB:bm.contains (.type "Exception")=true)(hC:h.get? C=some (excClassObj nm q C N bs bm hdct sn sub ab col dd k0 k1 k2 k3 k5 "Exception.__new__"))
  (he:h.get? e=some oe) (hcls:oe.cls = .ref C) (hq:Q () ⟨h,g,d,t,os⟩):wpAny M A (checkBuiltinCall "Exception.__init__" ⟨.ref e::rest,[]⟩) Q E ⟨h,g,d,t,os⟩:=by
 have F:=PySem.F.excBase_Exception
 have hcB:(Value.ref C::bm).contains (.type "Exception")=true:=by rw[V9,hB,jQ]
 have hshort:=F.noStar
 simp only[checkBuiltinCall,F.initKind,F.initSplit,F.initRow]
 repeat (first|(with_reducible refine VM he ?_;rw[hcls])|with_reducible refine VM hC ?_|(with_reducible refine Uw hC ?_;rw[hcB])|wp_step)
 refine wpAny_onRaise ?_
 rw[show ∀ (a b:String) (n:Nat),Bind.check ⟨.positional,"*","Exception",.self,[⟨"args",.varPos,false⟩]⟩ a b n (List.map (λx=>x.fst) ({ pos:=Value.ref e::rest }:Args).kw)=pure () from
  λa b n=>check_star_args _ _ _ _ _ _]
 exact Qk hq
theorem x_init {e t0:Addr}{v:Value}{Q:Value->Shared->Prop}(hB:bm.contains (.type "Exception")=true)(hC:h.get? C=some (excClassObj nm q C N bs bm hdct sn sub ab col dd k0 k1 k2 k3 k5 "Exception.__new__"))
  (he:h.get? e=some (excObj C none t0)) (hq:∀ h',h'.get? e=some (excObj C none h.objs.size)->WJ e (h.push { cls:=.type "tuple",data:=.seq #[v] }) h'->Q .none ⟨h',g,d,t,os⟩) :
  wpAny (model prog w) A (call (.builtin "Exception.__init__") [.ref e,v]) Q E ⟨h,g,d,t,os⟩:=by
 have F:=PySem.F.excBase_Exception
 refine Uq (codeAny_call_builtin F.init.plain F.initEntry (x_check_init hB hC he rfl ?_))
 wp_walk
 refine hq _ ?_ ?_
 · rw[HV _ (Jx _ he) rfl]
   rfl
 · exact WJ.update ..
structure StoresIn (K:Frag)(C:Addr)(name:Str)(cd:ClassData):Prop where
 cls:clsIn K C=some cd
 sa:findIn K (.ref C) "__setattr__"=some (some (.builtin "object.__setattr__"))
 pass:∀ self,refuseLoop self "__setattr__" cd.mro=pure ()
 ne:cd.mro.isEmpty=false
 obj:cd.mro.contains (.type "object")=true
 tk:takerIn K C name=some none
 hd:cd.hasDict=true
theorem x_osa {ox:Obj}{od:Option Obj}{name:Str}{tk:Tok}{v:Value}{cd:ClassData}(X:K.In h)(I:InstAt h x ox C od)(Y:StoresIn K C name cd)
  (hk:∀ b,wpAny (model prog w) A.in1 (storeInOwnDict (.ref x) (.ref C) (.str name tk) name v b)
   (λfin s'=>match fin with|.done f=>R (.ok f) s'|.again c'=>c'.quiet=true∧codeAny (model prog w) A c' R s') (λe s'=>R (.error e) s') ⟨h,g,d,t,os⟩) :
  codeAny (model prog w) A (.call (.builtin "object.__setattr__") ⟨[.ref x,.str name tk,v],[]⟩) R ⟨h,g,d,t,os⟩:=by
 have SF:=PySem.F.store_object
 have sub:Looks (model prog w) h (isInstance (.ref x) (.type "object")) true:=I.type.andThen (looks_mroIn X (by unfold mroIn;rw[Y.cls,UG,if_neg (by rw[Y.ne];decide),Y.obj]))
 refine codeAny_call_builtin SF.slot.plain SF.entry (@check_slot (model prog w) _ _ ⟨h,g,d,t,os⟩ "object.__setattr__" "object" "__setattr__" (.ref x) [.str name tk,v] [] _ SF.kind SF.split sub (SF.args (.ref x) (.str name tk) v) ?_)
 refine xe12 (Option.bind_eq_some_iff.mp Y.tk) λattr ha hr=>?_
 have hm:Looks (model prog w) h (mroOf (.ref C)) cd.mro:=(looks_clsIn X Y.cls).andThen .now
 have L3:Looks (model prog w) h (storeTaker? attr) none:=by
  cases attr with
  |none=>exact .now
  |some a=>
   refine xe12 (H3.mp hr) λb hb e=>?_
   refine(looks_takesIn X hb).andThen ?_;cases b
   · exact .now
   · cases e
 rw[osa_eq,refuse_eq]
 refine QZ (QZ (I.type.here (QZ (hm.here ?_))))
 rw[Y.pass]
 refine Qk (QZ (I.type.here (QZ ((looks_findIn X ha).here (QZ (L3.here ?_))))))
 exact hk _
theorem x_dict {o:Obj}{od:Option Obj}(hnc:∀ c,o.data≠.cls c):notCls o=true:=by
 obtain⟨oc,odi,oda,osl⟩:=o
 cases oda with
 |cls c=>exact absurd rfl (hnc c)
 |_=>rfl
theorem x_store_new {name:Str}{v:Value}{cd:ClassData}{oda:PySem.Data}{osl:Array (Option Value)}{Q:Unit->Shared->Prop}(X:K.In h)(Y:StoresIn K C name cd)(hx:h.get? x=some ⟨.ref C,none,oda,osl⟩)(hnc:∀ c,oda≠.cls c)
  (hq:∀ h' tk' od,h'.get? x=some ⟨.ref C,some h.objs.size,oda,osl⟩->h'.get? h.objs.size=some od->h'.Ns1 h.objs.size (λy=>if y=name then some v else none)->(∀ b o,b≠x->h.get? b=some o->h'.get? b=some o)->Q () ⟨h',g,d,tk',os⟩) :
  wpAny (model prog w) A (setAttr (.ref x) name v) Q E ⟨h,g,d,t,os⟩:=by
 have IA:InstAt h x ⟨.ref C,none,oda,osl⟩ C none:=⟨hx,rfl,x_dict (od:=none) hnc,trivial⟩
 refine set_plain X IA Y.sa (x_osa X IA Y λb=>?_)
 refine QZ (Qk (QZ (QZ (wpAny_loadPart hx (QZ ((looks_clsIn X Y.cls).here ?_))))))
 rw[Y.hd]
 have hxA:(h.push { cls:=.type "dict",data:=.dict #[] }).get? x=some { cls:=.ref C,dict:=none,data:=oda,slots:=osl }:=Jx _ hx
 have hxs:x≠h.objs.size:=VV (V0 hx)
 have hgd:((h.push { cls:=.type "dict",data:=.dict #[] }).update x λo=>{ cls:=o.cls,dict:=some h.objs.size,data:=o.data,slots:=o.slots }).get? h.objs.size
   = some { cls:=.type "dict",data:=.dict #[] }:=
  (Heap.get?_update_ne _ _ _ _ hxs.symm).trans (Heap.get?_push_at rfl rfl)
 have hnd:((h.push { cls:=.type "dict",data:=.dict #[] }).update x λo=>{ cls:=o.cls,dict:=some h.objs.size,data:=o.data,slots:=o.slots }).Ns h.objs.size (λZ=>none):=
  ⟨_,#[],_,hgd,rfl,λe he=>absurd he (by simp),λZ=>rfl⟩
 have hgx:((h.push { cls:=.type "dict",data:=.dict #[] }).update x λo=>{ cls:=o.cls,dict:=some h.objs.size,data:=o.data,slots:=o.slots }).get? x=some { cls:=.ref C,dict:=some h.objs.size,data:=oda,slots:=osl }:=by
  refine HV _ hxA ?_;have hfr:=(Heap.get?_some_iff.mp hx).2
  cases oda<;>first|rfl|exact hfr
 let RR:Result->Shared->Prop:=λr s'=>match r with|.ok (.ret _)=>Q () s'|.ok _=>False|.error e=>E e s'
 have key:wpAny (model prog w) A.in1 (do
   let d ← alloc { cls:=.type "dict",data:=.dict #[] }
   update x λo=>{ o with dict:=some d }
   dictMade (.ref C) x d) (λr s'=>wpAny (model prog w) A.in1 (match r with|some d=>storeInDict d (.str name t) name v|none=>noDictFor (.ref x) (.ref C) name b)
    (λfin s'=>match fin with|.done f=>RR (.ok f) s'|.again c'=>c'.quiet=true∧codeAny (model prog w) A c' RR s') (λe s'=>E e s') s') (λe s'=>E e s') ⟨h,g,d,t+1,os⟩:=by
  refine QZ (wpAny_alloc' (QZ (wpAny_update' hxA (Qk ?_))));show wpAny _ _ (storeInDict h.objs.size (.str name t) name v) _ _ _
  refine QZ (Qk (QZ (wpAny_nsSet1 (Heap.Ns1.of_empty hnd) λh' hn' hs=>?_)));refine xe33 (hn'.count (Within.cons name v Within.nil)) λoD esD epD hoD hdD hcD=>?_
  refine QZ (wpAny_lookBehind hoD (by rw[hdD];exact pastItsLine_dict (QJ hcD (by rw[Qw,List.length_nil,sizeLine_eq];exact Qq _))) ?_);exact Qk (hq h' _ oD ((hs.2 x hxs).trans hgx) hoD hn' λb ob hbx hb=>(hs.2 b (VV (V0 hb))).trans ((Heap.get?_update_ne _ _ _ _ hbx).trans (Jx _ hb)))
 cases oda with
 |cls c=>exact absurd rfl (hnc c)
 |_=>exact key
theorem x_store_old {name:Str}{v:Value}{cd:ClassData}{o:Obj}{dx:Addr}{mA:Str->Option Value}{ns:List Str}{Q:Unit->Shared->Prop}(X:K.In h)(Y:StoresIn K C name cd)(hx:h.get? x=some o)(hc:o.cls = .ref C)(hnc:∀ c,o.data≠.cls c)
  (hdx:o.dict=some dx) (hns:h.Ns1 dx mA)
  (hq:∀ h' tk' od,h'.get? dx=some od->h'.Ns1 dx (λy=>if y=name then some v else mA y)->(∀ b o,b≠dx->h.get? b=some o->h'.get? b=some o)->Q () ⟨h',g,d,tk',os⟩) (hw:Within mA ns) (hsz:ns.length+1≤sizeLine+1) :
  wpAny (model prog w) A (setAttr (.ref x) name v) Q E ⟨h,g,d,t,os⟩:=by
 have IA:∃ od,InstAt h x o C od:=by
  refine xe32 (id hns) λo' es ep e1 Z=>?_
  exact⟨some o',hx,hc,x_dict (od:=none) hnc,by rw[hdx];exact e1⟩
 obtain⟨od,IA⟩:=IA
 refine set_plain X IA Y.sa (x_osa X IA Y λb=>?_)
 obtain⟨oc,odi,oda,osl⟩:=o
 dsimp only at hc hdx hnc
 subst hc hdx
 refine QZ (Qk (QZ (QZ (wpAny_loadPart hx (QZ ((looks_clsIn X Y.cls).here ?_))))))
 rw[Y.hd]
 refine Qk (a:=some dx) ?_
 show wpAny _ _ (storeInDict dx (.str name t) name v) _ _ _
 refine QZ (Qk (QZ (wpAny_nsSet1 hns λh' hn' hs=>?_)))
 refine xe33 (hn'.count (Within.cons name v hw)) λoD esD epD hoD hdD hcD=>?_
 refine QZ (wpAny_lookBehind hoD (by rw[hdD];exact pastItsLine_dict (QJ hcD (by rw[Qw];exact hsz))) ?_)
 exact Qk (hq h' _ oD hoD hn' λb ob hbd hb=>(hs.2 b hbd).trans hb)
theorem x_attr {ox:Obj}{od:Option Obj}{name:Str}{v:Value}{expr:Bool}{Q:Value->Shared->Prop}(X:K.In h)(I:InstAt h x ox C od)(hga:findIn K (.ref C) "__getattribute__"=some (some (.builtin "BaseException.__getattribute__")))
  (hgn:findIn K (.ref C) "__getattr__"=some none) (hf:findObj K C od name=some (.value v)) (hh:handedIn v=true) {cd:ClassData} (hcd:clsIn K C=some cd) (ne:cd.mro.isEmpty=false) (hB:cd.mro.contains (.type "BaseException")=true)
  (hq:Q v ⟨h,g,d,t+1,os⟩):wpAny (model prog w) A (getAttr (.ref x) name expr) Q E ⟨h,g,d,t,os⟩:=by
 have L0:=I.type (M:=model prog w)
 have L1:=looks_findIn (M:=model prog w) X hga
 have L2:=looks_findIn (M:=model prog w) X hgn
 have L3:=looks_find (M:=model prog w) X I hf
 have sub:Looks (model prog w) h (isInstance (.ref x) (.type "BaseException")) true:=I.type.andThen (looks_mroIn X (by unfold mroIn;rw[hcd,UG,if_neg (by rw[ne];decide),hB]))
 refine QZ (Nk (J8 (QZ (L0.at (QZ (L1.at ?_))))))
 show wpAny _ _ (if (onTheHeap (Value.ref C)&&Value.builtin "BaseException.__getattribute__"==Value.builtin "object.__getattribute__")=true then _ else getAttrByItsOwn _ _ _ _ _ _) _ _ _
 rw[if_neg (by rw[show (Value.builtin "BaseException.__getattribute__"==Value.builtin "object.__getattribute__")=false by decide +kernel,Bool.and_false];decide)]
 unfold getAttrByItsOwn hookBefore
 have hx0:(expr&&onTheHeap (Value.builtin "BaseException.__getattribute__"))=false:=by cases expr<;>rfl
 have f3:=PySem.F.attrBase_Exception.ga.bind (.ref x)
 rw[if_pos (show onTheHeap (Value.ref C)=true from rfl)]
 refine QZ (L2.at (QZ (wpAny_attempt (J8 ?_))))
 unfold callGetattribute
 rw[hx0]
 rw[if_neg U5]
 unfold boundAndCalled
 rw[f3]
 refine QZ (Qk (Uq (codeAny_call_builtin PySem.F.attrBase_Exception.ga.plain PySem.F.entry_bexc_ga (@check_slot (model prog w) _ _ ⟨h,g,d,t+1,os⟩ "BaseException.__getattribute__" "BaseException" "__getattribute__" (.ref x) [.str name t] [] _ (by decide +kernel) (by decide +kernel) sub (PySem.F.args_bexc_ga (.ref x) (.str name t)) ?_))))
 refine QZ (Qk (QZ (Qk (QZ (L0.at (QZ (L3.at ?_)))))))
 refine Qk ?_
 show wpAny _ _ (handedOut v) _ _ _
 rw[handedOut_of hh]
 exact Qk hq
end
end
section
open PySem.SeqAt
section
variable {M:Model}{A:Around}{E:Value->Shared->Prop}{s:Shared}{env:Env}
variable {nm q:Str}{C N:Addr}{bs bm:List Value}{hdct:Bool}{sn:List Str}{sub:List Value}{ab:Bool}{col:Option Bool}{dd:Option Addr}{k0 k1 k2 k3 k5:Option Value}
theorem x_raise {x:Sem Value}{Q:Flow->Shared->Prop}(hbase:bm.contains (.type "BaseException")=true)(hh:A.handled=none)
  (h:wpAny M A x (λv s₁=>∃ e dx t,v = .ref e∧s₁.heap.get? C=some (excClassObj nm q C N bs bm hdct sn sub ab col dd k0 k1 k2 k3 k5 "Exception.__new__")∧s₁.heap.get? e=some (excObj C dx t)∧E (.ref e) s₁) E s) :
  wpAny M A (raiseStmt env (some x) none) Q E s:=by
 have hcB:(Value.ref C::bm).contains (.type "BaseException")=true:=by rw[V9,hbase,jQ]
 refine QZ (Qz h (λv s₁ h₁=>?_) λZ Z x=>x)
 obtain⟨e,dx,t,rfl,hC,he,hE⟩:=h₁
 obtain⟨hp,g,d,tk,os⟩:=s₁
 repeat (first|with_reducible refine VM he ?_|with_reducible refine VM hC ?_|(with_reducible refine Uw hC ?_;rw[hcB])|wp_step)
 exact wpAny_raiseNew_none hh hE
inductive TracedX (h base:Heap)(e:Addr)(cls:Value)(dx:Addr)(fl:Value):Prop
 |mk (oe:Obj) (vs:Array Value) (T:Addr) (oT:Obj) (ts:Array Value) (he:h.get? e=some oe) (hc:oe.cls=cls) (hd:oe.dict=some dx) (hv:oe.data = .fields vs) (h1:vs[1]? = some (.ref T)) (hT:base.get? T=none) (ne:T≠e) (ho:h.get? T=some oT) (ht:oT.data = .fields ts) (h3:ts[3]? = some fl)
inductive FlyX (base:Heap)(l:List Env)(e:Addr)(cls:Value)(dx:Addr)(fl:Value)(h:Heap):Prop
 |mk (k:base.StaysIn h) (n:base.get? e=none) (ff:h.FunFrames base l) (t:TracedX h base e cls dx fl)
theorem FlyX.there {base h:Heap}{l:List Env}{e dx:Addr}{cls fl:Value}(x:FlyX base l e cls dx fl h):∃ oe,h.get? e=some oe∧oe.cls=cls∧oe.dict=some dx:=by
 obtain⟨_,_,_,oe,_,_,_,_,he,hc,hd,_⟩:=x
 exact⟨oe,he,hc,hd⟩
theorem x_entry {base:Heap}{outer:List Env}{L e dx:Addr}{oe:Obj}{vs:Array Value}{head:Value}{hadNext:Bool}{Q:Unit->Shared->Prop}
  (hfr:A.frames=some (env::outer)) (hl:s.heap.FunFrames base (env::outer)) (hf:env.frame=some L) (he:s.heap.get? e=some oe) (hdx:oe.dict=some dx) (hkb:base.StaysIn s.heap) (hen:base.get? e=none) (hd:oe.data = .fields vs) (hsz:1<vs.size)
  (h:∀ h',FlyX base (env::outer) e oe.cls dx (rawInt L) h'->s.heap.UpToSlots h'->Q () { s with heap:=h' }) :
  wpAny M A (do let a ← frameOf env;let pl ← entryPlaceOf L hadNext;let b ← EntryCells.newEntry head a .none (rawInt L) .none pl;setField (.ref e) 1 b) Q E s:=by
 have hene:e∉(env::outer).filterMap (·.frame):=λhm=>by
  obtain⟨_,o,ho,hnf⟩:=hl.mem hm;rw[he] at ho;injection ho with ho;subst ho;exact hnf vs hd
 refine QZ (wpAny_frameOf_fun hfr hl hf λh₁ hsA=>?_)
 refine QZ (wpAny_entryPlaceOf λpl hpl=>?_)
 refine QZ (wpAny_newObj_type ?_ (hpl.sizeOk5 _ _ _ _ _))
 have heA:h₁.get? e=some oe:=(hsA.2.1 e hene).trans he
 have kbA:base.StaysIn h₁:=λb o hbo=>(hsA.2.1 b λhm=>by rw[(hl.mem hm).1] at hbo;exact nos hbo).trans (hkb b o hbo)
 generalize hTo:({ cls:=.type "traceback",dict:=none,data:=.fields ([head,.ref L,.none,rawInt L,.none]++(if pl.isEmpty then QK 6 Value.none else pl)).toArray }:Obj)=To
 have heB:=Jx (h:=h₁) To heA
 refine K4 heB hd hsz ?_
 have hTe:h₁.objs.size≠e:=Qj (V0 heA)
 have hdC:=Obj.data_mapFields hd (·.setIfInBounds 1 (Value.ref h₁.objs.size))
 have heC:=HV (Obj.mapFields (·.setIfInBounds 1 (Value.ref h₁.objs.size))) heB (Obj.isFreed_of_fields hdC)
 have hTC:=(U4 (h₁.push To) (Obj.mapFields (·.setIfInBounds 1 (Value.ref h₁.objs.size))) (Ne.symm hTe)).trans (KK h₁ (by rw[← hTo];rfl))
 have keep:∀ b o,b≠e->h₁.get? b=some o->((h₁.push To).update e (Obj.mapFields (·.setIfInBounds 1 (Value.ref h₁.objs.size)))).get? b=some o:=λb o hbe hb=>by
  rw[U4 _ _ (Ne.symm hbe)];exact Jx _ hb
 have noRecord:∀ b o,s.heap.get? b=some o->(∀ vs,o.data≠.fields vs)->b≠e:=λb o hb hnf q=>by
  rw[q,he] at hb;injection hb with hb;subst hb;exact hnf vs hd
 refine h _ ⟨λb o hbo=>keep b o (λq=>by rw[q,hen] at hbo;exact nos hbo) (kbA b o hbo),hen,hl.of_keeps λb o hb hnf=>?_,?_⟩ λb o hb hnf=>?_
 · obtain⟨sl,hs⟩:=hsA.2.2 b o hb
   exact⟨_,keep b _ (noRecord b o hb hnf) hs,rfl⟩
 · refine⟨_,_,h₁.objs.size,_,_,heC,Obj.cls_mapFields _ _,?_,hdC,by simp[hsz],kbA.fresh,hTe,hTC,by rw[← hTo],by simp⟩
   rw[← hdx];obtain⟨oc,odi,oda,osl⟩:=oe
   cases oda<;>rfl
 · obtain⟨sl,hs⟩:=hsA.2.2 b o hb
   exact⟨sl,keep b _ (noRecord b o hb hnf) hs⟩
theorem W1 {base:Heap}{l:List Env}{e dx:Addr}{cls fl:Value}{Q:Unit->Shared->Prop}(hy:FlyX base l e cls dx fl s.heap)
  (h:∀ h',FlyX base l e cls dx .none h'->s.heap.UpToSlots h'->Q () { s with heap:=h' }):wpAny M A (setFlight (.ref e) none) Q E s:=by
 obtain⟨hkb,hen,hl,oe,vs,T,oT,ts,he,hcls,hdx,hd,h1,hnT,hTe,hT,hdT,h3⟩:=hy
 have hsz3:3<ts.size:=(V7.mp h3).1
 have other:∀ b,b≠T->(s.heap.update T (Obj.mapFields (·.setIfInBounds 3 ((none:Option Addr).elim Value.none λf=>rawInt f)))).get? b=s.heap.get? b:=
  λb hb=>U4 _ _ (Ne.symm hb)
 have noRecord:∀ b o,s.heap.get? b=some o->(∀ vs,o.data≠.fields vs)->b≠T:=λb o hb hnf q=>by
  rw[q,hT] at hb;injection hb with hb;subst hb;exact hnf ts hdT
 refine QZ (GJ he hd h1 ?_)
 rw[if_pos (show (Value.ref T != Value.none)=true from by simp)]
 refine K4 hT hdT hsz3 (h _ ⟨λb o hbo=>(other b λq=>by rw[q,hnT] at hbo;exact nos hbo).trans (hkb b o hbo),hen,
  hl.of_keeps λb o hb hnf=>⟨o,(other b (noRecord b o hb hnf)).trans hb,rfl⟩,?_⟩ λb o hb hnf=>⟨o.slots,(other b (noRecord b o hb hnf)).trans hb⟩)
 exact⟨oe,vs,T,_,_,(other e (Ne.symm hTe)).trans he,hcls,hdx,hd,h1,hnT,hTe,HV _ hT (Obj.isFreed_of_fields (Obj.data_mapFields hdT _)),Obj.data_mapFields hdT _,by simp[hsz3]⟩
theorem x_note {base:Heap}{outer:List Env}{L e dx:Addr}{cls:Value}{Q:Unit->Shared->Prop}(hfr:A.frames=some (env::outer))(hf:env.frame=some L)(hy:FlyX base (env::outer) e cls dx .none s.heap)
  (h:∀ h',FlyX base (env::outer) e cls dx (rawInt L) h'->s.heap.UpToSlots h'->Q () { s with heap:=h' }):wpAny M A (noteFrame (.ref e) env) Q E s:=by
 obtain⟨hkb,hen,hl,oe,vs,T,oT,ts,he,hcls,hdx,hd,h1,hnT,hTe,hT,hdT,h3⟩:=hy
 subst hcls
 unfold noteFrame
 simp only[hf]
 refine QZ (GJ he hd h1 ?_)
 rw[if_pos (show (Value.ref T != Value.none)=true from by simp)]
 refine QZ (GJ hT hdT h3 ?_)
 rw[if_neg (show ¬ ((Value.none==rawInt L)=true) from by simp[rawInt])]
 refine QZ (K4 hT hdT (V7.mp h3).1 ?_)
 have other:∀ b,b≠T->(s.heap.update T (Obj.mapFields (·.setIfInBounds 3 Value.none))).get? b=s.heap.get? b:=λb hb=>U4 _ _ (Ne.symm hb)
 have noRecord:∀ b o,s.heap.get? b=some o->(∀ vs,o.data≠.fields vs)->b≠T:=λb o hb hnf q=>by
  rw[q,hT] at hb;injection hb with hb;subst hb;exact hnf ts hdT
 refine x_entry hfr (hl.of_keeps λb o hb hnf=>⟨o,(other b (noRecord b o hb hnf)).trans hb,rfl⟩) hf ((other e (Ne.symm hTe)).trans he) hdx
  (λb o hbo=>(other b λq=>by rw[q,hnT] at hbo;exact nos hbo).trans (hkb b o hbo)) hen hd (V7.mp h1).1
  λh' x1 x2=>h h' x1 λb o hb hnf=>x2 b o ((other b (noRecord b o hb hnf)).trans hb) hnf
theorem x_note_first {base:Heap}{outer:List Env}{L e dx:Addr}{oe:Obj}{vs:Array Value}{Q:Unit->Shared->Prop}(hfr:A.frames=some (env::outer))(hf:env.frame=some L)(hl:s.heap.FunFrames base (env::outer))(hkb:base.StaysIn s.heap)(hen:base.get? e=none)
  (he:s.heap.get? e=some oe) (hdx:oe.dict=some dx) (hd:oe.data = .fields vs) (h1:vs[1]? = some .none)
  (h:∀ h',FlyX base (env::outer) e oe.cls dx (rawInt L) h'->s.heap.UpToSlots h'->Q () { s with heap:=h' }):wpAny M A (noteFrame (.ref e) env) Q E s:=by
 unfold noteFrame
 simp only[hf]
 refine QZ (GJ he hd h1 ?_)
 rw[if_neg (by decide)]
 exact x_entry hfr hl hf he hdx hkb hen hd (V7.mp h1).1 h
theorem Lw {base:Heap}{outer:List Env}{L e dx:Addr}{oe:Obj}{vs:Array Value}{Q:Unit->Shared->Prop}(hfr:A.frames=some (env::outer))(hf:env.frame=some L)(hl:s.heap.FunFrames base (env::outer))(hkb:base.StaysIn s.heap)(hen:base.get? e=none)
  (he:s.heap.get? e=some oe) (hdx:oe.dict=some dx) (hd:oe.data = .fields vs) (h1:vs[1]? = some .none)
  (h:∀ h',FlyX base outer e oe.cls dx .none h'->s.heap.UpToSlots h'->Q () { s with heap:=h' }):wpAny M A (leaving env (.ref e)) Q E s:=by
 refine QZ (x_note_first hfr hf hl hkb hen he hdx hd h1 λh₁ yA uA=>W1 yA λh₂ yB uB=>?_)
 obtain⟨a,b,⟨_,_,c⟩,d⟩:=yB
 exact h h₂ ⟨a,b,c,d⟩ (uA.trans uB)
end
end
section
open PySem.SeqAt
noncomputable abbrev bm72:List Value:=[.ref 47,.type "Exception",.type "BaseException",.type "object"]
noncomputable abbrev cls72:Obj:=excClassObj "GrammarFault" "GrammarFault" 72 71 [.ref 47] bm72 true [] [] false none none (some (.ref 63)) none (some (.str "GrammarFault" 252)) (some (.str "GrammarFault" 260)) (some (.bool true)) "Exception.__new__"
abbrev cd72:ClassData:={ name := "GrammarFault",bases:=[.ref 47],mro:=.ref 72::bm72,ns:=71,qualname := "GrammarFault",hasDict:=true,slotNames:=[],subclasses:=[],abstract:=false,collection:=none,hasDel:=false }
section
variable (P:Params)(sa:Addr)(so:Obj)
theorem x_look:(kq P sa so).lookup 72=some cls72:=by kernel_rfl
theorem x_cls:clsIn (kq P sa so) 72=some cd72:=by kernel_rfl
theorem x_sa:findIn (kq P sa so) (.ref 72) "__setattr__"=some (some (.builtin "object.__setattr__")):=by kernel_rfl
theorem x_ga:findIn (kq P sa so) (.ref 72) "__getattribute__"=some (some (.builtin "BaseException.__getattribute__")):=by kernel_rfl
theorem x_gn:findIn (kq P sa so) (.ref 72) "__getattr__"=some none:=by kernel_rfl
theorem x_at:findIn (kq P sa so) (.ref 72) "at"=some none:=by kernel_rfl
theorem x_in:findIn (kq P sa so) (.ref 72) "__init__"=some (some (.ref 37)):=by kernel_rfl
theorem x_fn:isFn (kq P sa so) (.ref 37)=true:=by kernel_rfl
theorem x_tw:takerIn (kq P sa so) 72 "what"=some none:=by kernel_rfl
theorem x_ta:takerIn (kq P sa so) 72 "at"=some none:=by kernel_rfl
theorem x_xi:findCls (kq P sa so) (.type "Exception") (.type "type") "__init__"=some (.val (.builtin "Exception.__init__")):=by kernel_rfl
theorem x_xt:typeOf (.type "Exception")=pure (.type "type"):=by kernel_rfl
theorem x_pass (self:Value):refuseLoop self "__setattr__" cd72.mro=pure ():=by
 show refuseLoop self "__setattr__" (.ref 72::.ref 47::[.type "Exception",.type "BaseException",.type "object"])=_
 rw[refuseLoop_ref,refuseLoop_ref]
 exact PySem.F.store_Exception.passes self
theorem x_st (name:Str)(h:takerIn (kq P sa so) 72 name=some none):StoresIn (kq P sa so) 72 name cd72:=⟨x_cls _ _ _,x_sa _ _ _,x_pass,rfl,by decide +kernel,h,rfl⟩
def errOk (g:Ge)(E:Ce)(b:List Stmt):Bool:=onv (asRow3 b) λs=>onv (asExpr s.1) λe1=>onv (asCall e1.1) λc1=>onv (asAttr c1.1) λa1=>onv (asTwo c1.2.1) λx=>onv (asAsg s.2.1) λv2=>onv (asAttr v2.1) λa2=>onv (asAsg s.2.2.1) λv3=>onv (asAttr v3.1) λa3=>
 (a1.2.1 == "__init__"&&chX g E (.val (.glob (.type "Exception"))) a1.1&&methForm a1.1 2 a1.2.2 c1.2.2&&chX g E (.loc 0) x.1)&&(chX g E (.loc 1) x.2&&notStar x.1&&notStar x.2&&notComp e1.1) &&
 (a2.2.1 == "what"&&chX g E (.loc 0) a2.1&&chX g E (.loc 1) v2.2.1&&notComp v2.2.1)&&(a3.2.1 == "at"&&chX g E (.loc 0) a3.1&&chX g E (.loc 2) v3.2.1&&notComp v3.2.1)&&s.2.2.2.isEmpty
theorem err_is:errOk (geOf (kq P sa so)) (ceOf (recOf (kq P sa so) 37 e_Err_init) 37) (recOf (kq P sa so) 37 e_Err_init).body=true:=by kernel_rfl
theorem err_shape:((recOf (kq P sa so) 37 e_Err_init).lo==2&&(recOf (kq P sa so) 37 e_Err_init).ps.length==3&&(recOf (kq P sa so) 37 e_Err_init).zs.isEmpty&&(recOf (kq P sa so) 37 e_Err_init).pk==[false,false,false])=true:=by kernel_rfl
end
section
variable {c:Cx}{d:Nat}{f:Fm}{A:Around}{W:Wd}{σ:Store}{en:En}{s:Shared}{m:Str->Option Value}{N P0:NwT}{E:Value->Shared->Prop}{Q:Flow->Shared->Prop}{sa:Addr}{so:Obj}{e t0:Addr}
theorem Fm.Ok.pins (ok:f.Ok c A d)(hcn:f.comp=none)(P:NwT):(f.pins P).Ok c A d:={ ok with cmp:=λp h=>by have h:f.comp=some p:=h;rw[hcn] at h;cases h }
theorem In72 (H:IsC c sa so){h:Heap}(X:c.K.In h):h.get? 72=some cls72:=X _ _ (by rw[H.K];exact x_look _ _ _)
theorem err_1 (H:IsC c sa so)(ok:f.Ok c A d)(hcn:f.comp=none)(S:St c (f.pins ((e,excObj 72 none t0)::P0)) W σ en s m N){o1 x1 x2:PySem.Expr}{ap cp pos:Pos}{ML:MdL}{a1:AV}
  (ho:SE c d (f.pins ((e,excObj 72 none t0)::P0)) o1 (λZ σ=>some (.glob (.type "Exception"),σ))) (hl:SL c d (f.pins ((e,excObj 72 none t0)::P0)) [x1,x2] ML) (q:ML en σ=some ([.glob (.ref e),a1],σ))
  (hm:methForm o1 2 ap cp=true) (hs:[x1,x2].all notStar=true) (hc:notComp (.Call (.Attribute o1 "__init__" ap) [x1,x2] [] cp)=true)
  (hQ:∀ s' W' m' N' t1,W.le W'->St c (f.pins ((e,excObj 72 none t1)::P0)) W' σ en s' m' N'->Q .next s') :
  wpAny (model c.prog c.w) A (exec (.Expr (.Call (.Attribute o1 "__init__" ap) [x1,x2] [] cp) pos) f.env) Q E s:=by
 have okF:=ok.pins hcn ((e,excObj 72 none t0)::P0)
 refine wpAny_Expr_any (MethodCall_ (post (ho A W s σ en _ σ m N E okF S rfl) λov s₁ WA m₁ NA w₁ S₁ rA=>?_) (M5 hm hs)) (G6 ok.skind) (HU hc)
 cases rA
 refine method_type S₁.F ok.X x_xt (by decide +kernel) (by rw[H.K];exact x_xi _ _ _) rfl ?_
 have SA' : St c (f.pins ((e,excObj 72 none t0)::P0)) WA σ en { s₁ with toks:=s₁.toks+1 } m₁ NA:=S₁.toks (s₁.toks+1) (Qq _)
 refine callWith_of (P:=λh=>KeepOk (model c.prog c.w) h (.builtin "Exception.__init__")) (by rw[UW cp [x1,x2] f.env hs];rfl) (λh k=>k) (VX hs (post (hl A WA _ σ en _ σ m₁ NA E cp okF SA' q) λvs sB WB mB NB wB S₂ rB=>?_))
 obtain⟨v,rfl⟩:∃ v,vs=[.ref e,v]:=by
  cases rB with
  |cons ra rB=>
  cases rB with
  |cons rb rB=>
  cases rB
  cases ra
  exact⟨_,rfl⟩
 refine⟨⟨.machine,.inr (.inl rfl),Looks.of_pure rfl⟩,?_⟩
 have he:=(S₂.nw _ (S₂.fa.pn (e,excObj 72 none t0) (.head _))).1
 have hC:=In72 H (ok.X.keeps S₂.F.keep)
 obtain⟨hh,g,dr,t,os⟩:=sB
 refine x_init (bm:=bm72) (by decide +kernel) hC he λh' g1 g2=>?_
 have S₃:St c ((f.pins P0).pinned (e,excObj 72 none t0)) WB σ en ⟨hh.push { cls:=.type "tuple",data:=.seq #[v] },g,dr,t,os⟩ mB NB:=S₂.same (t:=t) (S₂.F.push _) (λp hp=>(News.push S₂.F S₂.nw { cls:=.type "tuple",data:=.seq #[v] }) p (.tail _ hp)) S₂.pos
 exact hQ _ WB mB _ _ (w₁.trans wB) (S₃.pinTurn (t:=t) g1 g2 S₂.pos)
theorem err_2 (H:IsC c sa so)(ok:f.Ok c A d)(hcn:f.comp=none)(S:St c (f.pins ((e,excObj 72 none t0)::P0)) W σ en s m N){o x:PySem.Expr}{pos' pos:Pos}{name:Str}{MO MX:Md}{a:AV}
  (ho:SE c d (f.pins ((e,excObj 72 none t0)::P0)) o MO) (hx:SE c d (f.pins ((e,excObj 72 none t0)::P0)) x MX) (qo:MO en σ=some (.glob (.ref e),σ)) (qx:MX en σ=some (a,σ)) (hc:notComp x=true) (ht:takerIn (kq c.w.params sa so) 72 name=some none)
  (hQ:∀ s' W' m' N' dx od v,W.le W'->St c (f.pins ((dx,od)::(e,excObj 72 (some dx) t0)::P0)) W' σ en s' m' N'->Rel c.lam W' a v->(∀ h:Heap,h.get? dx=some od->h.Ns1 dx (λy=>if y=name then some v else none))->Q .next s') :
  wpAny (model c.prog c.w) A (exec (.Assign [.Attribute o name pos'] x pos) f.env) Q E s:=by
 have okF:=ok.pins hcn ((e,excObj 72 none t0)::P0)
 refine plainObj_wpAny_Assign_Attribute (post (hx A W s σ en a σ m N E okF S qx) λv s₁ WA m₁ NA w₁ S₁ rA=>?_) (HU hc)
 refine post (ho A WA s₁ σ en _ σ m₁ NA E okF S₁ qo) λov sB WB mB NB wB S₂ rB=>?_
 cases rB
 have pe:=S₂.fa.pn (e,excObj 72 none t0) (.head _)
 have ze:=S₂.nw _ pe
 have X:=ok.X.keeps S₂.F.keep
 have Y:StoresIn c.K 72 name cd72:=by rw[H.K];exact x_st _ _ _ name ht
 obtain⟨hh,g,dr,t,os⟩:=sB
 refine J5 S₂.pos (x_store_new (x:=e) X Y ze.1 (λc h=>nomatch h) λh' tk' od h1 h2 h3 h4 htk=>?_)
 have hLs:f.L<hh.objs.size:=S₂.F.ns.lt
 have hab:f.h₀.objs.size≤f.L:=S₂.F.above
 have hlt:∀ p∈turnN NB e (excObj 72 (some hh.objs.size) t0),p.1<hh.objs.size:=λp hp=>by
  rcases mcM hp with rfl|hp
  · exact V0 ze.1
  · exact S₂.lt p (JZ.mp hp).1
 refine hQ _ WB mB ((hh.objs.size,od)::turnN NB e (excObj 72 (some hh.objs.size) t0)) hh.objs.size od v (w₁.trans wB) ⟨⟨Heap.Ns.at' S₂.F.ns λo q=>h4 _ o (λq=>ze.2.1 q.symm) q,λb o q=>h4 b o (λh=>?_) (S₂.F.keep b o q),S₂.F.above⟩,λp hp=>?_,
  ((S₂.fa:Facts c ((e,excObj 72 none t0)::P0) WB σ NB).pinTurn (o' := excObj 72 (some hh.objs.size) t0)).pinNew hlt,S₂.env,S₂.cel,S₂.gens,S₂.drawn,S₂.os,htk,S₂.oenv⟩ (rA.mono wB) λh q=>?_
 · subst h
   have z:f.h₀.get? b=none:=ze.2.2;rw[q] at z;cases z
 · rcases mcM hp with rfl|hp
   · exact⟨h2,Qj hLs,Gx (QJ hab (NQ hLs))⟩
   · rcases mcM hp with rfl|hp
     · exact⟨h1,ze.2⟩
     · obtain⟨k1,k2⟩:=JZ.mp hp
       exact⟨h4 _ _ (of_decide_eq_true k2) (S₂.nw p k1).1,(S₂.nw p k1).2⟩
 · obtain⟨o',es,ep,e1,r⟩:=h3
   rw[h2] at e1;cases e1
   exact⟨od,es,ep,q,r⟩
theorem err_3 (H:IsC c sa so)(ok:f.Ok c A d)(hcn:f.comp=none){dx:Addr}{od:Obj}{mA:Str->Option Value}{ns:List Str}(S:St c (f.pins ((dx,od)::(e,excObj 72 (some dx) t0)::P0)) W σ en s m N)(hod:∀ h:Heap,h.get? dx=some od->h.Ns1 dx mA)(hw:Within mA ns)(hsz:ns.length+1≤sizeLine+1)
  {o x:PySem.Expr} {pos' pos:Pos} {name:Str} {MO MX:Md} {a:AV}
  (ho:SE c d (f.pins ((dx,od)::(e,excObj 72 (some dx) t0)::P0)) o MO) (hx:SE c d (f.pins ((dx,od)::(e,excObj 72 (some dx) t0)::P0)) x MX) (qo:MO en σ=some (.glob (.ref e),σ)) (qx:MX en σ=some (a,σ)) (hc:notComp x=true) (ht:takerIn (kq c.w.params sa so) 72 name=some none)
  (hQ:∀ s' W' m' N' od v,W.le W'->St c (f.pins ((dx,od)::(e,excObj 72 (some dx) t0)::P0)) W' σ en s' m' N'->Rel c.lam W' a v->(∀ h:Heap,h.get? dx=some od->h.Ns1 dx (λy=>if y=name then some v else mA y))->Q .next s') :
  wpAny (model c.prog c.w) A (exec (.Assign [.Attribute o name pos'] x pos) f.env) Q E s:=by
 have okF:=ok.pins hcn ((dx,od)::(e,excObj 72 (some dx) t0)::P0)
 refine plainObj_wpAny_Assign_Attribute (post (hx A W s σ en a σ m N E okF S qx) λv s₁ WA m₁ NA w₁ S₁ rA=>?_) (HU hc)
 refine post (ho A WA s₁ σ en _ σ m₁ NA E okF S₁ qo) λov sB WB mB NB wB S₂ rB=>?_
 cases rB
 have ze:=S₂.nw _ (S₂.fa.pn (e,excObj 72 (some dx) t0) (.tail _ (.head _)))
 have zd:=S₂.nw _ (S₂.fa.pn (dx,od) (.head _))
 have X:=ok.X.keeps S₂.F.keep
 have Y:StoresIn c.K 72 name cd72:=by rw[H.K];exact x_st _ _ _ name ht
 obtain⟨hh,g,dr,t,os⟩:=sB
 refine J5 S₂.pos (x_store_old (x:=e) X Y ze.1 rfl (λc h=>nomatch h) rfl (hod _ zd.1) (λh' tk' od' h2 h3 h4 htk=>?_) hw hsz)
 refine hQ _ WB mB (turnN NB dx od') od' v (w₁.trans wB) ⟨⟨Heap.Ns.at' S₂.F.ns λo q=>h4 _ o (λq=>zd.2.1 q.symm) q,λb o q=>h4 b o (λh=>?_) (S₂.F.keep b o q),S₂.F.above⟩,λp hp=>?_,
  (S₂.fa:Facts c ((dx,od)::(e,excObj 72 (some dx) t0)::P0) WB σ NB).pinTurn,S₂.env,S₂.cel,S₂.gens,S₂.drawn,S₂.os,htk,S₂.oenv⟩ (rA.mono wB) λh q=>?_
 · subst h
   have z:f.h₀.get? b=none:=zd.2.2;rw[q] at z;cases z
 · rcases mcM hp with rfl|hp
   · exact⟨h2,zd.2⟩
   · obtain⟨k1,k2⟩:=JZ.mp hp
     exact⟨h4 _ _ (of_decide_eq_true k2) (S₂.nw p k1).1,(S₂.nw p k1).2⟩
 · obtain⟨o',es,ep,e1,r⟩:=h3
   rw[h2] at e1;cases e1
   exact⟨od',es,ep,q,r⟩
end
end
section
open PySem.SeqAt
section
variable {c:Cx}{d:Nat}{f:Fm}{A:Around}{W:Wd}{σ:Store}{en:En}{s:Shared}{m:Str->Option Value}{N P0:NwT}{E:Value->Shared->Prop}{sa:Addr}{so:Obj}{ns:List Int}
abbrev pcN (sc:ScT):Pc:=⟨pk0 sc,λZ Z Z=>none,1000,(pk0 sc).exc⟩
theorem callNone:CallOK c d (λZ Z Z=>none):=λf A W s σ en g l a σ' gv vs m N E ok S rg rl q=>nos q
theorem err_body (H:IsC c sa so)(P:PkOk c (pk0 (sa,ns))){f0:Fm}{t0:Addr}{b:List Stmt}{E' : Ce}(hfit:∀ Ps,E'.fits (f0.pins Ps))(ok0:f0.Ok c A d)(hcn:f0.comp=none)(h:errOk (geOf c.K) E' b=true){e:Addr}{a1 a2:AV}
  (S₁:St c (f0.pins ((e,excObj 72 none t0)::P0)) W σ ⟨[some (.glob (.ref e)),some a1,some a2],[]⟩ s m N) {Q:Flow->Shared->Prop}
  (hQ:∀ s' W' m' N' dx od t1 mA v,W.le W'->St c (f0.pins ((dx,od)::(e,excObj 72 (some dx) t1)::P0)) W' σ ⟨[some (.glob (.ref e)),some a1,some a2],[]⟩ s' m' N'->(∀ h:Heap,h.get? dx=some od->h.Ns1 dx mA)->mA "at"=some v->Rel c.lam W' a2 v->Q .next s') :
  wpAny (model c.prog c.w) A (execs b f0.env) Q E s:=by
 have Xx:=λx:Mine.X=>UK (pc:=pcN (sa,ns)) (d:=d) P (geOk H.K) callNone x
 let D:List Stmt->Prop:=λb=>wpAny (model c.prog c.w) A (execs b f0.env) Q E s
 refine QU (C:=D) b h λb h=>QU (C:=λx=>D (x::b.2.1::b.2.2.1::b.2.2.2)) b.1 h λx1 h=>QU (C:=λy=>D (.Expr y x1.2::b.2.1::b.2.2.1::b.2.2.2)) x1.1 h λc1 h=>?_
 refine QU (C:=λy=>D (.Expr (.Call y c1.2.1 [] c1.2.2) x1.2::b.2.1::b.2.2.1::b.2.2.2)) c1.1 h λg1 h=>QU (C:=λy=>D (.Expr (.Call (.Attribute g1.1 g1.2.1 g1.2.2) y [] c1.2.2) x1.2::b.2.1::b.2.2.1::b.2.2.2)) c1.2.1 h λy h=>?_
 let D' : Stmt->Stmt->Prop:=λu v=>D (.Expr (.Call (.Attribute g1.1 g1.2.1 g1.2.2) [y.1,y.2] [] c1.2.2) x1.2::u::v::b.2.2.2)
 refine QU (C:=λu=>D' u b.2.2.1) b.2.1 h λv2 h=>QU (C:=λt=>D' (.Assign [t] v2.2.1 v2.2.2) b.2.2.1) v2.1 h λg2 h=>?_
 refine QU (C:=λu=>D' (.Assign [.Attribute g2.1 g2.2.1 g2.2.2] v2.2.1 v2.2.2) u) b.2.2.1 h λv3 h=>QU (C:=λt=>D' (.Assign [.Attribute g2.1 g2.2.1 g2.2.2] v2.2.1 v2.2.2) (.Assign [t] v3.2.1 v3.2.2)) v3.1 h λg3 h=>?_
 have q5:=Qx.mp (and2 h).2
 have q4:=and4 (and2 (and2 h).1).2
 have q3:=and4 (and2 (and2 (and2 h).1).1).2
 have q1:=and4 (and2 (and2 (and2 (and2 h).1).1).1).1
 have q2:=and4 (and2 (and2 (and2 (and2 h).1).1).1).2
 show wpAny (model c.prog c.w) A (execs (.Expr (.Call (.Attribute g1.1 g1.2.1 g1.2.2) [y.1,y.2] [] c1.2.2) x1.2::.Assign [.Attribute g2.1 g2.2.1 g2.2.2] v2.2.1 v2.2.2::.Assign [.Attribute g3.1 g3.2.1 g3.2.2] v3.2.1 v3.2.2::b.2.2.2) f0.env) Q E s
 rw[bqM q1.1,bqM q3.1,bqM q4.1,q5]
 refine JV (err_1 (f:=f0) (a1:=a1) H ok0 hcn S₁ ((Xx (.val (.glob (.type "Exception")))).e _ _ _ (hfit _) q1.2.1).1 (H5 ((Xx (.loc 0)).e _ _ _ (hfit _) q1.2.2.2).1 (H5 ((Xx (.loc 1)).e _ _ _ (hfit _) q2.1).1 WN q2.2.2.1) q2.2.1) rfl q1.2.2.1 (by rw[JX,q2.2.1,JX,q2.2.2.1];rfl) rfl λsB WB mB NB t1 wB S₂=>?_)
 refine JV (err_2 (f:=f0) (a:=a1) H ok0 hcn S₂ ((Xx (.loc 0)).e _ _ _ (hfit _) q3.2.1).1 ((Xx (.loc 1)).e _ _ _ (hfit _) q3.2.2.1).1 rfl rfl q3.2.2.2 (x_tw _ _ _) λsC WC m₃ N₃ dx od v wC S₃ Z hod=>?_)
 refine JV (err_3 (f:=f0) (a:=a2) H ok0 hcn S₃ hod (Within.cons "what" v Within.nil) (by rw[sizeLine_eq];simp) ((Xx (.loc 0)).e _ _ _ (hfit _) q4.2.1).1 ((Xx (.loc 2)).e _ _ _ (hfit _) q4.2.2.1).1 rfl rfl q4.2.2.2 (x_ta _ _ _) λsD WD mD ND od' v' wD S₄ rD hod'=>?_)
 exact NV (hQ sD WD mD ND dx od' t1 _ v' (wB.trans (wC.trans wD)) S₄ hod' (if_pos rfl) rD)
theorem err_made (H:IsC c sa so)(P:PkOk c (pk0 (sa,ns)))(ok:f.Ok c A (d+1))(S:St c f W σ en s m N){a1 a2:AV}{v1 v2:Value}(r1:Rel c.lam W a1 v1)(r2:Rel c.lam W a2 v2){Q:Value->Shared->Prop}
  (hQ:∀ s' W' m' N' e dx od t1 mA v,W.le W'->St c (f.pins ((dx,od)::(e,excObj 72 (some dx) t1)::f.pin)) W' σ en s' m' N'->(∀ h:Heap,h.get? dx=some od->h.Ns1 dx mA)->mA "at"=some v->Rel c.lam W' a2 v->Q (.ref e) s') :
  wpAny (model c.prog c.w) A (call (.ref 72) [v1,v2]) Q E s:=by
 have X:=ok.X.keeps S.F.keep
 refine xe04 (Hv (ns:=ns) (sa:=sa) H.K (q:=(37,e_Err_init)) (.head _)) λH37 Z Z hr=>?_
 have sh:=err_shape c.w.params sa so
 have bo:=err_is c.w.params sa so
 rw[← H.K] at sh bo
 obtain⟨hh,g,dr,t,os⟩:=s
 refine Uq (x_make (bm:=bm72) X (by decide +kernel) (by decide +kernel) (by decide +kernel) (In72 H X) (by rw[H.K];exact x_in _ _ _) (by rw[H.K];exact x_fn _ _ _) (by show 2≤sizeLine;rw[sizeLine_eq];exact leB rfl) ?_)
 have hz:(hh.push { cls:=.type "tuple",data:=.seq [v1,v2].toArray }).objs.size=hh.objs.size+1:=Heap.size_push ..
 have S0:St c f W σ en ⟨hh.push { cls:=.type "tuple",data:=.seq [v1,v2].toArray },g,dr,t,os⟩ m N:=S.same (t:=t) (S.F.push _) (λp hp=>(News.push S.F S.nw { cls:=.type "tuple",data:=.seq [v1,v2].toArray }) p (.tail _ hp)) S.pos
 have S1:St c (f.pinned ((hh.push { cls:=.type "tuple",data:=.seq [v1,v2].toArray }).objs.size,excObj 72 none hh.objs.size)) W σ en ⟨(hh.push { cls:=.type "tuple",data:=.seq [v1,v2].toArray }).push (excObj 72 none hh.objs.size),g,dr,t,os⟩ m _:=S0.pinNew (t:=t) (S0.F.push _) (News.push S0.F S0.nw _) S0.lt S.pos
 rw[hz] at S1
 generalize hh.objs.size+1=e at S1 ⊢
 generalize hh.objs.size=t0 at S1 ⊢
 have okA:(f.pinned (e,excObj 72 none t0)).At c (A.under (.builtin "type.__call__" ⟨.ref 72::[v1,v2],[]⟩)) d:={
  B:=ok.B,X:=ok.X,T:=ok.T,codes:=ok.codes,frf:=ok.frf,frk:=ok.frk
  frames:=ok.frames
  handled:=ok.handled
  depth:=by rw[depth_under_make];have:=ok.depth;exact ar29 this
  units:=by rw[units_under_make];have:=ok.units;exact ar30 this }
 generalize hR:recOf c.K 37 e_Err_init=r at H37 sh bo hr
 have slo:=bqM (and4 sh).1
 have sps:=bqM (and4 sh).2.1
 have sdl:=H37.dl
 refine Nq H37 okA S1 (.cons (.glob (.ref e)) (.cons r1 (.cons r2 .nil))) (by rw[slo,sps];exact⟨by simp,by simp⟩) λg' L' s₁ WA m₁ NA ok' w₁ S₁ Z Z lv=>?_
 have e1:(r.dvs.map globAV).drop ([AV.glob (.ref e),a1,a2].length - r.lo)=[]:=U3 (by rw[QH];simp;omega)
 rw[e1,bqM (and4 sh).2.2.2,Qx.mp (and4 sh).2.2.1] at S₁
 refine err_body H P (P0:=f.pin) (λPs=>GN hr rfl rfl rfl rfl rfl) (Fm.Ok.pins ok' rfl f.pin) rfl bo S₁ λsD WD mD ND dx od' t1 mA v' wD S₄ hod hat rD=>?_
 refine lv _ _ (leaveK_ S₄.F S₄.nw λF' X'=>⟨rfl,?_⟩)
 have w:=w₁.trans wD
 exact hQ sD WD m ND e dx od' t1 _ v' w ⟨F',X',S₄.fa,S.env.mono w,S.cel.mono w,S₄.gens,S₄.drawn,S₄.os,S₄.pos,S.oenv.mono w⟩ hod hat rD
end
end
section
open PySem.SeqAt
noncomputable def asRow2:(l:List Stmt)->Option {t:Stmt×Stmt // l=[t.1,t.2]}
 | [a,b]=>some ⟨(a,b),rfl⟩
 |_=>none
noncomputable def atX:X:=.attr (.sub (.attr (.loc 0) "tokens") (.call (.val (.glob (.builtin "min"))) (.cons (.attr (.loc 0) "at") (.cons (.bin .Sub (.call (.val (.glob (.builtin "len"))) (.cons (.attr (.loc 0) "tokens") .nil)) (.val (.int 1))) .nil)))) "at"
noncomputable def noTokY:Y:=.iff (.not (.attr (.loc 0) "tokens")) (.cons .fail .nil) .nil
def fltOk (g:Ge)(E:Ce)(b:List Stmt):Bool:=onv (asRow2 b) λs=>onv (asRet s.2) λr=>onv (asCall r.1) λu=>onv (asTwo u.2.1) λx=>
 (ch1 g E noTokY s.1&&chX g E (.val (.glob (.ref 72))) u.1&&notAttr u.1&&chX g E (.loc 1) x.1)&&(chX g E atX x.2&&notStar x.1&&notStar x.2&&(ob1 noTokY s.1).isEmpty)
section
variable (P:Params)(sa:Addr)(so:Obj)
theorem flt_is:fltOk (geOf (kq P sa so)) (ceOf (recOf (kq P sa so) 532 e_Reader_fault) 532) (recOf (kq P sa so) 532 e_Reader_fault).body=true:=by kernel_rfl
theorem flt_shape:((recOf (kq P sa so) 532 e_Reader_fault).lo==2&&(recOf (kq P sa so) 532 e_Reader_fault).ps.length==2&&(recOf (kq P sa so) 532 e_Reader_fault).zs.isEmpty&&(recOf (kq P sa so) 532 e_Reader_fault).pk==[false,false])=true:=by kernel_rfl
theorem flt_mem (ns:List Int):(532,e_Reader_fault)∈(pk0 (sa,ns)).fns:=Jw (show (pk0 (sa,ns)).fns.lookup 532=some e_Reader_fault from rfl)
theorem keep72:keepIn (kq P sa so) (.ref 72)=true:=by kernel_rfl
end
section
variable {c:Cx}{d:Nat}{f:Fm}{A:Around}{W:Wd}{σ:Store}{en:En}{s:Shared}{m:Str->Option Value}{N P0:NwT}{E:Value->Shared->Prop}{sa:Addr}{so:Obj}{ns:List Int}
inductive Faulted (c:Cx)(f:Fm)(W:Wd)(σ:Store)(en:En)(a:AV)(v:Value)(s' : Shared):Prop
 |mk (W' : Wd) (m' : Str->Option Value) (N' : NwT) (e dx:Addr) (od:Obj) (t1:Addr) (mA:Str->Option Value) (w:Value) (hv:v = .ref e) (le:W.le W') (S:St c (f.pins ((dx,od)::(e,excObj 72 (some dx) t1)::f.pin)) W' σ en s' m' N') (hod:∀ h:Heap,h.get? dx=some od->h.Ns1 dx mA) (hat:mA "at"=some w) (r:Rel c.lam W' a w)
abbrev pc1 (sc:ScT):Pc:=⟨pk0 sc,callN (pk0 sc) 1,1000,(pk0 sc).exc⟩
theorem Fm.Ok.less {d d' : Nat}(ok:f.Ok c A d)(h:d'≤d):f.Ok c A d' := { ok with depth:=by have:=ok.depth;exact ar33 3 h this,units:=by have:=ok.units;exact ar33 30 h this }
theorem flt_body (H:IsC c sa so)(P:PkOk c (pk0 (sa,ns)))(TX:TxtOk c (pk0 (sa,ns))){E' : Ce}{b:List Stmt}(hfit:E'.fits f)(hcm:E'.comp=false)(ok' : f.Ok c A 2)(h:fltOk (geOf c.K) E' b=true){a1 a2:AV}(S₁:St c f W σ en s m N)
  (q0:ev (pc1 (sa,ns)) (.loc 1) en σ=some (a1,σ)) (q1:evS (pc1 (sa,ns)) noTokY en σ=some (.next,en,σ)) (q2:ev (pc1 (sa,ns)) atX en σ=some (a2,σ)) {Q:Flow->Shared->Prop}
  (hQ:∀ s' W' m' N' e dx od t1 mA v,W.le W'->St c (f.pins ((dx,od)::(e,excObj 72 (some dx) t1)::f.pin)) W' σ en s' m' N'->(∀ h:Heap,h.get? dx=some od->h.Ns1 dx mA)->mA "at"=some v->Rel c.lam W' a2 v->Q (.ret (.ref e)) s') :
  wpAny (model c.prog c.w) A (execs b f.env) Q E s:=by
 have Go:=geOk H.K
 have hC:=U7 TX 1
 have Xx:=λx:Mine.X=>UK (pc:=pc1 (sa,ns)) (d:=1) P Go hC x
 have ok1:=ok'.less (show 1≤2 by decide)
 let D:List Stmt->Prop:=λb=>wpAny (model c.prog c.w) A (execs b f.env) Q E s
 refine QU (C:=D) b h λb h=>QU (C:=λx=>D [b.1,x]) b.2 h λr h=>QU (C:=λy=>D [b.1,.Return (some y) r.2]) r.1 h λu h=>QU (C:=λl=>D [b.1,.Return (some (.Call u.1 l [] u.2.2)) r.2]) u.2.1 h λy h=>?_
 have k:=and4 (and2 h).1
 have l:=and4 (and2 h).2
 have hs:[y.1,y.2].all notStar=true:=by rw[JX,l.2.1,JX,l.2.2.1];rfl
 refine JV (post ((N6 (pc:=pc1 (sa,ns)) (d:=1) P Go hC noTokY).s _ _ _ hfit hcm k.1 (by rw[Qx.mp l.2.2.2];exact λo ho=>nomatch ho) _ W s σ _ _ _ σ m N _ ok1 S₁ q1) λfl sB WB mB NB wB S₂ rB=>?_)
 cases rB
 refine JV (Mw (Call_ (post (((Xx (.val (.glob (.ref 72)))).e _ _ _ hfit k.2.1).1 _ WB sB σ _ _ σ mB NB _ ok1 S₂ rfl) λgv sC WC m₃ N₃ wC S₃ rC=>Gw rC ?_) (N8 k.2.2.1)))
 refine callWith_of (P:=λh=>KeepOk (model c.prog c.w) h (.ref 72)) (by rw[UW u.2.2 [y.1,y.2] _ hs];rfl) (λh k=>k) (VX hs (post ((H5 ((Xx (.loc 1)).e _ _ _ hfit k.2.2.2).1 (H5 ((Xx atX).e _ _ _ hfit l.1).1 WN l.2.2.1) l.2.1) _ WC sC σ _ [a1,a2] σ m₃ N₃ _ u.2.2 ok1 S₃ ?_) λvs sD WD mD ND wD S₄ rD=>rTwo rD λu1 u2 ra rb=>?_))
 · show on2 (ev (pc1 (sa,ns)) (.loc 1) en σ) _=_
   rw[q0];show on2 (on2 (ev (pc1 (sa,ns)) atX en σ) _) _=_
   rw[q2];rfl
 · exact⟨P6 ok1 S₄ (by rw[H.K];exact keep72 _ _ _),err_made (ns:=ns) (d:=1) H P ok' S₄ ra rb λsE WE mE NE e dx od t1 mA w wE S₅ hod hat rwE=>hQ sE WE mE NE e dx od t1 mA w (wB.trans (wC.trans (wD.trans wE))) S₅ hod hat rwE⟩
theorem fault_made (H:IsC c sa so)(P:PkOk c (pk0 (sa,ns)))(TX:TxtOk c (pk0 (sa,ns)))(ok:f.Ok c A 3)(S:St c f W σ en s m N){a0 a1 a2:AV}{v0 v1:Value}(r0:Rel c.lam W a0 v0)(r1:Rel c.lam W a1 v1)
  (q1:evS (pc1 (sa,ns)) noTokY ⟨[some a0,some a1],[]⟩ σ=some (.next,⟨[some a0,some a1],[]⟩,σ)) (q2:ev (pc1 (sa,ns)) atX ⟨[some a0,some a1],[]⟩ σ=some (a2,σ)) {Q:Value->Shared->Prop} (hQ:∀ v s',Faulted c f W σ en a2 v s'->Q v s') :
  wpAny (model c.prog c.w) A (call (.ref 532) [v0,v1]) Q E s:=by
 refine xe04 (Hv (ns:=ns) (sa:=sa) H.K (flt_mem sa ns)) λHF Z Z hr=>?_
 have sh:=flt_shape c.w.params sa so
 have bo:=flt_is c.w.params sa so
 rw[← H.K] at sh bo
 generalize hR:recOf c.K 532 e_Reader_fault=r at HF sh bo hr
 have slo:=bqM (and4 sh).1
 have sps:=bqM (and4 sh).2.1
 have sdl:=HF.dl
 refine Uq (Nq (d:=2) HF ok.at S (.cons r0 (.cons r1 .nil)) (by rw[slo,sps];exact⟨by simp,by simp⟩) λg' L' s₁ WA m₁ NA ok' w₁ S₁ Z Z lv=>?_)
 have e1:(r.dvs.map globAV).drop ([a0,a1].length - r.lo)=[]:=U3 (by rw[QH];simp;exact ar41 slo sps sdl)
 rw[e1,bqM (and4 sh).2.2.2,Qx.mp (and4 sh).2.2.1] at S₁
 refine flt_body H P TX (f:=f.into A r 532 g' L') (en:=⟨[some a0,some a1],[]⟩) (GN hr rfl rfl rfl rfl rfl) rfl ok' bo S₁ rfl q1 q2 λsE WE mE NE e dx od t1 mA w wE S₅ hod hat rwE=>?_
 refine lv _ _ (leaveK_ S₅.F S₅.nw λF' X'=>hQ _ _ ?_)
 have w' := w₁.trans wE
 exact⟨WE,m,NE,e,dx,od,t1,mA,w,rfl,w',⟨F',X',S₅.fa,S.env.mono w',S.cel.mono w',S₅.gens,S₅.drawn,S₅.os,S₅.pos,S.oenv.mono w'⟩,hod,hat,rwE⟩
end
end
section
open PySem.SeqAt
structure FlownAt (c:Cx)(pin:NwT)(h₀:Heap)(L:Addr)(fs:List Env)(W:Wd)(σ:Store)(a:AV)(e:Addr)(s' : Shared)(fl:Value)(B:Heap)(W' : Wd)(N' : NwT)(dx:Addr)(od:Obj)(mA:Str->Option Value)(w:Value):Prop where
 le:W.le W'
 fa:Facts c pin W' σ N'
 nw:∀ p∈N',B.get? p.1=some p.2∧p.1≠L∧h₀.get? p.1=none
 kp:∀ b o,h₀.get? b=some o->b∉fs.filterMap (·.frame)->B.get? b=some o
 sl:∀ b o,h₀.get? b=some o->(∀ vs,o.data≠.fields vs)->∃ sl,s'.heap.get? b=some { o with slots:=sl }
 ab:h₀.objs.size≤L
 fly:FlyX B fs e (.ref 72) dx fl s'.heap
 hdx:B.get? dx=some od
 hod:∀ h:Heap,h.get? dx=some od->h.Ns1 dx mA
 at_:mA "at"=some w
 rw_:Rel c.lam W' a w
 gens:s'.gens=c.gens
 drawn:s'.drawn=c.drawn
 os:s'.os=c.os
 pos:0<s'.toks
inductive Flown (c:Cx)(pin:NwT)(h₀:Heap)(L:Addr)(fs:List Env)(W:Wd)(σ:Store)(a:AV)(fl:Value)(e:Addr)(s' : Shared):Prop
 |mk (B:Heap) (W' : Wd) (N' : NwT) (dx:Addr) (od:Obj) (mA:Str->Option Value) (w:Value) (x:FlownAt c pin h₀ L fs W σ a e s' fl B W' N' dx od mA w)
section
variable {c:Cx}{d:Nat}{f:Fm}{A:Around}{W:Wd}{σ:Store}{en:En}{s s' : Shared}{m:Str->Option Value}{N pin:NwT}{E:Value->Shared->Prop}{a:AV}{e dx:Addr}{fl:Value}{fs:List Env}{h₀ g:Heap}{L L' : Addr}
theorem N4 {h:Heap}{a:Addr}(h' : h.objs.size≤a):h.get? a=none:=Gx h'
theorem flown_first (ok:f.Ok c A d)(hf:f.env=f.fr){od:Obj}{t1:Addr}{mA:Str->Option Value}{w:Value}(S:St c (f.pins ((dx,od)::(e,excObj 72 (some dx) t1)::f.pin)) W σ en s m N)
  (hod:∀ h:Heap,h.get? dx=some od->h.Ns1 dx mA) (hat:mA "at"=some w) (rw_:Rel c.lam W a w) {Q:Unit->Shared->Prop} (hQ:∀ s',Flown c f.pin f.h₀ f.L f.outer W σ a .none e s'->Q () s') :
  wpAny (model c.prog c.w) A (leaving f.env (.ref e)) Q E s:=by
 have ze:=S.nw _ (S.fa.pn (e,excObj 72 (some dx) t1) (.tail _ (.head _)))
 have zd:=S.nw _ (S.fa.pn (dx,od) (.head _))
 have hde:dx≠e:=λh=>by
  have z:(((dx,od)::(e,excObj 72 (some dx) t1)::f.pin).map λx=>x.1).Nodup:=S.fa.pnd;rw[QM,J6] at z
  exact z.1 (by rw[h];exact .head _)
 have S1:St c ((f.pins ((dx,od)::f.pin)).pinned (e,excObj 72 (some dx) t1)) W σ en s m N:=St.pins (f:=f) (.swap _ _ _) S
 have S2:=(S1.pinDrop (t:=s.toks) (h' := s.heap) (λb o Z h=>h) S.pos).fa
 have F2:Facts c f.pin W σ (N.filter λp=>decide (p.1≠e)):=(show Facts c ((dx,od)::f.pin) W σ _ from S2).unpin
 have K:=pushX ok.B S.F ok.frf ok.frk
 have outN:∀ b,b∈f.outer.filterMap (·.frame)->f.h₀.get? b≠none:=λb hb h=>by
  refine xe12 (List.mem_filterMap.mp hb) λenv he hf'=>?_
  refine xe22 (funFrames_in ok.B.frames env he) λLA oA hfA hoA=>?_
  rw[hfA] at hf'
  cases hf'
  rw[hoA] at h;cases h
 have nf:∀ b,b≠f.L->f.h₀.get? b=none->b∉(f.fr::f.outer).filterMap (·.frame):=λb h1 h2 hm=>by
  rw[Jk,ok.frf] at hm;rcases mcM hm with h|hm
  · exact h1 h
  · exact outN b hm h2
 let B:Heap:=hideAll s.heap (e::(f.fr::f.outer).filterMap (·.frame))
 have hB:∀ b o,s.heap.get? b=some o->b≠e->b∉(f.fr::f.outer).filterMap (·.frame)->B.get? b=some o:=λb o h h1 h2=>hideAll_get _ h λhm=>(mcM hm).elim h1 h2
 have hl:s.heap.FunFrames (hideAll s.heap (e::(f.fr::f.outer).filterMap (·.frame))) (f.fr::f.outer):=funFrames_hide K.frames λenv he a hf'=>.tail _ (List.mem_filterMap.mpr ⟨env,he,hf'⟩)
 rw[hf]
 refine Lw (base:=B) ok.frames ok.frf hl (λb o h=>of_hideAll _ h) (hideAll_none _ (.head _)) ze.1 rfl rfl rfl λh' y u=>hQ _ ?_
 have hN:∀ p∈N.filter λp=>decide (p.1≠e),B.get? p.1=some p.2∧p.1≠f.L∧f.h₀.get? p.1=none:=λp hp=>by
  obtain⟨h1,h2⟩:=JZ.mp hp;have z:=S.nw p h1
  exact⟨hB _ _ z.1 (of_decide_eq_true h2) (nf _ z.2.1 z.2.2),z.2⟩
 refine⟨B,W,_,dx,od,mA,w,.refl W,F2,hN,λb o hb hn=>?_,λb o hb hd=>?_,S.F.above,y,?_,hod,hat,rw_,S.gens,S.drawn,S.os,S.pos⟩
 · refine hB b o (S.F.keep b o hb) (λh=>?_) λhm=>?_
   · subst h
     have z:f.h₀.get? b=none:=ze.2.2;rw[hb] at z;cases z
   · rw[Jk,ok.frf] at hm
     rcases mcM hm with h|hm
     · rw[h,N4 S.F.above] at hb;exact nos hb
     · exact hn hm
 · exact u b o (S.F.keep b o hb) hd
 · exact hB _ _ zd.1 hde (nf _ zd.2.1 zd.2.2)
theorem W8 {WA:Wd}(w:W.le WA)(FG:Fr h₀ L g m)(y:Flown c pin g L' fs WA σ a fl e s'):Flown c pin h₀ L fs W σ a fl e s'∧s'.heap.Ns L m:=by
 obtain⟨B,W',N',dx,od,mA,v,y⟩:=y
 refine xe33 FG.ns λoL es ep h1 h2 h3=>?_
 refine⟨⟨B,W',N',dx,od,mA,v,w.trans y.le,y.fa,λp hp=>?_,λb o h hn=>y.kp b o (FG.keep b o h) hn,λb o h hd=>y.sl b o (FG.keep b o h) hd,FG.above,y.fly,y.hdx,y.hod,y.at_,y.rw_,y.gens,y.drawn,y.os,y.pos⟩,?_⟩
 · have z:=y.nw p hp
   refine⟨z.1,λq=>?_,?_⟩
   · have:=z.2.2;rw[q,h1] at this;cases this
   · cases q:h₀.get? p.1 with
     |none=>rfl
     |some o=>have:=z.2.2;rw[FG.keep _ _ q] at this;cases this
 · obtain⟨sl,h4⟩:=y.sl L oL h1 λvs q=>by rw[h2] at q;cases q
   exact⟨_,es,ep,h4,h2,h3⟩
end
end
section
open PySem.SeqAt
section
variable {M:Model}{A:Around}{E:Value->Shared->Prop}{s:Shared}{env:Env}
theorem x_flightTo {base:Heap}{l:List Env}{e dx:Addr}{cls fl:Value}{fr:Option Addr}{Q:Unit->Shared->Prop}(hy:FlyX base l e cls dx fl s.heap)
  (h:∀ h',FlyX base l e cls dx (fr.elim .none λf=>rawInt f) h'->s.heap.UpToSlots h'->Q () { s with heap:=h' }):wpAny M A (setFlight (.ref e) fr) Q E s:=by
 obtain⟨hkb,hen,hl,oe,vs,T,oT,ts,he,hcls,hdx,hd,h1,hnT,hTe,hT,hdT,h3⟩:=hy
 have hsz3:3<ts.size:=(V7.mp h3).1
 have other:∀ b,b≠T->(s.heap.update T (Obj.mapFields (·.setIfInBounds 3 (fr.elim Value.none λf=>rawInt f)))).get? b=s.heap.get? b:=
  λb hb=>U4 _ _ (Ne.symm hb)
 have noRecord:∀ b o,s.heap.get? b=some o->(∀ vs,o.data≠.fields vs)->b≠T:=λb o hb hnf q=>by
  rw[q,hT] at hb;injection hb with hb;subst hb;exact hnf ts hdT
 refine QZ (GJ he hd h1 ?_)
 rw[if_pos (show (Value.ref T != Value.none)=true from by simp)]
 refine K4 hT hdT hsz3 (h _ ⟨λb o hbo=>(other b λq=>by rw[q,hnT] at hbo;exact nos hbo).trans (hkb b o hbo),hen,
  hl.of_keeps λb o hb hnf=>⟨o,(other b (noRecord b o hb hnf)).trans hb,rfl⟩,?_⟩ λb o hb hnf=>⟨o.slots,(other b (noRecord b o hb hnf)).trans hb⟩)
 exact⟨oe,vs,T,_,_,(other e (Ne.symm hTe)).trans he,hcls,hdx,hd,h1,hnT,hTe,HV _ hT (Obj.isFreed_of_fields (Obj.data_mapFields hdT _)),Obj.data_mapFields hdT _,by simp[hsz3]⟩
theorem x_note_again {base:Heap}{l:List Env}{L e dx:Addr}{cls:Value}{Q:Unit->Shared->Prop}(hf:env.frame=some L)(hy:FlyX base l e cls dx (rawInt L) s.heap)(h:Q () s):wpAny M A (noteFrame (.ref e) env) Q E s:=by
 obtain⟨hkb,hen,hl,oe,vs,T,oT,ts,he,hcls,hdx,hd,h1,hnT,hTe,hT,hdT,h3⟩:=hy
 unfold noteFrame
 simp only[hf]
 refine QZ (GJ he hd h1 ?_)
 rw[if_pos (show (Value.ref T != Value.none)=true from by simp)]
 refine QZ (GJ hT hdT h3 ?_)
 rw[if_pos (show (rawInt L==rawInt L)=true from by simp)]
 exact Qk h
theorem x_noted {base:Heap}{outer:List Env}{L e dx:Addr}{cls fl:Value}{Q:Unit->Shared->Prop}(hfr:A.frames=some (env::outer))(hf:env.frame=some L)(hfl:fl = .none∨fl=rawInt L)(hy:FlyX base (env::outer) e cls dx fl s.heap)
  (h:∀ h',FlyX base (env::outer) e cls dx (rawInt L) h'->s.heap.UpToSlots h'->Q () { s with heap:=h' }):wpAny M A (noteFrame (.ref e) env) Q E s:=by
 rcases hfl with rfl|rfl
 · exact x_note hfr hf hy h
 · exact x_note_again hf hy (h s.heap hy λb o hb Z=>⟨o.slots,hb⟩)
end
def FX (c:Cx)(f:Fm)(W:Wd)(σ:Store)(a:AV)(e:Addr)(s' : Shared):Prop := ∃ fl m',(fl=Value.none∨fl=rawInt f.L)∧Flown c f.pin f.h₀ f.L (f.fr::f.outer) W σ a fl e s'∧s'.heap.Ns f.L m'
section
variable {c:Cx}{d:Nat}{f:Fm}{A:Around}{W:Wd}{σ σ₁ σ₂ σ' : Store}{en:En}{s s' : Shared}{m:Str->Option Value}{N pin:NwT}{E:Value->Shared->Prop}{a:AV}{e:Addr}
theorem Flown.other {h₀:Heap}{L:Addr}{fs:List Env}{fl fl' : Value}{pin:NwT}(y:Flown c pin h₀ L fs W σ a fl e s'){P:Prop}
  (k:∀ B dx,FlyX B fs e (.ref 72) dx fl s'.heap->(∀ h',FlyX B fs e (.ref 72) dx fl' h'->s'.heap.UpToSlots h'->Flown c pin h₀ L fs W σ a fl' e { s' with heap:=h' })->P):P:=by
 obtain⟨B,W',N',dx,od,mA,v,y⟩:=y
 exact k B dx y.fly λh' y' u=>⟨B,W',N',dx,od,mA,v,y.le,y.fa,y.nw,y.kp,λb o h hd=>by
  obtain⟨sl,h1⟩:=y.sl b o h hd;obtain⟨sl',h2⟩:=u b _ h1 hd
  exact⟨sl',h2⟩,y.ab,y',y.hdx,y.hod,y.at_,y.rw_,y.gens,y.drawn,y.os,y.pos⟩
theorem Nj {h h' : Heap}{L:Addr}{m:Str->Option Value}(n:h.Ns L m)(u:h.UpToSlots h'):h'.Ns L m:=by
 refine xe33 n λo es ep h1 h2 h3=>?_
 obtain⟨sl,h4⟩:=u L o h1 λvs q=>by rw[h2] at q;cases q
 exact⟨_,es,ep,h4,h2,h3⟩
theorem FX.up {WA:Wd}(w:W.le WA)(y:FX c f WA σ a e s'):FX c f W σ a e s' := by
 obtain⟨fl,m',h1,⟨B,W',N',dx,od,mA,v,y⟩,h2⟩:=y
 exact⟨fl,m',h1,⟨B,W',N',dx,od,mA,v,{ y with le:=w.trans y.le }⟩,h2⟩
theorem qX (hfr:A.frames=some (f.fr::f.outer))(hfL:f.fr.frame=some f.L)(hf:f.env=f.fr)(y:FX c f W σ a e s'){Q:Unit->Shared->Prop}
  (hQ:∀ s'' m',Flown c f.pin f.h₀ f.L (f.fr::f.outer) W σ a (rawInt f.L) e s''->s''.heap.Ns f.L m'->Q () s''):wpAny (model c.prog c.w) A (noteFrame (.ref e) f.env) Q E s' := by
 refine xe23 y λfl m' h1 y h2=>?_
 rw[hf]
 exact y.other λB dx x k=>x_noted hfr hfL h1 x λh' x' u=>hQ _ _ (k h' x' u) (Nj h2 u)
theorem fx_loop (hfr:A.frames=some (f.fr::f.outer))(hfL:f.fr.frame=some f.L)(hf:f.env=f.fr)(y:FX c f W σ a e s')(hQ:∀ s'',FX c f W σ a e s''->E (.ref e) s'') :
  notedBy (model c.prog c.w) A f.env (cameBackBy (model c.prog c.w) A f.env E) (.ref e) s' := by
 refine qX hfr hfL hf y λs₁ m₁ y n=>?_
 refine y.other (fl' := rawInt f.L) λB dx x k=>?_
 have hx:=x
 obtain⟨_,_,_,oe,vs,T,oT,ts,he,hcls,hdx,hd,h1,hnT,hTe,hT,hdT,h3⟩:=hx
 refine QZ (GJ he hd h1 ?_)
 rw[if_neg (show ¬ (Value.ref T==Value.none)=true from by simp),hf,hfL]
 exact x_flightTo (fr:=some f.L) x λh' x' u=>hQ _ ⟨_,_,.inr rfl,k h' x' u,Nj n u⟩
theorem fx_leaves (hfr:A.frames=some (f.fr::f.outer))(hfL:f.fr.frame=some f.L)(hf:f.env=f.fr)(y:FX c f W σ a e s'){Q:Unit->Shared->Prop}(hQ:∀ s',Flown c f.pin f.h₀ f.L f.outer W σ a .none e s'->Q () s') :
  wpAny (model c.prog c.w) A (leaving f.env (.ref e)) Q E s' := by
 refine QZ (qX hfr hfL hf y λs₁ m₁ y n=>?_)
 obtain⟨B,W',N',dx,od,mA,v,y⟩:=y
 refine W1 y.fly λh' y' u=>hQ _ ⟨B,W',N',dx,od,mA,v,y.le,y.fa,y.nw,λb o h hn=>y.kp b o h λhm=>?_,λb o h hd=>?_,y.ab,⟨y'.1,y'.2,y'.3.2.2,y'.4⟩,y.hdx,y.hod,y.at_,y.rw_,y.gens,y.drawn,y.os,y.pos⟩
 · rw[Jk,hfL] at hm
   rcases mcM hm with q|hm
   · rw[q,N4 y.ab] at h;exact nos h
   · exact hn hm
 · obtain⟨sl,h1⟩:=y.sl b o h hd
   obtain⟨sl',h2⟩:=u b _ h1 hd;exact⟨sl',h2⟩
def CX (c:Cx)(d:Nat)(g:AV)(l:List AV)(σ:Store)(a:AV)(σ' : Store):Prop:=
 ∀ (f:Fm) (A:Around) (W:Wd) (s:Shared) (en:En) (gv:Value) (vs:List Value) (m:Str->Option Value) (N:NwT) (Q E:Value->Shared->Prop),
  f.Ok c A d->St c f W σ en s m N->Rel c.lam W g gv->RelL c.lam W l vs->(∀ e s',FX c f W σ' a e s'->E (.ref e) s')->KeepOk (model c.prog c.w) s.heap gv∧wpAny (model c.prog c.w) A (call gv vs) Q E s
def EX (c:Cx)(d:Nat)(f:Fm)(x:PySem.Expr)(en:En)(σ:Store)(a:AV)(σ' : Store):Prop:=
 ∀ (A:Around) (W:Wd) (s:Shared) (m:Str->Option Value) (N:NwT) (Q E:Value->Shared->Prop),
  f.Ok c A d->St c f W σ en s m N->(∀ e s',FX c f W σ' a e s'->E (.ref e) s')->wpAny (model c.prog c.w) A (eval x f.env) Q E s
def BX (c:Cx)(d:Nat)(f:Fm)(b:List Stmt)(en:En)(σ:Store)(a:AV)(σ' : Store):Prop:=
 ∀ (A:Around) (W:Wd) (s:Shared) (m:Str->Option Value) (N:NwT) (Q:Flow->Shared->Prop) (E:Value->Shared->Prop),
  f.Ok c A d->St c f W σ en s m N->(∀ e s',FX c f W σ' a e s'->E (.ref e) s')->wpAny (model c.prog c.w) A (execs b f.env) Q E s
theorem ex_call {M:Md}{ML:MdL}{func:PySem.Expr}{es:List PySem.Expr}{pos:Pos}{g:AV}{l:List AV}(hf:SE c d f func M)(hl:SL c d f es ML)(hs:es.all notStar=true)(hn:notAttr func=true)
  (q1:M en σ=some (g,σ₁)) (q2:ML en σ₁=some (l,σ₂)) (hx:CX c d g l σ₂ a σ'):EX c d f (.Call func es [] pos) en σ a σ' := by
 intro A W s m N Q E ok S hE
 refine Call_ (post (hf A W s σ en g σ₁ m N E ok S q1) λgv s₁ WA m₁ NA w₁ S₁ rA=>?_) (N8 hn)
 refine callWith_of (P:=λh=>KeepOk (model c.prog c.w) h gv) (by rw[UW pos es f.env hs];rfl) (λh k=>k) (VX hs (post (hl A WA s₁ σ₁ en l σ₂ m₁ NA E pos ok S₁ q2) λvs sB WB mB NB wB S₂ rB=>?_))
 exact hx f A WB sB en gv vs mB NB Q E ok S₂ (rA.mono wB) rB λe s' y=>hE e s' (y.up (w₁.trans wB))
theorem ex_arg {G:GetF}(hG:GetOK c d G){M:Md}{o y:PySem.Expr}{name:Str}{apos pos:Pos}{x g:AV}{fst:List AV}(ho:SE c d f o M)(hs:notStar y=true)(hm:methForm o 1 apos pos=true)
  (q1:M en σ=some (x,σ₁)) (q2:G x name σ₁=some (g,fst)) (hx:EX c d f y en σ₁ a σ'):EX c d f (.Call (.Attribute o name apos) [y] [] pos) en σ a σ' := by
 intro A W s m N Q E ok S hE
 have hs:[y].all notStar=true:=by rw[JX,hs];rfl
 refine MethodCall_ (post (ho A W s σ en x σ₁ m N E ok S q1) λov s₁ WA m₁ NA w₁ S₁ rA=>?_) (M5 hm hs)
 refine Qz (hG f A WA s₁ σ₁ en x name g fst ov _ m₁ NA E ok S₁ rA q2) (λfx sB ⟨WB,mB,NB,wB,S₂,rB,rl⟩=>?_) λZ Z x=>x
 refine callWith_of (P:=λh=>KeepOk (model c.prog c.w) h fx.1) (by rw[UW pos [y] f.env hs];rfl) (λh k=>k) (VX hs (UJ (hx A WB sB mB NB _ E ok S₂ λe s' y=>hE e s' (y.up (w₁.trans wB))) (UV (by rw[JX,Jq] at hs;exact hs.1))))
theorem bx_skip {st:Stmt}{r:List Stmt}{M:MdS}{en' : En}(h:SS c d f st M)(q:M en σ=some (.next,en',σ₁))(hx:BX c d f r en' σ₁ a σ'):BX c d f (st::r) en σ a σ' := by
 intro A W s m N Q E ok S hE
 refine JV (post (h A W s σ en _ en' σ₁ m N E ok S q) λfl s₁ WA m₁ NA w₁ S₁ rA=>?_)
 cases rA
 exact hx A WA s₁ m₁ NA Q E ok S₁ λe s' y=>hE e s' (y.up w₁)
theorem bx_ret {x:PySem.Expr}{pos:Pos}{r:List Stmt}(h:EX c d f x en σ a σ'):BX c d f (.Return (some x) pos::r) en σ a σ' :=
 λA W s m N Q E ok S hE=>JV (Mw (h A W s m N _ E ok S hE))
theorem bx_expr {x:PySem.Expr}{pos:Pos}{r:List Stmt}(h:EX c d f x en σ a σ')(hc:notComp x=true):BX c d f (.Expr x pos::r) en σ a σ' :=
 λA W s m N Q E ok S hE=>JV (wpAny_Expr_any (h A W s m N _ E ok S hE) (G6 ok.skind) (HU hc))
theorem bx_set {x:PySem.Expr}{y:Str}{pos' pos:Pos}{r:List Stmt}(h:EX c d f x en σ a σ')(hc:notComp x=true):BX c d f (.Assign [.Name y pos'] x pos::r) en σ a σ' :=
 λA W s m N Q E ok S hE=>JV (wpAny_Assign_Name (h A W s m N _ E ok S hE) (HU hc))
theorem bx_while {t:PySem.Expr}{b:List Stmt}{pos:Pos}{r:List Stmt}{T:MdB}(hcn:f.env=f.fr)(ht:ST c d f t T)(q:T en σ=some (true,σ₁))(h:BX c d f b en σ₁ a σ'):BX c d f (.While t b [] pos::r) en σ a σ' := by
 intro A W s m N Q E ok S hE
 refine JV (wpAny_While (codeAny_whileLoop (λk s'=>s'=s) (λk s₁ h₁=>?_) 0 rfl))
 subst h₁
 refine post (ht A W _ σ _ _ _ m N _ ok S q) λbB sB WB mB NB wB S₂ rB=>?_
 subst rB
 simp only[if_true]
 exact h A WB sB mB NB _ _ ok S₂ λe s' y=>fx_loop ok.frames ok.frf hcn y λs'' y=>hE e s'' (y.up wB)
theorem cx_fn {fa:Addr}{r:FnRec}(H:FnAt c fa r)(hk:keepIn c.K (.ref fa)=true){l:List AV}(hlen:r.lo≤l.length∧l.length≤r.ps.length)
  (h:∀ (f:Fm) (A:Around) (g:Heap) (L' : Addr),BX c d (f.into A r fa g L') r.body ⟨(pickB false r.pk (l++(r.dvs.map globAV).drop (l.length - r.lo))).map some++QK r.zs.length none,pickB true r.pk (l++(r.dvs.map globAV).drop (l.length - r.lo))⟩ σ a σ') :
  CX c (d+1) (.glob (.ref fa)) l σ a σ' := by
 intro f A W s en gv vs m N Q E ok S rg rl hE
 refine⟨?_,?_⟩
 · cases rg;exact P6 ok S hk
 cases rg
 refine Uq (Nq H ok.at S rl hlen λg L' s₁ WA m₁ NA ok' w₁ S₁ Z FG Z=>h f A g L' _ WA s₁ m₁ NA _ _ ok' S₁ λe s' y=>?_)
 refine fx_leaves ok'.frames ok'.frf rfl y λs'' z=>hE e s'' ?_
 obtain⟨z,n⟩:=W8 w₁ FG z
 exact⟨.none,m,.inl rfl,z,n⟩
theorem cx_clo {id:Nat}{r:LamRec}{ps:List Str}(hl:c.lam id=some r)(H:LamAt r ps){l caps:List AV}(hlen:l.length=ps.length)
  (h:∀ (f:Fm) (A:Around) (fa c' : Addr) (cl:List (Str×Addr)) (g:Heap) (L' : Addr),EX c d (f.intoL A r ps fa c' cl g L') r.body ⟨l.map some,caps⟩ σ a σ') :
  CX c (d+1) (.clo id caps) l σ a σ' := by
 intro f A W s en gv vs m N Q E ok S rg rl hE
 refine⟨clo_keep (h:=s.heap) S rg,Uq (enter_clo hl H ok.at S rg rl hlen λfa c' cl g L' s₁ m₁ ok' S₁ FG=>h f A fa c' cl g L' _ W s₁ m₁ N _ _ ok' S₁ λe s' y=>?_)⟩
 refine fx_leaves ok'.frames ok'.frf rfl y λs'' z=>hE e s'' ?_
 obtain⟨z,n⟩:=W8 (.refl W) FG z
 exact⟨.none,m,.inl rfl,z,n⟩
end
end
section
open PySem.SeqAt
inductive RC (c:Cx)(d:Nat)(pc:Pc):X->X->En->Store->AV->Store->Prop
 |mk {x as:X} {en:En} {σ σ₁ σ₂ σ' : Store} {g a:AV} {l:List AV}:ev pc x en σ=some (g,σ₁)->evL pc as en σ₁=some (l,σ₂)->CX c d g l σ₂ a σ'->RC c d pc x as en σ a σ'
inductive RS (c:Cx)(d:Nat)(pc:Pc):Y->En->Store->AV->Store->Prop
 |skip {y r:Y} {en en' : En} {σ σ₁ σ' : Store} {a:AV}:evS pc y en σ=some (.next,en',σ₁)->RS c d pc r en' σ₁ a σ'->RS c d pc (.cons y r) en σ a σ'
 |ret {x as:X} {r:Y} {en:En} {σ σ' : Store} {a:AV}:RC c d pc x as en σ a σ'->RS c d pc (.cons (.ret (.call x as)) r) en σ a σ'
 |set {i:Nat} {x as:X} {r:Y} {en:En} {σ σ' : Store} {a:AV}:RC c d pc x as en σ a σ'->RS c d pc (.cons (.set i (.call x as)) r) en σ a σ'
 |app {o x as:X} {n:Str} {r:Y} {en:En} {σ σ₁ σ' : Store} {a v g:AV} {fst:List AV}:ev pc o en σ=some (v,σ₁)->getP pc.p v n σ₁=some (g,fst)->RC c d pc x as en σ₁ a σ'->RS c d pc (.cons (.expr (.meth o n (.cons (.call x as) .nil))) r) en σ a σ'
 |whl {t:X} {b r:Y} {en:En} {σ σ₁ σ' : Store} {a:AV}:evT pc t en σ=some (true,σ₁)->RS c d pc b en σ₁ a σ'->RS c d pc (.cons (.while t b) r) en σ a σ'
section
variable {c:Cx}{d:Nat}{pc:Pc}{g:Ge}(P:PkOk c pc.p)(Go:GeOk c g)(hC:CallOK c d pc.C)
include P Go hC in
theorem rc_okX {x as:X}{en:En}{σ σ' : Store}{a:AV}(r:RC c d pc x as en σ a σ'){E:Ce}{f:Fm}{e:PE}(hf:E.fits f)(h:chX g E (.call x as) e=true):EX c d f e en σ a σ' := by
 cases r with
 |mk q1 q2 hx=>
  exact QU e (show (onv (asCall e) λv=>chX g E x v.1&&chL g E as v.2.1&&v.2.1.all notStar&&notAttr v.1)=true from h) λv h=>ex_call ((UK P Go hC x).e E f v.1 hf (and4 h).1).1 ((UK P Go hC as).l E f v.2.1 hf (and4 h).2.1) (and4 h).2.2.1 (and4 h).2.2.2 q1 q2 hx
include P Go hC in
theorem rc_ok {x as:X}{en:En}{σ σ' : Store}{a:AV}(r:RC c d pc x as en σ a σ'){E:Ce}{f:Fm}{e:PE}(hf:E.fits f)(h:chTop g E (.call x as) e=true)(hl:∀ o∈obTop (.call x as) e,LamIs c E o):EX c d f e en σ a σ' := by
 refine(Qv.mp h).elim (λh=>?_) (rc_okX P Go hC r hf)
 cases r with
 |mk q1 q2 hx=>
  exact QU (C:=λe=>(∀ o∈obTop (.call x as) e,LamIs c E o)->EX c d f e en σ a σ') e (show (onv (asCall e) λv=>chX g E x v.1&&chLa g E as v.2.1&&v.2.1.all notStar&&notAttr v.1)=true from h) (λv h hl=>ex_call ((UK P Go hC _).e E f v.1 hf (and4 h).1).1 (chLa_ok P Go hC _ E f v.2.1 hf (and4 h).2.1 hl) (and4 h).2.2.1 (and4 h).2.2.2 q1 q2 hx) hl
include P Go hC in
theorem bx_app {o x as:X}{n:Str}{en:En}{σ σ₁ σ' : Store}{a v g' : AV}{fst:List AV}{E:Ce}{f:Fm}{st:Stmt}{r:List Stmt}(hf:E.fits f)(q1:ev pc o en σ=some (v,σ₁))(q2:getP pc.p v n σ₁=some (g',fst))(rx:RC c d pc x as en σ₁ a σ')
  (h:ch1 g E (.expr (.meth o n (.cons (.call x as) .nil))) st=true):BX c d f (st::r) en σ a σ' := by
 refine QU (C:=λst=>BX c d f (st::r) en σ a σ') st (show (onv (asExpr st) λv=>chX g E (.meth o n (.cons (.call x as) .nil)) v.1&&notComp v.1)=true from h) λw h=>bx_expr ?_ (and2 h).2
 refine QU (C:=λe=>EX c d f e en σ a σ') w.1 (show (onv (asCall w.1) λv=>onv (asAttr v.1) λu=>(n==u.2.1&&chX g E o u.1&&chL g E (.cons (.call x as) .nil) v.2.1&&v.2.1.all notStar)&&methForm u.1 v.2.1.length u.2.2 v.2.2)=true from(and2 h).1) λu h=>?_
 refine QU (C:=λe=>EX c d f (.Call e u.2.1 [] u.2.2) en σ a σ') u.1 h λy h=>?_
 have k:=and4 (and2 h).1
 rw[← bqM k.1]
 obtain⟨e1,k3,k5,k6⟩:∃ e1,u.2.1=[e1]∧chX g E (.call x as) e1=true∧notStar e1=true:=by
  have z:=k.2.2.1
  cases hu:u.2.1 with
  |nil=>rw[hu] at z;exact nof z
  |cons e1 es=>
   rw[hu] at z
   cases es with
   |nil=>exact⟨e1,rfl,(and3 z).1,(and3 z).2.1⟩
   |cons=>cases (and3 z).2.2
 have m:=(and2 h).2
 rw[k3] at m
 rw[k3]
 exact ex_arg (qU P) ((UK P Go hC _).e E f y.1 hf k.2.1).1 k6 m q1 q2 (rc_okX P Go hC rx hf k5)
include P Go hC in
theorem rs_ok {y:Y}{en:En}{σ σ' : Store}{a:AV}(r:RS c d pc y en σ a σ'):∀ {E:Ce} {f:Fm} {s:List Stmt},E.fits f->E.comp=false->f.env=f.fr->chS g E y s=true->(∀ o∈obS y s,LamIs c E o)->BX c d f s en σ a σ' := by
 induction r with
 |skip q r ih=>
  intro E f s hf hc hn h hl
  cases s with
  |nil=>exact nof h
  |cons st rest=>exact bx_skip ((N6 P Go hC _).s E f st hf hc (and2 h).1 λo ho=>hl o (J0 _ ho)) q (ih hf hc hn (and2 h).2 λo ho=>hl o (JH _ ho))
 | @ret x as _ en σ σ' a r=>
  intro E f s hf hc hn h hl
  cases s with
  |nil=>exact nof h
  |cons st rest=>
   exact QU (C:=λst=>(∀ o∈ob1 (.ret (.call x as)) st,LamIs c E o)->BX c d f (st::rest) en σ a σ') st (show (onv (asRet st) λv=>chTop g E (.call x as) v.1)=true from(and2 h).1) (λv h hl=>bx_ret (rc_ok P Go hC r hf h hl)) λo ho=>hl o (J0 _ ho)
 | @set i x as _ en σ σ' a r=>
  intro E f s hf hc hn h hl
  cases s with
  |nil=>exact nof h
  |cons st rest=>
   refine QU (C:=λst=>(∀ o∈ob1 (.set i (.call x as)) st,LamIs c E o)->BX c d f (st::rest) en σ a σ') st (show (onv (asAsg st) λv=>onv (asName v.1) λy=>isLc E i y.1&&((chTop g E (.call x as) v.2.1&&notComp v.2.1)||false))=true from(and2 h).1) (λv h hl=>?_) λo ho=>hl o (J0 _ ho)
   refine QU (C:=λt=>BX c d f (.Assign [t] v.2.1 v.2.2::rest) en σ a σ') v.1 h λy h=>?_
   refine(Qv.mp (and2 h).2).elim (λh=>bx_set (rc_ok P Go hC r hf (and2 h).1 hl) (and2 h).2) λh=>nof h
 |app q1 q2 r=>
  intro E f s hf hc hn h hl
  cases s with
  |nil=>exact nof h
  |cons st rest=>exact bx_app P Go hC hf q1 q2 r (and2 h).1
 | @whl t b _ en σ σ₁ σ' a q r ih=>
  intro E f s hf hc hn h hl
  cases s with
  |nil=>exact nof h
  |cons st rest=>
   exact QU (C:=λst=>(∀ o∈ob1 (.while t b) st,LamIs c E o)->BX c d f (st::rest) en σ a σ') st (show (onv (asWhile st) λv=>chX g E t v.1&&notIte v.1&&chS g E b v.2.1)=true from(and2 h).1)
    (λv h hl=>bx_while hn (((UK P Go hC _).e E f v.1 hf (and3 h).1).2 (and3 h).2.1) q (ih hf hc hn (and3 h).2.2 hl)) λo ho=>hl o (J0 _ ho)
end
end
section
open PySem.SeqAt
noncomputable def asRaise:(s:Stmt)->Option {t:PE×Pos // s = .Raise (some t.1) none t.2}
 | .Raise (some e) none p=>some ⟨(e,p),rfl⟩
 |_=>none
noncomputable def xcY:Y:=.iff (.not (.call (.val (.glob (.ref 469))) (.cons (.loc 0) .nil))) (.cons .fail .nil) .nil
noncomputable def xcT:X:=.cmp .Gt (.cel 0) (.val (.int 12))
noncomputable def xcM:X:=.val (.str "statements are nested too deep")
def deepOk (g:Ge)(E:Ce)(b:List Stmt):Bool:=onv (asRow3 b) λs=>onv (asIf s.2.1) λi=>onv (asOne i.2.1) λr=>onv (asRaise r) λx=>onv (asCall x.1) λu=>onv (asAttr u.1) λa=>onv (asOne u.2.1) λy=>
 (ch1 g E xcY s.1&&(ob1 xcY s.1).isEmpty&&chX g E xcT i.1&&notIte i.1)&&(a.2.1 == "fault"&&chX g E (.loc 0) a.1&&methForm a.1 1 a.2.2 u.2.2&&notStar y)&&chX g E xcM y
section
variable (P:Params)(sa:Addr)(so:Obj)
theorem deep_is:deepOk (geOf (kq P sa so)) (ceOf (recOf (kq P sa so) 483 e_statement_at) 483) (recOf (kq P sa so) 483 e_statement_at).body=true:=by kernel_rfl
end
section
variable {c:Cx}{sa:Addr}{so:Obj}{ns:List Int}
theorem cx_into (H:IsC c sa so){a:Addr}{e:Ent}(he:(pk0 (sa,ns)).fns.lookup a=some e){n:Nat}{l:List AV}{σ σ' : Store}{v:AV}(hl:l.length=e.np)
  (h:∀ f:Fm,(ceOf (recOf c.K a e) a).fits f->f.comp=none->f.env=f.fr->BX c n f (recOf c.K a e).body ⟨(pickB false e.pk l).map some++QK e.nz none,pickB true e.pk l⟩ σ v σ'):CX c (n+1) (.glob (.ref a)) l σ v σ' := by
 have hq:=Jw he
 refine xe04 (Hv H.K hq) λHF hk Z hr=>?_
 have h1:=alT (shapes c.w.params sa so (sa,ns)) (a,e) hq
 rw[← H.K] at h1
 generalize hR:recOf c.K a e=r at HF hr h1 h
 have h7:=and4 (and2 (and2 (and2 h1).1).1).2
 have epk:=bqM (and2 h1).2
 have d1:=bqM h7.1
 have d2:=bqM h7.2.1
 have d3:=bqM h7.2.2.1
 have dl:=HF.dl
 dsimp only at d1 d2 d3 epk
 refine cx_fn HF hk ⟨QJ (QJ (QG ..) (Q9 dl)) (Q9 (d3.symm.trans hl.symm)),QJ (Q9 hl) (Q9 d3)⟩ λf A g L'=>?_
 have e1:(r.dvs.map globAV).drop (l.length - r.lo)=[]:=U3 (by rw[QH];exact Nat.le_sub_of_add_le' (Q9 (dl.trans (d3.symm.trans hl.symm))))
 rw[e1,QX,epk,← d1]
 exact h _ (GN hr rfl rfl rfl rfl rfl) rfl rfl
theorem cx_of (H:IsC c sa so)(P:PkOk c (pk0 (sa,ns))){a:Addr}{e:Ent}(he:(pk0 (sa,ns)).fns.lookup a=some e)(h876:a≠876){n:Nat}{C:CallF}(hC:CallOK c n C){l:List AV}{σ σ' : Store}{v:AV}(hl:l.length=e.np)
  (q:RS c n ⟨pk0 (sa,ns),C,1000,(pk0 (sa,ns)).exc⟩ e.body ⟨(pickB false e.pk l).map some++QK e.nz none,pickB true e.pk l⟩ σ v σ'):CX c (n+1) (.glob (.ref a)) l σ v σ' := by
 refine cx_into H he hl λf hf hc hn=>?_
 have hb:=alT (bodies c.w.params sa so (sa,ns)) (a,e) (Jw he)
 rw[← H.K] at hb
 rcases Qv.mp hb with hb|hb
 · exact absurd (bqM hb) h876
 · exact rs_ok (pc:=⟨pk0 (sa,ns),C,1000,(pk0 (sa,ns)).exc⟩) P (geOk H.K) hC q hf rfl hn hb (lams_of H he h876)
theorem cx_lam (H:IsC c sa so)(P:PkOk c (pk0 (sa,ns))){n:Nat}{C:CallF}(hC:CallOK c n C){x as:X}{l caps:List AV}{σ σ' : Store}{v:AV}(hl:l.length=1)(e:l_1 = .call x as)
  (q:RC c n ⟨pk0 (sa,ns),C,1000,(pk0 (sa,ns)).exc⟩ x as ⟨l.map some,caps⟩ σ v σ'):CX c (n+1) (.clo 1 caps) l σ v σ' := by
 obtain⟨HL,hn⟩:=lamAt_of H (i:=1) (.tail _ (.head _))
 have h:=alT (Wv c.w.params sa so) 1 (.tail _ (.head _))
 rw[← H.K] at h
 obtain⟨_,h⟩:=and2 h
 have h:chX (geOf c.K) ⟨(lrec 1 c.K).scope,lps 1 c.K,(lrec 1 c.K).names,false,none⟩ l_1 (lrec 1 c.K).body=true:=h
 rw[e] at h
 refine cx_clo (by rw[H.lam];rfl) HL (hl.trans hn.symm) λf A fa c' cl g L'=>?_
 exact rc_okX (pc:=⟨pk0 (sa,ns),C,1000,(pk0 (sa,ns)).exc⟩) P (geOk H.K) hC q (E:=⟨(lrec 1 c.K).scope,lps 1 c.K,(lrec 1 c.K).names,false,none⟩) ⟨rfl,rfl,rfl,rfl,λZ=>rfl,λt e=>nos e⟩ h
theorem deep_body (H:IsC c sa so)(P:PkOk c (pk0 (sa,ns)))(TX:TxtOk c (pk0 (sa,ns))){n:Nat}{r v:AV}{σ:Store}{pc:Pc}(hp:pc.p=pk0 (sa,ns))(hC:CallOK c (n+3) pc.C){en:En}{E:Ce}{f:Fm}{A:Around}{W:Wd}{s:Shared}{m:Str->Option Value}{N:NwT}{b:List Stmt}
  (hf:E.fits f) (hc:E.comp=false) (ok:f.Ok c A (n+3)) (S:St c f W σ en s m N) (h:deepOk (geOf c.K) E b=true)
  (q0:ev pc (.loc 0) en σ=some (r,σ)) (q1:evS pc xcY en σ=some (.next,en,σ)) (q2:evT pc xcT en σ=some (true,σ)) (q3:getP pc.p r "fault" σ=some (.glob (.ref 532),[r]))
  (q4:evS (pc1 (sa,ns)) noTokY ⟨[some r,some (.str "statements are nested too deep")],[]⟩ σ=some (.next,⟨[some r,some (.str "statements are nested too deep")],[]⟩,σ)) (q5:ev (pc1 (sa,ns)) atX ⟨[some r,some (.str "statements are nested too deep")],[]⟩ σ=some (v,σ))
  {Q:Flow->Shared->Prop} {F:Value->Shared->Prop} (hF:∀ x s',Faulted c f W σ en v x s'->F x s'):wpAny (model c.prog c.w) A (execs b f.env) Q F s:=by
 have Go:=geOk H.K
 have P' : PkOk c pc.p:=hp▸P
 have X:=λx:Mine.X=>UK P' Go hC x
 let D:List Stmt->Prop:=λb=>wpAny (model c.prog c.w) A (execs b f.env) Q F s
 refine QU (C:=D) b h λb h=>QU (C:=λx=>D (b.1::x::b.2.2.1::b.2.2.2)) b.2.1 h λi h=>QU (C:=λx=>D (b.1::.If i.1 x i.2.2.1 i.2.2.2::b.2.2.1::b.2.2.2)) i.2.1 h λz h=>?_
 refine QU (C:=λx=>D (b.1::.If i.1 [x] i.2.2.1 i.2.2.2::b.2.2.1::b.2.2.2)) z h λx h=>QU (C:=λy=>D (b.1::.If i.1 [.Raise (some y) none x.2] i.2.2.1 i.2.2.2::b.2.2.1::b.2.2.2)) x.1 h λu h=>?_
 refine QU (C:=λy=>D (b.1::.If i.1 [.Raise (some (.Call y u.2.1 [] u.2.2)) none x.2] i.2.2.1 i.2.2.2::b.2.2.1::b.2.2.2)) u.1 h λa h=>QU (C:=λy=>D (b.1::.If i.1 [.Raise (some (.Call (.Attribute a.1 a.2.1 a.2.2) y [] u.2.2)) none x.2] i.2.2.1 i.2.2.2::b.2.2.1::b.2.2.2)) u.2.1 h λy h=>?_
 have k1:=and4 (and3 h).1
 have k2:=and4 (and3 h).2.1
 have k3:=(and3 h).2.2
 show wpAny (model c.prog c.w) A (execs (b.1::.If i.1 [.Raise (some (.Call (.Attribute a.1 a.2.1 a.2.2) [y] [] u.2.2)) none x.2] i.2.2.1 i.2.2.2::b.2.2.1::b.2.2.2) f.env) Q F s
 rw[bqM k2.1]
 have hs:[y].all notStar=true:=by rw[JX,k2.2.2.2];rfl
 refine JV (post ((N6 P' Go hC xcY).s _ _ _ hf hc k1.1 (by rw[Qx.mp k1.2.1];exact λo ho=>nomatch ho) _ W s σ _ _ _ σ m N _ ok S q1) λfl sB WB mB NB wB S₂ rB=>?_)
 cases rB
 refine JV (wpAny_If (post (((X xcT).e _ _ _ hf k1.2.2.1).2 k1.2.2.2 _ WB sB σ _ _ σ mB NB _ ok S₂ q2) λbC sC WC m₃ N₃ wC S₃ rC=>?_))
 subst rC
 rw[if_pos rfl]
 refine JV ?_
 rw[arm_exec_Raise]
 refine QZ (wpAny_standAt ?_)
 refine x_raise (C:=72) (nm := "GrammarFault") (q := "GrammarFault") (N:=71) (bs:=[.ref 47]) (bm:=bm72) (hdct:=true) (sn:=[]) (sub:=[]) (ab:=false) (col:=none) (dd:=none) (k0:=some (.ref 63)) (k1:=none) (k2:=some (.str "GrammarFault" 252)) (k3:=some (.str "GrammarFault" 260)) (k5:=some (.bool true)) (by decide +kernel) ok.handled (QZ (Qz (MethodCall_ (post (((X (.loc 0)).e _ _ _ hf k2.2.1).1 _ WC sC σ _ r σ m₃ N₃ _ ok S₃ q0) λov sD WD mD ND wD S₄ rD=>?_) (M5 k2.2.2.1 hs)) (λv sE h₅=>QZ (wpAny_standAt (Qk h₅))) λZ Z x=>x))
 refine Qz (qU P' _ _ WD sD σ _ r "fault" _ _ ov _ mD ND _ ok S₄ rD q3) (λfx sE ⟨WE,mE,NE,wE,S₅,rE,rlE⟩=>?_) λZ Z x=>x
 obtain⟨fv,fvs⟩:=fx
 refine Gw (v:=fv) rE (rOne (vs:=fvs) rlE λv0 rv0=>?_)
 refine callWith_of (P:=λh=>KeepOk (model c.prog c.w) h (.ref 532)) (by rw[UW u.2.2 [y] _ hs];rfl) (λh k=>k) (VX hs (post ((H5 ((X xcM).e _ _ _ hf k3).1 WN k2.2.2.2) _ WE sE σ _ [.str "statements are nested too deep"] σ mE NE _ u.2.2 ok S₅ rfl) λvs sF WF mF NF wF S₆ rF=>rOne rF λv1 rv1=>?_))
 refine⟨P6 ok S₆ (Hv H.K (flt_mem sa ns)).2.1,fault_made (ns:=ns) H P TX (ok.less (leB rfl)) S₆ (rv0.mono wF) rv1 q4 q5 λvx sG h₇=>?_⟩
 obtain⟨WG,mG,NG,e,dx,od,t1,mA,w,ev,wG,SG,hod,hat,rwG⟩:=h₇
 subst ev
 exact⟨e,dx,_,rfl,In72 H (ok.X.keeps SG.F.keep),(SG.nw _ (SG.fa.pn (e,excObj 72 (some dx) t1) (.tail _ (.head _)))).1,hF _ _ ⟨WG,mG,NG,e,dx,od,t1,mA,w,rfl,wB.trans (wC.trans (wD.trans (wE.trans (wF.trans wG)))),SG,hod,hat,rwG⟩⟩
theorem cx_deep (H:IsC c sa so)(P:PkOk c (pk0 (sa,ns)))(TX:TxtOk c (pk0 (sa,ns))){n:Nat}{r dd ch r0 v:AV}{σ:Store}(q1:evS ⟨pk0 (sa,ns),callN (pk0 (sa,ns)) (n+3),1000,(pk0 (sa,ns)).exc⟩ xcY ⟨[some r],[dd,ch]⟩ σ=some (.next,⟨[some r],[dd,ch]⟩,σ))
  (q2:evT ⟨pk0 (sa,ns),callN (pk0 (sa,ns)) (n+3),1000,(pk0 (sa,ns)).exc⟩ xcT ⟨[some r],[dd,ch]⟩ σ=some (true,σ)) (q3:getP (pk0 (sa,ns)) r "fault" σ=some (.glob (.ref 532),[r]))
  (q4:evS (pc1 (sa,ns)) noTokY ⟨[some r,some (.str "statements are nested too deep")],[]⟩ σ=some (.next,⟨[some r,some (.str "statements are nested too deep")],[]⟩,σ)) (q5:ev (pc1 (sa,ns)) atX ⟨[some r,some (.str "statements are nested too deep")],[]⟩ σ=some (v,σ)) :
  CX c (n+4) (.glob (.ref 483)) [r,dd,ch] σ v σ:=by
 have he:(pk0 (sa,ns)).fns.lookup 483=some e_statement_at:=rfl
 refine xe04 (Hv H.K (Jw he)) λHF hk Z hr=>?_
 have bo:=deep_is c.w.params sa so
 rw[← H.K] at bo
 have h1:=alT (shapes c.w.params sa so (sa,ns)) (483,e_statement_at) (Jw he)
 rw[← H.K] at h1
 generalize hR:recOf c.K 483 e_statement_at=R at HF hr h1 bo
 have h8:=(and2 h1).2
 have h7:=and4 (and2 (and2 (and2 h1).1).1).2
 have d1:0=R.zs.length:=bqM h7.1
 have d2:3=R.lo:=bqM h7.2.1
 have d3:3=R.ps.length:=bqM h7.2.2.1
 have epk:R.pk=[false,true,true]:=bqM h8
 have dl:=HF.dl
 intro f A W s en gv vs m N Q E ok S rg rl hE
 refine⟨Gw rg (P6 ok S hk),Gw rg (Uq (Nq HF ok.at S rl ⟨by rw[← d2];exact QN 3,by rw[← d3];exact QN 3⟩ λg L' s₁ WA m₁ NA ok' w₁ S₁ Z FG Z=>?_))⟩
 have e1:(R.dvs.map globAV).drop ([r,dd,ch].length - R.lo)=[]:=U3 (by rw[QH];exact ar41 d2.symm d3.symm dl)
 rw[e1,QX,epk,← d1] at S₁
 have S₁:St c (f.into A R 483 g L') WA σ ⟨[some r],[dd,ch]⟩ s₁ m₁ NA:=S₁
 refine deep_body (n:=n) H P TX (pc:=⟨pk0 (sa,ns),callN (pk0 (sa,ns)) (n+3),1000,(pk0 (sa,ns)).exc⟩) rfl (U7 TX (n+3)) (f:=f.into A R 483 g L') (GN hr rfl rfl rfl rfl rfl) rfl ok' S₁ bo rfl q1 q2 q3 q4 q5 λx s' h=>?_
 obtain⟨WG,mG,NG,e,dx,od,t1,mA,w,ex,wG,SG,hod,hat,rwG⟩:=h
 subst ex
 refine flown_first (f:=f.into A R 483 g L') ok' rfl SG hod hat rwG λsH z=>hE e sH ?_
 have z' := W8 (w₁.trans wG) FG z
 exact⟨.none,m,.inl rfl,z'.1,z'.2⟩
end
end
section
open Rdr
theorem c_min {p:Pk}{n:Nat}{l:List AV}{τ:Store}:callN p (n+1) (.glob (.builtin "min")) l τ=gc τ.length (withS τ (minF l)):=rfl
noncomputable def dwd (b:Bool):Str:=if b then "IF" else "INSPECT"
noncomputable def dwF (b:Bool):Addr:=if b then 864 else 871
abbrev dwNv (sc:ScT)(b:Bool):Nv:=rdNv (pk0 sc) 0 (toSg [wtk (dwd b)])
noncomputable def dwX:X:=.call (.cel 1) (.cons (.attr (.meth (.loc 0) "peek" .nil) "worth") .nil)
theorem dw_verb (sc:ScT):([true,false].all λb=>chk (run1 sc (toSg [wtk (dwd b)]) 4 469) (.bool true) 0)=true:=by kernel_rfl
theorem dw_which (sc:ScT)(d:Int):∀ b,sX ⟨dwNv sc b,callS (dwNv sc b) 4⟩ dwX ⟨[some .rdr],[.int d,.clo 2 []]⟩ (0,[])=some (.glob (.ref (dwF b)),0,[])
 |true=>by kernel_rfl
 |false=>by kernel_rfl
def chkQ (r:Sr)(q:Nat):Bool:=okO r λx=>x.2.1==q&&x.2.2.isEmpty
theorem dw_need (sc:ScT):chkQ (callS (dwNv sc true) 6 (.glob (.ref 568)) [.rdr,liftStr "IF"] (0,[])) 1=true:=by kernel_rfl
section
variable (sc:ScT){R:Rdr}{σ:Store}{n k:Nat}{b:Bool}
theorem dw_at {q:Nat}{sg:List Sg}{V:Rv}:denS (rdD V R σ n sg) (q,[])=R.at σ (n+plen V sg q):=QX _
theorem verbH (h:R.Ok σ)(A:At R n [wtk (dwd b)]):callN (pk0 sc) (k+4) (.glob (.ref 469)) [.ref R.r] (R.at σ n)=some (.bool true,R.at σ n):=
 go0 (V:=rv0 "T") h (sg:=toSg [wtk (dwd b)]) A (Gj (ciM rfl)) (alT (dw_verb sc) b (by cases b<;>decide)) k
theorem whichH (h:R.Ok σ)(A:At R n [wtk (dwd b)]){d:Int}:ev (pc sc (k+4)) dwX ⟨[some (.ref R.r)],[.int d,.clo 2 []]⟩ (R.at σ n)=some (.glob (.ref (dwF b)),R.at σ n):=by
 have O:SeOk (rdD (rv0 "T") R σ n (toSg [wtk (dwd b)])) ⟨dwNv sc b,callS (dwNv sc b) 4⟩ (pc sc (k+4)):=⟨rdnv_ok h A,rfl,leB rfl,λg l st r st' e=>Pz h A (Gj (ciM rfl)) (λh=>absurd h (by decide)) (λh=>absurd h (by decide)) (λh=>absurd h (by decide)) k e⟩
 have z:=(sX_is O dwX).m _ _ _ _ (dw_which sc d b)
 rw[dw_at] at z
 exact z
theorem needH (h:R.Ok σ)(A:At R n [wtk "IF"]):∃ v,callN (pk0 sc) (k+6) (.glob (.ref 568)) [.ref R.r,.str "IF"] (R.at σ n)=some (v,R.at σ (n+1)):=by
 have c:=dw_need sc
 cases e:callS (dwNv sc true) 6 (.glob (.ref 568)) [.rdr,liftStr "IF"] (0,[]) with
 |none=>rw[e] at c;exact nof c
 |some r=>
  obtain⟨r,q,m⟩:=r;rw[e] at c
  have c:(q==1)=true∧m.isEmpty=true:=and2 c;have z:=Pz (V:=rv0 "T") h A (Gj (ciM rfl)) (λh=>absurd h (by decide)) (λh=>absurd h (by decide)) (λh=>absurd h (by decide)) k e
  rw[eq_of_beq c.1,Qx.mp c.2,dw_at,dw_at] at z;have z:callN (pk0 sc) (k+6) (.glob (.ref 568)) [.ref R.r,den _ (liftStr "IF")] (R.at σ n)=some (_,R.at σ (n+1)):=z
  rw[JM] at z;exact⟨_,z⟩
theorem xc_is {en:En}(h:R.Ok σ)(A:At R n [wtk (dwd b)])(he:∀ s,ev (pc sc (k+4)) (.loc 0) en s=some (.ref R.r,s)):evS (pc sc (k+4)) xcY en (R.at σ n)=some (.next,en,R.at σ n):=
 zIff (c:=false) (on2s (on2s (H6 (Vj rfl (JG (he _) rfl) (verbH sc h A)) rfl) rfl) rfl) rfl
end
section
variable {c:Cx}{sa:Addr}{so:Obj}{ns:List Int}{R:Rdr}{σ σ' τ:Store}{n n' k:Nat}{a:AV}{b:Bool}
theorem dw_tok {t:Tk}{l:List Tk}(h:R.Ok σ)(A:At R n (t::l)):∃ j e,R.hs[n]? = some (.ref j)∧(∀ m,(R.at σ m)[j]? = some (.inst 164 e))∧∀ m,(R.at σ m)[e]? = some (.dict (tokD n t.1 t.2)):=by
 refine xe25 (h.tok n t.1 t.2 A.get0) λj e h1 h2 h3 h4 h5=>?_
 exact⟨j,e,h1,λm=>(KJ h4).trans h2,λm=>(KJ h5).trans h3⟩
variable (H:IsC c sa so)(P:PkOk c (pk0 (sa,ns)))(TX:TxtOk c (pk0 (sa,ns)))
include H P TX in
theorem k_deep (h:R.Ok σ){d:Int}(hd:12<d)(A:At R n [wtk (dwd b)]):CX c (k+8) (.glob (.ref 483)) [.ref R.r,.int d,.clo 2 []] (R.at σ n) (.tup [.int ((n:Int)+1),.int 12]) (R.at σ n):=by
 have len:=h.hbig
 have lt:n<R.hs.length:=by rw[h.len];exact A.lt0
 refine xe23 (dw_tok h A) λj e t1 t2 t3=>?_
 have tk:∀ en:En,(∀ s,ev (pc1 (sa,ns)) (.loc 0) en s=some (.ref R.r,s))->ev (pc1 (sa,ns)) (.attr (.loc 0) "tokens") en (R.at σ n)=some (.ref R.t,R.at σ n):=λen he=>W0 (he _) (at_tokens (sa,ns) h)
 have tr:truthF2 (.ref R.t) (R.at σ n)=some true:=by
  refine onLs (at_t h) ((if_pos len).trans (congrArg some ?_))
  cases e:R.hs with
  |nil=>rw[e] at lt;exact absurd lt (G3 _)
  |cons=>rfl
 have cl:callN (pk0 (sa,ns)) 1 (.glob (.builtin "len")) [.ref R.t] (R.at σ n)=some (.int R.hs.length,R.at σ n):=(congrArg (gc _) (on1s (onLs (at_t h) (if_pos len)) rfl)).trans (gcId (QN _))
 have cm:callN (pk0 (sa,ns)) 1 (.glob (.builtin "min")) [.int n,.int (R.hs.length - 1)] (R.at σ n)=some (.int n,R.at σ n):=by
  refine(c_min.trans (congrArg (gc _) (?_:_=some (.int n,R.at σ n)))).trans (gcId (QN _));exact congrArg (λz=>some (AV.int z,R.at σ n)) (if_neg (Int.not_lt.mpr (Int.le_sub_one_of_lt (Int.ofNat_lt.mpr lt))))
 refine cx_deep (r0:=.none) (n:=k+4) H P TX (xc_is (k:=k+3) (sa,ns) h A λZ=>rfl) (H6 (v:=.bool (decide (d>12))) (zCmp rfl rfl rfl) (congrArg some (decide_eq_true hd))) (onILs (at_r h) (onDs (at_d h) rfl)) (zIff (c:=false) (H6 (v:=.bool false) (on2s (H6 (tk _ λZ=>rfl) tr) rfl) rfl) rfl) ?_
 refine W0 (v:=.ref j) (zSub (tk _ λZ=>rfl) (Vj rfl (JG (W0 rfl (at_pos (sa,ns) h)) (JG (zBin (Vj rfl (JG (tk _ λZ=>rfl) rfl) cl) rfl rfl) rfl)) cm) (onLs (at_t h) ?_)) (onIs (t2 _) (onDs (t3 _) rfl))
 rw[if_pos (by unfold idxOk;rw[Q7,decide_eq_true_eq,decide_eq_true_eq];omega),if_pos (H0 n)]
 exact t1
include H P TX in
theorem k_st (h:R.Ok σ){d:Int}(hd:d≤12)(A:At R n [wtk (dwd b)])(hx:CX c (k+4) (.glob (.ref (dwF b))) [.ref R.r,.clo 1 [.clo 2 [],.int d]] (R.at σ n) a σ') :
  CX c (k+5) (.glob (.ref 483)) [.ref R.r,.int d,.clo 2 []] (R.at σ n) a σ' := by
 refine cx_of H P (e:=e_statement_at) rfl (by decide) (U7 TX (k+4)) rfl ?_
 refine RS.skip (en' := ⟨[some (.ref R.r)],[.int d,.clo 2 []]⟩) (σ₁:=R.at σ n) (xc_is (sa,ns) h A λZ=>rfl) (RS.skip (en' := ⟨[some (.ref R.r)],[.int d,.clo 2 []]⟩) (σ₁:=R.at σ n) ?_ (RS.ret (RC.mk (σ₁:=R.at σ n) (σ₂:=R.at σ n) (whichH (sa,ns) h A) (JG rfl (JG rfl rfl)) hx)))
 exact zIff (c:=false) (H6 (v:=.bool (decide (d>12))) (zCmp rfl rfl rfl) (congrArg some (decide_eq_false (Int.not_lt.mpr hd)))) rfl
include H P TX in
theorem k_if (h:R.Ok σ){f:AV}(hx:CX c (k+6) f [.ref R.r] (R.at σ (n+1)) a σ')(A:At R n [wtk "IF"]):CX c (k+7) (.glob (.ref 864)) [.ref R.r,f] (R.at σ n) a σ' := by
 obtain⟨v,q⟩:=needH (k:=k) (sa,ns) h A
 refine cx_of H P (e:=e_L_if) rfl (by decide) (U7 TX (k+6)) rfl ?_
 refine RS.skip (en' := ⟨[some (.ref R.r),some f,none],[]⟩) (σ₁:=R.at σ (n+1)) ?_ (RS.set (RC.mk (g:=f) (l:=[.ref R.r]) (σ₁:=R.at σ (n+1)) (σ₂:=R.at σ (n+1)) rfl rfl hx))
 exact on2s (Ww (v:=.ref R.r) (g:=.glob (.ref 568)) (fst:=[.ref R.r]) rfl (onILs (at_r h) (onDs (at_d h) rfl)) (JG rfl rfl) q) rfl
include H P TX in
theorem k_clo {d:Int}(hx:CX c k (.glob (.ref 476)) [.ref R.r,.int (d+1),.clo 2 []] (R.at σ n) a σ'):CX c (k+1) (.clo 1 [.clo 2 [],.int d]) [.ref R.r] (R.at σ n) a σ' :=
 cx_lam H P (U7 TX k) rfl rfl (RC.mk (g:=.glob (.ref 476)) (l:=[.ref R.r,.int (d+1),.clo 2 []]) (σ₁:=R.at σ n) (σ₂:=R.at σ n) rfl (JG rfl (JG (zBin rfl rfl rfl) (JG rfl rfl))) hx)
include H P TX in
theorem k_body (h:R.Ok σ){d:Int}(A:At R n [wtk (dwd b)])(hx:CX c (k+4) (.glob (.ref 483)) [.ref R.r,.int d,.clo 2 []] (R.at (σ++[.list []]) n) a σ'):CX c (k+5) (.glob (.ref 476)) [.ref R.r,.int d,.clo 2 []] (R.at σ n) a σ' := by
 have h1:R.Ok (σ++[.list []]):=h.app rfl
 have g:(R.at (σ++[.list []]) n)[σ.length]? = some (.list []):=by
  rw[← KV h,← Vx (R:=R) (n:=n),← V3 (R.at σ n).length,VN];rfl
 refine cx_of H P (e:=e_body_at) rfl (by decide) (U7 TX (k+4)) rfl ?_
 have w:evT ⟨pk0 (sa,ns),callN (pk0 (sa,ns)) (k+4),1000,(pk0 (sa,ns)).exc⟩ (.call (.val (.glob (.ref 469))) (.cons (.loc 0) .nil)) ⟨[some (.ref R.r),some (.int d),some (.clo 2 []),some (.ref σ.length)],[]⟩ (R.at (σ++[.list []]) n)=some (true,R.at (σ++[.list []]) n):=
  H6 (Vj rfl (JG rfl rfl) (verbH (k:=k) (sa,ns) h1 A)) rfl
 have s0:evS ⟨pk0 (sa,ns),callN (pk0 (sa,ns)) (k+4),1000,(pk0 (sa,ns)).exc⟩ (.set 3 (.lst .nil)) ⟨[some (.ref R.r),some (.int d),some (.clo 2 []),none],[]⟩ (R.at σ n)=some (.next,⟨[some (.ref R.r),some (.int d),some (.clo 2 []),some (.ref σ.length)],[]⟩,R.at (σ++[.list []]) n):=by
  rw[← KV h,← Vx (R:=R) (σ:=σ) (n:=n)];exact zSet zL0
 have gp:getP (pk0 (sa,ns)) (.ref σ.length) "append" (R.at (σ++[.list []]) n)=some (.glob (.builtin "list.append"),[.ref σ.length]):=onILl g (on1s Kx rfl)
 exact RS.skip s0 (RS.whl w (RS.app (v:=.ref σ.length) (σ₁:=R.at (σ++[.list []]) n) rfl gp (RC.mk (g:=.glob (.ref 483)) (l:=[.ref R.r,.int d,.clo 2 []]) (σ₁:=R.at (σ++[.list []]) n) (σ₂:=R.at (σ++[.list []]) n) rfl (JG rfl (JG rfl (JG rfl rfl))) hx)))
noncomputable def deepT (l:List Tk):Nat->List Tk
 |0=>wtk "INSPECT"::l
 |j+1=>wtk "IF"::deepT l j
theorem deep_head {l:List Tk}:∀ {j:Nat},At R n (deepT l j)->∃ b,At R n [wtk (dwd b)]
 |0,y=>⟨false,At.left (l:=[wtk "INSPECT"]) (m:=l) y⟩
 |j+1,y=>⟨true,At.left (l:=[wtk "IF"]) (m:=deepT l j) y⟩
include H P TX in
theorem k_nest {l:List Tk}:∀ (j:Nat) {σ:Store} {n:Nat} {d:Int} (h:R.Ok σ) (hd:d+j=13) (y:At R n (deepT l j)),∃ l' n',CX c (k+8+4 * j) (.glob (.ref 483)) [.ref R.r,.int d,.clo 2 []] (R.at σ n) (.tup [.int ((n+j:Nat)+1),.int 12]) (R.at (σ++l') n')
 |0,σ,n,d,h,hd,y=>⟨[],n,by rw[QX];exact k_deep (b:=false) H P TX h (by omega) (At.left (l:=[wtk "INSPECT"]) (m:=l) y)⟩
 |j+1,σ,n,d,h,hd,y=>by
  have y:At R n ([wtk "IF"]++deepT l j):=y
  have h1:R.Ok (σ++[.list []]):=h.app rfl;refine xe21 (k_nest (l:=l) j (n:=n+1) (d:=d+1) h1 (by omega) y.right) λl' n' q=>?_
  obtain⟨b,A⟩:=deep_head y.right;refine⟨[.list []]++l',n',?_⟩
  rw[← QW];rw[show k+8+4 * j=k+4+4 * j+4 from VH (k+4) 4 (4 * j),show n+1+j=n+(j+1) from ar37] at q
  have q:=k_if H P TX h (k_clo H P TX (k_body H P TX h A q)) y.left;rw[show k+8+4 * (j+1)=k+4+4 * j+3+5 from congrArg (· + 4) (VH (k+4) 4 (4 * j))]
  exact k_st (b:=true) H P TX h (by omega) y.left q
end
end
section
open PySem.SeqAt
noncomputable def asHandler:(h:ExceptHandler)->Option {t:PE×Str×Stmt×List Stmt×Pos // h = .ExceptHandler (some t.1) (some t.2.1) (t.2.2.1::t.2.2.2.1) t.2.2.2.2}
 | .ExceptHandler (some e) (some n) (b::bs) p=>some ⟨(e,n,b,bs,p),rfl⟩
 |_=>none
def hdlOk (E:Ce)(b:List Stmt):Bool:=onv (asRow3 b) λs=>onv (asTry s.2.2.1) λy=>onv (asHandler y.2.1) λt=>onv (asName t.1) λx=>onv (asRet t.2.2.1) λr=>onv (asAttr r.1) λa=>onv (asName a.1) λo=>
 (x.1 == "GrammarFault"&&t.2.1 == "odd"&&o.1 == "odd"&&a.2.1 == "at")&&(E.cs.names.lookup ("GrammarFault" : Str)==some .globalImplicit&&E.cs.names.lookup ("odd" : Str)==some .local)
section
variable (P:Params)(sa:Addr)(so:Obj)
theorem hdl_is:hdlOk (ceOf (recOf (kq P sa so) 876 e_L_read) 876) (recOf (kq P sa so) 876 e_L_read).body=true:=by kernel_rfl
theorem g72:nsIn (kq P sa so) mainGlobals "GrammarFault"=some (some (.ref 72)):=by kernel_rfl
end
theorem look_ns1 {h:Heap}{a:Addr}{m:Str->Option Value}{name:Str}{w:Value}{od:Obj}(x:h.Ns1 a m)(e:h.get? a=some od)(q:m name=some w):lookIn name od=some (some w):=by
 obtain⟨o,⟨l⟩,ep,e1,d,k,u,f⟩:=x
 rw[e] at e1;cases e1
 have z:=f name
 rw[q] at z
 simp only[nsFind,findBy,List.find?_toArray,H3] at z
 obtain⟨y,h1,h2⟩:=z
 unfold lookIn
 rw[d]
 show (match l.find? (λe=>e.key.isStr name) with|some e=>some (some e.val)|none=>if l.any (·.refKey) then none else some none)=_
 rw[h1,← h2]
section
variable {c:Cx}{d:Nat}{f:Fm}{A AZ:Around}{W:Wd}{σ σZ:Store}{en:En}{sZ s' : Shared}{m m1:Str->Option Value}{NZ:NwT}{E:Value->Shared->Prop}{Q:Flow->Shared->Prop}{a:AV}{e:Addr}{env:Env}{fs:List Env}{sa:Addr}{so:Obj}
theorem caught (H:IsC c sa so)(ok:f.Ok c AZ d)(S:St c f W σZ en sZ m NZ)(hfs:fs.filterMap (·.frame)=[env.locals,f.L])(hL1:f.h₀.get? env.locals=none)(hL:f.L≠env.locals)(hg:env.globals=mainGlobals)(hk:env.scope.kind = .function)
  (k1:env.kindOf "GrammarFault"=some .globalImplicit) (k2:env.kindOf "odd"=some .local) (ha:handedAV a=true) {fl:Value}
  (y:Flown c f.pin f.h₀ f.L fs W σ a fl e s') (n1:s'.heap.Ns env.locals m1) (n0:s'.heap.Ns f.L m) (hQ:∀ v sB,PostE c f W en a σ v sB->Q (.ret v) sB) {p1 p2 p3 p4 p5:Pos} {bs:List Stmt} {hs:List ExceptHandler} :
  wpAny (model c.prog c.w) A (setFlight (.ref e) none) (λZ sC=>wpAny (model c.prog c.w) A (handleBy (.ref e) env (.ExceptHandler (some (.Name "GrammarFault" p1)) (some "odd") (.Return (some (.Attribute (.Name "odd" p2) "at" p3)) p4::bs) p5::hs)) Q E sC) E s' := by
 obtain⟨B,W',N',dx,od,mA,w,y⟩:=y
 have nf:∀ b o,f.h₀.get? b=some o->b∉fs.filterMap (·.frame):=λb o q hm=>by
  rw[hfs] at hm;rcases mcM hm with rfl|hm
  · rw[hL1] at q;exact nos q
  · rcases mcM hm with rfl|hm
    · rw[N4 y.ab] at q;exact nos q
    · cases hm
 have kB:∀ b o,f.h₀.get? b=some o->B.get? b=some o:=λb o q=>y.kp b o q (nf b o q)
 have X0:c.K.In B:=ok.X.keeps kB
 have nB:B.get? env.locals=none:=(y.fly.3.mem (by rw[hfs];exact .head _)).1
 have hp:(env.scope.kind==.class||(env.scope.kind==.module&&env.locals != env.globals))=false:=by rw[hk];rfl
 obtain⟨hh,g,dr,t,os⟩:=s'
 refine W1 y.fly λh1 y1 u1=>?_
 have n1a:=Nj n1 u1
 have n0a:=Nj n0 u1
 refine wpAny_handleBy_cons (codeAny_handlers_test ?_) (by intro q;cases q)
 have G:h1.Ns env.globals c.mg:=by rw[hg];exact(topRead_of ok.T).g.keeps λb o q=>y1.1 b o (kB b o q)
 refine Name_function_global hk k1 (loadGlobal_global G (mg_of ok.X (topRead_of ok.T).g (by rw[H.K];exact g72 _ _ _)) ?_) (by decide)
 obtain⟨oe,he,hcls,hdict⟩:=y1.there
 refine wpAny_excMatches_sub_self (bm:=bm72) (In72 H (X0.keeps y1.1)) he hcls (by decide +kernel) ?_
 refine codeAny_handlers_suite_as (W1 y1 λh2 y2 u2=>?_)
 have n1b:=Nj n1a u2
 have n0b:=Nj n0a u2
 refine Gz k2 n1b (λh3 n3 s3=>?_) hp
 have hy2:=y2
 obtain⟨st2,en2,fr2,oe2,vs2,T2,oT2,ts2,he2,hc2,hd2,hf2,_⟩:=hy2
 have hne:e≠env.locals:=λq=>by
  obtain⟨o',es,ep,e1,e2,_⟩:=n1b;rw[← q,he2] at e1
  cases e1
  rw[hf2] at e2;cases e2
 have k3:∀ b o,B.get? b=some o->h3.get? b=some o:=λb o q=>(s3.2 b λz=>by rw[z,nB] at q;exact nos q).trans (st2 b o q)
 have od3:h3.get? dx=some od:=k3 _ _ y.hdx
 have I:InstAt h3 e oe2 72 (some od):=⟨(s3.2 e hne).trans he2,hc2,x_dict (od:=none) (λq z=>by rw[hf2] at z;cases z),by rw[hd2];exact od3⟩
 have fo:findObj c.K 72 (some od) "at"=some (.value w):=by
  unfold findObj;rw[H.K,x_cls,UG,x_at,UG,UG,UG]
  dsimp only;unfold PySem.W.ownOf
  rw[if_pos rfl];dsimp only
  rw[look_ns1 (y.hod _ od3) od3 y.at_,UG]
 refine JV (Mw (Attribute_any_ (wpAny_Name (wpAny_loadName_local hk k2 n3 (if_pos rfl) ?_) (by decide)) (by rw[arm_eval_Attribute,base_is rfl])))
 refine x_attr (X0.keeps k3) I (by rw[H.K];exact x_ga _ _ _) (by rw[H.K];exact x_gn _ _ _) fo (handed_of y.rw_ ha) (by rw[H.K];exact x_cls _ _ _) rfl (by decide +kernel) ?_
 refine wpAny_nameGoes_keeps k2 n3 hp λh4 v4 n4 s4=>hQ _ _ ?_
 have s34:=s3.trans s4
 have k4:∀ b o,B.get? b=some o->h4.get? b=some o:=λb o q=>(s34.2 b λz=>by rw[z,nB] at q;exact nos q).trans (st2 b o q)
 exact⟨W',m,N',y.le,⟨⟨Heap.Ns.at' n0b λo q=>(s34.2 f.L hL).trans q,λb o q=>k4 b o (kB b o q),y.ab⟩,λp hp=>⟨k4 _ _ (y.nw p hp).1,(y.nw p hp).2⟩,y.fa,S.env.mono y.le,S.cel.mono y.le,y.gens,y.drawn,y.os,Qq _,S.oenv.mono y.le⟩,y.rw_⟩
theorem caught_at (H:IsC c sa so)(ok:f.Ok c AZ d)(S:St c f W σZ en sZ m NZ)(hfs:fs.filterMap (·.frame)=[env.locals,f.L])(hL1:f.h₀.get? env.locals=none)(hL:f.L≠env.locals)(hg:env.globals=mainGlobals)(hk:env.scope.kind = .function)
  {E' : Ce} {f1:Fm} (kf:∀ x,env.kindOf x=f1.cs.names.lookup x) (hf:E'.fits f1) {s1 s2:Stmt} {t:List Stmt×ExceptHandler×List ExceptHandler×Pos} {rest:List Stmt} (hh:hdlOk E' (s1::s2::.Try t.1 (t.2.1::t.2.2.1) [] [] t.2.2.2::rest)=true) (ha:handedAV a=true) {fl:Value}
  (y:Flown c f.pin f.h₀ f.L fs W σ a fl e s') (n1:s'.heap.Ns env.locals m1) (n0:s'.heap.Ns f.L m) (hQ:∀ v sB,PostE c f W en a σ v sB->Q (.ret v) sB) :
  wpAny (model c.prog c.w) A (setFlight (.ref e) none) (λZ sC=>wpAny (model c.prog c.w) A (handleBy (.ref e) env (t.2.1::t.2.2.1)) Q E sC) E s' := by
 let G:ExceptHandler->Prop:=λh=>wpAny (model c.prog c.w) A (setFlight (.ref e) none) (λZ sC=>wpAny (model c.prog c.w) A (handleBy (.ref e) env (h::t.2.2.1)) Q E sC) E s'
 have hh:(onv (asHandler t.2.1) λt=>onv (asName t.1) λx=>onv (asRet t.2.2.1) λr=>onv (asAttr r.1) λa=>onv (asName a.1) λo=>
  (x.1 == "GrammarFault"&&t.2.1 == "odd"&&o.1 == "odd"&&a.2.1 == "at")&&(E'.cs.names.lookup ("GrammarFault" : Str)==some .globalImplicit&&E'.cs.names.lookup ("odd" : Str)==some .local))=true:=hh
 refine QU (C:=G) t.2.1 hh λu h=>QU (C:=λx=>G (.ExceptHandler (some x) (some u.2.1) (u.2.2.1::u.2.2.2.1) u.2.2.2.2)) u.1 h λx h=>QU (C:=λr=>G (.ExceptHandler (some (.Name x.1 x.2)) (some u.2.1) (r::u.2.2.2.1) u.2.2.2.2)) u.2.2.1 h λr h=>?_
 refine QU (C:=λa=>G (.ExceptHandler (some (.Name x.1 x.2)) (some u.2.1) (.Return (some a) r.2::u.2.2.2.1) u.2.2.2.2)) r.1 h λa h=>QU (C:=λo=>G (.ExceptHandler (some (.Name x.1 x.2)) (some u.2.1) (.Return (some (.Attribute o a.2.1 a.2.2)) r.2::u.2.2.2.1) u.2.2.2.2)) a.1 h λo h=>?_
 have k:=and4 (and2 h).1
 have l:=and2 (and2 h).2
 rw[bqM k.1,bqM k.2.1,bqM k.2.2.1,bqM k.2.2.2]
 exact caught H ok S hfs hL1 hL hg hk ((kf _).trans (hf.1▸bqM l.1)) ((kf _).trans (hf.1▸bqM l.2)) ha y n1 n0 hQ
end
end
section
open Rdr
theorem deep_rep (x:List Tk):∀ m,QK m (wtk "IF")++(wtk "INSPECT"::x)=deepT x m
 |0=>rfl
 |m+1=>by rw[Vk,GH,deep_rep];rfl
section
variable {c:Cx}{sa:Addr}{so:Obj}{ns:List Int}{σ:Store}{i:Nat}{ts:List Tk}
theorem read_1 (sc:ScT)(h:Cl σ)(hi:σ[i]? = some (.list ((wtk "INSPECT"::ts).map tkV)))(hl:ts.length≤900):∃ g,g.length=8∧clS (σ.length+8) g=true∧g[7]? = some (.list ((rowOf 13 (wtk "INSPECT"::ts)).map tkV)) ∧
  evS (pc sc 229) rd1 ⟨[some (.ref i),some (.int 13),none,none,none,none,none],[]⟩ σ=some (.next,⟨[some (.ref i),some (.int 13),some (.ref (σ.length+7)),none,none,none,none],[]⟩,σ++g):=by
 refine xe14 (row_is sc (k:=227) h hi (m:=13) (QN _) (QJ (Nat.succ_le_succ hl) (by decide))) λg g1 g2 g3 r1=>?_
 exact⟨g,g1,g2,g3,zSet r1⟩
theorem row_len (hl:ts.length≤900):(rowOf 13 (wtk "INSPECT"::ts)).length≤1000000:=by
 rw[QV,QV,QV,HQ,HQ]
 show 13+(ts.length+1+(13+1))≤_
 omega
variable {g:Store}(g1:g.length=8)(g2:clS (σ.length+8) g=true)(g3:g[7]? = some (.list ((rowOf 13 (wtk "INSPECT"::ts)).map tkV)))
include g3 in
theorem read_2 (sc:ScT)(hl:ts.length≤900) :
  evS (pc sc 229) (.set 3 (.call (.val (.glob (.ref 664))) (.cons (.toks 164 12 (.loc 2)) .nil))) ⟨[some (.ref i),some (.int 13),some (.ref (σ.length+7)),none,none,none,none],[]⟩ (σ++g) =
   some (.next,⟨[some (.ref i),some (.int 13),some (.ref (σ.length+7)),some (.ref (mkR (σ++g).length (rowOf 13 (wtk "INSPECT"::ts))).r),none,none,none],[]⟩,(σ++g)++mkS (σ++g).length (rowOf 13 (wtk "INSPECT"::ts))):=
 zSet (Kq sc (k:=228) (VN.trans g3) (row_len hl) rfl)
variable (H:IsC c sa so)(P:PkOk c (pk0 (sa,ns)))(TX:TxtOk c (pk0 (sa,ns)))
include H P TX g1 g2 in
theorem read_3 (h:Cl σ)(hl:ts.length≤900) :
  ∃ l,RS c 229 (pc (sa,ns) 229) tryY ⟨[some (.ref i),some (.int 13),some (.ref (σ.length+7)),some (.ref (mkR (σ++g).length (rowOf 13 (wtk "INSPECT"::ts))).r),none,none,none],[]⟩ ((σ++g)++mkS (σ++g).length (rowOf 13 (wtk "INSPECT"::ts))) (.tup [.int 14,.int 12]) (σ++l):=by
 have h2:Cl (σ++g):=h.app (by rw[g1];exact g2)
 have hR:=mk_ok (row:=rowOf 13 (wtk "INSPECT"::ts)) h2 (row_len hl)
 have hA:=mk_at (σ:=σ++g) (row:=rowOf 13 (wtk "INSPECT"::ts))
 have hd2:σ.length≤(mkR (σ++g).length (rowOf 13 (wtk "INSPECT"::ts))).d:=by
  show _≤(σ++g).length+2 * _+1;rw[QV];omega
 have a0:At (mkR (σ++g).length (rowOf 13 (wtk "INSPECT"::ts))) 0 (deepT (ts++(QK 13 (wtk "END-IF")++[dotTk])) 13):=⟨[],by rw[← deep_rep,QX];rfl⟩
 refine xe21 (k_nest (k:=169) H P TX 13 hR (d:=0) (n:=0) rfl a0) λl' n' q=>?_
 rw[hA] at q
 have e:∃ l,(mkR (σ++g).length (rowOf 13 (wtk "INSPECT"::ts))).at (((σ++g)++mkS (σ++g).length (rowOf 13 (wtk "INSPECT"::ts)))++l') n'=σ++l:=by
  unfold Rdr.at;rw[QW,QW,UQ _ _ hd2]
  exact⟨_,rfl⟩
 obtain⟨l,e⟩:=e
 rw[e] at q
 exact⟨l,RS.set (RC.mk (g:=.glob (.ref 483)) (l:=[.ref (mkR (σ++g).length (rowOf 13 (wtk "INSPECT"::ts))).r,.int 0,.clo 2 []]) rfl rfl q)⟩
theorem cut_back {f:Fm}{W:Wd}{en:En}{sZ s:Shared}{m:Str->Option Value}{N:NwT}{l:Store}{v:Value}(S:St c f W σ en sZ m N)(hcl:Cl σ)(z:PostE c f W en (.tup [.int 14,.int 12]) (σ++l) v s):PostE c f W en (.tup [.int 14,.int 12]) σ v s:=by
 have z:=z.cut S (QN _) (a:=.tup [.int 14,.int 12]) rfl (by rw[RK];exact hcl)
 rw[RK] at z
 exact z
variable {f f1:Fm}{A A1:Around}{W WA:Wd}{en:En}{s s₁:Shared}{m m₁:Str->Option Value}{N NA:NwT}{E:Value->Shared->Prop}
include H P TX in
theorem read_body {D:Nat}(ok:f.Ok c A D)(S:St c f W σ en s m N)(hout:f.outer=[])(ok1:f1.Ok c A1 229)(hpin:f1.pin=f.pin)(hn:f1.env=f1.fr)(ho1:f1.outer=f.fr::f.outer)(hloc:f1.env.locals=f1.L)
  (FG:Fr f.h₀ f.L f1.h₀ m) (w:W.le WA) (S₁:St c f1 WA σ ⟨[some (.ref i),some (.int 13),none,none,none,none,none],[]⟩ s₁ m₁ NA)
  (hcl:Cl σ) (hi:σ[i]? = some (.list ((wtk "INSPECT"::ts).map tkV))) (hlt:ts.length≤900)
  {E' : Ce} {b:List Stmt} (hf:E'.fits f1) (hc:E'.comp=false) (h0:rdOk (geOf c.K) E' b=true) (hh:hdlOk E' b=true) (hl:∀ o∈obS tryY (tryS b),LamIs c E' o) :
  wpAny (model c.prog c.w) A1 (execs b f1.env) (λfl s'=>∃ v,fl = .ret v∧PostE c f W en (.tup [.int 14,.int 12]) σ v s') E s₁:=by
 have Go:=geOk H.K
 have hC:=U7 TX 229
 refine xe14 (read_1 (sa,ns) hcl hi hlt) λg g1 g2 g3 r1=>?_
 have r2:=read_2 (i:=i) (σ:=σ) g3 (sa,ns) hlt
 obtain⟨l,r3⟩:=read_3 (i:=i) g1 g2 H P TX (σ:=σ) hcl hlt
 generalize hp:pc (sa,ns) 229=pc at r1 r2 r3
 have P' : PkOk c pc.p:=hp▸P
 have hC' : CallOK c 229 pc.C:=hp▸hC
 refine rd_cut P' Go hC' hf hc h0 (C:=λb=>hdlOk E' b=true->(∀ o∈obS tryY (tryS b),LamIs c E' o)->wpAny (model c.prog c.w) A1 (execs b f1.env) (λfl s'=>∃ v,fl = .ret v∧PostE c f W en (.tup [.int 14,.int 12]) σ v s') E s₁) (λs1 s2 t rest q1 q2 q3 Z hh hl=>?_) hh hl
 refine JV (post (q1 A1 WA s₁ σ _ _ _ _ m₁ NA _ ok1 S₁ r1) λfl sB WB mB NB wB S₂ xB=>?_)
 cases xB
 refine JV (post (q2 A1 WB sB _ _ _ _ _ mB NB _ ok1 S₂ r2) λfl sC WC m₃ N₃ wC S₃ xC=>?_)
 cases xC
 refine JV (wpAny_Try_except (rs_ok P' Go hC' r3 hf hc hn q3 hl A1 WC sC m₃ N₃ _ _ ok1 S₃ λe s' yx=>?_))
 refine qX ok1.frames ok1.frf hn yx λsD m' z n1=>?_
 have z' := W8 (w.trans (wB.trans wC)) FG z
 rw[hpin] at z'
 have none1:f1.h₀.get? f1.L=none:=N4 S₁.F.above
 have hL1:f.h₀.get? f1.L=none:=by
  cases q:f.h₀.get? f1.L with
  |none=>rfl
  |some o=>have:=FG.keep _ _ q;rw[none1] at this;exact nos this
 have hL:f.L≠f1.L:=λq=>by
  refine xe32 FG.ns λo es ep e1 Z=>?_
  rw[q,none1] at e1;exact nos e1
 have hfs:(f1.fr::f1.outer).filterMap (·.frame)=[f1.env.locals,f.L]:=by
  rw[ho1,hout,hloc,Jk,ok1.frf,Jk,ok.frf];rfl
 exact caught_at H ok S hfs (hloc▸hL1) (hloc▸hL) ok1.glo ok1.skind (λx=>ok1.kindOf x) hf hh rfl z'.1 (hloc▸n1) z'.2 λv sE z=>⟨v,rfl,cut_back S hcl z⟩
include H P TX in
theorem read_exc (ok:f.Ok c A 230)(S:St c f W σ en s m N)(hout:f.outer=[])(hcl:Cl σ)(hi:σ[i]? = some (.list ((wtk "INSPECT"::ts).map tkV)))(hlt:ts.length≤900){vs:List Value}(rl:RelL c.lam W [.ref i,.int 13] vs) :
  wpAny (model c.prog c.w) A (call (.ref 876) vs) (PostE c f W en (.tup [.int 14,.int 12]) σ) E s:=by
 have hq:(pk0 (sa,ns)).fns.lookup 876=some e_L_read:=rfl
 refine xe04 (Hv H.K (Jw hq)) λHF hk Z hr=>?_
 have h1:=alT (shapes c.w.params sa so (sa,ns)) (876,e_L_read) (Jw hq)
 have h2:=read_is c.w.params sa so
 have h3:=hdl_is c.w.params sa so
 have h4:∀ o∈obS tryY (tryS (recOf c.K 876 e_L_read).body),LamIs c (ceOf (recOf c.K 876 e_L_read) 876) o:=lamsT H
 rw[← H.K] at h1 h2 h3
 generalize hR:recOf c.K 876 e_L_read=r at HF hr h1 h2 h3 h4
 obtain⟨h1,h8⟩:=and2 h1
 obtain⟨h1,_⟩:=and2 h1
 obtain⟨h1,h7⟩:=and2 h1
 refine xe04 (and4 h7) λd1 d2 d3 d4=>?_
 have d1:5=r.zs.length:=bqM d1
 have d2:2=r.lo:=bqM d2
 have d3:2=r.ps.length:=bqM d3
 have epk:r.pk=[false,false]:=bqM h8
 have dl:=HF.dl
 refine Uq (Nq HF ok.at S rl ⟨by rw[← d2];exact QN 2,by rw[← d3];exact QN 2⟩ λg L' s₁ WA m₁ NA ok' w₁ S₁ Z FG Z=>?_)
 have e1:(r.dvs.map globAV).drop ([AV.ref i,.int 13].length - r.lo)=[]:=U3 (by rw[QH];simp;exact ar41 d2.symm d3.symm dl)
 rw[e1,QX,epk,← d1] at S₁
 have S₁:St c (f.into A r 876 g L') WA σ ⟨[some (.ref i),some (.int 13),none,none,none,none,none],[]⟩ s₁ m₁ NA:=S₁
 refine Qz (read_body (f1:=f.into A r 876 g L') H P TX ok S hout ok' rfl rfl rfl rfl FG w₁ S₁ hcl hi hlt (GN hr rfl rfl rfl rfl rfl) rfl h2 h3 h4) (λfl s' ⟨v,e,z⟩=>?_) λZ Z x=>x
 subst e
 exact z
end
end
section
def excM:Md:=λen σ=>on2 (excL en σ) λZ Z=>some (.tup [.int 14,.int 12],σ)
theorem excL_is {en:En}{σ σ' : Store}{a:AV}(h:excL en σ=some (a,σ')):σ'=σ∧∃ (i:Nat) (ts:List Tk),(en.loc[11]? : Option (Option AV))=some (some (.ref i))∧(σ[i]? : Option AO)=some (.list ((wtk "INSPECT"::ts).map tkV))∧ts.length≤900∧Cl σ:=by
 exact @oi _ _ _ (_) _ _ h λhx h=>⟨(Prod.mk.inj (soI h)).2.symm,hx⟩
noncomputable def tupX:X:=.tup (.cons (.val (.int 14)) (.cons (.val (.int 12)) .nil))
def ninthOk (g:Ge)(E:Ce)(st:Stmt):Bool:=onv (asIf st) λv=>onv (asCmp v.1) λw=>onv (asOne w.2.1) λop=>onv (asOne w.2.2.1) λr=>onv (asCall w.1) λu=>onv (asTwo u.2.1) λy=>
 (op==.NotEq&&chX g E tupX r&&!behindInMarks op r&&notAttr u.1)&&(chX g E (.val (.glob (.ref 876))) u.1&&chX g E (.loc 11) y.1&&chX g E (.val (.int 13)) y.2&&notStar y.1)&&(notStar y.2&&v.2.2.1.isEmpty)
theorem ninth_is (P:Params)(sa:Addr)(so:Obj):ninthOk (geOf (kq P sa so)) (ceOf (lawR P sa so) 890) (lawSt (lawR P sa so))=true:=by kernel_rfl
section
variable {c:Cx}{sa:Addr}{so:Obj}{ns:List Int}(H:IsC c sa so)(P:PkOk c (pk0 (sa,ns)))(TX:TxtOk c (pk0 (sa,ns)))
include H P TX in
theorem se_exc {E:Ce}{f:Fm}(hf:E.fits f)(hout:f.outer=[]){fe y1 y2:PE}{p:Pos}(a4:notAttr fe=true)(b1:chX (geOf c.K) E (.val (.glob (.ref 876))) fe=true)(b2:chX (geOf c.K) E (.loc 11) y1=true)(b3:chX (geOf c.K) E (.val (.int 13)) y2=true)(b4:notStar y1=true)(c1:notStar y2=true) :
  SE c 230 f (.Call fe [y1,y2] [] p) excM:=by
 intro A W s σ en a σ' m N E' ok S q
 have X:=λx:Mine.X=>UK (pc:=pc (sa,ns) 230) (d:=230) P (geOk H.K) (U7 TX 230) x
 have hk:=(Hv H.K (Jw (show (pk0 (sa,ns)).fns.lookup 876=some e_L_read from rfl))).2.1
 have hs:[y1,y2].all notStar=true:=by rw[JX,b4,JX,c1];rfl
 refine om q λZ Z hx q=>oe2 q ?_
 obtain⟨_,i,ts,e1,e2,e3,e4⟩:=excL_is hx
 refine Call_ (post (((X (.val (.glob (.ref 876)))).e E f fe hf b1).1 A W s σ en _ σ m N E' ok S rfl) λgv s₁ WA m₁ NA w₁ S₁ rA=>Gw rA ?_) (N8 a4)
 refine callWith_of (P:=λh=>KeepOk (model c.prog c.w) h (.ref 876)) (by rw[UW p [y1,y2] _ hs];rfl) (λh k=>k) (VX hs (post ((H5 ((X (.loc 11)).e E f y1 hf b2).1 (H5 ((X (.val (.int 13))).e E f y2 hf b3).1 WN c1) b4) A WA s₁ σ en [.ref i,.int 13] σ m₁ NA E' p ok S₁ ?_) λvs sB WB mB NB wB S₂ rB=>?_))
 · show on2 (ev (pc (sa,ns) 230) (.loc 11) en σ) _=_
   have e0:ev (pc (sa,ns) 230) (.loc 11) en σ=some (.ref i,σ):=by
    show (match en.loc[11]? with|some (some a)=>some (a,σ)|_=>none)=_;rw[e1]
   rw[e0];rfl
 · exact⟨P6 ok S₂ hk,Qz (read_exc H P TX ok S₂ hout e4 e2 e3 rB) (λZ Z x=>x.up (w₁.trans wB)) λZ Z x=>x⟩
include H P TX in
theorem ss_ninth {E:Ce}{f:Fm}{st:Stmt}(hf:E.fits f)(hout:f.outer=[])(h:ninthOk (geOf c.K) E st=true):SS c 230 f st (evS ⟨pk0 (sa,ns),callN (pk0 (sa,ns)) 230,1000,(pk0 (sa,ns)).exc⟩ .exc):=by
 have X:=λx:Mine.X=>UK (pc:=pc (sa,ns) 230) (d:=230) P (geOk H.K) (U7 TX 230) x
 refine QU st h λv h=>?_
 refine QU (C:=λt=>SS c 230 f (.If t v.2.1 v.2.2.1 v.2.2.2) _) v.1 h λw h=>?_
 refine QU (C:=λo=>SS c 230 f (.If (.Compare w.1 o w.2.2.1 w.2.2.2) v.2.1 v.2.2.1 v.2.2.2) _) w.2.1 h λop h=>?_
 refine QU (C:=λrs=>SS c 230 f (.If (.Compare w.1 [op] rs w.2.2.2) v.2.1 v.2.2.1 v.2.2.2) _) w.2.2.1 h λr h=>?_
 refine QU (C:=λe=>SS c 230 f (.If (.Compare e [op] [r] w.2.2.2) v.2.1 v.2.2.1 v.2.2.2) _) w.1 h λu h=>?_
 refine QU (C:=λas=>SS c 230 f (.If (.Compare (.Call u.1 as [] u.2.2) [op] [r] w.2.2.2) v.2.1 v.2.2.1 v.2.2.2) _) u.2.1 h λy h=>?_
 have a:=and4 (and3 h).1
 have b:=and4 (and3 h).2.1
 have k:=and2 (and3 h).2.2
 rw[bqM a.1,Qx.mp k.2]
 refine SS.weak (ss_if (b:=v.2.1) (pos:=v.2.2.2) (st_cmp (pos:=w.2.2.2) (se_exc (p:=u.2.2) H P TX hf hout a.2.2.2 b.1 b.2.1 b.2.2.1 b.2.2.2 k.1) ((X tupX).e _ _ _ hf a.2.1).1 (cmpP_ok P .NotEq) HN (V6 (bqM a.1▸a.2.2.1))) (M:=λZ Z=>none) (λZ Z Z Z Z Z Z Z Z Z Z Z Z q=>nos q) sb_nil) λen σ r q=>?_
 refine om q λz σ₁ hx0 q2=>?_
 have hx:excL en σ=some (z,σ₁):=hx0
 have e:=(excL_is hx).1
 subst e
 rw[← q2]
 show on2 (on2 (on2 (on2 (excL en σ₁) _) λa σ₁=>on2 (ev (pc (sa,ns) 230) tupX en σ₁) λb σ₂=>cmpP (pk0 (sa,ns)) .NotEq a b σ₂) λa σ₁=>on1 (truthF2 a σ₁) λb=>some (b,σ₁)) _=_
 rw[hx]
 rfl
end
theorem excOk:ExcOk:=λc sa so ns H P TX g L=>ss_ninth H P TX (GN (law_ref _ _ _) rfl rfl rfl rfl rfl) rfl (H.K▸ninth_is c.w.params sa so)
theorem holds:PySem.Challenge.rw_pq0644_01.Holds:=law_holds excOk λsc h=>law_pure sc (k:=107) h
end
end Mine
end
theorem PySem.Challenge.cw_pq0644_01_holds : PySem.Challenge.rw_pq0644_01.Holds :=
Mine.holds
