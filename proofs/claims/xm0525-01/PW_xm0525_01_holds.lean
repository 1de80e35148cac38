import PyProof.Rows.All
import Wide.All
import OpenK.AllK
import Wide.FinOn
import Lean
import PySem.Challenge.RW_xm0525_01
set_option Elab.async false
set_option maxRecDepth 100000
set_option linter.all false
set_option tactic.hygienic false
set_option genSizeOf false
set_option bootstrap.genMatcherCode false
noncomputable section
open And renaming left->ado,intro->adY
open Array renaming getElem?_toList->abu,getElem?_eq_getElem->acj,isEmpty_iff_size_eq_zero->acD,mem_toList_iff->adj,length_toList->adn,toList_push->adt,mk->adE,toList_append->ael,forIn_toList->aep
open Bool renaming eq_iff_iff->aaC,and_eq_true->aaY,or_eq_true->abd,eq_false_iff->abB,not_eq_true'->abC,and_eq_true_iff->abT,false_eq_true->aca,and_false->adf,false_or->adm,or_true->ads,not_true->adU,true_or->aea,or_eq_false_iff->aen,false_ne_true->aex,and_true->aeU,or_false->aeX
open Classical renaming byContradiction->acQ
open Decidable renaming byContradiction->adL
open False renaming elim->aaT
open ForInStep renaming yield->abL
open Iff renaming rfl->aeo
open Int renaming natCast_nonneg->abl,lt_trans->abW,toNat_of_nonneg->aco,le_of_lt->acI,le_trans->adu,ofNat_le->adv,toNat_natCast->adD,not_lt->adM,natCast_add->adN,ofNat_lt->aeb,not_le->aer
open Int.ofNat renaming inj->aaO
open LawfulBEq renaming eq_of_beq->abh
open List renaming mem_cons_self->aac,length_map->aae,mem_cons_of_mem->aaf,mem_singleton->aag,length_append->aah,mem_map->aal,mem_cons->aam,mem_map_of_mem->aan,forall_mem_nil->aar,all_eq_true->aas,mem_flatMap->aau,length_cons->aax,map_map->aay,mem_append->aaz,flatMap_singleton->aaA,pairwise_singleton->aaB,pairwise_cons->aaD,map_append->aaG,map_cons->aaH,append_assoc->aaJ,nodup_cons->aaM,mem_filter->aaN,getElem?_eq_getElem->aaP,getD_eq_getElem?_getD->aaR,flatMap_cons->aaU,append_nil->aaV,forall_mem_cons->aaX,range->aba,all_cons->abe,getElem?_eq_some_iff->abg,mem_of_getElem?->abk,any_eq_true->abn,length_range->abp,length_singleton->abv,length->abw,any_cons->abx,replicate->abz,nodup_nil->abA,sum_cons->abE,forall_mem_singleton->abF,find?_cons->abH,getElem?_map->abI,isEmpty_iff->abJ,forall_mem_append->abM,all_map->abN,getElem?_append_right->abQ,pairwise_map->abR,getElem?_append_left->abU,flatMap_map->abV,cons->abZ,mem_range->acd,getElem?_eq_none->ace,mem_append_left->acf,cons_ne_nil->acg,map_congr_left->ack,length_set->acn,length_drop->acy,map_flatMap->acz,cons_lt_cons_iff->acA,mem_append_right->acB,forIn_cons->acE,any_map->acF,flatMap_append->acO,drop_eq_getElem_cons->acT,length_take->acV,lookup_cons->acW,flatMap_def->acX,mem_reverse->acY,length_eq_zero_iff->acZ,all_append->ada,sum_append->adb,drop_of_length_le->ade,mem_iff_getElem?->adg,length_replicate->adh,getElem?_of_mem->adl,append_toArray->adq,getElem?_nil->adx,reverse_cons->ady,map_inj_left->adA,nodup_append->adB,map_id->adC,not_mem_nil->adG,nil_append->adK,forIn_nil->adQ,mem_zipIdx_iff_getElem?->adR,drop_nil->adT,filter_eq_nil_iff->aee,dropLast_eq_take->aeg,sizeOf_lt_of_mem->aei,length_reverse->aes,filterMap_cons->aet,length_flatMap->aev,map_inj_right->aew,lookup_append->aey,getElem?_take->aez,getElem?_drop->aeA,length_zipIdx->aeB,flatMap_assoc->aeC,take_sublist->aeE,map->aeG,cons_append->aeK,flatMap_nil->aeL,take_nil->aeT,le_trans->aeV,finRange->aeW
open List.Pairwise renaming nil->aci,imp_of_mem->acP
open List.Perm renaming eq_of_pairwise->adO
open List.cons renaming inj->aaL,injEq->acw,sizeOf_spec->adX
open Nat renaming le_trans->aaa,le_refl->aab,lt_of_le_of_lt->aai,le_add_left->aaj,lt_of_lt_of_le->aak,le_add_right->aao,lt_succ_self->aap,le_of_ble_eq_true->aaq,add_le_add_right->aat,add_le_add_left->aav,add_le_add->aaw,le_mul_of_pos_left->aaE,ne_of_lt->aaF,le_succ->aaK,lt_trans->aaQ,zero_le->aaS,le_max_left->aaW,max_le->abb,add_assoc->abc,add_comm->abf,le_max_right->abi,exists_eq_add_of_le'->abj,succ_le_succ->abm,mul_le_mul_right->abo,lt_succ_of_lt->abq,mul_le_mul_left->abt,zero_add->aby,le_of_eq->abD,succ_pos->abO,lt_of_lt_of_eq->abP,add_sub_cancel'->abY,not_lt->acb,le_of_not_lt->ach,sub_add_cancel->acq,mul_le_mul->acr,lt_add_of_pos_right->acs,le_succ_of_le->acu,le_of_succ_le_succ->acv,lt_irrefl->acx,sub_le_iff_le_add->acC,le_antisymm->acG,le_of_lt->acJ,not_lt_zero->acK,add_zero->acL,ne_of_gt->acM,le_of_lt_succ->acS,lt_succ_of_le->acU,succ_mul->adw,lt_of_succ_lt->adF,succ_lt_succ->adH,succ_ne_zero->adI,sub_sub_self->adJ,succ_add->aec,sub_self->aed,one_pos->aef,lt_add_of_pos_left->aeh,le_add_right_of_le->aej,mul_mod->aek,sub_eq_zero_of_le->aem,not_succ_le_zero->aeq,mod_lt->aeu,add_right_comm->aeF,le_of_succ_le->aeM,le_of_not_le->aeN,succ_ne_self->aeO,not_le_of_lt->aeP,lt_add_right->aeQ,min_eq_left->aeR,two_pow_pos->aeS
open Nat.succ renaming inj->acm
open Ne renaming symm->acR
open Option renaming isNone_iff_eq_none->aaZ,map_eq_some_iff->abK,none->abS,isSome->adi,isSome_iff_exists->adW,or_none->aeI
open Option.some renaming inj->aad,injEq->acN
open Or renaming elim->aaI
open Prod renaming fst->adk,snd->aeH
open Prod.mk renaming inj->abG,injEq->aeJ
open PyProof.Rows renaming getItem_tuple->adz,neg_int->adP
open PySem renaming call->abr,mem_of_lookup->adp
open PySem.Challenge renaming rw_xm0525_01->abX,pw_xm0525_01->aeY
open PySem.F renaming slot_tuple_hash->acp,args_tuple_add_2->adS,entry_tuple_add->adV,slot_tuple_add->adZ
open PySem.W renaming dictOf->acH,InstAt->aeD
section
namespace Own.Internal.Mp
set_option genInjectivity false
theorem cps{G:Prop}(h:∀Q:Prop,(G->Q)->Q):G:=h G id
theorem A2{P0 P1 Q:Prop}(h:P0/\P1)(k:P0->P1->Q):Q:=k h.1 h.2
theorem A3{P0 P1 P2 Q:Prop}(h:P0/\P1/\P2)(k:P0->P1->P2->Q):Q:=A2 h.2 (k h.1)
theorem A4{P0 P1 P2 P3 Q:Prop}(h:P0/\P1/\P2/\P3)(k:P0->P1->P2->P3->Q):Q:=A3 h.2 (k h.1)
theorem A5{P0 P1 P2 P3 P4 Q:Prop}(h:P0/\P1/\P2/\P3/\P4)(k:P0->P1->P2->P3->P4->Q):Q:=A4 h.2 (k h.1)
theorem A6{P0 P1 P2 P3 P4 P5 Q:Prop}(h:P0/\P1/\P2/\P3/\P4/\P5)(k:P0->P1->P2->P3->P4->P5->Q):Q:=A5 h.2 (k h.1)
theorem A7{P0 P1 P2 P3 P4 P5 P6 Q:Prop}(h:P0/\P1/\P2/\P3/\P4/\P5/\P6)(k:P0->P1->P2->P3->P4->P5->P6->Q):Q:=A6 h.2 (k h.1)
theorem A8{P0 P1 P2 P3 P4 P5 P6 P7 Q:Prop}(h:P0/\P1/\P2/\P3/\P4/\P5/\P6/\P7)(k:P0->P1->P2->P3->P4->P5->P6->P7->Q):Q:=A7 h.2 (k h.1)
variable {A B C D E F G:Type}{Q:Prop}
section
variable {p q r s t u v w:A->Prop}
theorem S7(a)(h:p a):∃a,p a:=⟨a,h⟩
theorem pE(h:∃a,p a)(k:∀a,p a->Q):Q:=h.elim λa h=>k a h
theorem cq(a)(h:p a)(i:q a):∃a,p a/\q a:=⟨a,h,i⟩
theorem ah(h:∃a,p a/\q a)(k:∀a,p a->q a->Q):Q:=h.elim λa h=>A2 h (k a)
theorem iD(a)(h:p a)(i:q a)(j:r a):∃a,p a/\q a/\r a:=⟨a,h,i,j⟩
theorem dw(h:∃a,p a/\q a/\r a)(k:∀a,p a->q a->r a->Q):Q:=h.elim λa h=>A3 h (k a)
theorem wy(a)(h:p a)(i:q a)(j:r a)(k:s a):∃a,p a/\q a/\r a/\s a:=⟨a,h,i,j,k⟩
theorem gD(h:∃a,p a/\q a/\r a/\s a)(k:∀a,p a->q a->r a->s a->Q):Q:=h.elim λa h=>A4 h (k a)
theorem EX(a)(h:p a)(i:q a)(j:r a)(k:s a)(l:t a):∃a,p a/\q a/\r a/\s a/\t a:=⟨a,h,i,j,k,l⟩
theorem jH(h:∃a,p a/\q a/\r a/\s a/\t a)(k:∀a,p a->q a->r a->s a->t a->Q):Q:=h.elim λa h=>A5 h (k a)
theorem S8(a)(h:p a)(i:q a)(j:r a)(k:s a)(l:t a)(m:u a):∃a,p a/\q a/\r a/\s a/\t a/\u a:=⟨a,h,i,j,k,l,m⟩
theorem S9(h:∃a,p a/\q a/\r a/\s a/\t a/\u a)(k:∀a,p a->q a->r a->s a->t a->u a->Q):Q:=h.elim λa h=>A6 h (k a)
theorem Ta(a)(h:p a)(i:q a)(j:r a)(k:s a)(l:t a)(m:u a)(n:v a):∃a,p a/\q a/\r a/\s a/\t a/\u a/\v a:=⟨a,h,i,j,k,l,m,n⟩
theorem Tc(h:∃a,p a/\q a/\r a/\s a/\t a/\u a/\v a)(k:∀a,p a->q a->r a->s a->t a->u a->v a->Q):Q:=h.elim λa h=>A7 h (k a)
end
section
variable {p q r s t u v w:A->B->Prop}
theorem MD(a b)(h:p a b):∃a b,p a b:=⟨a,S7 b h⟩
theorem sO(h:∃a b,p a b)(k:∀a b,p a b->Q):Q:=h.elim λa h=>pE h (k a)
theorem wB(a b)(h:p a b)(i:q a b):∃a b,p a b/\q a b:=⟨a,cq b h i⟩
theorem eO(h:∃a b,p a b/\q a b)(k:∀a b,p a b->q a b->Q):Q:=h.elim λa h=>ah h (k a)
theorem jk(a b)(h:p a b)(i:q a b)(j:r a b):∃a b,p a b/\q a b/\r a b:=⟨a,iD b h i j⟩
theorem dM(h:∃a b,p a b/\q a b/\r a b)(k:∀a b,p a b->q a b->r a b->Q):Q:=h.elim λa h=>dw h (k a)
theorem dI(a b)(h:p a b)(i:q a b)(j:r a b)(k:s a b):∃a b,p a b/\q a b/\r a b/\s a b:=⟨a,wy b h i j k⟩
theorem b8(h:∃a b,p a b/\q a b/\r a b/\s a b)(k:∀a b,p a b->q a b->r a b->s a b->Q):Q:=h.elim λa h=>gD h (k a)
theorem pF(a b)(h:p a b)(i:q a b)(j:r a b)(k:s a b)(l:t a b):∃a b,p a b/\q a b/\r a b/\s a b/\t a b:=⟨a,EX b h i j k l⟩
theorem kU(h:∃a b,p a b/\q a b/\r a b/\s a b/\t a b)(k:∀a b,p a b->q a b->r a b->s a b->t a b->Q):Q:=h.elim λa h=>jH h (k a)
theorem Td(a b)(h:p a b)(i:q a b)(j:r a b)(k:s a b)(l:t a b)(m:u a b):∃a b,p a b/\q a b/\r a b/\s a b/\t a b/\u a b:=⟨a,S8 b h i j k l m⟩
theorem ME(h:∃a b,p a b/\q a b/\r a b/\s a b/\t a b/\u a b)(k:∀a b,p a b->q a b->r a b->s a b->t a b->u a b->Q):Q:=h.elim λa h=>S9 h (k a)
theorem Te(a b)(h:p a b)(i:q a b)(j:r a b)(k:s a b)(l:t a b)(m:u a b)(n:v a b):∃a b,p a b/\q a b/\r a b/\s a b/\t a b/\u a b/\v a b:=⟨a,Ta b h i j k l m n⟩
theorem Tf(h:∃a b,p a b/\q a b/\r a b/\s a b/\t a b/\u a b/\v a b)(k:∀a b,p a b->q a b->r a b->s a b->t a b->u a b->v a b->Q):Q:=h.elim λa h=>Tc h (k a)
end
section
variable {p q r s t u v w:A->B->C->Prop}
theorem IS(a b c)(h:p a b c):∃a b c,p a b c:=⟨a,MD b c h⟩
theorem MF(h:∃a b c,p a b c)(k:∀a b c,p a b c->Q):Q:=h.elim λa h=>sO h (k a)
theorem MG(a b c)(h:p a b c)(i:q a b c):∃a b c,p a b c/\q a b c:=⟨a,wB b c h i⟩
theorem qv(h:∃a b c,p a b c/\q a b c)(k:∀a b c,p a b c->q a b c->Q):Q:=h.elim λa h=>eO h (k a)
theorem wC(a b c)(h:p a b c)(i:q a b c)(j:r a b c):∃a b c,p a b c/\q a b c/\r a b c:=⟨a,jk b c h i j⟩
theorem uG(h:∃a b c,p a b c/\q a b c/\r a b c)(k:∀a b c,p a b c->q a b c->r a b c->Q):Q:=h.elim λa h=>dM h (k a)
theorem yU(a b c)(h:p a b c)(i:q a b c)(j:r a b c)(k:s a b c):∃a b c,p a b c/\q a b c/\r a b c/\s a b c:=⟨a,dI b c h i j k⟩
theorem g9(h:∃a b c,p a b c/\q a b c/\r a b c/\s a b c)(k:∀a b c,p a b c->q a b c->r a b c->s a b c->Q):Q:=h.elim λa h=>b8 h (k a)
theorem jl(a b c)(h:p a b c)(i:q a b c)(j:r a b c)(k:s a b c)(l:t a b c):∃a b c,p a b c/\q a b c/\r a b c/\s a b c/\t a b c:=⟨a,pF b c h i j k l⟩
theorem fq(h:∃a b c,p a b c/\q a b c/\r a b c/\s a b c/\t a b c)(k:∀a b c,p a b c->q a b c->r a b c->s a b c->t a b c->Q):Q:=h.elim λa h=>kU h (k a)
theorem EY(a b c)(h:p a b c)(i:q a b c)(j:r a b c)(k:s a b c)(l:t a b c)(m:u a b c):∃a b c,p a b c/\q a b c/\r a b c/\s a b c/\t a b c/\u a b c:=⟨a,Td b c h i j k l m⟩
theorem CP(h:∃a b c,p a b c/\q a b c/\r a b c/\s a b c/\t a b c/\u a b c)(k:∀a b c,p a b c->q a b c->r a b c->s a b c->t a b c->u a b c->Q):Q:=h.elim λa h=>ME h (k a)
theorem MH(a b c)(h:p a b c)(i:q a b c)(j:r a b c)(k:s a b c)(l:t a b c)(m:u a b c)(n:v a b c):∃a b c,p a b c/\q a b c/\r a b c/\s a b c/\t a b c/\u a b c/\v a b c:=⟨a,Te b c h i j k l m n⟩
theorem MI(h:∃a b c,p a b c/\q a b c/\r a b c/\s a b c/\t a b c/\u a b c/\v a b c)(k:∀a b c,p a b c->q a b c->r a b c->s a b c->t a b c->u a b c->v a b c->Q):Q:=h.elim λa h=>Tf h (k a)
end
section
variable {p q r s t u v w:A->B->C->D->Prop}
theorem PL(a b c d)(h:p a b c d):∃a b c d,p a b c d:=⟨a,IS b c d h⟩
theorem PM(h:∃a b c d,p a b c d)(k:∀a b c d,p a b c d->Q):Q:=h.elim λa h=>MF h (k a)
theorem nq(h:∃a b c d,p a b c d/\q a b c d)(k:∀a b c d,p a b c d->q a b c d->Q):Q:=h.elim λa h=>qv h (k a)
theorem MJ(a b c d)(h:p a b c d)(i:q a b c d)(j:r a b c d):∃a b c d,p a b c d/\q a b c d/\r a b c d:=⟨a,wC b c d h i j⟩
theorem IT(h:∃a b c d,p a b c d/\q a b c d/\r a b c d)(k:∀a b c d,p a b c d->q a b c d->r a b c d->Q):Q:=h.elim λa h=>uG h (k a)
theorem PN(a b c d)(h:p a b c d)(i:q a b c d)(j:r a b c d)(k:s a b c d):∃a b c d,p a b c d/\q a b c d/\r a b c d/\s a b c d:=⟨a,yU b c d h i j k⟩
theorem IU(h:∃a b c d,p a b c d/\q a b c d/\r a b c d/\s a b c d)(k:∀a b c d,p a b c d->q a b c d->r a b c d->s a b c d->Q):Q:=h.elim λa h=>g9 h (k a)
theorem CQ(a b c d)(h:p a b c d)(i:q a b c d)(j:r a b c d)(k:s a b c d)(l:t a b c d):∃a b c d,p a b c d/\q a b c d/\r a b c d/\s a b c d/\t a b c d:=⟨a,jl b c d h i j k l⟩
theorem jI(h:∃a b c d,p a b c d/\q a b c d/\r a b c d/\s a b c d/\t a b c d)(k:∀a b c d,p a b c d->q a b c d->r a b c d->s a b c d->t a b c d->Q):Q:=h.elim λa h=>fq h (k a)
theorem Tg(a b c d)(h:p a b c d)(i:q a b c d)(j:r a b c d)(k:s a b c d)(l:t a b c d)(m:u a b c d):∃a b c d,p a b c d/\q a b c d/\r a b c d/\s a b c d/\t a b c d/\u a b c d:=⟨a,EY b c d h i j k l m⟩
theorem PO(h:∃a b c d,p a b c d/\q a b c d/\r a b c d/\s a b c d/\t a b c d/\u a b c d)(k:∀a b c d,p a b c d->q a b c d->r a b c d->s a b c d->t a b c d->u a b c d->Q):Q:=h.elim λa h=>CP h (k a)
theorem Th(h:∃a b c d,p a b c d/\q a b c d/\r a b c d/\s a b c d/\t a b c d/\u a b c d/\v a b c d)(k:∀a b c d,p a b c d->q a b c d->r a b c d->s a b c d->t a b c d->u a b c d->v a b c d->Q):Q:=h.elim λa h=>MI h (k a)
end
section
variable {p q r s t u v w:A->B->C->D->E->Prop}
theorem Ti(a b c d e)(h:p a b c d e):∃a b c d e,p a b c d e:=⟨a,PL b c d e h⟩
theorem Tj(h:∃a b c d e,p a b c d e)(k:∀a b c d e,p a b c d e->Q):Q:=h.elim λa h=>PM h (k a)
theorem MK(a b c d e)(h:p a b c d e)(i:q a b c d e)(j:r a b c d e):∃a b c d e,p a b c d e/\q a b c d e/\r a b c d e:=⟨a,MJ b c d e h i j⟩
theorem ML(h:∃a b c d e,p a b c d e/\q a b c d e/\r a b c d e)(k:∀a b c d e,p a b c d e->q a b c d e->r a b c d e->Q):Q:=h.elim λa h=>IT h (k a)
end
section
variable {p q r s:A->B->C->D->E->F->Prop}
theorem Tn(a b c d e f)(h:p a b c d e f):∃a b c d e f,p a b c d e f:=⟨a,Ti b c d e f h⟩
theorem To(h:∃a b c d e f,p a b c d e f)(k:∀a b c d e f,p a b c d e f->Q):Q:=h.elim λa h=>Tj h (k a)
theorem PQ(a b c d e f)(h:p a b c d e f)(i:q a b c d e f)(j:r a b c d e f):∃a b c d e f,p a b c d e f/\q a b c d e f/\r a b c d e f:=⟨a,MK b c d e f h i j⟩
theorem PR(h:∃a b c d e f,p a b c d e f/\q a b c d e f/\r a b c d e f)(k:∀a b c d e f,p a b c d e f->q a b c d e f->r a b c d e f->Q):Q:=h.elim λa h=>ML h (k a)
end
section
variable {p:A->B->C->D->E->F->G->Prop}
theorem Tq(a b c d e f g)(h:p a b c d e f g):∃a b c d e f g,p a b c d e f g:=⟨a,Tn b c d e f g h⟩
theorem Tr(h:∃a b c d e f g,p a b c d e f g)(k:∀a b c d e f g,p a b c d e f g->Q):Q:=h.elim λa h=>To h (k a)
end
end Own.Internal.Mp
end
section
namespace Own.Internal.Mp
set_option genInjectivity true
inductive V where
 |none
 |bool(b:Bool)
 |int(i:Int)
 |str(s:List Nat)
 |tup(vs:List V)
 |bI(vs:List V)
 |pG(ks vs:List V)
 |CR(n:Nat)
 |loc(l:Nat)
inductive O where
 |dead
 |lst(vs:List V)
 |bV(ks vs:List V)
 |ins(c:Nat)(fs:List (Nat×V))
structure St where
 n:Nat
 f:Nat->O
noncomputable def St.set(s:St)(l:Nat)(o:O):St:=⟨s.n,λk=>if k=l then o else s.f k⟩
noncomputable def St.new(s:St)(o:O):St:=⟨s.n+1,λk=>if k=s.n then o else s.f k⟩
inductive wD where |add |sub |mul |mod |fdiv
inductive Iz where |eq |ne |lt |le |gt |ge |isin |jJ
inductive Bi where |len |sorted |tuple |dict |any |isStr |range
inductive Me where |append |extend |pop |get |update |join |user (k:Nat)
set_option genCtorIdx false in
inductive X where
 |bad
 |lit(v:V)
 |var(i:Nat)
 |attr(e:X)(a:Nat)
 |idx(e i:X)
 |EZ(e:X)(lo hi:Option Int)(rev:Bool)
 |bin(op:wD)(a b:X)
 |cmp(op:Iz)(a b:X)
 |nt(e:X)
 |wg(VC:Bool)(es:List X)
 |ite(c a b:X)
 |lst(es:List X)
 |tup(es:List X)
 |IV(es:List X)
 |comp(elt it:X)(wF:List X)
 |call(f:Nat)(es:List X)
 |new(c:Nat)(es:List X)
 |bi(b:Bi)(e:X)
 |nr(m:Me)(o:X)(es:List X)
 |jj(e:X)
set_option genCtorIdx false in
inductive S where
 |bad
 |asg(i:Nat)(e:X)
 |sP(o:X)(a:Nat)(e:X)
 |sQ(o i:X)(e:X)
 |IA(is:List Nat)(e:X)
 |sR(o:X)(a:Nat)(op:wD)(e:X)
 |sS(o i:X)(op:wD)(e:X)
 |exp(e:X)
 |ret(e:X)
 |iff(c:X)(a b:List S)
 |pH(i:Nat)(it:X)(body:List S)
 |EM(c:X)(body:List S)
 |fin(body final:List S)
inductive Fl where
 |next
 |ret(v:V)
noncomputable def big:Nat:=1000000
noncomputable def ob{α γ:Type}(x:Option (α×St))(f:α->St->Option γ):Option γ:=match x with |some p=>f p.1 p.2 |none=>none
noncomputable def om{α γ:Type}(x:Option α)(f:α->Option γ):Option γ:=match x with |some a=>f a |none=>none
noncomputable def og{γ:Type}(b:Bool)(x:Option γ):Option γ:=match b with |true=>x |false=>none
theorem no{α:Type}{a:α}{p:Prop}(h:none=some a):p:=nomatch h
theorem nb{p:Prop}(h:false=true):p:=nomatch h
theorem cQ{α γ:Type}{x:Option α}{f:α->Option γ}{c:γ}{Q:Prop}(h:om x f=some c)(k:∀a,x=some a->f a=some c->Q):Q:=by
 cases x with
 |none=>exact no h
 |some p=>exact k p rfl h
theorem av{γ:Type}{b:Bool}{x:Option γ}{c:γ}(h:og b x=some c):b=true/\x=some c:=by
 cases b with
 |false=>exact no h
 |true=>exact⟨rfl,h⟩
theorem aQ{α γ:Type}{x:Option (α×St)}{f:α->St->Option γ}{a:α}{s:St}(h:x=some (a,s)):ob x f=f a s:=congrArg (λx=>ob x f) h
theorem eB{α γ:Type}{x:Option α}{f:α->Option γ}{a:α}(h:x=some a):om x f=f a:=congrArg (λx=>om x f) h
theorem b7{γ:Type}{b:Bool}{x:Option γ}(h:b=true):og b x=x:=congrArg (λb=>og b x) h
noncomputable def V.bool?:V->Option Bool | .bool i=>some i |_=>abS
noncomputable def V.int?:V->Option Int | .int i=>some i |_=>abS
noncomputable def V.wG:V->Option (List Nat) | .str i=>some i |_=>abS
noncomputable def V.CS:V->Option (List V) | .tup i=>some i |_=>abS
noncomputable def V.CU:V->Option (List V) | .bI i=>some i |_=>abS
noncomputable def V.PS:V->Option (List V×List V) | .pG a b=>some (a,b) |_=>abS
noncomputable def V.PT:V->Option Nat | .CR i=>some i |_=>abS
noncomputable def V.qw:V->Option Nat | .loc i=>some i |_=>abS
theorem CW{v:V}{i:Bool}(h:v.bool? =some i):v= .bool i:=by cases v<;>first |exact no h |exact congrArg _ (aad h)
theorem eY{v:V}{i:Int}(h:v.int? =some i):v= .int i:=by cases v<;>first |exact no h |exact congrArg _ (aad h)
theorem iR{v:V}{i:List Nat}(h:v.wG =some i):v= .str i:=by cases v<;>first |exact no h |exact congrArg _ (aad h)
theorem mc{v:V}{i:List V}(h:v.CS =some i):v= .tup i:=by cases v<;>first |exact no h |exact congrArg V.tup (aad h)
theorem jK{v:V}{i:List V}(h:v.CU =some i):v= .bI i:=by cases v<;>first |exact no h |exact congrArg V.bI (aad h)
theorem E3{v:V}{i:List V×List V}(h:v.PS =some i):v= .pG i.1 i.2:=by cases v<;>first |exact no h |exact congrArg (λi=>V.pG i.1 i.2) (aad h)
theorem E4{v:V}{i:Nat}(h:v.PT =some i):v= .CR i:=by cases v<;>first |exact no h |exact congrArg V.CR (aad h)
theorem hG{v:V}{i:Nat}(h:v.qw =some i):v= .loc i:=by cases v<;>first |exact no h |exact congrArg V.loc (aad h)
noncomputable def O.eW:O->Option (List V) | .lst i=>some i |_=>none
noncomputable def O.gP:O->Option (List V×List V) | .bV a b=>some (a,b) |_=>none
noncomputable def O.me:O->Option (Nat×List (Nat×V)) | .ins a b=>some (a,b) |_=>none
theorem qx{v:O}{i:List V}(h:v.eW =some i):v= .lst i:=by cases v<;>first |exact no h |exact congrArg _ (aad h)
theorem mf{v:O}{a b:List V}(h:v.gP =some (a,b)):v= .bV a b:=by cases v<;>first |exact no h |exact congrArg (λp=>O.bV p.1 p.2) (aad h)
theorem qz{v:O}{a:Nat}{b:List (Nat×V)}(h:v.me =some (a,b)):v= .ins a b:=by cases v<;>first |exact no h |exact congrArg (λp=>O.ins p.1 p.2) (aad h)
noncomputable def V.isNone:V->Bool | .none=>true |_=>false
noncomputable def bq{α:Type}(o:Option α)(p:α->Bool):Bool:=match o with |some a=>p a |none=>false
mutual
noncomputable def V.beq:V->V->Bool
 | .none,x=>x.isNone
 | .bool a,x=>bq x.bool? λb=>a==b
 | .int a,x=>bq x.int? λb=>decide (a=b)
 | .str a,x=>bq x.wG λb=>decide (a=b)
 | .tup a,x=>bq x.CS λb=>V.iS a b
 | .bI a,x=>bq x.CU λb=>V.iS a b
 | .pG a b,x=>bq x.PS λp=>V.iS a p.1 &&V.iS b p.2
 | .CR a,x=>bq x.PT λb=>decide (a=b)
 | .loc a,x=>bq x.qw λb=>decide (a=b)
noncomputable def V.iS:List V->List V->Bool
 |[],x=>x.isEmpty
 |a::as,x=>match x with |[]=>false |b::bs=>V.beq a b &&V.iS as bs
end
noncomputable def V.E5(f:List V->Bool):V->Bool
 | .int ab=>true
 | .str ab=>true
 | .tup vs=>f vs
 |_=>false
def wH:Nat->List V->Bool
 |0,ab=>false
 |n+1,vs=>vs.all (V.E5 (wH n))
def V.fW(n:Nat)(v:V):Bool:=V.E5 (wH n) v
noncomputable def V.isInt:V->Bool | .int _=>true |_=>false
noncomputable def V.isStr:V->Bool | .str _=>true |_=>false
def V.isTup:V->Bool | .tup vs=>vs.all (V.fW 6) |_=>false
def bM(ks:List V):Bool:=ks.all V.isInt ||ks.all V.isStr ||ks.all V.isTup
def bx:List V->List V->V->Option V
 |k::ks,v::vs,x=>if V.beq k x then some v else bx ks vs x
 |ab,ai,aD=>none
def putK:List V->List V->V->V->List V×List V
 |k::ks,v::vs,x,y=>if V.beq k x then(k::ks,y::vs)else let r:=putK ks vs x y;(k::r.1,v::r.2)
 |ab,ai,x,y=>([x],[y])
def cW(s:St):V->Option (List V)
 | .bI vs=>some vs
 | .loc l=>(s.f l).eW
 |_=>none
def jL(s:St):V->Option (List V)
 | .tup vs=>some vs
 |v=>cW s v
def eD(s:St):V->Option (List V×List V)
 | .pG ks vs=>some (ks,vs)
 | .loc l=>(s.f l).gP
 |_=>none
def cx(s:St):V->Option Bool
 | .bool b=>some b
 | .tup vs=>some (!vs.isEmpty)
 |v=>om (cW s v) λvs=>some (!vs.isEmpty)
def IW(s:St):List V->Option Bool
 |[]=>some false
 |v::r=>om (cx s v) λb=>match b with |true=>some true |false=>IW s r
noncomputable def jD:List Nat->List Nat->Bool
 |[],[]=>false
 |[],ab::ai=>true
 |ab::ai,[]=>false
 |a::as,b::bs=>if a<b then true else if b<a then false else jD as bs
def Ts:V->V->Option Bool
 | .int a,y=>om y.int? λb=>some (decide (a=b))
 | .str a,y=>om y.wG λb=>some (decide (a=b))
 | .tup a,y=>om y.CS λb=>og (a.all (V.fW 6) &&b.all (V.fW 6)) (some (V.iS a b))
 | .bI a,y=>om y.CU λb=>og (a.all V.isStr &&b.all V.isStr) (some (V.iS a b))
 |ab,ai=>none
def E6(s:St)(x c:V):Option Bool:=
 match jL s c with
 |some vs=>og ((x.isInt &&vs.all V.isInt) ||(x.isStr &&vs.all V.isStr)) (some (vs.any (V.beq x)))
 |none=>om (eD s c) λp=>og (bM (x::p.1)) (some (p.1.any (λk=>V.beq k x)))
noncomputable def Tt:Iz->Int->Int->Option Bool
 | .lt,a,b=>some (decide (a<b))
 | .le,a,b=>some (decide (a<=b))
 | .gt,a,b=>some (decide (a>b))
 | .ge,a,b=>some (decide (a≥b))
 |ab,ai,aD=>none
def aS(s:St)(op:Iz)(a b:V):Option Bool:=match op with
 | .eq=>Ts a b
 | .ne=>om (Ts a b) λc=>some (!c)
 | .isin=>E6 s a b
 | .jJ=>om (E6 s a b) λc=>some (!c)
 |op=>om a.int? λx=>om b.int? λy=>Tt op x y
def PU(s:St):V->V->Option V
 | .int a,y=>om y.int? λb=>some (.int (a+b))
 | .str a,y=>om y.wG λb=>og (decide (a.length+b.length<big)) (some (.str (a++b)))
 | .tup a,y=>om y.CS λb=>og (decide (a.length+b.length<big)) (some (.tup (a++b)))
 |x,y=>om (cW s x) λa=>om (cW s y) λb=>og (decide (a.length+b.length<big)) (some (.bI (a++b)))
def binI:wD->Int->Int->Option Int
 | .sub,a,b=>some (a -b)
 | .mul,a,b=>og (decide (a.natAbs<2^60) &&decide (b.natAbs<2^60)) (some (a*b))
 | .mod,a,b=>og (decide (0<b)) (some (a %b))
 | .fdiv,a,b=>og (decide (0<b) &&decide (b.natAbs<2^30)) (some (a/b))
 | .add,a,b=>some (a+b)
def eP(s:St)(op:wD)(x y:V):Option V:=match op with
 | .add=>PU s x y
 |op=>om x.int? λa=>om y.int? λb=>om (binI op a b) λc=>some (.int c)
noncomputable def E7(vs:List V)(i:Int):Option V:=
 if 0<=i then vs[i.toNat]? else if -(vs.length:Int)<=i then vs[(i+vs.length).toNat]? else none
def bS(s:St)(c i:V):Option V:=
 match c with
 | .str a=>om i.int? λk=>og (decide (k=0)) (om a.head? λx=>some (.str [x]))
 | .tup vs=>om i.int? (E7 vs)
 |c=>match cW s c with
  |some vs=>om i.int? (E7 vs)
  |none=>om (eD s c) λp=>og (bM (i::p.1)) (bx p.1 p.2 i)
noncomputable def clamp(n:Nat)(i:Int):Nat:=(if i<0 then max (i+n) 0 else min i n).toNat
def cut{α:Type}(vs:List α)(lo hi:Option Int):List α:=
 let a:=match lo with |some i=>clamp vs.length i |none=>0
 let b:=match hi with |some i=>clamp vs.length i |none=>vs.length
 (vs.take b).drop a
def pI(s:St)(c:V)(lo hi:Option Int)(rev:Bool):Option V:=
 match rev with
 |false=>(match c with
  | .str a=>og hi.isNone (om lo λi=>og (decide (0<i)) (some (.str (a.drop i.toNat))))
  | .tup vs=>og (decide ((cut vs lo hi).length<vs.length)) (some (.tup (cut vs lo hi)))
  |c=>og lo.isNone (om hi λi=>og (decide (0<=i)) (om (cW s c) λvs=>some (.bI (vs.take i.toNat)))))
 |true=>og (lo.isNone &&hi.isNone) (om (cW s c) λvs=>some (.bI vs.reverse))
def intsOf:List V->Option (List Int)
 |[]=>some []
 |v::r=>om v.int? λi=>om (intsOf r) λl=>some (i::l)
def strsOf:List V->Option (List (List Nat))
 |[]=>some []
 |v::r=>om v.wG λi=>om (strsOf r) λl=>some (i::l)
noncomputable def insI(a:Int):List Int->List Int
 |[]=>[a]
 |b::r=>if a<=b then a::b::r else b::insI a r
noncomputable def sortI:List Int->List Int
 |[]=>[]
 |a::r=>insI a (sortI r)
noncomputable def sW(a:List Nat):List (List Nat)->List (List Nat)
 |[]=>[a]
 |b::r=>if jD b a then b::sW a r else a::b::r
noncomputable def kY:List (List Nat)->List (List Nat)
 |[]=>[]
 |a::r=>sW a (kY r)
noncomputable def eZ(sep:List Nat):List (List Nat)->List Nat
 |[]=>[]
 |[x]=>x
 |x::r=>x++sep++eZ sep r
def MM(s:St)(v:V):Option Nat:=match jL s v with
 |some vs=>some vs.length
 |none=>om (eD s v) λp=>og (p.1.all V.isInt) (some p.1.length)
def iu(s:St)(v:V):Option (List V):=match cW s v with
 |some vs=>og (decide (vs.length<64)) (match intsOf vs with
  |some ns=>some ((sortI ns).map .int)
  |none=>om (strsOf vs) λss=>some ((kY ss).map .str))
 |none=>om (eD s v) λp=>og (decide (p.1.length<64)) (om (intsOf p.1) λns=>some ((sortI ns).map .int))
noncomputable def MN:V->Option Bool
 | .str ab=>some true
 | .int ab=>some false
 |_=>none
def sX(s:St):Bi->V->Option (V×St)
 | .len,v=>om (MM s v) λn=>some (.int n,s)
 | .sorted,v=>om (iu s v) λvs=>some (.bI vs,s)
 | .tuple,v=>om (cW s v) λvs=>some (.tup vs,s)
 | .dict,v=>om (eD s v) λp=>og (p.1.all V.isInt ||p.1.all V.isStr) (some (.loc s.n,s.new (.bV p.1 p.2)))
 | .any,v=>om v.CU λvs=>om (IW s vs) λb=>some (.bool b,s)
 | .isStr,v=>om (MN v) λb=>some (.bool b,s)
 | .range,v=>om v.int? λi=>og (decide (0<=i)) (some (.CR i.toNat,s))
def itemsOf:V->Option (List V)
 | .tup vs=>some vs
 | .bI vs=>some vs
 | .CR n=>og (decide (n<big)) (some ((aba n).map λ(i:Nat)=>V.int (i:Int)))
 |_=>none
noncomputable def MO(s:St)(l:Nat):O->V×St
 | .lst vs=>(.bI vs,s.set l .dead)
 | .bV ks vs=>(.pG ks vs,s.set l .dead)
 |_=>(.loc l,s)
def freeze(s:St):V->V×St
 | .loc l=>MO s l (s.f l)
 |v=>(v,s)
noncomputable def yV:List (Nat×V)->Nat->Option V
 |[],ab=>none
 |(k,v)::r,a=>if k=a then some v else yV r a
noncomputable def fb:List (Nat×V)->Nat->V->List (Nat×V)
 |[],a,x=>[(a,x)]
 |(k,v)::r,a,x=>if k=a then(k,x)::r else(k,v)::fb r a x
def aE(s:St)(o:V)(a:Nat):Option V:=om o.qw λl=>om (s.f l).me λp=>yV p.2 a
def cL(s:St)(o i x:V):Option St:=om o.qw λl=>
 match s.f l with
 | .lst vs=>om i.int? λk=>og (decide (0<=k) &&decide (k<vs.length)) (some (s.set l (.lst (vs.set k.toNat x))))
 | .bV ks vs=>og (bM (i::ks) &&decide (ks.length+1<big)) (some (s.set l (.bV (putK ks vs i x).1 (putK ks vs i x).2)))
 |_=>none
def gg:List V->List V->List V->List V->List V×List V
 |ks,vs,k::r,v::t=>gg (putK ks vs k v).1 (putK ks vs k v).2 r t
 |ks,vs,ab,ai=>(ks,vs)
structure Fn where
 params:Nat
 slots:Nat
 defaults:List V
 code:List S
structure Prog where
 fns:List Fn
 iT:List Nat
 meths:List (List (Nat×Nat))
 atts:List (List Nat)
noncomputable def Prog.fX(P:Prog)(c a:Nat):Bool:=(P.atts.getD c []).contains a
noncomputable def Prog.hH(P:Prog)(c k:Nat):Option Nat:=(P.meths.getD c []).lookup k
def bT(P:Prog)(s:St)(o:V)(a:Nat)(x:V):Option St:=om o.qw λl=>om (s.f l).me λp=>
 og (P.fX p.1 a &&decide (p.2.length<100)) (some (s.set l (.ins p.1 (fb p.2 a x))))
abbrev ct:=Nat->List V->St->Option (V×St)
def pS(s:St)(o x:V):Option (V×St):=om o.qw λl=>om (s.f l).eW λvs=>og (decide (vs.length+1<big)) (some (.none,s.set l (.lst (vs++[x]))))
def uH(s:St)(o x:V):Option (V×St):=om o.qw λl=>om x.CU λws=>om (s.f l).eW λvs=>og (decide (vs.length+ws.length<big)) (some (.none,s.set l (.lst (vs++ws))))
def MP(s:St)(o:V):Option (V×St):=om o.qw λl=>om (s.f l).eW λvs=>om vs.getLast? λx=>some (x,s.set l (.lst vs.dropLast))
def PV(s:St)(d k x:V):Option (V×St):=om (eD s d) λp=>og (bM (k::p.1)) (some ((bx p.1 p.2 k).getD x,s))
noncomputable def E8(l:Nat):V->Bool | .loc l'=>decide (l≠l') |_=>true
def AS(s:St)(o x:V):Option (V×St):=om o.qw λl=>om (s.f l).gP λp=>om (eD s x) λq=>
 og (E8 l x &&(p.1++q.1).all V.isInt &&decide (p.1.length+q.1.length<big)) (some (.none,s.set l (.bV (gg p.1 p.2 q.1 q.2).1 (gg p.1 p.2 q.1 q.2).2)))
def E9(s:St)(o x:V):Option (V×St):=om o.wG λsep=>om x.CU λvs=>om (strsOf vs) λss=>
 og (decide ((ss.map λx=>x.length+sep.length).sum<big)) (some (.str (eZ sep ss),s))
def dA(P:Prog)(s:St)(m:Me)(o:V):Option Nat:=
 match m with
 | .user k=>om o.qw λl=>om (s.f l).me λp=>P.hH p.1 k
 | .join=>om o.wG λab=>some 0
 | .get | .update=>om (eD s o) λab=>some 0
 |_=>om (cW s o) λab=>some 0
noncomputable def Fb{γ:Type}(as:List V)(f:V->Option γ):Option γ:=match as with |[x]=>f x |_=>none
def AU(s:St)(m:Me)(o:V)(args:List V):Option (V×St):=
 match m with
 | .append=>Fb args (pS s o)
 | .extend=>Fb args (uH s o)
 | .pop=>og args.isEmpty (MP s o)
 | .get=>(match args with |[k,x]=>PV s o k x |_=>none)
 | .update=>Fb args (AS s o)
 | .join=>Fb args (E9 s o)
 | .user ab=>none
def cX(call:ct)(s:St)(m:Me)(f:Nat)(o:V)(args:List V):Option (V×St):=
 match m with
 | .user ab=>call f (o::args) s
 |m=>AU s m o args
def wI(P:Prog)(call:ct)(s:St)(c:Nat)(args:List V):Option (V×St):=
 om P.iT[c]? λf=>ob (call f (.loc s.n::args) (s.new (.ins c []))) λv s'=>og v.isNone (some (.loc s.n,s'))
abbrev En:=List (Option V)
def cB(elt:En->St->Option (V×St))(cond:En->St->Option (Bool×St))(r:En):List V->St->Option (List V×St)
 |[],s=>some ([],s)
 |v::vs,s=>ob (cond (r++[some v]) s) λb s=>match b with
  |false=>cB elt cond r vs s
  |true=>ob (elt (r++[some v]) s) λx s=>ob (cB elt cond r vs s) λxs s=>some (x::xs,s)
noncomputable def oW:List V->List V
 |a::ab::r=>a::oW r
 |[a]=>[a]
 |[]=>[]
noncomputable def yW:List V->List V
 |ab::b::r=>b::yW r
 |[ab]=>[]
 |[]=>[]
def Fe(ks vs:List V):Option (List V×List V):=
 og ((ks.all V.isInt ||ks.all V.isStr) &&decide (ks.length=vs.length) &&decide (ks.length<=15)) (some (gg [] [] ks vs))
mutual
noncomputable def bR(P:Prog)(call:ct):X->En->St->Option (V×St)
 | .bad,ab,ai=>none
 | .lit v,ab,s=>some (v,s)
 | .var i,r,s=>om (r.getD i none) λv=>some (v,s)
 | .attr e a,r,s=>ob (bR P call e r s) λo s=>om (aE s o a) λv=>some (v,s)
 | .idx e i,r,s=>ob (bR P call e r s) λo s=>ob (bR P call i r s) λk s=>om (bS s o k) λv=>some (v,s)
 | .EZ e lo hi rev,r,s=>ob (bR P call e r s) λo s=>om (pI s o lo hi rev) λv=>some (v,s)
 | .bin op a b,r,s=>ob (bR P call a r s) λx s=>ob (bR P call b r s) λy s=>om (eP s op x y) λv=>some (v,s)
 | .cmp op a b,r,s=>ob (bR P call a r s) λx s=>ob (bR P call b r s) λy s=>om (aS s op x y) λc=>some (.bool c,s)
 | .nt e,r,s=>ob (bR P call e r s) λv s=>om (cx s v) λb=>some (.bool (!b),s)
 | .wg op es,r,s=>Sf P call op es r s
 | .ite c a b,r,s=>ob (bR P call c r s) λv s=>om (cx s v) λt=>match t with |true=>bR P call a r s |false=>bR P call b r s
 | .lst es,r,s=>ob (CX P call es r s) λvs s=>og (decide (vs.length<big)) (some (.loc s.n,s.new (.lst vs)))
 | .tup es,r,s=>ob (CX P call es r s) λvs s=>og (decide (vs.length<big)) (some (.tup vs,s))
 | .IV es,r,s=>ob (CX P call es r s) λxs s=>om (Fe (oW xs) (yW xs)) λp=>some (.loc s.n,s.new (.bV p.1 p.2))
 | .comp elt it wF,r,s=>ob (bR P call it r s) λc s=>om (itemsOf c) λvs=>og (decide (vs.length<big))
   (ob (cB (λr s=>bR P call elt r s) (λr s=>il P call wF r s) r vs s) λxs s=>some (.bI xs,s))
 | .call f es,r,s=>ob (CX P call es r s) λvs s=>call f vs s
 | .new c es,r,s=>ob (CX P call es r s) λvs s=>wI P call s c vs
 | .bi b e,r,s=>ob (bR P call e r s) λv s=>sX s b v
 | .nr m o es,r,s=>ob (bR P call o r s) λov s=>om (dA P s m ov) λf=>ob (CX P call es r s) λvs s=>cX call s m f ov vs
 | .jj e,r,s=>ob (bR P call e r s) λv s=>some (freeze s v)
noncomputable def CX(P:Prog)(call:ct):List X->En->St->Option (List V×St)
 |[],ab,s=>some ([],s)
 |e::es,r,s=>ob (bR P call e r s) λv s=>ob (CX P call es r s) λvs s=>some (v::vs,s)
noncomputable def Sf(P:Prog)(call:ct):Bool->List X->En->St->Option (V×St)
 |ab,[],ai,aD=>none
 |ab,[e],r,s=>bR P call e r s
 |op,e::es,r,s=>ob (bR P call e r s) λv s=>om (cx s v) λb=>if b=op then Sf P call op es r s else some (v,s)
noncomputable def il(P:Prog)(call:ct):List X->En->St->Option (Bool×St)
 |[],ab,s=>some (true,s)
 |e::es,r,s=>ob (bR P call e r s) λv s=>om (cx s v) λb=>match b with |true=>il P call es r s |false=>some (false,s)
end
def wh(P:Prog)(call:ct)(e:X)(r:En)(s:St):Option (Bool×St):=ob (bR P call e r s) λv s=>om (cx s v) λb=>some (b,s)
abbrev Res:=Option (Fl×En×St)
noncomputable def os{γ:Type}(x:Res)(f:Fl->En->St->Option γ):Option γ:=match x with |some p=>f p.1 p.2.1 p.2.2 |none=>none
theorem os_eq{γ:Type}{x:Res}{f:Fl->En->St->Option γ}{a:Fl}{r:En}{s:St}(h:x=some (a,r,s)):os x f=f a r s:=congrArg (λx=>os x f) h
noncomputable def AV(f:Fl)(r:En)(s:St)(k:Res):Res:=match f with | .next=>k | .ret v=>some (.ret v,r,s)
def oX(t:En->St->Option (Bool×St))(b:En->St->Res):Nat->En->St->Res
 |0,ab,ai=>none
 |n+1,r,s=>ob (t r s) λc s=>match c with |false=>some (.next,r,s) |true=>os (b r s) λf r s=>AV f r s (oX t b n r s)
def dk(i:Nat)(b:En->St->Res):List V->En->St->Res
 |[],r,s=>some (.next,r,s)
 |v::vs,r,s=>os (b (r.set i (some v)) s) λf r s=>AV f r s (dk i b vs r s)
noncomputable def nv:List Nat->List V->En->Option En
 |[],[],r=>some r
 |i::is,v::vs,r=>nv is vs (r.set i (some v))
 |ab,ai,aD=>none
noncomputable def V.drops:V->Bool | .none=>true | .int _=>true | .loc _=>true |_=>false
noncomputable def Fl.yX:Fl->Bool | .next=>true |_=>false
mutual
noncomputable def hJ(P:Prog)(call:ct):S->En->St->Res
 | .bad,ab,ai=>none
 | .asg i e,r,s=>ob (bR P call e r s) λv s=>some (.next,r.set i (some v),s)
 | .sP o a e,r,s=>ob (bR P call e r s) λv s=>ob (bR P call o r s) λov s=>om (bT P s ov a v) λs=>some (.next,r,s)
 | .sQ o i e,r,s=>ob (bR P call e r s) λv s=>ob (bR P call o r s) λov s=>ob (bR P call i r s) λk s=>om (cL s ov k v) λs=>some (.next,r,s)
 | .IA is e,r,s=>ob (bR P call e r s) λv s=>om v.CS λvs=>om (nv is vs r) λr=>some (.next,r,s)
 | .sR o a op e,r,s=>ob (bR P call o r s) λov s=>om (aE s ov a) λold=>ob (bR P call e r s) λv s=>om old.int? λx=>om v.int? λy=>
   om (eP s op (.int x) (.int y)) λz=>om (bT P s ov a z) λs=>some (.next,r,s)
 | .sS o i op e,r,s=>ob (bR P call o r s) λov s=>ob (bR P call i r s) λk s=>om (bS s ov k) λold=>ob (bR P call e r s) λv s=>om old.int? λx=>om v.int? λy=>
   om (eP s op (.int x) (.int y)) λz=>om (cL s ov k z) λs=>some (.next,r,s)
 | .exp e,r,s=>ob (bR P call e r s) λv s=>og v.drops (some (.next,r,s))
 | .ret e,r,s=>ob (bR P call e r s) λv s=>some (.ret v,r,s)
 | .iff c a b,r,s=>ob (wh P call c r s) λt s=>match t with |true=>dS P call a r s |false=>dS P call b r s
 | .pH i it body,r,s=>ob (bR P call it r s) λc s=>om (itemsOf c) λvs=>dk i (λr s=>dS P call body r s) vs r s
 | .EM c body,r,s=>oX (λr s=>wh P call c r s) (λr s=>dS P call body r s) 5000 r s
 | .fin body final,r,s=>os (dS P call body r s) λf r s=>os (dS P call final r s) λg r s=>og g.yX (some (f,r,s))
noncomputable def dS(P:Prog)(call:ct):List S->En->St->Res
 |[],r,s=>some (.next,r,s)
 |c::cs,r,s=>os (hJ P call c r s) λf r s=>AV f r s (dS P call cs r s)
end
def Lx(F:Fn)(args:List V):Option En:=
 og (decide (args.length<=F.params) &&decide (F.params -args.length<=F.defaults.length))
  (some ((args++F.defaults.drop (F.defaults.length -(F.params -args.length))).map some++abz (F.slots -F.params) none))
noncomputable def Fl.val:Fl->V | .ret v=>v | .next=> .none
def af(P:Prog):Nat->ct
 |0,ab,ai,aD=>none
 |d+1,f,args,s=>om P.fns[f]? λF=>om (Lx F args) λr=>os (dS P (af P d) F.code r s) λfl ab s=>some (fl.val,s)
end Own.Internal.Mp
end
section
namespace Own.Internal.Mp
open PySem
set_option genCtorIdx false in
inductive GV where
 |fn(i:Nat)
 |cls(c:Nat)
 |val(v:V)
structure CT where
 glob:List (Str×GV)
 attrs:List Str
 meths:List Str
 Lz:List Str
 yY:List Nat
noncomputable def idxOf(x:Str):List Str->Option Nat
 |[]=>none
 |y::r=>if y==x then some 0 else(idxOf x r).map (λx=>x+1)
noncomputable def PW:Operator->Option wD
 | .Add=>some .add | .Sub=>some .sub | .Mult=>some .mul | .Mod=>some .mod | .FloorDiv=>some .fdiv |_=>none
noncomputable def Ff:Operator->Option wD
 | .Add=>some .add | .Sub=>some .sub |_=>none
noncomputable def Fg:CmpOp->Option Iz
 | .Eq=>some .eq | .NotEq=>some .ne | .Lt=>some .lt | .LtE=>some .le | .Gt=>some .gt | .GtE=>some .ge | .In=>some .isin | .NotIn=>some .jJ |_=>none
noncomputable def kg:Expr->Option Int
 | .Constant (.int i) ab ai=>some i
 |_=>none
def intOf?:Expr->Option Int
 | .UnaryOp .USub x ab=>(kg x).map (-·)
 |e=>kg e
def bound?:Option Expr->Option (Option Int)
 |none=>some none
 |some e=>(intOf? e).map some
noncomputable def weave:List X->List X->List X
 |a::as,b::bs=>a::b::weave as bs
 |ab,ai=>[]
noncomputable def Fh:Const->X
 | .none=> .lit .none
 | .bool b=> .lit (.bool b)
 | .int i=> .lit (.int i)
 | .str s=>if s.cps.toList.length<1000 then .lit (.str s.cps.toList)else .bad
 |_=> .bad
abbrev bJ:=List (Str×NameKind)
abbrev Ga:=List (Str×Nat)
noncomputable def IX(x:Str):Option Nat->X
 |some i=>if x==("__debug__" :Str) ||x==("__classdict__" :Str)then .bad else .var i
 |none=> .bad
noncomputable def PX:Option GV->X
 |some (.val v)=> .lit v
 |_=> .bad
noncomputable def LA(T:CT)(g:Ga)(x:Str):Option NameKind->X
 |some .local=>IX x (g.lookup x)
 |some .cell=>IX x (g.lookup x)
 |some .free=>IX x (g.lookup x)
 |some .globalImplicit=>PX (T.glob.lookup x)
 |_=> .bad
def LB(T:CT)(ns:bJ)(g:Ga)(x:Str):X:=LA T g x (ns.lookup x)
noncomputable def Fi(x:Str):Option Bi:=
 if x==("len" :Str)then some .len else if x==("sorted" :Str)then some .sorted else if x==("tuple" :Str)then some .tuple
 else if x==("dict" :Str)then some .dict else if x==("any" :Str)then some .any else if x==("range" :Str)then some .range else none
noncomputable def kh(T:CT)(ns:bJ):Expr->Bool
 | .Name x ab=>x==("str" :Str) &&ns.lookup x==some .globalImplicit &&(T.glob.lookup x).isNone
 |_=>false
noncomputable def VD(a:X):Option Bi->X
 |some b=> .bi b a
 |none=> .bad
def Xx(T:CT)(ns:bJ)(f:Str):List Expr->List X->X
 |[ab,t],[a,ai]=>if f==("isinstance" :Str) &&kh T ns t then .bi .isStr a else .bad
 |[ab],[a]=>VD a (Fi f)
 |ab,ai=> .bad
def LC(T:CT)(ns:bJ)(f:Str)(raw:List Expr)(as:List X):Option GV->X
 |some (.fn i)=> .call i (if T.yY.contains i then as.map .jj else as)
 |some (.cls c)=> .new c as
 |some (.val ab)=> .bad
 |none=>Xx T ns f raw as
noncomputable def LD(x:X):Option NameKind->X
 |some .globalImplicit=>x
 |_=> .bad
def AW(T:CT)(ns:bJ)(f:Str)(raw:List Expr)(as:List X):X:=LD (LC T ns f raw as (T.glob.lookup f)) (ns.lookup f)
noncomputable def IY(m:Str):Option Me:=
 if m==("append" :Str)then some .append else if m==("extend" :Str)then some .extend else if m==("pop" :Str)then some .pop
 else if m==("get" :Str)then some .get else if m==("update" :Str)then some .update else if m==("join" :Str)then some .join else none
noncomputable def VE(o:X)(as:List X):Option Me->X
 |some m=> .nr m o as
 |none=> .bad
def LF(m:Str)(o:X)(as:List X):Option Nat->X
 |some k=> .nr (.user k) o as
 |none=>VE o as (IY m)
def AX(T:CT)(m:Str)(o:X)(as:List X):X:=LF m o as (idxOf m T.meths)
noncomputable def baseOk:Expr->Bool
 | .Call (.Name ab ai) [] [] aD=>false
 |_=>true
noncomputable def noStar:Expr->Bool
 | .Starred .. =>false
 |_=>true
noncomputable def AY:Option NameKind->Bool
 |some .cell=>true
 |some .free=>true
 |_=>false
def LG(ns:bJ)(g:Ga)(x:Str)(names:bJ)(y:Str):NameKind->Bool
 | .local=>(y==x ||y==(".0" :Str)) &&names.lookup y==some .local
 | .free=>AY (ns.lookup y) &&(g.lookup y).isSome
 | .globalImplicit=>true
 |_=>false
def qD(ns:bJ)(g:Ga)(x:Str)(scope:Scope):Bool:=
 scope.kind== .function &&scope.names.lookup x==some .local &&(g.lookup (".0" :Str)).isNone &&scope.names.all λp=>LG ns g x scope.names p.1 p.2
noncomputable def EN{α:Type}(o:Option α)(f:α->X):X:=match o with |some a=>f a |none=> .bad
noncomputable def EO(b:Bool)(x:X):X:=match b with |true=>x |false=> .bad
def PY(T:CT)(e:Expr)(a:Str)(x:X):X:=EN (idxOf a T.attrs) λi=>EO (baseOk e) (.attr x i)
def Xy(x:X)(l h:Option Int):Option Int->X
 |none=> .EZ x l h false
 |some j=>EO (decide (j= -1) &&l.isNone &&h.isNone) (.EZ x none none true)
def MQ(lo hi st:Option Expr)(x:X):X:=EN (bound? lo) λl=>EN (bound? hi) λh=>EN (bound? st) λs=>Xy x l h s
def IZ(i:Expr)(x y:X):X:=match i with
 | .Slice lo hi st ab=>MQ lo hi st x
 |_=> .idx x y
def Tu(op:Operator)(x y:X):X:=EN (PW op) λo=> .bin o x y
def Xz(op:UnaryOp)(e:Expr)(x:X):X:=match op with
 | .Not=> .nt x
 | .USub=>EN (kg e) λi=> .lit (.int (-i))
 |_=> .bad
def Tv(op:CmpOp)(r:Expr)(x y:X):X:=EN (Fg op) λo=>EO (!behindInMarks op r) (.cmp o x y)
def MR:List CmpOp->List Expr->X->List X->X
 |[op],[r],x,[y]=>Tv op r x y
 |ab,ai,aD,bO=> .bad
def tF:List Expr->Bool
 |[e]=>(kg e).isSome
 |_=>false
def PZ(es:List Expr)(xs:List X):X:=EO (es.all noStar) (bif tF es then .lst xs else .jj (.lst xs))
def Tw(es:List Expr)(xs:List X):X:=EO (es.all noStar) (.tup xs)
def P8(ks:List (Option Expr))(vs:List Expr)(xs ys:List X):X:=EO (decide (ks.length=vs.length) &&ks.all (λx=>x.isSome) &&decide (ks.length<=15)) (.IV (weave xs ys))
noncomputable def nameOf?:Expr->Option Str
 | .Name x ab=>some x
 |_=>none
noncomputable def lC:Expr->Bool
 | .Set .. =>false
 |_=>true
def MS(T:CT)(o:Expr)(m:Str)(args:List Expr)(CY:Nat)(line endLine:Nat)(x:X)(xs:List X):X:=
 EO (CY==0 &&baseOk o &&endLine==line &&decide (args.length<29) &&args.all noStar) (AX T m x xs)
def yZ(T:CT)(ns:bJ)(f:Expr)(args:List Expr)(CY:Nat)(xs:List X):X:=EN (nameOf? f) λx=>EO (CY==0 &&args.all noStar) (AW T ns x args xs)
mutual
noncomputable def cE(T:CT)(ns:bJ)(g:Ga)(n:Nat):Expr->X
 | .Constant c ab ai=>Fh c
 | .Name x ab=>LB T ns g x
 | .Attribute e a ab=>PY T e a (cE T ns g n e)
 | .Subscript e i ab=>IZ i (cE T ns g n e) (cE T ns g n i)
 | .BinOp l op r ab=>Tu op (cE T ns g n l) (cE T ns g n r)
 | .UnaryOp op x ab=>Xz op x (cE T ns g n x)
 | .BoolOp op vs ab=> .wg (op== .And) (wJ T ns g n vs)
 | .Compare l ops rs ab=>MR ops rs (cE T ns g n l) (wJ T ns g n rs)
 | .IfExp t a b ab=> .ite (cE T ns g n t) (cE T ns g n a) (cE T ns g n b)
 | .List es ab=>PZ es (wJ T ns g n es)
 | .Tuple es ab ai=>Tw es (wJ T ns g n es)
 | .Dict ks vs ab=>P8 ks vs (Tx T ns g n ks) (wJ T ns g n vs)
 | .ListComp elt [⟨t,iter,ifs,as⟩] scope ab=>EN (nameOf? t) λx=>EO ((as==0) &&lC iter &&qD ns g x scope) (.comp (cE T scope.names ((x,n)::g) (n+1) elt) (cE T ns g n iter) (wJ T scope.names ((x,n)::g) (n+1) ifs))
 | .Call (.Attribute o m apos) args CY pos=>MS T o m args CY.length pos.line apos.endLine (cE T ns g n o) (wJ T ns g n args)
 | .Call f args CY ab=>yZ T ns f args CY.length (wJ T ns g n args)
 |_=> .bad
noncomputable def wJ(T:CT)(ns:bJ)(g:Ga)(n:Nat):List Expr->List X
 |[]=>[]
 |e::r=>cE T ns g n e::wJ T ns g n r
noncomputable def Tx(T:CT)(ns:bJ)(g:Ga)(n:Nat):List (Option Expr)->List X
 |[]=>[]
 |e::r=>(match e with |some e=>cE T ns g n e |none=> .bad)::Tx T ns g n r
end
def kj:Expr->Option (List Expr)
 | .List es ab=>if es.all noStar &&decide (es.length<=2)then some es else none
 |_=>none
def Tz(T:CT)(ns:bJ)(g:Ga)(n:Nat)(e:Expr):X:=match kj e with
 |some es=> .lst (wJ T ns g n es)
 |none=>cE T ns g n e
noncomputable def LH(o:Option Nat):Option NameKind->Option Nat
 |some .local=>o
 |some .cell=>o
 |_=>none
def jM(ns:bJ)(g:Ga)(x:Str):Option Nat:=LH (g.lookup x) (ns.lookup x)
def slotsOf(ns:bJ)(g:Ga):List Expr->Option (List Nat)
 |[]=>some []
 |e::r=>om (nameOf? e) λx=>om (jM ns g x) λi=>om (slotsOf ns g r) λis=>some (i::is)
noncomputable def AZ:Expr->Bool
 | .Tuple .. =>true
 |_=>false
noncomputable def qH:Expr->Bool
 | .Slice .. =>false
 |_=>true
noncomputable def P9:Expr->Bool
 | .ListComp .. =>true
 |_=>false
noncomputable def pV:Expr->Bool
 | .ListComp .. =>false
 | .SetComp .. =>false
 | .DictComp .. =>false
 |_=>true
noncomputable def y0(o:Option S):S:=match o with |some s=>s |none=> .bad
noncomputable def O9(b:Bool)(x:S):S:=match b with |true=>x |false=> .bad
def Qa(T:CT)(ns:bJ)(g:Ga)(n:Nat)(t v:Expr):S:=match t with
 | .Name x ab=>y0 (om (jM ns g x) λi=>some (match pV v with |true=> .asg i (Tz T ns g n v) |false=>O9 (P9 v) (.asg i (cE T ns g n v))))
 | .Attribute o a ab=>y0 (om (idxOf a T.attrs) λi=>some (.sP (cE T ns g n o) i (Tz T ns g n v)))
 | .Subscript o i ab=> .sQ (cE T ns g n o) (cE T ns g n i) (cE T ns g n v)
 | .Tuple es ab ai=>O9 (!AZ v) (y0 (om (slotsOf ns g es) λis=>some (.IA is (cE T ns g n v))))
 |_=> .bad
def Qb(T:CT)(ns:bJ)(g:Ga)(n:Nat)(t:Expr)(op:Operator)(v:Expr):S:=match t with
 | .Attribute e a ab=>y0 (om (idxOf a T.attrs) λi=>om (Ff op) λo=>some (.sR (cE T ns g n e) i o (cE T ns g n v)))
 | .Subscript e i ab=>y0 (om (Ff op) λo=>some (O9 (qH i) (.sS (cE T ns g n e) (cE T ns g n i) o (cE T ns g n v))))
 |_=> .bad
mutual
noncomputable def cS(T:CT)(ns:bJ)(g:Ga)(n:Nat)(jj:Bool):Stmt->S
 | .Assign [t] v ab=>Qa T ns g n t v
 | .AugAssign t op v ab=>Qb T ns g n t op v
 | .Expr e ab=>O9 (pV e) (.exp (cE T ns g n e))
 | .Return none ab=> .ret (.lit .none)
 | .Return (some e) ab=> .ret (bif jj then .jj (cE T ns g n e)else cE T ns g n e)
 | .If t a b ab=> .iff (cE T ns g n t) (Fj T ns g n jj a) (Fj T ns g n jj b)
 | .While t b [] ab=> .EM (cE T ns g n t) (Fj T ns g n jj b)
 | .For t it b [] ab=>y0 (om (nameOf? t) λx=>om (jM ns g x) λi=>some (O9 (lC it) (.pH i (cE T ns g n it) (Fj T ns g n jj b))))
 | .Try b [] [] (f::fs) ab=> .fin (Fj T ns g n jj b) (cS T ns g n jj f::Fj T ns g n jj fs)
 |_=> .bad
noncomputable def Fj(T:CT)(ns:bJ)(g:Ga)(n:Nat)(jj:Bool):List Stmt->List S
 |[]=>[]
 |s::r=>cS T ns g n jj s::Fj T ns g n jj r
end
noncomputable def Fo:NameKind->Bool
 | .local=>true
 | .cell=>true
 |_=>false
def jN(names:bJ):List Str:=(names.filter λp=>Fo p.2).map (λx=>x.1)
def cV(i:Nat)(names:bJ):Ga:=(jN names).zipIdx i
def Qc(T:CT)(name:Str)(params:Arguments)(defaults:List V)(body:List Stmt)(scope:Scope):Fn:=
 let g:=cV 0 scope.names
 ⟨params.args.length,g.length,defaults,Fj T scope.names g g.length (!T.Lz.contains name) body⟩
structure Rec where
 name:Str
 params:Arguments
 body:List Stmt
 scope:Scope
 deriving Inhabited
noncomputable def Qd:Stmt->Option Rec
 | .FunctionDef name a b ab ai aD sc bO fc ny=>some ⟨name,a,b,sc⟩
 |_=>none
end Own.Internal.Mp
end
section
namespace Own.Internal.Mp
open PySem PySem.Spec PySem.Calls PyProof.Rows PySem.W
theorem oY{α:Type}{o:Option α}{p:α->Bool}{Q:Prop}(h:bq o p=true)(k:∀a,o=some a->p a=true->Q):Q:=by
 cases o with
 |none=>exact nb h
 |some a=>exact k a rfl h
theorem A0{v:V}(h:v.isNone=true):V.none=v:=by cases v<;>first |exact nb h |rfl
theorem ao{a b:Bool}(h:(a &&b)=true):a=true/\b=true:=(abT).mp h
theorem beq_eq(a:V):∀b,V.beq a b=true->a=b:=
 V.rec (motive_1:=λa=>∀b,V.beq a b=true->a=b) (motive_2:=λa=>∀b,V.iS a b=true->a=b)
  (λab h=>A0 h)
  (λab ai h=>oY h λab e q=>(congrArg V.bool (abh q)).trans (CW e).symm)
  (λab ai h=>oY h λab e q=>(congrArg V.int (of_decide_eq_true q)).trans (eY e).symm)
  (λab ai h=>oY h λab e q=>(congrArg V.str (of_decide_eq_true q)).trans (iR e).symm)
  (λab ih ai h=>oY h λab e q=>(congrArg V.tup (ih _ q)).trans (mc e).symm)
  (λab ih ai h=>oY h λab e q=>(congrArg V.bI (ih _ q)).trans (jK e).symm)
  (λa b i j ab h=>oY h λp e q=>(congr (congrArg V.pG (i p.1 (ao q).1)) (j p.2 (ao q).2)).trans (E3 e).symm)
  (λab ai h=>oY h λab e q=>(congrArg V.CR (of_decide_eq_true q)).trans (E4 e).symm)
  (λab ai h=>oY h λab e q=>(congrArg V.loc (of_decide_eq_true q)).trans (hG e).symm)
  (λb h=>(abJ.mp h).symm)
  (λa as i j b h=>by
   cases b with
   |nil=>exact nb h
   |cons b bs=>exact congr (congrArg abZ (i b (ao h).1)) (j bs (ao h).2)) a
theorem A1(a:List V):∀b,V.iS a b=true->a=b:=by
 induction a with
 |nil=>exactλb h=>(abJ.mp h).symm
 |cons a as ih=>
  exactλb h=>by
   cases b with
   |nil=>exact nb h
   |cons b bs=>exact congr (congrArg abZ (beq_eq a b (ao h).1)) (ih bs (ao h).2)
theorem Ba{a b:Bool}(h:a=true)(k:b=true):(a &&b)=true:=(abT).mpr ⟨h,k⟩
theorem fP(a:V):V.beq a a=true:=
 V.rec (motive_1:=λa=>V.beq a a=true) (motive_2:=λa=>V.iS a a=true) rfl (λab=>BEq.refl _) (λab=>decide_eq_true rfl) (λab=>decide_eq_true rfl) (λab h=>h) (λab h=>h) (λab ai h k=>Ba h k)
  (λab=>decide_eq_true rfl) (λab=>decide_eq_true rfl) rfl (λab ai h k=>Ba h k) a
theorem tG(a:List V):V.iS a a=true:=fP (.tup a)
theorem beq_iff(a b:V):V.beq a b=true↔a=b:=⟨beq_eq a b,λe=>e▸fP a⟩
theorem wK(a b:List V):V.iS a b=true↔a=b:=⟨A1 a b,λe=>e▸tG a⟩
noncomputable instance:DecidableEq V:=λa b=>decidable_of_iff _ (beq_iff a b)
theorem uJ(a b:V):V.beq a b=decide (a=b):=by
 cases q:V.beq a b with
 |true=>exact(decide_eq_true (beq_eq a b q)).symm
 |false=>exact(decide_eq_false λe=>nb (q.symm.trans ((beq_iff a b).mpr e))).symm
noncomputable abbrev toStr(s:List Nat):Str:=⟨s.toArray⟩
theorem nA{a b:List Nat}(h:toStr a=toStr b):a=b:=congrArg (λs:Str=>s.cps.toList) h
mutual
noncomputable def keyHash(W:World):V->Int
 | .int i=>hashInt i
 | .str s=>hashStr W (toStr s)
 | .tup vs=>reduceHash (Builtin.Tuple.tupleHashOf (bE W vs))
 |_=>0
noncomputable def bE(W:World):List V->List Int
 |[]=>[]
 |v::vs=>keyHash W v::bE W vs
end
theorem sY(W:World)(vs:List V):bE W vs=vs.map (keyHash W):=by
 induction vs with
 |nil=>rfl
 |cons v vs ih=>exact congrArg _ ih
noncomputable abbrev dD(items:Array Value)(n:Nat):Obj:={cls:= .type "tuple",dict:=none,data:= .seq items n,slots:= #[]}
noncomputable abbrev jm(items:Array Value)(n:Nat):Obj:={cls:= .type "list",dict:=none,data:= .seq items n,slots:= #[]}
noncomputable abbrev nF(es:Array DictEntry)(n:Nat):Obj:={cls:= .type "dict",dict:=none,data:= .dict es n,slots:= #[]}
noncomputable abbrev MT(n:Nat)(t u v:Tok):Obj:={cls:= .type "range",dict:=none,data:= .fields #[.int 0 t,.int (n:Int) u,.int 1 v],slots:= #[]}
structure Wd where
 n:Nat
 β:Nat->Addr
 δ:Nat->Addr
 φ:Addr->Prop
 ε:Addr->Prop
mutual
noncomputable def VR(W:World)(h:Heap)(w:Wd):V->Value->Prop
 | .none,v=>v= .none
 | .bool b,v=>v= .bool b
 | .int i,v=>∃t,v= .int i t
 | .str s,v=>s.length<big/\∃t,v= .str (toStr s) t
 | .tup vs,v=>∃a items n,v= .ref a/\w.φ a/\h.get? a=some (dD items n)/\vs.length<big/\bc W h w vs items.toList
 | .bI vs,v=>∃a items n,v= .ref a/\w.φ a/\h.get? a=some (jm items n)/\vs.length<big/\bc W h w vs items.toList
 | .pG ks vs,v=>∃a es n,v= .ref a/\w.φ a/\h.get? a=some (nF es n)/\(a≠sysModules/\ks.length<big)/\
   bc W h w ks (es.toList.map (λx=>x.key))/\bc W h w vs (es.toList.map (λx=>x.val))/\es.toList.map (λx=>x.hash)=bE W ks/\ks.Nodup
 | .CR n,v=>∃a t u x,v= .ref a/\w.φ a/\h.get? a=some (MT n t u x)
 | .loc l,v=>l<w.n/\v= .ref (w.β l)
noncomputable def bc(W:World)(h:Heap)(w:Wd):List V->List Value->Prop
 |[],l=>l=[]
 |v::vs,l=>∃x xs,l=x::xs/\VR W h w v x/\bc W h w vs xs
end
def DR(W:World)(h:Heap)(w:Wd)(ks vs:List V)(es:List DictEntry):Prop:=
 bc W h w ks (es.map (λx=>x.key))/\bc W h w vs (es.map (λx=>x.val))/\es.map (λx=>x.hash)=bE W ks/\ks.Nodup
structure fQ(h:Heap)(w:Wd)(h':Heap)(w':Wd):Prop where
 n:w.n<=w'.n
 β:∀l,l<w.n->w'.β l=w.β l
 φ:∀a,w.φ a->w'.φ a
 at_:∀a o,w.φ a->h.get? a=some o->h'.get? a=some o
theorem VR.aI{W:World}{h h':Heap}{w w':Wd}(S:fQ h w h' w')(v:V):∀x:Value,VR W h w v x->VR W h' w' v x:=
 V.rec (motive_1:=λv=>∀x:Value,VR W h w v x->VR W h' w' v x) (motive_2:=λv=>∀x:List Value,bc W h w v x->bc W h' w' v x)
  (λab e=>e) (λab ai e=>e) (λab ai e=>e) (λab ai e=>e)
  (λab ih ai q=>fq q λa i n e f o b r=>jl a i n e (S.φ a f) (S.at_ a _ f o) b (ih _ r))
  (λab ih ai q=>fq q λa i n e f o b r=>jl a i n e (S.φ a f) (S.at_ a _ f o) b (ih _ r))
  (λab ai i j aD q=>fq q λa x n e f o b r=>jl a x n e (S.φ a f) (S.at_ a _ f o) b ⟨i _ r.1,j _ r.2.1,r.2.2⟩)
  (λab ai q=>IT q λa t u x e f o=>MJ a t u x e (S.φ a f) (S.at_ a _ f o))
  (λl ab q=>⟨aak q.1 S.n,q.2.trans (congrArg Value.ref (S.β l q.1).symm)⟩)
  (λab e=>e)
  (λab ai i j aD q=>dM q λx xs e h r=>jk x xs e (i _ h) (j _ r)) v
theorem bc.aI{W:World}{h h':Heap}{w w':Wd}(S:fQ h w h' w')(vs:List V):∀xs:List Value,bc W h w vs xs->bc W h' w' vs xs:=by
 induction vs with
 |nil=>exactλab e=>e
 |cons v vs ih=>exactλab q=>dM q λx xs e h r=>jk x xs e (VR.aI S v _ h) (ih _ r)
theorem DR.aI{W:World}{h h':Heap}{w w':Wd}(S:fQ h w h' w'){ks vs:List V}{es:List DictEntry}(d:DR W h w ks vs es):DR W h' w' ks vs es:=
 ⟨bc.aI S _ _ d.1,bc.aI S _ _ d.2.1,d.2.2.1,d.2.2.2⟩
section
variable {W:World}{h:Heap}{w:Wd}
theorem bc.length{vs:List V}:∀{xs:List Value},bc W h w vs xs->xs.length=vs.length:=by
 induction vs with
 |nil=>exactλe=>congrArg abw e
 |cons v vs ih=>exactλq=>dM q λx xs e ab r=>(congrArg abw e).trans (congrArg (λx=>x+1) (ih r))
theorem bc.nil:bc W h w [] []:=rfl
theorem bc.cons{v:V}{vs:List V}{x:Value}{xs:List Value}(h1:VR W h w v x)(h2:bc W h w vs xs):bc W h w (v::vs) (x::xs):=⟨x,xs,rfl,h1,h2⟩
theorem bc.un{v:V}{vs:List V}{x:Value}{xs:List Value}(q:bc W h w (v::vs) (x::xs)):VR W h w v x/\bc W h w vs xs:=
 dM q λab ai e h r=>⟨(aaL e).1▸h,(aaL e).2▸r⟩
theorem bc.CZ{v:V}{vs:List V}{xs:List Value}{Q:Prop}(q:bc W h w (v::vs) xs)(k:∀x ys,VR W h w v x->bc W h w vs ys->xs=x::ys->Q):Q:=dM q λx ys e h r=>k x ys h r e
theorem bc.get{vs:List V}:∀{xs:List Value} {i:Nat} {v:V},bc W h w vs xs->vs[i]? =some v->∃x,xs[i]? =some x/\VR W h w v x:=by
 induction vs with
 |nil=>exactλ{_ i _} dJ q=>no (adx.symm.trans q)
 |cons a vs ih=>
  exactλ{xs i v} q e=>q.CZ λx ys h r f=>by
   rw[f];cases i with
   |zero=>exact⟨x,rfl,aad e▸h⟩
   |succ i=>exact(ih r (show vs[i]? =some v from e):∃x,ys[i]? =some x/\VR W _ w v x)
theorem bc.get'{vs:List V}:∀{xs:List Value} {i:Nat} {x:Value},bc W h w vs xs->xs[i]? =some x->∃v,vs[i]? =some v/\VR W h w v x:=by
 induction vs with
 |nil=>exactλ{xs i x} q e=>by rw[show xs=[]from q]at e;exact no (adx.symm.trans e)
 |cons a vs ih=>
  exactλ{xs i x} q e=>q.CZ λx ys h r f=>by
   rw[f]at e;cases i with
   |zero=>exact⟨a,rfl,aad e▸h⟩
   |succ i=>exact(ih r (show ys[i]? =some _ from e):∃v,vs[i]? =some v/\VR W _ w v _)
theorem bc.append{as bs:List V}{xs ys:List Value}(q:bc W h w as xs)(k:bc W h w bs ys):bc W h w (as++bs) (xs++ys):=by
 induction as generalizing xs with
 |nil=>exact(show xs=[]from q)▸k
 |cons a as ih=>exact q.CZ λx xs h r f=>f▸.cons h (ih r)
theorem bc.take{as:List V}:∀{xs:List Value} (n:Nat),bc W h w as xs->bc W h w (as.take n) (xs.take n):=by
 induction as with
 |nil=>exactλ{xs} n q=>by simp only[show xs=[]from q,aeT,aeT];rfl
 |cons a as ih=>
  exactλn q=>q.CZ λx xs h r f=>by
   simp only[f];cases n with
   |zero=>rfl
   |succ n=>exact .cons h (ih n r)
theorem bc.drop{as:List V}:∀{xs:List Value} (n:Nat),bc W h w as xs->bc W h w (as.drop n) (xs.drop n):=by
 induction as with
 |nil=>exactλ{xs} n q=>by simp only[show xs=[]from q,adT,adT];rfl
 |cons a as ih=>
  exactλn q=>q.CZ λx xs h r f=>by
   simp only[f];cases n with
   |zero=>exact .cons h r
   |succ n=>exact ih n r
theorem bc.reverse{as:List V}:∀{xs:List Value},bc W h w as xs->bc W h w as.reverse xs.reverse:=by
 induction as with
 |nil=>exactλ{xs} q=>(show xs=[]from q)▸rfl
 |cons a as ih=>
  exactλq=>q.CZ λx xs h r f=>by simp only[f,ady,ady];exact .append (ih r) (.cons h .nil)
theorem bc.set{v:V}{y:Value}(hv:VR W h w v y){as:List V}:∀{xs:List Value} (i:Nat),bc W h w as xs->bc W h w (as.set i v) (xs.set i y):=by
 induction as with
 |nil=>exactλ{xs} n q=>(show xs=[]from q)▸rfl
 |cons a as ih=>
  exactλn q=>q.CZ λx xs h r f=>by
   rw[f];cases n with
   |zero=>exact .cons hv r
   |succ n=>exact .cons h (ih n r)
end
structure Cx where
 prog:Program
 W:World
 K:Frag
 h₀:Heap
 mg:Str->Option Value
 mb:Str->Option Value
 P:Prog
 T:CT
 fa:Nat->Addr
 ca:Nat->Addr
def attrName(C:Cx)(a:Nat):Str:=C.T.attrs.getD a (toStr [])
def FR(C:Cx)(c:Nat)(h:Heap)(w:Wd):List (Nat×V)->List DictEntry->Prop
 |[],es=>es=[]
 |(a,v)::fs,es=>∃e r,es=e::r/\C.P.fX c a=true/\(∃t,e.key= .str (attrName C a) t)/\VR C.W h w v e.val/\FR C c h w fs r
def iE(C:Cx)(h:Heap)(w:Wd)(l:Nat):O->Prop
 | .dead=>True
 | .lst vs=>∃items n,h.get? (w.β l)=some (jm items n)/\w.δ l=w.β l/\vs.length<big/\bc C.W h w vs items.toList
 | .bV ks vs=>∃es n,h.get? (w.β l)=some (nF es n)/\w.δ l=w.β l/\ks.length<big/\DR C.W h w ks vs es.toList
 | .ins c fs=>h.get? (w.β l)=some (instObj (C.ca c) (w.δ l))/\w.φ (w.β l)/\∃es n,h.get? (w.δ l)=some (nF es n)/\fs.length<1000/\FR C c h w fs es.toList
structure Rel(C:Cx)(h:Heap)(w:Wd)(σ:St):Prop where
 n:w.n=σ.n
 keep:∀b o,C.h₀.get? b=some o->h.get? b=some o
 base:∀b o,C.h₀.get? b=some o->w.φ b
 obj:∀l,l<σ.n->iE C h w l (σ.f l)
 inj:∀l l',l<σ.n->l'<σ.n->σ.f l≠.dead->σ.f l'≠.dead->w.δ l=w.δ l'->l=l'
 fr:∀l,l<σ.n->σ.f l≠.dead->¬w.φ (w.δ l)/\¬w.ε (w.δ l)
 jO:∀a,w.φ a->∃o,h.get? a=some o
 ip:∀a,w.ε a->∃o,h.get? a=some o
 iF:∀a,w.φ a->¬w.ε a
structure After(C:Cx)(own:Addr->Prop)(w:Wd)(σ:St)(s:Shared)(w':Wd)(aq:St)(s':Shared):Prop where
 st:∃h' tk,s'={s with heap:=h',toks:=tk}
 rel:Rel C s'.heap w' aq
 le:w.n<=w'.n
 same:∀l,l<w.n->w'.β l=w.β l/\w'.δ l=w.δ l
 φ:∀a,w.φ a->w'.φ a
 ε:∀a,w.ε a->w'.ε a
 keep:∀b o,s.heap.get? b=some o->(∀l,l<w.n->σ.f l≠.dead->w.δ l≠b)->¬own b->s'.heap.get? b=some o
 new:∀l,l<w'.n->aq.f l≠.dead->(l<w.n/\σ.f l≠.dead)\/s.heap.get? (w'.δ l)=none
 alive:∀b o,s.heap.get? b=some o->∃o',s'.heap.get? b=some o'
theorem cj{h:Heap}{a:Addr}{p:Prop}(x:∃o,h.get? a=some o)(n:h.get? a=none):p:=x.elim λab e=>no (n.symm.trans e)
theorem After.refl{C:Cx}{own:Addr->Prop}{w:Wd}{σ:St}{s:Shared}(R:Rel C s.heap w σ):After C own w σ s w σ s:=
 ⟨⟨_,_,rfl⟩,R,aab _,λab ai=>⟨rfl,rfl⟩,λab h=>h,λab h=>h,λab ai e aD bO=>e,λab hl hd=> .inl ⟨hl,hd⟩,λab o e=>⟨o,e⟩⟩
theorem none_or{h:Heap}{a:Addr}:h.get? a=none\/∃o,h.get? a=some o:=by
 cases h.get? a with
 |none=>exact .inl rfl
 |some o=>exact .inr ⟨o,rfl⟩
theorem After.trans{C:Cx}{own:Addr->Prop}{w kW MU:Wd}{σ wL Fp:St}{s cH fR:Shared}(a:After C own w σ s kW wL cH)(b:After C own kW wL cH MU Fp fR):
  After C own w σ s MU Fp fR where
 st:=a.st.elim λab e=>e.elim λab e=>b.st.elim λh2 f=>f.elim λt2 f=>⟨h2,t2,f.trans (congrArg (λx:Shared=>{x with heap:=h2,toks:=t2}) e)⟩
 rel:=b.rel
 le:=aaa a.le b.le
 same:=λl hl=>⟨(b.same l (aak hl a.le)).1.trans (a.same l hl).1,(b.same l (aak hl a.le)).2.trans (a.same l hl).2⟩
 φ:=λx h=>b.φ x (a.φ x h)
 ε:=λx h=>b.ε x (a.ε x h)
 keep:=λx o e hu ho=>b.keep x o (a.keep x o e hu ho) (λl hl hd q=>(a.new l hl hd).elim (λh=>hu l h.1 h.2 ((a.same l h.1).2.symm.trans q)) λh=>no (h.symm.trans (q▸e))) ho
 new:=λl hl hd=>(b.new l hl hd).elim (λh=>(a.new l h.1 h.2).imp id λk=>(congrArg s.heap.get? (b.same l h.1).2).trans k) λh=> .inr (none_or.elim id λx=>cj (x.elim λo e=>a.alive _ o e) h)
 alive:=λx o e=>(a.alive x o e).elim λo' e'=>b.alive x o' e'
theorem After.mono{C:Cx}{own Qe:Addr->Prop}{w w':Wd}{σ aq:St}{s s':Shared}(a:After C own w σ s w' aq s')(h:∀b o,s.heap.get? b=some o->own b->Qe b):After C Qe w σ s w' aq s':=
 {a with keep:=λb o e hu ho=>a.keep b o e hu λq=>ho (h b o e q)}
theorem After.aI{C:Cx}{own:Addr->Prop}{w w':Wd}{σ aq:St}{s s':Shared}(a:After C own w σ s w' aq s')(R:Rel C s.heap w σ)(ho:∀b,own b->w.ε b):fQ s.heap w s'.heap w' where
 n:=a.le
 β:=λl hl=>(a.same l hl).1
 φ:=a.φ
 at_:=λb o hf e=>a.keep b o e (λl hl hd q=>(R.fr l (R.n▸hl) hd).1 (q▸hf)) λq=>R.iF b hf (ho b q)
theorem hO(w:Wd):∀b,(λ_:Addr=>False) b->w.ε b:=λab h=>h.elim
theorem Rel.wM{C:Cx}{h:Heap}{w:Wd}{σ:St}(R:Rel C h w σ){l:Nat}(hl:l<σ.n)(hd:σ.f l≠.dead):∃o,h.get? (w.δ l)=some o:=by
 obtain this:=R.obj l hl;revert this;cases e:σ.f l with
 |dead=>exact absurd e hd
 |lst vs=>exactλq=>q.elim λi q=>q.elim λn q=>⟨_,(congrArg h.get? q.2.1).trans q.1⟩
 |bV ks vs=>exactλq=>q.elim λi q=>q.elim λn q=>⟨_,(congrArg h.get? q.2.1).trans q.1⟩
 |ins c fs=>exactλq=>q.2.2.elim λi q=>q.elim λn q=>⟨_,q.1⟩
theorem FR.aI{C:Cx}{c:Nat}{h h':Heap}{w w':Wd}(S:fQ h w h' w'){fs:List (Nat×V)}:∀{es:List DictEntry},FR C c h w fs es->FR C c h' w' fs es:=by
 induction fs with
 |nil=>exactλe=>e
 |cons p fs ih=>exactλq=>kU q λe r q a k v r'=>pF e r q a k (VR.aI S _ _ v) (ih r')
theorem iE.aI{C:Cx}{h h':Heap}{w w':Wd}(S:fQ h w h' w'){l:Nat}(hl:l<w.n)(iQ:w'.δ l=w.δ l)(hk:∀o,h.get? (w.δ l)=some o->h'.get? (w.δ l)=some o){o:O}(q:iE C h w l o):iE C h' w' l o:=by
 obtain LI:=S.β l hl;have at_:∀{o},w.δ l=w.β l->h.get? (w.β l)=some o->h'.get? (w'.β l)=some o:=λd e=>(congrArg h'.get? (LI.trans d.symm)).trans (hk _ ((congrArg h.get? d).trans e));cases o with
 |dead=>exact q
 |lst vs=>exact b8 q λi n e d b r=>dI i n (at_ d e) (iQ.trans (d.trans LI.symm)) b (bc.aI S _ _ r)
 |bV ks vs=>exact b8 q λi n e d b r=>dI i n (at_ d e) (iQ.trans (d.trans LI.symm)) b (r.aI S)
 |ins c fs=>refine⟨by simp only[LI,iQ];exact S.at_ _ _ q.2.1 q.1,LI▸S.φ _ q.2.1,dM q.2.2 λi n e b r=>jk i n ((congrArg h'.get? iQ).trans (hk _ e)) b (r.aI S)⟩
theorem Rel.keeps{C:Cx}{h h':Heap}{w w':Wd}{σ:St}(R:Rel C h w σ)(S:fQ h w h' w')(hn:w'.n=w.n)(iQ:∀l,l<w.n->w'.δ l=w.δ l)
  (hk:∀l,l<w.n->σ.f l≠.dead->∀o,h.get? (w.δ l)=some o->h'.get? (w.δ l)=some o)
  (C0:∀a,w'.φ a->w.φ a\/h.get? a=none) (za:∀a,w'.ε a->w.ε a\/h.get? a=none)
  (MV:∀a,w'.φ a->∃o,h'.get? a=some o) (MW:∀a,w'.ε a->∃o,h'.get? a=some o) (hx:∀a,w'.φ a->¬w'.ε a):Rel C h' w' σ where
 n:=hn.trans R.n
 keep:=λb o e=>S.at_ b o (R.base b o e) (R.keep b o e)
 base:=λb o e=>S.φ b (R.base b o e)
 obj:=λl hl=>by
  by_cases hd:σ.f l= .dead
  ·simp only[hd];exact trivial
  ·exact(R.obj l hl).aI S (R.n▸hl) (iQ l (R.n▸hl)) (hk l (R.n▸hl) hd)
 inj:=λl l' hl tH hd IB e=>R.inj l l' hl tH hd IB ((iQ l (R.n▸hl)).symm.trans (e.trans (iQ l' (R.n▸tH))))
 fr:=λl hl hd=>(iQ l (R.n▸hl)).symm▸⟨λq=>(C0 _ q).elim (R.fr l hl hd).1 (cj (R.wM hl hd)),λq=>(za _ q).elim (R.fr l hl hd).2 (cj (R.wM hl hd))⟩
 jO:=MV
 ip:=MW
 iF:=hx
theorem Rel.XA{C:Cx}{h:Heap}{w:Wd}{σ:St}(R:Rel C h w σ){l:Nat}(hl:l<w.n)(hd:σ.f l≠.dead){a:Addr}(ha:w.φ a):a≠w.δ l:=λe=>(R.fr l (R.n▸hl) hd).1 (e▸ha)
noncomputable def Wd.fY(w:Wd)(a:Addr):Wd:={w with φ:=λb=>w.φ b\/b=a}
noncomputable def Wd.fZ(w:Wd)(p:Addr->Prop):Wd:={w with ε:=λb=>w.ε b\/p b}
noncomputable def Wd.fV(w:Wd)(b d:Addr):Wd:={w with n:=w.n+1,β:=λk=>if k=w.n then b else w.β k,δ:=λk=>if k=w.n then d else w.δ k}
theorem dj(h:Heap):h.get? h.objs.size=none:=by
 cases q:h.get? h.objs.size with
 |none=>rfl
 |some o=>exact absurd (Heap.lt_size q) (acx _)
theorem uK{h:Heap}{a:Addr}(ha:h.objs.size<=a):h.get? a=none:=by
 cases q:h.get? a with
 |none=>rfl
 |some o=>exact absurd (Heap.lt_size q) (acb.mpr ha)
structure Grows(h h':Heap):Prop where
 keep:∀b o,h.get? b=some o->h'.get? b=some o
theorem Grows.push(h:Heap)(o:Obj):Grows h (h.push o):=⟨λab ai e=>Heap.get?_push_of_some o e⟩
theorem Grows.refl(h:Heap):Grows h h:=⟨λab ai e=>e⟩
theorem Grows.at{h h':Heap}(G:Grows h h'){a:Addr}(x:∃o,h.get? a=some o):∃o,h'.get? a=some o:=x.elim λo e=>⟨o,G.keep a o e⟩
theorem Grows.trans{a b c:Heap}(x:Grows a b)(y:Grows b c):Grows a c:=⟨λq o e=>y.keep q o (x.keep q o e)⟩
theorem After.grow{C:Cx}{own:Addr->Prop}{w:Wd}{σ:St}{s:Shared}(R:Rel C s.heap w σ){h':Heap}{tk:Tok}(G:Grows s.heap h'):After C own w σ s w σ {s with heap:=h',toks:=tk} where
 st:=⟨_,_,rfl⟩
 rel:=R.keeps ⟨aab _,λab ai=>rfl,λab h=>h,λb o ab e=>G.keep b o e⟩ rfl (λab ai=>rfl) (λab ai aD o e=>G.keep _ o e) (λab h=> .inl h) (λab h=> .inl h)
  (λa h=>G.at (R.jO a h)) (λa h=>G.at (R.ip a h)) R.iF
 le:=aab _
 same:=λab ai=>⟨rfl,rfl⟩
 φ:=λab h=>h
 ε:=λab h=>h
 keep:=λb o e ab ai=>G.keep b o e
 new:=λab hl hd=> .inl ⟨hl,hd⟩
 alive:=λb o e=>⟨o,G.keep b o e⟩
theorem After.toks{C:Cx}{own:Addr->Prop}{w:Wd}{σ:St}{s:Shared}(R:Rel C s.heap w σ){tk:Tok}:After C own w σ s w σ {s with toks:=tk}:=After.grow R (Grows.refl _)
theorem After.fY{C:Cx}{own:Addr->Prop}{w:Wd}{σ:St}{s:Shared}(R:Rel C s.heap w σ){h':Heap}{tk:Tok}{a:Addr}(G:Grows s.heap h')(hn:s.heap.get? a=none)(hl:∃o,h'.get? a=some o):
  After C own w σ s (w.fY a) σ {s with heap:=h',toks:=tk} where
 st:=⟨_,_,rfl⟩
 rel:=R.keeps ⟨aab _,λab ai=>rfl,λab h=> .inl h,λb o ab e=>G.keep b o e⟩ rfl (λab ai=>rfl) (λab ai aD o e=>G.keep _ o e)
  (λb h=>h.imp id λq=>by rw[q];exact hn) (λab h=> .inl h)
  (λb h=>h.elim (λq=>G.at (R.jO b q)) λq=>q▸hl) (λb h=>G.at (R.ip b h))
  (λb h=>h.elim (R.iF b) λq z=>by subst q;exact cj (R.ip _ z) hn)
 le:=aab _
 same:=λab ai=>⟨rfl,rfl⟩
 φ:=λab h=> .inl h
 ε:=λab h=>h
 keep:=λb o e ab ai=>G.keep b o e
 new:=λab hl hd=> .inl ⟨hl,hd⟩
 alive:=λb o e=>⟨o,G.keep b o e⟩
theorem Rel.MX{C:Cx}{h h':Heap}{w w':Wd}{σ:St}{o:O}(R:Rel C h w σ)(S:fQ h w h' w')(hn:w'.n=w.n+1)(iQ:∀l,l<w.n->w'.δ l=w.δ l)
  (hk:∀l,l<w.n->σ.f l≠.dead->∀o,h.get? (w.δ l)=some o->h'.get? (w.δ l)=some o) (hu:∀l,l<w.n->σ.f l≠.dead->w.δ l≠w'.δ w.n)
  (hf:∀l,l<w.n->σ.f l≠.dead->¬w'.φ (w.δ l)/\¬w'.ε (w.δ l)) (XB:¬w'.φ (w'.δ w.n)/\¬w'.ε (w'.δ w.n))
  (MV:∀a,w'.φ a->∃o,h'.get? a=some o) (MW:∀a,w'.ε a->∃o,h'.get? a=some o) (hx:∀a,w'.φ a->¬w'.ε a) (ho:iE C h' w' w.n o):Rel C h' w' (σ.new o):=by
 have old:∀l,l<w.n->(σ.new o).f l=σ.f l:=λl hl=>if_neg (aaF (R.n▸hl));obtain new:(σ.new o).f w.n=o:=if_pos R.n;have top:∀{l},l<σ.n+1->¬l<w.n->l=w.n:=λh k=>acG (R.n▸acS h) (ach k);refine⟨hn.trans (congrArg (λx=>x+1) R.n),λb o e=>S.at_ b o (R.base b o e) (R.keep b o e),λb o e=>S.φ b (R.base b o e),λl hl=> ?_,λl l' hl tH h1 h2 e=> ?_,λl hl h1=> ?_,MV,MW,hx⟩
 ·by_cases eX:l<w.n
  ·simp only[old l eX];by_cases hd:σ.f l= .dead
   ·simp only[hd];exact trivial
   ·exact(R.obj l (R.n▸eX)).aI S eX (iQ l eX) (hk l eX hd)
  ·rw[top hl eX,new];exact ho
 ·by_cases eX:l<w.n
  ·rw[old l eX]at h1;by_cases uL:l'<w.n
   ·rw[old l' uL]at h2;exact R.inj l l' (R.n▸eX) (R.n▸uL) h1 h2 ((iQ l eX).symm.trans (e.trans (iQ l' uL)))
   ·exact absurd ((iQ l eX).symm.trans (e.trans (congrArg w'.δ (top tH uL)))) (hu l eX h1)
  ·by_cases uL:l'<w.n
   ·rw[old l' uL]at h2;exact absurd ((iQ l' uL).symm.trans (e.symm.trans (congrArg w'.δ (top hl eX)))) (hu l' uL h2)
   ·exact(top hl eX).trans (top tH uL).symm
 ·by_cases eX:l<w.n
  ·rw[old l eX]at h1;exact(iQ l eX)▸hf l eX h1
  ·exact(top hl eX)▸XB
theorem Wd.uM(w:Wd)(b d:Addr){l:Nat}(h:l<w.n):(w.fV b d).β l=w.β l:=if_neg (aaF h)
theorem Wd.zb(w:Wd)(b d:Addr){l:Nat}(h:l<w.n):(w.fV b d).δ l=w.δ l:=if_neg (aaF h)
theorem Wd.kZ(w:Wd)(b d:Addr):(w.fV b d).β w.n=b/\(w.fV b d).δ w.n=d:=⟨if_pos rfl,if_pos rfl⟩
theorem qI{w w':Wd}{σ:St}{o:O}{p:Addr->Prop}(hn:w.n=σ.n)(h:p (w'.δ w.n)){l:Nat}(hl:l<w.n+1)(hd:(σ.new o).f l≠.dead):(l<w.n/\σ.f l≠.dead)\/p (w'.δ l):=by
 by_cases eX:l<w.n
 ·exact .inl ⟨eX,λe=>hd ((if_neg (aaF (hn▸eX))).trans e)⟩
 ·exact .inr (acG (acS hl) (ach eX)▸h)
theorem After.fV{C:Cx}{own:Addr->Prop}{w:Wd}{σ:St}{s:Shared}(R:Rel C s.heap w σ){h':Heap}{tk:Tok}{b d:Addr}{o:O}(G:Grows s.heap h')(hd:s.heap.get? d=none)
  (ho:iE C h' (w.fV b d) w.n o):
  After C own w σ s (w.fV b d) (σ.new o) {s with heap:=h',toks:=tk}:=by
 have S:fQ s.heap w h' (w.fV b d):=⟨aaK _,λl hl=>w.uM b d hl,λab h=>h,λx q ab e=>G.keep x q e⟩;obtain iQ:∀l,l<w.n->(w.fV b d).δ l=w.δ l:=λl hl=>w.zb b d hl;have en:=(w.kZ b d).2;exact⟨⟨_,_,rfl⟩,R.MX S rfl iQ (λab ai aD o e=>G.keep _ o e) (λl hl qJ e=>cj (R.wM (R.n▸hl) qJ) ((congrArg s.heap.get? (e.trans en)).trans hd)) (λl hl qJ=>R.fr l (R.n▸hl) qJ)
  (en.symm▸⟨λq=>cj (R.jO _ q) hd,λq=>cj (R.ip _ q) hd⟩) (λa h=>G.at (R.jO a h)) (λa h=>G.at (R.ip a h)) R.iF ho,aaK _,λl hl=>⟨S.β l hl,iQ l hl⟩,λab h=>h,λab h=>h,λx q e ab ai=>G.keep x q e,λl hl qJ=>qI (p:=λa=>s.heap.get? a=none) R.n (en.symm▸hd) hl qJ,λx q e=>⟨q,G.keep x q e⟩⟩
theorem St.cz(σ:St)(l:Nat)(o:O):(σ.set l o).f l=o:=if_pos rfl
theorem St.uN(σ:St){k l:Nat}(o:O)(h:k≠l):(σ.set l o).f k=σ.f k:=if_neg h
theorem After.upd{C:Cx}{own:Addr->Prop}{w:Wd}{σ:St}{s:Shared}(R:Rel C s.heap w σ){h':Heap}{tk:Tok}{l:Nat}{o:O}(hl:l<σ.n)(hd:σ.f l≠.dead)(ho:o≠.dead)(hs:Heap.SameBut (w.δ l) s.heap h')
  (hr:fQ s.heap w h' w->iE C h' w l o):After C own w σ s w (σ.set l o) {s with heap:=h',toks:=tk}:=by
 have S:fQ s.heap w h' w:=⟨aab _,λab ai=>rfl,λab h=>h,λb q hb e=>(hs.2 b (λz=>(R.fr l hl hd).1 (z▸hb))).trans e⟩;have dd:∀k,(σ.set l o).f k≠.dead->σ.f k≠.dead:=λk hk=>by
  by_cases e:k=l
  ·exact e▸hd
  ·rw[σ.uN o e]at hk;exact hk
 have at_:∃q,h'.get? (w.δ l)=some q:=by
  obtain this:=hr S;revert this;cases o with
  |dead=>exact absurd rfl ho
  |lst vs=>exactλq=>q.elim λi q=>q.elim λn q=>⟨_,(congrArg h'.get? q.2.1).trans q.1⟩
  |bV ks vs=>exactλq=>q.elim λi q=>q.elim λn q=>⟨_,(congrArg h'.get? q.2.1).trans q.1⟩
  |ins c fs=>exactλq=>q.2.2.elim λi q=>q.elim λn q=>⟨_,q.1⟩
 have live:∀b,(∃q,s.heap.get? b=some q)->∃q',h'.get? b=some q':=λb e=>by
  by_cases hb:b=w.δ l
  ·exact hb▸at_
  ·exact e.elim λq e=>⟨q,(hs.2 b hb).trans e⟩
 refine⟨⟨_,_,rfl⟩,⟨R.n,λb q e=>S.at_ b q (R.base b q e) (R.keep b q e),R.base,λk hk=> ?_,λk k' hk IC h1 h2 e=>R.inj k k' hk IC (dd k h1) (dd k' h2) e,λk hk h1=>R.fr k hk (dd k h1),λa h=>live a (R.jO a h),λa h=>live a (R.ip a h),R.iF⟩,aab _,λab ai=>⟨rfl,rfl⟩,λab h=>h,λab h=>h,λb q e hu ab=>(hs.2 b (λz=>hu l (R.n▸hl) hd z.symm)).trans e,λk hk Pa=> .inl ⟨hk,dd k Pa⟩,λb q e=>live b ⟨q,e⟩⟩;by_cases e:k=l
 ·simp only[e,σ.cz];exact hr S
 ·simp only[σ.uN o e];by_cases Pa:σ.f k= .dead
  ·simp only[Pa];exact trivial
  ·exact(R.obj k hk).aI S (R.n▸hk) rfl λq hq=>(hs.2 _ λz=>e (R.inj k l hk hl Pa hd z)).trans hq
theorem After.jj{C:Cx}{own:Addr->Prop}{w:Wd}{σ:St}{s:Shared}(R:Rel C s.heap w σ){l:Nat}(hl:l<σ.n)(hd:σ.f l≠.dead):
  After C own w σ s (w.fY (w.δ l)) (σ.set l .dead) s:=by
 refine cps λab kk=> ?_;have old:∀k,(σ.set l .dead).f k≠.dead->k≠l/\σ.f k≠.dead:=λk hk=>by
  by_cases e:k=l
  ·exact absurd (e▸σ.cz l .dead) hk
  ·rw[σ.uN .dead e]at hk;exact⟨e,hk⟩
 obtain S:fQ s.heap w s.heap (w.fY (w.δ l)):=⟨aab _,λab ai=>rfl,λab h=> .inl h,λab ai aD e=>e⟩;refine kk<|⟨⟨s.heap,s.toks,rfl⟩,⟨R.n,R.keep,λb o e=> .inl (R.base b o e),λk hk=> ?_,λk k' hk IC h1 h2 e=>R.inj k k' hk IC (old k h1).2 (old k' h2).2 e,λk hk h1=>⟨λq=>q.elim (R.fr k hk (old k h1).2).1 λz=>(old k h1).1 (R.inj k l hk hl (old k h1).2 hd z),(R.fr k hk (old k h1).2).2⟩,λa h=>h.elim (R.jO a) λh=>h▸R.wM hl hd,R.ip,λa h=>h.elim (R.iF a) λh=>h▸(R.fr l hl hd).2⟩,aab _,λab ai=>⟨rfl,rfl⟩,λab h=> .inl h,λab h=>h,λb q e ab ai=>e,λk hk Pa=> .inl ⟨hk,(old k Pa).2⟩,λb q e=>⟨q,e⟩⟩
 by_cases e:k=l
 ·simp only[e,σ.cz];exact trivial
 ·simp only[σ.uN .dead e];exact(R.obj k hk).aI S (R.n▸hk) rfl λq hq=>hq
structure kX(A:Around)(d:Nat):Prop where
 handled:A.handled=none
 depth:A.depth+6*d<1000
 units:A.units+60*d+200<9900
theorem kX.in1{A:Around}{d:Nat}(r:kX A d):A.handled=none:=r.handled
theorem kX.cl{A:Around}{d:Nat}(r:kX A d):A.units+150<cLine:=aai (aaa (aav (aaq rfl) _) (aat (aao _ (60*d)) 200)) r.units
theorem kX.lim{A:Around}{d:Nat}(r:kX A d):A.depth<recursionLimit:=aai (aao _ _) r.depth
abbrev aj:Addr->Prop:=λab=>False
def bN(C:Cx)(own:Addr->Prop)(w:Wd)(σ:St)(s:Shared)(v:V)(aq:St)(u:Value)(s':Shared):Prop:=
 ∃w',After C own w σ s w' aq s'/\VR C.W s'.heap w' v u
def OV(C:Cx)(h:Heap)(w:Wd)(v:Option V)(u:Option Value):Prop:=∀x,v=some x->∃y,u=some y/\VR C.W h w x y
def CV(C:Cx)(h:Heap)(w:Wd)(env:Env)(x:Str)(v:Option V):Prop:=∃c u,env.cells.lookup x=some c/\w.ε c/\h.IsCell c u/\OV C h w v u
def Slot(C:Cx)(h:Heap)(w:Wd)(env:Env)(m:Str->Option Value)(x:Str)(k:NameKind)(v:Option V):Prop:=
 match k with
 | .local=>OV C h w v (m x)
 | .cell=>CV C h w env x v
 | .free=>CV C h w env x v
 |_=>False
structure bz(C:Cx)(h:Heap)(w:Wd)(env:Env)(ns:bJ)(g:Ga)(r:En):Prop where
 kind:env.scope.kind= .function
 globals:env.globals=mainGlobals
 builtins:env.builtins=builtinsNs
 names:∀x k,ns.lookup x=some k->env.kindOf x=some k\/(k= .free/\env.kindOf x=some .cell)
 ε:w.ε env.locals
 slots:∃m,h.Ns env.locals m/\∀x i k,g.lookup x=some i->ns.lookup x=some k->(k= .local\/k= .cell\/k= .free)->Slot C h w env m x k (r.getD i none)
 len:∀x i,g.lookup x=some i->i<r.length
section
variable {C:Cx}{h h' qK:Heap}{w w' kW:Wd}{env:Env}
theorem OV.aI{v:Option V}{u:Option Value}(S:fQ h w h' w')(q:OV C h w v u):OV C h' w' v u:=λx e=>(q x e).imp λab p=>⟨p.1,VR.aI S _ _ p.2⟩
theorem OV.no{u:Option Value}:OV C h w none u:=λab e=>Mp.no e
theorem OV.so{x:V}{y:Value}(q:VR C.W h w x y):OV C h w (some x) (some y):=λab e=>⟨y,rfl,aad e▸q⟩
theorem CV.move{x:Str}{v nG:Option V}(S:fQ h w h' w')(hk:∀a,kW.ε a->w.ε a->w'.ε a/\∀o,h.get? a=some o->h'.get? a=some o)(jE:CV C qK kW env x nG)(q:CV C h w env x v):CV C h' w' env x v:=
 b8 q λc u e ε i o=>b8 jE λc' ab e' XC ai aD=>
  have k:=hk c (aad (e'.symm.trans e)▸XC) ε
  dI c u e k.1 (i.elim λo p=>⟨o,k.2 o p.1,p.2⟩) (o.aI S)
theorem Slot.move{m m₁:Str->Option Value}{x:Str}{k:NameKind}{v nG:Option V}(S:fQ h w h' w')(hk:∀a,kW.ε a->w.ε a->w'.ε a/\∀o,h.get? a=some o->h'.get? a=some o)(jE:Slot C qK kW env m₁ x k nG)(q:Slot C h w env m x k v):Slot C h' w' env m x k v:=by
 cases k with
 |«local»=>exact OV.aI S q
 |cell=>exact CV.move S hk jE q
 |free=>exact CV.move S hk jE q
 |_=>exact q
theorem bz.move{ns:bJ}{g:Ga}{qM r:En}(fS:bz C qK kW env ns g qM)(V:bz C h w env ns g r)(S:fQ h w h' w')(hk:∀a,kW.ε a->w.ε a->w'.ε a/\∀o,h.get? a=some o->h'.get? a=some o):bz C h' w' env ns g r:=
 have l:=hk _ fS.ε V.ε
 ⟨V.kind,V.globals,V.builtins,V.names,l.1,fS.slots.elim λab jE=>V.slots.elim λm q=>⟨m,q.1.at' l.2,λx i k a b c=>(jE.2 x i k a b c).move S hk (q.2 x i k a b c)⟩,V.len⟩
end
theorem After.lD{C:Cx}{w w':Wd}{σ aq:St}{s s':Shared}(a:After C aj w σ s w' aq s')(R:Rel C s.heap w σ)(b:Addr)(o:Obj)(hb:w.ε b)(e:s.heap.get? b=some o):s'.heap.get? b=some o:=
 a.keep b o e (λl hl hd q=>(R.fr l (R.n▸hl) hd).2 (q▸hb)) (λh=>h)
theorem bz.after{C:Cx}{w w':Wd}{σ aq:St}{s s':Shared}{env:Env}{ns:bJ}{g:Ga}{r:En}(Ve:bz C s.heap w env ns g r)(R:Rel C s.heap w σ)(a:After C aj w σ s w' aq s'):bz C s'.heap w' env ns g r:=
 Ve.move Ve (a.aI R (hO w)) λb h ab=>⟨a.ε b h,λo e=>a.lD R b o h e⟩
structure Cx.Ok(C:Cx):Prop where
 Pb:C.K.In C.h₀
 g:C.h₀.Ns mainGlobals C.mg
 b:C.h₀.Ns builtinsNs C.mb
 nolimit:C.h₀.NoLimit
 mods:∃o,C.h₀.get? sysModules=some o
 glob:∀x v,C.T.glob.lookup x=some (.val v)->(x==("__debug__" :Str))=false/\∃u,C.mg x=some u/\∀w:Wd,(∀b o,C.h₀.get? b=some o->w.φ b)->VR C.W C.h₀ w v u
section
variable {C:Cx}{A:Around}{E:Value->Shared->Prop}{w:Wd}{σ:St}{s:Shared}{env:Env}{ns:bJ}{g:Ga}{r:En}
theorem Rel.zc{h:Heap}{a:Addr}{m:Str->Option Value}(R:Rel C h w σ)(q:C.h₀.Ns a m):h.Ns a m:=q.keeps R.keep
theorem Rel.vr{h:Heap}(R:Rel C h w σ){v:V}{u:Value}(q:∀w:Wd,(∀b o,C.h₀.get? b=some o->w.φ b)->VR C.W C.h₀ w v u):VR C.W h w v u:=
 VR.aI (h:=C.h₀) (w':=w) (w:={w with φ:=λa=>w.φ a/\(C.h₀.get? a).isSome}) ⟨aab _,λab ai=>rfl,λab h=>h.1,λa o ab e=>R.keep a o e⟩ v u
  (q {w with φ:=λa=>w.φ a/\(C.h₀.get? a).isSome} λb o e=>⟨R.base b o e,congrArg adi e⟩)
theorem bz.own(Ve:bz C s.heap w env ns g r){x:Str}{k:NameKind}(hn:ns.lookup x=some k)(hk:k≠.free):env.kindOf x=some k:=(Ve.names x k hn).elim id λh=>absurd h.1 hk
theorem Fq(Ve:bz C s.heap w env ns g r){x:Str}{i:Nat}{k:NameKind}{v:V}(hg:g.lookup x=some i)(hn:ns.lookup x=some k)(hk:k= .local\/k= .cell\/k= .free)(hd:r.getD i none=some v)
  (hc:(x==("__classdict__" :Str))=false):
  ∃u,VR C.W s.heap w v u/\∀Q:Value->Shared->Prop,Q u s->wpAny (model C.prog C.W) A (loadName env x) Q E s:=
 Ve.slots.elim λm q=>by
  obtain s:=q.2 x i k hg hn hk;simp only[hd]at s;cases k with
  |«local»=>exact(s v rfl).elim λu p=>⟨u,p.2,λQ hq=>wpAny_loadName_local Ve.kind (Ve.own hn (λh=>nomatch h)) q.1 p.1 hq⟩
  |cell=>exact b8 s λc o e ab i p=>(p v rfl).elim λu p=>⟨u,p.2,λQ hq=>wpAny_loadName_cell Ve.kind (Ve.own hn (λh=>nomatch h)) e (p.1▸i) hq⟩
  |free=>exact b8 s λc o e ab i p=>(p v rfl).elim λu p=>⟨u,p.2,λQ hq=>(Ve.names x _ hn).elim (λh=>wpAny_loadName_free Ve.kind h e (p.1▸i) hq hc) λh=>wpAny_loadName_cell Ve.kind h.2 e (p.1▸i) hq⟩
  |_=>exact s.elim
theorem C1(O:C.Ok)(R:Rel C s.heap w σ)(Ve:bz C s.heap w env ns g r){x:Str}{pos:Pos}{v:V}(hn:ns.lookup x=some .globalImplicit)(hv:C.T.glob.lookup x=some (.val v)):
  ∃u,VR C.W s.heap w v u/\∀Q:Value->Shared->Prop,Q u s->wpAny (model C.prog C.W) A (eval (.Name x pos) env) Q E s:=
 have o:=O.glob x v hv
 o.2.elim λu h=>⟨u,R.vr h.2,λQ hq=>Name_function_global Ve.kind (Ve.own hn (λh=>nomatch h)) (loadGlobal_global (env:=env) (mg:=C.mg) (Ve.globals.symm▸R.zc O.g) h.1 hq) o.1⟩
end
end Own.Internal.Mp
end
section
namespace Own.Internal.Mp
open PySem PySem.Spec PySem.Calls PyProof.Rows PySem.W Builtin Builtin.ObjectAttr
def qN(C:Cx)(k:Nat):Str:=C.T.meths.getD k (toStr [])
structure Fs(C:Cx)(c:Nat):Prop where
 get:findIn C.K (.ref (C.ca c)) "__getattribute__" =some (some (.builtin "object.__getattribute__"))
 noGetattr:findIn C.K (.ref (C.ca c)) "__getattr__" =some none
 hasDict:hasDictIn C.K (C.ca c)=true
 over:plainOver C.K (C.ca c)=true
 set:findIn C.K (.ref (C.ca c)) "__setattr__" =some (some (.builtin "object.__setattr__"))
 Sg:∀a,C.P.fX c a=true->(∃attr,findIn C.K (.ref (C.ca c)) (attrName C a)=some attr/\noGet C.K attr=true)/\takerIn C.K (C.ca c) (attrName C a)=some none
 inj:∀a b,C.P.fX c a=true->C.P.fX c b=true->attrName C a=attrName C b->a=b
 nr:∀k f,C.P.hH c k=some f->findIn C.K (.ref (C.ca c)) (qN C k)=some (some (.ref (C.fa f)))/\typeIn C.K (.ref (C.fa f))=some (.type "function")/\∀a,C.P.fX c a=true->attrName C a≠qN C k
 makes:∀f,C.P.iT[c]? =some f->makesIn C.K (C.ca c)=true/\findIn C.K (.ref (C.ca c)) "__init__" =some (some (.ref (C.fa f)))/\typeIn C.K (.ref (C.fa f))=some (.type "function")
def fg(C:Cx):Prop:=∀c,(C.P.atts.getD c [])≠[]\/c<C.P.iT.length->Fs C c
section
variable {C:Cx}{A:Around}{E:Value->Shared->Prop}{w:Wd}{σ:St}{s:Shared}
theorem wQ{v:Value}{x y:Str}(h:∃t,v= .str x t)(e:x=y):v.isStr y=true:=h.elim λab h=>h▸(beq_iff_eq.mpr e:(x==y)=true)
theorem qO{v:Value}{x y:Str}(h:∃t,v= .str x t)(e:x≠y):v.isStr y=false:=h.elim λab h=>h▸(beq_false_of_ne e:(x==y)=false)
theorem lF{e:DictEntry}{x:Str}(h:∃t,e.key= .str x t):e.refKey=false:=h.elim λab h=>congrArg (λv:Value=>match v with | .ref _=>true |_=>false) h
theorem I5{e:DictEntry}{r:List DictEntry}{n:Str}(h:e.key.isStr n=true):getL n (e::r)=some (some e.val):=by unfold getL;simp only[abH,h]
theorem Bb{e:DictEntry}{r:List DictEntry}{n:Str}(h:e.key.isStr n=false)(k:e.refKey=false):getL n (e::r)=getL n r:=by unfold getL;rw[abH,h,abx,k,adm]
theorem FR.get{c:Nat}{h:Heap}(K:Fs C c){a:Nat}{v:V}(ha:C.P.fX c a=true){fs:List (Nat×V)}:∀{es:List DictEntry},FR C c h w fs es->yV fs a=some v->
  ∃x,getL (attrName C a) es=some (some x)/\VR C.W h w v x:=by
 induction fs with
 |nil=>exactλab e=>no e
 |cons p fs ih=>
  exactλq e=>kU q λen r q hb hk hv hr=>by
   rw[q];obtain e:(if p.1=a then some p.2 else yV fs a)=some v:=e;by_cases pW:p.1=a
   ·rw[if_pos pW]at e;exact⟨_,I5 (wQ hk (congrArg _ pW)),aad e▸hv⟩
   ·rw[if_neg pW]at e;exact(Bb (qO hk λz=>pW (K.inj _ a hb ha z)) (lF hk)).symm▸ih hr e
theorem FR.noRef{c:Nat}{h:Heap}{fs:List (Nat×V)}:∀{es:List DictEntry},FR C c h w fs es->es.any (λx=>x.refKey)=false:=by
 induction fs with
 |nil=>exactλq=>congrArg (λl:List DictEntry=>l.any (λx=>x.refKey)) q
 |cons p fs ih=>
  exactλq=>kU q λen r q hb hk hv hr=>by rw[q,abx,lF hk];exact ih hr
theorem FR.none{c:Nat}{h:Heap}{n:Str}(hn:∀a,C.P.fX c a=true->attrName C a≠n){fs:List (Nat×V)}:∀{es:List DictEntry},FR C c h w fs es->getL n es=some none:=by
 induction fs with
 |nil=>exactλq=>congrArg (getL n) q
 |cons p fs ih=>
  exactλq=>kU q λen r q hb hk hv hr=>by rw[q,Bb (qO hk (hn _ hb)) (lF hk)];exact ih hr
theorem FR.put{c:Nat}{h:Heap}(K:Fs C c){TA:Int}{t':Tok}{v:V}{x:Value}(hx:VR C.W h w v x){a:Nat}(ha:C.P.fX c a=true){fs:List (Nat×V)}:∀{es:List DictEntry},FR C c h w fs es->
  FR C c h w (fb fs a v) (putL (attrName C a) TA (.str (attrName C a) t') x es):=by
 induction fs with
 |nil=>exactλq=>(show _=[]from q)▸pF _ [] rfl ha ⟨t',rfl⟩ hx rfl
 |cons p fs ih=>
  exactλq=>kU q λen r q hb hk hv hr=>by
   rw[q];show FR C c h w (if p.1=a then(p.1,v)::fs else p::fb fs a v) (if en.key.isStr (attrName C a)=true then _ else _);by_cases pW:p.1=a
   ·rw[if_pos pW,if_pos (wQ hk (congrArg _ pW))];exact pF _ r rfl hb hk hx hr
   ·rw[if_neg pW,if_neg (abB.mp (qO hk λz=>pW (K.inj _ a hb ha z)))];exact pF en _ rfl hb hk hv (ih hr)
theorem FR.length{c:Nat}{h:Heap}{fs:List (Nat×V)}:∀{es:List DictEntry},FR C c h w fs es->es.length=fs.length:=by
 induction fs with
 |nil=>exactλq=>congrArg abw q
 |cons p fs ih=>exactλq=>kU q λen r q hb hk hv hr=>(congrArg abw q).trans (congrArg (λx=>x+1) (ih hr))
theorem FR.Sg{c:Nat}{h:Heap}{a:Nat}{x:V}{fs:List (Nat×V)}:∀{es:List DictEntry},FR C c h w fs es->yV fs a=some x->C.P.fX c a=true:=by
 induction fs with
 |nil=>exactλab e=>no e
 |cons p fs ih=>
  exactλq e=>kU q λen r q hb hk hv hr=>by
   obtain e:(if p.1=a then some p.2 else yV fs a)=some x:=e;by_cases pW:p.1=a
   ·exact pW▸hb
   ·rw[if_neg pW]at e;exact ih hr e
theorem VR.handed{W:World}{h:Heap}{v:V}{x:Value}(q:VR W h w v x):handedIn x=true:=by
 have go:∀y,x=y->handedIn y=true->handedIn x=true:=λy e k=>e▸k;cases v with
 |none=>exact go _ q rfl
 |bool=>exact go _ q rfl
 |int=>exact q.elim λt e=>go _ e rfl
 |str=>exact q.2.elim λt e=>go _ e rfl
 |tup=>exact q.elim λa q=>q.elim λab q=>q.elim λab q=>go (.ref a) q.1 rfl
 |bI=>exact q.elim λa q=>q.elim λab q=>q.elim λab q=>go (.ref a) q.1 rfl
 |pG=>exact q.elim λa q=>q.elim λab q=>q.elim λab q=>go (.ref a) q.1 rfl
 |CR=>exact q.elim λa q=>q.elim λab q=>q.elim λab q=>q.elim λab q=>go (.ref a) q.1 rfl
 |loc=>exact go _ q.2 rfl
theorem wR{c a:Nat}(h:C.P.fX c a=true):C.P.atts.getD c []≠[]:=λe=>nb (congrArg (λl:List Nat=>l.contains a) e▸h:([]:List Nat).contains a=true)
theorem uO(R:Rel C s.heap w σ){l c:Nat}{fs:List (Nat×V)}(hl:l<w.n)(e:σ.f l= .ins c fs):
  ∃es n,aeD s.heap (w.β l) (instObj (C.ca c) (w.δ l)) (C.ca c) (some (dictOf es n))/\s.heap.get? (w.δ l)=some (dictOf es n)/\FR C c s.heap w fs es/\fs.length<1000:=by
 obtain this:=R.obj l (R.n▸hl);simp only[e]at this;exact dM this.2.2 λes n h2 h4 h3=>dI es.toList n ⟨this.1,rfl,rfl,h2⟩ h2 h3 h4
theorem qP(O:C.Ok)(K:fg C)(R:Rel C s.heap w σ){o v:V}{u:Value}{a:Nat}{ex:Bool}(ho:VR C.W s.heap w o u)(e:aE σ o a=some v):
  wpAny (model C.prog C.W) A (getAttr u (attrName C a) ex) (bN C aj w σ s v σ) E s:=by
 refine cQ e λl e0 e=>cQ e λp hq e=> ?_;rw[hG e0]at ho;rw[ho.2];refine b8 (uO R ho.1 (qz hq)) λes n I hd F ab=> ?_;have ha:=F.Sg e;have Kc:=K p.1 (.inl (wR ha));exact ah (F.get Kc ha e) λy h1 h2=>ah (Kc.Sg a ha).1 λattr g1 g2=>get_value (O.Pb.keeps R.keep) I Kc.get (findObj_own Kc.hasDict g1 g2 h1) h2.handed ⟨w,After.toks R,h2⟩
theorem wU(name:Str)(hs:Int)(k v:Value)(es:List DictEntry):(putL name hs k v es).length<=es.length+1:=by
 induction es with
 |nil=>exact aab _
 |cons e r ih=>
  show(if e.key.isStr name=true then _ else _:List DictEntry).length<=_;by_cases h:e.key.isStr name=true
  ·rw[if_pos h];exact aaK _
  ·rw[if_neg h];exact abm ih
theorem set_own{x c d:Addr}{es:List DictEntry}{n:Nat}{name:Str}{v:Value}{Q:Unit->Shared->Prop}(X:C.K.In s.heap)(I:aeD s.heap x (instObj c d) c (some (acH es n)))
  (hd:s.heap.get? d=some (acH es n)) (hs:findIn C.K (.ref c) "__setattr__" =some (some (.builtin "object.__setattr__"))) (hp:plainOver C.K c=true) (ht:takerIn C.K c name=some none)
  (hh:hasDictIn C.K c=true) (hr:es.any (λx=>x.refKey)=false) (hz:es.length<10000)
  (h:∀h',Heap.SameBut d s.heap h'->h'.get? d=some (acH (putL name (PyData.keyHash C.W.params name) (.str name (s.toks+1)) v es) (putN name es n))->Q () {s with heap:=h',toks:=s.toks+2}):
  wpAny (model C.prog C.W) A (setAttr (.ref x) name v) Q E s:=by
 refine ah (any_some hh) λcd hc qJ=> ?_;refine set_plain X I hs (osa_open (s:={s with toks:=s.toks+1}) X I hp ht λb=> ?_);obtain S:Heap.SameBut d s.heap (s.heap.update d (Obj.putName name (PyData.keyHash C.W.params name) (.str name (s.toks+1)) v)):=Heap.SameBut.update ..;obtain D':(s.heap.update d (Obj.putName name (PyData.keyHash C.W.params name) (.str name (s.toks+1)) v)).get? d=some (acH (putL name (PyData.keyHash C.W.params name) (.str name (s.toks+1)) v es) (putN name es n)):=by rw[<-putName_dict];exact Heap.get?_update_self _ hd (by rw[putName_dict];rfl)
 obtain noRef:aRefKeyMayBeTheName name es.toArray=false:=by simp only[aRefKeyMayBeTheName_at,List.any_toArray (p:=λx:DictEntry=>x.refKey),hr,adf]
 obtain small:(acH (putL name (PyData.keyHash C.W.params name) (.str name (s.toks+1)) v es) (putN name es n)).data.pastItsLine=none:=by refine pastItsLine_dict ?_;exact aaa (wU ..) (aaa (Nat.succ_le_of_lt hz) (aaq rfl))
 refine wpAny_bind (wpAny_pure ?_);refine wpAny_bind ?_;show wpAny _ _ (instanceDict x true) _ _ _;refine wpAny_bind (wpAny_loadPart (s:={s with toks:=s.toks+1}) I.at_ ?_);refine wpAny_bind ((looks_clsIn (M:=model C.prog C.W) X hc).here (s:={s with toks:=s.toks+1}) ?_);rw[qJ];refine wpAny_bind (wpAny_pure (wpAny_pure ?_));refine wpAny_bind (wpAny_pure (wpAny_bind ?_));refine wpAny_bind ?_;refine wpAny_bind (wpAny_askSetting (wpAny_pure (wpAny_bind (wpAny_mkText (wpAny_bind (wpAny_loadPart (s:={s with toks:=s.toks+1+1}) hd ?_))))));dsimp only;rw[noRef];refine wpAny_updatePart (s:={s with toks:=s.toks+1+1}) hd ?_;refine wpAny_bind (wpAny_lookBehind D' small ?_);exact wpAny_pure (h _ S D')
theorem wV(fs:List (Nat×V))(a:Nat)(v:V):(fb fs a v).length<=fs.length+1:=by
 induction fs with
 |nil=>exact aab _
 |cons p r ih=>
  show(if p.1=a then(p.1,v)::r else p::fb r a v).length<=_;by_cases h:p.1=a
  ·rw[if_pos h];exact aaK _
  ·rw[if_neg h];exact abm ih
def Bc(C:Cx)(own:Addr->Prop)(w:Wd)(σ:St)(s:Shared)(aq:St)(s':Shared):Prop:=∃w',After C own w σ s w' aq s'
theorem zd(O:C.Ok)(K:fg C)(R:Rel C s.heap w σ){o v:V}{u x:Value}{a:Nat}{aq:St}(ho:VR C.W s.heap w o u)(hx:VR C.W s.heap w v x)(e:bT C.P σ o a v=some aq):
  wpAny (model C.prog C.W) A (setAttr u (attrName C a) x) (λab=>Bc C aj w σ s aq) E s:=by
 refine cQ e λl e0 e=>cQ e λp hq e=> ?_;obtain hc:=(av e).1;simp only[hG e0]at ho;rw[ho.2,<-aad (av e).2];have ha:=(ao hc).1;have hlen:=of_decide_eq_true (ao hc).2;have hq:=qz hq;have Kc:=K p.1 (.inl (wR ha));have hl:=R.n▸ho.1;have iQ:=R.obj l hl;simp only[hq]at iQ;refine b8 (uO R ho.1 hq) λes n I hd F ab=>set_own (O.Pb.keeps R.keep) I hd Kc.set Kc.over (Kc.Sg a ha).2 Kc.hasDict F.noRef (F.length▸aaQ hlen (aaq rfl)) λh' hs IB=>
  ⟨w,After.upd R hl (by rw[hq];exactλz=>nomatch z) (λz=>nomatch z) hs λS=>⟨S.at_ _ _ iQ.2.1 iQ.1,iQ.2.1,jk _ _ IB (aai (wV _ a v) (aaQ (adH hlen) (aaq rfl))) ((F.put Kc hx ha).aI S)⟩⟩
end
end Own.Internal.Mp
end
section
namespace Own.Internal.Mp
open PySem PySem.Spec PySem.Calls PyProof.Rows PySem.W PySem.SeqAt
def jo(R:V->Value->Prop):List V->List Value->Prop
 |[],l=>l=[]
 |v::vs,l=>∃x xs,l=x::xs/\R v x/\jo R vs xs
def zf(h:Heap)(R:List V->List Value->Prop):V->Value->Prop
 | .int i,v=>∃t,v= .int i t
 | .str s,v=>∃t,v= .str (toStr s) t
 | .tup vs,v=>∃a items m,v= .ref a/\h.get? a=some (dD items m)/\R vs items.toList
 |ab,ai=>False
def lG(h:Heap):Nat->List V->List Value->Prop
 |0,ab,ai=>False
 |n+1,vs,xs=>jo (zf h (lG h n)) vs xs
def TK(h:Heap)(n:Nat):V->Value->Prop:=zf h (lG h n)
def ID(h:Heap)(n:Nat):List V->List Value->Prop:=jo (TK h n)
theorem jo.imp{R R':V->Value->Prop}(k:∀v x,R v x->R' v x){vs:List V}:∀{xs:List Value},jo R vs xs->jo R' vs xs:=by
 induction vs with
 |nil=>exactλe=>e
 |cons v vs ih=>exactλq=>dM q λx xs e h r=>jk x xs e (k v x h) (ih r)
theorem jo.of{W:World}{h:Heap}{w:Wd}{R:V->Value->Prop}{p:V->Bool}(k:∀v x,p v=true->VR W h w v x->R v x){vs:List V}:∀{xs:List Value},vs.all p=true->bc W h w vs xs->jo R vs xs:=by
 induction vs with
 |nil=>exactλab e=>e
 |cons v vs ih=>exactλa q=>q.CZ λx xs h r e=>jk x xs e (k v x (ao a).1 h) (ih (ao a).2 r)
theorem jo.length{R:V->Value->Prop}{vs:List V}:∀{xs:List Value},jo R vs xs->xs.length=vs.length:=by
 induction vs with
 |nil=>exactλe=>congrArg abw e
 |cons v vs ih=>exactλq=>dM q λx xs e ab r=>(congrArg abw e).trans (congrArg (λx=>x+1) (ih r))
theorem jo.at{R:V->Value->Prop}{vs:List V}:∀{xs:List Value} {i:Nat} {x:Value},jo R vs xs->xs[i]? =some x->∃v,vs[i]? =some v/\R v x:=by
 induction vs with
 |nil=>exactλ{xs i x} q e=>no (adx.symm.trans ((show xs=[]from q)▸e))
 |cons a vs ih=>
  exactλ{xs i x} q e=>dM q λz ys f h r=>by
   rw[f]at e;cases i with
   |zero=>exact⟨a,rfl,aad e▸h⟩
   |succ i=>exact(ih r (show ys[i]? =some x from e):∃v,vs[i]? =some v/\R v x)
section
variable {W:World}{h h':Heap}{w:Wd}
theorem zf.of{R:List V->List Value->Prop}{f:List V->Bool}(k:∀vs xs,f vs=true->bc W h w vs xs->R vs xs)(v:V)(x:Value)(e:V.E5 f v=true)(q:VR W h w v x):zf h R v x:=by
 cases v with
 |int i=>exact q
 |str s=>exact q.2
 |tup vs=>exact fq q λa i m e' ab o ai r=>wC a i m e' o (k vs _ e r)
 |_=>exact nb e
theorem lG.of(n:Nat):∀vs xs,wH n vs=true->bc W h w vs xs->lG h n vs xs:=by
 induction n with
 |zero=>exactλab ai e=>nb e
 |succ n ih=>exactλab ai=>jo.of (zf.of ih)
theorem TK.oZ(n:Nat)(v:V)(x:Value)(e:V.fW n v=true)(q:VR W h w v x):TK h n v x:=zf.of (lG.of n) v x e q
theorem ID.oZ(n:Nat)(vs:List V)(xs:List Value)(e:vs.all (V.fW n)=true)(q:bc W h w vs xs):ID h n vs xs:=jo.of (TK.oZ n) e q
theorem zf.el{R:List V->List Value->Prop}{M:V->Value->Prop}{v:V}{x:Value}(q:zf h R v x)(ki:∀i t,M (.int i) (.int i t))(ks:∀s t,M (.str s) (.str (toStr s) t))
  (kt:∀vs a items m,h.get? a=some (dD items m)->R vs items.toList->M (.tup vs) (.ref a)):M v x:=by
 cases v with
 |int i=>exact q.elim λt e=>e▸ki i t
 |str s=>exact q.elim λt e=>e▸ks s t
 |tup vs=>exact uG q λa i m e o r=>e▸kt vs a i m o r
 |_=>exact q.elim
theorem lG.keeps(hk:∀a items m,h.get? a=some (dD items m)->h'.get? a=some (dD items m))(n:Nat):∀vs xs,lG h n vs xs->lG h' n vs xs:=by
 induction n with
 |zero=>exactλab ai e=>e
 |succ n ih=>exactλab ai=>jo.imp λv x q=>q.el (M:=zf h' (lG h' n)) (λab t=>⟨t,rfl⟩) (λab t=>⟨t,rfl⟩) λvs a i m o r=>wC a i m rfl (hk _ _ _ o) (ih vs _ r)
theorem TK.keeps(hk:∀a items m,h.get? a=some (dD items m)->h'.get? a=some (dD items m))(n:Nat)(v:V)(x:Value)(q:TK h n v x):TK h' n v x:=
 q.el (M:=zf h' (lG h' n)) (λab t=>⟨t,rfl⟩) (λab t=>⟨t,rfl⟩) λvs a i m o r=>wC a i m rfl (hk _ _ _ o) (lG.keeps hk n vs _ r)
noncomputable def TB(o:Option Obj):Array Value:=match o with |some ⟨_,_,.seq xs _,_⟩=>xs |_=> #[]
theorem Be{i j:Array Value}{m n:Nat}(h:some (dD i m)=some (dD j n)):i=j:=congrArg TB h
theorem I6{R R':V->Value->Prop}(k:∀v u x,R v x->R' u x->v=u)(vs:List V):∀(us:List V) (xs:List Value),jo R vs xs->jo R' us xs->vs=us:=by
 induction vs with
 |nil=>
  intro us xs q r;cases us with
  |nil=>rfl
  |cons u us=>exact dM r λx ys e ab ai=>nomatch e.symm.trans (show xs=[]from q)
 |cons v vs ih=>
  intro us xs q r;cases us with
  |nil=>exact dM q λx ys e ab ai=>nomatch e.symm.trans (show xs=[]from r)
  |cons u us=>
   exact dM q λx ys e h1 h2=>dM r λx' Z6 e' h3 h4=>
    have e:=aaL (e'.symm.trans e);congr (congrArg abZ (k v u x h1 (e.1▸h3))) (ih us ys h2 (e.2▸h4))
theorem LJ{R R':List V->List Value->Prop}(k:∀vs us xs,R vs xs->R' us xs->vs=us)(v u:V)(x:Value)(q:zf h R v x)(r:zf h R' u x):v=u:=
 q.el (M:=λv x=>zf h R' u x->v=u)
  (λi t r=>r.el (M:=λu x=>x= .int i t->.int i=u) (λab ai e=>congrArg V.int (Value.int.inj e).1.symm) (λab ai e=>nomatch e) (λab ai aD bO fc ny e=>nomatch e) rfl)
  (λs t r=>r.el (M:=λu x=>x= .str (toStr s) t->.str s=u) (λab ai e=>nomatch e) (λab ai e=>congrArg V.str (nA (Value.str.inj e).1).symm) (λab ai aD bO fc ny e=>nomatch e) rfl)
  (λvs a i m o q r=>r.el (M:=λu x=>x= .ref a->.tup vs=u) (λab ai e=>nomatch e) (λab ai e=>nomatch e)
   (λus b j m' o' r e=>congrArg V.tup (k vs us _ q (Be (o'.symm.trans ((congrArg h.get? (Value.ref.inj e)).trans o))▸r))) rfl) r
theorem LK(n:Nat):∀(k:Nat) (vs us:List V) (xs:List Value),lG h n vs xs->lG h k us xs->vs=us:=by
 induction n with
 |zero=>exactλab ai aD bO e=>e.elim
 |succ n ih=>
  intro k;cases k with
  |zero=>exactλab ai aD bO e=>e.elim
  |succ k=>exactλvs us xs=>I6 (LJ (ih k)) vs us xs
theorem Bf(n k:Nat){v u:V}{x:Value}(q:TK h n v x)(r:TK h k u x):v=u:=LJ (LK n k) v u x q r
end
theorem bQ{h:Heap}{a:Addr}{items:Array Value}{m:Nat}(ho:h.get? a=some (dD items m)):h.IsTuple a items:=⟨_,ho,rfl,m,rfl⟩
theorem wW{vs:List V}:∀{us:List V},vs.length≠us.length->decide (vs=us)=false:=λh=>decide_eq_false λe=>h (congrArg _ e)
theorem all_range(vs us:List V)(hl:vs.length=us.length):(aba vs.length).all (λj=>decide (vs[j]? =us[j]?))=decide (vs=us):=by
 by_cases h:vs=us
 ·rw[decide_eq_true h,aas]
  exactλj ab=>decide_eq_true (h▸rfl)
 ·rw[decide_eq_false h];cases q:(aba vs.length).all λj=>decide (vs[j]? =us[j]?)with
  |false=>rfl
  |true=>
   refine absurd (List.ext_getElem? λj=> ?_) h;by_cases hj:j<vs.length
   ·exact of_decide_eq_true (aas.mp q j (acd.mpr hj))
   ·simp only[ace (ach hj),ace (hl▸ach hj)]
theorem k9(vs us:List V):((aba (min vs.length us.length)).all (λj=>decide (vs[j]? =us[j]?)) &&vs.length==us.length)=decide (vs=us):=by
 by_cases hl:vs.length=us.length
 ·simp only[<-hl,Nat.min_self,all_range vs us hl,beq_self_eq_true,aeU]
 ·simp only[beq_false_of_ne hl,adf,wW hl]
theorem mh{α β:Type}[DecidableEq α][DecidableEq β]{f:α->β}(h:∀x y,f x=f y->x=y)(x y:α):decide (f x=f y)=decide (x=y):=by
 by_cases e:x=y
 ·rw[decide_eq_true e,e,decide_eq_true rfl]
 ·simp only[decide_eq_false e,decide_eq_false λq=>e (h _ _ q)]
theorem Ft{s:Shared}{R R':List V->List Value->Prop}{r r':V->Value->Prop}{n:Nat}(ih:∀{A:Around} (v u:V) (x y:Value),A.units+n<cLine->r v x->r' u y->EqAt A s x y (decide (v=u)))
  (hR:∀vs xs,R vs xs->jo r vs xs) (XD:∀vs xs,R' vs xs->jo r' vs xs) (inj:∀vs us xs,R vs xs->R' us xs->vs=us)
  {A:Around} (hu:A.units+(n+1)<cLine) {vs us:List V} {a a':Addr} {items dE:Array Value} {m m':Nat} (ho:s.heap.get? a=some (dD items m)) (hq:R vs items.toList) (mj:s.heap.get? a'=some (dD dE m')) (hr:R' us dE.toList):
  EqAt A s (.ref a) (.ref a') (decide (V.tup vs=V.tup us)):=by
 rw[mh (f:=V.tup) λx y h=>V.tup.inj h];by_cases pW:a=a'
 ·simp only[decide_eq_true (inj vs us _ hq (Be (mj.symm.trans ((congrArg s.heap.get? pW).symm.trans ho))▸hr)),pW];exact EqAt.same _
 ·refine EqAt.of_refs pW ?_;have q:=hR vs _ hq;obtain q':=XD us _ hr;obtain big:=RcAt.tuples (A:=A) (s:=s) (e:=λj=>decide (vs[j]? =us[j]?)) (bQ ho) (bQ mj) (aai (aao _ _) hu) (λj h1 h2=>by
   refine ah (q.at ((abu ..).trans (acj h1))) λp hp tp=>ah (q'.at ((abu ..).trans (acj h2))) λp' Qf Qg=> ?_;simp only[hp,Qf,mh (f:=some) λx y h=>aad h];exact ih p p' _ _ (by rw[abf n 1,<-abc]at hu;exact hu) tp Qg)
  simp only[show items.size=vs.length from q.length,show dE.size=us.length from q'.length,k9]at big;exact big
theorem Fu{s:Shared}{R R':List V->List Value->Prop}{A:Around}(hu:A.units<cLine)
  (k:∀{vs us:List V} {a a':Addr} {items dE:Array Value} {m m':Nat},s.heap.get? a=some (dD items m)->R vs items.toList->s.heap.get? a'=some (dD dE m')->R' us dE.toList->EqAt A s (.ref a) (.ref a') (decide (V.tup vs=V.tup us)))
  (v u:V) (x y:Value) (q:zf s.heap R v x) (r:zf s.heap R' u y):EqAt A s x y (decide (v=u)):=by
 have ne:∀{v u:V} {x y:Value},v≠u->EqAt A s x y false->EqAt A s x y (decide (v=u)):=λh k=>(decide_eq_false h).symm▸k;refine q.el (M:=λv x=>EqAt A s x y (decide (v=u))) (λi t=> ?_) (λz t=> ?_) λvs a items m ho hq=> ?_
 ·refine r.el (M:=λu y=>EqAt A s (.int i t) y (decide (.int i=u))) (λj t'=> ?_) (λab ai=>ne (λh=>nomatch h) (EqAt.int_str _ _ _ _)) λus a' dE m' mj hr=>ne (λh=>nomatch h) (EqAt.int_tuple _ _ (bQ mj) hu);rw[mh (f:=V.int) λx y h=>V.int.inj h];exact EqAt.int_int i t j t'
 ·refine r.el (M:=λu y=>EqAt A s (.str (toStr z) t) y (decide (.str z=u))) (λj t'=>ne (λh=>nomatch h) (EqAt.str_int _ _ _ _)) (λz' t'=> ?_) λus a' dE m' mj hr=>ne (λh=>nomatch h) (EqAt.str_tuple _ _ (bQ mj) hu);rw[mh (f:=V.str) λx y h=>V.str.inj h,<-mh (f:=toStr) λx y h=>nA h];exact EqAt.str_str (A:=A) (s:=s) (toStr z) t (toStr z') t'
 ·exact r.el (M:=λu y=>EqAt A s (.ref a) y (decide (.tup vs=u))) (λj t'=>ne (λh=>nomatch h) (EqAt.tuple_int _ _ (bQ ho) hu)) (λz' t'=>ne (λh=>nomatch h) (EqAt.tuple_str _ _ (bQ ho) hu)) λus a' dE m' mj hr=>k ho hq mj hr
theorem MY{s:Shared}(n:Nat):∀(k:Nat) {A:Around} (v u:V) (x y:Value),A.units+n<cLine->TK s.heap n v x->TK s.heap k u y->EqAt A s x y (decide (v=u)):=by
 induction n with
 |zero=>exactλk A v u x y hu=>Fu hu (λab e=>e.elim) v u x y
 |succ n ih=>
  intro k A v u x y hu;refine Fu (aai (aao _ _) hu) ?_ v u x y;cases k with
  |zero=>exactλab ai aD e=>e.elim
  |succ k=>exactλho hq mj hr=>Ft (R:=lG s.heap (n+1)) (R':=lG s.heap (k+1)) (ih k) (λab ai h=>h) (λab ai h=>h) (LK (n+1) (k+1)) hu ho hq mj hr
theorem qQ{s:Shared}(n k:Nat){v u:V}{x y:Value}{A:Around}(hu:A.units+n<cLine)(q:TK s.heap n v x)(r:TK s.heap k u y):EqAt A s x y (decide (v=u)):=MY n k v u x y hu q r
mutual
noncomputable def jP:V->Nat
 | .tup vs=>ko vs+1
 |_=>1
noncomputable def ko:List V->Nat
 |[]=>0
 |v::vs=>jP v+ko vs
end
def HL(W:World)(s:Shared)(n:Nat)(vs:List V)(rest:List Value)(b:Array Int)(s':Shared):Prop:=
 ∃left t,ID s.heap n left rest/\b.toList++bE W left=bE W vs/\s'={s with toks:=t}/\t+ko left=s.toks+ko vs
theorem Fv{prog:Program}{W:World}{n':Nat}(ih:∀{v:V} {x:Value} {A:Around} {E:Value->Shared->Prop} {s:Shared} {Q:Int->Shared->Prop},A.units+2*n'<cLine->TK s.heap n' v x->Q (keyHash W v) {s with toks:=s.toks+jP v}->wpAny (model prog W) A (pyHash x) Q E s)
  {vs:List V} {a:Addr} {items:Array Value} {m:Nat} {A:Around} {E:Value->Shared->Prop} {s:Shared} {Q:Int->Shared->Prop} (hu:A.units+2*(n'+1)<cLine) (ho:s.heap.get? a=some (dD items m)) (hq:ID s.heap n' vs items.toList) (h:Q (keyHash W (.tup vs)) {s with toks:=s.toks+jP (.tup vs)}):
  wpAny (model prog W) A (pyHash (.ref a)) Q E s:=by
 obtain hT:s.TypeIs (.ref a) "tuple" :=⟨_,ho,rfl⟩;obtain XE:A.units+1+2*n'<cLine:=aai (by simp only[abc,abf 1];exact aav (aav (by decide) _) _) hu;unfold pyHash pyHashByItsType;refine wpAny_bind (wpAny_cRoomFor_or (.inr (aai (aao ..) hu)) (wpAny_bind (wpAny_specialOf hT acp.lookup ?_)));refine wpAny_bind (wpAny_specialOf hT acp.lookup (wpAny_bind (wpAny_callSpecialIfBoundUnlessNone?_slot hT acp (wpAny_call_entry acp hT PySem.F.entry_tuple_hash ?_ (PySem.F.args_tuple_hash_1 _)))));show wpAny _ _ (Builtin.Tuple.tupleItemsOf (.ref a)>>=_) _ _ s;refine wpAny_bind ?_;refine wpAny_bind (wpAny_seqItems ho rfl (wpAny_pure (wpAny_bind ?_)));rw[<-aep];refine wpAny_forIn_list _ (HL W s n' vs) _ (λx rest b s' z=> ?_) (λb s' z=> ?_) _ _ (dI vs s.toks hq rfl rfl rfl)
 ·refine b8 z λleft t hl hb es ht=> ?_;cases left with
  |nil=>exact nomatch(show x::rest=[]from hl)
  |cons k ks=>
   refine dM hl λx' XF e h1 h2=> ?_;obtain next:HL W s n' vs rest (b.push (keyHash W k)) {s with toks:=t+jP k}:=dI ks _ ((aaL e).2▸h2) (by rw[adt,aaJ];exact hb) rfl ((abc ..).trans ht);rw[es];refine wpAny_bind (ih (A:=A.in1) (s:={s with toks:=t}) XE ((aaL e).1▸h1) ?_)
   first
    |exact wpAny_pure next
    |exact wpAny_bind (wpAny_pure (wpAny_pure next))
 ·refine b8 z λleft t hl hb es ht=> ?_;cases left with
  |cons ab ai=>exact dM hl λab ai e aD bO=>nomatch e
  |nil=>
   show wpAny _ _ (retInt (Builtin.Tuple.tupleHashOf b.toList)) _ _ _;rw[es,show b.toList=bE W vs from(aaV _).symm.trans hb,show t=s.toks+ko vs from ht];refine wpAny_ret_mkInt ?_;obtain h:Q (if(decide (-(2:Int)^63<=Builtin.Tuple.tupleHashOf (bE W vs)) &&decide (Builtin.Tuple.tupleHashOf (bE W vs)<2^63))=true then _ else _) {s with toks:=s.toks+ko vs+1}:=h;show wpAny _ _ (if(decide (-(2:Int)^63<=Builtin.Tuple.tupleHashOf (bE W vs)) &&decide (Builtin.Tuple.tupleHashOf (bE W vs)<2^63))=true then _ else _) Q E _;by_cases c:(decide (-(2:Int)^63<=Builtin.Tuple.tupleHashOf (bE W vs)) &&decide (Builtin.Tuple.tupleHashOf (bE W vs)<2^63))=true
   ·rw[if_pos c]at h⊢;exact wpAny_pure h
   ·rw[if_neg c]at h⊢;exact wpAny_bind (wpAny_rule (wpAny_pure h))
theorem Fx{prog:Program}{W:World}(n:Nat):∀{v:V} {x:Value} {A:Around} {E:Value->Shared->Prop} {s:Shared} {Q:Int->Shared->Prop},A.units+2*n<cLine->TK s.heap n v x->
  Q (keyHash W v) {s with toks:=s.toks+jP v}->wpAny (model prog W) A (pyHash x) Q E s:=by
 induction n with
 |zero=>exactλ{v x A E s Q} hu q=>q.el (M:=λv x=>Q (keyHash W v) {s with toks:=s.toks+jP v}->wpAny (model prog W) A (pyHash x) Q E s) (λab ai h=>wpAny_pyHash_int h) (λab ai h=>wpAny_pyHash_str h) λab ai aD bO fc e=>e.elim
 |succ n ih=>
  exactλ{v x A E s Q} hu q=>q.el (M:=λv x=>Q (keyHash W v) {s with toks:=s.toks+jP v}->wpAny (model prog W) A (pyHash x) Q E s) (λab ai h=>wpAny_pyHash_int h) (λab ai h=>wpAny_pyHash_str h) λab ai aD bO ho hq h=>Fv ih hu ho hq h
theorem C2{prog:Program}{W:World}{E:Value->Shared->Prop}{s:Shared}{n' d':Nat}(ih:∀{v:V} {x:Value} {A:Around} {Q:Bool->Shared->Prop},TK s.heap n' v x->Q true s->wpAny (model prog W) A (eqIsQuiet d' x) Q E s)
  {vs:List V} {a:Addr} {items:Array Value} {m:Nat} {A:Around} {Q:Bool->Shared->Prop} (ho:s.heap.get? a=some (dD items m)) (hq:ID s.heap n' vs items.toList) (h:Q true s):wpAny (model prog W) A (eqIsQuiet (d'+1) (.ref a)) Q E s:=by
 have hT:s.TypeIs (.ref a) "tuple" :=⟨_,ho,rfl⟩;rw[eqIsQuiet];refine wpAny_bind (wpAny_specialOf hT PySem.F.slot_tuple_eq.lookup ?_);refine wpAny_bind (wpAny_isInstance hT isSubtype_tuple_tuple ?_);simp only[adU,aca,if_false];refine wpAny_bind (wpAny_seqItems ho rfl ?_);refine wpAny_bind ?_;rw[<-aep];refine wpAny_forIn_list _ (λrest r s'=>r.1=none/\s'=s/\∃left,ID s.heap n' left rest) _ ?_ ?_ _ _ ⟨rfl,rfl,vs,hq⟩
 ·rintro x rest r s' ⟨hr,rfl,left,hl⟩
  cases left with
  |nil=>cases hl
  |cons k ks=>refine dM hl λx' XF e h1 h2=> ?_;cases e;refine wpAny_bind (ih h1 ?_);simp only[adU,aca,if_false];exact wpAny_pure ⟨rfl,rfl,ks,h2⟩
 ·rintro ⟨r1,r2⟩ s' ⟨hr,rfl,_⟩
  simp only at hr;subst hr;exact wpAny_pure h
theorem C3{prog:Program}{W:World}{E:Value->Shared->Prop}{s:Shared}(n:Nat):∀(d:Nat) {v:V} {x:Value} {A:Around} {Q:Bool->Shared->Prop},n<=d->TK s.heap n v x->Q true s->wpAny (model prog W) A (eqIsQuiet d x) Q E s:=by
 have flat:∀(d:Nat) (x:Value) {A:Around} {Q:Bool->Shared->Prop},Q true s->carriedByValue x=true->wpAny (model prog W) A (eqIsQuiet d x) Q E s:=λd x {A Q} h e=>by rw[eqIsQuiet_byValue _ e];exact wpAny_pure h
 induction n with
 |zero=>exactλd {v x A Q} dJ q h=>q.el (M:=λv x=>wpAny (model prog W) A (eqIsQuiet d x) Q E s) (λab ai=>flat d _ h rfl) (λab ai=>flat d _ h rfl) λab ai aD bO fc e=>e.elim
 |succ n ih=>
  intro d v x A Q hd q h;cases d with
  |zero=>exact absurd hd (aeq n)
  |succ d=>exact q.el (M:=λv x=>wpAny (model prog W) A (eqIsQuiet (d+1) x) Q E s) (λab ai=>flat _ _ h rfl) (λab ai=>flat _ _ h rfl) λab ai aD bO ho hq=>C2 (λq h=>ih d (acv hd) q h) ho hq h
def tupK(prog:Program)(W:World):HeapKind prog W V where
 is:=λh k a=>TK h 8 k (.ref a)
 hash:=keyHash W
 draws:=jP
 room:=λA=>A.units+20<cLine
 inj:=λhx hy=>Bf 8 8 hx hy
 keeps:=λ{h h' k a d o es ep} x ho hd hs=>TK.keeps (λb items m e=>by
  refine(hs.2 b ?_).trans e
  rintro rfl
  rw[ho]at e;cases e;cases hd) 8 _ _ x
 pyHash:=λhu x h=>Fx 8 (by lia) x h
 eqBool:=λ{A E s x y a b Q} hu hx hy h=>qQ 8 8 (by lia) hx hy _ _ _ _ h
 quiet:=λx h=>C3 8 8 (aab _) x h
theorem C4{f g:List V->Bool}(k:∀vs,f vs=true->g vs=true)(v:V)(h:V.E5 f v=true):V.E5 g v=true:=by
 cases v with
 |int=>rfl
 |str=>rfl
 |tup vs=>exact k vs h
 |_=>exact nb h
theorem zg(n:Nat):∀(k:Nat),n<=k->∀vs,wH n vs=true->wH k vs=true:=by
 induction n with
 |zero=>exactλab ai aD h=>nb h
 |succ n ih=>
  intro k hk vs h;cases k with
  |zero=>exact absurd hk (aeq n)
  |succ k=>exact aas.mpr λv hv=>C4 (ih k (acv hk)) v (aas.mp h v hv)
theorem tI{v:V}(h:v.isTup=true):V.fW 8 v=true:=by
 cases v with
 |tup vs=>exact zg 7 8 (by decide) vs h
 |_=>exact nb h
def hZ(W:World)(h:Heap)(w:Wd)(a:Addr)(ks vs:List V):Prop:=∃es n,h.get? a=some (nF es n)/\DR W h w ks vs es.toList
theorem isInt_at(i:Int)(t:Tok):Value.isInt i (.int i t)=true:=beq_self_eq_true i
theorem zh(i:Str)(t:Tok):Value.isStrOf i (.str i t)=true:=beq_self_eq_true i
theorem C5{α β:Type}{f:α->β}(hf:∀a b,f a=f b->a=b){l:List α}:(l.map f).Nodup↔l.Nodup:=by unfold List.Nodup;rw[abR];exact⟨λh=>h.imp λq e=>q (congrArg f e),λh=>h.imp λq e=>q (hf _ _ e)⟩
theorem tJ{α β γ:Type}{f:α->β}(hf:∀a b,f a=f b->a=b){l:List (α×γ)}:(l.map λq=>f q.1).Nodup↔(l.map (λx=>x.1)).Nodup:=by simp only[show(l.map λq=>f q.1)=(l.map (λx=>x.1)).map f from aay.symm];exact C5 hf
structure KV(prog:Program)(W:World){K:Type}[DecidableEq K](knd:KeyKind prog W K)(κ:K->V)(p:V->Bool)(ok:K->Prop):Prop where
 to:∀{h:Heap} {w:Wd} {v:V} {x:Value},p v=true->VR W h w v x->∃k,κ k=v/\knd.is k x=true/\ok k
 of:∀{h:Heap} {w:Wd} {k:K} {x:Value},ok k->knd.is k x=true->VR W h w (κ k) x
 ok:∀{h:Heap} {w:Wd} {k:K} {x:Value},VR W h w (κ k) x->ok k
 hash:∀k,keyHash W (κ k)=knd.hash k
 inj:∀a b,κ a=κ b->a=b
noncomputable abbrev sV(x:Str):V:= .str x.cps.toList
theorem MZ(a b:Str)(e:sV a=sV b):a=b:=congrArg (λl:List Nat=>(⟨l.toArray⟩:Str)) (V.str.inj e)
theorem Pc(prog:Program)(W:World):KV prog W (intKind prog W) V.int V.isInt (λab=>True) where
 to:=λ{_ _ v x} e q=>by
  cases v with
  |int i=>exact q.elim λt q=>⟨i,rfl,q▸isInt_at i t,trivial⟩
  |_=>exact nb e
 of:=λab q=>Value.isInt_shape q
 ok:=λab=>trivial
 hash:=λab=>rfl
 inj:=λab ai=>V.int.inj
theorem TC(prog:Program)(W:World):KV prog W (PySem.strKind prog W) sV V.isStr (λk=>k.cps.toList.length<big) where
 to:=λ{_ _ v x} e q=>by
  cases v with
  |str i=>exact q.2.elim λt k=>⟨toStr i,rfl,k▸zh (toStr i) t,q.1⟩
  |_=>exact nb e
 of:=λo q=>⟨o,Value.isStrOf_shape q⟩
 ok:=λq=>q.1
 hash:=λab=>rfl
 inj:=MZ
section
variable {prog:Program}{W:World}{h:Heap}{w:Wd}{K:Type}[DecidableEq K]{knd:KeyKind prog W K}{κ:K->V}{p:V->Bool}{ok:K->Prop}
theorem tK(H:KV prog W knd κ p ok){a:Addr}{ks vs:List V}(d:hZ W h w a ks vs)(hk:ks.all p=true):
  ∃bK:List (K×Value),h.DictOf knd a bK/\bK.map (λq=>κ q.1)=ks/\bc W h w vs (bK.map (λx=>x.2))/\∀q∈bK,ok q.1:=by
 obtain go:∀(l:List DictEntry) (ks:List V),ks.all p=true->bc W h w ks (l.map (λx=>x.key))->l.map (λx=>x.hash)=bE W ks->
   ∃bK:List (K×Value),Pairs knd l bK/\(∀e∈l,∃k,knd.is k e.key=true/\e.hash=knd.hash k)/\bK.map (λq=>κ q.1)=ks/\bK.map (λx=>x.2)=l.map (λx=>x.val)/\∀q∈bK,ok q.1:=λl=>by
  induction l with
  |nil=>
   intro ks dJ q dJ;cases ks with
   |nil=>exact EX [] .nil (aar _) rfl rfl λab h=>nomatch h
   |cons ab ai=>exact q.CZ λab ai aD bO e=>nomatch e
  |cons e l ih=>
   intro ks hk q hh;cases ks with
   |nil=>exact nomatch(show(e::l).map (λx=>x.key)=[]from q)
   |cons v ks=>obtain u:=q.un;have f:=aaL (show e.hash::l.map (λx=>x.hash)=keyHash W v::bE W ks from hh);refine dw (H.to (ao hk).1 u.1) λk ek hi ho=>jH (ih ks (ao hk).2 u.2 f.2) λbK p1 p2 p3 p4 p5=> ?_;exact EX ((k,e.val)::bK) (.cons hi rfl p1) (aaX.mpr ⟨⟨k,hi,f.1.trans (ek▸H.hash k)⟩,p2⟩) (congr (congrArg abZ ek) p3) (congrArg _ p4) (aaX.mpr ⟨ho,p5⟩)
 refine eO d λes n ho q=>jH (go es.toList ks hk q.1 q.2.2.1) λbK p1 p2 p3 p4 p5=> ?_;refine wy bK ⟨_,es,n,ho,⟨rfl,rfl,rfl⟩,rfl,λe he=>p2 e (adj.mpr he),p1,?_⟩ p3 (p4▸q.2.1) p5;exact(tJ H.inj).mp (p3▸q.2.2.2)
theorem M0{a:Addr}{ks vs:List V}(d:hZ W h w a ks vs)(hk:ks.all V.isTup=true):
  ∃xs:List (V×Addr×Value),h.DictOfH (tupK prog W) a xs/\xs.map (λx=>x.1)=ks/\bc W h w ks (xs.map λx=> .ref x.2.1)/\bc W h w vs (xs.map (λx=>x.2.2)):=by
 obtain go:∀(l:List DictEntry) (ks:List V),ks.all V.isTup=true->bc W h w ks (l.map (λx=>x.key))->l.map (λx=>x.hash)=bE W ks->
   ∃xs:List (V×Addr×Value),l=xs.map (entryOfKey (tupK prog W))/\(∀x∈xs,(tupK prog W).is h x.1 x.2.1)/\xs.map (λx=>x.1)=ks:=λl=>by
  induction l with
  |nil=>
   intro ks dJ q dJ;cases ks with
   |nil=>exact iD [] rfl (aar _) rfl
   |cons ab ai=>exact q.CZ λab ai aD bO e=>nomatch e
  |cons e l ih=>
   intro ks hk q hh;cases ks with
   |nil=>exact nomatch(show(e::l).map (λx=>x.key)=[]from q)
   |cons v ks=>
    obtain u:=q.un;have f:=aaL (show e.hash::l.map (λx=>x.hash)=keyHash W v::bE W ks from hh);refine dw (ih ks (ao hk).2 u.2 f.2) λxs p1 p2 p3=> ?_;obtain hb:∃b,e.key= .ref b:=by
     obtain q:=u.1;obtain k:=(ao hk).1;cases v with
     |tup=>exact q.elim λb q=>q.elim λab q=>q.elim λab q=>⟨b,q.1⟩
     |_=>exact nb k
    refine hb.elim λb hb=>iD ((v,b,e.val)::xs) ?_ (aaX.mpr ⟨(show TK h 8 v (.ref b)from hb▸TK.oZ 8 v _ (tI (ao hk).1) u.1),p2⟩) (congrArg _ p3);exact congr (congrArg abZ (show(⟨e.hash,e.key,e.val⟩:DictEntry)=⟨keyHash W v,.ref b,e.val⟩ by rw[f.1,hb])) p1
 refine eO d λes n ho q=>dw (go es.toList ks hk q.1 q.2.2.1) λxs p1 p2 p3=> ?_;have e1:=(congrArg (aeG (λx=>x.key)) p1).trans aay;have e2:=(congrArg (aeG (λx=>x.val)) p1).trans aay;exact wy xs ⟨_,es,n,ho,⟨rfl,rfl,rfl⟩,rfl,p1,p2,p3▸q.2.2.2⟩ p3 (e1▸q.1) (e2▸q.2.1)
theorem tL{o:Obj}{es:Array DictEntry}{n:Nat}(hc:o.ExactDict)(hd:o.data= .dict es n):o=nF es n:=by obtain⟨c,d,dt,sl⟩:=o;obtain⟨rfl,rfl,rfl⟩:=hc;cases hd;rfl
theorem Pairs.TF{l:List DictEntry}{bK:List (K×Value)}(q:Pairs knd l bK):bK.map (λx=>x.2)=l.map (λx=>x.val):=by
 induction q with
 |nil=>rfl
 |cons ab h2 ai ih=>exact congr (congrArg abZ h2.symm) ih
theorem Bh(H:KV prog W knd κ p ok){a:Addr}{vs:List V}{bK:List (K×Value)}(d:h.DictOf knd a bK)(hv:bc W h w vs (bK.map (λx=>x.2)))(hb:∀q∈bK,ok q.1):hZ W h w a (bK.map λq=>κ q.1) vs:=by
 obtain go:∀(l:List DictEntry) (bK:List (K×Value)),Pairs knd l bK->(∀e∈l,∃k,knd.is k e.key=true/\e.hash=knd.hash k)->(∀q∈bK,ok q.1)->
   bc W h w (bK.map λq=>κ q.1) (l.map (λx=>x.key))/\l.map (λx=>x.hash)=bE W (bK.map λq=>κ q.1):=λl bK hp=>by
  induction hp with
  |nil=>exactλab ai=>⟨rfl,rfl⟩
  | @cons e kv l bK h1 h2 ab ih=>intro hk hb;obtain i:=ih (λe' XG=>hk e' (aaf _ XG)) λp hp=>hb p (aaf _ hp);exact ah (hk e aac) λk k1 k2=>⟨.cons (H.of (hb kv aac) h1) i.1,congr (congrArg abZ (k2.trans (knd.inj _ _ _ h1 k1▸(H.hash _).symm))) i.2⟩
 refine fq d λo es n ho hc hd hk q=> ?_;have g:=go _ _ q.1 (λe he=>hk e (adj.mp he)) hb;refine⟨es,n,ho.trans (congrArg some (tL hc hd)),g.1,Pairs.TF q.1▸hv,g.2,(tJ H.inj).mpr q.2⟩
theorem M1{a:Addr}{vs:List V}{xs:List (V×Addr×Value)}(d:h.DictOfH (tupK prog W) a xs)(hk:bc W h w (xs.map (λx=>x.1)) (xs.map λx=> .ref x.2.1))(hv:bc W h w vs (xs.map (λx=>x.2.2))):hZ W h w a (xs.map (λx=>x.1)) vs:=
 fq d λo es n ho hc hd he q=>⟨es,n,ho.trans (congrArg some (tL hc hd)),he▸(aay (f:=entryOfKey (tupK prog W)) (g:=λe:DictEntry=>e.key)).symm▸hk,he▸(aay (f:=entryOfKey (tupK prog W)) (g:=λe:DictEntry=>e.val)).symm▸hv,by simp only[he,sY,aay,aay];rfl,q.2⟩
theorem Bj(M3:∀a b,κ a=κ b->a=b){k:K}{bK:List (K×Value)}:∀{vs:List V},bc W h w vs (bK.map (λx=>x.2))->
  (∀v,bx (bK.map λp=>κ p.1) vs (κ k)=some v->∃x,valueAt bK k=some x/\VR W h w v x)/\(bx (bK.map λp=>κ p.1) vs (κ k)=none->valueAt bK k=none):=by
 induction bK with
 |nil=>exactλab=>⟨λab e=>no e,λab=>rfl⟩
 |cons q bK ih=>
  intro vs hv;cases vs with
  |nil=>exact nomatch(show(q::bK).map (λx=>x.2)=[]from hv)
  |cons v vs=>
   have u:=hv.un;show(∀v',(if V.beq (κ q.1) (κ k)=true then some v else bx (bK.map λp=>κ p.1) vs (κ k))=some v'->_)/\((if V.beq (κ q.1) (κ k)=true then some v else bx (bK.map λp=>κ p.1) vs (κ k))=none->_);unfold valueAt;rw[abH];by_cases e:q.1=k
   ·rw[if_pos (e▸fP _),decide_eq_true e];exact⟨λv' e'=>⟨_,rfl,aad e'▸u.1⟩,λe=>no e.symm⟩
   ·rw[if_neg (λz=>e (M3 _ _ (beq_eq _ _ z))),decide_eq_false e];exact ih u.2
theorem tM{j:K}{y x:Value}{bK:List (K×Value)}(hn:j∉bK.map (λx=>x.1)):stored ((j,y)::bK) j x=(j,x)::bK:=by unfold stored;rw[if_pos (by simp only[abx,decide_eq_true rfl];rfl),aaH,if_pos rfl];refine congrArg _ ((ack λq hq=> ?_).trans (adC bK));exact if_neg λe:q.1=j=>hn (e▸aan hq)
theorem tN{j k:K}{y x:Value}{bK:List (K×Value)}(e:j≠k):stored ((j,y)::bK) k x=(j,y)::stored bK k x:=by
 unfold stored;simp only[abx,decide_eq_false e,adm];split
 ·rw[aaH,if_neg e]
 ·rfl
theorem Fz(M3:∀a b,κ a=κ b->a=b){k:K}{v:V}{x:Value}(hx:VR W h w v x){bK:List (K×Value)}:∀{vs:List V},(bK.map (λx=>x.1)).Nodup->bc W h w vs (bK.map (λx=>x.2))->
  (putK (bK.map λp=>κ p.1) vs (κ k) v).1=(stored bK k x).map (λp=>κ p.1)/\bc W h w (putK (bK.map λp=>κ p.1) vs (κ k) v).2 ((stored bK k x).map (λx=>x.2)):=by
 induction bK with
 |nil=>exactλab ai=>⟨rfl,.cons hx .nil⟩
 |cons q bK ih=>
  intro vs hn hv;cases vs with
  |nil=>exact nomatch(show(q::bK).map (λx=>x.2)=[]from hv)
  |cons u vs=>
   obtain t:=hv.un;obtain hn:=aaM.mp hn;show(if V.beq (κ q.1) (κ k)=true then(κ q.1::bK.map λp=>κ p.1,v::vs)else(κ q.1::(putK (bK.map λp=>κ p.1) vs (κ k) v).1,u::(putK (bK.map λp=>κ p.1) vs (κ k) v).2)).1=_/\
    bc W h w (if V.beq (κ q.1) (κ k)=true then(κ q.1::bK.map λp=>κ p.1,v::vs)else(κ q.1::(putK (bK.map λp=>κ p.1) vs (κ k) v).1,u::(putK (bK.map λp=>κ p.1) vs (κ k) v).2)).2 _
   by_cases e:q.1=k
   ·rw[if_pos (e▸fP _),show stored (q::bK) k x=(q.1,x)::bK from e▸tM hn.1];exact⟨rfl,.cons hx t.2⟩
   ·rw[if_neg (λz=>e (M3 _ _ (beq_eq _ _ z))),show stored (q::bK) k x=q::stored bK k x from tN e];exact⟨congrArg _ (ih hn.2 t.2).1,.cons t.1 (ih hn.2 t.2).2⟩
theorem jQ{ks:List V}:∀{vs:List V},ks.length=vs.length->∀k v:V,(putK ks vs k v).1.length<=ks.length+1/\(putK ks vs k v).1.length=(putK ks vs k v).2.length:=by
 induction ks with
 |nil=>intro vs hl k v;exact⟨aab _,rfl⟩
 |cons a ks ih=>
  intro vs hl k v;cases vs with
  |nil=>exact nomatch hl
  |cons b vs=>
   obtain i:=ih (acm hl) k v;show(if V.beq a k=true then(a::ks,v::vs)else(a::(putK ks vs k v).1,b::(putK ks vs k v).2)).1.length<=_/\(if V.beq a k=true then(a::ks,v::vs)else(a::(putK ks vs k v).1,b::(putK ks vs k v).2)).1.length=(if V.beq a k=true then(a::ks,v::vs)else(a::(putK ks vs k v).1,b::(putK ks vs k v).2)).2.length;by_cases e:V.beq a k=true
   ·rw[if_pos e];exact⟨aaK _,hl⟩
   ·rw[if_neg e];exact⟨abm i.1,congrArg (λx=>x+1) i.2⟩
end
noncomputable def qR:Iz->CmpOp
 | .eq=> .Eq | .ne=> .NotEq | .lt=> .Lt | .le=> .LtE | .gt=> .Gt | .ge=> .GtE | .isin=> .In | .jJ=> .NotIn
noncomputable def binOp:wD->Operator
 | .add=> .Add | .sub=> .Sub | .mul=> .Mult | .mod=> .Mod | .fdiv=> .FloorDiv
section
variable {C:Cx}{A:Around}{E:Value->Shared->Prop}{w:Wd}{σ:St}{s:Shared}
theorem aX{v:V}{u:Value}{tk:Tok}(R:Rel C s.heap w σ)(h:VR C.W s.heap w v u):bN C aj w σ s v σ u {s with toks:=tk}:=⟨w,After.toks R,h⟩
theorem bg{v:V}{u:Value}(R:Rel C s.heap w σ)(h:VR C.W s.heap w v u):bN C aj w σ s v σ u s:=⟨w,After.refl R,h⟩
theorem iG(R:Rel C s.heap w σ){v:V}{u:Value}{vs:List V}(h:VR C.W s.heap w v u)(e:cW σ v=some vs):
  ∃a items n,u= .ref a/\s.heap.get? a=some (jm items n)/\vs.length<big/\bc C.W s.heap w vs items.toList:=by
 cases v with
 |bI yO=>exact aad e▸fq h λa items n h1 ab ho hb hr=>yU a items n h1 ho hb hr
 |loc l=>obtain this:=R.obj l (R.n▸h.1);simp only[qx e]at this;exact b8 this λitems n h1 ab hb h2=>yU _ items n h.2 h1 hb h2
 |_=>exact no e
theorem iH(O:C.Ok)(R:Rel C s.heap w σ){v:V}{u:Value}{ks vs:List V}(h:VR C.W s.heap w v u)(e:eD σ v=some (ks,vs)):
  ∃a,u= .ref a/\a≠sysModules/\ks.length<big/\hZ C.W s.heap w a ks vs:=by
 cases v with
 |pG LM yO=>obtain e:=abG (aad e);exact e.1▸e.2▸fq h λa es n h1 ab ho q hr=>wy a h1 q.1 q.2 ⟨es,n,ho,hr⟩
 |loc l=>obtain e:=mf e;obtain this:=R.obj l (R.n▸h.1);simp only[e]at this;exact b8 this λes n h1 h2 hb h3=>wy _ h.2 (λq=>(R.fr l (R.n▸h.1) (by rw[e];exactλz=>nomatch z)).1 (O.mods.elim λo ho=>h2▸q▸R.base _ _ ho)) hb ⟨es,n,h1,h3⟩
 |_=>exact no e
theorem Bk{a:Addr}{ks vs:List V}(d:hZ C.W s.heap w a ks vs):ks.length=vs.length:=
 eO d λes ab ai q=>q.1.length.symm.trans (((aae ..).trans (aae ..).symm).trans q.2.1.length)
theorem bw{h:Heap}{a:Addr}{items:Array Value}{m:Nat}(ho:h.get? a=some (jm items m)):h.IsList a items:=⟨_,ho,rfl,m,rfl⟩
theorem qU{p q:Prop}[Decidable p][Decidable q](h:p↔q):decide p=decide q:=by
 by_cases x:p
 ·rw[decide_eq_true x,decide_eq_true (h.mp x)]
 ·rw[decide_eq_false x,decide_eq_false λy=>x (h.mpr y)]
theorem wX(vs us:List V):V.iS vs us=decide (vs=us):=by
 cases q:V.iS vs us with
 |true=>exact(decide_eq_true (A1 _ _ q)).symm
 |false=>exact(decide_eq_false λe:vs=us=>nb (q.symm.trans (e▸tG vs))).symm
theorem Bl{v:V}(h:v.isInt=true):V.fW 0 v=true:=by cases v<;>first |rfl |exact nb h
theorem pX{v:V}(h:v.isStr=true):V.fW 0 v=true:=by cases v<;>first |rfl |exact nb h
theorem pY{p q:V->Bool}(k:∀v,p v=true->q v=true){l:List V}(h:l.all p=true):l.all q=true:=aas.mpr λv hv=>k v (aas.mp h v hv)
theorem wY{n:Nat}(hu:A.units+(2+n)<cLine){vs us:List V}{xs ys:Array Value}(h1:vs.all (V.fW n)=true)(h2:us.all (V.fW n)=true)(r1:bc C.W s.heap w vs xs.toList)(r2:bc C.W s.heap w us ys.toList):
  ∀j (q1:j<xs.size) (q2:j<ys.size),EqAt A.in1 s xs[j] ys[j] (decide (vs[j]? =us[j]?)):=λj q1 q2=>
 ah ((ID.oZ n vs _ h1 r1).at ((abu ..).trans (acj q1))) λp hp tp=>ah ((ID.oZ n us _ h2 r2).at ((abu ..).trans (acj q2))) λp' Qf Qg=>by simp only[hp,Qf,qU (Option.some_inj (a:=p) (b:=p'))];exact qQ n n (aai (by rw[abc];exact aav (aat (aaq rfl) n) _) hu) tp Qg
theorem LN(hu:A.units+30<cLine){a b:V}{x y:Value}{c:Bool}(ha:VR C.W s.heap w a x)(hb:VR C.W s.heap w b y)(e:Ts a b=some c):RcAt A s x y c/\RcNeAt A s x y (!c):=by
 obtain lt:∀{n},n<=30->A.units+n<cLine:=λh=>aai (aav h _) hu;cases a with
 |int i=>refine cQ e λj e1 e2=> ?_;rw[eY e1]at hb;exact ha.elim λt p=>hb.elim λu q=>p▸q▸aad e2▸⟨RcAt.int_int _ _ _ _,RcNeAt.int_int _ _ _ _⟩
 |str i=>refine cQ e λj e1 e2=> ?_;rw[iR e1]at hb;obtain q:decide (i=j)=(toStr i==toStr j):=qU ⟨λh=>congrArg toStr h,nA⟩;exact ha.2.elim λt p=>hb.2.elim λu r=>p▸r▸aad e2▸q▸⟨RcAt.str_str _ _ _ _,RcNeAt.str_str _ _ _ _⟩
 |tup vs=>refine cQ e λus e1 e2=> ?_;rw[mc e1]at hb;have hk:=ao (av e2).1;rw[<-aad (av e2).2,wX];refine fq ha λp items n ex ab ho ai hr=>fq hb λq dE n' ey ab mj ai wi=> ?_;rw[ex,ey];obtain he:=wY (A:=A) (lt (aaq rfl)) hk.1 hk.2 hr wi;obtain b1:=RcAt.tuples (A:=A) (s:=s) (bQ ho) (bQ mj) (lt (aaS _)) he;obtain b2:=RcNeAt.tuples (A:=A) (s:=s) (bQ ho) (bQ mj) (lt (aaS _)) he;simp only[show items.size=vs.length from hr.length,show dE.size=us.length from wi.length,k9]at b1 b2;exact⟨b1,b2⟩
 |bI vs=>
  refine cQ e λus e1 e2=> ?_;rw[jK e1]at hb;have hk:=ao (av e2).1;rw[<-aad (av e2).2,wX];refine fq ha λp items n ex ab ho ai hr=>fq hb λq dE n' ey ab mj ai wi=> ?_;rw[ex,ey];obtain l1:items.size=vs.length:=hr.length;obtain l2:dE.size=us.length:=wi.length;by_cases hl:vs.length=us.length
  ·obtain he:=wY (A:=A) (n:=0) (lt (aaq rfl)) (pY (λab=>pX) hk.1) (pY (λab=>pX) hk.2) hr wi;obtain b1:=RcAt.lists (A:=A) (s:=s) (bw ho) (bw mj) (l1.trans (hl.trans l2.symm)) (lt (aaS _)) he;obtain b2:=RcNeAt.lists (A:=A) (s:=s) (bw ho) (bw mj) (l1.trans (hl.trans l2.symm)) (lt (aaS _)) he;simp only[l1,all_range vs us hl]at b1 b2;exact⟨b1,b2⟩
  ·rw[wW hl];obtain sZ:(items.size !=dE.size)=true:=bne_iff_ne.mpr λe=>hl (l1.symm.trans (e.trans l2));exact⟨RcAt.lists_lengths (bw ho) (bw mj) sZ (lt (aaS _)),RcNeAt.lists_lengths (bw ho) (bw mj) sZ (lt (aaS _))⟩
 |_=>exact no e
theorem C6(a:V)(xs:List (V×Addr×Value)):(atKey xs a).isSome=(xs.map (λx=>x.1)).any (λj=>V.beq j a):=by
 induction xs with
 |nil=>rfl
 |cons p xs ih=>
  unfold atKey at ih⊢;rw[abH,aaH,abx,uJ];by_cases h:p.1=a
  ·rw[decide_eq_true h];rfl
  ·rw[decide_eq_false h];exact ih
theorem M4{K:Type}[DecidableEq K]{κ:K->V}(M3:∀a b,κ a=κ b->a=b)(bK:List (K×Value))(k:K):(valueAt bK k).isSome=(bK.map λp=>κ p.1).any (λj=>V.beq j (κ k)):=by
 induction bK with
 |nil=>rfl
 |cons p bK ih=>
  unfold valueAt at ih⊢;rw[abH,aaH,abx,uJ,qU (⟨M3 _ _,congrArg κ⟩:κ p.1=κ k↔p.1=k)];by_cases h:p.1=k
  ·rw[decide_eq_true h];rfl
  ·rw[decide_eq_false h];exact ih
theorem pZ{i:V}{ks vs:List V}{y:Value}{a:Addr}{Q:Prop}(hk:bM (i::ks)=true)(hi:VR C.W s.heap w i y)(di:hZ C.W s.heap w a ks vs)
  (kv:∀{K:Type} [DecidableEq K] {knd:KeyKind C.prog C.W K} {κ:K->V} {p:V->Bool} {ok:K->Prop} (_:KV C.prog C.W knd κ p ok) (k:K) (bK:List (K×Value)),i=κ k->knd.is k y=true->ok k->s.heap.DictOf knd a bK->
   bK.map (λq=>κ q.1)=ks->bc C.W s.heap w vs (bK.map (λx=>x.2))->(∀q∈bK,ok q.1)->Q)
  (kt:∀p (xs:List (V×Addr×Value)),y= .ref p->TK s.heap 8 i (.ref p)->s.heap.DictOfH (tupK C.prog C.W) a xs->xs.map (λx=>x.1)=ks->bc C.W s.heap w ks (xs.map λx=> .ref x.2.1)->bc C.W s.heap w vs (xs.map (λx=>x.2.2))->Q):Q:=by
 have go:∀{K:Type} [DecidableEq K] {knd:KeyKind C.prog C.W K} {κ:K->V} {p:V->Bool} {ok:K->Prop} (_:KV C.prog C.W knd κ p ok),(i::ks).all p=true->Q:=λH h=>
  dw (H.to (ao h).1 hi) λk e is ok=>gD (tK H di (ao h).2) λbK m ek hv o=>kv H k bK e.symm is ok m ek hv o
 obtain t:(i::ks).all V.isTup=true->Q:=λh=>by
  refine gD (M0 (prog:=C.prog) di (ao h).2) λxs m ek TG hv=> ?_;obtain e:∃p,y= .ref p:=by
   cases i with
   |tup=>exact hi.elim λb q=>q.elim λab q=>q.elim λab q=>⟨b,q.1⟩
   |_=>exact nb ((ao h).1)
  exact e.elim λp e=>kt p xs e (e▸(TK.oZ 8 i y (tI (ao h).1) hi)) m ek TG hv
 exact((abd ..).mp hk).elim (λh=>((abd ..).mp h).elim (go (Pc ..)) (go (TC ..))) t
theorem zi(R:Rel C s.heap w σ){b:V}{y:Value}{vs:List V}(hb:VR C.W s.heap w b y)(e:jL σ b=some vs):
  ∃p items n,y= .ref p/\(s.heap.get? p=some (jm items n)\/s.heap.get? p=some (dD items n))/\vs.length<big/\bc C.W s.heap w vs items.toList:=by
 have go:cW σ b=some vs->∃p items n,y= .ref p/\(s.heap.get? p=some (jm items n)\/s.heap.get? p=some (dD items n))/\vs.length<big/\bc C.W s.heap w vs items.toList:=λe=>
  g9 (iG R hb e) λp items n q ho hl hr=>yU p items n q (.inl ho) hl hr
 cases b with
 |tup yO=>exact aad e▸fq hb λp items n h1 ab ho hl hr=>yU p items n h1 (.inr ho) hl hr
 |_=>exact go e
theorem I7(hu:A.units+2<cLine){a:V}{x:Value}{vs:List V}{items:Array Value}(ka:V.fW 0 a=true)(kv:vs.all (V.fW 0)=true)(ha:VR C.W s.heap w a x)(hr:bc C.W s.heap w vs items.toList):
  ∃f:Value->Bool,(∀z,z∈items->EqAt A.in1 s z x (f z))/\items.any f=vs.any (V.beq a):=by
 classical
 obtain tv:=ID.oZ 0 vs _ kv hr;have same:∀v z,TK s.heap 0 v z->decide (TK s.heap 0 a z)=decide (v=a):=λv z tz=>qU ⟨λq=>Bf 0 0 tz q,λh=>h▸tz⟩;refine cq (λz=>decide (TK s.heap 0 a z)) (λz hz=> ?_) ?_
 ·refine(adg.mp (adj.mpr hz)).elim λi hi=>ah (tv.at hi) λv hv tz=> ?_;simp only[same v z tz];exact qQ 0 0 (aai (aav (aaq rfl) _:A.units+1<=A.units+2) hu) tz (TK.oZ 0 a x ka ha)
 ·rw[<-Array.any_toList];obtain go:∀(vs:List V) (l:List Value),ID s.heap 0 vs l->(l.any λz=>decide (TK s.heap 0 a z))=vs.any (V.beq a):=λvs=>by
   induction vs with
   |nil=>exactλl q=>congrArg (λl:List Value=>l.any λz=>decide (TK s.heap 0 a z)) q
   |cons v vs ih=>exactλl q=>dM q λz zs q h1 h2=>by simp only[q,abx,abx,ih zs h2,same v z h1,uJ,qU (eq_comm (a:=v) (b:=a))]
  exact go vs _ tv
theorem LO(O:C.Ok)(hu:A.units+60<cLine)(R:Rel C s.heap w σ){a b:V}{x y:Value}{c:Bool}(ha:VR C.W s.heap w a x)(hb:VR C.W s.heap w b y)(e:E6 σ a b=some c):
  wpAny (model C.prog C.W) A (compareOp .In x y) (bN C aj w σ s (.bool c) σ) E s/\wpAny (model C.prog C.W) A (compareOp .NotIn x y) (bN C aj w σ s (.bool (!c)) σ) E s:=by
 unfold E6 at e;cases hs:jL σ b with
 |some vs=>rw[hs]at e;refine g9 (zi R hb hs) λp items n ey ho ab hr=> ?_;rw[ey,<-aad (av e).2];obtain k0:V.fW 0 a=true/\vs.all (V.fW 0)=true:=((abd ..).mp (av e).1).elim (λh=>⟨Bl (ao h).1,pY (λab=>Bl) (ao h).2⟩) λh=>⟨pX (ao h).1,pY (λab=>pX) (ao h).2⟩;refine ah (I7 (A:=A) (aai (aav (aaq rfl) _) hu) k0.1 k0.2 ha hr) λf hf I8=> ?_;rw[<-I8];exact ho.elim (λho=>⟨in_listAt f (bw ho) hf (bg R rfl),notIn_listAt f (bw ho) hf (bg R rfl)⟩) λho=>⟨in_tupleAt f (bQ ho) hf (bg R rfl),notIn_tupleAt f (bQ ho) hf (bg R rfl)⟩
 |none=>
  rw[hs]at e;refine cQ e λq hd e=> ?_;rw[<-aad (av e).2];refine gD (iH O R hb hd) λd ey yP ab di=> ?_;rw[ey];obtain Sh:(d==sysModules)=false:=beq_false_of_ne yP;refine pZ ((av e).1) ha di (λH k bK ei is ab hm ek ai aD=> ?_) λp xs ey tk hm ek ab ai=> ?_
  ·rw[<-ek,ei,<-M4 H.inj bK k];exact⟨wpAny_in_of is Sh hm.mapOf (aX R rfl),wpAny_notIn_of is Sh hm.mapOf (aX R rfl)⟩
  ·rw[<-ek,<-C6,ey];obtain o3:(A.in1).units+20<cLine:=aai (by rw[abc];exact aav (aaq rfl) _) hu;exact⟨wpAny_in_heap (knd:=tupK C.prog C.W) o3 tk Sh hm (aX R rfl),wpAny_notIn_heap (knd:=tupK C.prog C.W) o3 tk Sh hm (aX R rfl)⟩
theorem iU{γ:Type}{a b:V}{x y:Value}{f:Int->Int->Option γ}{c:γ}{Q:Prop}(ha:VR C.W s.heap w a x)(hb:VR C.W s.heap w b y)(e:(om a.int? λx=>om b.int? λy=>f x y)=some c)(k:∀i j t u,f i j=some c->x= .int i t->y= .int j u->Q):Q:=by refine cQ e λi e1 e=>cQ e λj e2 e=> ?_;rw[eY e1]at ha;rw[eY e2]at hb;exact ha.elim λt p=>hb.elim λu q=>k i j t u e p q
theorem FA(O:C.Ok)(hu:A.units+60<cLine)(R:Rel C s.heap w σ){op:Iz}{a b:V}{x y:Value}{c:Bool}(ha:VR C.W s.heap w a x)(hb:VR C.W s.heap w b y)(e:aS σ op a b=some c):
  wpAny (model C.prog C.W) A (compareOp (qR op) x y) (bN C aj w σ s (.bool c) σ) E s:=by
 obtain o3:A.units+30<cLine:=aai (aav (aaq rfl) _) hu;cases op with
 |eq=>exact(LN o3 ha hb e).1 _ _ _ _ (bg R rfl)
 |ne=>exact cQ e λc' h e=>aad e▸(LN o3 ha hb h).2 _ _ _ _ (bg R rfl)
 |isin=>exact(LO O hu R ha hb e).1
 |jJ=>exact cQ e λc' h e=>aad e▸(LO O hu R ha hb h).2
 |lt=>exact iU ha hb e λi j t u e p q=>p▸q▸aad e▸P.lt_int (bg R rfl)
 |le=>exact iU ha hb e λi j t u e p q=>p▸q▸aad e▸P.le_int (bg R rfl)
 |gt=>exact iU ha hb e λi j t u e p q=>p▸q▸aad e▸P.gt_int (bg R rfl)
 |ge=>exact iU ha hb e λi j t u e p q=>p▸q▸aad e▸P.ge_int (bg R rfl)
end
section
variable {C:Cx}{A:Around}{E:Value->Shared->Prop}{w:Wd}{σ:St}{s:Shared}
theorem size_of{h:Heap}{W:World}{vs:List V}{items:Array Value}(hr:bc W h w vs items.toList):items.size=vs.length:=hr.length
theorem FC:big<=sizeLine:=by rw[sizeLine_eq];decide
theorem qW{v:V}(R:Rel C s.heap w σ){o:Obj}{tk:Tok}(hf:o.isFreed=false)
  (h:fQ s.heap w (s.heap.push o) (w.fY s.heap.objs.size)->(s.heap.push o).get? s.heap.objs.size=some o->VR C.W (s.heap.push o) (w.fY s.heap.objs.size) v (.ref s.heap.objs.size)):
  bN C aj w σ s v σ (.ref s.heap.objs.size) {s with heap:=s.heap.push o,toks:=tk}:=by
 obtain a:=After.fY (own:=aj) (tk:=tk) R (Grows.push s.heap o) (dj _) ⟨_,Heap.get?_push_size _ hf⟩;exact⟨_,a,h (a.aI R (hO w)) (Heap.get?_push_size _ hf)⟩
theorem Bm{v:V}{vs:List V}{xs:List Value}{tk:Tok}{o:Obj}(R:Rel C s.heap w σ)(hf:o.isFreed=false)(hr:bc C.W s.heap w vs xs)
  (h:∀w:Wd,w.φ s.heap.objs.size->(s.heap.push o).get? s.heap.objs.size=some o->bc C.W (s.heap.push o) w vs xs.toArray.toList->VR C.W (s.heap.push o) w v (.ref s.heap.objs.size)):bN C aj w σ s v σ (.ref s.heap.objs.size) {s with heap:=s.heap.push o,toks:=tk}:=
 qW R hf λS ho=>h _ (.inr rfl) ho (bc.aI S _ _ hr)
theorem uP{vs:List V}{xs:List Value}{tk:Tok}(R:Rel C s.heap w σ)(hb:vs.length<big)(hr:bc C.W s.heap w vs xs):
  bN C aj w σ s (.bI vs) σ (.ref s.heap.objs.size) {s with heap:=s.heap.push (jm xs.toArray 0),toks:=tk}:=
 Bm R rfl hr λab p ho r=>jl _ xs.toArray 0 rfl p ho hb r
theorem uQ{vs:List V}{xs:List Value}{tk:Tok}(R:Rel C s.heap w σ)(hb:vs.length<big)(hr:bc C.W s.heap w vs xs):
  bN C aj w σ s (.tup vs) σ (.ref s.heap.objs.size) {s with heap:=s.heap.push (dD xs.toArray 0),toks:=tk}:=
 Bm R rfl hr λab p ho r=>jl _ xs.toArray 0 rfl p ho hb r
theorem FD{a b:Int}(hb:0<b):a.fmod b=a %b:=Int.fmod_eq_emod_of_nonneg a (acI hb)
theorem FG{a b:Int}(hb:0<b):a.fdiv b=a/b:=Int.fdiv_eq_ediv_of_nonneg a (acI hb)
theorem dY{n:Nat}(h:n<big):n<=sizeLine:=acJ (aak h FC)
theorem zk{as bs:List V}{xs ys:Array Value}(hr:bc C.W s.heap w as xs.toList)(wi:bc C.W s.heap w bs ys.toList)(h:as.length+bs.length<big):xs.size+ys.size<=sizeLine:=by rw[size_of hr,size_of wi];exact dY h
theorem Bo(xs ys:Array Value):(xs.toList++ys.toList).toArray=xs++ys:=by rw[<-ael]
theorem M5(R:Rel C s.heap w σ){a b v:V}{x y:Value}(ha:VR C.W s.heap w a x)(hb:VR C.W s.heap w b y)(e:PU σ a b=some v):
  wpAny (model C.prog C.W) A (binaryOp .Add x y) (bN C aj w σ s v σ) E s:=by
 have lists:(om (cW σ a) λa=>om (cW σ b) λb=>og (decide (a.length+b.length<big)) (some (V.bI (a++b))))=some v->wpAny (model C.prog C.W) A (binaryOp .Add x y) (bN C aj w σ s v σ) E s:=λe=>by refine cQ e λxs h1 e=>cQ e λys h2 e=> ?_;obtain hl:=of_decide_eq_true (av e).1;rw[<-aad (av e).2];refine g9 (iG R ha h1) λp items n ex ho ab hr=>g9 (iG R hb h2) λq dE n' ey mj ab wi=> ?_;rw[ex,ey];refine P.add_list ho mj ?_ (zk hr wi hl);obtain this:=uP (tk:=s.toks) R ((aah ..).symm▸hl) (hr.append wi);rw[Bo]at this;exact this
 cases a with
 |int i=>refine cQ e λj h1 e=> ?_;rw[eY h1]at hb;rw[<-aad e];exact ha.elim λt p=>hb.elim λu q=>p▸q▸P.add_int (aX R ⟨_,rfl⟩)
 |str i=>
  refine cQ e λj h1 e=> ?_;rw[iR h1]at hb;have ok:=(aah ..).symm▸of_decide_eq_true (av e).1;rw[<-aad (av e).2];refine ha.2.elim λt ex=>hb.2.elim λu ey=> ?_;obtain e1:toStr i++toStr j=toStr (i++j):=congrArg Str.mk (adq i j);rw[ex,ey];refine P.add_str ?_;cases i with
  |nil=>exact bg R ⟨hb.1,u,rfl⟩
  |cons c i=>
   cases j with
   |nil=>exact bg R ⟨ok,t,congrArg (λl=>Value.str (toStr l) t) (aaV _).symm⟩
   |cons c' j=>exact e1▸⟨dY ok,aX R ⟨ok,_,rfl⟩⟩
 |tup us=>
  refine cQ e λvs h1 e=> ?_;rw[mc h1]at hb;have hl:=of_decide_eq_true (av e).1;rw[<-aad (av e).2];refine fq ha λp items n ex C0 ho XH hr=>fq hb λq dE n' ey TH mj Pd wi=> ?_;rw[ex,ey];obtain nil:∀{vs:List V} {i:Array Value},bc C.W s.heap w vs i.toList->i.isEmpty=true->vs=[]:=λhr g=>acZ.mp ((size_of hr).symm.trans (acD.mp g));by_cases g1:items.isEmpty=true
  ·exact(nil hr g1)▸concat_meets ⟨_,ho,rfl⟩ ⟨_,mj,rfl⟩ noFill_tuple_add seq_tuple_add adZ adV (adS _ _) (AutoSeq1.tuple___add___tuple_tuple_0 p items n q dE n' g1)
    ⟨ho,mj,bg R (jl q dE n' rfl TH mj Pd wi)⟩
  ·by_cases h2:dE.isEmpty=true
   ·rw[nil wi h2,aaV];exact concat_meets ⟨_,ho,rfl⟩ ⟨_,mj,rfl⟩ noFill_tuple_add seq_tuple_add adZ adV (adS _ _) (AutoSeq1.tuple___add___tuple_tuple_1 p items n q dE n' g1 h2)
     ⟨ho,mj,bg R (jl p items n rfl C0 ho XH hr)⟩
   ·refine P.add_tuple ho mj g1 h2 ?_ (zk hr wi hl);obtain this:=uQ (tk:=s.toks) R ((aah ..).symm▸hl) (hr.append wi);rw[Bo]at this;exact this
 |_=>exact lists e
theorem zm{i:Int}(h:i.natAbs<2^60):Builtin.Int.intBits i<=64:=intBits_le_64 (by lia) (by lia)
theorem M6(R:Rel C s.heap w σ){op:wD}{a b v:V}{x y:Value}(ha:VR C.W s.heap w a x)(hb:VR C.W s.heap w b y)(e:eP σ op a b=some v):
  wpAny (model C.prog C.W) A (binaryOp (binOp op) x y) (bN C aj w σ s v σ) E s:=by
 obtain two:∀{op},(om a.int? λx=>om b.int? λy=>om (binI op x y) λc=>some (.int c))=some v->(∀i j c t u,binI op i j=some c->wpAny (model C.prog C.W) A (binaryOp (binOp op) (.int i t) (.int j u)) (bN C aj w σ s (.int c) σ) E s)->wpAny (model C.prog C.W) A (binaryOp (binOp op) x y) (bN C aj w σ s v σ) E s:=
  λe k=>iU ha hb e λi j t u e p q=>cQ e λc h e=>p▸q▸aad e▸k i j c t u h
 cases op with
 |add=>exact M5 R ha hb e
 |sub=>exact two (op:= .sub) e λi j c t u h=>aad h▸P.sub_int (aX R ⟨_,rfl⟩)
 |mul=>exact two (op:= .mul) e λi j c t u h=>have hl:=ao (av h).1;aad (av h).2▸P.mul_int (aX R ⟨_,rfl⟩) (.of_left (zm (of_decide_eq_true hl.1)))
 |mod=>exact two (op:= .mod) e λi j c t u h=>aad (av h).2▸mod_int' (Int.ne_of_gt (of_decide_eq_true (av h).1)) ((FD (of_decide_eq_true (av h).1)).symm▸aX R ⟨_,rfl⟩)
 |fdiv=>exact two (op:= .fdiv) e λi j c t u h=>have hl:=ao (av h).1;have h0:=of_decide_eq_true hl.1;aad (av h).2▸floordiv_int (Int.ne_of_gt h0) ((FG h0).symm▸aX R ⟨_,rfl⟩) (.inl (PyProof.noPylong_small (of_decide_eq_true hl.2)))
end
section
variable {C:Cx}{A:Around}{E:Value->Shared->Prop}{w:Wd}{σ:St}{s:Shared}
theorem qX{h:Heap}{W:World}{vs:List V}{items:Array Value}(hr:bc W h w vs items.toList):items.isEmpty=vs.isEmpty:=by
 obtain this:=size_of hr;cases vs with
 |nil=>exact acD.mpr this
 |cons a r=>exact abB.mpr λe=>absurd ((acD.mp e).symm.trans this) (adI _).symm
theorem jR{h:Heap}{a:Addr}{items:Array Value}{m:Nat}(ho:h.get? a=some (dD items m)):IsTup h a items:=⟨_,ho,rfl,m,rfl⟩
theorem ml{n:Nat}(h:n<big):(n:Int)<2^63:=abW (aeb.mpr h) (by decide)
theorem nH{n:Nat}(h:n<big):(n:Int)<1000000:=aeb.mpr h
theorem qY(R:Rel C s.heap w σ){v:V}{u:Value}{b:Bool}(h:VR C.W s.heap w v u)(e:cx σ v=some b){Q:Bool->Shared->Prop}(hq:∀tk,Q b {s with toks:=tk}):
  wpAny (model C.prog C.W) A (truthy u) Q E s:=by
 have lists:(om (cW σ v) λvs=>some (!vs.isEmpty))=some b->wpAny (model C.prog C.W) A (truthy u) Q E s:=λe=>cQ e λvs e1 e2=>
  g9 (iG R h e1) λa items n eu ho hb hr=>eu▸wpAny_truthy_list (bw ho) (ml (size_of hr▸hb)) (by simp only[qX hr,aad e2];exact hq _)
 cases v with
 |bool c=>exact(show u= .bool c from h)▸wpAny_truthy_bool (aad e▸hq s.toks)
 |tup vs=>exact fq h λa items n eu ab ho hb hr=>eu▸truthy_tuple (jR ho) (ml (size_of hr▸hb)) (by simp only[qX hr,aad e];exact hq _)
 |_=>exact lists e
theorem wZ(R:Rel C s.heap w σ){c i v:V}{x y:Value}{vs:List V}(hc:VR C.W s.heap w c x)(hi:VR C.W s.heap w i y)(hs:jL σ c=some vs)(e:om i.int? (E7 vs)=some v):
  wpAny (model C.prog C.W) A (getItem x y) (bN C aj w σ s v σ) E s:=by
 refine cQ e λk e1 e=> ?_;rw[eY e1]at hi;refine hi.elim λt ey=>g9 (zi R hc hs) λa items n ex ho hb hr=> ?_;simp only[ey,ex];obtain hs:=size_of hr;obtain M7:=nH hb;obtain at_:∀{j},vs[j]? =some v->∃z,items[j]? =some z/\VR C.W s.heap w v z:=λh=>(hr.get h).imp λz q=>⟨(abu ..).symm.trans q.1,q.2⟩;obtain e:(if 0<=k then vs[k.toNat]? else if -(vs.length:Int)<=k then vs[(k+vs.length).toNat]? else none)=some v:=e;obtain VF:(1000000:Int)<2^63:=by decide
 by_cases h:0<=k
 ·rw[if_pos h]at e;have eX:=(Int.toNat_lt h).mp (abg.mp e).1;refine ah (at_ e) λz hz rz=>ho.elim (λho=>wpAny_getItem_list (bw ho) h (abW eX (abW M7 VF)) hz (bg R rz)) λho=>
   adz (jR ho) (adu (by decide) h) (abW eX (abW M7 VF)) (by rw[hs];exact seqIndex_of h eX) hz (bg R rz)
 ·rw[if_neg h]at e;by_cases h2: -(vs.length:Int)<=k
  ·rw[if_pos h2]at e;obtain hn:k<0:=aer.mp h;obtain Pe: -(2:Int)^63<=k:=adu (acI (abW (by decide) (Int.neg_lt_neg M7))) h2;refine ah (at_ e) λz hz rz=>ho.elim (λho=>wpAny_getItem_list_neg (bw ho) hn (by rw[hs];exact h2) Pe (by rw[hs];exact hz) (bg R rz)) λho=>
    adz (jR ho) Pe (abW hn (by decide)) (by rw[hs];exact seqIndex_neg hn h2) hz (bg R rz)
  ·rw[if_neg h2]at e;exact no e
theorem find_key{i v:V}{xs:List (V×Addr×Value)}:∀{vs:List V},bc C.W s.heap w vs (xs.map (λx=>x.2.2))->bx (xs.map (λx=>x.1)) vs i=some v->∃q,atKey xs i=some q/\VR C.W s.heap w v q.2:=by
 induction xs with
 |nil=>exactλ{vs} dJ e=>by cases vs<;>exact no e
 |cons p xs ih=>
  intro vs hv e;cases vs with
  |nil=>exact nomatch(show(p::xs).map (λx=>x.2.2)=[]from hv)
  |cons u vs=>
   obtain e:(if V.beq p.1 i=true then some u else bx (xs.map (λx=>x.1)) vs i)=some v:=e;unfold atKey;rw[abH];by_cases hp:p.1=i
   ·rw[if_pos (hp▸fP _)]at e;rw[decide_eq_true hp];exact⟨_,rfl,aad e▸hv.un.1⟩
   ·rw[if_neg λz=>hp (beq_eq _ _ z)]at e;rw[decide_eq_false hp];exact ih hv.un.2 e
theorem FH(O:C.Ok)(hu:A.units+60<cLine)(R:Rel C s.heap w σ){c i v:V}{x y:Value}(hc:VR C.W s.heap w c x)(hi:VR C.W s.heap w i y)(e:bS σ c i=some v):
  wpAny (model C.prog C.W) A (getItem x y) (bN C aj w σ s v σ) E s:=by
 have rest:(match cW σ c with |some vs=>om i.int? (E7 vs) |none=>om (eD σ c) λp=>og (bM (i::p.1)) (bx p.1 p.2 i))=some v->(∀vs,cW σ c=some vs->jL σ c=some vs)->
   wpAny (model C.prog C.W) A (getItem x y) (bN C aj w σ s v σ) E s:=λe hs=>by
  cases h:cW σ c with
  |some vs=>rw[h]at e;exact wZ R hc hi (hs _ h) e
  |none=>
   rw[h]at e;refine cQ e λq hd e=>gD (iH O R hc hd) λd ex ab ai di=> ?_;rw[ex];obtain hf:=(av e).2;refine pZ (av e).1 hi di (λH k bK ei is ab hm ek hv ai=> ?_) λp xs ey tk hm ek ab hv=> ?_
   ·rw[ei,<-ek]at hf;exact ah ((Bj H.inj hv).1 v hf) λz hz rz=>wpAny_getItem_of is hm.mapOf hz (aX R rz)
   ·exact ah (find_key hv (ek▸hf)) λq hq rq=>ey▸wpAny_getItem_heap (knd:=tupK C.prog C.W) (aai (by rw[abc];exact aav (aaq rfl) _) hu) tk hm hq (aX R rq)
 cases c with
 |str a=>
  refine cQ e λk e1 e=> ?_;refine cQ (av e).2 λch e4 e5=> ?_;simp only[eY e1,(of_decide_eq_true (av e).1)]at hi;refine hc.2.elim λt ex=>hi.elim λu ey=> ?_;simp only[ex,ey,<-aad e5];cases a with
  |nil=>exact no e4
  |cons c r=>rw[<-aad e4];refine PyProof.Rows.getItem_str (c:=c) (rfl) ?_ (aX R ⟨aai (abm (aaS r.length)) hc.1,_,rfl⟩);exact(seqIndex_of (n:=(toStr (c::r)).length) (Int.le_refl 0) (aeb.mpr (abO r.length)))▸rfl
 |tup vs=>exact wZ R hc hi rfl e
 |_=>exact rest e λab h=>h
end
section
variable {C:Cx}{A:Around}{E:Value->Shared->Prop}{w:Wd}{σ:St}{s:Shared}
theorem w4{i:V}{p:Addr}{z:Value}{x:V×Addr×Value}{xs:List (V×Addr×Value)}(hn:x.1∉xs.map (λx=>x.1))(e:x.1=i):storedH (x::xs) i p z=(x.1,x.2.1,z)::xs:=by
 unfold storedH;obtain at_:atKey (x::xs) i=some x.2:=by unfold atKey;simp only[abH,decide_eq_true e];rfl
 rw[if_pos (show(atKey (x::xs) i).isSome=true from congrArg adi at_),aaH,show putAt i z x=(x.1,x.2.1,z)from if_pos e];refine congrArg _ ((ack λq hq=> ?_).trans (adC xs));exact if_neg λk:q.1=i=>hn (e▸k▸aan hq)
theorem uR{i:V}{p:Addr}{z:Value}{x:V×Addr×Value}{xs:List (V×Addr×Value)}(e:x.1≠i):storedH (x::xs) i p z=x::storedH xs i p z:=by
 unfold storedH;obtain at_:atKey (x::xs) i=atKey xs i:=by unfold atKey;simp only[abH,decide_eq_false e]
 rw[at_];split
 ·rw[aaH,show putAt i z x=x from if_neg e]
 ·rfl
theorem zo{W:World}{h:Heap}{w:Wd}{i v:V}{p:Addr}{z:Value}(hp:VR W h w i (.ref p))(hz:VR W h w v z){xs:List (V×Addr×Value)}:∀{vs:List V},(xs.map (λx=>x.1)).Nodup->
  bc W h w (xs.map (λx=>x.1)) (xs.map λx=> .ref x.2.1)->bc W h w vs (xs.map (λx=>x.2.2))->
  (putK (xs.map (λx=>x.1)) vs i v).1=(storedH xs i p z).map (λx=>x.1)/\bc W h w (putK (xs.map (λx=>x.1)) vs i v).1 ((storedH xs i p z).map λx=> .ref x.2.1)/\bc W h w (putK (xs.map (λx=>x.1)) vs i v).2 ((storedH xs i p z).map (λx=>x.2.2)):=by
 induction xs with
 |nil=>exactλab ai aD=>⟨rfl,.cons hp .nil,.cons hz .nil⟩
 |cons x xs ih=>
  intro vs hn hk hv;cases vs with
  |nil=>exact nomatch(show(x::xs).map (λx=>x.2.2)=[]from hv)
  |cons u vs=>
   obtain t:=hv.un;obtain k:=hk.un;obtain hn:=aaM.mp hn;obtain e:putK ((x::xs).map (λx=>x.1)) (u::vs) i v=if V.beq x.1 i=true then(x.1::xs.map (λx=>x.1),v::vs)else(x.1::(putK (xs.map (λx=>x.1)) vs i v).1,u::(putK (xs.map (λx=>x.1)) vs i v).2):=rfl;rw[e];by_cases hj:x.1=i
   ·rw[if_pos (hj▸fP _),w4 hn.1 hj];exact⟨rfl,.cons k.1 k.2,.cons hz t.2⟩
   ·rw[if_neg λz=>hj (beq_eq _ _ z),uR hj];obtain j:=ih hn.2 k.2 t.2;exact⟨congrArg _ j.1,.cons k.1 j.2.1,.cons t.1 j.2.2⟩
theorem nJ{K:Type}[DecidableEq K]{ok:K->Prop}{bK:List (K×Value)}{k:K}{z:Value}(h:∀p∈bK,ok p.1)(hk:ok k):∀p∈stored bK k z,ok p.1:=by
 intro p hp;unfold stored at hp;split at hp
 ·refine(aal.mp hp).elim λq hq=>hq.2▸?_;by_cases e:q.1=k
  ·rw[if_pos e];exact e▸hk
  ·rw[if_neg e];exact h q hq.1
 ·exact(aaz.mp hp).elim (h p) λhp=>(aag.mp hp).symm▸hk
theorem DictOf.nd{prog:Program}{W:World}{K:Type}[DecidableEq K]{knd:KeyKind prog W K}{h:Heap}{a:Addr}{bK:List (K×Value)}(d:h.DictOf knd a bK):(bK.map (λx=>x.1)).Nodup:=fq d λab ai aD bO fc ny wj q=>q.2
theorem C7(hu:A.units+60<cLine)(R:Rel C s.heap w σ){o i v:V}{x y z:Value}{aq:St}(ho:VR C.W s.heap w o x)(hi:VR C.W s.heap w i y)(hv:VR C.W s.heap w v z)(e:cL σ o i v=some aq):
  wpAny (model C.prog C.W) A (setItem x y z) (λab=>Bc C aj w σ s aq) E s:=by
 refine cQ e λl e0 e1=> ?_;rw[hG e0]at ho;rw[ho.2];have tH:=R.n▸ho.1;obtain lH:=R.obj l tH;cases hq:σ.f l with
 |lst vs=>rw[hq]at e1 lH;refine cQ e1 λk e2 e3=> ?_;obtain hk:=ao (av e3).1;obtain h1:=of_decide_eq_true hk.2;rw[<-aad (av e3).2];rw[eY e2]at hi;refine hi.elim λt ey=>b8 lH λitems n at_ iQ hb hr=> ?_;rw[ey];refine ki_setAt at_ (of_decide_eq_true hk.1) (abW h1 (abW (nH hb) (by decide))) ((size_of hr).symm▸h1) ⟨w,After.upd (tk:=s.toks) R tH (by rw[hq];exactλz=>nomatch z) (λz=>nomatch z) (iQ▸Heap.SameBut.update ..) λS=> ?_⟩;refine dI _ _ (IsL.update at_ (·.setIfInBounds k.toNat z)) iQ ((acn ..).symm▸hb) ?_;simp only[Array.toList_setIfInBounds];exact bc.aI S _ _ (bc.set hv k.toNat hr)
 |bV ks vs=>
  rw[hq]at e1 lH;have hk:=ao (av e1).1;rw[<-aad (av e1).2];refine b8 lH λes n at_ iQ hb Si=> ?_;have di:hZ C.W s.heap w (w.β l) ks vs:=⟨es,n,at_,Si⟩;have fin:∀h' tk,Heap.SameBut (w.β l) s.heap h'->(fQ s.heap w h' w->hZ C.W h' w (w.β l) (putK ks vs i v).1 (putK ks vs i v).2)->Bc C aj w σ s (σ.set l (.bV (putK ks vs i v).1 (putK ks vs i v).2)) {s with heap:=h',toks:=tk}:=λh' tk tO hd=>
   ⟨w,After.upd R tH (by rw[hq];exactλz=>nomatch z) (λz=>nomatch z) (iQ▸tO) λS=>eO (hd S) λM8 n' g1 g2=>dI M8 n' g1 iQ (aai (jQ (Bk di) i v).1 (of_decide_eq_true hk.2)) g2⟩
  have lt:=dY hb;refine pZ hk.1 hi di (λH k bK ei is ok hm ek M9 EP=> ?_) λp xs ey tk hm ek TG M9=> ?_
  ·refine wpAny_setItem_pairs is hm (λh' FI tO=>fin h' _ tO λS=> ?_) (aae ..▸ek▸lt);obtain g:=Fz H.inj (k:=k) hv (DictOf.nd hm) M9;simp only[ek,<-ei]at g;simp only[g.1];exact Bh H FI (bc.aI S _ _ g.2) (nJ EP ok)
  ·rw[ey];refine wpAny_setItem_heap (knd:=tupK C.prog C.W) (aai (by rw[abc];exact aav (by decide) _) hu) tk hm (λh' FI tO=>fin h' _ tO λS=> ?_) (aae ..▸ek▸lt);obtain g:=zo (ey▸hi) hv (fq hm λab ai aD bO fc ny wj q=>q.2) (ek.symm▸TG) M9;rw[ek]at g;obtain this:=M1 (vs:=(putK ks vs i v).2) FI (g.1▸bc.aI S _ _ g.2.1) (bc.aI S _ _ g.2.2);simp only[<-g.1]at this;exact this
 |_=>rw[hq]at e1;exact no e1
end
theorem Bp(n:Nat)(i:Int):(if i<0 then max (i+n) 0 else min i (n:Int))=(clamp n i:Int):=by
 refine(aco ?_).symm;by_cases h:i<0
 ·rw[if_pos h];exact Int.le_max_right _ _
 ·rw[if_neg h];exact Int.le_min.mpr ⟨adM.mp h,abl n⟩
def uS(n:Nat):Option Int->Nat |some i=>clamp n i |none=>0
def w5(n:Nat):Option Int->Nat |some i=>clamp n i |none=>n
theorem zp{α:Type}(vs:List α)(lo hi:Option Int):cut vs lo hi=(vs.take (w5 vs.length hi)).drop (uS vs.length lo):=by cases lo<;>cases hi<;>rfl
theorem Dc(n:Nat)(lo hi:Option Int):Builtin.Slice.sliceAdjust lo hi 1 (n:Int)=((uS n lo:Int),(w5 n hi:Int)):=by
 obtain l:(match lo with |none=>(0:Int) |some v=>if v<0 then max (v+n) 0 else min v n)=(uS n lo:Int):=by
  cases lo with
  |none=>rfl
  |some v=>exact Bp n v
 obtain u:(match hi with |none=>(n:Int) |some v=>if v<0 then max (v+n) 0 else min v n)=(w5 n hi:Int):=by
  cases hi with
  |none=>rfl
  |some v=>exact Bp n v
 obtain e:=congr (congrArg Prod.mk l) u;exact e
theorem places_eq(a b:Nat):Builtin.Slice.slicePlaces (a:Int) (b:Int) 1=b -a:=by
 show(if(a:Int)<b then((b:Int) -a -1)/1+1 else 0).toNat=b -a;by_cases h:(a:Int)<b
 ·rw[if_pos h,Int.ediv_one,Int.sub_add_cancel,Int.toNat_sub]
 ·rw[if_neg h];exact(aem (adv.mp (adM.mp h))).symm
theorem p0{α:Type}(xs:Array α)(a b:Nat):((aba (b -a)).filterMap λ(k:Nat)=>xs[((a:Int)+(k:Int)*1).toNat]?)=(xs.toList.take b).drop a:=by obtain e:(λ(k:Nat)=>xs[((a:Int)+(k:Int)*1).toNat]?)=(xs[·]?)∘(a+·):=funext λk=>congrArg (λn:Nat=>xs[n]?) (by rw[Int.mul_one,<-adN,adD]);rw[e,<-List.filterMap_map,pick_run,List.drop_take]
section
variable {C:Cx}{A:Around}{E:Value->Shared->Prop}{w:Wd}{σ:St}{s:Shared}
theorem mn{prog:Program}{W:World}{v:Value}{k:Option Int}(p:IsPart v k){Q:Option Int->Shared->Prop}(h:Q k s):wpAny (model prog W) A (Builtin.Slice.slicePartIndex v) Q E s:=by
 cases p with
 |none=>exact slicePart_none h
 |int i t=>exact slicePart_int h
theorem pJ{prog:Program}{W:World}{sl:Addr}{vl vu:Value}{lo hi:Option Int}{n:Nat}{Q:Int×Int×Nat->Shared->Prop}(hs:s.heap.IsSliceOf sl vl vu .none)(pl:IsPart vl lo)(pu:IsPart vu hi)
  (h:Q ((uS n lo:Int),1,w5 n hi -uS n lo) s):wpAny (model prog W) A (Builtin.Slice.sliceApplied (.ref sl) (pure (n:Int))) Q E s:=by
 refine hs.elim λos q=> ?_;unfold Builtin.Slice.sliceApplied Builtin.Slice.sliceFields;refine wpAny_bind (wpAny_bind (wpAny_field q.1 q.2.2 (x:=vl) rfl (wpAny_bind (wpAny_field q.1 q.2.2 (x:=vu) rfl (wpAny_bind (wpAny_field q.1 q.2.2 (x:= .none) rfl (wpAny_pure (wpAny_bind (slicePart_none ?_)))))))));refine wpAny_bind (mn pl (wpAny_bind (mn pu (wpAny_bind (wpAny_pure ?_)))));show wpAny _ _ (pure ((Builtin.Slice.sliceAdjust lo hi 1 (n:Int)).1,(1:Int),Builtin.Slice.slicePlaces (Builtin.Slice.sliceAdjust lo hi 1 (n:Int)).1 (Builtin.Slice.sliceAdjust lo hi 1 (n:Int)).2 1)) Q _ s;rw[Dc,places_eq];exact wpAny_pure h
theorem I9(n:Nat)(hi:Option Int):w5 n hi<=n:=by
 cases hi with
 |none=>exact aab _
 |some i=>
  refine Int.toNat_le.mpr ?_;by_cases h:i<0
  ·rw[if_pos h];exact Int.max_le.mpr ⟨adu (Int.add_le_add_right (acI h) _) (Int.le_of_eq (Int.zero_add _)),abl n⟩
  ·rw[if_neg h];exact Int.min_le_right _ _
theorem mq{prog:Program}{W:World}{t sl:Addr}{items:Array Value}{vl vu:Value}{lo hi:Option Int}{Q:Value->Shared->Prop}(ht:IsTup s.heap t items)(hs:s.heap.IsSliceOf sl vl vu .none)(pl:IsPart vl lo)(pu:IsPart vu hi)
  (Qh:(cut items.toList lo hi).length<items.size)
  (h:Q (.ref s.heap.objs.size) {s with heap:=s.heap.push {cls:= .type "tuple",data:= .seq (cut items.toList lo hi).toArray}})
  (Qi:items.size<=sizeLine):wpAny (model prog W) A (getItem (.ref t) (.ref sl)) Q E s:=by
 obtain EP:sizeOk (.seq (cut items.toList lo hi).toArray):=(show(cut items.toList lo hi).toArray.size<=sizeLine from aaa (abD (List.size_toArray ..)) (aaa (acJ Qh) Qi));obtain XI:s.TypeIs (.ref sl) "slice" :=hs.elim λos q=>⟨os,q.1,q.2.1⟩;obtain hlen:(cut items.toList lo hi).length=w5 items.size hi -uS items.size lo:=by simp only[zp,acy,acV,adn,aeR (I9 _ _)]
 rw[hlen]at Qh;refine wpAny_holding (wpAny_bind (wpAny_sequenceKey ht.typeIs (rfl) ?_));refine wpAny_bind (wpAny_callSpecial?_slot (name:=Str.ofString "__getitem__") ht.typeIs slot_tuple_getitem
  (wpAny_call_entry slot_tuple_getitem ht.typeIs entry_tuple_getitem ?_ (args_tuple_getitem _ _)))
 show wpAny _ _ (Builtin.Tuple.tupleItemsOf (.ref t)>>=_) _ _ s;refine wpAny_bind (tupleItemsOf_ ht (wpAny_bind (wpAny_typeOf XI ?_)));refine wpAny_bind (pJ hs pl pu ?_);show wpAny _ _ (if((uS items.size lo:Int)==0 &&(1:Int)==1 &&(w5 items.size hi -uS items.size lo)==items.size)=true then _ else _) _ _ s;rw[if_neg (by simp only[beq_false_of_ne (aaF Qh),adf];decide),(p0 items (uS items.size lo) (w5 items.size hi))]
 first
  |exact wpAny_bind (m:=Builtin.Tuple.tupleExact _) (wpAny_newObj_type (wpAny_pure ⟨_,rfl,wpAny_pure h⟩) EP)
  |exact wpAny_bind (m:=Builtin.Tuple.tupleExact _) (wpAny_newObj_type (wpAny_bind (wpAny_pure (wpAny_pure ⟨_,rfl,wpAny_pure h⟩))) EP)
  |exact wpAny_bind (wpAny_bind (m:=Builtin.Tuple.tupleExact _) (wpAny_newObj_type (wpAny_pure (wpAny_pure ⟨_,rfl,wpAny_pure h⟩)) EP))
theorem bc.cut{W:World}{h:Heap}{w:Wd}{vs:List V}{xs:List Value}(lo hi:Option Int)(r:bc W h w vs xs):bc W h w (cut vs lo hi) (cut xs lo hi):=by simp only[zp,zp,r.length];exact bc.drop _ (bc.take _ r)
theorem Ja(a:List Nat)(k:Nat)(t:Tok)(u:Tok)(hk:0<k):(sliceMade (toStr a) t (some ((k:Int),u)) none none)= .str (toStr (a.drop k))\/((sliceMade (toStr a) t (some ((k:Int),u)) none none)= .val (.str (toStr a) t)/\a.drop k=a):=by
 obtain e:max (0:Int) (min (if(k:Int)<0 then(k:Int)+a.length else k) a.length)=((min k a.length:Nat):Int):=by lia
 have hs:slicePicked (toStr a) (some ((k:Int),u)) none none=(aba (a.length -min k a.length)).map (min k a.length+·):=by show sliceRange (max (0:Int) (min (if(k:Int)<0 then(k:Int)+a.length else k) a.length)) a.length 1=_;rw[e,sliceRange_one]
 cases a with
 |nil=>refine .inr ⟨?_,adT⟩;unfold sliceMade;rw[if_pos (by simp only[hs,aae,abp,List.length_nil,Nat.zero_sub];rfl)]
 |cons x r=>
  left;obtain ne:((slicePicked (toStr (x::r)) (some ((k:Int),u)) none none).length==(toStr (x::r)).length)=false:=by simp only[hs,aae,abp];exact beq_false_of_ne (aaF (Nat.sub_lt (abO _) (Nat.lt_min.mpr ⟨hk,abO _⟩)))
  unfold sliceMade;rw[ne,hs,pick_run,<-acy];refine congrArg (λl:List Nat=>Made.str (toStr l)) ?_;rw[List.take_length];by_cases hb:k<=(x::r).length
  ·rw[aeR hb]
  ·rw[Nat.min_eq_right (aeN hb),List.drop_length,List.drop_eq_nil_of_le (aeN hb)]
theorem Nb(R:Rel C s.heap w σ){c v:V}{lo hi:Option Int}{rev:Bool}{x vl vu vs:Value}{sl:Addr}(hc:VR C.W s.heap w c x)(hs:s.heap.IsSliceOf sl vl vu vs)(pl:IsPart vl lo)(pu:IsPart vu hi)
  (ps:if rev=true then IsPart vs (some (-1))else vs= .none) (e:pI σ c lo hi rev=some v):
  wpAny (model C.prog C.W) A (getItem x (.ref sl)) (bN C aj w σ s v σ) E s:=by
 cases rev with
 |true=>have h0:=ao (av e).1;simp only[aaZ.mp h0.1]at pl;simp only[aaZ.mp h0.2]at pu;refine cQ (av e).2 λws hl e2=>g9 (iG R hc hl) λa items n ex ho hb hr=> ?_;rw[ex,<-aad e2];refine wpAny_getItem_list_slice (bw ho) hs pl pu ps (by decide) ?_ (dY (size_of hr▸hb));rw[krv_pick];exact uP R ((aes ..).symm▸hb) hr.reverse
 |false=>
  simp only[show vs= .none from ps]at hs;have lists:og lo.isNone (om hi λi=>og (decide (0<=i)) (om (cW σ c) λvs=>some (V.bI (vs.take i.toNat))))=some v->wpAny (model C.prog C.W) A (getItem x (.ref sl)) (bN C aj w σ s v σ) E s:=λe=>by simp only[aaZ.mp (av e).1]at pl;refine cQ (av e).2 λk h1 e2=>cQ (av e2).2 λws hl e4=>g9 (iG R hc hl) λa items n ex ho hb hr=> ?_;rw[h1,<-(aco (of_decide_eq_true (av e2).1))]at pu;rw[ex,<-aad e4];refine wpAny_getItem_list_slice (bw ho) hs pl pu .none (by decide) ?_ (dY (size_of hr▸hb));rw[slicePick_upto'];exact uP R (aai (List.length_take_le' _ _) hb) (hr.take _)
  cases c with
  |str a=>
   simp only[aaZ.mp (av e).1]at pu;refine cQ (av e).2 λi h1 e2=> ?_;obtain h0:=of_decide_eq_true (av e2).1;rw[<-aad (av e2).2];simp only[h1]at pl;refine hc.2.elim λt ex=> ?_;rw[ex];obtain hl:(a.drop i.toNat).length<big:=aai ((acy ..).symm▸Nat.sub_le _ _) hc.1;cases pl with
   |int ab u=>
   cases pu;refine wpAny_getItem_str_slice (l:=some (i,u)) (u:=none) (st:=none) hs (rfl) ?_;obtain q:=Ja a i.toNat t u ((Int.lt_toNat (n:=i) (m:=0)).mpr h0);rw[aco (acI h0)]at q;rcases q with q |q
   ·rw[q];exact⟨dY hl,aX R ⟨hl,_,rfl⟩⟩
   ·rw[q.1,q.2];exact bg R ⟨hc.1,_,rfl⟩
  |tup ws=>obtain eX:=of_decide_eq_true (av e).1;rw[<-aad (av e).2];refine fq hc λa items n ex ab ho hb hr=> ?_;obtain wi:=hr.cut lo hi;exact ex▸mq (jR ho) hs pl pu (by simp only[wi.length,size_of hr];exact eX) (uQ R (aaQ eX hb) wi) (dY (size_of hr▸hb))
  |_=>exact lists e
end
theorem qZ{vs:List V}:∀{ns:List Int},intsOf vs=some ns->vs=ns.map .int:=by
 induction vs with
 |nil=>exactλe=>aad e▸rfl
 |cons v vs ih=>exactλe=>cQ e λi h1 e=>cQ e λl h2 e=>aad e▸congr (congrArg abZ (eY h1)) (ih h2)
theorem q7{vs:List V}:∀{ss:List (List Nat)},strsOf vs=some ss->vs=ss.map .str:=by
 induction vs with
 |nil=>exactλe=>aad e▸rfl
 |cons v vs ih=>exactλe=>cQ e λi h1 e=>cQ e λl h2 e=>aad e▸congr (congrArg abZ (iR h1)) (ih h2)
section
variable {α:Type}{f:α->List α->List α}{g:List α->List α}{c:α->α->Prop}{le:α->α->Prop}
theorem w6(h0:∀a,f a []=[a])(h1:∀a b r,f a (b::r)=a::b::r\/f a (b::r)=b::f a r)(a:α)(l:List α):(f a l).Perm (a::l):=by
 induction l with
 |nil=>rw[h0]
 |cons b r ih=>exact(h1 a b r).elim (λe=>e▸.refl _) λe=>e▸(ih.cons b).trans (.swap a b r)
theorem tP(h0:∀a,f a []=[a])(h1:∀a b r,f a (b::r)=a::b::r\/f a (b::r)=b::f a r)(g0:g []=[])(g1:∀a r,g (a::r)=f a (g r))(l:List α):(g l).Perm l:=by
 induction l with
 |nil=>rw[g0]
 |cons a r ih=>rw[g1];exact(w6 h0 h1 a _).trans (ih.cons a)
theorem Bq(h0:∀a,f a []=[a])(h1:∀a b r,(f a (b::r)=a::b::r/\le a b)\/(f a (b::r)=b::f a r/\le b a))(tr:∀a b c,le a b->le b c->le a c)(g0:g []=[])(g1:∀a r,g (a::r)=f a (g r))(l:List α):(g l).Pairwise le:=by
 obtain ins:∀a l,l.Pairwise le->(f a l).Pairwise le:=λa l=>by
  induction l with
  |nil=>rw[h0];exactλab=>aaB ..
  |cons b r ih=>
   refineλh=>(h1 a b r).elim (λe=>e.1▸aaD.mpr ⟨λc hc=>(aam.mp hc).elim (λz=>z▸e.2) λz=>tr _ _ _ e.2 ((aaD.mp h).1 c z),h⟩) λe=>e.1▸?_
   exact aaD.mpr ⟨λc hc=>(aam.mp ((w6 h0 (λa b r=>(h1 a b r).imp ado ado) a r).mem_iff.mp hc)).elim (λz=>z▸e.2) ((aaD.mp h).1 c),ih (aaD.mp h).2⟩
 induction l with
 |nil=>simp only[g0];exact .nil
 |cons a r ih=>rw[g1];exact ins a _ ih
end
theorem FJ(a b:Int)(r:List Int):(insI a (b::r)=a::b::r/\a<=b)\/(insI a (b::r)=b::insI a r/\b<=a):=by
 by_cases h:a<=b
 ·exact .inl ⟨if_pos h,h⟩
 ·exact .inr ⟨if_neg h,acI (aer.mp h)⟩
theorem sortI_perm(l:List Int):(sortI l).Perm l:=tP (f:=insI) (λab=>rfl) (λa b r=>(FJ a b r).imp ado ado) rfl (λab ai=>rfl) l
theorem FK(l:List Int):(sortI l).Pairwise (λx y=>x<=y):=Bq (f:=insI) (λab=>rfl) FJ (λab ai aD=>adu) rfl (λab ai=>rfl) l
theorem q8{a b:List Int}(p:a.Perm b)(h:a.Pairwise (λx y=>x<=y)):a=sortI b:=
 adO (le:=(λx y=>x<=y)) (λab ai aD bO h1 h2=>Int.le_antisymm h1 h2) h (FK b) (p.trans (sortI_perm b).symm)
theorem uT(a:List Nat):∀b,jD a b=decide (a<b):=by
 induction a with
 |nil=>
  intro b;cases b with
  |nil=>exact(decide_eq_false (List.lt_irrefl [])).symm
  |cons=>exact(decide_eq_true (List.nil_lt_cons ..)).symm
 |cons a as ih=>
  intro b;cases b with
  |nil=>exact(decide_eq_false (List.not_lt_nil _)).symm
  |cons b bs=>
   show(if a<b then true else if b<a then false else jD as bs)=_;by_cases h:a<b
   ·rw[if_pos h,decide_eq_true (acA.mpr (.inl h))]
   ·by_cases k:b<a
    ·rw[if_neg h,if_pos k,decide_eq_false λz=>(acA.mp z).elim h λz=>acx _ (z.1▸k)]
    ·obtain e:a=b:=acG (acb.mp k) (acb.mp h);rw[if_neg h,if_neg k,ih];by_cases q:as<bs
     ·rw[decide_eq_true q,decide_eq_true (acA.mpr (.inr ⟨e,q⟩))]
     ·rw[decide_eq_false q,decide_eq_false λz=>(acA.mp z).elim h λz=>q z.2]
theorem Nc(a b:List Nat):jD a b=ltCps a b:=(uT a b).trans (ltCps_eq a b).symm
theorem LQ{a b:List Nat}:jD a b=false↔b<=a:=by rw[uT,decide_eq_false_iff_not];exact List.not_lt
theorem FL(a b:List Nat)(r:List (List Nat)):(sW a (b::r)=a::b::r/\a<=b)\/(sW a (b::r)=b::sW a r/\b<=a):=by
 cases h:jD b a with
 |false=>exact .inl ⟨if_neg (abB.mp h),LQ.mp h⟩
 |true=>exact .inr ⟨if_pos h,List.le_of_lt (of_decide_eq_true ((uT b a).symm.trans h))⟩
theorem q9(l:List (List Nat)):(kY l).Perm l:=tP (f:=sW) (λab=>rfl) (λa b r=>(FL a b r).imp ado ado) rfl (λab ai=>rfl) l
theorem FN(l:List (List Nat)):(kY l).Pairwise (λx y=>x<=y):=Bq (f:=sW) (λab=>rfl) FL (λab ai aD=>aeV) rfl (λab ai=>rfl) l
theorem Nd{x y:Str}(h:ltCps y.cps.toList x.cps.toList=false):x.cps.toList<=y.cps.toList:=LQ.mp ((Nc ..).trans h)
theorem zq(l:List Str):∀(p:Str),risingS p l=true->(p::l).Pairwise (λa b=>a.cps.toList<=b.cps.toList):=by
 induction l with
 |nil=>exactλab ai=>aaB ..
 |cons x r ih=>intro p h;obtain h:=ao h;obtain k:=ih x h.2;obtain e:=Nd ((abC _).mp h.1);exact aaD.mpr ⟨λc hc=>(aam.mp hc).elim (λz=>z▸e) λz=>aeV e ((aaD.mp k).1 c z),k⟩
theorem zr(l:List Str)(h:sortedS l=true):l.Pairwise (λa b=>a.cps.toList<=b.cps.toList):=by
 cases l with
 |nil=>exact .nil
 |cons x r=>exact zq r x h
theorem zt{a b:List (List Nat)}(p:a.Perm b)(h:a.Pairwise (λx y=>x<=y)):a=kY b:=
 adO (le:=(λx y=>x<=y)) (λab ai aD bO h1 h2=>List.le_antisymm h1 h2) h (FN b) (p.trans (q9 b).symm)
section
variable {C:Cx}{A:Around}{E:Value->Shared->Prop}{w:Wd}{σ:St}{s:Shared}
theorem FO{W:World}{h:Heap}{w:Wd}{ns:List Int}:∀{xs:List Value},bc W h w (ns.map .int) xs->IntsAre xs ns:=by
 induction ns with
 |nil=>exactλ{xs} e=>(show xs=[]from e)▸.nil
 |cons n ns ih=>exactλq=>q.CZ λx xs h r e=>h.elim λt z=>e▸z▸.cons _ t (ih r)
theorem Bs{W:World}{h:Heap}{w:Wd}{ns:List Int}{xs:List Value}(q:IntsAre xs ns):bc W h w (ns.map .int) xs:=by
 induction q with
 |nil=>rfl
 |cons ab t ai ih=>exact .cons ⟨t,rfl⟩ ih
theorem FP{W:World}{h:Heap}{w:Wd}{ns:List (List Nat)}:∀{xs:List Value},bc W h w (ns.map .str) xs->StrsAre xs (ns.map toStr)/\∀n∈ns,n.length<big:=by
 induction ns with
 |nil=>exactλ{xs} e=>(show xs=[]from e)▸⟨.nil,aar _⟩
 |cons n ns ih=>exactλq=>q.CZ λx xs h r e=>h.2.elim λt z=>e▸z▸⟨.cons _ t (ih r).1,aaX.mpr ⟨h.1,(ih r).2⟩⟩
theorem Jc{W:World}{h:Heap}{w:Wd}{ss:List Str}{xs:List Value}(q:StrsAre xs ss):(∀s∈ss,s.cps.toList.length<big)->bc W h w (ss.map λs=> .str s.cps.toList) xs:=by
 induction q with
 |nil=>exactλab=>rfl
 |cons ab t ai ih=>exactλhb=> .cons ⟨hb _ aac,t,rfl⟩ (ih λs hs=>hb s (aaf _ hs))
theorem o4{vs:List V}{a:Addr}{out:Array Value}{n:Nat}{h':Heap}{tk:Tok}(R:Rel C s.heap w σ)(hb:vs.length<big)(G:Grows s.heap h')(hn:s.heap.get? a=none)(ho:h'.get? a=some (jm out n))
  (hr:∀w,bc C.W h' w vs out.toList):bN C aj w σ s (.bI vs) σ (.ref a) {s with heap:=h',toks:=tk}:=
 ⟨_,After.fY (own:=aj) R G hn ⟨_,ho⟩,jl a out n rfl (.inr rfl) ho hb (hr _)⟩
noncomputable def Dd:Bi->Value
 | .len=> .builtin "len" | .sorted=> .builtin "sorted" | .tuple=> .type "tuple" | .dict=> .type "dict" | .any=> .builtin "any" | .isStr=> .builtin "isinstance" | .range=> .type "range"
noncomputable def Nf:Bi->Value->List Value
 | .isStr,x=>[x,.type "str"]
 |ab,x=>[x]
theorem Ng(O:C.Ok)(R:Rel C s.heap w σ){v:V}{x:Value}{n:Nat}(hx:VR C.W s.heap w v x)(e:MM σ v=some n):wpAny (model C.prog C.W) A (call (.builtin "len") [x]) (bN C aj w σ s (.int n) σ) E s:=by
 unfold MM at e;cases hs:jL σ v with
 |some vs=>rw[hs]at e;refine g9 (zi R hx hs) λp items n ex ho hb hr=> ?_;obtain Qi:=size_of hr;rw[ex,<-aad e,<-Qi];exact ho.elim (λho=>PyProof.Rows.len_list (bw ho) (ml (Qi▸hb)) (aX R ⟨_,rfl⟩)) λho=>PyProof.Rows.len_tuple (jR ho) (ml (Qi▸hb)) (aX R ⟨_,rfl⟩)
 |none=>rw[hs]at e;refine cQ e λq hd e=>gD (iH O R hx hd) λd ex yP hb di=>gD (tK (Pc C.prog C.W) di (av e).1) λbK hm ek ab ai=> ?_;obtain el:bK.length=q.1.length:=(aae ..).symm.trans (congrArg abw ek);rw[ex,<-aad (av e).2,<-el];exact call_len_dict (beq_false_of_ne yP) hm (ml (el▸hb)) (aX R ⟨_,rfl⟩)
theorem w7{h h':Heap}(hk:∀b o,h.get? b=some o->h'.get? b=some o):h.get? h'.objs.size=none:=none_or.elim id λx=>x.elim λab q=>absurd (Heap.lt_size (hk _ _ q)) (acx _)
theorem uU{prog:Program}{W:World}(l:List Value):∀(bK:List (Int×Value)),l.length=bK.length->(∀(j:Nat) (v:Value),l[j]? =some v->∃k x,bK[j]? =some (k,x)/\(intKind prog W).is k v=true)->IntsAre l (bK.map (λx=>x.1)):=by
 induction l with
 |nil=>
  intro bK hl dJ;cases bK with
  |nil=>exact .nil
  |cons=>exact nomatch hl
 |cons a l ih=>
  intro bK hl hj;cases bK with
  |nil=>exact nomatch hl
  |cons p bK=>
   exact eO (hj 0 a rfl) λk x h1 h2=>(Value.isInt_shape h2).elim λt e=>by rw[e,aad (show some p=some (k,x)from h1)];exact .cons _ t (ih bK (acm hl) λj v e=>hj (j+1) v e)
theorem Qj{n:Nat}(h:n<64):n<big:=aaQ h (by decide)
theorem Jd{a b:List Int}(h:a.map V.int=b.map V.int):a=b:=aew (λab ai=>V.int.inj) |>.mp h
theorem De(O:C.Ok)(hh:A.handled=none)(R:Rel C s.heap w σ){v:V}{x:Value}{us:List V}(hx:VR C.W s.heap w v x)(e:iu σ v=some us):wpAny (model C.prog C.W) A (call (.builtin "sorted") [x]) (bN C aj w σ s (.bI us) σ) E s:=by
 obtain Qk:(64:Nat)<=sizeLine:=aaa (aaq rfl) FC;unfold iu at e;cases hs:cW σ v with
 |some vs=>
  rw[hs]at e;have Je:=of_decide_eq_true (av e).1;have e:=(av e).2;refine g9 (iG R hx hs) λp items n ex ho ab hr=> ?_;rw[ex];obtain hl:=bw ho;have sz:=hr.length▸Je;have fin:∀{Pf:List V} {out:Array Value},Pf.length=vs.length->(∀w,bc C.W (sortedAll s.heap items.toList out) w Pf out.toList)->bN C aj w σ s (.bI Pf) σ (.ref (s.heap.objs.size+1)) {s with heap:=sortedAll s.heap items.toList out}:=λel k=>
   (sortedAll_at s.heap items.toList _).elim λm hk=>o4 (tk:=s.toks) R (el▸Qj Je) ⟨λab ai e=>sortedAll_old e⟩ (uK (aaK _)) hk k
  cases hi:intsOf vs with
  |some ns=>rw[hi]at e;rw[<-aad e];obtain ev:=qZ hi;refine sorted_ints (l:=p) (vs:=items.toList) hl (FO (ev▸hr)) sz λout VG h1 h2 h3=> ?_;simp only[<-q8 h2 h3];exact fin (by simp only[ev,aae,aae,h2.length_eq]) λw=>Bs h1
  |none=>
   rw[hi]at e;refine cQ e λss XJ e=> ?_;rw[<-aad e];obtain ev:=q7 XJ;have hS:=FP (ev▸hr);refine sorted_strs (l:=p) (vs:=items.toList) hl hS.1 sz λout XK h1 h2 h3=> ?_;obtain hp:(XK.map λs:Str=>s.cps.toList).Perm ss:=by obtain this:=h2.map λs:Str=>s.cps.toList;simp only[aay,show((λs:Str=>s.cps.toList)∘toStr)=id from rfl,adC]at this;exact this
   simp only[<-zt hp (abR.mpr (zr _ h3)),aay];exact fin (by simp only[ev,aae,aae,<-hp.length_eq,aae]) λw=>Jc h1 λs hs=>(aal.mp (h2.mem_iff.mp hs)).elim λn q=>q.2▸hS.2 n q.1
 |none=>rw[hs]at e;refine cQ e λq hd e=>cQ (av e).2 λns hi e'=> ?_;have Je:=of_decide_eq_true (av e).1;obtain eq:=qZ hi;rw[<-aad e'];refine gD (iH O R hx hd) λd ex yP hb di=>gD (tK (Pc C.prog C.W) di (by rw[eq,abN];exact aas.mpr λab ai=>rfl)) λbK hm VH ab ai=> ?_;rw[ex];obtain XM:bK.map (λx=>x.1)=ns:=Jd ((aay (f:=λp:Int×Value=>p.1) (g:=V.int) (l:=bK)).trans (VH.trans eq));obtain XN:bK.length=q.1.length:=(aae ..).symm.trans (congrArg abw VH);have VI:=XN▸Je;refine hm.dictAt.elim λep TJ=> ?_;refine call_function_entry kind_sorted plain_sorted entry_sorted (args_sorted1 _) ?_;unfold Builtin.«sorted»;refine wpAny_bind (m:=checkCount "sorted" 1 1 _) (wpAny_pure ?_);refine wpAny_bind (kdu_collect (A:=A.in1) (kdl_dict (beq_false_of_ne yP)) hh TJ (acJ (aak VI Qk)) λh' tk acc hk Ql=> ?_);have VJ:=(adn ..).trans Ql.1;obtain Qm:=VJ▸VI;refine wpAny_bind (wpAny_newList ?_ (acJ (aak Qm Qk)));obtain hI:IntsAre acc.toList ns:=XM▸uU (prog:=C.prog) (W:=C.W) _ _ VJ λj v e=>Ql.2 j v ((abu ..).symm.trans e);refine wpAny_bind (wpAny_holding (wpAny_call_entry slot_list_sort ⟨_,Heap.get?_push_size _ rfl,rfl⟩ entry_list_sort (list_sort_tree (vs:=acc.toList) (n:=0) (Heap.get?_push_size _ rfl) hI Qm λout VG a1 a2 a3=>⟨_,rfl,wpAny_pure ⟨_,rfl,?_⟩⟩) (args_list_sort _)));refine(sortedHeap_at (h:=h'.push {cls:= .type "list",dict:=none,data:= .seq acc.toList.toArray,slots:= #[]}) (a:=h'.objs.size) (vs:=acc.toList) (n:=0) (out:=out) (Heap.get?_push_size _ rfl)).elim λk TL=> ?_;simp only[<-q8 a2 a3];refine o4 (vs:=VG.map V.int) (tk:=tk) R (by simp only[aae,a2.length_eq,<-aae (f:=V.int) (as:=ns),<-eq];exact Qj Je) ⟨λb o e=> ?_⟩ (w7 hk) TL λw=>Bs a1;obtain eX:=Heap.lt_size (hk b o e);exact((sortedHeap_old (aaF eX) (by simp only[Heap.size_push];exact abq eX))).trans (Heap.get?_push_of_some _ (hk b o e))
theorem Df(R:Rel C s.heap w σ){ks vs:List V}(hb:ks.length<big){h':Heap}{tk:Tok}(tO:Heap.SameBut s.heap.objs.size (s.heap.push {cls:= .type "dict",data:= .dict #[]}) h')(hD:∀w',fQ s.heap w h' w'->hZ C.W h' w' s.heap.objs.size ks vs):
  bN C aj w σ s (.loc σ.n) (σ.new (.bV ks vs)) (.ref s.heap.objs.size) {s with heap:=h',toks:=tk}:=by
 obtain G:Grows s.heap h':=⟨λb o e=>(tO.2 b (aaF (Heap.lt_size e))).trans (Heap.get?_push_of_some _ e)⟩;obtain en:=w.kZ s.heap.objs.size s.heap.objs.size;refine eO (hD (w.fV s.heap.objs.size s.heap.objs.size) ⟨aaK _,λl hl=>w.uM _ _ hl,λab h=>h,λx q ab e=>G.keep x q e⟩) λes n h1 h2=> ?_;exact⟨_,After.fV (own:=aj) (tk:=tk) R G (dj _) (dI es n (en.1.symm▸h1) (en.2.trans en.1.symm) hb h2),R.n▸aap _,congrArg Value.ref (R.n▸en.1.symm)⟩
theorem LR(O:C.Ok)(hh:A.handled=none)(R:Rel C s.heap w σ){b:Bi}{v r:V}{x:Value}{aq:St}(hb:b≠.any)(hx:VR C.W s.heap w v x)(e:sX σ b v=some (r,aq)):
  wpAny (model C.prog C.W) A (call (Dd b) (Nf b x)) (bN C aj w σ s r aq) E s:=by
 have fin:∀{qM:V} {wL:St} {m:Sem Value},some (qM,wL)=some (r,aq)->wpAny (model C.prog C.W) A m (bN C aj w σ s qM wL) E s->wpAny (model C.prog C.W) A m (bN C aj w σ s r aq) E s:=λe h=>by obtain e:=abG (aad e);simp only[<-e.1,<-e.2];exact h
 cases b with
 |any=>exact absurd rfl hb
 |len=>exact cQ e λn h1 e1=>fin e1 (Ng O R hx h1)
 |sorted=>exact cQ e λn h1 e1=>fin e1 (De O hh R hx h1)
 |tuple=>refine cQ e λvs hs e1=>g9 (iG R hx hs) λp items n ex ho hb hr=>ex▸fin e1 (call_tuple_list (bw ho) (λh' hk=> ?_) (dY (size_of hr▸hb)));obtain G:Grows s.heap (h'.push {cls:= .type "tuple",data:= .seq items}):=⟨λb o e=>Heap.get?_push_of_some _ (hk b o e)⟩;obtain a:=After.fY (own:=aj) (tk:=s.toks) R G (w7 hk) ⟨_,Heap.get?_push_size _ rfl⟩;exact⟨_,a,jl _ items 0 rfl (.inr rfl) (Heap.get?_push_size _ rfl) hb (bc.aI (a.aI R (hO w)) _ _ hr)⟩
 |dict=>
  refine cQ e λq hd e1=>gD (iH O R hx hd) λd ex yP hb di=>ex▸fin (av e1).2 ?_;obtain go:∀{K:Type} [DecidableEq K] {knd:KeyKind C.prog C.W K} {κ:K->V} {p:V->Bool} {ok:K->Prop} (_:KV C.prog C.W knd κ p ok),q.1.all p=true->wpAny (model C.prog C.W) A (call (.type "dict") [.ref d]) (bN C aj w σ s (.loc σ.n) (σ.new (.bV q.1 q.2))) E s:=λH hk=>
   gD (tK H di hk) λbK hm ek M9 ok=>kt_call_dict (beq_false_of_ne yP) hm (dY (aae ..▸ek▸hb)) λh' FI tO=>Df R hb tO λw' S=>ek▸Bh H FI (bc.aI S _ _ M9) ok
  exact((abd ..).mp (av e1).1).elim (go (Pc ..)) (go (TC ..))
 |isStr=>
  refine cQ e λc h1 e1=> ?_;cases v with
  |int i=>exact hx.elim λt ex=>ex▸fin e1 (aad h1▸IsiPair.int_str (aX R rfl))
  |str i=>exact hx.2.elim λt ex=>ex▸fin e1 (aad h1▸IsiPair.str_str (bg R rfl))
  |_=>exact no h1
 |range=>refine cQ e λi h1 e1=> ?_;rw[eY h1]at hx;refine hx.elim λt ex=>ex▸fin (av e1).2 ?_;rw[<-aco (of_decide_eq_true (av e1).1)];exact call_range_1 (qW R rfl λS ho=>⟨s.heap.objs.size,s.toks,t,s.toks+1,rfl,.inr rfl,ho⟩)
end
section
variable {C:Cx}{A:Around}{E:Value->Shared->Prop}{w:Wd}{σ:St}{s:Shared}
theorem After.own{I:Addr}{h':Heap}{tk:Tok}(R:Rel C s.heap w σ)(hI:w.ε I)(hk:∀b o,b≠I->s.heap.get? b=some o->h'.get? b=some o)(hl:∃o,h'.get? I=some o):
  After C (λb=>b=I) w σ s w σ {s with heap:=h',toks:=tk}:=by
 obtain Sj:∀a,w.φ a->a≠I:=λa ha e=>R.iF a ha (e▸hI);have to:∀a,(∃o,s.heap.get? a=some o)->∃o,h'.get? a=some o:=λa h=>by
  by_cases e:a=I
  ·exact e▸hl
  ·exact h.elim λo q=>⟨o,hk a o e q⟩
 exact⟨⟨_,_,rfl⟩,R.keeps ⟨aab _,λab ai=>rfl,λab h=>h,λb o hb e=>hk b o (Sj b hb) e⟩ rfl (λab ai=>rfl) (λl hl hd o e=>hk _ o (λe=>(R.fr l (R.n▸hl) hd).2 (e▸hI)) e) (λab h=> .inl h) (λab h=> .inl h)
   (λa ha=>to a (R.jO a ha)) (λa ha=>to a (R.ip a ha)) R.iF,aab _,λab ai=>⟨rfl,rfl⟩,λab h=>h,λab h=>h,λb o e ab ho=>hk b o ho e,λab hl hd=> .inl ⟨hl,hd⟩,λb o e=>to b ⟨o,e⟩⟩
theorem After.fZ{h':Heap}{tk:Tok}{p:Addr->Prop}(R:Rel C s.heap w σ)(G:Grows s.heap h')(hn:∀a,p a->s.heap.get? a=none)(hl:∀a,p a->∃o,h'.get? a=some o):
  After C aj w σ s (w.fZ p) σ {s with heap:=h',toks:=tk} where
 st:=⟨_,_,rfl⟩
 rel:=R.keeps ⟨aab _,λab ai=>rfl,λab h=>h,λb o ab e=>G.keep b o e⟩ rfl (λab ai=>rfl) (λab ai aD o e=>G.keep _ o e)
  (λab h=> .inl h) (λb h=>h.imp id λq=>hn b q)
  (λb h=>G.at (R.jO b h)) (λb h=>h.elim (λq=>G.at (R.ip b q)) λq=>hl b q)
  (λb h q=>q.elim (R.iF b h) λz=>cj (R.jO _ h) (hn b z))
 le:=aab _
 same:=λab ai=>⟨rfl,rfl⟩
 φ:=λab h=>h
 ε:=λab h=> .inl h
 keep:=λb o e ab ai=>G.keep b o e
 new:=λab hl hd=> .inl ⟨hl,hd⟩
 alive:=λb o e=>⟨o,G.keep b o e⟩
noncomputable def Wd.iJ(w:Wd)(p:Addr->Prop):Wd:={w with ε:=λa=>w.ε a/\¬p a}
theorem After.FQ{own p:Addr->Prop}{nK:Wd}{iW:St}{fh:Shared}{h':Heap}{tk:Tok}(R₀:Rel C fh.heap nK iW)(a:After C own nK iW fh w σ s)(hp:∀b,p b->fh.heap.get? b=none)(Jf:∀b,p b->w.ε b)
  (hk:∀b o,¬p b->s.heap.get? b=some o->h'.get? b=some o):After C own nK iW fh (w.iJ p) σ {s with heap:=h',toks:=tk}:=by
 obtain Sj:∀b,w.φ b->¬p b:=λb hb e=>a.rel.iF b hb (Jf b e);obtain old:∀b o,fh.heap.get? b=some o->¬p b:=λb o e q=>no ((hp b q).symm.trans e);exact⟨sO a.st λab ai e=>⟨h',tk,congrArg (λx:Shared=>{x with heap:=h',toks:=tk}) e⟩,a.rel.keeps ⟨aab _,λab ai=>rfl,λab h=>h,λb o hb e=>hk b o (Sj b hb) e⟩ rfl (λab ai=>rfl) (λl hl hd o e=>hk _ o (λe=>(a.rel.fr l (a.rel.n▸hl) hd).2 (Jf _ e)) e) (λab h=> .inl h) (λab h=> .inl h.1)
   (λb hb=>(a.rel.jO b hb).elim λo e=>⟨o,hk b o (Sj b hb) e⟩) (λb hb=>(a.rel.ip b hb.1).elim λo e=>⟨o,hk b o hb.2 e⟩) λb hb q=>a.rel.iF b hb q.1,a.le,a.same,a.φ,λb hb=>⟨a.ε b hb,λq=>cj (R₀.ip b hb) (hp b q)⟩,λb o e hu Qh=>hk b o (old b o e) (a.keep b o e hu Qh),a.new,λb o e=>(a.alive b o e).elim λo' e'=>⟨o',hk b o' (old b o e) e'⟩⟩
theorem After.drop{own p:Addr->Prop}{nK:Wd}{iW:St}{fh:Shared}{h':Heap}{tk:Tok}(R₀:Rel C fh.heap nK iW)(a:After C own nK iW fh w σ s)(ho:∀b,own b->fh.heap.get? b=none)(hp:∀b,p b->fh.heap.get? b=none)(Jf:∀b,p b->w.ε b)
  (hk:∀b o,¬p b->s.heap.get? b=some o->h'.get? b=some o):After C aj nK iW fh (w.iJ p) σ {s with heap:=h',toks:=tk}:=
 (After.FQ R₀ a hp Jf hk).mono λb ab e q=>no ((ho b q).symm.trans e)
structure Iter(C:Cx)(I:Addr)(vs:List V)(i:Nat)(h:Heap)(w:Wd):Prop where
 ε:w.ε I
 at_:∃(fp:List Addr) (P:Nat->Value->Prop) (S:Nat->Heap->Prop),(∀A,A.handled=none->Walks C.prog C.W A I fp [I] vs.length P S)/\
  (∀i h h',S i h->(∀b∈fp,∀o,h.get? b=some o->h'.get? b=some o)->S i h')/\(∀b∈fp,b=I\/w.φ b)/\(∀i v u,vs[i]? =some v->P i u->VR C.W h w v u)/\S i h/\∀i h,S i h->∃o,h.get? I=some o
theorem Iter.to{h h':Heap}{w':Wd}{I:Addr}{vs:List V}{i j:Nat}(it:Iter C I vs i h w)(S:fQ h w h' w')(za:w'.ε I){fp:List Addr}{P:Nat->Value->Prop}{T:Nat->Heap->Prop}(k1:∀A,A.handled=none->Walks C.prog C.W A I fp [I] vs.length P T)
  (k2:∀i h h',T i h->(∀b∈fp,∀o,h.get? b=some o->h'.get? b=some o)->T i h') (k3:∀b∈fp,b=I\/w.φ b) (k4:∀i v u,vs[i]? =some v->P i u->VR C.W h w v u) (k5:T j h') (k6:∀i h,T i h->∃o,h.get? I=some o):Iter C I vs j h' w':=
 ⟨za,EY fp P T k1 k2 (λb hb=>(k3 b hb).imp id (S.φ b)) (λi v u e q=>VR.aI S _ _ (k4 i v u e q)) k5 k6⟩
theorem Iter.keep{h h':Heap}{w':Wd}{I:Addr}{vs:List V}{i:Nat}(it:Iter C I vs i h w)(S:fQ h w h' w')(za:w'.ε I)(hk:∀o,h.get? I=some o->h'.get? I=some o):Iter C I vs i h' w':=
 CP it.at_ λab ai aD k1 k2 k3 k4 k5 k6=>it.to S za k1 k2 k3 k4 (k2 i h h' k5 λb hb o e=>(k3 b hb).elim (λq=>q▸hk o (q▸e)) λq=>S.at_ b o q e) k6
theorem Iter.after{w':Wd}{aq:St}{s':Shared}{I:Addr}{vs:List V}{i:Nat}(it:Iter C I vs i s.heap w)(R:Rel C s.heap w σ)(a:After C aj w σ s w' aq s'):Iter C I vs i s'.heap w':=
 it.keep (a.aI R (hO w)) (a.ε _ it.ε) λo e=>a.lD R I o it.ε e
theorem lI(R:Rel C s.heap w σ){c:V}{x:Value}{vs:List V}(hc:VR C.W s.heap w c x)(e:itemsOf c=some vs):
  wpAny (model C.prog C.W) A (pyIter x) (λit fR=>∃I,it= .ref I/\s.heap.get? I=none/\After C aj w σ s (w.fZ λb=>b=I) σ fR/\Iter C I vs 0 fR.heap (w.fZ λb=>b=I)) E s:=by
 have key:∀(o:Obj) (fp:List Addr) (P:Nat->Value->Prop) (T:Nat->Heap->Prop),o.isFreed=false->(∀A,A.handled=none->Walks C.prog C.W A s.heap.objs.size fp [s.heap.objs.size] vs.length P T)->
   (∀i h h',T i h->(∀b∈fp,∀o,h.get? b=some o->h'.get? b=some o)->T i h')->(∀b∈fp,b=s.heap.objs.size\/w.φ b)->(∀i v u,vs[i]? =some v->P i u->VR C.W s.heap w v u)->
   ((s.heap.push o).get? s.heap.objs.size=some o->T 0 (s.heap.push o))->(∀i h,T i h->∃o,h.get? s.heap.objs.size=some o)->
   ∃I,Value.ref s.heap.objs.size= .ref I/\s.heap.get? I=none/\After C aj w σ s (w.fZ λb=>b=I) σ {s with heap:=s.heap.push o}/\Iter C I vs 0 (s.heap.push o) (w.fZ λb=>b=I):=λo fp P T hf k1 k2 k3 k4 k5 k6=>by
  have a:After C aj w σ s (w.fZ λb=>b=s.heap.objs.size) σ {s with heap:=s.heap.push o}:=After.fZ R (Grows.push _ _) (λa q=>q▸dj _) λa q=>q▸⟨_,Heap.get?_push_size _ hf⟩;exact wy s.heap.objs.size rfl (dj _) a ⟨.inr rfl,EY fp P T k1 k2 k3 (λi v u e q=>VR.aI (a.aI R (hO w)) _ _ (k4 i v u e q)) (k5 (Heap.get?_push_size _ hf)) k6⟩
 obtain new:∀a,w.φ a->a≠s.heap.objs.size:=λa ha e=>cj (R.jO a ha) (e▸dj _);obtain Jg:∀(a:Addr) (items:Array Value),w.φ a->bc C.W s.heap w vs items.toList->(∀b∈[s.heap.objs.size,a],b=s.heap.objs.size\/w.φ b)/\∀(i:Nat) v u,vs[i]? =some v->items[i]? =some u->VR C.W s.heap w v u:=λa items f r=>
  ⟨λb hb=>(aam.mp hb).imp id λhb=>(show b=a from aag.mp hb)▸f,λi v u e q=>ah (r.get e) λz hz hr=>aad (hz.symm.trans (abu.trans q))▸hr⟩
 cases c with
 |tup us=>
  refine fq hc λa items n ex f ho ab r=> ?_;rw[aad e]at r;rw[ex];exact wpAny_pyIter_tuple (bQ ho) (key _ _ _ _ rfl (λA hh=>size_of r▸Walks.tuple hh _ a (new a f) items) (λab ai aD t k=>⟨t.1.at λo e=>k _ aac o e,t.2.at λo e=>k _ (aaf _ aac) o e⟩) (Jg a items f r).1 (Jg a items f r).2
   (λh=>⟨⟨_,h,rfl,rfl⟩,bQ (Heap.get?_push_of_some _ ho)⟩) λab ai t=>t.1.elim λo q=>⟨o,q.1⟩)
 |bI us=>
  refine fq hc λa items n ex f ho ab r=> ?_;rw[aad e]at r;rw[ex];exact wpAny_pyIter_list (bw ho) (key _ _ _ _ rfl (λA hh=>size_of r▸Walks.list hh _ a (new a f) items) (λab ai aD t k=>⟨t.1.at λo e=>k _ aac o e,t.2.at λo e=>k _ (aaf _ aac) o e⟩) (Jg a items f r).1 (Jg a items f r).2
   (λh=>⟨⟨_,h,rfl,rfl⟩,bw (Heap.get?_push_of_some _ ho)⟩) λab ai t=>t.1.elim λo q=>⟨o,q.1⟩)
 |CR n=>
  obtain ev:=aad (av e).2;have hn:=nH (of_decide_eq_true (av e).1);refine IT hc λa t u v ex f ho=> ?_;rw[ex];refine wpAny_pyIter_range (a:=0) (b:=n) (c:=1) ho (small_one (by decide) (by simp+arith) (by simp+arith) (by lia)) (key _ _ (λ(i:Nat) v=>∃t,v= .int (0+(i:Int)*1) t) (λ(i:Nat) h=>IsRangeIter h s.heap.objs.size (0+(i:Nat)*1) ((n:Int) -(i:Nat)) 1) rfl (λA hh=> ?_) (λab ai aD t k=>k _ aac _ t) (λb hb=> .inl (aag.mp hb)) (λi v u e q=> ?_) (λh=>h.trans ?_) λab ai t=>⟨_,t⟩)
  ·obtain this:=Walks.range (prog:=C.prog) (w:=C.W) hh s.heap.objs.size 0 1 n;simp only[<-ev,aae,abp];exact this
  ·rw[<-ev,abI]at e;refine q.elim λt q=>q▸?_;have hi:i<n:=by
    rcases Nat.lt_or_ge i n with h |h
    ·exact h
    ·rw[ace (by rw[abp];exact h)]at e;exact no e
   rw[List.getElem?_range hi]at e;exact(aad e)▸⟨t,by rw[Int.zero_add,Int.mul_one]⟩
  ·obtain e1:Builtin.Range.rangeSize 0 (n:Int) 1=(n:Int) -(0:Nat):=by rw[rangeSize_one];split<;>lia
   exact e1▸rfl
 |_=>exact no e
theorem nO(hh:A.handled=none)(R:Rel C s.heap w σ){I:Addr}{vs:List V}{i:Nat}{v:V}(it:Iter C I vs i s.heap w)(e:vs[i]? =some v){Q:Option Value->Shared->Prop}
  (hq:∀u s',After C (λb=>b=I) w σ s w σ s'->(∀b o,b≠I->s.heap.get? b=some o->s'.heap.get? b=some o)->VR C.W s'.heap w v u->Iter C I vs (i+1) s'.heap w->Q (some u) s'):wpAny (model C.prog C.W) A (pyNext (.ref I)) Q E s:=
 CP it.at_ λab ai aD k1 k2 k3 k4 k5 k6=>(k1 A hh).item i s Q E (abg.mp e).1 k5 λu h' tk p t k=>by obtain k':∀b o,b≠I->s.heap.get? b=some o->h'.get? b=some o:=λb o hb=>k b o λz=>hb (aag.mp z);obtain a:=After.own (tk:=tk) R it.ε k' (k6 _ _ t);obtain S:=a.aI R λb h=>h▸it.ε;exact hq _ _ a k' (VR.aI S _ _ (k4 _ _ _ e p)) (it.to S it.ε k1 k2 k3 k4 t k6)
theorem rb(hh:A.handled=none){I:Addr}{vs:List V}{i:Nat}(it:Iter C I vs i s.heap w)(e:i=vs.length){Q:Option Value->Shared->Prop}
  (hq:∀h' tk,(∀b o,b≠I->s.heap.get? b=some o->h'.get? b=some o)->Q none {s with heap:=h',toks:=tk}):wpAny (model C.prog C.W) A (pyNext (.ref I)) Q E s:=
 CP it.at_ λab ai aD k1 k2 k3 k4 k5 bO=>(k1 A hh).done s Q E (e▸k5) λh' tk k=>hq h' tk λb o hb=>k b o λz=>hb (aag.mp z)
theorem Dg(hh:A.handled=none){I:Addr}{vs:List V}{i:Nat}(it:Iter C I vs i s.heap w){Q:Value->Shared->Prop}(hq:Q (.ref I) s):wpAny (model C.prog C.W) A (pyIter (.ref I)) Q E s:=
 CP it.at_ λab ai aD k1 bO fc ny k5 wj=>(k1 A hh).self i s Q E k5 hq
theorem FV(hh:A.handled=none){RR:Result->Shared->Prop}{I:Addr}{vs:List V}{b:Bool}(k:Nat):∀(i:Nat) (s:Shared),vs.length=i+k->Rel C s.heap w σ->Iter C I vs i s.heap w->IW σ (vs.drop i)=some b->
  (∀h' tk,(∀b o,b≠I->s.heap.get? b=some o->h'.get? b=some o)->RR (.ok (.ret (.bool b))) {s with heap:=h',toks:=tk})->
  codeAny (model C.prog C.W) A (.builtin "any.loop" ⟨[.ref I],[]⟩) RR s:=by
 induction k with
 |zero=>intro i s hk R it e hR;refine codeAny_builtin F.entry_any_loop ?_;refine wpAny_bind (rb (A:=A.in1) hh it hk.symm λh' tk IC=> ?_);refine wpAny_bind (wpAny_rule (wpAny_pure ?_));rw[ade (show vs.length<=i from abD hk)]at e;rw[<-aad e]at hR;exact hR h' tk IC
 |succ k ih=>
  intro i s hk R it e hR;have eX:=abP (acs (abO k)) hk.symm;rw[acT eX]at e;refine cQ e λc ht e=> ?_;refine codeAny_builtin F.entry_any_loop ?_;refine wpAny_bind (nO (A:=A.in1) hh R it (aaP eX) λu s' a ak hu VK=> ?_);refine sO a.st λh1 t1 es=> ?_;rw[es]at a ak hu VK⊢;refine wpAny_bind (wpAny_holding (qY a.rel hu ht λtk=> ?_));refine wpAny_bind (wpAny_letGo ?_);cases c with
  |false=>exact wpAny_pure ⟨plainId_quiet F.plain_any_loop _,ih (i+1) _ (hk.trans (aec i k).symm) a.rel VK e λQo TM TN=>hR Qo TM λb o hb q=>TN b o hb (ak b o hb q)⟩
  |true=>rw[<-aad e]at hR;exact wpAny_bind (wpAny_rule (wpAny_pure (hR h1 tk ak)))
end
section
variable {C:Cx}{A:Around}{E:Value->Shared->Prop}{w:Wd}{σ:St}{s:Shared}
theorem Nh(hh:A.handled=none)(R:Rel C s.heap w σ){v r:V}{x:Value}{aq:St}(hx:VR C.W s.heap w v x)(e:sX σ .any v=some (r,aq)):
  wpAny (model C.prog C.W) A (call (.builtin "any") [x]) (bN C aj w σ s r aq) E s:=by
 refine cQ e λvs h1 e=>cQ e λb hb e=> ?_;simp only[<-(abG (aad e)).1,<-(abG (aad e)).2];rw[jK h1]at hx;refine call_function_tree F.kind_any F.plain_any F.entry_any (F.args_any1 _) ?_;unfold Builtin.«any»;refine wpAny_bind (m:=oneArg "any" _) (wpAny_pure ?_);refine wpAny_bind (wpAny_mono (lI (A:=A.in1) R hx rfl) (λit fR zu=>gD zu λI ei hn a it=> ?_) λab ai e=>e);rw[ei];exact wpAny_pure ⟨plainId_quiet F.plain_any_loop _,FV hh _ 0 fR (aby _).symm a.rel it hb λh' tk hk=>
  ⟨_,After.drop R a (λab h=>h.elim) (p:=λb=>b=I) (λb q=>q▸hn) (λb q=> .inr q) λb o hb e=>hk b o hb e,rfl⟩⟩
theorem FW(sep:List Nat)(ss:List (List Nat)):(eZ sep ss).length<=(ss.map λx=>x.length+sep.length).sum:=by
 induction ss with
 |nil=>exact aab 0
 |cons x r ih=>
  cases r with
  |nil=>exact aao x.length sep.length
  |cons y r=>show(x++sep++eZ sep (y::r)).length<=x.length+sep.length+_;simp only[aah,aah];exact aav ih _
theorem Dh(sep:Str)(l:List Str):∀n:Nat,l.foldl (λn x=>n+x.length+sep.length) n=n+(l.map λx=>x.length+sep.length).sum:=by
 induction l with
 |nil=>exactλab=>rfl
 |cons x r ih=>exactλn=>(ih _).trans ((congrArg (· +_) (abc ..)).trans (abc ..))
theorem Di(sep a x:List Nat)(r:List (List Nat)):eZ sep ((a++x)::r)=a++eZ sep (x::r):=by
 cases r with
 |nil=>rfl
 |cons y r=>exact(congrArg (· ++_) (aaJ ..)).trans (aaJ ..)
theorem FX(sep:List Nat)(ss:List (List Nat)):Builtin.Str.glued (toStr sep) (ss.map toStr)=toStr (eZ sep ss):=by
 have go:∀acc:List Nat,(ss.tail.map toStr).foldl (λacc p=>acc++(toStr sep).cps++p.cps) acc.toArray=(eZ sep (acc::ss.tail)).toArray:=by
  induction ss.tail with
  |nil=>exactλab=>rfl
  |cons p r ih=>intro acc;simp only[aaH,List.foldl_cons,adq,adq,ih,Di];rfl
 cases ss with
 |nil=>rfl
 |cons x r=>exact congrArg Str.mk (go x)
theorem Dj{W:World}{h:Heap}{w:Wd}{ss:List (List Nat)}:∀{xs:List Value},bc W h w (ss.map .str) xs->∃l:List (Str×Tok),xs=strValues l/\l.map (λx=>x.1)=ss.map toStr:=by
 induction ss with
 |nil=>exactλe=>cq [] e rfl
 |cons x ss ih=>exactλq=>dM q λu us e k r=>k.2.elim λt k=>ah (ih r) λl i1 i2=>cq ((toStr x,t)::l) (e.trans (congr (congrArg abZ k) i1)) (congrArg _ i2)
theorem find_none{W:World}{h:Heap}{w:Wd}{i:V}{xs:List (V×Addr×Value)}:∀{vs:List V},bc W h w vs (xs.map (λx=>x.2.2))->bx (xs.map (λx=>x.1)) vs i=none->atKey xs i=none:=by
 induction xs with
 |nil=>exactλab ai=>rfl
 |cons p xs ih=>
  intro vs hv e;cases vs with
  |nil=>exact nomatch(show(p::xs).map (λx=>x.2.2)=[]from hv)
  |cons u vs=>
   obtain e:(if V.beq p.1 i=true then some u else bx (xs.map (λx=>x.1)) vs i)=none:=e;unfold atKey;rw[abH];by_cases hp:p.1=i
   ·rw[if_pos (hp▸fP _)]at e;exact nomatch e
   ·rw[if_neg λz=>hp (beq_eq _ _ z)]at e;exact(decide_eq_false hp)▸ih hv.un.2 e
noncomputable def w8:Me->Value
 | .append=> .builtin "list.append" | .extend=> .builtin "list.extend" | .pop=> .builtin "list.pop" | .get=> .builtin "dict.get" | .update=> .builtin "dict.update" | .join=> .builtin "str.join" | .user _=> .none
theorem uV{K:Type}[DecidableEq K]{bK:List (K×Value)}(hn:(bK.map (λx=>x.1)).Nodup)(k:K)(v:Value):((stored bK k v).map (λx=>x.1)).Nodup:=by
 induction bK with
 |nil=>exact aaB _ k
 |cons p r ih=>
  obtain n:=aaM.mp hn;by_cases h:p.1=k
  ·rw[show stored (p::r) k v=(p.1,v)::r from h▸tM n.1];exact hn
  ·rw[show stored (p::r) k v=p::stored r k v from tN h];refine aaM.mpr ⟨λm=> ?_,ih n.2⟩;exact(aal.mp m).elim λq hq=>have e:q.1=p.1:=hq.2;(nJ (z:=v) (ok:=λx=>x∈r.map (λx=>x.1)\/x=k) (λp hp=> .inl (aan hp)) (.inr rfl) q hq.1).elim (λz:q.1∈r.map (λx=>x.1)=>n.1 (show p.1∈r.map (λx=>x.1) by simp only[<-e];exact z)) λz=>h (e.symm.trans z)
theorem lg{LM:List V}:∀(ks vs yO:List V),ks.length=vs.length->(gg ks vs LM yO).1.length<=ks.length+LM.length/\(gg ks vs LM yO).1.length=(gg ks vs LM yO).2.length:=by
 induction LM with
 |nil=>exactλks vs yO hl=>⟨aab _,hl⟩
 |cons k r ih=>
  intro ks vs yO hl;cases yO with
  |nil=>exact⟨aao ..,hl⟩
  |cons v t=>obtain h1:=jQ hl k v;obtain h2:=ih _ _ t h1.2;exact⟨aaa h2.1 (aaa (aat h1.1 _) (abD (Nat.succ_add_eq_add_succ ..))),h2.2⟩
theorem ll{K:Type}[DecidableEq K]{κ:K->V}(M3:∀a b,κ a=κ b->a=b){W:World}{h:Heap}{w:Wd}{more:List (K×Value)}:∀{bK:List (K×Value)} {vs yO:List V},(bK.map (λx=>x.1)).Nodup->bc W h w vs (bK.map (λx=>x.2))->bc W h w yO (more.map (λx=>x.2))->
  (gg (bK.map λp=>κ p.1) vs (more.map λp=>κ p.1) yO).1=(merged bK more).map (λp=>κ p.1)/\
  bc W h w (gg (bK.map λp=>κ p.1) vs (more.map λp=>κ p.1) yO).2 ((merged bK more).map (λx=>x.2)):=by
 induction more with
 |nil=>exactλab hv ai=>⟨rfl,hv⟩
 |cons p more ih=>
  intro bK vs yO hn hv Jh;cases yO with
  |nil=>exact nomatch(show(p::more).map (λx=>x.2)=[]from Jh)
  |cons v yO=>obtain g:=Fz M3 (k:=p.1) Jh.un.1 hn hv;obtain i:=ih (uV hn p.1 p.2) g.2 Jh.un.2;rw[<-g.1]at i;exact i
theorem Dk{K:Type}[DecidableEq K]{ok:K->Prop}{more:List (K×Value)}:∀{bK:List (K×Value)},(∀p∈bK,ok p.1)->(∀p∈more,ok p.1)->∀p∈merged bK more,ok p.1:=by
 induction more with
 |nil=>exactλh ab=>h
 |cons p more ih=>exactλh h'=>ih (nJ h (h' p aac)) λq hq=>h' q (aaf _ hq)
theorem uW(R:Rel C s.heap w σ){o:V}{x:Value}{γ:Type}{f:Nat->List V->Option γ}{c:γ}{Q:Prop}(ho:VR C.W s.heap w o x)(e:(om o.qw λl=>om (σ.f l).eW (f l))=some c)
  (k:∀l vs items n,x= .ref (w.β l)->l<σ.n->σ.f l≠.dead->s.heap.get? (w.β l)=some (jm items n)->w.δ l=w.β l->items.size=vs.length->vs.length<big->bc C.W s.heap w vs items.toList->f l vs=some c->Q):Q:=by
 refine cQ e λl e0 e=>cQ e λvs e1 e=> ?_;rw[hG e0]at ho;obtain lH:=R.obj l (R.n▸ho.1);simp only[qx e1]at lH;exact b8 lH λitems n h1 h2 hb hr=>k l vs items n ho.2 (R.n▸ho.1) (by rw[qx e1];exactλz=>nomatch z) h1 h2 (size_of hr) hb hr e
theorem kq{γ:Type}{as:List V}{f:V->Option γ}{c:γ}{xs:List Value}{Q:Prop}(h:Fb as f=some c)(ha:bc C.W s.heap w as xs)(k:∀x z,VR C.W s.heap w x z->xs=[z]->f x=some c->Q):Q:=by
 cases as with
 |nil=>exact no h
 |cons x as=>
  cases as with
  |nil=>exact dM ha λz zs e1 hz e2=>k x z hz (e1.trans (congrArg _ e2)) h
  |cons ab ai=>exact no h
theorem mr(R:Rel C s.heap w σ){l:Nat}{o:O}{v:V}{u:Value}{h':Heap}{tk:Tok}(hl:l<σ.n)(hd:σ.f l≠.dead)(ho:o≠.dead)(hs:Heap.SameBut (w.δ l) s.heap h')(k:fQ s.heap w h' w->iE C h' w l o)(hv:VR C.W s.heap w v u):
  bN C aj w σ s v (σ.set l o) u {s with heap:=h',toks:=tk}:=
 have a:=After.upd R hl hd ho hs k
 ⟨w,a,VR.aI (a.aI R (hO w)) _ _ hv⟩
theorem Dl(R:Rel C s.heap w σ){o r v:V}{x z:Value}{aq:St}(ho:VR C.W s.heap w o x)(hv:VR C.W s.heap w v z)(e:pS σ o v=some (r,aq)):
  wpAny (model C.prog C.W) A (abr (w8 .append) [x,z]) (bN C aj w σ s r aq) E s:=by
 refine uW R ho e λl vs items n ex hl hd h1 h2 hs hb hr e=> ?_;obtain hlen:=of_decide_eq_true (av e).1;obtain e:=abG (aad (av e).2);simp only[ex,<-e.1,<-e.2];refine call_meets F.slot_list_append ⟨_,h1,rfl⟩ F.entry_list_append (F.args_list_append_2 _ _) (list_append _ items n z (dY (hs▸hb))) ⟨h1,mr (tk:=s.toks) R hl hd (λz=>nomatch z) (h2▸Heap.SameBut.update ..) (λS=> ?_) rfl⟩;refine dI _ _ (IsL.update h1 (·.push z)) h2 ((aah ..).symm▸hlen) ?_;simp only[adt];exact(bc.aI S _ _ hr).append (bc.cons (VR.aI S _ _ hv) bc.nil)
theorem Dm(R:Rel C s.heap w σ){o r v:V}{x z:Value}{aq:St}(ho:VR C.W s.heap w o x)(hv:VR C.W s.heap w v z)(e:uH σ o v=some (r,aq)):
  wpAny (model C.prog C.W) A (abr (w8 .extend) [x,z]) (bN C aj w σ s r aq) E s:=by
 refine cQ e λl e0 e=>cQ e λws e5 e=> ?_;refine uW (f:=λl vs=>og (decide (vs.length+ws.length<big)) (some (V.none,σ.set l (.lst (vs++ws))))) R ho (by simp only[e0];exact e) λl vs items n ex hl hd h1 h2 hs hb hr e=> ?_;obtain hlen:=of_decide_eq_true (av e).1;obtain e:=abG (aad (av e).2);rw[jK e5]at hv;refine fq hv λb FY n2 ez C0 TO Pd VL=> ?_;simp only[ex,ez,<-e.1,<-e.2];obtain lt:=zk hr VL hlen;refine call_meets F.slot_list_extend ⟨_,h1,rfl⟩ F.entry_list_extend (F.args_list_extend_2 _ _) (AutoSeq1.list_extend_list_list_0 _ items n b FY n2 ?_ (dY (hs▸hb)) (acu lt)) ⟨h1,TO,mr (tk:=s.toks) R hl hd (λz=>nomatch z) (h2▸Heap.SameBut.update ..) (λS=> ?_) rfl⟩
 ·exactλz=>absurd lt (Nat.not_le.mpr (of_decide_eq_true (ao z).2))
 ·refine dI _ _ (IsL.update h1 (· ++FY)) h2 ((aah ..).symm▸hlen) ?_;simp only[ael];exact(bc.aI S _ _ hr).append (bc.aI S _ _ VL)
theorem zw{α:Type}(items:Array α)(h:0<items.size):(items.eraseIdxIfInBounds (items.size -1)).toList=items.toList.dropLast:=by rw[Array.eraseIdxIfInBounds,dif_pos (Nat.sub_lt h aef),Array.toList_eraseIdx,<-adn,List.eraseIdx_length_sub_one]
theorem Ni(R:Rel C s.heap w σ){o r:V}{x:Value}{aq:St}(ho:VR C.W s.heap w o x)(e:MP σ o=some (r,aq)):
  wpAny (model C.prog C.W) A (abr (w8 .pop) [x]) (bN C aj w σ s r aq) E s:=by
 refine uW R ho e λl vs items n ex hl hd h1 h2 hs hb hr e=>cQ e λv hg e=> ?_;obtain e:=abG (aad e);simp only[ex,<-e.1,<-e.2];rw[List.getLast?_eq_getElem?]at hg;refine ah (hr.get hg) λy hy ry=> ?_;have Qp:items[items.size -1]? =some y:=by rw[hs,<-abu];exact hy
 have Nj:=aai (aaS _) (Array.getElem?_eq_some_iff.mp Qp).1;refine call_meets F.slot_list_pop ⟨_,h1,rfl⟩ F.entry_list_pop (F.args_list_pop_1 _) (MeetsSeq.list_pop_last _ items n y Qp (dY (hs▸hb))) ⟨h1,mr (tk:=s.toks) R hl hd (λz=>nomatch z) (h2▸Heap.SameBut.update ..) (λS=> ?_) ry⟩;refine dI _ _ (IsL.update h1 λxs=>xs.eraseIdxIfInBounds (items.size -1)) h2 (aai (List.length_dropLast▸Nat.sub_le _ _) hb) ?_;simp only[zw _ Nj,aeg,aeg,hr.length];exact bc.take _ (bc.aI S _ _ hr)
theorem Nk(O:C.Ok)(hu:A.units+60<cLine)(R:Rel C s.heap w σ){o r k d:V}{x y z:Value}{aq:St}(ho:VR C.W s.heap w o x)(hk:VR C.W s.heap w k y)(hd:VR C.W s.heap w d z)(e:PV σ o k d=some (r,aq)):
  wpAny (model C.prog C.W) A (abr (w8 .get) [x,y,z]) (bN C aj w σ s r aq) E s:=by
 refine cQ e λp Ph e=> ?_;obtain hs:=(av e).1;obtain e:=abG (aad (av e).2);simp only[<-e.1,<-e.2];refine gD (iH O R ho Ph) λa ex yP ab di=> ?_;obtain yP:=beq_false_of_ne yP;rw[ex];have res:∀q:Option Value,(bx p.1 p.2 k=none->q=none)->(∀v,bx p.1 p.2 k=some v->∃u,q=some u/\VR C.W s.heap w v u)->VR C.W s.heap w ((bx p.1 p.2 k).getD d) (q.getD z):=λq f1 f2=>by
  cases hf:bx p.1 p.2 k with
  |none=>exact(f1 hf)▸hd
  |some v=>exact ah (f2 v hf) λu h3 h4=>h3▸h4
 refine pZ hs hk di (λH i bK ei is ok hm ek hv ab=> ?_) λb xs ey tk hm ek ab hv=> ?_
 ·obtain f:=Bj H.inj hv (k:=i);rw[ek,<-ei]at f;exact call_meetsIn F.slot_dict_get hm.typeIs F.entry_dict_get (F.args_dict_get_3 _ _ _) (meets_dict_get_default _ a is yP z) ⟨_,hm.mapOf,aX R (res _ f.2 f.1)⟩
 ·rw[ey];refine call_meetsIn F.slot_dict_get hm.typeIs F.entry_dict_get (F.args_dict_get_3 _ _ _) (meetsH_dict_get_default (tupK C.prog C.W) a b yP z) ⟨aai (aav ((aaq rfl):1+20<=60) A.units) hu,k,xs,tk,hm,aX R (res _ (λh=> ?_) λv h=> ?_)⟩
  ·exact congrArg _ (find_none hv (ek.symm▸h))
  ·exact ah (find_key hv (ek.symm▸h)) λq hq rq=>⟨q.2,congrArg _ hq,rq⟩
theorem Dp(O:C.Ok)(R:Rel C s.heap w σ){o r v:V}{x z:Value}{aq:St}(ho:VR C.W s.heap w o x)(hv:VR C.W s.heap w v z)(e:AS σ o v=some (r,aq)):
  wpAny (model C.prog C.W) A (abr (w8 .update) [x,z]) (bN C aj w σ s r aq) E s:=by
 refine cQ e λl e0 e=>cQ e λp e2 e=>cQ e λq Ph e=> ?_;have hc:=ao (av e).1;obtain hlen:=of_decide_eq_true hc.2;have hk:=ada▸(ao hc.1).2;obtain e:=abG (aad (av e).2);simp only[<-e.1,<-e.2];rw[hG e0]at ho;have tH:=R.n▸ho.1;obtain hq:=mf e2;have FZ:σ.f l≠.dead:=by rw[hq];exactλz=>nomatch z
 obtain lH:=R.obj l tH;simp only[hq]at lH;refine b8 lH λes n VM iQ hb Si=>gD (iH O R hv Ph) λa hz yP ab XO=> ?_;have XQ:w.β l≠a:=λq=>by
  cases v with
  |pG k1 v1=>exact fq hv λa' ab ai e' C0 aD bO fc=>(R.fr l tH FZ).1 (by simp only[iQ,q,Value.ref.inj (hz.symm.trans e')];exact C0)
  |loc l'=>
   obtain IB:σ.f l'≠.dead:=by rw[mf Ph];exactλz=>nomatch z
   obtain LS:=R.obj l' (R.n▸hv.1);simp only[mf Ph]at LS;exact b8 LS λab ai aD TP bO fc=>of_decide_eq_true (ao hc.1).1 (R.inj l l' tH (R.n▸hv.1) FZ IB (iQ.trans (q.trans ((Value.ref.inj (hz.symm.trans hv.2)).trans TP.symm))))
  |_=>exact no Ph
 simp only[ho.2,hz];obtain H:=Pc C.prog C.W;refine gD (tK H ⟨es,n,VM,Si⟩ (ao hk).1) λbK hm ek M9 ab=>gD (tK H XO (ao hk).2) λmore FI VN TQ ab=> ?_;refine call_meetsIn F.slot_dict_update hm.typeIs F.entry_dict_update (F.args_dict_update_2 _ _) (meets_dict_update (intKind C.prog C.W) _ a XQ (beq_false_of_ne yP)) ⟨bK,more,hm,FI,dY ?_,λh' h1 ab h3=> ?_⟩
 ·simp only[<-aae (f:=λq:Int×Value=>V.int q.1),ek,<-aae (as:=more) (f:=λq:Int×Value=>V.int q.1),VN];exact hlen
 ·refine mr (tk:=s.toks) R tH FZ (λz=>nomatch z) (iQ▸h3) (λS=> ?_) rfl;obtain g:=ll H.inj (DictOf.nd hm) M9 TQ;rw[ek,VN]at g;obtain d:=Bh H h1 (bc.aI S _ _ g.2) λab ai=>trivial;rw[<-g.1]at d;exact eO d λM8 n' q1 q2=>dI M8 n' q1 iQ (aai (lg p.1 p.2 q.2 (Bk (⟨es,n,VM,Si⟩:hZ C.W s.heap w (w.β l) p.1 p.2)) (LM:=q.1)).1 hlen) q2
theorem Ji(R:Rel C s.heap w σ){o r v:V}{x z:Value}{aq:St}(ho:VR C.W s.heap w o x)(hv:VR C.W s.heap w v z)(e:E9 σ o v=some (r,aq)):
  wpAny (model C.prog C.W) A (abr (w8 .join) [x,z]) (bN C aj w σ s r aq) E s:=by
 refine cQ e λsep e0 e=>cQ e λvs e2 e=>cQ e λss hs e=> ?_;have hlen:=of_decide_eq_true (av e).1;have e:=abG (aad (av e).2);simp only[<-e.1,<-e.2];rw[iR e0]at ho;simp only[jK e2,q7 hs]at hv;refine ho.2.elim λt ex=>fq hv λa items n ez C0 TO hb hr=>ah (Dj hr) λl hl Sk=> ?_;have Nl:items=(strValues l).toArray:=hl▸rfl;have VO:=aai (FW sep ss) hlen;have TR:((l.map (λx=>x.1)).map λx=>x.length+(toStr sep).length).sum=(ss.map λx=>x.length+sep.length).sum:=by simp only[Sk,aay];rfl
 simp only[ex,ez];refine call_meets F.slot_str_join (typeIs_str s _ t) F.entry_str_join (F.args_str_join_2 _ _) (meets_str_join_list (toStr sep) t a l ?_) ⟨Nl▸bw TO,?_⟩
 ·simp only[List.foldl_toArray,Dh,TR,aby];exact decide_eq_false (acb.mpr (dY hlen))
 ·have g:=Sk▸FX sep ss;have many:(Made.str (Builtin.Str.glued (toStr sep) (l.map (λx=>x.1)))).post (bN C aj w σ s (.str (eZ sep ss)) σ) s:=by
   rw[g];exact⟨dY VO,aX R ⟨VO,_,rfl⟩⟩
  cases l with
  |nil=>exact many
  |cons p l=>
   cases l with
   |nil=>
    cases ss with
    |nil=>exact nomatch Sk
    |cons y ss=>
     cases ss with
     |nil=>exact bg R (hl▸hr).un.1
     |cons ab ai=>exact nomatch(aaL Sk).2
   |cons ab ai=>exact many
theorem Jj(O:C.Ok)(hu:A.units+60<cLine)(R:Rel C s.heap w σ){m:Me}{o r:V}{args:List V}{x:Value}{xs:List Value}{aq:St}(hm:∀k,m≠.user k)
  (ho:VR C.W s.heap w o x) (ha:bc C.W s.heap w args xs) (e:AU σ m o args=some (r,aq)):
  wpAny (model C.prog C.W) A (abr (w8 m) (x::xs)) (bN C aj w σ s r aq) E s:=by
 cases m with
 |user k=>exact absurd rfl (hm k)
 |append=>exact kq e ha λv z hv ez e=>ez▸Dl R ho hv e
 |extend=>exact kq e ha λv z hv ez e=>ez▸Dm R ho hv e
 |update=>exact kq e ha λv z hv ez e=>ez▸Dp O R ho hv e
 |join=>exact kq e ha λv z hv ez e=>ez▸Ji R ho hv e
 |pop=>rw[abJ.mp (av e).1]at ha;exact(show xs=[]from ha)▸Ni R ho (av e).2
 |get=>
  cases args with
  |nil=>exact no e
  |cons k args=>
   cases args with
   |nil=>exact no e
   |cons d args=>
    cases args with
    |nil=>exact dM ha λy ys e1 hk ha=>dM ha λz zs e2 hd e3=>e1▸e2▸(show zs=[]from e3)▸Nk O hu R ho hk hd e
    |cons ab ai=>exact no e
end
end Own.Internal.Mp
end
section
namespace Own.Internal.Mp
open PySem PySem.Spec PySem.Calls PyProof.Rows PySem.W PySem.SeqAt
set_option genInjectivity false
structure At(C:Cx) where
 w:Wd
 σ:St
 s:Shared
 R:Rel C s.heap w σ
section
variable {C:Cx}
def Af(z z':At C):Prop:=After C aj z.w z.σ z.s z'.w z'.σ z'.s
def Vr(z:At C)(v:V)(u:Value):Prop:=VR C.W z.s.heap z.w v u
def Vs(z:At C)(v:List V)(u:List Value):Prop:=bc C.W z.s.heap z.w v u
def Vb(_:At C)(v u:Bool):Prop:=u=v
def Vu(_:At C)(_ _:Unit):Prop:=True
theorem Af.trans{a b c:At C}(x:Af a b)(y:Af b c):Af a c:=After.trans x y
theorem Af.refl(a:At C):Af a a:=After.refl a.R
noncomputable abbrev At.of{own:Addr->Prop}{z:At C}{w:Wd}{σ:St}{s:Shared}(b:After C own z.w z.σ z.s w σ s):At C:=⟨w,σ,s,b.rel⟩
noncomputable def At.tk(z:At C)(t:Tok):At C:=⟨z.w,z.σ,{z.s with toks:=t},z.R⟩
theorem Af.tk(z:At C)(t:Tok):Af z (z.tk t):=After.toks z.R
theorem Vr.go{z z':At C}{v:V}{u:Value}(h:Vr z v u)(a:Af z z'):Vr z' v u:=VR.aI (After.aI a z.R (hO _)) _ _ h
theorem Vs.go{z z':At C}{v:List V}{u:List Value}(h:Vs z v u)(a:Af z z'):Vs z' v u:=bc.aI (After.aI a z.R (hO _)) _ _ h
end
def J(A:Around){C:Cx}{α β:Type}(z:At C)(m:Sem α)(x:Option (β×St))(r:At C->β->α->Prop):Prop:=
 ∀(γ:Type) (f:β->St->Option γ) (c:γ) (E:Value->Shared->Prop) (Q:α->Shared->Prop),ob x f=some c->(∀v u z',Af z z'->r z' v u->f v z'.σ=some c->Q u z'.s)->wpAny (model C.prog C.W) A m Q E z.s
theorem gb{α β γ:Type}{x:Option (α×St)}{f:α->St->Option (β×St)}{g:β->St->Option γ}{c:γ}(e:ob (ob x f) g=some c):ob x (λv s=>ob (f v s) g)=some c:=by cases x<;>exact e
section
variable {C:Cx}{A:Around}{α β γ δ:Type}{z:At C}{m:Sem α}{x:Option (β×St)}{r:At C->β->α->Prop}{r':At C->γ->δ->Prop}
theorem J.bind{k:α->Sem δ}{f:β->St->Option (γ×St)}(h:J A z m x r)(g:∀v u z',Af z z'->r z' v u->J A z' (k u) (f v z'.σ) r'):J A z (m>>=k) (ob x f) r':=
 λab p c E ai e q=>wpAny_bind (h _ _ c E _ (gb e) λv u z' a y e=>g v u z' a y _ p c E _ e λv' u' Jk b=>q v' u' Jk (a.trans b))
theorem J.eq{m':Sem α}(e:m=m')(h:J A z m' x r):J A z m x r:=e▸h
theorem J.hold{us:List Value}(h:J A z m x r):J A z (holding us m) x r:=λab p c E Q e q=>wpAny_holding (h _ p c E Q e q)
theorem J.Jl{us:List Value}{m:Sem Value}{r:At C->β->Value->Prop}(h:J A z m x r):J A z (operate us m) x r:=λab p c E Q e q=>wpAny_operating (h _ p c E Q e q)
theorem J.lq{i:Pos}{m:Unit->Sem α}(h:J A z (m ()) x r):J A z (standAt i>>=m) x r:=λab p c E Q e q=>wpAny_bind (wpAny_standAt (h _ p c E Q e q))
theorem J.o1{o:Option δ}{f:δ->Option (β×St)}(h:∀v,o=some v->J A z m (f v) r):J A z m (om o f) r:=by
 cases o with
 |none=>exactλab ai aD bO fc e=>no e
 |some v=>exact h v rfl
theorem J.g1{b:Bool}(h:b=true->J A z m x r):J A z m (og b x) r:=by
 cases b with
 |false=>exactλab ai aD bO fc e=>no e
 |true=>exact h rfl
theorem J.now{v:β}{u:α}(h:r z v u):J A z (pure u) (some (v,z.σ)) r:=λab ai aD bO fc e q=>wpAny_pure (q v u z (.refl z) h e)
theorem J.of{m:Sem Value}{v:V}{σ:St}(h:∀E,wpAny (model C.prog C.W) A m (bN C aj z.w z.σ z.s v σ) E z.s):J A z m (some (v,σ)) Vr:=λab ai aD E bO e q=>
 wpAny_mono (h E) (λu s p=>p.elim λw p=>q v u ⟨w,σ,s,p.1.rel⟩ p.1 p.2 e) λab ai e=>e
theorem J.Z7{m:Sem Unit}{σ:St}(h:∀E,wpAny (model C.prog C.W) A m (λab=>Bc C aj z.w z.σ z.s σ) E z.s):J A z m (some ((),σ)) Vu:=λab ai aD E bO e q=>
 wpAny_mono (h E) (λu s p=>p.elim λw p=>q () u ⟨w,σ,s,p.rel⟩ p trivial e) λab ai e=>e
theorem J.truth{v:V}{u:Value}(h:Vr z v u):J A z (truthy u) (om (cx z.σ v) λb=>some (b,z.σ)) Vb:=
 .o1 λb hb ab ai aD bO fc e q=>qY z.R h hb λt=>q b b (z.tk t) (.tk z t) rfl e
end
structure Y where
 C:Cx
 call:ct
 A:Around
 env:Env
 ns:bJ
 g:Ga
 n:Nat
noncomputable abbrev Y.at(F:Y)(env:Env)(ns:bJ)(g:Ga)(n:Nat):Y:=⟨F.C,F.call,F.A,env,ns,g,n⟩
structure Vz(F:Y)(z:At F.C)(r:En):Prop where
 ok:bz F.C z.s.heap z.w F.env F.ns F.g r
 len:r.length=F.n
theorem Vz.go{F:Y}{z z':At F.C}{r:En}(h:Vz F z r)(a:Af z z'):Vz F z' r:=⟨h.ok.after z.R a,h.len⟩
def SX(F:Y)(m:Sem Value)(X:X):Prop:=∀z r,Vz F z r->J F.A z m (bR F.C.P F.call X r z.σ) Vr
def ST(F:Y)(m:Sem Bool)(X:X):Prop:=∀z r,Vz F z r->J F.A z m (wh F.C.P F.call X r z.σ) Vb
def SL(F:Y)(m:Sem (List Value))(Xs:List X):Prop:=∀z r,Vz F z r->J F.A z m (CX F.C.P F.call Xs r z.σ) Vs
structure Cx.Gl(C:Cx):Prop where
 fn:∀x i,C.T.glob.lookup x=some (.fn i)->(x==("__debug__" :Str))=false/\C.mg x=some (.ref (C.fa i))/\keepIn C.K (.ref (C.fa i))=true
 cls:∀x c,C.T.glob.lookup x=some (.cls c)->(x==("__debug__" :Str))=false/\C.mg x=some (.ref (C.ca c))/\keepIn C.K (.ref (C.ca c))=true
 bi:∀x b,C.T.glob.lookup x=none->Fi x=some b->C.mg x=none/\C.mb x=some (Dd b)
 VP:C.T.glob.lookup ("isinstance" :Str)=none->C.mg "isinstance" =none/\C.mb "isinstance" =some (.builtin "isinstance")
 str:C.T.glob.lookup ("str" :Str)=none->C.mg "str" =none/\C.mb "str" =some (.type "str")
 w9:∀c k f,C.P.hH c k=some f->keepIn C.K (.ref (C.fa f))=true
 Bt:∀c k f,C.P.hH c k=some f->C.P.atts.getD c []≠[]\/c<C.P.iT.length
structure uX(C:Cx)(d:Nat)(call:ct):Prop where
 run:∀{A:Around} {z:At C} {f:Nat} {args:List V} {xs:List Value},kX A d->Vs z args xs->J A z (abr (.ref (C.fa f)) xs) (call f args z.σ) Vr
 new:∀{A:Around} {z:At C} {c:Nat} {args:List V} {xs:List Value},kX A d->Vs z args xs->J A z (abr (.ref (C.ca c)) xs) (wI C.P call z.σ c args) Vr
structure Kx(C:Cx)(call:ct)(A:Around)(d:Nat):Prop where
 O:C.Ok
 G:C.Gl
 K:fg C
 call:uX C d call
 Rm:kX A d
theorem Kx.u{C:Cx}{call:ct}{A:Around}{d:Nat}(K:Kx C call A d):A.units+60<cLine:=aai (aav (aaq rfl) _) K.Rm.cl
theorem mu{α β γ:Type}{o:Option α}{f:α->Option (β×St)}{g:β->St->Option γ}:ob (om o f) g=om o λv=>ob (f v) g:=by cases o<;>rfl
theorem LU{α β:Type}{b:Bool}{x:Option (α×St)}{f:α->St->Option β}:ob (og b x) f=og b (ob x f):=by cases b<;>rfl
theorem Jm{β:Type}{o:Option (β×St)}:o=ob o λb s=>some (b,s):=by cases o<;>rfl
def tr(v:V)(s:St):Option (Bool×St):=om (cx s v) λb=>some (b,s)
theorem LV{γ:Type}{o:Option (V×St)}{f:Bool->St->Option γ}:ob (ob o tr) f=ob o λv s=>om (cx s v) λb=>f b s:=by
 cases o with
 |none=>rfl
 |some p=>exact mu
section
variable {F:Y}{n d:Nat}
theorem SX.bad{m:Sem Value}:SX F m .bad:=λab ai aD bO fc ny wj IE e=>no e
theorem ST.bad{m:Sem Bool}:ST F m .bad:=λab ai aD bO fc ny wj IE e=>no e
theorem Np{C:Cx}(O:C.Ok){w:Wd}{σ:St}{s:Shared}{v:V}{u:Value}(R:Rel C s.heap w σ)(h:VR C.W s.heap w v u):bN C aj w σ s (freeze σ v).1 (freeze σ v).2 u s:=by
 cases v with
 |loc l=>
  show bN C aj w σ s (MO σ l (σ.f l)).1 (MO σ l (σ.f l)).2 u s;have hl:=R.n▸h.1;obtain lH:=R.obj l hl;cases hq:σ.f l with
  |lst vs=>have a:=After.jj (own:=aj) R hl (by rw[hq];exactλz=>nomatch z);simp only[hq]at lH;exact b8 lH λitems n h1 h2 b r=>⟨_,a,jl _ items n h.2 (.inr h2.symm) h1 b (bc.aI (a.aI R (hO w)) _ _ r)⟩
  |bV ks vs=>have a:=After.jj (own:=aj) R hl (by rw[hq];exactλz=>nomatch z);refine gD (iH O R h (show(σ.f l).gP =some (ks,vs) by exact congrArg _ hq)) λp hp yP hb ab=> ?_;have e:=Value.ref.inj (hp.symm.trans h.2);simp only[hq]at lH;exact b8 lH λes n h1 h2 ab r=>⟨_,a,jl p es n hp (.inr (e.trans h2.symm)) (e▸h1) ⟨yP,hb⟩ (r.aI (a.aI R (hO w)))⟩
  |dead=>exact bg R h
  |ins c fs=>exact bg R h
 |_=>exact bg R h
theorem SX.jj(O:F.C.Ok){m:Sem Value}{X:X}(h:SX F m X):SX F m (.jj X):=λz r V ab ai c E aD e k=>
 h z r V _ _ c E _ (gb e) λab u z' a p e=>(Np O z'.R p).elim λw q=>k _ u ⟨w,_,z'.s,q.1.rel⟩ (a.trans q.1) q.2 e
section
variable {C:Cx}{A:Around}{α β:Type}{z:At C}{m:Sem α}{x x':Option (β×St)}{r:At C->β->α->Prop}
theorem J.cast(e:x'=x)(h:J A z m x r):J A z m x' r:=e▸h
theorem J.mw:J A z m none r:=λab ai aD bO fc e=>no e
theorem J.cond{c u:Bool}{m':Sem α}(p:u=c)(h:J A z m x r)(h':J A z m' x' r):J A z (if u=true then m else m') (match c with |true=>x |false=>x') r:=by
 rw[p];cases c with
 |true=>exact h
 |false=>exact h'
end
theorem SX.bin{l r:Expr}{op:wD}{L R':X}{pos:Pos}(hl:SX F (eval l F.env) L)(hr:SX F (eval r F.env) R'):SX F (eval (.BinOp l (binOp op) r pos) F.env) (.bin op L R'):=λz e V=>
 .eq (arm_eval_BinOp ..)<|(hl z e V).bind λab ai aD a p=>(hr _ e (V.go a)).hold.bind λab ai z b q=> .lq<| .Jl<| .o1 λab h=> .of λab=>M6 z.R (p.go b) q h
theorem TS{pos:Pos}{u:Value}{o:CmpOp}{r:Expr}{m:Sem Value}(hb:behindInMarks o r=false):compareChain pos u [o] [markedBehindIn o r m]=(holding [u] m>>=λv=>standAt pos>>=λab=>operate [u,v] (compareOp o u v)):=
 congrArg (λm=>compareChain pos u [o] [m]) (markedBehindIn_of_false hb)
theorem TU{pos:Pos}{u:Value}{o:CmpOp}{r:Expr}{m:Sem Value}(hb:behindInMarks o r=false):testChain pos u [o] [markedBehindIn o r m]=(holding [u] m>>=λv=>standAt pos>>=λab=>operate [u,v] (compareOp o u v)>>=λc=>holding [c] (truthy c)):=
 congrArg (λm=>testChain pos u [o] [m]) (markedBehindIn_of_false hb)
theorem SX.cmp(K:Kx F.C F.call F.A d){l r:Expr}{op:Iz}{L R':X}{pos:Pos}(hb:behindInMarks (qR op) r=false)(hl:SX F (eval l F.env) L)(hr:SX F (eval r F.env) R'):SX F (eval (.Compare l [qR op] [r] pos) F.env) (.cmp op L R'):=λz e V=>
 .eq (arm_eval_Compare ..)<|(hl z e V).bind λab ai aD a p=> .eq (TS hb)<|(hr _ e (V.go a)).hold.bind λab ai z b q=> .lq<| .Jl<| .o1 λab h=> .of λab=>FA K.O K.u z.R (p.go b) q h
theorem ST.of{e:Expr}{X:X}(hi:∀whole,isTrue e F.env whole=(do let v<-whole;standAt e.pos;holding [v] (truthy v)))(h:SX F (eval e F.env) X):ST F (isTrue e F.env (eval e F.env)) X:=λz r V=>
 .eq (hi _)<|(h z r V).bind λab ai aD bO p=> .lq<| .hold<| .truth p
theorem J.Qq{A:Around}{C:Cx}{α β γ:Type}{z:At C}{m:Sem α}{x:Option (γ×St)}{f:γ->St->Option (V×St)}{g:V->St->Option (β×St)}{r:At C->β->α->Prop}(h:J A z m (ob x λv s=>ob (f v s) g) r):J A z m (ob (ob x f) g) r:=by cases x<;>exact h
theorem ST.cmp(K:Kx F.C F.call F.A d){l r:Expr}{op:Iz}{L R':X}{pos:Pos}{whole:Sem Value}(hb:behindInMarks (qR op) r=false)(hl:SX F (eval l F.env) L)(hr:SX F (eval r F.env) R'):ST F (isTrue (.Compare l [qR op] [r] pos) F.env whole) (.cmp op L R'):=λz e V=>
 .eq (arm_isTrue_Compare ..)<| .Qq<|(hl z e V).bind λab ai aD a p=> .eq (TU hb)<| .Qq<|(hr _ e (V.go a)).hold.bind λab ai z b q=> .lq<|
  J.bind (.Jl<| .o1 λab h=> .of λab=>FA K.O K.u z.R (p.go b) q h) λab ai aD bO q=> .hold (.truth q)
theorem SX.nt{x:Expr}{X:X}{pos:Pos}(h:SX F (eval x F.env) X):SX F (eval (.UnaryOp .Not x pos) F.env) (.nt X):=λz e V=>
 .eq (arm_eval_UnaryOp ..)<|(h z e V).bind λv u z' ab p=> .lq<| .hold<| .o1 λb hb ab ai aD bO fc e k=>not_value (qY z'.R p hb λt=>k (.bool !b) _ (z'.tk t) (.tk z' t) rfl e)
theorem Qr{o:Option (V×St)}:ob (ob o λv s=>om (cx s v) λb=>some (V.bool (!b),s)) tr=ob (ob o tr) λb s=>some (!b,s):=by
 cases o with
 |none=>rfl
 |some p=>show ob (om (cx p.2 p.1) _) tr=ob (om (cx p.2 p.1) _) _;cases cx p.2 p.1<;>rfl
theorem ST.nt{x:Expr}{X:X}{pos:Pos}{whole:Sem Value}(h:ST F (isTrue x F.env (eval x F.env)) X):ST F (isTrue (.UnaryOp .Not x pos) F.env whole) (.nt X):=λz e V=>
 .eq (arm_isTrue_UnaryOp ..)<| .cast Qr<|J.bind (h z e V) λab ai aD bO p=> .now (congrArg (!·) p)
theorem SX.ite{t a b:Expr}{T' X Y:Mp.X}{pos:Pos}(ht:ST F (isTrue t F.env (eval t F.env)) T')(ha:SX F (eval a F.env) X)(hb:SX F (eval b F.env) Y):SX F (eval (.IfExp t a b pos) F.env) (.ite T' X Y):=λz e V=>
 .eq (arm_eval_IfExp ..)<| .cast LV.symm<|(ht z e V).bind λab ai aD c p=> .cond p (ha _ e (V.go c)) (hb _ e (V.go c))
theorem Nq{o:Option (V×St)}{f g:En->St->Option (V×St)}{r:En}:ob (ob o λv s=>om (cx s v) λt=>match t with |true=>f r s |false=>g r s) tr=ob (ob o tr) λt s=>match t with |true=>ob (f r s) tr |false=>ob (g r s) tr:=by
 cases o with
 |none=>rfl
 |some p=>
  show ob (om (cx p.2 p.1) _) tr=ob (om (cx p.2 p.1) _) _;cases cx p.2 p.1 with
  |none=>rfl
  |some c=>cases c<;>rfl
theorem ST.ite{t a b:Expr}{T' X Y:Mp.X}{pos:Pos}{whole:Sem Value}(ht:ST F (isTrue t F.env (eval t F.env)) T')(ha:ST F (isTrue a F.env (eval a F.env)) X)(hb:ST F (isTrue b F.env (eval b F.env)) Y):ST F (isTrue (.IfExp t a b pos) F.env whole) (.ite T' X Y):=λz e V=>
 .eq (arm_isTrue_IfExp ..)<| .cast Nq<|J.bind (ht z e V) λab ai aD c p=> .cond p (ha _ e (V.go c)) (hb _ e (V.go c))
theorem J.two{α β:Type}{A:Around}{C:Cx}{z:At C}{op:BoolOp}{c u:Bool}{m m':Sem α}{x x':Option (β×St)}{r:At C->β->α->Prop}(p:u=c)(h:J A z m' x r)(h':J A z m x' r):
  J A z (match op,u with | .And,false | .Or,true=>m |_,_=>m') (if c=(op== .And)then x else x') r:=by
 rw[p];cases op<;>cases c<;>first |exact h |exact h'
theorem xa{pos:Pos}{op:BoolOp}{m m':Sem Value}{ms:List (Sem Value)}:boolOp pos op (m::m'::ms)=(m>>=λv=>standAt pos>>=λab=>holding [v] (truthy v)>>=λt=>match op,t with
 | .And,false | .Or,true=>pure v
 |ab,ai=>boolOp pos op (m'::ms)):=rfl
theorem SX.wg{op:BoolOp}{pos:Pos}{f:Expr->X}{es:List Expr}(h:∀e∈es,SX F (eval e F.env) (f e)):SX F (boolOp pos op (es.map λe=>eval e F.env)) (.wg (op== .And) (es.map f)):=by
 induction es with
 |nil=>exactλab ai aD bO fc ny wj IE e=>no e
 |cons a es ih=>
  obtain h0:=h a aac;cases es with
  |nil=>exact h0
  |cons b es=>
   exactλz e V=> .eq xa<|J.bind (f:=λv s=>om (cx s v) λt=>if t=(op== .And)then bR F.C.P F.call (.wg (op== .And) ((b::es).map f)) e s else some (v,s)) (h0 z e V) λv u z' a p=> .lq<|
    .cast (mu (f:=λt=>some (t,z'.σ)) (g:=λt s=>if t=(op== .And)then bR F.C.P F.call (.wg (op== .And) ((b::es).map f)) e s else some (v,s))).symm<|J.bind (.hold<| .truth p) λab ai Jk b q=> .two q ((ih λe he=>h e (aaf _ he)) Jk e ((V.go a).go b)) (.now (p.go b))
theorem Nr{o:Option (V×St)}{op:Bool}{g:En->St->Option (V×St)}{r:En}:ob (ob o λv s=>om (cx s v) λb=>if b=op then g r s else some (v,s)) tr=ob (ob o tr) λb s=>if b=op then ob (g r s) tr else some (b,s):=by
 cases o with
 |none=>rfl
 |some p=>
  show ob (om (cx p.2 p.1) _) tr=ob (om (cx p.2 p.1) _) _;cases e:cx p.2 p.1 with
  |none=>rfl
  |some c=>
   show ob (if c=op then _ else _) tr=if c=op then _ else _;by_cases h:c=op
   ·rw[if_pos h,if_pos h]
   ·rw[if_neg h,if_neg h];exact eB e
theorem ST.all{op:BoolOp}{f:Expr->X}{es:List Expr}(h:∀e∈es,ST F (isTrue e F.env (eval e F.env)) (f e)):ST F (allTrue op es F.env) (.wg (op== .And) (es.map f)):=by
 induction es with
 |nil=>exactλab ai aD bO fc ny wj IE e=>no e
 |cons a es ih=>
  obtain h0:=h a aac
  refineλz e V=> .eq (arm_allTrue_cons ..) ?_
  cases es with
  |nil=>
   exact J.cast (x:=ob (wh F.C.P F.call (f a) e z.σ) λb s=>some (b,s)) Jm<|J.bind (h0 z e V) λc u z' ab p=>by rw[show u=c from p];cases op<;>cases c<;>exact .now rfl
  |cons b es=>
   refine J.cast Nr<|J.bind (h0 z e V) λc u z' a p=> ?_
   rw[show u=c from p];cases op<;>cases c<;>first |exact((ih λe he=>h e (aaf _ he)) z' e (V.go a)) |exact .now rfl
theorem ST.wg{op:BoolOp}{pos:Pos}{whole:Sem Value}{f:Expr->X}{es:List Expr}(h:∀e∈es,ST F (isTrue e F.env (eval e F.env)) (f e)):ST F (isTrue (.BoolOp op es pos) F.env whole) (.wg (op== .And) (es.map f)):=ST.all h
end
end Own.Internal.Mp
end
section
namespace Own.Internal.Mp
open PySem PySem.Spec PySem.Calls PyProof.Rows PySem.W PySem.SeqAt
section
variable {F:Y}{d:Nat}
theorem nP{o:Expr}{attr:Str}{env:Env}{whole:Sem Value}:attributeBase o attr env whole=bif baseOk o then whole else attributeBase o attr env whole:=by
 cases o with
 |Call f a k p=>
  cases f with
  |Name=>
   cases a with
   |nil=>cases k<;>rfl
   |cons=>rfl
  |_=>rfl
 |_=>rfl
theorem iX{o:Expr}{attr:Str}{env:Env}{whole:Sem Value}(h:baseOk o=true):attributeBase o attr env whole=whole:=by rw[nP,h];rfl
theorem SX.base{o:Expr}{a:Str}{X:X}(hb:baseOk o=true)(h:SX F (eval o F.env) X):SX F (attributeBase o a F.env (eval o F.env)) X:=(iX hb).symm▸h
theorem jq{x y:Str}{l:List Str}:∀{i:Nat},idxOf x l=some i->l.getD i y=x:=by
 induction l with
 |nil=>exactλh=>no h
 |cons z r ih=>
  intro i h;obtain h:(if(z==x)=true then some 0 else(idxOf x r).map (λx=>x+1))=some i:=h;by_cases q:(z==x)=true
  ·rw[if_pos q]at h;exact aad h▸abh q
  ·rw[if_neg q]at h;exact(abK.mp h).elim λj p=>p.2▸ih p.1
theorem J.VQ{C:Cx}{A:Around}{β:Type}{z:At C}{m:Sem Value}{x:Option (β×St)}{r:At C->β->Value->Prop}{e:Expr}{o:Value}(h:J A z m x r):J A z (m>>=λv=>letTemporaryGo e o v>>=λab=>pure v) x r:=
 λab p c E ai e q=>wpAny_bind (h _ p c E _ e λv u z' a y e=>wpAny_bind (wpAny_letTemporaryGo (wpAny_pure (q v u z' a y e))))
theorem J.get{C:Cx}{A:Around}{z:At C}{a:Str}{i:Nat}{v:V}{u:Value}{ex:Bool}(O:C.Ok)(K:fg C)(hi:idxOf a C.T.attrs=some i)(p:Vr z v u):J A z (getAttr u a ex) (om (aE z.σ v i) λv=>some (v,z.σ)) Vr:=
 .o1 λab g=> .of λab=>jq hi▸qP O K z.R p g
theorem SX.attr(K:Kx F.C F.call F.A d){e:Expr}{a:Str}{i:Nat}{X:X}{pos:Pos}(hb:baseOk e=true)(hi:idxOf a F.C.T.attrs=some i)(h:SX F (eval e F.env) X):SX F (eval (.Attribute e a pos) F.env) (.attr X i):=λz r V=>
 .eq (arm_eval_Attribute ..)<|(h.base hb z r V).bind λab ai aD bO p=> .lq<| .VQ<| .hold<| .get K.O K.K hi p
def Jn(σ:St):V->Prop
 | .str ab=>True
 | .tup ab=>True
 |c=>(∃vs,cW σ c=some vs)\/∃p,eD σ c=some p
theorem Dq{C:Cx}(O:C.Ok){z:At C}{c:V}{x:Value}(hx:Vr z c x)(h:Jn z.σ c):∃T id,z.s.TypeIs x T/\typeLookup (.type T) "__getitem__" =pure (some (.builtin id)):=by
 have go:((∃vs,cW z.σ c=some vs)\/∃p,eD z.σ c=some p)->∃T id,z.s.TypeIs x T/\typeLookup (.type T) "__getitem__" =pure (some (.builtin id)):=λh=>
  h.elim (λh=>h.elim λvs e=>g9 (iG z.R hx e) λp items n ex ho ab ai=>wB "list" _ (ex▸⟨_,ho,rfl⟩) slot_list_getitem.lookup)
   λh=>h.elim λq e=>gD (iH O z.R hx e) λp ex ab ai di=>eO di λes n ho ab=>wB "dict" _ (ex▸⟨_,ho,rfl⟩) slot_dict_getitem.lookup
 cases c with
 |str a=>exact hx.2.elim λt ex=>wB "str" _ (ex▸typeIs_str z.s _ t) F.slot_str_getitem.lookup
 |tup vs=>exact fq hx λp items n ex ab ho ai aD=>wB "tuple" _ (ex▸⟨_,ho,rfl⟩) slot_tuple_getitem.lookup
 |_=>exact go h
theorem J.sub{C:Cx}(O:C.Ok){A:Around}{β:Type}{z:At C}{value slice:Expr}{pos:Pos}{c:V}{o i:Value}{ops:List Value}{x:Option (β×St)}{r:At C->β->Value->Prop}(hx:Vr z c o)(hc:∀y,x=some y->Jn z.σ c)
  (hs:subscripted slice false o i=operate ops (getItem o i)) (h:J A z (getItem o i) x r):J A z (standAt pos>>=λab=>getitemInPython o>>=λb=>subscripted slice b o i>>=λv=>letTemporaryGo value o v>>=λab=>pure v) x r:=by
 cases x with
 |none=>exact .mw
 |some y=>refine eO (Dq O hx (hc y rfl)) λT id hT hl=> .lq λab p c E Q e q=>wpAny_bind ?_;refine wpAny_bind (wpAny_specialOf hT hl (wpAny_pure ?_));exact hs▸J.VQ (.Jl h) _ p c E Q e q
theorem Dr{σ:St}{c i v:V}(e:bS σ c i=some v):Jn σ c:=by
 have go:(match cW σ c with |some vs=>om i.int? (E7 vs) |none=>om (eD σ c) λp=>og (bM (i::p.1)) (bx p.1 p.2 i))=some v->(∃vs,cW σ c=some vs)\/∃p,eD σ c=some p:=λe=>by
  cases h:cW σ c with
  |some vs=>exact .inl ⟨vs,rfl⟩
  |none=>rw[h]at e;exact cQ e λp hd ab=> .inr ⟨p,hd⟩
 cases c with
 |str a=>trivial
 |tup vs=>trivial
 |_=>exact go e
theorem LX{α β:Type}{o:Option α}{f:α->β}{y:β}(e:(om o λv=>some (f v))=some y):∃v,o=some v:=cQ e λv h ab=>⟨v,h⟩
theorem SX.idx(K:Kx F.C F.call F.A d){e i:Expr}{X Y:Mp.X}{pos:Pos}(hi:qH i=true)(h:SX F (eval e F.env) X)(h':SX F (eval i F.env) Y):SX F (eval (.Subscript e i pos) F.env) (.idx X Y):=λz r V=>
 .eq (arm_eval_Subscript ..)<|(h z r V).bind λab u ai a p=>(h' _ r (V.go a)).hold.bind λab v ai b q=> .sub K.O (ops:=[u,v]) (p.go b) (λab e=>(LX e).elim λab=>Dr) (by cases i<;>first |rfl |exact nb hi)<|
  .o1 λab g=> .of λab=>FH K.O K.u (At.R _) (p.go b) q g
theorem nQ{e:Expr}{i:Int}(h:kg e=some i):∃k p,e= .Constant (.int i) k p:=by
 suffices∀e',e'=e->∃k p,e'= .Constant (.int i) k p from this e rfl;intro e' q;cases e with
 |Constant c k p=>
  cases c with
  |int j=>exact MD k p (aad h▸q)
  |_=>exact no h
 |_=>exact no h
theorem F0{M:Model}{A:Around}{env:Env}{E:Value->Shared->Prop}{s:Shared}{e:Expr}{i:Int}(h:intOf? e=some i){Q:Value->Shared->Prop}{prog:Program}{W:World}(hM:M=model prog W)(hq:∀t tk,Q (.int i t) {s with toks:=tk}):wpAny M A (eval e env) Q E s:=by
 rw[hM];have lit:kg e=some i->wpAny (model prog W) A (eval e env) Q E s:=λh=>sO (nQ h) λk p e=>e▸wpAny_mkInt (hq _ _);cases e with
 |UnaryOp op x pos=>
  cases op with
  |USub=>refine(abK.mp h).elim λj q=>sO (nQ q.1) λk p e=> ?_;exact e▸wpAny_bind (wpAny_mkInt (wpAny_bind (wpAny_standAt (wpAny_holding (adP (q.2▸hq _ _))))))
  |_=>exact lit h
 |_=>exact lit h
theorem lJ{prog:Program}{W:World}{A:Around}{env:Env}{E:Value->Shared->Prop}{s:Shared}{b:Option Expr}{k:Option Int}(h:bound? b=some k){Q:Value->Shared->Prop}(hq:∀v tk,IsPart v k->Q v {s with toks:=tk}):wpAny (model prog W) A (evalPart b env) Q E s:=by
 cases b with
 |none=>exact wpAny_pure (hq _ s.toks (aad h▸.none))
 |some e=>exact(abK.mp h).elim λi p=>F0 p.1 rfl λt tk=>hq _ _ (p.2▸.int _ _)
theorem Ds{σ:St}{c v:V}{lo hi:Option Int}{rev:Bool}(e:pI σ c lo hi rev=some v):Jn σ c:=by
 have go:∀f:List V->Option V,om (cW σ c) f=some v->(∃vs,cW σ c=some vs)\/∃p,eD σ c=some p:=λf e=>cQ e λvs h ab=> .inl ⟨vs,h⟩;cases rev with
 |true=>
  have h:=go _ (av e).2;cases c with
  |str a=>trivial
  |tup vs=>trivial
  |_=>exact h
 |false=>
  have h3:og lo.isNone (om hi λi=>og (decide (0<=i)) (om (cW σ c) λvs=>some (V.bI (vs.take i.toNat))))=some v->(∃vs,cW σ c=some vs)\/∃p,eD σ c=some p:=λe=>cQ (av e).2 λi ab e=>go _ (av e).2;cases c with
  |str a=>trivial
  |tup vs=>trivial
  |_=>exact h3 e
theorem SX.EZ(K:Kx F.C F.call F.A d){e:Expr}{lo hi st:Option Expr}{l u:Option Int}{rev:Bool}{X:X}{p pos:Pos}(hl:bound? lo=some l)(hu:bound? hi=some u)(hs:if rev=true then bound? st=some (some (-1))else st=none)
  (h:SX F (eval e F.env) X):SX F (eval (.Subscript e (.Slice lo hi st p) pos) F.env) (.EZ X l u rev):=λz r V=>
 .eq (arm_eval_Subscript ..)<|(h z r V).bind λnG F4 aK a q=>by
  have nR:bound? st=some (if rev=true then some (-1)else none):=by
   cases rev with
   |true=>exact hs
   |false=>exact(show st=none from hs)▸rfl
  refineλab f c E Q e k=>wpAny_bind (wpAny_holding (wpAny_Slice (lJ hl λvl t1 pl=>lJ hu λvu t2 pu=>lJ nR λvs t3 ps=> ?_)))
  have b:=After.grow (own:=aj) (tk:=t3) aK.R (Grows.push aK.s.heap {cls:= .type "slice",data:= .fields #[vl,vu,vs]});have q':=q.go (z':=At.of b) b;have td:if rev=true then IsPart vs (some (-1))else vs= .none:=by
   cases rev with
   |true=>exact ps
   |false=>cases ps;rfl
  refine J.sub K.O (z:=At.of b) (c:=nG) (x:=om (pI aK.σ nG l u rev) λv=>some (v,aK.σ)) (r:=Vr) (ops:=if rev=true then[F4,.ref aK.s.heap.objs.size]else[.ref aK.s.heap.objs.size,F4]) q' (λab e=>(LX e).elim λab=>Ds) ?_
   (.o1 λab g=> .of λab=>Nb b.rel q' (Heap.IsSliceOf.new ..) pl pu td g) _ f c E Q e λv u z' a'=>k v u z' (Af.trans (b:=At.of b) b a')
  cases rev with
  |true=>
   cases st with
   |none=>exact nomatch(show some none=some (some (-1))from hs)
   |some ab=>rfl
  |false=>exact(show st=none from hs)▸rfl
end
section
variable {F:Y}{d:Nat}
theorem SX.const{c:Const}{k:Nat}{pos:Pos}:SX F (eval (.Constant c k pos) F.env) (Fh c):=λz r V=>by
 refine .eq (arm_eval_Constant ..) ?_;cases c with
 |none=>exact .now rfl
 |bool b=>exact .now rfl
 |int i=>exact .of λab=>wpAny_mkInt (aX z.R ⟨_,rfl⟩)
 |str x=>
  show J F.A z _ (bR F.C.P F.call (if x.cps.toList.length<1000 then .lit (.str x.cps.toList)else .bad) r z.σ) Vr;by_cases hl:x.cps.toList.length<1000
  ·rw[if_pos hl];exact .of λab=>wpAny_mkText (aX z.R ⟨aaQ hl (aaq rfl),z.s.toks,rfl⟩)
  ·rw[if_neg hl];exact .mw
 |_=>exact .mw
theorem SX.neg{i:Int}{k:Nat}{p pos:Pos}:SX F (eval (.UnaryOp .USub (.Constant (.int i) k p) pos) F.env) (.lit (.int (-i))):=λz r V=>
 .eq (arm_eval_UnaryOp ..)<| .of λab=>wpAny_bind (wpAny_mkInt (wpAny_bind (wpAny_standAt (wpAny_holding (adP (aX z.R ⟨_,rfl⟩))))))
theorem SX.name(O:F.C.Ok){x:Str}{pos:Pos}:SX F (eval (.Name x pos) F.env) (LB F.C.T F.ns F.g x):=λz r V=>by
 have var:∀k,F.ns.lookup x=some k->(k= .local\/k= .cell\/k= .free)->J F.A z (eval (.Name x pos) F.env) (bR F.C.P F.call (IX x (F.g.lookup x)) r z.σ) Vr:=λk h1 h2=>by
  cases h3:F.g.lookup x with
  |none=>exact .mw
  |some i=>
   show J F.A z _ (bR F.C.P F.call (if(x==("__debug__" :Str) ||x==("__classdict__" :Str))=true then .bad else .var i) r z.σ) Vr;by_cases h4:(x==("__debug__" :Str) ||x==("__classdict__" :Str))=true
   ·rw[if_pos h4];exact .mw
   ·rw[if_neg h4];have h4:=aen.mp (abB.mpr h4);exact .o1 λv hv=> .of λE=>ah (Fq (A:=F.A) (E:=E) V.ok h3 h1 h2 hv h4.2) λu q1 q2=>wpAny_Name (q2 _ (bg z.R q1)) h4.1
 show J F.A z _ (bR F.C.P F.call (LA F.C.T F.g x (F.ns.lookup x)) r z.σ) Vr;cases hk:F.ns.lookup x with
 |none=>exact .mw
 |some k=>
  cases k with
  |«local»=>exact var _ hk (.inl rfl)
  |cell=>exact var _ hk (.inr (.inl rfl))
  |free=>exact var _ hk (.inr (.inr rfl))
  |globalImplicit=>
   show J F.A z _ (bR F.C.P F.call (PX (F.C.T.glob.lookup x)) r z.σ) Vr;cases hv:F.C.T.glob.lookup x with
   |none=>exact .mw
   |some gv=>
    cases gv with
    |val v'=>exact .of λE=>ah (C1 (A:=F.A) (E:=E) (pos:=pos) O z.R V.ok hk hv) λu h1 h2=>h2 _ (bg z.R h1)
    |_=>exact .mw
  |_=>exact .mw
theorem my{pos:Pos}{env:Env}{es:List Expr}(h:es.all noStar=true):backTo pos (starEach es env)=es.map λe=>(false,eval e env):=by
 induction es with
 |nil=>rfl
 |cons e es ih=>
  obtain this:starEach (e::es) env=bif noStar e then(false,eval e env)::starEach es env else starEach (e::es) env:=by cases e<;>rfl
  rw[this,(ao h).1];exact congrArg _ (ih (ao h).2)
theorem SL.args{f:Expr->X}{es:List Expr}(h:∀e∈es,SX F (eval e F.env) (f e)):SL F (spliced (es.map λe=>(false,eval e F.env))) (es.map f):=by
 induction es with
 |nil=>exactλz ab ai aD bO fc ny wj e q=>Calls.spliced_nil (q [] [] z (.refl z) rfl e)
 |cons a es ih=>
  exactλz r V ab ai c E aD e q=>Calls.spliced_cons (h a aac z r V _ _ c E _ (gb e) λv u aK b p e=>ih (λe he=>h e (aaf _ he)) aK r (V.go b) _ _ c E _ (gb e) λvs us gQ b' p' e=>
   q _ _ gQ (b.trans b') (bc.cons (p.go b') p') e)
theorem XR.jj(O:F.C.Ok){f:Expr->X}{es:List Expr}(h:∀e∈es,SX F (eval e F.env) (f e)):∀e∈es,SX F (eval e F.env) (.jj (f e)):=λe he=>(h e he).jj O
def Callee(C:Cx)(f:Value):Prop:=(∃a,f= .ref a/\keepIn C.K (.ref a)=true)\/(∃id,f= .builtin id)\/∃T,f= .type T
theorem mA(O:F.C.Ok){f:Expr->X}{es:List Expr}{fn:Value}{first:List Value}{pos pos':Pos}(nR:es.all noStar=true)(h:∀e∈es,SX F (eval e F.env) (f e))(hf:Callee F.C fn){z:At F.C}{r:En}(Ve:Vz F z r)
  {β:Type} {g:List V->St->Option (β×St)} {R:At F.C->β->Value->Prop} (k:∀vs us z',Af z z'->Vs z' vs us->J F.A z' (abr fn (first++us)) (g vs z'.σ) R):
  J F.A z (callWith pos fn first (backTo pos' (starEach es F.env)) []) (ob (CX F.C.P F.call (es.map f) r z.σ) g) R:=λab p c E Q e q=>by
 rw[my nR];refine callWith_of (P:=λh=>F.C.K.In h) ?_ (λh X=> ?_) ?_
 ·rw[show(es.map λe=>(false,eval e F.env)).any (λx=>x.1)=false from List.any_eq_false.mpr λx hx=>(aal.mp hx).elim λe he=>he.2▸aex];rfl
 ·obtain now:∃k,(k=Keeper.frame\/k=Keeper.machine\/k=Keeper.boundFrame)/\Looks (model F.C.prog F.C.W) h (pure .machine) k:=⟨.machine,.inr (.inl rfl),Looks.now⟩;exact hf.elim (λx=>ah x λa e hk=>e▸keeps_K hk h X) λx=>x.elim (λx=>x.elim λid e=>e▸now) λx=>x.elim λT e=>e▸now
 ·have go:∀(us:List Value) (vs:List V) (z':At F.C),Af z z'->Vs z' vs us->ob (g vs z'.σ) p=some c->F.C.K.In z'.s.heap/\wpAny (model F.C.prog F.C.W) F.A (abr fn (first++us)) Q E z'.s:=λus vs z' a y e=>
   ⟨O.Pb.keeps z'.R.keep,k vs us z' a y _ p c E Q e λv u Jk b=>q v u Jk (a.trans b)⟩
  cases es with
  |nil=>exact evalArgs_nil3 (go [] [] z (.refl z) rfl e)
  |cons a es=>exact Calls.evalArgs_plain (SL.args h z r Ve _ _ c E _ (gb e) λvs us z' b y e=>go us vs z' b y e)
theorem Jo{C:Cx}{w:Wd}{σ:St}{s:Shared}(R:Rel C s.heap w σ){vs:List V}{us:List Value}(hb:vs.length<big)(q:bc C.W s.heap w vs us):
  bN C aj w σ s (.loc σ.n) (σ.new (.lst vs)) (.ref s.heap.objs.size) {s with heap:=s.heap.push {cls:= .type "list",data:= .seq us.toArray}}:=by
 obtain G:=Grows.push s.heap {cls:= .type "list",data:= .seq us.toArray};obtain S:fQ s.heap w (s.heap.push {cls:= .type "list",data:= .seq us.toArray}) (w.fV s.heap.objs.size s.heap.objs.size):=
  ⟨aaK _,λl hl=>if_neg (aaF hl),λab h=>h,λx q ab e=>G.keep x q e⟩
 obtain Nt:(w.fV s.heap.objs.size s.heap.objs.size).β w.n=s.heap.objs.size:=if_pos rfl;obtain XS:(w.fV s.heap.objs.size s.heap.objs.size).δ w.n=s.heap.objs.size:=if_pos rfl;refine⟨_,After.fV (own:=aj) (tk:=s.toks) (o:= .lst vs) R G (b:=s.heap.objs.size) (d:=s.heap.objs.size) (dj _) (dI us.toArray 0 (Nt.symm▸Heap.get?_push_size _ rfl) (XS.trans Nt.symm) hb (bc.aI S _ _ q)),?_,?_⟩
 ·exact R.n▸aap _
 ·simp only[<-R.n,Nt]
theorem SX.lst{f:Expr->X}{es:List Expr}{pos:Pos}(nR:es.all noStar=true)(h:∀e∈es,SX F (eval e F.env) (f e)):SX F (eval (.List es pos) F.env) (.lst (es.map f)):=λz r V=>
 .eq (arm_eval_List ..)<| .lq<|J.bind (my nR▸SL.args h z r V) λvs us z' a p=> .g1 λhb=> .of λab=>wpAny_newList (Jo z'.R (of_decide_eq_true hb) p) (dY (bc.length p▸of_decide_eq_true hb))
theorem SX.tup{f:Expr->X}{es:List Expr}{k:Nat}{pos:Pos}(nR:es.all noStar=true)(h:∀e∈es,SX F (eval e F.env) (f e)):SX F (eval (.Tuple es k pos) F.env) (.tup (es.map f)):=λz r V=>
 .eq (arm_eval_Tuple ..)<| .lq<|J.bind (my nR▸SL.args h z r V) λvs us z' a p=> .g1 λhb=> .of λab=>wpAny_newTuple (uQ (tk:=z'.s.toks) z'.R (of_decide_eq_true hb) p) (dY (bc.length p▸of_decide_eq_true hb))
def VS(C:Cx)(x:Str)(u:Value):Prop:=C.mg x=some u\/(C.mg x=none/\C.mb x=some u)
theorem nU(O:F.C.Ok){z:At F.C}{r:En}{E:Value->Shared->Prop}(V:Vz F z r){x:Str}{pos:Pos}{u:Value}(hk:F.ns.lookup x=some .globalImplicit)(hd:(x==("__debug__" :Str))=false)
  (hu:VS F.C x u) {Q:Value->Shared->Prop} (q:Q u z.s):wpAny (model F.C.prog F.C.W) F.A (eval (.Name x pos) F.env) Q E z.s:=by
 obtain n:=V.ok.globals.symm▸z.R.zc O.g;exact Name_function_global V.ok.kind (V.ok.own hk λh=>nomatch h) (hu.elim (λh=>loadGlobal_global n h q) λh=>loadGlobal_builtin n h.1 (V.ok.builtins.symm▸z.R.zc O.b) h.2 q) hd
theorem SX.call_of(O:F.C.Ok){f:Str}{p pos:Pos}{k:Expr->X}{es:List Expr}{u:Value}{Y:X}{g:List V->St->Option (V×St)}(hk:F.ns.lookup f=some .globalImplicit)(hd:(f==("__debug__" :Str))=false)(hu:VS F.C f u)(hf:Callee F.C u)
  (nR:es.all noStar=true) (h:∀e∈es,SX F (eval e F.env) (k e)) (he:∀r σ,bR F.C.P F.call Y r σ=ob (CX F.C.P F.call (es.map k) r σ) g) (hr:∀vs us (z:At F.C),Vs z vs us->J F.A z (abr u us) (g vs z.σ) Vr):
  SX F (eval (.Call (.Name f p) es [] pos) F.env) Y:=λz r V=>
 .eq (arm_eval_Call_Name' ..)<| .cast (he ..) λab p c E ai e q=>wpAny_bind (nU O V hk hd hu (mA (first:=[]) (g:=g) (R:=Vr) O nR h hf V (λvs us z' ab y=>hr vs us z' y) _ p c E _ e q))
theorem cM{α:Type}{b:Bool}{a c:α}{o:Option α}{P:Prop}(h:(if b=true then some a else o)=some c)(k:b=true->a=c->P)(k':o=some c->P):P:=by
 by_cases e:b=true
 ·rw[if_pos e]at h;exact k e (aad h)
 ·rw[if_neg e]at h;exact k' h
theorem Dt{x:Str}{b:Bi}(h:Fi x=some b):(x==("__debug__" :Str))=false/\b≠.isStr:=by
 have go:∀(y:Str) (c:Bi),(y==("__debug__" :Str))=false->c≠.isStr->(x==y)=true->c=b->(x==("__debug__" :Str))=false/\b≠.isStr:=λy c h1 h2 h3 h4=>⟨abh h3▸h1,h4▸h2⟩;exact cM h (go _ _ (rfl) nofun) λh=>cM h (go _ _ (rfl) nofun) λh=>cM h (go _ _ (rfl) nofun) λh=>cM h (go _ _ (rfl) nofun) λh=>
  cM h (go _ _ (rfl) nofun) λh=>cM h (go _ _ (rfl) nofun) λh=>no h
theorem uY{T:CT}{ns:bJ}{e:Expr}(h:kh T ns e=true):∃p,e= .Name "str" p/\ns.lookup ("str" :Str)=some .globalImplicit/\T.glob.lookup ("str" :Str)=none:=by
 suffices∀e',e'=e->∃p,e'= .Name "str" p/\ns.lookup ("str" :Str)=some .globalImplicit/\T.glob.lookup ("str" :Str)=none from this e rfl;intro e' q;cases e with
 |Name x p=>have h1:=abh (ao (ao h).1).1;rw[h1]at h q;exact⟨p,q,abh (ao (ao h).1).2,aaZ.mp (ao h).2⟩
 |_=>exact nb h
def XT(b:Bi)(vs:List V)(s:St):Option (V×St):=match vs with |[v]=>sX s b v |_=>none
theorem Jp{P:Prog}{call:ct}{a:X}{b:Bi}{r:En}{σ:St}:bR P call (.bi b a) r σ=ob (CX P call [a] r σ) (XT b):=by show ob (bR P call a r σ) _=ob (ob (bR P call a r σ) _) _;cases bR P call a r σ<;>rfl
theorem SX.AW(K:Kx F.C F.call F.A d){f:Str}{p pos:Pos}{k:Expr->X}{es:List Expr}(nR:es.all noStar=true)(h:∀e∈es,SX F (eval e F.env) (k e)):SX F (eval (.Call (.Name f p) es [] pos) F.env) (AW F.C.T F.ns f es (es.map k)):=by
 show SX F _ (LD (LC F.C.T F.ns f es (es.map k) (F.C.T.glob.lookup f)) (F.ns.lookup f));cases hk:F.ns.lookup f with
 |none=>exact SX.bad
 |some kd=>
  cases kd with
  |globalImplicit=>
   cases hg:F.C.T.glob.lookup f with
   |some gv=>
    cases gv with
    |fn i=>
     obtain G:=K.G.fn f i hg;obtain run:∀k:Expr->X,(∀e∈es,SX F (eval e F.env) (k e))->SX F (eval (.Call (.Name f p) es [] pos) F.env) (.call i (es.map k)):=λk hY=>
      SX.call_of K.O hk G.1 (.inl G.2.1) (.inl ⟨_,rfl,G.2.2⟩) nR hY (λab ai=>rfl) λvs us z y=>K.call.run K.Rm y
     show SX F _ (.call i (if F.C.T.yY.contains i=true then(es.map k).map .jj else es.map k));by_cases hc:F.C.T.yY.contains i=true
     ·rw[if_pos hc,aay];exact run _ (XR.jj K.O h)
     ·rw[if_neg hc];exact run k h
    |cls c=>obtain G:=K.G.cls f c hg;exact SX.call_of K.O hk G.1 (.inl G.2.1) (.inl ⟨_,rfl,G.2.2⟩) nR h (λab ai=>rfl) λvs us z y=>K.call.new K.Rm y
    |val v=>exact SX.bad
   |none=>
    cases es with
    |nil=>exact SX.bad
    |cons e0 es=>
     cases es with
     |nil=>
      show SX F _ (VD (k e0) (Fi f));cases hb:Fi f with
      |none=>exact SX.bad
      |some b=>
       obtain Pd:=Dt hb;refine SX.call_of (u:=Dd b) K.O hk Pd.1 (.inr (K.G.bi f b hg hb)) ?_ nR h (λab ai=>Jp) λvs us z y=> ?_
       ·cases b with
        |isStr=>exact absurd rfl Pd.2
        |tuple=>exact .inr (.inr ⟨_,rfl⟩)
        |dict=>exact .inr (.inr ⟨_,rfl⟩)
        |range=>exact .inr (.inr ⟨_,rfl⟩)
        |_=>exact .inr (.inl ⟨_,rfl⟩)
       ·cases vs with
        |nil=>exact .mw
        |cons v vs=>
         cases vs with
         |cons ab ai=>exact .mw
         |nil=>
          refine dM y λx xs e1 q e2=> ?_;rw[e1,show xs=[]from e2];show J F.A z _ (sX z.σ b v) Vr;obtain one:∀b,b≠.any->b≠.isStr->J F.A z (abr (Dd b) [x]) (sX z.σ b v) Vr:=λb h1 h2=>by
           cases e:sX z.σ b v with
           |none=>exact .mw
           |some q'=>
            refine .of λE=> ?_;cases b with
            |isStr=>exact absurd rfl h2
            |_=>exact(LR (A:=F.A) (E:=E) K.O K.Rm.handled z.R h1 q e)
          by_cases I8:b= .any
          ·rw[I8];cases e:sX z.σ .any v with
           |none=>exact .mw
           |some q'=>exact .of λab=>Nh K.Rm.handled z.R q e
          ·exact one b I8 Pd.2
     |cons t es=>
      cases es with
      |cons ab ai=>exact SX.bad
      |nil=>
       show SX F _ (if(f==("isinstance" :Str) &&kh F.C.T F.ns t)=true then .bi .isStr (k e0)else .bad);by_cases hc:(f==("isinstance" :Str) &&kh F.C.T F.ns t)=true
       ·rw[if_pos hc];obtain hf:=abh (ao hc).1;refine dw (uY (ao hc).2) λpx et TL VT=> ?_;rw[et]at nR⊢;rw[hf]at hk⊢
        refineλz r V=> .eq (arm_eval_Call_Name' ..) λab p c E ai e q=>wpAny_bind (nU K.O V hk (rfl) (.inr (K.G.VP (hf▸hg))) ?_)
        rw[my nR];refine Calls.callWith_builtin rfl (Calls.evalArgs_plain (Calls.spliced_cons (h e0 aac z r V _ _ c E _ (gb e) λv u aK a y e=>Calls.spliced_cons (nU K.O (V.go a) TL (rfl) (.inr (K.G.str VT)) (Calls.spliced_nil ?_)))));cases eb:sX aK.σ .isStr v with
        |none=>rw[eb]at e;exact no e
        |some q'=>rw[eb]at e;exact J.of (λab=>LR (b:= .isStr) K.O K.Rm.handled aK.R nofun y eb) _ p c E _ e λv u Jk b=>q v u Jk (a.trans b)
       ·rw[if_neg hc];exact SX.bad
  |_=>exact SX.bad
noncomputable def xb:Me->Str
 | .append=> "append" | .extend=> "extend" | .pop=> "pop" | .get=> "get" | .update=> "update" | .join=> "join" | .user _=> ""
theorem pK{prog:Program}{W:World}{A:Around}{env:Env}{o:Expr}{m:Str}{apos pos:Pos}{es:List Expr}{E:Value->Shared->Prop}{s:Shared}{Q:Value->Shared->Prop}(hb:baseOk o=true)(tQ:(apos.endLine==pos.line)=true)(hlen:es.length<29)(nR:es.all noStar=true)
  (h:wpAny (model prog W) A (eval o env) (λov cH=>∀pl,wpAny (model prog W) A (getMethod ov m pl) (λfx fR=>wpAny (model prog W) A (callWith pos fx.1 fx.2 (backTo pos (starEach es env)) []) Q E fR) E cH) E s):
  wpAny (model prog W) A (eval (.Call (.Attribute o m apos) es [] pos) env) Q E s:=by
 rw[arm_eval_Call,iX hb];refine wpAny_bind (wpAny_mono h (λov cH qK=>wpAny_bind (wpAny_standAt ?_)) λab ai e=>e);obtain Qs:methodCallForm (es.length+([]:List Keyword).length) (backTo pos (starEach es env)) (backToKw pos (keywordEach [] env))=true:=by unfold methodCallForm;exact(my nR).symm▸(show(es.map λe=>((false,eval e env):Bool×Sem Value)).all (!·.1)=true from aas.mpr λx hx=>(aal.mp hx).elim λe he=>he.2▸rfl).symm▸Ba (Ba rfl rfl) (decide_eq_true (abq hlen))
 obtain Nj:methodCallPos true o env apos pos=pure pos:=by unfold methodCallPos;rw[tQ];rfl
 unfold methodCall;rw[Qs];refine wpAny_bind (wpAny_holding ?_);exact wpAny_mono (qK _) (λfx fR zu=>wpAny_bind (wpAny_of_eq Nj zu)) λab ai e=>e
theorem Du{C:Cx}(O:C.Ok){A:Around}{E:Value->Shared->Prop}{z:At C}{m:Me}{f:Nat}{ov:V}{u:Value}(hm:∀k,m≠.user k)(q:Vr z ov u)(e:dA C.P z.σ m ov=some f){pl:Sem Bool}{Q:Value×List Value->Shared->Prop}
  (h:Q (w8 m,[u]) z.s):wpAny (model C.prog C.W) A (getMethod u (xb m) pl) Q E z.s:=by
 have d:∀{n:Str} {id:String},(om (eD z.σ ov) λab=>some 0)=some f->PySem.Slot "dict" n id->typeOf (.builtin id)=pure (.type "method_descriptor")->Q (.builtin id,[u]) z.s->wpAny (model C.prog C.W) A (getMethod u n pl) Q E z.s:=λe h1 h2 h=>cQ e λp e ab=>
  gD (iH O z.R q e) λa eu ab ai di=>eO di λes n ho ab=>getMethod_builtin (eu▸⟨_,ho,rfl⟩) F.plainAttrs_dict h1 h2 (λb hb=>⟨_,Value.ref.inj (eu.symm.trans hb)▸ho,rfl⟩) h
 have l:∀{n:Str} {id:String},(om (cW z.σ ov) λab=>some 0)=some f->PySem.Slot "list" n id->typeOf (.builtin id)=pure (.type "method_descriptor")->Q (.builtin id,[u]) z.s->wpAny (model C.prog C.W) A (getMethod u n pl) Q E z.s:=λe h1 h2 h=>cQ e λp e ab=>
  g9 (iG z.R q e) λa items n eu ho ab ai=>getMethod_builtin (eu▸⟨_,ho,rfl⟩) F.plainAttrs_list h1 h2 (λb hb=>⟨_,Value.ref.inj (eu.symm.trans hb)▸ho,rfl⟩) h
 cases m with
 |user k=>exact absurd rfl (hm k)
 |join=>refine cQ e λsp h1 ab=> ?_;rw[iR h1]at q;exact q.2.elim λt eu=>getMethod_builtin (eu▸typeIs_str z.s _ t) F.plainAttrs_str F.slot_str_join F.type_str_join (λa ha=>nomatch eu.symm.trans ha) h
 |get=>exact d e F.slot_dict_get F.type_dict_get h
 |update=>exact d e F.slot_dict_update F.type_dict_update h
 |append=>exact l e F.slot_list_append F.type_list_append h
 |extend=>exact l e F.slot_list_extend F.type_list_extend h
 |pop=>exact l e F.slot_list_pop F.type_list_pop h
theorem SX.nr(K:Kx F.C F.call F.A d){o:Expr}{m:Str}{mm:Me}{apos pos:Pos}{es:List Expr}{Y:X}{k:Expr->X}(hb:baseOk o=true)(tQ:(apos.endLine==pos.line)=true)(hlen:es.length<29)(nR:es.all noStar=true)
  (hm:(∃k,mm= .user k/\qN F.C k=m)\/((∀k,mm≠.user k)/\m=xb mm)) (ho:SX F (eval o F.env) Y) (h:∀e∈es,SX F (eval e F.env) (k e)):
  SX F (eval (.Call (.Attribute o m apos) es [] pos) F.env) (.nr mm Y (es.map k)):=λz r V ab p c E ai e q=>
 pK hb tQ hlen nR (ho z r V _ _ c E _ (gb e) λnG F4 aK cI jE e pl=>cQ (mu.symm.trans e) λf h2 e=>by
  have go:∀fn first,Callee F.C fn->(∀vs us z',Af aK z'->Vs z' vs us->J F.A z' (abr fn (first++us)) (cX F.call z'.σ mm f nG vs) Vr)->wpAny (model F.C.prog F.C.W) F.A (callWith pos fn first (backTo pos (starEach es F.env)) []) _ E aK.s:=λfn first hf hr=>
   mA K.O nR h hf (V.go cI) (λvs us z' b y=>hr vs us z' b y) _ p c E _ e λv u z' b=>q v u z' (cI.trans b)
  refine hm.elim (λx=>ah x λi em TV=> ?_) λx=> ?_
  ·--a method of Sl Pj own
   rw[em]at h2 go;refine cQ h2 λl hv h2=>cQ h2 λpp hq h2=> ?_;rw[hG hv]at jE go;refine b8 (uO aK.R jE.1 (qz hq)) λM8 n' I IB F' ab=> ?_;obtain Kk:=K.K _ (K.G.Bt _ i f h2);obtain km:=Kk.nr i f h2;rw[TV]at km;obtain TA:shadowIn (some (dictOf M8 n')) m=some false:=congrArg (Option.map adi) (F'.none km.2.2);rw[jE.2];exact method_fn (K.O.Pb.keeps aK.R.keep) I Kk.get Kk.noGetattr km.1 km.2.1 TA (go _ _ (.inl ⟨_,rfl,K.G.w9 _ i f h2⟩) λvs us z' b y=>K.call.run K.Rm (bc.cons (jE.2▸Vr.go jE b) y))
  ·rw[x.2];refine Du K.O x.1 jE h2 (go _ _ ?_ λvs us z' b y=> ?_)
   ·cases mm with
    |user i=>exact absurd rfl (x.1 i)
    |_=>exact .inr (.inl ⟨_,rfl⟩)
   ·obtain this:cX F.call z'.σ mm f nG vs=AU z'.σ mm nG vs:=by
     cases mm with
     |user i=>exact absurd rfl (x.1 i)
     |_=>rfl
    simp only[this];cases e:AU z'.σ mm nG vs with
    |none=>exact .mw
    |some q'=>exact .of λab=>Jj K.O K.u z'.R x.1 (Vr.go jE b) y e)
theorem Dv{m:Str}{mm:Me}(h:IY m=some mm):(∀k,mm≠.user k)/\m=xb mm:=by
 have go:∀(y:Str) (c:Me),(∀k,c≠.user k)->y=xb c->(m==y)=true->c=mm->(∀k,mm≠.user k)/\m=xb mm:=λy c h1 h2 h3 h4=>⟨h4▸h1,h4▸(abh h3).trans h2⟩;exact cM h (go _ _ (λab h=>nomatch h) rfl) λh=>cM h (go _ _ (λab h=>nomatch h) rfl) λh=>cM h (go _ _ (λab h=>nomatch h) rfl) λh=>cM h (go _ _ (λab h=>nomatch h) rfl) λh=>
  cM h (go _ _ (λab h=>nomatch h) rfl) λh=>cM h (go _ _ (λab h=>nomatch h) rfl) λh=>no h
theorem SX.AX(K:Kx F.C F.call F.A d){o:Expr}{m:Str}{apos pos:Pos}{es:List Expr}{Y:X}{k:Expr->X}(hb:baseOk o=true)(tQ:(apos.endLine==pos.line)=true)(hlen:es.length<29)(nR:es.all noStar=true)
  (ho:SX F (eval o F.env) Y) (h:∀e∈es,SX F (eval e F.env) (k e)):SX F (eval (.Call (.Attribute o m apos) es [] pos) F.env) (AX F.C.T m Y (es.map k)):=by
 show SX F _ (LF m Y (es.map k) (idxOf m F.C.T.meths));cases hk:idxOf m F.C.T.meths with
 |some i=>exact SX.nr K hb tQ hlen nR (.inl ⟨i,rfl,jq hk⟩) ho h
 |none=>
  show SX F _ (VE Y (es.map k) (IY m));cases hm:IY m with
  |none=>exact SX.bad
  |some mm=>exact SX.nr K hb tQ hlen nR (.inr (Dv hm)) ho h
end
section
variable {F:Y}{d:Nat}
theorem After.toL{C:Cx}{nK w:Wd}{iW σ:St}{fh s:Shared}{a:Addr}{o:O}(x:After C aj nK iW fh w σ s)(hn:fh.heap.get? a=none)(C0:¬w.φ a)(za:¬w.ε a)(hu:∀l,l<w.n->σ.f l≠.dead->w.δ l≠a)
  (ho:iE C s.heap (w.fV a a) w.n o):After C aj nK iW fh (w.fV a a) (σ.new o) s:=by
 obtain R:=x.rel;have iQ:∀l,l<w.n->(w.fV a a).δ l=w.δ l:=λl hl=>w.zb a a hl;obtain LI:∀l,l<w.n->(w.fV a a).β l=w.β l:=λl hl=>w.uM a a hl;have en:=(w.kZ a a).2;exact⟨x.st,R.MX ⟨aaK _,LI,λab h=>h,λab ai aD e=>e⟩ rfl iQ (λab ai aD bO e=>e) (λl hl hd e=>hu l hl hd (e.trans en)) (λl hl hd=>R.fr l (R.n▸hl) hd) (en.symm▸⟨C0,za⟩) R.jO R.ip R.iF ho,aaa x.le (aaK _),λl hl=>have k:=aak hl x.le;⟨(LI l k).trans (x.same l hl).1,(iQ l k).trans (x.same l hl).2⟩,x.φ,x.ε,x.keep,λl hl hd=>(qI (p:=λb=>fh.heap.get? b=none) R.n (en.symm▸hn) hl hd).elim (λk=>(x.new l k.1 k.2).imp id λe=>(congrArg fh.heap.get? (iQ l k.1)).trans e) .inr,x.alive⟩
def Vp{C:Cx}(z:At C)(xs:List V)(ps:List (Value×Value)):Prop:=Vs z (oW xs) (ps.map (λx=>x.1))/\Vs z (yW xs) (ps.map (λx=>x.2))
theorem Dw{pos:Pos}{k:Expr->X}{es:List Expr}:∀{vs:List Expr},(∀e∈es,SX F (eval e F.env) (k e))->(∀e∈vs,SX F (eval e F.env) (k e))->es.length=vs.length->∀z r,Vz F z r->
  J F.A z (evalPairs (pairTrees (es.map some) vs F.env pos)) (CX F.C.P F.call (weave (es.map k) (vs.map k)) r z.σ) Vp:=by
 induction es with
 |nil=>exactλab ai aD z bO fc ny wj IE Qt F5 e q=>evalPairs_nil (q [] [] z (.refl z) ⟨rfl,rfl⟩ e)
 |cons a es ih=>
  intro vs h1 h2 hl z r V;cases vs with
  |nil=>exact nomatch hl
  |cons b vs=>
   exactλab p c E Q e q=>evalPairs_cons (h1 a aac z r V _ _ c E _ (gb e) λnG F4 aK cI rf e=>wpAny_bind (h2 b aac aK r (V.go cI) _ _ c E _ (gb (gb e)) λNu uZ gQ cJ te e=>wpAny_bind (wpAny_standAt (wpAny_pure
    (ih (λe he=>h1 e (aaf _ he)) (λe he=>h2 e (aaf _ he)) (acm hl) gQ r ((V.go cI).go cJ) _ _ c E _ (gb e) λxs ps rg fu xc e=>
     q (nG::Nu::xs) ((F4,uZ)::ps) rg ((cI.trans cJ).trans fu) ⟨bc.cons ((rf.go cJ).go fu) xc.1,bc.cons (te.go fu) xc.2⟩ e)))))
theorem Jq{K:Type}[DecidableEq K]{prog:Program}{W:World}{knd:KeyKind prog W K}{κ:K->V}{p:V->Bool}{ok:K->Prop}(H:KV prog W knd κ p ok){h:Heap}{w:Wd}{ps:List (Value×Value)}:∀{ks:List V},ks.all p=true->bc W h w ks (ps.map (λx=>x.1))->
  ∃bK:List (K×Value),Carries knd ps bK/\bK.map (λq=>κ q.1)=ks/\bK.map (λx=>x.2)=ps.map (λx=>x.2)/\∀q∈bK,ok q.1:=by
 induction ps with
 |nil=>
  intro ks dJ q;cases ks with
  |nil=>exact wy [] trivial rfl rfl λab h=>nomatch h
  |cons ab ai=>exact q.CZ λab ai aD bO e=>nomatch e
 |cons a ps ih=>
  intro ks hk q;cases ks with
  |nil=>exact nomatch(show(a::ps).map (λx=>x.1)=[]from q)
  |cons v ks=>
   exact dw (H.to (ao hk).1 q.un.1) λk ek hi ho=>gD (ih (ao hk).2 q.un.2) λbK p1 p2 p3 p4=>
    wy ((k,a.2)::bK) ⟨hi,rfl,p1⟩ (congr (congrArg abZ ek) p2) (congrArg _ p3) (aaX.mpr ⟨ho,p4⟩)
theorem SX.IV{k:Expr->X}{es vs:List Expr}{pos:Pos}(hK:∀e∈es,SX F (eval e F.env) (k e))(hV:∀e∈vs,SX F (eval e F.env) (k e))(hl:es.length=vs.length)(Pk:es.length<=15):
  SX F (eval (.Dict (es.map some) vs pos) F.env) (.IV (weave (es.map k) (vs.map k))):=λz r Ve ab p c E Q e q=>by
 cases es with
 |nil=>
  cases vs with
  |cons ab ai=>exact nomatch hl
  |nil=>
   obtain Nt:=(z.w.kZ z.s.heap.objs.size z.s.heap.objs.size).1;have b:=After.fV (own:=aj) (tk:=z.s.toks) (o:= .bV [] []) z.R (Grows.push z.s.heap {cls:= .type "dict",data:= .dict #[]}) (b:=z.s.heap.objs.size) (d:=z.s.heap.objs.size) (dj _)
    (dI #[] 0 (Nt.symm▸Heap.get?_push_size _ rfl) ((z.w.kZ _ _).2.trans Nt.symm) (by decide) ⟨rfl,rfl,rfl,abA⟩)
   exact wpAny_Dict_empty (q (.loc z.σ.n) _ (At.of b) b ⟨z.R.n▸aap _,z.R.n▸congrArg Value.ref Nt.symm⟩ e)
 |cons e0 Z8=>
  obtain zx:z.s.heap.get? z.s.heap.objs.size=none:=dj _;have Jr:After F.C aj z.w z.σ z.s (z.w.fZ λb=>b=z.s.heap.objs.size) z.σ {z.s with heap:=z.s.heap.push {cls:= .type "dict",data:= .dict #[]}}:=
   After.fZ z.R (Grows.push _ _) (λa q=>q▸zx) λa q=>q▸⟨_,Heap.get?_push_size _ rfl⟩
  refine wpAny_Dict_any (aas.mpr λx hx=>(aal.mp hx).elim λe he=>he.2▸rfl) ((aae ..).trans hl) (λh=>nomatch h) ((aae ..).symm▸Pk)
   (Dw hK hV hl (At.of Jr) r (Ve.go Jr) _ _ c E _ (gb e) λxs ps aK cI y e=>cQ (mu.symm.trans e) λpq h2 e=> ?_)
  obtain hc:=ao (av h2).1;have hn:=of_decide_eq_true hc.2;have za:=cI.ε _ (.inr rfl);obtain Qu:aK.s.heap.get? z.s.heap.objs.size=some (nF #[] 0):=cI.lD Jr.rel _ _ (.inr rfl) (Heap.get?_push_size _ rfl);obtain C0:¬aK.w.φ z.s.heap.objs.size:=λq=>aK.R.iF _ q za;rw[<-aad (av h2).2]at e;obtain go:∀{K:Type} [DecidableEq K] {knd:KeyKind F.C.prog F.C.W K} {κ:K->V} {pp:V->Bool} {ok:K->Prop} (_:KV F.C.prog F.C.W knd κ pp ok),(oW xs).all pp=true->
    wpAny (model F.C.prog F.C.W) F.A (storeAll z.s.heap.objs.size ps) (λab fR=>Q (.ref z.s.heap.objs.size) fR) E aK.s:=λ{K _ knd κ pp ok} H hs=>by
   refine gD (Jq H hs y.1) λbK c1 c2 c3 c4=>wpAny_storeAll ps bK [] aK.s _ c1 ⟨_, #[],0,Qu,⟨rfl,rfl,rfl⟩,rfl,λe he=>(Array.not_mem_empty _ he).elim,.nil,abA⟩ ?_ λh' FI tO=> ?_
   ·show 0+bK.length<=_;rw[aby,<-aae (f:=λq:K×Value=>κ q.1),c2];exact aaa hn (by simp only[sizeLine_eq];decide)
   ·obtain b:=After.drop (p:=λb=>b=z.s.heap.objs.size) (tk:=aK.s.toks+ps.length) z.R (Jr.trans cI) (λab h=>h.elim) (λb q=>q▸zx) (λb q=>q▸za) λb o hb e=>(tO.2 b hb).trans e;obtain S:fQ aK.s.heap aK.w h' ((aK.w.iJ λb=>b=z.s.heap.objs.size).fV z.s.heap.objs.size z.s.heap.objs.size):=
     ⟨aaK _,λl hl=>if_neg (aaF hl),λab h=>h,λb o hb e=>(tO.2 b (λz=>C0 (z▸hb))).trans e⟩
    obtain g:=ll H.inj (bK:=[]) (vs:=[]) (more:=bK) (h:=aK.s.heap) (w:=aK.w) abA rfl (c3▸y.2);rw[c2]at g;obtain dd:=Bh H FI (bc.aI S _ _ g.2) (Dk (aar _) c4);rw[<-g.1]at dd;obtain en:=(aK.w.iJ λb=>b=z.s.heap.objs.size).kZ z.s.heap.objs.size z.s.heap.objs.size;have t:=b.toL (o:= .bV (gg [] [] (oW xs) (yW xs)).1 (gg [] [] (oW xs) (yW xs)).2) zx C0 (λq=>q.2 rfl) (λl hl hd q=>(aK.R.fr l (aK.R.n▸hl) hd).2 (q▸za))
     (eO dd λM8 m g1 g2=>dI M8 m (en.1.symm▸g1) (en.2.trans en.1.symm) (aai (aaa (lg [] [] (yW xs) rfl (LM:=oW xs)).1 (aaa (abD (aby _)) hn)) (by decide:15<big)) g2)
    exact q (.loc aK.σ.n) _ (At.of t) t ⟨aK.R.n▸aap _,aK.R.n▸congrArg Value.ref en.1.symm⟩ e
  exact((abd ..).mp (ao hc.1).1).elim (go (Pc ..)) (go (TC ..))
end
theorem iY{α:Type}{x y:Str}{a:α}{l:List (Str×α)}(h:x=y):((y,a)::l).lookup x=some a:=by simp only[acW,h,beq_self_eq_true]
theorem iZ{α:Type}{x y:Str}{a:α}{l:List (Str×α)}(h:x≠y):((y,a)::l).lookup x=l.lookup x:=by simp only[acW,beq_false_of_ne h]
theorem lookup_mem{α:Type}{x:Str}{k:α}{l:List (Str×α)}(h:l.lookup x=some k):(x,k)∈l:=by
 induction l with
 |nil=>exact no h
 |cons p r ih=>
  by_cases e:x=p.1
  ·rw[iY (a:=p.2) e]at h;exact aad h▸e▸aac
  ·exact aaf _ (ih ((iZ (a:=p.2) e).symm.trans h))
section
variable {F:Y}{env:Env}{ns:bJ}{g:Ga}{n:Nat}
theorem zy{names:List (Str×NameKind)}:∀{cs:List (Str×Addr)},(∀y,(y,.free)∈names->∃c,env.cells.lookup y=some c)->(∀y c,cs.lookup y=some c->env.cells.lookup y=some c)->
  ∃cl,(forIn names cs (λ(x:Str×NameKind) (cs:List (Str×Addr))=>(if(x.2==NameKind.free)=true then do let c<-cellOf env x.1;pure (abL ((x.1,c)::cs))else pure (abL cs):Sem (ForInStep (List (Str×Addr))))):Sem (List (Str×Addr)))=pure cl/\
   (∀y c,cl.lookup y=some c->env.cells.lookup y=some c)/\∀y,(y,NameKind.free)∈names\/(∃c,cs.lookup y=some c)->∃c,cl.lookup y=some c:=by
 induction names with
 |nil=>exactλ{cs} dJ h=>iD cs adQ h λy q=>q.elim (λq=>absurd q adG) id
 |cons p names ih=>
  intro cs h hs;obtain h':=λy hm=>h y (aaf _ hm);by_cases hk:p.2= .free
  ·refine(h p.1 (hk▸aac)).elim λc hc=>dw (ih (cs:=(p.1,c)::cs) h' λy c' q=> ?_) λcl e h1 h2=>iD cl ?_ h1 λy q=>h2 y ?_
   ·by_cases z:y=p.1
    ·rw[iY z]at q;rw[z,hc];exact q
    ·exact hs y c' ((iZ z).symm.trans q)
   ·obtain this:cellOf env p.1=pure c:=by unfold cellOf;rw[hc]
    rw[acE,if_pos (beq_iff_eq.mpr hk),this];exact e
   ·by_cases z:y=p.1
    ·exact .inr ⟨c,iY z⟩
    ·exact q.imp (λq=>(aam.mp q).elim (λe=>absurd (congrArg adk e) z) id) λq=>q.elim λc q=>⟨c,(iZ z).trans q⟩
  ·refine dw (ih (cs:=cs) h' hs) λcl e h1 h2=>iD cl ?_ h1 λy q=>h2 y (q.imp (λq=>(aam.mp q).elim (λe=>absurd (congrArg aeH e).symm hk) id) id);rw[acE,if_neg (λz=>hk (beq_iff_eq.mp z))];exact e
theorem zA{scope:Scope}(h:∀y,(y,.free)∈scope.names->∃c,env.cells.lookup y=some c):∃cl,closureFor scope env=pure cl/\∀y,(y,NameKind.free)∈scope.names->cl.lookup y=env.cells.lookup y:=
 dw (zy (cs:=[]) h λab ai e=>no e) λcl e h1 h2=>cq cl (by rw[closureFor];rw[<-e,bind_pure]) λy hm=>(h2 y (.inl hm)).elim λc q=>q.trans (h1 y c q).symm
theorem zB{x:Str}{f:Str×NameKind->Str×NameKind}(hf:∀p,(f p).1=p.1){names:List (Str×NameKind)}{k:NameKind}(h:names.lookup x=some k):(names.map f).lookup x=some (f (x,k)).2:=by
 induction names with
 |nil=>exact no h
 |cons p r ih=>
  by_cases e:x=p.1
  ·rw[iY (a:=p.2) e]at h;rw[<-aad h,e];exact iY (y:=(f p).1) (a:=(f p).2) (hf p).symm
  ·exact(iZ (y:=(f p).1) (a:=(f p).2) (hf p▸e)).trans (ih ((iZ (a:=p.2) e).symm.trans h))
theorem rh{scope:Scope}{x:Str}{k:NameKind}(h:scope.names.lookup x=some k):(relabel scope env).names.lookup x=some k\/(k= .free/\(relabel scope env).names.lookup x=some .cell):=by
 obtain e:=zB (f:=λp=>if(p.2==NameKind.free &&env.scope.kind== .function &&env.kindOf p.1==some .cell)=true then(p.1,.cell)else(p.1,p.2)) (λp=>by
  by_cases hc:(p.2==NameKind.free &&env.scope.kind== .function &&env.kindOf p.1==some .cell)=true
  ·rw[if_pos hc]
  ·rw[if_neg hc]) h
 by_cases hc:(k==NameKind.free &&env.scope.kind== .function &&env.kindOf x==some .cell)=true
 ·rw[if_pos hc]at e;exact .inr ⟨beq_iff_eq.mp (ao (ao hc).1).1,e⟩
 ·rw[if_neg hc]at e;exact .inl e
structure tR(ns:bJ)(g:Ga)(x:Str)(scope:Scope):Prop where
 kind:scope.kind= .function
 xl:scope.names.lookup x=some .local
 dot:g.lookup (".0" :Str)=none
 all:∀y k,(y,k)∈scope.names->LG ns g x scope.names y k=true
theorem tR.of{x:Str}{scope:Scope}(h:qD ns g x scope=true):tR ns g x scope:=
 have h1:=ao h;have h2:=ao h1.1
 ⟨beq_iff_eq.mp (ao h2.1).1,beq_iff_eq.mp (ao h2.1).2,aaZ.mp h2.2,λy k hm=>aas.mp h1.2 (y,k) hm⟩
theorem zC{k:Option NameKind}(h:AY k=true):k=some .cell\/k=some .free:=by
 cases k with
 |none=>exact nb h
 |some k=>cases k<;>first |exact nb h |exact .inl rfl |exact .inr rfl
theorem tS{C:Cx}{h:Heap}{w:Wd}{r:En}{x y:Str}{scope:Scope}(V:bz C h w env ns g r)(H:tR ns g x scope)(hm:(y,.free)∈scope.names):∃i,g.lookup y=some i/\CV C h w env y (r.getD i none):=
 V.slots.elim λm q=>have a:=ao (H.all y _ hm);(adW.mp a.2).elim λi hi=>⟨i,hi,(zC a.1).elim (λe=>q.2 y i _ hi e (.inr (.inl rfl))) λe=>q.2 y i _ hi e (.inr (.inr rfl))⟩
theorem F6{C:Cx}{h:Heap}{w:Wd}{r:En}{x:Str}{scope:Scope}{cl:List (Str×Addr)}{Cl:Addr}{m:Str->Option Value}{u:Value}{v:V}(V:bz C h w env ns g r)(hr:r.length=n)(H:tR ns g x scope)
  (ER:∀y,(y,NameKind.free)∈scope.names->cl.lookup y=env.cells.lookup y) (za:w.ε Cl) (IF:h.Ns Cl m) (hm:m x=some u) (hu:VR C.W h w v u):bz C h w (compEnvC scope cl Cl env) scope.names ((x,n)::g) (r++[some v]):=by
 refine⟨H.kind,V.globals,V.builtins,λy k hy=>rh hy,za,⟨m,IF,λy i k hg hn _=> ?_⟩,λy i hg=> ?_⟩
 ·by_cases e:y=x
  ·rw[iY e]at hg;rw[e,H.xl]at hn;simp only[<-aad hn,<-aad hg,e,aaR,<-hr,List.getElem?_concat_length];show OV C h w (some v) (m x);exact hm.symm▸OV.so hu
  ·rw[iZ e]at hg;obtain Nv:=lookup_mem hn;obtain a:=H.all y k Nv;simp only[show(r++[some v]).getD i none=r.getD i none by simp only[aaR,aaR,abU (V.len y i hg)]];cases k with
   |«local»=>exact((abd ..).mp (ao a).1).elim (λz=>absurd (beq_iff_eq.mp z) e) λz=>no ((beq_iff_eq.mp z▸H.dot).symm.trans hg)
   |free=>refine ah (tS V H Nv) λj hj q=> ?_;simp only[aad (hg.symm.trans hj)];exact b8 q λc o e1 e2 e3 e4=>dI c o ((ER y Nv).trans e1) e2 e3 e4
   |globalImplicit=>rename_i h3;exact h3.elim (λh=>nomatch h) λh=>h.elim (λh=>nomatch h) λh=>nomatch h
   |_=>exact nb a
 ·simp only[aah];by_cases e:y=x
  ·rw[iY e]at hg;exact aad hg▸hr▸aap _
  ·rw[iZ e]at hg;exact abq (V.len y i hg)
noncomputable def kr(es:List Expr)(env:Env)(b:Bool):Sem Bool:=forIn es b λc r=>if r=true then do let ok<-isTrue c env (eval c env);pure (abL ok)else pure (abL r)
theorem Dx{c:Expr}{es:List Expr}:kr (c::es) env true=(isTrue c env (eval c env)>>=λok=>kr es env ok):=by unfold kr;rw[acE,if_pos rfl,bind_assoc];exact congrArg _ (funext λok=>pure_bind ..)
theorem Dz{es:List Expr}:kr es env false=pure false:=by
 unfold kr;induction es with
 |nil=>exact adQ
 |cons c es ih=>rw[acE];exact ih
theorem DA{k:Expr->X}{es:List Expr}:(∀e∈es,ST F (isTrue e F.env (eval e F.env)) (k e))->∀z r,Vz F z r->J F.A z (kr es F.env true) (il F.C.P F.call (es.map k) r z.σ) Vb:=by
 induction es with
 |nil=>exactλab z r ai=> .eq adQ (.now rfl)
 |cons c es ih=>
  intro h z r V;refine .eq Dx<| .cast (LV (f:=λb s=>match b with |true=>il F.C.P F.call (es.map k) r s |false=>some (false,s))).symm<|J.bind (h c aac z r V) λb u z' a p=> ?_
  rw[show u=b from p];cases b with
  |true=>exact ih (λe he=>h e (aaf _ he)) z' r (V.go a)
  |false=>exact .eq Dz (.now rfl)
end
theorem After.toφ{C:Cx}{nK w:Wd}{iW σ:St}{fh s:Shared}{a:Addr}(x:After C aj nK iW fh w σ s)(hl:∃o,s.heap.get? a=some o)(za:¬w.ε a)(hu:∀l,l<w.n->σ.f l≠.dead->w.δ l≠a):After C aj nK iW fh (w.fY a) σ s:=by
 have R:=x.rel;refine⟨x.st,⟨R.n,R.keep,λb o e=> .inl (R.base b o e),λl hl=> ?_,R.inj,λl hl h1=>⟨λq=>q.elim (R.fr l hl h1).1 (hu l (R.n▸hl) h1),(R.fr l hl h1).2⟩,λb h=>h.elim (R.jO b) λe=>e▸hl,R.ip,λb h=>h.elim (R.iF b) λe=>e▸za⟩,x.le,x.same,λb h=> .inl (x.φ b h),x.ε,x.keep,x.new,x.alive⟩;by_cases hd:σ.f l= .dead
 ·simp only[hd];trivial
 ·exact(R.obj l hl).aI (w:=w) (w':=w.fY a) ⟨aab _,λab ai=>rfl,λab h=> .inl h,λab ai aD e=>e⟩ (R.n▸hl) rfl λab hq=>hq
section
variable {F:Y}{d:Nat}
theorem bz.jr{C:Cx}{qK:Heap}{kW w:Wd}{σ:St}{s s':Shared}{env:Env}{ns:bJ}{g:Ga}{qM r:En}{p:Addr}(fS:bz C qK kW env ns g qM)(V:bz C s.heap w env ns g r)(R:Rel C s.heap w σ)(a:After C (λb=>b=p) w σ s w σ s')(ε:w.ε p)
  (k:∀b o,b≠p->s.heap.get? b=some o->s'.heap.get? b=some o) (ne:∀b,kW.ε b->b≠p):bz C s'.heap w env ns g r:=fS.move V (a.aI R λab q=>q▸ε) λb h1 h2=>⟨h2,λo q=>k b o (ne b h1) q⟩
structure Nw{γ:Type}(F:Y)(r:En)(I D Cl:Addr)(vs:List V)(L:List V->St->Option (List V×St))(f:List V->St->Option γ)(c:γ)(zD:At F.C)(i:Nat)(z:At F.C):Prop where
 a:After F.C (λb=>b=I\/b=D\/b=Cl) zD.w zD.σ zD.s z.w z.σ z.s
 V:bz F.C z.s.heap z.w F.env F.ns F.g r
 it:Iter F.C I vs i z.s.heap z.w
 m:∃m,z.s.heap.Ns Cl m
 at_:∃dn ys,z.s.heap.PlainList D ys/\bc F.C.W z.s.heap z.w dn ys.toList/\ob (L (vs.drop i) z.σ) (λrest s=>f (dn++rest) s)=some c/\dn.length<=i
abbrev Y.comp(F:Y)(scope:Scope)(cl:List (Str×Addr))(Cl:Addr)(x:Str):Y:=F.at (compEnvC scope cl Cl F.env) scope.names ((x,F.n)::F.g) (F.n+1)
theorem len_app{r:En}{n:Nat}{v:Option V}(h:r.length=n):(r++[v]).length=n+1:=aah.trans (congrArg (λx=>x+1) h)
theorem DB{γ:Type}(hh:F.A.handled=none){aK jS:At F.C}{r:En}{x:Str}{px pos:Pos}{elt iter:Expr}{ifs:List Expr}{scope:Scope}{cl:List (Str×Addr)}{I D Cl:Addr}{vs:List V}{DC:Str->Option Value}{Y:X}{k:Expr->X}{RR:Result->Shared->Prop}
  (fS:Vz F aK r) (H:tR F.ns F.g x scope) (ER:∀y,(y,NameKind.free)∈scope.names->cl.lookup y=F.env.cells.lookup y)
  (lK:Af aK jS) (fI:aK.s.heap.get? I=none) (fD:aK.s.heap.get? D=none) (fC:aK.s.heap.get? Cl=none) (TX:I≠D) (Sm:I≠Cl) (Qv:D≠Cl) (XU:jS.w.ε D) (XW:jS.w.ε Cl)
  (it:Iter F.C I vs 0 jS.s.heap jS.w) (pl:jS.s.heap.PlainList D #[]) (IF:jS.s.heap.Ns Cl DC) (hb:vs.length<big)
  (hT:∀e∈ifs,ST (F.comp scope cl Cl x) (isTrue e (compEnvC scope cl Cl F.env) (eval e (compEnvC scope cl Cl F.env))) (k e)) (hE:SX (F.comp scope cl Cl x) (eval elt (compEnvC scope cl Cl F.env)) Y)
  {f:List V->St->Option γ} {c:γ} (e:ob (cB (λr s=>bR F.C.P F.call Y r s) (λr s=>il F.C.P F.call (ifs.map k) r s) r vs jS.σ) f=some c)
  (XX:∀(ze:At F.C) dn,Af aK ze->Vr ze (.bI dn) (.ref D)->Vz F ze r->ze.w.ε Cl->(∃m,ze.s.heap.Ns Cl m)->f dn ze.σ=some c->RR (.ok .next) ze.s):
  codeAny (model F.C.prog F.C.W) F.A (.compLoop (.ListComp elt [⟨.Name x px,iter,ifs,0⟩] scope pos) 0 (.ref I) (.ref D) (compEnvC scope cl Cl F.env)) RR jS.s:=by
 obtain hx:(compEnvC scope cl Cl F.env).kindOf x=some .local:=lookup_relabel_local H.xl;obtain hp:((compEnvC scope cl Cl F.env).scope.kind== .class ||((compEnvC scope cl Cl F.env).scope.kind== .module &&(compEnvC scope cl Cl F.env).locals !=(compEnvC scope cl Cl F.env).globals))=false:=by exact H.kind▸rfl
 have ne:∀{p},aK.s.heap.get? p=none->∀a,aK.w.ε a->a≠p:=λn a ha q=>cj (aK.R.ip a ha) (q▸n);refine codeAny_compLoop_tests
  (λn s'=>∃(i:Nat) (z:At F.C),z.s=s'/\vs.length=i+n/\Nw F r I D Cl vs (cB (λr s=>bR F.C.P F.call Y r s) (λr s=>il F.C.P F.call (ifs.map k) r s) r) f c jS i z) ?_ vs.length
  (jk 0 jS rfl (aby _).symm ⟨After.refl jS.R,fS.ok.after aK.R lK,it,⟨DC,IF⟩,dI [] #[] pl rfl e (aab _)⟩)
 refineλn s h=>dM h λi z es hn Z=>es▸?_
 have F7:=Z.a.ε _ XU;have zE:=Z.a.ε _ XW;refine Z.m.elim λm IF=>b8 Z.at_ λdn ys pl hd e ES=> ?_;cases n with
 |succ n=>
  have eX:=abP (acs (abO n)) hn.symm;obtain Qw:vs.length=i+1+n:=hn.trans (aec i n).symm;rw[acT eX]at e;refine nO hh z.R Z.it (v:=vs[i]) (aaP eX) λu s1 a1 ak hu Pm=> ?_;obtain V1:bz F.C s1.heap z.w F.env F.ns F.g r:=fS.ok.jr Z.V z.R a1 Z.it.ε ak (ne fI);refine wpAny_assign_Name (wpAny_storeName_local (env:=compEnvC scope cl Cl F.env) hx (IF.at' λo q=>ak _ o (acR Sm) q) (λzu F8 Qx=> ?_) hp);have k2:∀b o,b≠Cl->s1.heap.get? b=some o->zu.get? b=some o:=λb o hb q=>(Qx.2 b hb).trans q;have a2:After F.C (λb=>b=Cl) z.w z.σ s1 z.w z.σ {s1 with heap:=zu,toks:=s1.toks+1}:=After.own a1.rel zE k2 (uG F8 λo ab ai q aD bO=>⟨o,q⟩);have S2:=a2.aI a1.rel λb q=>q▸zE;have V2:=fS.ok.jr V1 a1.rel a2 zE k2 (ne fC);obtain Sn:Iter F.C I vs (i+1) zu z.w:=Pm.keep S2 Pm.ε λo q=>k2 _ o Sm q;have aA:=(Z.a.trans (a1.mono λab ai aD q=> .inl q)).trans (a2.mono λab ai aD q=> .inr (.inr q));obtain W2:Vz (F.comp scope cl Cl x) (At.of aA) (r++[some vs[i]]):=⟨F6 V2 fS.len H ER zE F8 (if_pos rfl) (VR.aI S2 _ _ hu),len_app fS.len⟩;refine DA hT (At.of aA) _ W2 _ _ c _ _ (gb e) λb ok z3 (a3:Af (At.of aA) z3) e1 e=> ?_;obtain V3:=V2.after a2.rel a3;obtain Qy:=Sn.after a2.rel a3;have VU:=(pl.at λo q=>ak _ o (acR TX) q).at λo q=>a3.lD a2.rel _ o F7 (k2 _ o Qv q);have VV:=Vs.go (z:=At.of aA) (bc.aI S2 _ _ (bc.aI (a1.aI z.R λb q=>q▸Z.it.ε) _ _ hd)) a3;obtain VW:=F8.at' λo q=>a3.lD a2.rel _ o zE q;have aB:=aA.trans (a3.mono λab ai aD q=>q.elim);rw[show ok=b from e1];cases b with
  |false=>exact⟨n,aap n,jk (i+1) z3 rfl Qw ⟨aB,V3,Qy,⟨_,VW⟩,dI dn ys VU VV e (acu ES)⟩⟩
  |true=>
   refine hE z3 _ (Vz.go (F:=F.comp scope cl Cl x) (z:=At.of aA) W2 a3) _ _ c _ _ (gb e) λy v z4 a4 q4 e=> ?_;obtain VX:=Qy.after z3.R a4;obtain VY:=VV.go a4;have NA:=a4.ε _ (a3.ε _ F7);obtain XY:ys.size=dn.length:=size_of VY;refine wpAny_list_append_plain (VU.at λo q=>a4.lD z3.R _ o (a3.ε _ F7) q) (λQA VZ XZ=> ?_) (XY▸dY (aai ES (aaQ eX hb)));have k5:∀b o,b≠D->z4.s.heap.get? b=some o->QA.get? b=some o:=λb o hb q=>(XZ.2 b hb).trans q;have a5:After F.C (λb=>b=D) z4.w z4.σ z4.s z4.w z4.σ {z4.s with heap:=QA}:=After.own z4.R NA k5 (VZ.elim λab q=>⟨_,q⟩);obtain S5:=a5.aI z4.R λb q=>q▸NA;refine⟨n,aap n,jk (i+1) (At.of a5) rfl Qw ⟨(aB.trans (a4.mono λab ai aD q=>q.elim)).trans (a5.mono λab ai aD q=> .inr (.inl q)),fS.ok.jr (V3.after z3.R a4) z4.R a5 NA k5 (ne fD),VX.keep S5 VX.ε λo q=>k5 _ o TX q,⟨_,(VW.at' λo q=>a4.lD z3.R _ o (a3.ε _ zE) q).at' λo q=>k5 _ o (acR Qv) q⟩,dI (dn++[y]) (ys.push v) VZ ?_ ?_ (aah▸abm ES)⟩⟩
   ·simp only[adt];exact(bc.aI S5 _ _ VY).append (bc.cons (VR.aI S5 _ _ q4) bc.nil)
   ·obtain e:=gb e;simp only[show(λrest s=>f (dn++[y]++rest) s)=λrest s=>f (dn++(y::rest)) s from funext λrest=>by rw[aaJ];rfl];exact e
 |zero=>
  rw[ade (show vs.length<=i from abD hn)]at e;have e:f (dn++[]) z.σ=some c:=e;rw[aaV]at e;refine rb hh Z.it hn.symm λh' tk hk=> ?_;obtain ho:∀b,(b=I\/b=D\/b=Cl)->aK.s.heap.get? b=none:=λb q=>q.elim (λe=>e▸fI) λq=>q.elim (λe=>e▸fD) λe=>e▸fC;obtain aF:=After.drop (own:=λb=>b=I\/b=D\/b=Cl) (p:=λb=>b=I\/b=D) (h':=h') (tk:=tk) aK.R ((After.mono lK λab ai aD q=>q.elim).trans Z.a) ho (λb q=>ho b (q.imp id .inl)) (λb q=>q.elim (λe=>e▸Z.it.ε) λe=>e▸F7)
   λb o hb q=>hk b o (λz=>hb (.inl z)) q
  refine(pl.at λo q=>hk _ o (acR TX) q).elim λnn V0=> ?_;have aG:=aF.toφ (a:=D) ⟨_,V0⟩ (λq=>q.2 (.inr rfl)) λl hl hd q=>(z.R.fr l (z.R.n▸hl) hd).2 (q▸F7);obtain S:fQ z.s.heap z.w h' ((z.w.iJ λb=>b=I\/b=D).fY D):=⟨aab _,λab ai=>rfl,λab h=> .inl h,λb o hb q=>hk b o (λy=>z.R.iF b hb (y▸Z.it.ε)) q⟩;exact XX (At.of aG) dn aG (jl D ys nn rfl (.inr rfl) V0 (aai (aaa ES (abD hn.symm)) hb) (bc.aI S _ _ hd))
   ⟨fS.ok.move Z.V S λb h1 h2=>⟨⟨h2,λq=>q.elim (ne fI b h1) (ne fD b h1)⟩,λo q=>hk b o (ne fI b h1) q⟩,fS.len⟩ ⟨zE,λq=>q.elim (acR Sm) (acR Qv)⟩ ⟨m,IF.at' λo q=>hk _ o (acR Sm) q⟩ e
end
theorem tV{iter:Expr}{env:Env}(h:lC iter=true)(x:Value):foldedSetIterable iter env x=pure x:=by cases iter<;>first |rfl |exact nb h
section
variable {F:Y}{d:Nat}
theorem After.gone{C:Cx}{own:Addr->Prop}{w w':Wd}{σ aq:St}{s s':Shared}(a:After C own w σ s w' aq s'){b:Addr}(h:s'.heap.get? b=abS):s.heap.get? b=abS:=none_or.elim id λx=>cj (x.elim λo e=>a.alive b o e) h
theorem xd{γ:Type}(hh:F.A.handled= .none){E:Value->Shared->Prop}{z:At F.C}{r:En}{x:Str}{px pos pos':Pos}{elt iter:Expr}{ifs:List Expr}{scope:Scope}{Y Z:X}{k:Expr->X}{use:Option (Value->Sem Unit)}{Q:Value->Shared->Prop}
  (Ve:Vz F z r) (EP:qD F.ns F.g x scope=true) (tf:lC iter=true) (hI:SX F (eval iter F.env) Z)
  (hT:∀cl Cl,∀e∈ifs,ST (F.comp scope cl Cl x) (isTrue e (compEnvC scope cl Cl F.env) (eval e (compEnvC scope cl Cl F.env))) (k e)) (hE:∀cl Cl,SX (F.comp scope cl Cl x) (eval elt (compEnvC scope cl Cl F.env)) Y)
  {f:V->St->Option γ} {c:γ} (e:ob (bR F.C.P F.call (.comp Y Z (ifs.map k)) r z.σ) f=some c)
  (hQ:∀D Cl (ze:At F.C) xs,z.s.heap.get? Cl= .none->Af z ze->Vr ze (.bI xs) (.ref D)->Vz F ze r->ze.w.ε Cl->(∃m,ze.s.heap.Ns Cl m)->f (.bI xs) ze.σ=some c->compPost (model F.C.prog F.C.W) F.A E use Q (.ref D) Cl (.ok .next) ze.s):
  wpAny (model F.C.prog F.C.W) F.A (comprehension (.ListComp elt [⟨.Name x px,iter,ifs,0⟩] scope pos) scope F.env pos' (newList []) false (eval iter F.env) use) Q E z.s:=by
 obtain H:=tR.of EP;refine ah (zA λy hm=>ah (tS Ve.ok H hm) λi ab q=>b8 q λc ab e ai aD bO=>⟨c,e⟩) λcl QB ER=> ?_;refine wpAny_comprehension_free rfl (tV tf) QB H.kind (λy hy hl=> ?_) (hI z r Ve _ _ c _ _ (gb e) λv u aK cI jE e=>cQ (mu.symm.trans e) λvs h2 e=> ?_)
 ·obtain a:=H.all y.1 y.2 hy;rw[hl]at a;exact beq_iff_eq.mp (ao a).2
 obtain h3:=av (LU.symm.trans e);refine wpAny_mono (lI aK.R jE h2) (λit fR h=>gD h λI hit fI cJ iI=>hit▸?_) λab ai q=>q;refine wpAny_newObj_type (wpAny_newFunctionEnv (λy hy hc=> ?_) (λy hy=>nomatch hy) (λqK F9 NB=> ?_) H.kind)
 ·obtain a:=H.all y.1 y.2 hy;rw[hc]at a;exact nb a
 obtain Ge:fR.heap.get? fR.heap.objs.size= .none:=dj _;obtain k2:∀b o,fR.heap.get? b=some o->(fR.heap.push {cls:= .type "list",dict:= .none,data:= .seq ([]:List Value).toArray}).get? b=some o:=λb o q=>Heap.get?_push_of_some _ q;obtain oD:(fR.heap.push {cls:= .type "list",dict:= .none,data:= .seq ([]:List Value).toArray}).get? fR.heap.objs.size=some {cls:= .type "list",dict:= .none,data:= .seq #[]}:=Heap.get?_push_size _ rfl;generalize(fR.heap.push {cls:= .type "list",dict:= .none,data:= .seq ([]:List Value).toArray})=H2 at*
 obtain Gf:H2.get? H2.objs.size= .none:=dj _;obtain Qv:fR.heap.objs.size≠H2.objs.size:=λq=>no (Gf.symm.trans (q▸oD));obtain k3:∀b o,H2.get? b=some o->qK.get? b=some o:=λb o q=>(NB.2 b λz=>no (Gf.symm.trans (z▸q))).trans (Heap.get?_push_of_some _ q);have u0:=none_or.elim id λx=>cj (x.elim λo e=>⟨o,k2 _ o e⟩) Gf;have fu:After F.C aj (aK.w.fZ λb=>b=I) aK.σ fR ((aK.w.fZ λb=>b=I).fZ λb=>b=fR.heap.objs.size\/b=H2.objs.size) aK.σ {fR with heap:=qK}:=
  After.fZ cJ.rel ⟨λb o q=>k3 b o (k2 b o q)⟩ (λb q=>q.elim (λe=>e▸Ge) λe=>e▸u0) λb q=>q.elim (λe=>e▸⟨_,k3 _ _ oD⟩) λe=>e▸uG F9 λo ab ai q aD bO=>⟨o,q⟩
 have oI:=cJ.rel.ip I (.inr rfl);have LY:=iI.after cJ.rel fu;obtain loop:=DB (RR:=compPost (model F.C.prog F.C.W) F.A E use Q (.ref fR.heap.objs.size) H2.objs.size) (elt:=elt) (iter:=iter) (px:=px) (pos:=pos) hh (Ve.go cI) H ER (jS:=At.of (cJ.trans fu)) (cJ.trans fu) fI (cJ.gone Ge) (cJ.gone u0) (λq=>cj oI (q▸Ge)) (λq=>cj oI (q▸u0)) Qv (.inr (.inl rfl)) (.inr (.inr rfl)) LY ⟨0,k3 _ _ oD⟩ F9 (of_decide_eq_true h3.1) (hT cl H2.objs.size) (hE cl H2.objs.size)
  (gb h3.2) λze dn a q V ε hm e=>hQ _ _ ze dn (After.gone cI (cJ.gone u0)) (cI.trans a) q V ε hm e
 exact codeAny_compStart_list loop (Dg hh LY loop)
theorem SX.comp(hh:F.A.handled= .none){x:Str}{px pos:Pos}{elt iter:Expr}{ifs:List Expr}{scope:Scope}{Y Z:X}{k:Expr->X}(EP:qD F.ns F.g x scope=true)(tf:lC iter=true)(hI:SX F (eval iter F.env) Z)
  (hT:∀cl Cl,∀e∈ifs,ST (F.comp scope cl Cl x) (isTrue e (compEnvC scope cl Cl F.env) (eval e (compEnvC scope cl Cl F.env))) (k e)) (hE:∀cl Cl,SX (F.comp scope cl Cl x) (eval elt (compEnvC scope cl Cl F.env)) Y):
  SX F (eval (.ListComp elt [⟨.Name x px,iter,ifs,0⟩] scope pos) F.env) (.comp Y Z (ifs.map k)):=λz r Ve=> .eq (arm_eval_ListComp ..) λab f c E Q e q=>
 xd (use:= .none) hh Ve EP tf hI hT hE e λD Cl ze xs fC a p V ε hm e=>hm.elim λm hm=>⟨m,hm,λh' hs=>by obtain b:=After.drop (p:=λb=>b=Cl) (tk:=ze.s.toks) z.R a (λab h=>h.elim) (λb z=>z▸fC) (λb z=>z▸ε) λb o hb z=>(hs.2 b hb).trans z;exact q _ _ (At.of b) b (VR.aI (w:=ze.w) (w':=ze.w.iJ λb=>b=Cl) ⟨aab _,λab ai=>rfl,λab h=>h,λb o hb z=>(hs.2 b (λy=>ze.R.iF b hb (y▸ε))).trans z⟩ _ _ p) e⟩
end
def gR(F:Y)(e:Expr):Prop:=∀(env:Env) (ns:bJ) (g:Ga) (n:Nat),SX (F.at env ns g n) (eval e env) (cE F.C.T ns g n e)/\ST (F.at env ns g n) (isTrue e env (eval e env)) (cE F.C.T ns g n e)
section
variable {F:Y}{d:Nat}
theorem gR.bad{e:Expr}(h:∀ns g n,cE F.C.T ns g n e= .bad):gR F e:=λenv ns g n=>h ns g n▸⟨SX.bad,ST.bad⟩
theorem gR.val{e:Expr}(hi:∀env whole,isTrue e env whole=(do let v<-whole;standAt e.pos;holding [v] (truthy v)))(h:∀env ns g n,SX (F.at env ns g n) (eval e env) (cE F.C.T ns g n e)):gR F e:=
 λenv ns g n=>⟨h env ns g n,ST.of (F:=F.at env ns g n) (hi env) (h env ns g n)⟩
theorem gx{T:CT}{ns:bJ}{g:Ga}{n:Nat}(es:List Expr):wJ T ns g n es=es.map (cE T ns g n):=by
 induction es with
 |nil=>rfl
 |cons e es ih=>exact congrArg _ ih
theorem Js{T:CT}{ns:bJ}{g:Ga}{n:Nat}(es:List Expr):Tx T ns g n (es.map some)=es.map (cE T ns g n):=by
 induction es with
 |nil=>rfl
 |cons e es ih=>exact congrArg _ ih
theorem Gh{env:Env}(es:List Expr):evalEach es env=es.map λe=>eval e env:=by
 induction es with
 |nil=>rfl
 |cons e es ih=>exact congrArg _ ih
theorem all_some(ks:List (Option Expr))(h:ks.all (λx=>x.isSome)=true):∃es:List Expr,ks=es.map some:=by
 induction ks with
 |nil=>exact⟨[],rfl⟩
 |cons k ks ih=>
  cases k with
  |none=>exact nb (ao h).1
  |some e=>exact(ih (ao h).2).elim λes q=>⟨e::es,congrArg _ q⟩
section
variable {α:Type}{m:Sem Value}{t:Sem Bool}{o:Option α}{f:α->X}{c:Bool}{X:X}
theorem SX.om(h:∀v,o=some v->SX F m (f v)):SX F m (EN o f):=by
 cases o with
 |none=>exact SX.bad
 |some v=>exact h v rfl
theorem SX.if(h:c=true->SX F m X):SX F m (EO c X):=by
 cases c with
 |false=>exact SX.bad
 |true=>exact h rfl
theorem ST.om(h:∀v,o=some v->ST F t (f v)):ST F t (EN o f):=by
 cases o with
 |none=>exact ST.bad
 |some v=>exact h v rfl
theorem ST.if(h:c=true->ST F t X):ST F t (EO c X):=by
 cases c with
 |false=>exact ST.bad
 |true=>exact h rfl
end
theorem Jt{op:Operator}{o:wD}(h:PW op=some o):binOp o=op:=by cases op<;>first |exact no h |exact aad h▸rfl
theorem ri{op:CmpOp}{o:Iz}(h:Fg op=some o):qR o=op:=by cases op<;>first |exact no h |exact aad h▸rfl
theorem SX.IZ(K:Kx F.C F.call F.A d){e i:Expr}{X Y:Mp.X}{pos:Pos}(h:SX F (eval e F.env) X)(h2:SX F (eval i F.env) Y):SX F (eval (.Subscript e i pos) F.env) (IZ i X Y):=by
 cases i with
 |Slice lo hi st p=>
  refine SX.om λl hl=>SX.om λu hu=>SX.om λs hs=> ?_;cases s with
  |none=>
   refine SX.EZ K hl hu ?_ h;cases st with
   |none=>exact rfl
   |some e=>exact(abK.mp hs).elim λab q=>nomatch q.2
  |some j=>refine SX.if λhc=> ?_;obtain a:=ao (ao hc).1;exact SX.EZ K (hl.trans (congrArg some (aaZ.mp a.2))) (hu.trans (congrArg some (aaZ.mp (ao hc).2))) (show bound? st=some (some (-1))from of_decide_eq_true a.1▸hs) h
 |_=>exact SX.idx K rfl h h2
theorem Ju(K:Kx F.C F.call F.A d){l:Expr}{ops:List CmpOp}{rs:List Expr}{X:X}{k:Expr->Mp.X}{pos:Pos}{whole:Sem Value}(h1:SX F (eval l F.env) X)(h2:∀e∈rs,SX F (eval e F.env) (k e)):
  SX F (eval (.Compare l ops rs pos) F.env) (MR ops rs X (rs.map k))/\ST F (isTrue (.Compare l ops rs pos) F.env whole) (MR ops rs X (rs.map k)):=by
 cases ops with
 |nil=>exact⟨SX.bad,ST.bad⟩
 |cons op ops=>
  cases ops with
  |cons ab ai=>exact⟨SX.bad,ST.bad⟩
  |nil=>
   cases rs with
   |nil=>exact⟨SX.bad,ST.bad⟩
   |cons r rs=>
    cases rs with
    |cons ab ai=>exact⟨SX.bad,ST.bad⟩
    |nil=>obtain hb:∀{o:Iz},Fg op=some o->(!behindInMarks op r)=true->behindInMarks (qR o) r=false:=λh q=>(congrArg (behindInMarks · r) (ri h)).trans (abC _ |>.mp q);exact⟨SX.om λo ho=>SX.if λhc=>by have:=SX.cmp (pos:=pos) K (hb ho hc) h1 (h2 r aac);rw[ri ho]at this;exact this,ST.om λo ho=>ST.if λhc=>by have:=ST.cmp (pos:=pos) (whole:=whole) K (hb ho hc) h1 (h2 r aac);rw[ri ho]at this;exact this⟩
theorem gY{e:Expr}{x:Str}(h:nameOf? e=some x):∃p,e= .Name x p:=by
 suffices∀e',e'=e->∃p,e'= .Name x p from this e rfl;intro e' q;cases e with
 |Name y p=>exact⟨p,aad h▸q⟩
 |_=>exact no h
theorem bL{x a b:Nat}(h:x<a):x<a+b:=aak h (aao a b)
theorem mB{x:Nat}:x<1+x:=aeh aef
theorem jF{x a:Nat}(h:0<a):x<a+x:=aeh h
theorem p1{a:Nat}:0<1+a:=bL aef
theorem LZ{α:Type}[SizeOf α]{es:List α}{k:Nat}(h:sizeOf es<k):∀e∈es,sizeOf e<k:=λab he=>aaQ (aei he) h
theorem QC(K:Kx F.C F.call F.A d)(k:Nat):∀(e:Expr),sizeOf e<k->gR F e:=by
 induction k with
 |zero=>exactλe h=>absurd h (acK _)
 |succ k ih=>
  intro e hk;have up:∀{N n:Nat},sizeOf e=N->n<N->n<k:=λq h=>aak h (q▸acS hk);obtain one:∀{N:Nat},sizeOf e=N->∀x,sizeOf x<N->gR F x:=λq x h=>ih x (up q h);have sx:∀{N:Nat},sizeOf e=N->∀x,sizeOf x<N->∀env ns g n,SX (F.at env ns g n) (eval x env) (cE F.C.T ns g n x):=λq x h env ns g n=>(ih x (up q h) env ns g n).1;have Pn:∀{N:Nat},sizeOf e=N->∀es:List Expr,sizeOf es<N->∀env ns g n,∀x∈es,SX (F.at env ns g n) (eval x env) (cE F.C.T ns g n x):=λq es h env ns g n x hx=>(ih x (LZ (up q h) x hx) env ns g n).1;have V4:∀{N:Nat},sizeOf e=N->∀es:List Expr,sizeOf es<N->∀env ns g n,∀x∈es,ST (F.at env ns g n) (isTrue x env (eval x env)) (cE F.C.T ns g n x):=λq es h env ns g n x hx=>(ih x (LZ (up q h) x hx) env ns g n).2;cases e with
  |Constant c kk pos=>exact gR.val (λab ai=>rfl) λenv ns g n=>SX.const
  |Name x pos=>exact gR.val (λab ai=>rfl) λenv ns g n=>SX.name (F:=F.at env ns g n) K.O
  |BinOp l op r pos=>exact gR.val (λab ai=>rfl) λenv ns g n=>SX.om λo ho=>have q:=Expr.BinOp.sizeOf_spec l op r pos;Jt ho▸SX.bin (sx q l (bL (bL (bL mB))) env ns g n) (sx q r (bL (jF (bL p1))) env ns g n)
  |BoolOp op es pos=>obtain q:=Expr.BoolOp.sizeOf_spec op es pos;intro env ns g n;show SX _ (boolOp pos op (evalEach es env)) (.wg (op== .And) (wJ F.C.T ns g n es))/\ST _ _ (.wg (op== .And) (wJ F.C.T ns g n es));simp only[gx,Gh];exact⟨SX.wg (F:=F.at env ns g n) (Pn q es (bL (jF p1)) env ns g n),ST.wg (F:=F.at env ns g n) (V4 q es (bL (jF p1)) env ns g n)⟩
  |UnaryOp op x pos=>
   cases op with
   |Not=>exactλenv ns g n=>have h:=one (Expr.UnaryOp.sizeOf_spec ..) x (bL (jF p1)) env ns g n;⟨SX.nt (F:=F.at env ns g n) h.1,ST.nt (F:=F.at env ns g n) h.2⟩
   |USub=>exact gR.val (λab ai=>rfl) λenv ns g n=>SX.om λi hi=>sO (nQ hi) λkk p e=>e▸SX.neg
   |_=>exact gR.bad λns g n=>rfl
  |IfExp t a b pos=>intro env ns g n;obtain q:=Expr.IfExp.sizeOf_spec t a b pos;obtain h1:=one q t (bL (bL (bL mB))) env ns g n;obtain h2:=one q a (bL (bL (jF p1))) env ns g n;obtain h3:=one q b (bL (jF (bL p1))) env ns g n;exact⟨SX.ite (F:=F.at env ns g n) h1.2 h2.1 h3.1,ST.ite (F:=F.at env ns g n) h1.2 h2.2 h3.2⟩
  |Compare l ops rs pos=>intro env ns g n;obtain q:=Expr.Compare.sizeOf_spec l ops rs pos;obtain this:=Ju (F:=F.at env ns g n) (ops:=ops) (pos:=pos) (whole:=eval (.Compare l ops rs pos) env) K (sx q l (bL (bL (bL mB))) env ns g n) (Pn q rs (bL (jF (bL p1))) env ns g n);rw[<-gx]at this;exact this
  |Attribute e a pos=>exact gR.val (λab ai=>rfl) λenv ns g n=>SX.om λi hi=>SX.if λhb=>SX.attr (F:=F.at env ns g n) K hb hi (sx (Expr.Attribute.sizeOf_spec ..) e (bL (bL mB)) env ns g n)
  |List es pos=>
   refine gR.val (λab ai=>rfl) λenv ns g n=>SX.if λhs=> ?_;obtain hm:=SX.lst (F:=F.at env ns g n) (pos:=pos) hs (Pn (Expr.List.sizeOf_spec ..) es (bL mB) env ns g n);rw[<-gx]at hm;cases tF es with
   |true=>exact hm
   |false=>exact SX.jj (F:=F.at env ns g n) K.O hm
  |Tuple es kk pos=>refine gR.val (λab ai=>rfl) λenv ns g n=>SX.if λhs=> ?_;simp only[gx];exact SX.tup (F:=F.at env ns g n) hs (Pn (Expr.Tuple.sizeOf_spec ..) es (bL (bL mB)) env ns g n)
  |Dict ks vs pos=>refine gR.val (λab ai=>rfl) λenv ns g n=>SX.if λhs=> ?_;obtain a:=ao (ao hs).1;refine(all_some ks a.2).elim λes q=> ?_;obtain z:=Expr.Dict.sizeOf_spec ks vs pos;obtain hl:=of_decide_eq_true a.1;obtain Pk:=of_decide_eq_true (ao hs).2;simp only[q,aae]at hl Pk;obtain hk:∀x∈es,SX (F.at env ns g n) (eval x env) (cE F.C.T ns g n x):=λx hx=>(ih x (up z (bL (bL (aaQ (aaQ (abP mB (Option.some.sizeOf_spec x).symm) (aei (q▸aan (f:=some) hx))) mB)))) env ns g n).1;simp only[gx,q,Js];exact SX.IV (F:=F.at env ns g n) hk (Pn z vs (bL (jF p1)) env ns g n) hl Pk
  |ListComp elt gens scope pos=>
   cases gens with
   |nil=>exact gR.bad λns g n=>rfl
   |cons gn gens=>
    cases gens with
    |cons ab ai=>cases gn with |mk=>exact gR.bad λns g n=>rfl
    |nil=>
     cases gn with
     |mk t iter ifs as=>refine gR.val (λab ai=>rfl) λenv ns g n=>SX.om λx hx=>SX.if λhc=> ?_;obtain a:=ao (ao hc).1;obtain q:=Expr.ListComp.sizeOf_spec elt [⟨t,iter,ifs,as⟩] scope pos;simp only[adX,Comprehension.mk.sizeOf_spec]at q;obtain hg:∀{m a b c:Nat},m<a->m<1+b+(1+a+c):=λh=>aak (aak h (aaj ..)) (aaa (aao ..) (aaj ..));refine(gY hx).elim λpx e=> ?_;simp only[e,beq_iff_eq.mp a.1,gx];exact SX.comp (F:=F.at env ns g n) K.Rm.handled (ao hc).2 a.2 (sx q iter (bL (bL (hg (bL (bL (jF p1)))))) env ns g n) (λcl Cl=>V4 q ifs (bL (bL (hg (bL (jF (bL p1)))))) _ _ _ _) λcl Cl=>sx q elt (bL (bL (bL mB))) _ _ _ _
  |Subscript e i pos=>exact gR.val (λab ai=>rfl) λenv ns g n=>SX.IZ (F:=F.at env ns g n) K (sx (Expr.Subscript.sizeOf_spec ..) e (bL (bL mB)) env ns g n) (sx (Expr.Subscript.sizeOf_spec ..) i (bL (jF p1)) env ns g n)
  |Call f args CY pos=>
   obtain q:=Expr.Call.sizeOf_spec f args CY pos;have hm:=Pn q args (bL (bL (jF p1)));refine gR.val (λab ai=>rfl) λenv ns g n=> ?_;have nm:yZ F.C.T ns f args CY.length (wJ F.C.T ns g n args)=cE F.C.T ns g n (.Call f args CY pos)->SX (F.at env ns g n) (eval (.Call f args CY pos) env) (yZ F.C.T ns f args CY.length (wJ F.C.T ns g n args)):=λab=>SX.om λx hx=>SX.if λhs=>by obtain a:=ao hs;refine(gY hx).elim λp e=> ?_;simp only[e,acZ.mp (beq_iff_eq.mp a.1),gx];exact SX.AW (F:=F.at env ns g n) K a.2 (hm env ns g n)
   cases f with
   |Attribute o m apos=>refine SX.if λhs=> ?_;obtain a:=ao hs;obtain b:=ao a.1;obtain c:=ao b.1;obtain d':=ao c.1;simp only[acZ.mp (beq_iff_eq.mp d'.1),gx];exact SX.AX (F:=F.at env ns g n) K d'.2 c.2 (of_decide_eq_true b.2) a.2 (sx q o (bL (bL (bL (aaQ (abP (bL (bL mB)) (Expr.Attribute.sizeOf_spec ..).symm) mB)))) env ns g n) (hm env ns g n)
   |_=>exact nm rfl
  |_=>exact gR.bad λns g n=>rfl
end
def nW(env:Env)(b:Addr):Prop:=b=env.locals\/∃x,env.cells.lookup x=some b
structure nX(env:Env)(ns:bJ)(g:Ga):Prop where
 TY:∀x y i,g.lookup x=some i->g.lookup y=some i->x=y
 TZ:∀x y c,env.cells.lookup x=some c->env.cells.lookup y=some c->x=y
 lc:∀x c,env.cells.lookup x=some c->c≠env.locals
 own:∀x k,ns.lookup x=some k->k≠.free
 L0:∀x c,env.cells.lookup x=some c->ns.lookup x=some .cell/\∃i,g.lookup x=some i
section
variable {C:Cx}{env:Env}{ns:bJ}{g:Ga}
theorem lL(Fr:nX env ns g){h:Heap}{w:Wd}{r:En}(V:bz C h w env ns g r){b:Addr}(hb:nW env b):w.ε b:=
 hb.elim (λe=>e▸V.ε) λhb=>hb.elim λx hx=>(Fr.L0 x b hx).2.elim λi h2=>
  V.slots.elim λm q=>b8 (q.2 x i .cell h2 (Fr.L0 x b hx).1 (.inr (.inl rfl))) λc u e ε ab ai=>aad (e.symm.trans hx)▸ε
theorem DD{x:Str}{i:Nat}(h:jM ns g x=some i):∃k,ns.lookup x=some k/\(k= .local\/k= .cell)/\g.lookup x=some i:=by
 obtain h:LH (g.lookup x) (ns.lookup x)=some i:=h;cases e:ns.lookup x with
 |none=>rw[e]at h;exact no h
 |some k=>
  rw[e]at h;cases k with
  |«local»=>exact iD _ rfl (.inl rfl) h
  |cell=>exact iD _ rfl (.inr rfl) h
  |_=>exact no h
theorem bz.set(Fr:nX env ns g){h h':Heap}{w:Wd}{r:En}{x:Str}{i:Nat}{kk:NameKind}{v:V}{m m':Str->Option Value}(V:bz C h w env ns g r)(S:fQ h w h' w)(hm:∀x i k,g.lookup x=some i->ns.lookup x=some k->(k= .local\/k= .cell\/k= .free)->Slot C h w env m x k (r.getD i none))
  (h1:h'.Ns env.locals m') (hg:g.lookup x=some i) (hk:ns.lookup x=some kk) (hs:Slot C h' w env m' x kk (some v)) (h2:∀y,y≠x->m' y=m y/\∀c,env.cells.lookup y=some c->∀o,h.get? c=some o->h'.get? c=some o):bz C h' w env ns g (r.set i (some v)):=by
 refine⟨V.kind,V.globals,V.builtins,V.names,V.ε,⟨m',h1,λy j k hy T4 h3=> ?_⟩,λy j hy=>acn.symm▸V.len y j hy⟩;by_cases e:y=x
 ·rw[e]at hy T4⊢;simp only[<-aad (hg.symm.trans hy),<-aad (hk.symm.trans T4),aaR,List.getElem?_set_self (V.len x i hg)];exact hs
 ·obtain a:=h2 y e;rw[aaR,List.getElem?_set_ne (λz:i=j=>e (Fr.TY y x j hy (z▸hg)))];obtain s0:=hm y j k hy T4 h3;obtain cv:CV C h w env y (r.getD j none)->CV C h' w env y (r.getD j none):=λq=>b8 q λc u e ε ic o=>dI c u e ε (ic.elim λo p=>⟨o,a.2 c e o p.1,p.2⟩) (o.aI S);cases k with
  |«local»=>exact(show OV C h' w (r.getD j none) (m' y)from a.1▸OV.aI S s0)
  |cell=>exact cv s0
  |free=>exact cv s0
  |_=>exact s0
theorem ku(Fr:nX env ns g){A:Around}{E:Value->Shared->Prop}{w:Wd}{σ:St}{s:Shared}{r:En}{x:Str}{i:Nat}{v:V}{u:Value}(R:Rel C s.heap w σ)(V:bz C s.heap w env ns g r)(hs:jM ns g x=some i)(q:VR C.W s.heap w v u)
  {Q:Unit->Shared->Prop} (k:∀h' tk,After C (nW env) w σ s w σ {s with heap:=h',toks:=tk}->bz C h' w env ns g (r.set i (some v))->Q () {s with heap:=h',toks:=tk}):
  wpAny (model C.prog C.W) A (storeName env x u) Q E s:=by
 refine dw (DD hs) λkk hk X0 hg=>V.slots.elim λm hm=>X0.elim (λe=> ?_) λe=> ?_
 ·rw[e]at hk;refine wpAny_storeName_local (V.own hk λh=>nomatch h) hm.1 (λh' Qw tO=> ?_) (V.kind▸rfl);have k2:∀b o,b≠env.locals->s.heap.get? b=some o->h'.get? b=some o:=λb o hb e=>(tO.2 b hb).trans e;obtain a:After C (λb=>b=env.locals) w σ s w σ {s with heap:=h',toks:=s.toks+1}:=After.own R V.ε k2 (uG Qw λo ab ai e aD bO=>⟨o,e⟩);obtain S:=a.aI R λb e=>e▸V.ε;exact k h' _ (a.mono λab ai aD e=> .inl e) (V.set Fr S hm.2 Qw hg hk (show OV C h' w (some v) (if x=x then some u else m x) by rw[if_pos rfl];exact OV.so (VR.aI S _ _ q)) λy hy=>⟨if_neg hy,λc e o=>k2 c o (Fr.lc y c e)⟩)
 ·rw[e]at hk;refine b8 (hm.2 x i .cell hg hk (.inr (.inl rfl))) λc X1 q1 q2 q3 ab=>wpAny_storeName_cell V.kind (V.own hk λh=>nomatch h) q1 q3 λh' L5 tO=> ?_;have k2:∀b o,b≠c->s.heap.get? b=some o->h'.get? b=some o:=λb o hb e=>(tO.2 b hb).trans e;obtain a:After C (λb=>b=c) w σ s w σ {s with heap:=h',toks:=s.toks}:=After.own R q2 k2 (L5.elim λo e=>⟨o,e.1⟩);obtain S:=a.aI R λb e=>e▸q2;exact k h' s.toks (a.mono λab ai aD e=> .inr ⟨x,e▸q1⟩) (V.set Fr S hm.2 (hm.1.at' λo e=>k2 _ o (acR (Fr.lc x c q1)) e) hg hk (dI c (some u) q1 q2 L5 (OV.so (VR.aI S _ _ q))) λy hy=>⟨rfl,λc' e o=>k2 c' o λz=>hy (Fr.TZ y x c (z▸e) q1)⟩)
end
def Vf{C:Cx}(z:At C):Fl->Flow->Prop
 | .next,.next=>True
 | .ret v,.ret u=>Vr z v u
 |ab,ai=>False
def Ao(F:Y)(z z':At F.C):Prop:=After F.C (nW F.env) z.w z.σ z.s z'.w z'.σ z'.s
def JS(F:Y)(z:At F.C)(m:Sem Flow)(x:Res):Prop:=
 ∀(γ:Type) (f:Fl->En->St->Option γ) (c:γ) (E:Value->Shared->Prop) (Q:Flow->Shared->Prop),os x f=some c->(∀v r fl z',Ao F z z'->Vz F z' r->Vf z' v fl->f v r z'.σ=some c->Q fl z'.s)->wpAny (model F.C.prog F.C.W) F.A m Q E z.s
def SS(F:Y)(m:Sem Flow)(G:En->St->Res):Prop:=∀z r,Vz F z r->JS F z m (G r z.σ)
section
variable {α β γ:Type}{f:Fl->En->St->Option γ}{c:γ}
theorem wk{x:Option (β×St)}{g:β->St->Res}(e:os (ob x g) f=some c):ob x (λv s=>os (g v s) f)=some c:=by cases x<;>exact e
theorem Gi{x:Option α}{g:α->Res}(e:os (om x g) f=some c):om x (λv=>os (g v) f)=some c:=by cases x<;>exact e
theorem V5{b:Bool}{x:Res}(e:os (og b x) f=some c):og b (os x f)=some c:=by cases b<;>exact e
theorem QD{β:Type}{x:Res}{k:Fl->En->St->Option (β×St)}{g:β->St->Option γ}:ob (os x k) g=os x λv r s=>ob (k v r s) g:=by cases x<;>rfl
theorem QE{x:Res}{g:Fl->En->St->Res}(e:os (os x g) f=some c):os x (λv r s=>os (g v r s) f)=some c:=by cases x<;>exact e
end
section
variable {P:Prog}{call:ct}{r:En}{s:St}
theorem p6{i:Nat}{e:X}:hJ P call (.asg i e) r s=ob (bR P call e r s) λv s=>some (.next,r.set i (some v),s):=rfl
theorem xf{o e:X}{a:Nat}:hJ P call (.sP o a e) r s=ob (bR P call e r s) λv s=>ob (bR P call o r s) λov s=>om (bT P s ov a v) λs=>some (.next,r,s):=rfl
theorem xg{o i e:X}:hJ P call (.sQ o i e) r s=ob (bR P call e r s) λv s=>ob (bR P call o r s) λov s=>ob (bR P call i r s) λk s=>om (cL s ov k v) λs=>some (.next,r,s):=rfl
theorem Bu{is:List Nat}{e:X}:hJ P call (.IA is e) r s=ob (bR P call e r s) λv s=>om v.CS λvs=>om (nv is vs r) λr=>some (.next,r,s):=rfl
theorem xh{o e:X}{a:Nat}{op:wD}:hJ P call (.sR o a op e) r s=ob (bR P call o r s) λov s=>om (aE s ov a) λold=>ob (bR P call e r s) λv s=>om old.int? λx=>om v.int? λy=>
   om (eP s op (.int x) (.int y)) λz=>om (bT P s ov a z) λs=>some (.next,r,s):=rfl
theorem xi{o i e:X}{op:wD}:hJ P call (.sS o i op e) r s=ob (bR P call o r s) λov s=>ob (bR P call i r s) λk s=>om (bS s ov k) λold=>ob (bR P call e r s) λv s=>om old.int? λx=>om v.int? λy=>
   om (eP s op (.int x) (.int y)) λz=>om (cL s ov k z) λs=>some (.next,r,s):=rfl
theorem Bv{e:X}:hJ P call (.exp e) r s=ob (bR P call e r s) λv s=>og v.drops (some (.next,r,s)):=rfl
theorem Bw{e:X}:hJ P call (.ret e) r s=ob (bR P call e r s) λv s=>some (.ret v,r,s):=rfl
theorem Bx{c:X}{a b:List S}:hJ P call (.iff c a b) r s=ob (wh P call c r s) λt s=>match t with |true=>dS P call a r s |false=>dS P call b r s:=rfl
theorem xj{i:Nat}{it:X}{body:List S}:hJ P call (.pH i it body) r s=ob (bR P call it r s) λc s=>om (itemsOf c) λvs=>dk i (λr s=>dS P call body r s) vs r s:=rfl
theorem Bz{c:X}{body:List S}:hJ P call (.EM c body) r s=oX (λr s=>wh P call c r s) (λr s=>dS P call body r s) 5000 r s:=rfl
theorem BB{body final:List S}:hJ P call (.fin body final) r s=os (dS P call body r s) λf r s=>os (dS P call final r s) λg r s=>og g.yX (some (f,r,s)):=rfl
theorem xk{c:S}{cs:List S}:dS P call (c::cs) r s=os (hJ P call c r s) λf r s=>AV f r s (dS P call cs r s):=rfl
end
section
variable {F:Y}{d:Nat}
theorem Ao.of{z z':At F.C}(a:Af z z'):Ao F z z':=After.mono a λab ai aD q=>q.elim
theorem Ao.trans{a b c:At F.C}(x:Ao F a b)(y:Ao F b c):Ao F a c:=After.trans x y
theorem Ao.refl(a:At F.C):Ao F a a:=After.refl a.R
theorem Vf.ret{z z':At F.C}(k:∀v u,Vr z v u->Vr z' v u){f:Fl}{fl:Flow}(h:Vf z f fl):Vf z' f fl:=by cases f<;>cases fl<;>first |exact h |exact k _ _ h
theorem JS.cast{z:At F.C}{m:Sem Flow}{x x':Res}(e:x'=x)(h:JS F z m x):JS F z m x':=e▸h
theorem SS.asg(Fr:nX F.env F.ns F.g){x:Str}{i:Nat}{px pos:Pos}{e:Expr}{X:X}(hs:jM F.ns F.g x=some i)(BC:swapsWith e (some (.Name x px)) pos.line F.env=pure false)(h:SX F (eval e F.env) X):
  SS F (exec (.Assign [.Name x px] e pos) F.env) (hJ F.C.P F.call (.asg i X)):=λz r V=> .cast p6<|λab ai c aD bO e q=>
 wpAny_Assign_Name (h z r V _ _ c _ _ (wk e) λv u aK a p e=>ku Fr aK.R (V.go a).ok hs p λh' tk b tg=>q .next _ .next (At.of b) (After.trans (Ao.of a) b) ⟨tg,acn.trans V.len⟩ trivial e) BC
theorem xm{C:Cx}{A:Around}{z:At C}{a:Str}{i:Nat}{v x:V}{u y:Value}{γ:Type}{k:St->Option γ}{c:γ}{E:Value->Shared->Prop}{Q:Unit->Shared->Prop}(O:C.Ok)(K:fg C)(hi:idxOf a C.T.attrs=some i)(p:Vr z v u)(p':Vr z x y)
  (e:om (bT C.P z.σ v i x) k=some c) (q:∀z',Af z z'->k z'.σ=some c->Q () z'.s):wpAny (model C.prog C.W) A (setAttr u a y) Q E z.s:=cQ e λσ h e=>by
 obtain this:=zd (A:=A) (E:=E) O K z.R p p' h;rw[show attrName C i=a from jq hi]at this;exact wpAny_mono this (λab s t=>t.elim λw b=>q (At.of b) b e) λab ai e=>e
theorem xo{C:Cx}{A:Around}{z:At C}{v x i:V}{u y j:Value}{γ:Type}{k:St->Option γ}{c:γ}{E:Value->Shared->Prop}{Q:Unit->Shared->Prop}(hu:A.units+60<cLine)(p:Vr z v u)(p1:Vr z i j)(p':Vr z x y)
  (e:om (cL z.σ v i x) k=some c) (q:∀z',Af z z'->k z'.σ=some c->Q () z'.s):wpAny (model C.prog C.W) A (setItem u j y) Q E z.s:=cQ e λσ h e=>
 wpAny_mono (C7 hu z.R p p1 p' h) (λab s t=>t.elim λw b=>q (At.of b) b e) λab ai e=>e
theorem SS.sP(K:Kx F.C F.call F.A d){o e:Expr}{a:Str}{i:Nat}{pos' pos:Pos}{X Y:Mp.X}(hi:idxOf a F.C.T.attrs=some i)(BC:swapsWith e (some (.Attribute o a pos')) pos.line F.env=pure false)(h:SX F (eval e F.env) X)(ho:SX F (eval o F.env) Y):
  SS F (exec (.Assign [.Attribute o a pos'] e pos) F.env) (hJ F.C.P F.call (.sP Y i X)):=λz r V=> .cast xf<|λab ai c E Q e' q=>by
 refine wpAny_bind (wpAny_standAt ?_);show wpAny _ _ (swapsWith e (some (.Attribute o a pos')) pos.line F.env>>=_) _ _ _;rw[BC];refine wpAny_bind (wpAny_pure ?_);refine wpAny_bind (h z r V _ _ c E _ (wk e') λv u aK cI rf e'=> ?_);obtain X2:swappedStores [.Attribute o a pos'] e F.env=pure none:=by cases e<;>rfl
 refine wpAny_bind (wpAny_pure ?_);exact wpAny_bind (wpAny_bind (wpAny_holding (ho aK r (V.go cI) _ _ c E _ (wk e') λov uZ gQ cJ te e'=>wpAny_bind (wpAny_standAt (wpAny_bind (wpAny_holding (xm K.O K.K hi te (rf.go cJ) (Gi e') λrg fu e'=>wpAny_release (wpAny_pure (q .next r .next rg (.of ((cI.trans cJ).trans fu)) (((V.go cI).go cJ).go fu) trivial e')))))))))
theorem SS.sQ(K:Kx F.C F.call F.A d){o j e:Expr}{pos' pos:Pos}{X Y Z:Mp.X}(BC:swapsWith e (some (.Subscript o j pos')) pos.line F.env=pure false)(h:SX F (eval e F.env) X)(ho:SX F (eval o F.env) Y)(hj:SX F (eval j F.env) Z):
  SS F (exec (.Assign [.Subscript o j pos'] e pos) F.env) (hJ F.C.P F.call (.sQ Y Z X)):=λz r V=> .cast xg<|λab ai c E Q e' q=>
 wpAny_Assign_Subscript (h z r V _ _ c E _ (wk e') λv u aK cI rf e'=>ho aK r (V.go cI) _ _ c E _ (wk e') λov uZ gQ cJ te e'=>hj gQ r ((V.go cI).go cJ) _ _ c E _ (wk e') λkv T5 rg fu xc e'=>
  xo K.u (te.go fu) xc ((rf.go cJ).go fu) (Gi e') λjS lK e'=>q .next r .next jS (.of (((cI.trans cJ).trans fu).trans lK)) ((((V.go cI).go cJ).go fu).go lK) trivial e') BC
theorem SS.ret{e:Expr}{pos:Pos}{X:X}(h:SX F (eval e F.env) X):SS F (exec (.Return (some e) pos) F.env) (hJ F.C.P F.call (.ret X)):=λz r V=> .cast Bw<|λab ai c aD bO e q=>
 wpAny_Return_some (h z r V _ _ c _ _ (wk e) λv u aK a p e=>q (.ret v) r (.ret u) aK (.of a) (V.go a) p e)
theorem SS.Jv{pos:Pos}:SS F (exec (.Return none pos) F.env) (hJ F.C.P F.call (.ret (.lit .none))):=λz r V ab ai aD bO fc e q=>wpAny_Return_none (q (.ret .none) r (.ret .none) z (.refl z) V rfl e)
theorem JS.go{z z':At F.C}{m:Sem Flow}{x:Res}{γ:Type}{f:Fl->En->St->Option γ}{c:γ}{E:Value->Shared->Prop}{Q:Flow->Shared->Prop}(a:Ao F z z')(h:JS F z' m x)(e:os x f=some c)
  (q:∀v r fl z',Ao F z z'->Vz F z' r->Vf z' v fl->f v r z'.σ=some c->Q fl z'.s):wpAny (model F.C.prog F.C.W) F.A m Q E z'.s:=h _ f c E Q e λv r fl Jk b=>q v r fl Jk (a.trans b)
theorem SS.iff{t:Expr}{pos:Pos}{X:X}{a b:List Stmt}{as bs:List S}(ht:ST F (isTrue t F.env (eval t F.env)) X)(ha:SS F (execs a F.env) (dS F.C.P F.call as))(hb:SS F (execs b F.env) (dS F.C.P F.call bs)):
  SS F (exec (.If t a b pos) F.env) (hJ F.C.P F.call (.iff X as bs)):=λz r V=> .cast Bx<|λab ai c aD bO e q=>by
 refine wpAny_bind (wpAny_standAt (wpAny_bind (ht z r V _ _ c _ _ (wk e) λv u aK cI p e=> ?_)));rw[show u=v from p];cases v with
 |true=>exact JS.go (.of cI) (ha aK r (V.go cI)) e q
 |false=>exact JS.go (.of cI) (hb aK r (V.go cI)) e q
theorem SS.nil:SS F (execs [] F.env) (dS F.C.P F.call []):=λz r V ab ai aD bO fc e q=>wpAny_pure (q .next r .next z (.refl z) V trivial e)
theorem SS.cons{s:Stmt}{cs:List Stmt}{s':S}{V6:List S}(h:SS F (exec s F.env) (hJ F.C.P F.call s'))(hs:SS F (execs cs F.env) (dS F.C.P F.call V6)):SS F (execs (s::cs) F.env) (dS F.C.P F.call (s'::V6)):=λz r V=> .cast xk<|λab ai c aD bO e q=>by
 refine wpAny_bind (h z r V _ _ c _ _ (QE e) λv qM fl aK a fS p e=> ?_);cases v with
 |next=>
  cases fl with
  |next=>exact JS.go a (hs aK qM fS) e q
  |_=>exact p.elim
 |ret v=>
  cases fl with
  |ret u=>exact wpAny_pure (q _ _ _ aK a fS p e)
  |_=>exact p.elim
theorem SS.exp{e:Expr}{pos:Pos}{X:X}(hi:interactive F.env=false)(BC:swapsWith e none pos.line F.env=pure false)(h:SX F (eval e F.env) X):SS F (exec (.Expr e pos) F.env) (hJ F.C.P F.call (.exp X)):=λz r V=> .cast Bv<|λab ai c aD bO e' q=>by refine wpAny_bind (wpAny_standAt ?_);rw[hi,BC];refine wpAny_bind (wpAny_pure ?_);exact wpAny_bind (h z r V _ _ c _ _ (wk e') λv u aK a p e'=>wpAny_dropValue (q .next r .next aK (.of a) (V.go a) trivial (av (V5 e')).2))
end
section
variable {F:Y}{d:Nat}
theorem Gj{C:Cx}{A:Around}{z:At C}{a:Str}{i:Nat}{v:V}{u:Value}{γ:Type}{k:V->Option γ}{c:γ}{E:Value->Shared->Prop}{Q:Value->Shared->Prop}(O:C.Ok)(K:fg C)(hi:idxOf a C.T.attrs=some i)(p:Vr z v u)
  (e:om (aE z.σ v i) k=some c) (q:∀x u w s (b:After C aj z.w z.σ z.s w z.σ s),Vr (At.of b) x u->k x=some c->Q u s):wpAny (model C.prog C.W) A (getAttr u a true) Q E z.s:=cQ e λx h e=>by
 obtain this:=qP (A:=A) (E:=E) (ex:=true) O K z.R p h;rw[show attrName C i=a from jq hi]at this;exact wpAny_mono this (λu s t=>t.elim λw b=>q x u w s b.1 b.2 e) λab ai e=>e
theorem Gk{C:Cx}{A:Around}{z:At C}{v i:V}{u j:Value}{γ:Type}{k:V->Option γ}{c:γ}{E:Value->Shared->Prop}{Q:Value->Shared->Prop}(O:C.Ok)(hu:A.units+60<cLine)(p:Vr z v u)(p1:Vr z i j)
  (e:om (bS z.σ v i) k=some c) (q:∀x u w s (b:After C aj z.w z.σ z.s w z.σ s),Vr (At.of b) x u->k x=some c->Q u s):wpAny (model C.prog C.W) A (getItem u j) Q E z.s:=cQ e λx h e=>
 wpAny_mono (FH O hu z.R p p1 h) (λu s t=>t.elim λw b=>q x u w s b.1 b.2 e) λab ai e=>e
theorem BD{C:Cx}{A:Around}{z:At C}{op:wD}(ho:op= .add\/op= .sub){a b:V}{x y:Value}{γ:Type}{k:V->Option γ}{c:γ}{E:Value->Shared->Prop}{Q:Value->Shared->Prop}(ha:Vr z a x)(hb:Vr z b y)
  (e:(om a.int? λi=>om b.int? λj=>om (eP z.σ op (.int i) (.int j)) k)=some c) (q:∀v u t,Vr (z.tk t) v u->k v=some c->Q u (z.tk t).s):wpAny (model C.prog C.W) A (inplaceOp (binOp op) x y) Q E z.s:=
 iU (f:=λi j=>om (eP z.σ op (.int i) (.int j)) k) ha hb e λi j t u f ex ey=>by rw[ex,ey];exact ho.elim (λo=>by rw[o]at f⊢;exact AutoIntOps.iadd_0 (q (.int (i+j)) _ _ ⟨_,rfl⟩ f)) λo=>by rw[o]at f⊢;exact AutoIntOps.isub_0 (q (.int (i -j)) _ _ ⟨_,rfl⟩ f)
theorem V7{γ:Type}{o o':Option Int}{b:Int->Int->Option V}{g:V->Res}{f:Fl->En->St->Option γ}{c:γ}(e:os (om o λx=>om o' λy=>om (b x y) g) f=some c):(om o λx=>om o' λy=>om (b x y) λv=>os (g v) f)=some c:=by
 cases o with
 |none=>exact e
 |some x=>
  cases o' with
  |none=>exact e
  |some y=>exact Gi e
theorem SS.sR(K:Kx F.C F.call F.A d){o e:Expr}{a:Str}{i:Nat}{pos' pos:Pos}{op:wD}{X Y:Mp.X}(T6:op= .add\/op= .sub)(hi:idxOf a F.C.T.attrs=some i)(ho:SX F (eval o F.env) Y)(h:SX F (eval e F.env) X):
  SS F (exec (.AugAssign (.Attribute o a pos') (binOp op) e pos) F.env) (hJ F.C.P F.call (.sR Y i op X)):=λz r V=> .cast xh λab ai c E aD e' q=>by
 refine wpAny_bind (wpAny_standAt (wpAny_bind (ho z r V _ _ c E _ (wk e') λov u aK cI rf e'=>wpAny_bind (wpAny_holding (wpAny_bind (wpAny_standAt (wpAny_bind (Gj K.O K.K hi rf (Gi e') λold uo MU fR b te e'=> ?_))))))));have cJ:Af aK (At.of b):=b;refine wpAny_bind (wpAny_holding (h (At.of b) r ((V.go cI).go cJ) _ _ c E _ (wk e') λv T5 rg fu xc e'=>wpAny_bind (wpAny_standAt (wpAny_operating (BD T6 (Vr.go (z:=At.of b) te fu) xc (V7 e') λzv T7 t NC e'=> ?_)))));obtain lK:=Af.tk rg t;exact wpAny_bind (wpAny_standAt (wpAny_bind (wpAny_holding (xm K.O K.K hi (((rf.go cJ).go fu).go lK) NC (Gi e') λT8 zF e'=>wpAny_bind (wpAny_release (wpAny_pure
  (q .next r .next T8 (.of ((((cI.trans cJ).trans fu).trans lK).trans zF)) (((((V.go cI).go cJ).go fu).go lK).go zF) trivial e')))))))
theorem SS.sS(K:Kx F.C F.call F.A d){o j e:Expr}{pos' pos:Pos}{op:wD}{X Y Z:Mp.X}(T6:op= .add\/op= .sub)(IF:qH j=true)(ho:SX F (eval o F.env) Y)(hj:SX F (eval j F.env) Z)(h:SX F (eval e F.env) X):
  SS F (exec (.AugAssign (.Subscript o j pos') (binOp op) e pos) F.env) (hJ F.C.P F.call (.sS Y Z op X)):=λz r V=> .cast xi λab ai c E aD e' q=>by
 have nR:∀u uZ Gn,augStore j u uZ Gn=(do holding [Gn,u,uZ] (setItem u uZ Gn);release [Gn,u,uZ] [];pure Flow.next):=λab ai aD=>by cases j<;>first |rfl |exact nb IF
 refine wpAny_bind (wpAny_standAt (wpAny_bind (ho z r V _ _ c E _ (wk e') λov u aK cI rf e'=>wpAny_bind (wpAny_holding (hj aK r (V.go cI) _ _ c E _ (wk e') λkv uZ gQ cJ te e'=>wpAny_bind (wpAny_holding (wpAny_bind (wpAny_standAt (wpAny_bind
  (Gk K.O K.u (rf.go cJ) te (Gi e') λold uo X3 X4 b xc e'=> ?_))))))))))
 have fu:Af gQ (At.of b):=b;refine wpAny_bind (wpAny_holding (h (At.of b) r (((V.go cI).go cJ).go fu) _ _ c E _ (wk e') λv T7 jS lK NC e'=>wpAny_bind (wpAny_standAt (wpAny_operating (BD T6 (Vr.go (z:=At.of b) xc lK) NC (V7 e') λzv Gn t T9 e'=> ?_)))));obtain zF:=Af.tk jS t;refine wpAny_bind (wpAny_standAt ?_);rw[nR];exact wpAny_bind (wpAny_holding (xo K.u ((((rf.go cJ).go fu).go lK).go zF) (((te.go fu).go lK).go zF) T9 (Gi e') λUa QF e'=>wpAny_bind (wpAny_release (wpAny_pure
  (q .next r .next Ua (.of (((((cI.trans cJ).trans fu).trans lK).trans zF).trans QF)) ((((((V.go cI).go cJ).go fu).go lK).go zF).go QF) trivial e')))))
theorem SS.Ub(hh:F.A.handled=none)(Fr:nX F.env F.ns F.g){x y:Str}{i:Nat}{px py pos QG:Pos}{elt iter:Expr}{ifs:List Expr}{scope:Scope}{Y Z:X}{k:Expr->X}(hs:jM F.ns F.g y=some i)
  (EP:qD F.ns F.g x scope=true) (tf:lC iter=true) (hI:SX F (eval iter F.env) Z)
  (hT:∀cl Cl,∀e∈ifs,ST (F.comp scope cl Cl x) (isTrue e (compEnvC scope cl Cl F.env) (eval e (compEnvC scope cl Cl F.env))) (k e)) (hE:∀cl Cl,SX (F.comp scope cl Cl x) (eval elt (compEnvC scope cl Cl F.env)) Y):
  SS F (exec (.Assign [.Name y py] (.ListComp elt [⟨.Name x px,iter,ifs,0⟩] scope pos) QG) F.env) (hJ F.C.P F.call (.asg i (.comp Y Z (ifs.map k)))):=by
 obtain BC:∃b,swapsWith (.ListComp elt [⟨.Name x px,iter,ifs,0⟩] scope pos) (some (.Name y py)) QG.line F.env=pure b:=⟨_,rfl⟩;refine BC.elim λb BC=> ?_;cases b with
 |false=>exact SS.asg Fr hs BC (SX.comp hh EP tf hI hT hE)
 |true=>
  refineλz r Ve=> .cast p6 λab f c E Q e' q=> ?_
  rw[exec_Assign_Name_used _ _ _ _ BC];refine wpAny_bind (wpAny_standAt (wpAny_bind ?_));refine wpAny_bind (wpAny_mono (xd (use:=some (assign (.Name y py) F.env)) (Q:=λab s'=>Q .next s') hh Ve EP tf hI hT hE (wk e') λD Cl ze xs fC a p V ε hm e'=>hm.elim λm hm=> ?_) (λab s' hq=>wpAny_pure (wpAny_pure hq)) λab ai e=>e);refine wpAny_assign_Name (ku Fr ze.R V.ok hs p λh' tk b V'=> ?_);have Uc:¬z.w.ε Cl:=λh=>cj (z.R.ip Cl h) fC;obtain X5:∀o,ze.s.heap.get? Cl=some o->h'.get? Cl=some o:=λo e=>b.keep Cl o e (λl hl hd y=>(ze.R.fr l (ze.R.n▸hl) hd).2 (y▸ε)) λh=>Uc (lL Fr Ve.ok h);refine⟨m,hm.at' X5,λQo ND=> ?_⟩;have ac:=After.FQ (p:=λz=>z=Cl) (h':=Qo) (tk:=tk) z.R ((Ao.of a).trans (b:=ze) (c:=At.of b) b) (λz e=>e▸fC) (λz e=>e▸ε) λz o hz e=>(ND.2 z hz).trans e;exact q .next _ .next (At.of ac) ac ⟨Ve.ok.move V' (w':=ze.w.iJ λz=>z=Cl) ⟨aab _,λab ai=>rfl,λab h=>h,λz o hz e=>(ND.2 z (λy=>b.rel.iF z hz (y▸ε))).trans e⟩ λz h1 h2=>
   ⟨⟨h2,λe=>Uc (e▸h1)⟩,λo e=>(ND.2 z λy=>Uc (y▸h1)).trans e⟩,acn.trans Ve.len⟩ trivial e'
end
section
variable {F:Y}{d:Nat}
theorem SS.EM{t:Expr}{body:List Stmt}{pos:Pos}{X:X}{bs:List S}(ht:ST F (isTrue t F.env (eval t F.env)) X)(hb:SS F (execs body F.env) (dS F.C.P F.call bs)):SS F (exec (.While t body [] pos) F.env) (hJ F.C.P F.call (.EM X bs)):=λz r V=> .cast Bz λab f c E Q e q=>by
 refine wpAny_While (codeAny_whileLoop (λk s'=>∃(rj:En) (zj:At F.C),zj.s=s'/\Ao F z zj/\Vz F zj rj/\os (oX (λr s=>wh F.C.P F.call X r s) (λr s=>dS F.C.P F.call bs r s) k rj zj.σ) f=some c) ?_ 5000 (dI r z rfl (.refl z) V e))
 refineλk s' h=>b8 h λrj zj es a V el=>es▸?_
 cases k with
 |zero=>exact no el
 |succ k=>
  refine ht zj rj V _ _ c _ _ (wk el) λv u aK cI p el=> ?_;rw[show u=v from p];obtain aa:=a.trans (Ao.of cI);cases v with
  |false=>exact wpAny_pure (q .next rj .next aK aa (V.go cI) trivial el)
  |true=>
   refine hb aK rj (V.go cI) _ _ c _ _ (QE el) λUd Jw fl gQ cJ tg p el=> ?_;cases Ud with
   |next=>
    cases fl with
    |next=>exact⟨k,aap _,dI Jw gQ rfl (aa.trans cJ) tg el⟩
    |_=>exact p.elim
   |ret v=>
    cases fl with
    |ret u=>exact q _ _ _ gQ (aa.trans cJ) tg p el
    |_=>exact p.elim
structure QH{γ:Type}(F:Y)(I:Addr)(vs:List V)(i:Nat)(L:En->St->Res)(f:Fl->En->St->Option γ)(c:γ)(zD:At F.C)(j:Nat)(r:En)(z:At F.C):Prop where
 a:After F.C (λb=>nW F.env b\/b=I) zD.w zD.σ zD.s z.w z.σ z.s
 V:Vz F z r
 it:Iter F.C I vs j z.s.heap z.w
 e:os (dk i L (vs.drop j) r z.σ) f=some c
theorem SS.pH(hh:F.A.handled=none)(Fr:nX F.env F.ns F.g){x:Str}{i:Nat}{px pos:Pos}{it:Expr}{body:List Stmt}{X:X}{bs:List S}(hs:jM F.ns F.g x=some i)(tf:lC it=true)(hI:SX F (eval it F.env) X)
  (hb:SS F (execs body F.env) (dS F.C.P F.call bs)):SS F (exec (.For (.Name x px) it body [] pos) F.env) (hJ F.C.P F.call (.pH i X bs)):=λz r Ve=> .cast xj λab f c E Q e q=>by
 refine wpAny_For (hI z r Ve _ _ c _ _ (wk e) λv u aK cI jE e=>cQ (Gi e) λvs h2 e=>wpAny_mono (lI aK.R jE h2) (λZ9 fR h=>gD h λI hit fI cJ iI=>hit▸?_) λab ai q=>q) (tV tf);have fS:=Ve.go cI;obtain V8:¬aK.w.ε I:=λh=>cj (aK.R.ip I h) fI;obtain V9:=λh=>V8 (lL Fr fS.ok h);have BE:∀b,aK.w.ε b->b≠I:=λb hb e=>V8 (e▸hb)
 --X6 a So Ue,Sl iterator let go
 have fin:∀{zj:At F.C} {rj:En} {v:Fl} {fl:Flow} {h':Heap} {tk:Tok},After F.C (λb=>nW F.env b\/b=I) aK.w aK.σ aK.s zj.w zj.σ zj.s->Vz F zj rj->zj.w.ε I->(∀b o,b≠I->zj.s.heap.get? b=some o->h'.get? b=some o)->
   Vf zj v fl->f v rj zj.σ=some c->Q fl {zj.s with heap:=h',toks:=tk}:=λ{zj rj v fl h' tk} a V Wa hk hf e=>by
  have b:After F.C (nW F.env) aK.w aK.σ aK.s (zj.w.iJ λz=>z=I) zj.σ {zj.s with heap:=h',toks:=tk}:=
   (After.FQ (p:=λz=>z=I) (h':=h') (tk:=tk) aK.R a (λz e=>e▸fI) (λz e=>e▸Wa) hk).mono λz o e q=>q.elim id λy=>no (fI.symm.trans (y▸e))
  have S:fQ zj.s.heap zj.w h' (zj.w.iJ λz=>z=I):=⟨aab _,λab ai=>rfl,λab h=>h,λz o hz e=>hk z o (λy=>zj.R.iF z hz (y▸Wa)) e⟩;exact q v rj fl (At.of b) ((Ao.of cI).trans (c:=At.of b) b) ⟨fS.ok.move V.ok S λz h1 h2=>⟨⟨h2,BE z h1⟩,λo e=>hk z o (BE z h1) e⟩,V.len⟩ (Vf.ret (z':=At.of b) (λab ai p=>VR.aI S _ _ p) hf) e
 refine codeAny_forLoop_any (λk s'=>∃(j:Nat) (rj:En) (zj:At F.C),zj.s=s'/\vs.length=j+k/\QH F I vs i (λr s=>dS F.C.P F.call bs r s) f c aK j rj zj) ?_ vs.length
  (wC 0 r (At.of cJ) rfl (aby _).symm ⟨cJ.mono λab ai aD q=>q.elim,⟨fS.ok.after aK.R cJ,fS.len⟩,iI,e⟩)
 refineλk s' h=>uG h λj rj zj es hn Z=>es▸?_
 obtain el:=Z.e;cases k with
 |succ k=>
  obtain eX:j<vs.length:=abP (acs (abO k)) hn.symm;rw[acT eX]at el;refine nO hh zj.R Z.it (v:=vs[j]) (aaP eX) λu s1 a1 ak hu Pm=>wpAny_pure (wpAny_assign_Name (ku Fr a1.rel (fS.ok.jr Z.V.ok zj.R a1 Z.it.ε ak BE) hs hu λh' tk b V2=> ?_));obtain uI:∀l,l<zj.w.n->zj.σ.f l≠.dead->zj.w.δ l≠I:=λl hl hd q=>(a1.rel.fr l (a1.rel.n▸hl) hd).2 (q▸Pm.ε);obtain Sn:Iter F.C I vs (j+1) h' zj.w:=Pm.keep (b.aI a1.rel λz q=>lL Fr (fS.ok.jr Z.V.ok zj.R a1 Z.it.ε ak BE) q) Pm.ε λo e=>b.keep I o e uI V9;have aA:=(Z.a.trans (a1.mono λab ai aD q=> .inr q)).trans (b.mono λab ai aD q=> .inl q);refine hb (At.of aA) _ ⟨V2,acn.trans Z.V.len⟩ _ _ c _ _ (QE el) λUg Uh fl rg (fu:Ao F (At.of aA) rg) QI hf el=> ?_;have Qy:=Sn.keep (After.aI fu aA.rel λz q=>lL Fr V2 q) (fu.ε _ Sn.ε) λo e=>fu.keep I o e uI V9;have aB:=aA.trans (fu.mono λab ai aD q=> .inl q);cases Ug with
  |next=>
   cases fl with
   |next=>exact⟨k,aap k,wC (j+1) Uh rg rfl (hn.trans (aec j k).symm) ⟨aB,QI,Qy,el⟩⟩
   |_=>exact hf.elim
  |ret v=>
   cases fl with
   |ret u=>exact fin (h':=rg.s.heap) (tk:=rg.s.toks) aB QI Qy.ε (λb o ab e=>e) hf el
   |_=>exact hf.elim
 |zero=>rw[ade (show vs.length<=j from abD hn)]at el;exact rb hh Z.it hn.symm λh' tk hk=>wpAny_pure (fin Z.a Z.V Z.it.ε hk (v:= .next) (fl:= .next) trivial el)
theorem SS.fin(Fr:nX F.env F.ns F.g){body:List Stmt}{NF:Stmt}{fs:List Stmt}{pos:Pos}{bs cs:List S}(hb:SS F (execs body F.env) (dS F.C.P F.call bs))(hf:SS F (execs (NF::fs) F.env) (dS F.C.P F.call cs)):
  SS F (exec (.Try body [] [] (NF::fs) pos) F.env) (hJ F.C.P F.call (.fin bs cs)):=λz r V=> .cast BB λab f c E Q e q=>by
 refine wpAny_Try_finally (hb z r V _ _ c _ _ (QE e) λv qM fl aK cI fS NG e=> ?_);have last:∀E',wpAny (model F.C.prog F.C.W) F.A (execs (NF::fs) F.env) (λg' s'=>match g' with | .next=>Q fl s' |g'=>Q g' s') E' aK.s:=λE'=>hf aK qM fS _ _ c _ _ (QE e) λNu Jw g' gQ cJ tg hg e=>by
  obtain e:=av (V5 e);cases Nu with
  |ret v=>exact nb e.1
  |next=>
   cases g' with
   |next=>exact q v Jw fl gQ (cI.trans cJ) tg (Vf.ret (λab ai p=>VR.aI (After.aI cJ aK.R λz q=>lL Fr fS.ok q) _ _ p) NG) e.2
   |_=>exact hg.elim
 cases fl with
 |next=>exact wpAny_pure (last _)
 |ret u=>exact last _
 |_=>cases v<;>exact NG.elim
end
section
variable {F:Y}{d:Nat}
theorem NH(Fr:nX F.env F.ns F.g){γ:Type}{k:En->Option γ}{c:γ}{E:Value->Shared->Prop}{Q:Unit->Shared->Prop}{es:List Expr}:∀{is:List Nat} {vs:List V} {items:List Value} {r:En} {z:At F.C},slotsOf F.ns F.g es=some is->om (nv is vs r) k=some c->Vz F z r->Vs z vs items->
  (∀r' z',Ao F z z'->z'.σ=z.σ->Vz F z' r'->k r'=some c->Q () z'.s)->wpAny (model F.C.prog F.C.W) F.A (assignInOrder ((assignEach es F.env).map (λx=>x.2)) items) Q E z.s:=by
 induction es with
 |nil=>
  intro is vs items r z hs ha V hv q;rw[<-aad hs]at ha;cases vs with
  |nil=>exact wpAny_pure (q r z (.refl z) rfl V ha)
  |cons ab ai=>exact no ha
 |cons e es ih=>
  intro is vs items r z hs ha V hv q;refine cQ hs λx h0 hs=>cQ hs λi h1 hs=>cQ hs λX7 h2 hs=>(gY h0).elim λpx ex=> ?_;rw[<-aad hs]at ha;rw[ex];cases vs with
  |nil=>exact no ha
  |cons v vs=>
   refine dM hv λu us eu q1 q2=> ?_;rw[eu];exact wpAny_bind (wpAny_holding (wpAny_assign_Name (ku Fr z.R V.ok h1 q1 λh' tk b V'=>ih (z:=At.of b) h2 ha ⟨V',acn.trans V.len⟩ (bc.aI (b.aI z.R λz q=>lL Fr V.ok q) _ _ q2)
    λr' z' a=>q r' z' (Ao.trans (b:=At.of b) b a))))
theorem xp{env:Env}{ns:bJ}{g:Ga}{es:List Expr}:∀{is:List Nat},slotsOf ns g es=some is->(assignEach es env).length=is.length/\(assignEach es env).findIdx? (λx=>x.1)=none:=by
 induction es with
 |nil=>exactλh=>aad h▸⟨rfl,rfl⟩
 |cons e es ih=>intro is h;refine cQ h λx h0 h=>cQ h λi h1 h=>cQ h λX7 h2 h=>(gY h0).elim λpx ex=> ?_;rw[<-aad h,ex];refine⟨congrArg Nat.succ (ih h2).1,?_⟩;show((false,assign (.Name x px) env)::assignEach es env).findIdx? (λx=>x.1)=none;rw[List.findIdx?_cons,(ih h2).2];rfl
theorem zG{is:List Nat}:∀{vs:List V} {r r':En},nv is vs r=some r'->is.length=vs.length:=by
 induction is with
 |nil=>
  intro vs r r' h;cases vs with
  |nil=>rfl
  |cons ab ai=>exact no h
 |cons i is ih=>
  intro vs r r' h;cases vs with
  |nil=>exact no h
  |cons v vs=>exact congrArg Nat.succ (ih h)
theorem SS.IA(hh:F.A.handled=none)(Fr:nX F.env F.ns F.g){es:List Expr}{is:List Nat}{k:Nat}{tp pos:Pos}{e:Expr}{X:X}(hs:slotsOf F.ns F.g es=some is)(BC:swapsWith e (some (.Tuple es k tp)) pos.line F.env=pure false)(X8:(!AZ e)=true)(h:SX F (eval e F.env) X):
  SS F (exec (.Assign [.Tuple es k tp] e pos) F.env) (hJ F.C.P F.call (.IA is X)):=λz r V=> .cast Bu λab f c E Q e' q=>by
 refine PyProof.Rows.Assign_Tuple (h z r V _ _ c E _ (wk e') λv u aK a p e'=>cQ (Gi e') λvs hv e'=> ?_) BC (by cases e<;>first |rfl |exact nb X8);rw[mc hv]at p;refine fq p λt items m eu C0 ho hb hr=> ?_;rw[eu];obtain sl:=xp (env:=F.env) hs;refine wpAny_assign_Tuple hh (bQ ho) (cQ (Gi e') λqM h2 ab=>sl.1.trans ((zG h2).trans (size_of hr).symm)) sl.2 λh' hx=> ?_;have b:=After.grow (own:=aj) (tk:=aK.s.toks) aK.R ⟨λb o e=>hx b o (aaF (Heap.lt_size e)) e⟩;exact NH Fr (z:=At.of b) hs (Gi e') ((V.go a).go (z':=At.of b) b) (Vs.go (z:=aK) (z':=At.of b) hr b) λr' gQ cJ es tg e=>q .next r' .next gQ ((Ao.of (Af.trans (b:=aK) (c:=At.of b) a b)).trans cJ) tg trivial (by rw[es];exact e)
end
section
variable {F:Y}{d:Nat}
section
variable {m:Sem Flow}{i:Nat}{c:Bool}{x:S}{X:X}
theorem SS.bad:SS F m (hJ F.C.P F.call .bad):=λab ai aD bO fc ny wj IE e=>no e
theorem SS.opt{o:Option S}(h:∀x,o=some x->SS F m (hJ F.C.P F.call x)):SS F m (hJ F.C.P F.call (y0 o)):=by
 cases o with
 |none=>exact SS.bad
 |some x=>exact h x rfl
theorem SS.if(h:c=true->SS F m (hJ F.C.P F.call x)):SS F m (hJ F.C.P F.call (O9 c x)):=by
 cases c with
 |false=>exact SS.bad
 |true=>exact h rfl
theorem p7:SS F m (hJ F.C.P F.call (.asg i .bad)):=λab ai aD=> .cast p6 λab ai aD bO fc e=>no e
theorem NI{α:Type}{o:Option α}{f:α->Mp.X}(h:∀v,o=some v->SS F m (hJ F.C.P F.call (.asg i (f v)))):SS F m (hJ F.C.P F.call (.asg i (EN o f))):=by
 cases o with
 |none=>exact p7
 |some v=>exact h v rfl
theorem NJ(h:c=true->SS F m (hJ F.C.P F.call (.asg i X))):SS F m (hJ F.C.P F.call (.asg i (EO c X))):=by
 cases c with
 |false=>exact p7
 |true=>exact h rfl
end
theorem xq{e:Expr}{t:Option Expr}{l:Nat}{env:Env}(h:pV e=true):swapsWith e t l env=pure false:=by cases e<;>first |rfl |exact nb h
theorem jT{e:Expr}{t:Expr}{l:Nat}{env:Env}(ht:nameOf? t=none):swapsWith e (some t) l env=pure false:=by
 obtain go:∀e':Expr,(∀x p,t= .Name x p->swapsWith e' (some t) l env=pure false)->(nameOf? t).isNone=true->True:=λab ai aD=>trivial;cases e with
 |ListComp=>cases t<;>first |rfl |exact no ht.symm
 |SetComp=>cases t<;>first |rfl |exact no ht.symm
 |DictComp=>cases t<;>first |rfl |exact no ht.symm
 |_=>rfl
theorem u6{e:Expr}{es:List Expr}(h:kj e=some es):∃p,e= .List es p/\es.all noStar=true:=by
 suffices∀e',e'=e->∃p,e'= .List es p/\es.all noStar=true from this e rfl;intro e' q;cases e with
 |List l p=>obtain h:(if(l.all noStar &&decide (l.length<=2))=true then some l else none)=some es:=h;exact cM h (λa e=>⟨p,e▸q,e▸(ao a).1⟩) no
 |_=>exact no h
theorem Jy{e:Expr}(h:P9 e=true):∃elt gens sc p,e= .ListComp elt gens sc p:=by
 suffices∀e',e'=e->∃elt gens sc p,e'= .ListComp elt gens sc p from this e rfl;intro e' q;cases e with
 |ListComp=>exact PL _ _ _ _ q
 |_=>exact nb h
theorem L6(he:∀e,gR F e)(e:Expr):SX F (eval e F.env) (Tz F.C.T F.ns F.g F.n e):=by
 show SX F _ (match kj e with |some es=> .lst (wJ F.C.T F.ns F.g F.n es) |none=>cE F.C.T F.ns F.g F.n e);cases hs:kj e with
 |none=>exact(he e F.env F.ns F.g F.n).1
 |some es=>refine ah (u6 hs) λp ee nR=> ?_;rw[ee];show SX F _ (.lst (wJ F.C.T F.ns F.g F.n es));rw[gx];exact SX.lst nR λe ab=>(he e F.env F.ns F.g F.n).1
theorem Jz(K:Kx F.C F.call F.A d)(Fr:nX F.env F.ns F.g)(hE:∀e,gR F e)(t v:Expr)(pos:Pos):SS F (exec (.Assign [t] v pos) F.env) (hJ F.C.P F.call (Qa F.C.T F.ns F.g F.n t v)):=by
 have hx:=λe=>(hE e F.env F.ns F.g F.n).1;cases t with
 |Name x px=>
  refine SS.opt λy hy=>cQ hy λi hs hy=> ?_;rw[<-aad hy];cases hc:pV v with
  |true=>exact SS.asg Fr hs (xq hc) (L6 hE v)
  |false=>
   refine SS.if λhl=>PM (Jy hl) λelt gens sc p ev=> ?_;rw[ev];cases gens with
   |nil=>exact p7
   |cons gn gens=>
    cases gn with
    |mk t iter ifs as=>
     cases gens with
     |cons ab ai=>exact p7
     |nil=>refine NI λy hn=>NJ λh=>(gY hn).elim λpy et=> ?_;obtain a:=ao (ao h).1;simp only[et,beq_iff_eq.mp a.1,gx];exact SS.Ub K.Rm.handled Fr hs (ao h).2 a.2 (hx iter) (λcl Cl e ab=>(hE e _ _ _ _).2) λcl Cl=>(hE elt _ _ _ _).1
 |Attribute o a p=>exact SS.opt λy hy=>cQ hy λi Ui hy=>aad hy▸SS.sP K Ui (jT rfl) (L6 hE v) (hx o)
 |Subscript o j p=>exact SS.sQ K (jT rfl) (hx v) (hx o) (hx j)
 |Tuple es kk p=>exact SS.if λhv=>SS.opt λy hy=>cQ hy λis hs hy=>aad hy▸SS.IA K.Rm.handled Fr hs (jT rfl) hv (hx v)
 |_=>exact SS.bad
theorem u7{op:Operator}{o:wD}(h:Ff op=some o):binOp o=op/\(o= .add\/o= .sub):=by
 cases op with
 |Add=>exact aad h▸⟨rfl,.inl rfl⟩
 |Sub=>exact aad h▸⟨rfl,.inr rfl⟩
 |_=>exact no h
theorem JA(K:Kx F.C F.call F.A d)(hE:∀e,gR F e)(t v:Expr)(op:Operator)(pos:Pos):SS F (exec (.AugAssign t op v pos) F.env) (hJ F.C.P F.call (Qb F.C.T F.ns F.g F.n t op v)):=by
 have hx:=λe=>(hE e F.env F.ns F.g F.n).1;cases t with
 |Attribute o a p=>exact SS.opt λy hy=>cQ hy λi Ui hy=>cQ hy λbo ho hy=>aad hy▸(u7 ho).1▸SS.sR K (u7 ho).2 Ui (hx o) (hx v)
 |Subscript o j p=>exact SS.opt λy hy=>cQ hy λbo ho hy=>aad hy▸SS.if λIF=>(u7 ho).1▸SS.sS K (u7 ho).2 IF (hx o) (hx j) (hx v)
 |_=>exact SS.bad
theorem QJ(K:Kx F.C F.call F.A d)(Fr:nX F.env F.ns F.g)(hi:interactive F.env=false)(jj:Bool)(k:Nat):∀(c:Stmt),sizeOf c<k->SS F (exec c F.env) (hJ F.C.P F.call (cS F.C.T F.ns F.g F.n jj c)):=by
 have hE:=λe=>QC K (sizeOf e+1) e (aap _);have hx:=λe=>(hE e F.env F.ns F.g F.n).1;have ht:=λe=>(hE e F.env F.ns F.g F.n).2;induction k with
 |zero=>exactλc h=>absurd h (acK _)
 |succ k ih=>
  intro c hk;obtain X9:∀cs:List Stmt,sizeOf cs<k->SS F (execs cs F.env) (dS F.C.P F.call (Fj F.C.T F.ns F.g F.n jj cs)):=λcs=>by
   induction cs with
   |nil=>exactλab=>SS.nil
   |cons c cs Yb=>
    obtain z:=adX c cs
    exactλh=>SS.cons (ih c (aaQ (z▸bL mB) h)) (Yb (aaQ (z▸jF p1) h))
  have many:∀{N:Nat},sizeOf c=N->∀cs:List Stmt,sizeOf cs<N->SS F (execs cs F.env) (dS F.C.P F.call (Fj F.C.T F.ns F.g F.n jj cs)):=λq cs h=>X9 cs (aak h (q▸acS hk));cases c with
  |Return v pos=>
   cases v with
   |none=>exact SS.Jv
   |some e=>
    cases jj with
    |true=>exact SS.ret (SX.jj K.O (hx e))
    |false=>exact SS.ret (hx e)
  |If t a b pos=>exact SS.iff (ht t) (many (Stmt.If.sizeOf_spec ..) a (bL (bL (jF p1)))) (many (Stmt.If.sizeOf_spec ..) b (bL (jF (bL p1))))
  |While t b o pos=>
   cases o with
   |nil=>exact SS.EM (ht t) (many (Stmt.While.sizeOf_spec ..) b (bL (bL (jF p1))))
   |cons ab ai=>exact SS.bad
  |Expr e pos=>exact SS.if λh=>SS.exp hi (xq h) (hx e)
  |Assign ts v pos=>
   cases ts with
   |nil=>exact SS.bad
   |cons t ts=>
    cases ts with
    |nil=>exact Jz K Fr hE t v pos
    |cons ab ai=>exact SS.bad
  |AugAssign t op v pos=>exact JA K hE t v op pos
  |For t it b o pos=>
   cases o with
   |nil=>refine SS.opt λy hy=>cQ hy λx h0 hy=>cQ hy λi hs hy=>aad hy▸SS.if λtf=>(gY h0).elim λpx et=> ?_;exact et▸SS.pH K.Rm.handled Fr hs tf (hx it) (many (Stmt.For.sizeOf_spec ..) b (bL (bL (jF (bL p1)))))
   |cons ab ai=>exact SS.bad
  |Try b hs o f pos=>
   cases hs with
   |cons ab ai=>exact SS.bad
   |nil=>
    cases o with
    |cons ab ai=>exact SS.bad
    |nil=>
     cases f with
     |nil=>exact SS.bad
     |cons f fs=>exact SS.fin Fr (many (Stmt.Try.sizeOf_spec ..) b (bL (bL (bL (bL mB))))) (many (Stmt.Try.sizeOf_spec ..) (f::fs) (bL (jF (bL (bL p1)))))
  |_=>exact SS.bad
theorem NK(K:Kx F.C F.call F.A d)(Fr:nX F.env F.ns F.g)(hi:interactive F.env=false)(jj:Bool)(cs:List Stmt):SS F (execs cs F.env) (dS F.C.P F.call (Fj F.C.T F.ns F.g F.n jj cs)):=by
 induction cs with
 |nil=>exact SS.nil
 |cons c cs ih=>exact SS.cons (QJ K Fr hi jj _ c (aap _)) ih
end
noncomputable def mC(p:Arguments):Bool:=p.posonlyargs.isEmpty &&p.kwonlyargs.isEmpty &&p.vararg.isNone &&p.kwarg.isNone
noncomputable def tW:List (Str×Value)->List (Str×Value)->List (Str×Value)
 |slots,[]=>slots
 |slots,(n,d)::r=>tW (if(slots.lookup n).isNone then slots++[(n,d)]else slots) r
theorem u9{n:Str}{l:List (Str×Value)}:∀{slots:List (Str×Value)},(tW slots l).lookup n=(slots.lookup n).or (l.lookup n):=by
 induction l with
 |nil=>exactλ{slots}=>(aeI (o:=slots.lookup n)).symm
 |cons p r ih=>
  intro slots;show(tW (if(slots.lookup p.1).isNone=true then slots++[(p.1,p.2)]else slots) r).lookup n=_;rw[ih];by_cases e:n=p.1
  ·rw[iY (a:=p.2) e,<-e];cases hs:slots.lookup n with
   |none=>rw[if_pos (show(none:Option Value).isNone=true from rfl),aey,hs,iY rfl];rfl
   |some v=>rw[if_neg (λh=>nomatch h),hs];rfl
  ·rw[iZ (a:=p.2) e];by_cases h:(slots.lookup p.1).isNone=true
   ·rw[if_pos h,aey,iZ e];exact congrArg (Option.or · _) aeI
   ·rw[if_neg h]
theorem gz{α:Type}{x:Str}{k:α}{l:List (Str×α)}(hn:(l.map (λx=>x.1)).Nodup)(h:(x,k)∈l):l.lookup x=some k:=by
 induction l with
 |nil=>exact nomatch h
 |cons p r ih=>obtain hn:=aaM.mp hn;refine(aam.mp h).elim (λe=>e▸iY rfl) λh=> ?_;exact(iZ (a:=p.2) λe:x=p.1=>hn.1 (show p.1∈r.map (λx=>x.1) by simp only[<-e];exact aan (f:=(λx=>x.1)) h)).trans (ih hn.2 h)
theorem map_fst_zip{α:Type}{ps:List Str}{vs:List α}(h:ps.length=vs.length):(ps.zip vs).map (λx=>x.1)=ps:=List.map_fst_zip (abD h)
theorem zH{α:Type}{x:Str}{v:α}{ps:List Str}{vs:List α}{i:Nat}(h:ps[i]? =some x)(h':vs[i]? =some v):(x,v)∈ps.zip vs:=abk (List.getElem?_zip_eq_some.mpr ⟨h,h'⟩)
theorem lM{n:Str}{ps:List Str}{vs:List Value}:∀{i:Nat},ps.Nodup->ps[i]? =some n->(ps.zip vs).lookup n=vs[i]? :=by
 induction ps generalizing vs with
 |nil=>exactλab h=>no h
 |cons p ps ih=>
  intro i hn h;cases vs with
  |nil=>rfl
  |cons v vs=>
   obtain hn:=aaM.mp hn;cases i with
   |zero=>exact iY (aad h).symm
   |succ i=>exact(iZ λe:n=p=>hn.1 (e▸abk h)).trans (ih hn.2 h)
theorem NL{f:Str->Option Value}{ps:List Str}:∀{full:List Value},ps.length=full.length->(∀(i:Nat) (n:Str),ps[i]? =some n->f n=full[i]?)->ps.filterMap (λn=>(f n).map (n,·))=ps.zip full:=by
 induction ps with
 |nil=>exactλab ai=>rfl
 |cons p ps ih=>
  intro full h hh;cases full with
  |nil=>exact nomatch h
  |cons v vs=>rw[aet,show f p=some v from hh 0 p rfl];exact congrArg _ (ih (acm h) λi n e=>hh (i+1) n e)
theorem Yc{ps:List Str}{vals dv:List Value}(JB:ps.Nodup)(hr:ps.length<=vals.length+dv.length):(ps.take (ps.length -dv.length)).filter (λn=>((ps.zip vals).lookup n).isNone)=[]:=
 aee.mpr λn hn=>(adg.mp hn).elim λi hi=>by
  rw[aez]at hi;by_cases eX:i<ps.length -dv.length
  ·rw[if_pos eX]at hi;rw[lM JB hi,aaP (aak eX (acC.mpr hr))];exact aex
  ·rw[if_neg eX]at hi;exact no hi
theorem Yd{l:List (Str×Value)}:∀{acc:List (Str×Value)},(forIn l acc (λ(x:Str×Value) (acc:List (Str×Value))=>(if(acc.lookup x.1).isNone=true then pure (abL (acc++[(x.1,x.2)]))else pure (abL acc):Sem _)):Sem _)=pure (tW acc l):=by
 induction l with
 |nil=>exact rfl
 |cons p r ih=>
  intro acc;show _=pure (tW (if(acc.lookup p.1).isNone=true then acc++[(p.1,p.2)]else acc) r);rw[acE];by_cases h:(acc.lookup p.1).isNone=true
  ·rw[if_pos h,if_pos h];exact ih
  ·rw[if_neg h,if_neg h];exact ih
theorem Ye{ps:List Str}{vals dv:List Value}(JB:ps.Nodup)(ES:dv.length<=ps.length)(hr:ps.length<=vals.length+dv.length){i:Nat}{n:Str}(hi:ps[i]? =some n):
  (tW (ps.zip vals) ((ps.drop (ps.length -dv.length)).zip dv)).lookup n=(vals++dv.drop (dv.length -(ps.length -vals.length)))[i]? :=by
 obtain Uj:i<ps.length:=(abg.mp hi).1;rw[u9,lM JB hi];by_cases eX:i<vals.length
 ·rw[abU eX,aaP eX];rfl
 ·obtain Sq:vals.length<=i:=ach eX;rw[ace Sq,abQ Sq,aeA];obtain hk:(ps.drop (ps.length -dv.length))[i -(ps.length -dv.length)]? =some n:=by
   simp only[aeA,abY (aaa (acC.mpr hr) Sq)];exact hi
  rw[lM (JB.sublist (List.drop_sublist _ _)) hk];refine congrArg (dv[·]?) ?_
  --ps=a+d,vals=a+b,i=a+b+c
  obtain e1:=acq ES;obtain e2:=abY (acC.mpr hr);obtain e3:=abY Sq;generalize ps.length -dv.length=a at*
  generalize vals.length -a=b at*
  generalize i -vals.length=c at*
  rw[<-e1]at Uj⊢;rw[<-e3,<-e2]at Uj⊢;simp only[Nat.add_sub_add_left,adJ (acJ (aai (aao b c) (Nat.lt_of_add_lt_add_left (abc a b c▸Uj)))),abc,Nat.add_sub_cancel_left]
theorem Yg(fd:FuncData)(args:List Arg)(kd:List (Option Expr))(df:List Expr)(vals:List Value):∃R1 R2:Option (Array Value)->Sem (List (Str×Value)),bindArgs {fd with params:={posonlyargs:=[],args:=args,vararg:=none,kwonlyargs:=[],kw_defaults:=kd,kwarg:=none,defaults:=df}} ⟨vals,[]⟩=
   (seqItems? fd.defaults>>=λo=>if(decide (vals.length>(args.map λa:Arg=>a.arg).length) &&true)=true then R1 o else
    if(!(((args.map λa:Arg=>a.arg).take ((args.map λa:Arg=>a.arg).length -((o.getD #[]).toList.drop ((o.getD #[]).toList.length -(args.map λa:Arg=>a.arg).length)).length)).filter λn=>(((args.map λa:Arg=>a.arg).zip vals).lookup n).isNone).isEmpty)=true then R2 o else
    forIn (((args.map λa:Arg=>a.arg).drop ((args.map λa:Arg=>a.arg).length -((o.getD #[]).toList.drop ((o.getD #[]).toList.length -(args.map λa:Arg=>a.arg).length)).length)).zip ((o.getD #[]).toList.drop ((o.getD #[]).toList.length -(args.map λa:Arg=>a.arg).length))) ((args.map λa:Arg=>a.arg).zip vals)
     (λ(x:Str×Value) (acc:List (Str×Value))=>(if(acc.lookup x.1).isNone=true then pure (abL (acc++[(x.1,x.2)]))else pure (abL acc):Sem _))>>=λs=>pure (((args.map λa:Arg=>a.arg)++[]).filterMap λn=>(s.lookup n).map (n,·))):=by
 refine⟨?_,?_,?_⟩;rotate_left 2
 ·rfl
theorem NM{fd:FuncData}(hp:mC fd.params=true):fd={fd with params:={posonlyargs:=[],args:=fd.params.args,vararg:=none,kwonlyargs:=[],kw_defaults:=fd.params.kw_defaults,kwarg:=none,defaults:=fd.params.defaults}}:=by
 have go:∀(a c:List Arg) (b e:Option Arg),a=[]->c=[]->b=none->e=none->({fd with params:=⟨a,fd.params.args,b,c,fd.params.kw_defaults,e,fd.params.defaults⟩}:FuncData)={fd with params:=⟨[],fd.params.args,none,[],fd.params.kw_defaults,none,fd.params.defaults⟩}:=λa c b e q1 q2 q3 q4=>by simp only[q1,q2,q3,q4]
 have e:∀p:Arguments,p=⟨p.posonlyargs,p.args,p.vararg,p.kwonlyargs,p.kw_defaults,p.kwarg,p.defaults⟩:=λp=>by cases p;rfl
 exact(show fd={fd with params:=fd.params}from rfl).trans ((congrArg (λp=>{fd with params:=p}) (e fd.params)).trans (go _ _ _ _ (abJ.mp (ao (ao (ao hp).1).1).1) (abJ.mp (ao (ao (ao hp).1).1).2) (aaZ.mp (ao (ao hp).1).2) (aaZ.mp (ao hp).2)))
theorem rk{fd:FuncData}{vals:List Value}{M:Model}{A:Around}{E:Value->Shared->Prop}{Q:List (Str×Value)->Shared->Prop}{s:Shared}{dv:List Value}
  (hp:mC fd.params=true) (hd:∀(R:Option (Array Value)->Shared->Prop),(∀o,(o.getD #[]).toList=dv->R o s)->wpAny M A (seqItems? fd.defaults) R E s) (hv:vals.length<=fd.params.args.length)
  (JB:(fd.params.args.map (λx=>x.arg)).Nodup) (ES:dv.length<=fd.params.args.length) (hr:fd.params.args.length<=vals.length+dv.length)
  (hq:Q ((fd.params.args.map (λx=>x.arg)).zip (vals++dv.drop (dv.length -(fd.params.args.length -vals.length)))) s):wpAny M A (bindArgs fd ⟨vals,[]⟩) Q E s:=by
 rw[congrArg (bindArgs · ⟨vals,[]⟩) (NM hp)];refine sO (Yg fd fd.params.args fd.params.kw_defaults fd.params.defaults vals) λR1 R2 e=>e▸wpAny_bind (hd _ λo ho=> ?_);obtain hl:fd.params.args.length=(fd.params.args.map (λx=>x.arg)).length:=(aae _).symm;rw[hl]at hv ES hr hq;generalize fd.params.args.map (λx=>x.arg)=ps at*
 rw[if_neg (λh=>absurd (of_decide_eq_true (ao h).1) (acb.mpr hv)),ho,show dv.drop (dv.length -ps.length)=dv by rw[aem ES];rfl,Yc JB hr,Yd];refine wpAny_pure ?_;obtain hlen:ps.length=(vals++dv.drop (dv.length -(ps.length -vals.length))).length:=by simp only[aah,acy,adJ (acC.mpr (abf ..▸hr)),abY hv]
 simp only[aaV,NL hlen λi n hi=>Ye JB ES hr hi];exact hq
theorem JC{x:Str}{names:bJ}(h:x∈jN names):(x,.local)∈names\/(x,.cell)∈names:=
 (aal.mp h).elim λp q=>by
  obtain m:=aaN.mp q.1;obtain e:p=(x,p.2):=congrArg (·,p.2) q.2;rw[e]at m;cases hk:p.2 with
  |«local»=>exact .inl (hk▸m.1)
  |cell=>exact .inr (hk▸m.1)
  |_=>rw[hk]at m;exact nb m.2
theorem JD{x:Str}{k:NameKind}{names:bJ}(h:(x,k)∈names)(hk:Fo k=true):x∈jN names:=aal.mpr ⟨(x,k),aaN.mpr ⟨h,hk⟩,rfl⟩
theorem lN{names:bJ}(h:(names.map (λx=>x.1)).Nodup):(jN names).Nodup:=h.sublist (List.filter_sublist.map _)
theorem BF{x:Str}{j:Nat}{names:bJ}(h:(cV 0 names).lookup x=some j):(jN names)[j]? =some x:=adR.mp (lookup_mem h)
theorem va{x:Str}{k:Nat}{names:bJ}(h:(jN names)[k]? =some x)(hn:(names.map (λx=>x.1)).Nodup):(cV 0 names).lookup x=some k:=
 gz ((List.zipIdx_map_fst 0 (jN names)).symm▸lN hn) (adR.mpr h)
theorem DE{x:Str}{names:bJ}:∀{n:Nat} {acc:List (Str×Addr)},(∃c,acc.lookup x=some c)->∃c,(cellsFrom n names acc).lookup x=some c:=by
 induction names with
 |nil=>exact id
 |cons p r ih=>
  intro n acc h;show∃c,(if(p.2== .cell)=true then cellsFrom (n+1) r ((p.1,n)::acc)else cellsFrom n r acc).lookup x=some c;by_cases k:(p.2== .cell)=true
  ·rw[if_pos k];refine ih ?_;by_cases e:x=p.1
   ·exact⟨n,iY e⟩
   ·exact h.elim λc q=>⟨c,(iZ e).trans q⟩
  ·rw[if_neg k];exact ih h
theorem rm{x:Str}{names:bJ}:∀{n:Nat} {acc:List (Str×Addr)},(x,NameKind.cell)∈names->∃c,(cellsFrom n names acc).lookup x=some c:=by
 induction names with
 |nil=>exactλh=>nomatch h
 |cons p r ih=>
  intro n acc h;show∃c,(if(p.2== .cell)=true then cellsFrom (n+1) r ((p.1,n)::acc)else cellsFrom n r acc).lookup x=some c;by_cases k:(p.2== .cell)=true
  ·rw[if_pos k];exact(aam.mp h).elim (λe=>DE ⟨n,iY (congrArg adk e)⟩) ih
  ·rw[if_neg k];exact(aam.mp h).elim (λe=>absurd (beq_iff_eq.mpr (congrArg aeH e).symm) k) ih
theorem DF{x:Str}{c:Addr}{names:bJ}:∀{n:Nat} {acc:List (Str×Addr)},(cellsFrom n names acc).lookup x=some c->(x,NameKind.cell)∈names\/acc.lookup x=some c:=by
 induction names with
 |nil=>exact .inr
 |cons p r ih=>
  intro n acc h;obtain h:(if(p.2== .cell)=true then cellsFrom (n+1) r ((p.1,n)::acc)else cellsFrom n r acc).lookup x=some c:=h;by_cases k:(p.2== .cell)=true
  ·rw[if_pos k]at h;refine(ih h).elim (λm=> .inl (aaf _ m)) λh=> ?_;by_cases e:x=p.1
   ·exact .inl (aam.mpr (.inl (Prod.ext e (beq_iff_eq.mp k).symm)))
   ·exact .inr ((iZ e).symm.trans h)
  ·rw[if_neg k]at h;exact(ih h).imp (aaf _) id
theorem DG{k:Str->Option NameKind}{x:Str}{bs:List (Str×Value)}:∀{m:Str->Option Value},x∉bs.map (λx=>x.1)->bindL k bs m x=m x:=by
 induction bs with
 |nil=>exactλab=>rfl
 |cons p r ih=>
  intro m h;have h:=not_or.mp λq=>h (aam.mpr q);refine(ih (m:=if k p.1=some .local thenλy=>if y=p.1 then some p.2 else m y else m) h.2).trans ?_;by_cases e:k p.1=some .local
  ·rw[if_pos e];exact if_neg h.1
  ·rw[if_neg e]
theorem Gp{k:Str->Option NameKind}{x:Str}{v:Value}(hk:k x=some .local){bs:List (Str×Value)}:∀{m:Str->Option Value},(bs.map (λx=>x.1)).Nodup->(x,v)∈bs->bindL k bs m x=some v:=by
 induction bs with
 |nil=>exactλab h=>nomatch h
 |cons p r ih=>intro m hn h;obtain hn:=aaM.mp hn;refine(aam.mp h).elim (λe=> ?_) λh=>ih hn.2 h;refine(DG (m:=if k p.1=some .local thenλy=>if y=p.1 then some p.2 else m y else m) (show x∉r.map (λx=>x.1) by rw[show x=p.1 from congrArg adk e];exact hn.1)).trans ?_;rw[<-e,if_pos hk];exact if_pos rfl
theorem DH{k:Str->Option NameKind}{x:Str}{bs:List (Str×Value)}:∀{m:Str->Option Value},x∉bs.map (λx=>x.1)->bindC k bs m x=m x:=by
 induction bs with
 |nil=>exactλab=>rfl
 |cons p r ih=>
  intro m h;have h:=not_or.mp λq=>h (aam.mpr q);refine(ih (m:=if k p.1=some .local then m elseλy=>if y=p.1 then some p.2 else m y) h.2).trans ?_;by_cases e:k p.1=some .local
  ·rw[if_pos e]
  ·rw[if_neg e];exact if_neg h.1
theorem Gq{k:Str->Option NameKind}{x:Str}{v:Value}(hk:k x≠some .local){bs:List (Str×Value)}:∀{m:Str->Option Value},(bs.map (λx=>x.1)).Nodup->(x,v)∈bs->bindC k bs m x=some v:=by
 induction bs with
 |nil=>exactλab h=>nomatch h
 |cons p r ih=>intro m hn h;obtain hn:=aaM.mp hn;refine(aam.mp h).elim (λe=> ?_) λh=>ih hn.2 h;refine(DH (m:=if k p.1=some .local then m elseλy=>if y=p.1 then some p.2 else m y) (show x∉r.map (λx=>x.1) by rw[show x=p.1 from congrArg adk e];exact hn.1)).trans ?_;rw[<-e,if_neg hk];exact if_pos rfl
def vb(fd:FuncData):Bool:=
 fd.scope.kind== .function && !fd.scope.isCoroutine && !fd.scope.isGenerator &&fd.closure.isEmpty &&mC fd.params &&
 decide (fd.scope.names.map (λx=>x.1)).Nodup &&fd.scope.names.all (λx=>x.2 != .free) &&
 decide ((jN fd.scope.names).take fd.params.args.length=fd.params.args.map (λx=>x.arg))
structure Sr(fd:FuncData):Prop where
 kind:fd.scope.kind= .function
 co:fd.scope.isCoroutine=false
 gen:fd.scope.isGenerator=false
 Po:fd.closure=[]
 par:mC fd.params=true
 nd:(fd.scope.names.map (λx=>x.1)).Nodup
 nf:∀x∈fd.scope.names,x.2≠.free
 ps:(jN fd.scope.names).take fd.params.args.length=fd.params.args.map (λx=>x.arg)
theorem Sr.of{fd:FuncData}(h:vb fd=true):Sr fd:=
 have a:=ao h;have b:=ao a.1;have c:=ao b.1;have d:=ao c.1;have e:=ao d.1;have f:=ao e.1;have g:=ao f.1
 ⟨beq_iff_eq.mp g.1,abC _ |>.mp g.2,abC _ |>.mp f.2,abJ.mp e.2,d.2,of_decide_eq_true c.2,λx hx=>bne_iff_ne.mp (aas.mp b.2 x hx),of_decide_eq_true a.2⟩
def L8(C:Cx)(fd:FuncData)(tX:List V):Prop:=∃dv:List Value,dv.length<=fd.params.args.length/\
 ((fd.defaults= .none/\dv=[])\/∃T o items n,fd.defaults= .ref T/\C.h₀.get? T=some o/\o.data= .seq items n/\items.toList=dv)/\
 ∀w:Wd,(∀b o,C.h₀.get? b=some o->w.φ b)->bc C.W C.h₀ w tX dv
structure FnAt(C:Cx)(f:Nat)(o:Obj)(fd:FuncData)(body:List Stmt)(name:Str)(tX:List V):Prop where
 at_:C.h₀.get? (C.fa f)=some o
 data:o.data= .func fd
 bd:fd.body= .stmts body
 plain:vb fd=true
 g:fd.globals=mainGlobals
 b:fd.builtins=builtinsNs
 code:C.h₀.CodeRec fd.code fd.qualname
 fn:C.P.fns[f]? =some (Qc C.T name fd.params tX body fd.scope)
 df:L8 C fd tX
def JE(C:Cx)(f:Nat):Prop:=∃(o:Obj) (fd:FuncData) (body:List Stmt) (name:Str) (tX:List V),FnAt C f o fd body name tX
theorem Rel.Yh{C:Cx}{w:Wd}{σ:St}{h:Heap}(R:Rel C h w σ){v:List V}{u:List Value}(q:∀w:Wd,(∀b o,C.h₀.get? b=some o->w.φ b)->bc C.W C.h₀ w v u):bc C.W h w v u:=
 bc.aI (h:=C.h₀) (w':=w) (w:={w with φ:=λa=>w.φ a/\(C.h₀.get? a).isSome}) ⟨aab _,λab ai=>rfl,λab h=>h.1,λa o ab e=>R.keep a o e⟩ v u
  (q {w with φ:=λa=>w.φ a/\(C.h₀.get? a).isSome} λb o e=>⟨R.base b o e,congrArg adi e⟩)
structure rn(A:Around)(d:Nat):Prop where
 handled:A.handled=none
 depth:A.depth+1+6*d<1000
 units:A.units+3+60*d+200<9900
theorem JF{m j:Nat}(x d:Nat)(hj:j<=m):x+j+m*d<=x+m*(d+1):=
 aaa (aat (aav hj x) (m*d)) (abD ((abc ..).trans (congrArg (x+·) (abf ..))))
theorem kX.one{A:Around}{d:Nat}(r:kX A (d+1)):rn A d:=
 ⟨r.handled,aai (JF (m:=6) (j:=1) _ d (by decide)) r.depth,aai (aat (JF (m:=60) (j:=3) _ d (by decide)) 200) r.units⟩
theorem rn.lim{A:Around}{d:Nat}(r:rn A d):A.depth<recursionLimit:=aai (aaa (aaK _) (aao _ (6*d))) r.depth
theorem rn.deeper{A:Around}{d:Nat}{env:Env}(r:rn A d):kX (A.deeper env) d:=⟨r.handled,r.depth,r.units⟩
theorem kX.make{A:Around}{d:Nat}{C:Addr}{vals:List Value}(r:kX A (d+1)):rn (A.under (.builtin "type.__call__" ⟨.ref C::vals,[]⟩)) d:=
 ⟨r.handled,aai (JF (m:=6) (j:=2) _ d (by decide)) r.depth,aai (aat (JF (m:=60) (j:=4) _ d (by decide)) 200) r.units⟩
section
variable {C:Cx}{A:Around}{d:Nat}
theorem Gs{fd:FuncData}{w:Wd}{σ:St}{s cH:Shared}{env:Env}{fs:List V}{full:List Value}{r:En}{q:Option Addr}
  (R:Rel C s.heap w σ) (P:Sr fd) (hg:fd.globals=mainGlobals) (hb:fd.builtins=builtinsNs)
  (he:env=newEnv fd.scope s.heap.objs.size fd.globals (cellsFrom (s.heap.objs.size+1) fd.scope.names []) (fd.qualname++ ".<locals>.") q fd.code none fd.builtins)
  (x:InCallC s env.locals (bindL env.kindOf ((fd.params.args.map (λx=>x.arg)).zip full) λ_=>none) env.cells (bindC env.kindOf ((fd.params.args.map (λx=>x.arg)).zip full) λ_=>none) cH)
  (hv:bc C.W s.heap w fs full) (hl:fs.length=fd.params.args.length)
  (hr:r=fs.map some++abz ((cV 0 fd.scope.names).length -fd.params.args.length) none):
  ∃kW,After C aj w σ s kW σ cH/\bz C cH.heap kW env fd.scope.names (cV 0 fd.scope.names) r/\r.length=(cV 0 fd.scope.names).length/\nX env fd.scope.names (cV 0 fd.scope.names)/\
   (∀b,nW env b->s.heap.get? b=none):=by
 have eL:env.locals=s.heap.objs.size:=he▸rfl;have eC:env.cells=cellsFrom (s.heap.objs.size+1) fd.scope.names []:=he▸rfl;have eS:env.scope=fd.scope:=he▸rfl;have eK:∀y,env.kindOf y=fd.scope.names.lookup y:=λy=>by unfold Env.kindOf;rw[eS]
 obtain Uk:=P.ps;obtain We:(fd.params.args.map (λx=>x.arg)).length=fd.params.args.length:=aae _;generalize fd.params.args.map (λx=>x.arg)=ps at*
 obtain NG:full.length=ps.length:=(bc.length hv).trans (hl.trans We.symm);have Ul:∀y c,env.cells.lookup y=some c->fd.scope.names.lookup y=some .cell/\s.heap.objs.size<c:=λy c hy=>
  ⟨(DF (eC▸hy)).elim (gz P.nd) no,eL▸x.above y c (adp hy)⟩
 obtain QK:∀b,nW env b->s.heap.get? b=none:=λb hb=>hb.elim (λe=>e▸eL▸dj _) λhb=>hb.elim λy hy=>uK (acJ (Ul y b hy).2);obtain QL:∀b,nW env b->∃o,cH.heap.get? b=some o:=λb hb=>hb.elim (λe=>e▸uG x.toInCall.ns λo _ _ e _ _=>⟨o,e⟩) λhb=>hb.elim λy hy=>(x.cell y b hy).elim λo e=>⟨o,e.1⟩;have a:After C aj w σ s (w.fZ (nW env)) σ cH:=eO x.done λqK tk QM QN=>by rw[QM]at QL⊢;exact After.fZ R ⟨QN⟩ QK QL
 obtain QO:bc C.W cH.heap (w.fZ (nW env)) fs full:=bc.aI (a.aI R (hO w)) _ _ hv;obtain hle:fd.params.args.length<=(jN fd.scope.names).length:=by rw[<-We,<-Uk,acV];exact Nat.min_le_right ..
 obtain Wf:(cV 0 fd.scope.names).length=(jN fd.scope.names).length:=aeB;have hlen:r.length=(cV 0 fd.scope.names).length:=by simp only[hr,aah,aae,adh,hl,Wf,abY hle]
 obtain Um:∀(i:Nat) y,(cV 0 fd.scope.names).lookup y=some i->i<fd.params.args.length->ps[i]? =some y:=λi y hi eX=>by rw[<-Uk,aez,if_pos eX];exact BF hi
 have QP:((ps.zip full).map (λx=>x.1)).Nodup:=by rw[map_fst_zip NG.symm,<-Uk];exact(lN P.nd).sublist (aeE ..)
 --Sl L9 slots
 have slot:∀(i:Nat) y (m:Str->Option Value),(cV 0 fd.scope.names).lookup y=some i->(∀u,(y,u)∈ps.zip full->m y=some u)->OV C cH.heap (w.fZ (nW env)) (r.getD i none) (m y):=λi y m Pp hm=>by
  by_cases eX:i<fd.params.args.length
  ·obtain Un:i<fs.length:=hl.symm▸eX;rw[hr,aaR,abU ((aae _).symm▸Un),abI,aaP Un];exact ah (bc.get QO (aaP Un)) λu hu q=>(hm u (zH (Um i y Pp eX) hu)).symm▸OV.so q
  ·rw[hr,aaR,abQ ((aae _).symm▸hl.symm▸ach eX),List.getElem?_replicate];split
   ·exact OV.no
   ·exact OV.no
 obtain free:∀y k,fd.scope.names.lookup y=some k->k≠.free:=λy k h=>P.nf _ (lookup_mem h);refine EX _ a ⟨eS▸P.kind,he▸hg,he▸hb,λy k hy=> .inl ((eK y).trans hy),.inr (.inl rfl),⟨_,x.toInCall.ns,λy i k Pp Ss _=> ?_⟩,λy i Pp=>hlen▸Wf▸(abg.mp (BF Pp)).1⟩ hlen
  ⟨λy z i h1 h2=>aad ((BF h1).symm.trans (BF h2)),λy z c h1 h2=>name_of_addr x.apart (adp h1) (adp h2),λy c h1 e=>acx _ (eL▸e▸(Ul y c h1).2),free,λy c h1=>have h2:=(Ul y c h1).1;⟨h2,(adg.mp (JD (lookup_mem h2) rfl)).elim λj hj=>⟨j,va hj P.nd⟩⟩⟩ QK
 cases k with
 |«local»=>exact slot i y _ Pp λu hu=>Gp ((eK y).trans Ss) QP hu
 |cell=>refine(rm (n:=s.heap.objs.size+1) (acc:=[]) (lookup_mem Ss)).elim λc hc=> ?_;rw[<-eC]at hc;exact dI c _ hc (.inr (.inr ⟨y,hc⟩)) (x.cell y c hc) (slot i y (bindC env.kindOf (ps.zip full) λ_=>none) Pp λu hu=>Gq (λe=>nomatch(Ss.symm.trans ((eK y).symm.trans e))) QP hu)
 |free=>exact absurd rfl (free y _ Ss)
 |_=>rename_i h3;exact h3.elim (λh=>nomatch h) λh=>h.elim (λh=>nomatch h) λh=>nomatch h
theorem xr(O:C.Ok)(G:C.Gl)(Kc:fg C)(K:uX C d (af C.P d))(hF:∀f,f<C.P.fns.length->JE C f)
  {z:At C} {f:Nat} {args:List V} {xs:List Value} (Rm:rn A d) (hx:Vs z args xs) {γ:Type} {g:V->St->Option γ} {c:γ} {E:Value->Shared->Prop} {Q:Value->Shared->Prop}
  (e:ob (af C.P (d+1) f args z.σ) g=some c) (q:∀v u z',Af z z'->Vr z' v u->g v z'.σ=some c->Q u z'.s):
  codeAny (model C.prog C.W) A (.call (.ref (C.fa f)) ⟨xs,[]⟩) (λr s'=>match r with | .ok (.ret u)=>Q u s' | .ok _=>False | .error e=>E e s') z.s:=by
 refine cps λab kk=> ?_;refine cQ (mu.symm.trans e) λFn' Wg e=>cQ (mu.symm.trans e) λr hb e=>(hF f (abg.mp Wg).1).elim λo h=>h.elim λfd h=>h.elim λbody h=>h.elim λname h=>h.elim λtX H=> ?_;have P:=Sr.of H.plain;have eF:=aad (Wg.symm.trans H.fn);rw[eF]at hb e;have hc:=ao (av hb).1;have QQ:args.length<=fd.params.args.length:=of_decide_eq_true hc.1;have Wh:fd.params.args.length -args.length<=tX.length:=of_decide_eq_true hc.2;refine dw H.df λdv ES qJ Yi=> ?_;obtain QR:=z.R.Yh Yi;obtain Uo:xs.length=args.length:=bc.length hx;obtain QS:dv.length=tX.length:=bc.length QR;obtain JB:(fd.params.args.map (λx=>x.arg)).Nodup:=P.ps▸(lN P.nd).sublist (aeE ..);refine kk<|codeAny_call_function Rm.lim (z.R.keep _ _ H.at_) H.data P.co P.gen H.bd (H.code.keeps z.R.keep) (rk (dv:=dv) P.par ?_ (Uo▸QQ) JB ES ?_ ?_)
 ·exactλQ hq=>qJ.elim (λe=>e.1▸wpAny_pure (hq _ (e.2▸rfl))) λh=>IU h λT oT items n e1 e2 e3 e4=>e1▸wpAny_seqItems (z.R.keep _ _ e2) e3 (hq _ e4)
 ·simp only[Uo,QS];exact Nat.sub_le_iff_le_add'.mp Wh
 rw[P.Po];have Wi:bc C.W z.s.heap z.w (args++tX.drop (tX.length -(fd.params.args.length -args.length))) (xs++dv.drop (dv.length -(fd.params.args.length -xs.length))):=by simp only[Uo,QS];exact bc.append hx (bc.drop _ QR)
 obtain NG:(args++tX.drop (tX.length -(fd.params.args.length -args.length))).length=fd.params.args.length:=by simp only[aah,acy,adJ Wh,abY QQ]
 generalize xs++dv.drop (dv.length -(fd.params.args.length -xs.length))=full at*
 refine wpAny_newFunctionEnv_cells P.kind (λy hy=> ?_) λenv he cH x=> ?_
 ·obtain Wj:y.1∈fd.params.args.map (λx=>x.arg):=by
   exact(map_fst_zip ((bc.length Wi).trans (NG.trans (aae (f:=λa:Arg=>a.arg)).symm)).symm)▸aan (f:=(λx=>x.1)) hy
  rw[<-P.ps]at Wj;exact(JC (List.mem_of_mem_take Wj)).imp (gz P.nd) λh=>⟨gz P.nd h,(rm h).elim λc e=>e▸rfl⟩
 ·refine jH (Gs z.R P H.g H.b he x Wi NG (aad (av hb).2).symm) λkW cI fS Yj Fr QT=> ?_;obtain Su:interactive env=false:=by
   unfold interactive;exact fS.kind▸rfl
  refine⟨O.nolimit.keeps λb o q=>cI.rel.keep b o q,codeAny_func ?_⟩;refine NK (F:=⟨C,af C.P d,A.deeper env,env,fd.scope.names,cV 0 fd.scope.names,(cV 0 fd.scope.names).length⟩) ⟨O,G,Kc,K,Rm.deeper⟩ Fr Su (!C.T.Lz.contains name) body (At.of cI) r ⟨fS,Yj⟩ _ (λfl ab s=>g fl.val s) c _ _ (QD.symm.trans e) λfl Jw Wl gQ cJ tg fr e=> ?_
  ·have aa:=After.drop (h':=gQ.s.heap) (tk:=gQ.s.toks) z.R ((cI.mono (λab ai aD q=>q.elim)).trans cJ) QT QT (λb hb=>lL Fr tg.ok hb) (λb o ab q=>q);obtain S:fQ gQ.s.heap gQ.w gQ.s.heap (gQ.w.iJ (nW env)):=⟨aab _,λab ai=>rfl,λab h=>h,λab ai aD h=>h⟩;cases fl with
   |ret vv=>
    cases Wl with
    |ret u=>exact q vv u (At.of aa) aa (VR.aI S _ _ fr) e
    |_=>exact fr.elim
   |next=>
    cases Wl with
    |next=>exact q .none .none (At.of aa) aa rfl e
    |_=>exact fr.elim
theorem After.NN{own:Addr->Prop}{w:Wd}{σ:St}{s:Shared}(R:Rel C s.heap w σ){h':Heap}{tk:Tok}{b d:Addr}{o:O}(G:Grows s.heap h')(hd:s.heap.get? d=none)(hb:s.heap.get? b=none)(Yk:b≠d)
  (QU:∃q,h'.get? b=some q) (ho:iE C h' ((w.fV b d).fY b) w.n o):
  After C own w σ s ((w.fV b d).fY b) (σ.new o) {s with heap:=h',toks:=tk}:=by
 have S:fQ s.heap w h' ((w.fV b d).fY b):=⟨aaK _,λl hl=>w.uM b d hl,λab h=> .inl h,λx q ab e=>G.keep x q e⟩;obtain iQ:∀l,l<w.n->((w.fV b d).fY b).δ l=w.δ l:=λl hl=>w.zb b d hl;have en:=(w.kZ b d).2;have tr:∀l,l<w.n->σ.f l≠.dead->∃o,s.heap.get? (w.δ l)=some o:=λl hl qJ=>R.wM (R.n▸hl) qJ;exact⟨⟨_,_,rfl⟩,R.MX S rfl iQ (λab ai aD o e=>G.keep _ o e) (λl hl qJ e=>cj (tr l hl qJ) ((congrArg s.heap.get? (e.trans en)).trans hd))
   (λl hl qJ=>⟨λq=>q.elim (R.fr l (R.n▸hl) qJ).1 λz=>cj (tr l hl qJ) (z▸hb),(R.fr l (R.n▸hl) qJ).2⟩)
   (en.symm▸⟨λq=>q.elim (λq=>cj (R.jO _ q) hd) λz=>Yk z.symm,λq=>cj (R.ip _ q) hd⟩) (λa h=>h.elim (λh=>G.at (R.jO a h)) λe=>e▸QU) (λa h=>G.at (R.ip a h)) (λa h q=>h.elim (λh=>R.iF a h q) λe=>cj (R.ip _ q) (e▸hb)) ho,aaK _,λl hl=>⟨S.β l hl,iQ l hl⟩,λab h=> .inl h,λab h=>h,λx q e ab ai=>G.keep x q e,λl hl qJ=>qI (p:=λa=>s.heap.get? a=none) R.n (en.symm▸hd) hl qJ,λx q e=>⟨q,G.keep x q e⟩⟩
theorem Gu(O:C.Ok)(G:C.Gl)(Kc:fg C)(K:uX C d (af C.P d))(hF:∀f,f<C.P.fns.length->JE C f){z:At C}{c:Nat}{args:List V}{xs:List Value}(Rm:kX A (d+1))(hx:Vs z args xs):
  J A z (abr (.ref (C.ca c)) xs) (wI C.P (af C.P (d+1)) z.σ c args) Vr:=λab p cc E Q e q=>cQ (mu.symm.trans e) λf hf e=>by
 obtain X:C.K.In z.s.heap:=O.Pb.keeps z.R.keep;have M:=(Kc c (.inr (abg.mp hf).1)).makes f hf;have a:After C aj z.w z.σ z.s ((z.w.fV (z.s.heap.objs.size+1) z.s.heap.objs.size).fY (z.s.heap.objs.size+1)) (z.σ.new (.ins c [])) {z.s with heap:=(z.s.heap.push emptyDict).push (instObj (C.ca c) z.s.heap.objs.size)}:=by
  obtain QV:((z.s.heap.push emptyDict).push (instObj (C.ca c) z.s.heap.objs.size)).get? (z.s.heap.objs.size+1)=some (instObj (C.ca c) z.s.heap.objs.size):=by obtain this:=Heap.get?_push_size (o:=instObj (C.ca c) z.s.heap.objs.size) (z.s.heap.push emptyDict) rfl;rw[Heap.size_push]at this;exact this
  obtain Up:((z.s.heap.push emptyDict).push (instObj (C.ca c) z.s.heap.objs.size)).get? z.s.heap.objs.size=some emptyDict:=Heap.get?_push_of_some _ (Heap.get?_push_size _ rfl);obtain en:=z.w.kZ (z.s.heap.objs.size+1) z.s.heap.objs.size;exact After.NN (tk:=z.s.toks) z.R ((Grows.push _ _).trans (Grows.push _ _)) (dj _) (uK (aaK _)) (aeO _) ⟨_,QV⟩
   ⟨by show _=some (instObj (C.ca c) ((z.w.fV (z.s.heap.objs.size+1) z.s.heap.objs.size).δ z.w.n));rw[show((z.w.fV (z.s.heap.objs.size+1) z.s.heap.objs.size).fY (z.s.heap.objs.size+1)).β z.w.n=z.s.heap.objs.size+1 from en.1,en.2];exact QV,.inr en.1,jk #[] 0 ((congrArg _ en.2).trans Up) (by decide) rfl⟩
 obtain QW:Vs (At.of a) (.loc z.σ.n::args) (.ref (z.s.heap.objs.size+1)::xs):=bc.cons ⟨z.R.n▸aap _,z.R.n▸congrArg Value.ref (z.w.kZ (z.s.heap.objs.size+1) z.s.heap.objs.size).1.symm⟩ (Vs.go (z':=At.of a) hx a);refine wpAny_call (make_core (makes_of X M.1) (looks_findIn X M.2.1) (λself=>bind_fn X self M.2.2) (.inl rfl) (codeAny_mono (xr (E:=E) (z:=At.of a) (Q:=λu s'=>u= .none/\Q (.ref (z.s.heap.objs.size+1)) s') O G Kc K hF (Rm.make (C:=C.ca c) (vals:=xs)) QW (gb e) λv u gQ cJ y e=> ?_) λr s' t=> ?_))
 ·obtain e:=av (LU.symm.trans e);rw[<-A0 e.1]at y;obtain hl:z.σ.n<(At.of a).w.n:=z.R.n▸aap _;exact⟨y,q (.loc z.σ.n) _ gQ (Af.trans (b:=At.of a) a cJ) ⟨aak hl cJ.le,(congrArg Value.ref (((cJ.same _ hl).1).trans (z.R.n▸(z.w.kZ (z.s.heap.objs.size+1) z.s.heap.objs.size).1))).symm⟩ e.2⟩
 ·cases r with
  |error er=>exact t
  |ok fl=>
   cases fl with
   |ret u=>exact⟨t.1,t.2⟩
   |_=>exact t
theorem NO(O:C.Ok)(G:C.Gl)(Kc:fg C)(hF:∀f,f<C.P.fns.length->JE C f)(d:Nat):uX C d (af C.P d):=by
 induction d with
 |zero=>exact⟨λab ai aD bO fc ny wj e=>no e,λab ai aD bO fc ny wj e=>cQ (mu.symm.trans e) λab ai e=>no e⟩
 |succ d ih=>exact⟨λRm hx ab ai aD bO fc e q=>wpAny_call (xr O G Kc ih hF Rm.one hx e λv u z' a y e=>q v u z' a y e),λRm hx=>Gu O G Kc ih hF Rm hx⟩
end
end Own.Internal.Mp
end
section
namespace Own.Internal.Mp
open PySem PySem.W
noncomputable abbrev pw:=aeY
noncomputable def JG(l:List Stmt)(i:Nat):Stmt:=l.getD i (.Pass default)
def recAt(s:Stmt):Rec:=match Qd s with |some r=>r |none=>default
noncomputable def bodyOf(s:Stmt):List Stmt:=match s with | .ClassDef _ _ _ b _ _ _ _ _ _ _=>b |_=>[]
noncomputable def Uq:List Nat:=[47,48,55,56,57,58,59,60,61,62,64,65,66,67,69,70,71,72,73,76,78,83,84,85,86,89,98,99,106,107,108,109,111,112,113,114,115,116,117,118,122,123,124,125,126,127,128,130,131,138,142,143,144,145,146,147,148,149,150,151,152,153,154,155,156,157,158,159,160,161,162,163,164]
noncomputable def Ur:List (Nat×Nat):=[(46,0),(46,2),(110,0),(110,1),(139,0),(139,1),(139,3),(139,4),(139,5),(136,1)]
noncomputable def Us:List Nat:=[79,80]
def ia:List Rec:=Uq.map (λi=>recAt (JG pw.main.body i))++((Ur.map λp=>recAt (JG (bodyOf (JG pw.main.body p.1)) p.2))++Us.map (λi=>recAt (JG pw.main.body i)))
noncomputable def Ma:List Nat:=[154,162,214,221,228,235,242,249,256,261,275,282,287,294,304,309,316,323,330,347,352,381,388,395,402,410,425,432,479,486,493,500,535,542,549,556,563,570,577,584,610,617,624,631,638,645,652,659,666,853,915,922,929,934,939,944,951,958,965,970,975,982,989,996,1003,1008,1015,1022,1029,1034,1039,1046,1051,126,140,514,521,867,874,888,895,902,834,359,364]
noncomputable def Yl:List Nat:=[143,524,905]
noncomputable def Wm:List Nat:=[1,83,84,85,86,87,88,89,90,91,92,93,94,95,96,97,98,99,100,101,102,103,104,105,106,107,108,109,110,111,112,125,126,139,140,142,143,153,154,155,161,162,207,213,214,220,221,227,228,234,235,241,242,248,249,255,256,260,261,274,275,281,282,286,287,293,294,303,304,308,309,315,316,322,323,329,330,346,347,351,352,380,381,387,388,394,395,401,402,403,409,410,424,425,431,432,478,479,485,486,492,493,499,500,513,514,520,521,523,524,534,535,541,542,548,549,555,556,562,563,569,570,576,577,583,584,609,610,616,617,623,624,630,631,637,638,644,645,651,652,658,659,665,666,808,809,833,834,843,844,852,853,866,867,873,874,887,888,894,895,901,902,904,905,908,914,915,921,922,928,929,933,934,938,939,943,944,950,951,957,958,964,965,969,970,974,975,981,982,988,989,995,996,1002,1003,1007,1008,1014,1015,1021,1022,1028,1029,1033,1034,1038,1039,1045,1046,1050,1051,358,359,363,364]
noncomputable def iT:List Nat:=[73,75,77]
noncomputable def meths:List (List (Nat×Nat)):=[[(0,74)],[(1,76)],[(2,78),(3,79),(4,80),(5,81),(6,82)]]
noncomputable def atts:List (List Nat):=[[0,1,2,3,4,5,6,7,8,9],[14,15,16,17,18,19,20,21],[10,11,12,13]]
noncomputable def glob:List (Str×GV):=[(("_law_NAMES" :Str),GV.val (.tup [(.str [97]),(.str [98]),(.str [49]),(.str [69,46,65]),(.str [70,46,65]),(.str [69,46,66]),(.str [126,97]),(.str [126,49]),(.str [126,69,46,65]),(.str [102,97,108,115,101]),(.str [116,114,117,101]),(.str [126,102,97,108,115,101]),(.str [126,116,114,117,101]),(.str [117,110,100,101,102,105,110,101,100]),(.str [110,117,108,108]),(.str [118,111,105,100]),(.str [115,116,114,105,110,103]),(.str [110,117,109,98,101,114]),(.str [111]),(.str [126,111])])),(("MOST_SPENT" :Str),GV.val (.int 4000)),(("TOLD_LATER" :Str),GV.val (.int 3)),(("TOLD_BOTH" :Str),GV.val (.int 2)),(("TOLD_YES" :Str),GV.val (.int 1)),(("TOLD_NO" :Str),GV.val (.int 0)),(("OPEN_KINDS" :Str),GV.val (.tup [(.int 10),(.int 14),(.int 15),(.int 16),(.int 17),(.int 19)])),(("KID_SPANS" :Str),GV.val (.pG [(.int 11),(.int 14),(.int 15),(.int 16),(.int 17)] [(.tup [(.int 1),(.int 2)]),(.tup [(.int 1),(.int 2)]),(.tup [(.int 1),(.int 3)]),(.tup [(.int 1),(.int 5)]),(.tup [(.int 2),(.int 5)])])),(("MARKED_ROWS" :Str),GV.val (.tup [(.int 2),(.int 3),(.int 4),(.int 5),(.int 8)])),(("FIRST_ROWS" :Str),GV.val (.tup [(.tup [(.int 1),(.str [97,110,121])]),(.tup [(.int 1),(.str [117,110,107,110,111,119,110])]),(.tup [(.int 1),(.str [110,101,118,101,114])]),(.tup [(.int 1),(.str [118,111,105,100])]),(.tup [(.int 1),(.str [117,110,100,101,102,105,110,101,100])]),(.tup [(.int 1),(.str [110,117,108,108])]),(.tup [(.int 1),(.str [115,116,114,105,110,103])]),(.tup [(.int 1),(.str [110,117,109,98,101,114])]),(.tup [(.int 2),(.int 0),(.int 0)]),(.tup [(.int 2),(.int 1),(.int 0)]),(.tup [(.int 1),(.str [111,98,106,101,99,116])]),(.tup [(.int 8),(.tup []),(.tup []),(.tup []),(.tup []),(.tup []),(.int 0)]),(.tup [(.int 6),(.tup [(.int 8),(.int 9)])]),(.tup [(.int 1),(.str [101,114,114,111,114])]),(.tup [(.int 2),(.int 0),(.int 1)]),(.tup [(.int 2),(.int 1),(.int 1)])])),(("MAX_UNION" :Str),GV.val (.int 400)),(("D_ALIAS" :Str),GV.val (.int 4)),(("E_SPREAD" :Str),GV.val (.int 3)),(("E_REST" :Str),GV.val (.int 2)),(("E_OPT" :Str),GV.val (.int 1)),(("E_NEED" :Str),GV.val (.int 0)),(("FRESH_T" :Str),GV.val (.int 15)),(("FRESH_F" :Str),GV.val (.int 14)),(("ERR" :Str),GV.val (.int 13)),(("TRUE_T" :Str),GV.val (.int 9)),(("FALSE_T" :Str),GV.val (.int 8)),(("NUMBER" :Str),GV.val (.int 7)),(("STRING" :Str),GV.val (.int 6)),(("UNDEF" :Str),GV.val (.int 4)),(("VOID" :Str),GV.val (.int 3)),(("NEVER" :Str),GV.val (.int 2)),(("UNKNOWN" :Str),GV.val (.int 1)),(("ANY" :Str),GV.val (.int 0)),(("Y_ALIAS" :Str),GV.val (.int 19)),(("Y_TPL" :Str),GV.val (.int 18)),(("Y_MAPPED" :Str),GV.val (.int 17)),(("Y_COND" :Str),GV.val (.int 16)),(("Y_INDEX" :Str),GV.val (.int 15)),(("Y_SIG" :Str),GV.val (.int 13)),(("Y_TUPLE" :Str),GV.val (.int 12)),(("Y_ARRAY" :Str),GV.val (.int 11)),(("Y_PARAM" :Str),GV.val (.int 10)),(("Y_REF" :Str),GV.val (.int 9)),(("Y_OBJ" :Str),GV.val (.int 8)),(("Y_INTER" :Str),GV.val (.int 7)),(("Y_UNION" :Str),GV.val (.int 6)),(("Y_ENUM" :Str),GV.val (.int 5)),(("Y_NUM" :Str),GV.val (.int 4)),(("Y_STR" :Str),GV.val (.int 3)),(("Y_BOOL" :Str),GV.val (.int 2)),(("Y_KEY" :Str),GV.val (.int 1)),(("TypeTable" :Str),GV.cls 0),(("kind_of" :Str),GV.fn 0),(("num_type" :Str),GV.fn 1),(("new_param" :Str),GV.fn 2),(("parts_of" :Str),GV.fn 3),(("whole_of_row" :Str),GV.fn 4),(("regular_twin" :Str),GV.fn 5),(("join_bools" :Str),GV.fn 6),(("stays_beside" :Str),GV.fn 7),(("top_of" :Str),GV.fn 8),(("union" :Str),GV.fn 9),(("is_fresh" :Str),GV.fn 10),(("regular_one" :Str),GV.fn 11),(("regular" :Str),GV.fn 12),(("index_kids" :Str),GV.fn 13),(("object_kids" :Str),GV.fn 14),(("row_kids" :Str),GV.fn 15),(("row_binds" :Str),GV.fn 16),(("inner_kids" :Str),GV.fn 17),(("reached" :Str),GV.fn 18),(("free_params" :Str),GV.fn 19),(("put_each" :Str),GV.fn 20),(("without_own" :Str),GV.fn 21),(("put_late" :Str),GV.fn 22),(("plain_put" :Str),GV.fn 23),(("plain_laid" :Str),GV.fn 24),(("is_open" :Str),GV.fn 25),(("bounds_ask" :Str),GV.fn 26),(("kindcond_joined" :Str),GV.fn 27),(("is_wrapped" :Str),GV.fn 28),(("side_open" :Str),GV.fn 29),(("judge" :Str),GV.fn 30),(("lay_cond" :Str),GV.fn 31),(("CondStep" :Str),GV.cls 1),(("check_of" :Str),GV.fn 32),(("laid_step" :Str),GV.fn 33),(("wait" :Str),GV.fn 34),(("part_step" :Str),GV.fn 35),(("spread_check" :Str),GV.fn 36),(("turn" :Str),GV.fn 37),(("tell_branch" :Str),GV.fn 38),(("take_branch" :Str),GV.fn 39),(("through_aliases" :Str),GV.fn 40),(("go_on" :Str),GV.fn 41),(("finish" :Str),GV.fn 42),(("run_step" :Str),GV.fn 43),(("side_branch" :Str),GV.fn 44),(("cond_under" :Str),GV.fn 45),(("cond_kind" :Str),GV.fn 46),(("value_holds" :Str),GV.fn 47),(("units_fit" :Str),GV.fn 48),(("case_kind" :Str),GV.fn 49),(("UnitHost" :Str),GV.cls 2),(("_law_take" :Str),GV.fn 50),(("_law_bare" :Str),GV.fn 51),(("_law_rooms" :Str),GV.fn 52),(("_law_less" :Str),GV.fn 53),(("_law_fits" :Str),GV.fn 54),(("_law_open" :Str),GV.fn 55),(("_law_text" :Str),GV.fn 56),(("_law_side" :Str),GV.fn 57),(("_law_answer" :Str),GV.fn 58),(("_law_way" :Str),GV.fn 59),(("_law_kinds" :Str),GV.fn 60),(("_law_asked" :Str),GV.fn 61),(("_law_question" :Str),GV.fn 62),(("_law_row" :Str),GV.fn 63),(("_law_at" :Str),GV.fn 64),(("_law_kind" :Str),GV.fn 65),(("_law_laid" :Str),GV.fn 66),(("_law_ask" :Str),GV.fn 67),(("_law_table" :Str),GV.fn 68),(("_law_said" :Str),GV.fn 69),(("_law_name" :Str),GV.fn 70),(("_law_right" :Str),GV.fn 71),(("law" :Str),GV.fn 72),(("Y_KEYOF" :Str),GV.val (.int 14)),(("put_cell" :Str),GV.fn 83),(("put_shape" :Str),GV.fn 84)]
noncomputable def T:CT:=⟨glob,["rows", "index", "decls", "bounds", "defaults", "names", "origins", "renamed", "shaping", "putting", "tab", "deep", "most_rounds", "most_deep", "host", "row", "mapping", "rounds", "spent", "extra", "part", "done"],["put", "further", "force", "put_cond", "put_in", "lay_row", "fits"],["_law_table"],[9,53]⟩
noncomputable def tY(i:Nat):List V:=if i==1 then[.int 0]else if i==2 then[.int (-1),.int (-1)]else[]
def P:Prog:=⟨ia.zipIdx.map λr=>Qc T r.1.name r.1.params (tY r.2) r.1.body r.1.scope,iT,meths,atts⟩
end Own.Internal.Mp
end
section
namespace Own.Internal.Mp
open PySem PySem.Spec PySem.Calls PyProof.Rows PySem.W
noncomputable def Wn:Value->Option String | .type n=>some n |_=>none
noncomputable def DI:Value->Option Addr | .ref a=>some a |_=>none
noncomputable def QX:Value->Option Str | .str s _=>some s |_=>none
noncomputable def NP:Data->Option (Array Value) | .seq a _=>some a |_=>none
noncomputable def QY:Data->Option (Array DictEntry) | .dict a _=>some a |_=>none
noncomputable def NR:Data->Option FuncData | .func f=>some f |_=>none
noncomputable def QZ:Data->Option (Array Value) | .fields a=>some a |_=>none
theorem Gv{v:Value}{n:String}(h:Wn v=some n):v= .type n:=by cases v<;>first |exact no h |exact congrArg _ (aad h)
theorem nY{v:Value}{a:Addr}(h:DI v=some a):v= .ref a:=by cases v<;>first |exact no h |exact congrArg _ (aad h)
theorem DJ{v:Value}{s:Str}(h:QX v=some s):∃t,v= .str s t:=by cases v<;>first |exact no h |exact⟨_,congrArg (Value.str · _) (aad h)⟩
theorem tZ{d:Data}{a:Array Value}(h:NP d=some a):∃n,d= .seq a n:=by cases d<;>first |exact no h |exact⟨_,congrArg (Data.seq · _) (aad h)⟩
theorem DK{d:Data}{a:Array DictEntry}(h:QY d=some a):∃n,d= .dict a n:=by cases d<;>first |exact no h |exact⟨_,congrArg (Data.dict · _) (aad h)⟩
theorem DL{d:Data}{f:FuncData}(h:NR d=some f):d= .func f:=by cases d<;>first |exact no h |exact congrArg _ (aad h)
theorem DM{d:Data}{a:Array Value}(h:QZ d=some a):d= .fields a:=by cases d<;>first |exact no h |exact congrArg _ (aad h)
def DN(K:Frag)(a:Addr):Option (Arguments×FuncBody×Scope):=om (K.lookup a) λo=>om (NR o.data) λfd=>some (fd.params,fd.body,fd.scope)
noncomputable def iK(r:Rec):Option (Arguments×FuncBody×Scope):=some (r.params,.stmts r.body,r.scope)
def BG(n:String)(o:Obj):Bool:=bq (Wn o.cls) (λc=>c==n) &&o.dict.isNone &&o.slots.isEmpty
theorem Gw{n:String}{o:Obj}{d:Data}(h:BG n o=true)(e:o.data=d):o={cls:= .type n,dict:=none,data:=d,slots:= #[]}:=by obtain a:=ao h;obtain b:=ao a.1;exact oY b.1 λc hc q=>by rw[show o=⟨o.cls,o.dict,o.data,o.slots⟩from rfl,Gv hc,abh q,aaZ.mp b.2,Array.isEmpty_iff.mp a.2,e]
noncomputable def intHash:V->Int | .int i=>hashInt i |_=>0
mutual
noncomputable def t9(K:Frag):V->Value->Bool
 | .none,u=>decide (u= .none)
 | .bool a,u=>decide (u= .bool a)
 | .int i,u=>Value.isInt i u
 | .str s,u=>decide (s.length<1000) &&Value.isStrOf (toStr s) u
 | .tup vs,u=>bq (DI u) λa=>bq (K.lookup a) λo=>BG "tuple" o &&bq (NP o.data) λitems=>decide (vs.length<1000) &&lO K vs items.toList
 | .pG ks vs,u=>bq (DI u) λa=>bq (K.lookup a) λo=>BG "dict" o &&bq (QY o.data) λes=>decide (a≠sysModules) &&(decide (ks.length<1000) &&(lO K ks (es.toList.map (λx=>x.key)) &&(lO K vs (es.toList.map (λx=>x.val)) &&
    (decide (es.toList.map (λx=>x.hash)=ks.map intHash) &&(ks.all V.isInt &&decide ks.Nodup)))))
 |ab,ai=>false
noncomputable def lO(K:Frag):List V->List Value->Bool
 |[],us=>us.isEmpty
 |v::vs,us=>bq us.head? λx=>t9 K v x &&lO K vs us.tail
end
theorem zI(W:World){ks:List V}(h:ks.all V.isInt=true):ks.map intHash=bE W ks:=by
 induction ks with
 |nil=>rfl
 |cons k ks ih=>
  obtain a:=ao h;cases k with
  |int i=>exact congrArg _ (ih a.2)
  |_=>exact nb a.1
theorem zJ{n:Nat}(h:n<1000):n<big:=aaQ h (by decide)
section
variable {W:World}{K:Frag}{h:Heap}{w:Wd}
theorem Gx(X:K.In h)(B:∀b o,h.get? b=some o->w.φ b){u:Value}{n:String}{p:Addr->Obj->Bool}{Q:Prop}(e:(bq (DI u) λa=>bq (K.lookup a) λo=>BG n o &&p a o)=true)
  (k:∀a o,u= .ref a->w.φ a->h.get? a=some o->(∀d,o.data=d->o={cls:= .type n,dict:=none,data:=d,slots:= #[]})->p a o=true->Q):Q:=
 oY e λa ha e=>oY e λo ho e=>k a o (nY ha) (B _ _ (X _ _ ho)) (X _ _ ho) (λab=>Gw (ao e).1) (ao e).2
theorem vc{vs:List V}(ih:∀v∈vs,∀u,t9 K v u=true->VR W h w v u):∀{us:List Value},lO K vs us=true->bc W h w vs us:=by
 induction vs with
 |nil=>exactλe=>abJ.mp e
 |cons v vs go=>
  intro us e;exact oY e λx hx e=>by
   cases us with
   |nil=>exact no hx
   |cons y us=>exact bc.cons (aad hx▸ih v aac _ (ao e).1) (go (λv hv=>ih v (aaf _ hv)) (ao e).2)
theorem Mb(X:K.In h)(B:∀b o,h.get? b=some o->w.φ b)(v:V):∀u:Value,t9 K v u=true->VR W h w v u:=
 V.rec (motive_1:=λv=>∀u:Value,t9 K v u=true->VR W h w v u) (motive_2:=λvs=>∀v∈vs,∀u:Value,t9 K v u=true->VR W h w v u)
  (λu e=>of_decide_eq_true (p:=u= .none) e) (λb u e=>of_decide_eq_true (p:=u= .bool b) e) (λab ai e=>Value.isInt_shape e) (λab ai e=>⟨zJ (of_decide_eq_true (ao e).1),Value.isStrOf_shape (ao e).2⟩)
  (λvs ih u e=>Gx X B e λa o eu f ho ob e=>oY e λitems hi e=>(tZ hi).elim λn ed=>jl a items n eu f (ho.trans (congrArg some (ob _ ed))) (zJ (of_decide_eq_true (ao e).1)) (vc ih (ao e).2))
  (λab ai aD e=>nb e)
  (λks vs i j u e=>Gx X B e λa o eu f ho ob e=>oY e λes hi e=>(DK hi).elim λn ed=>by obtain e1:=ao e;obtain e2:=ao e1.2;obtain e3:=ao e2.2;obtain e4:=ao e3.2;obtain e5:=ao e4.2;obtain e6:=ao e5.2;exact jl a es n eu f (ho.trans (congrArg some (ob _ ed))) (adY (of_decide_eq_true e1.1) (zJ (of_decide_eq_true e2.1))) (adY (vc i e3.1) (adY (vc j e4.1) (adY ((of_decide_eq_true e5.1).trans (zI W e6.1)) (of_decide_eq_true e6.2)))))
  (λab ai e=>nb e) (λab ai e=>nb e) (aar _) (λv vs a b x hx=>(aam.mp hx).elim (λe=>e▸a) (b x)) v
theorem NS(X:K.In h)(B:∀b o,h.get? b=some o->w.φ b)(vs:List V)(us:List Value)(e:lO K vs us=true):bc W h w vs us:=vc (λv ab=>Mb X B v) e
end
def fa(i:Nat):Addr:=Ma.getD i 0
def ca(i:Nat):Addr:=Yl.getD i 0
noncomputable def xu(x:Str):Bool:= !(x==("__debug__" :Str))
def Q0(K:Frag)(u:Option Value):GV->Bool
 | .fn i=>decide (u=some (.ref (fa i))) &&keepIn K (.ref (fa i))
 | .cls c=>decide (u=some (.ref (ca c))) &&keepIn K (.ref (ca c))
 | .val v=>bq u (t9 K v)
def BH(K:Frag)(mg:Str->Option Value)(p:Str×GV):Bool:=xu p.1 &&Q0 K (mg p.1) p.2
noncomputable def vd:List Str:=["len", "sorted", "tuple", "dict", "any", "range", "isinstance", "str"]
def xv(a:Nat):Str:=T.attrs.getD a (toStr [])
def BI(k:Nat):Str:=T.meths.getD k (toStr [])
def Q1(K:Frag)(f:Nat):Bool:=decide (typeIn K (.ref (fa f))=some (.type "function"))
def NT(K:Frag)(c a:Nat):Bool:=bq (findIn K (.ref (ca c)) (xv a)) (noGet K) &&decide (takerIn K (ca c) (xv a)=some none)
def BJ(K:Frag)(c:Nat)(p:Nat×Nat):Bool:=decide (findIn K (.ref (ca c)) (BI p.1)=some (some (.ref (fa p.2)))) &&(Q1 K p.2 &&keepIn K (.ref (fa p.2)))
def JH(K:Frag)(c:Nat):Bool:=makesIn K (ca c) &&(decide (findIn K (.ref (ca c)) "__init__" =some (some (.ref (fa (iT.getD c 0))))) &&Q1 K (iT.getD c 0))
def Gy(K:Frag)(c:Nat):Bool:=decide (findIn K (.ref (ca c)) "__getattribute__" =some (some (.builtin "object.__getattribute__"))) &&(decide (findIn K (.ref (ca c)) "__getattr__" =some none) &&
 (hasDictIn K (ca c) &&(plainOver K (ca c) &&(decide (findIn K (.ref (ca c)) "__setattr__" =some (some (.builtin "object.__setattr__"))) &&
 ((atts.getD c []).all (NT K c) &&((meths.getD c []).all (BJ K c) &&JH K c))))))
def BK(K:Frag)(cd:Value)(q:Str):Bool:=bq (DI cd) λc=>bq (K.lookup c) λo=>bq (QZ o.data) λvs=>bq vs[1]? λx=>bq (QX x) λs=>decide (s=q)
def Mc(K:Frag)(d:Value)(tX:List V)(n:Nat):Bool:=(decide (d= .none) &&tX.isEmpty) ||bq (DI d) λt=>bq (K.lookup t) λo=>bq (NP o.data) λitems=>decide (items.toList.length<=n) &&lO K tX items.toList
def Md(K:Frag)(i:Nat):Bool:=bq (K.lookup (fa i)) λo=>bq (NR o.data) λfd=>vb fd &&(decide (fd.globals=mainGlobals) &&(decide (fd.builtins=builtinsNs) &&(BK K fd.code fd.qualname &&Mc K fd.defaults (tY i) fd.params.args.length)))
def o5(K:Frag)(mg:Str->Option Value):Bool:=glob.all (BH K mg) &&(vd.all (λx=>decide (mg x=none)) &&([0,1,2].all (Gy K) &&((aba 85).all (Md K) &&(K.lookup sysModules).isSome)))
def NU:Bool:=[0,1,2].all λc=>(atts.getD c []).all λa=>(atts.getD c []).all (λb=>a==b || !(xv a==xv b)) &&(meths.getD c []).all λp=> !(xv a==BI p.1)
theorem DO:NU=true:=by decide+kernel
abbrev DP(prog:Program)(W:World)(K:Frag)(h:Heap)(mg mb:Str->Option Value):Cx:=⟨prog,W,K,h,mg,mb,P,T,fa,ca⟩
section
variable {prog:Program}{W:World}{K:Frag}{h:Heap}{mg mb:Str->Option Value}
structure NV(K:Frag)(mg:Str->Option Value):Prop where
 glob:∀p∈glob,BH K mg p=true
 bi:∀x∈vd,mg x=none
 cls:∀c∈[0,1,2],Gy K c=true
 fn:∀i,i<85->Md K i=true
 mods:(K.lookup sysModules).isSome=true
theorem cR(J:o5 K mg=true):NV K mg:=
 have a:=ao J;have b:=ao a.2;have c:=ao b.2;have d:=ao c.2
 ⟨aas.mp a.1,λx hx=>of_decide_eq_true (aas.mp b.1 x hx),aas.mp c.1,λi hi=>aas.mp d.1 i (acd.mpr hi),d.2⟩
theorem od{x:Str}(e:xu x=true):(x==("__debug__" :Str))=false:=abC _ |>.mp e
theorem zK{x b:Nat}{l:List (Nat×Nat)}(h:l.lookup x=some b):(x,b)∈l:=by
 induction l with
 |nil=>exact no h
 |cons p r ih=>
  rw[acW]at h;cases q:x==p.1 with
  |true=>rw[q]at h;exact abh q▸aad h▸aac
  |false=>rw[q]at h;exact aaf _ (ih h)
structure MethP(K:Frag)(p:Nat×Nat)(c:Nat):Prop where
 find:findIn K (.ref (ca c)) (BI p.1)=some (some (.ref (fa p.2)))
 ty:typeIn K (.ref (fa p.2))=some (.type "function")
 keep:keepIn K (.ref (fa p.2))=true
theorem ro{c:Nat}{p:Nat×Nat}(e:BJ K c p=true):MethP K p c:=have a:=ao e;⟨of_decide_eq_true a.1,of_decide_eq_true (ao a.2).1,(ao a.2).2⟩
theorem zL{c:Nat}(h:c<3):c∈[0,1,2]:=acd (m:=c) (n:=3) |>.mpr h
theorem xw{c k f:Nat}(e:P.hH c k=some f):c<3:=by
 match c,e with
 |0,ab=>decide
 |1,ab=>decide
 |2,ab=>decide
 |c+3,e=>exact no e
theorem NW(X:K.In h)(J:o5 K mg=true)(g:h.Ns mainGlobals mg)(b:h.Ns builtinsNs mb)(nl:h.NoLimit):(DP prog W K h mg mb).Ok where
 Pb:=X
 g:=g
 b:=b
 nolimit:=nl
 mods:=(adW.mp (cR J).mods).elim λo ho=>⟨o,X _ _ ho⟩
 glob:=λx v e=>
  have t:=ao ((cR J).glob _ (lookup_mem e))
  ⟨od t.1,oY t.2 λu hu c=>⟨u,hu,λw B=>Mb X B v u c⟩⟩
theorem Gz(J:o5 K mg=true)(B:∀x:Str,x≠ "__name__" ->mb x=bootBuiltins x):(DP prog W K h mg mb).Gl where
 fn:=λx i e=>have t:=ao ((cR J).glob _ (lookup_mem e));have u:=ao t.2;⟨od t.1,of_decide_eq_true u.1,u.2⟩
 cls:=λx i e=>have t:=ao ((cR J).glob _ (lookup_mem e));have u:=ao t.2;⟨od t.1,of_decide_eq_true u.1,u.2⟩
 bi:=λx b ab e=>by
  have go:∀(s:Str) (b':Bi),s∈vd->bootBuiltins s=some (Dd b')->s≠ "__name__" ->(x==s)=true->b'=b->mg x=none/\mb x=some (Dd b):=λs b' hm hv sZ hx hb=>by rw[abh hx,<-hb];exact⟨(cR J).bi _ hm,(B _ sZ).trans hv⟩
  exact cM e (go _ _ (by decide) (by decide+kernel) (by decide)) λe=>cM e (go _ _ (by decide) (by decide+kernel) (by decide)) λe=>cM e (go _ _ (by decide) (by decide+kernel) (by decide)) λe=>
   cM e (go _ _ (by decide) (by decide+kernel) (by decide)) λe=>cM e (go _ _ (by decide) (by decide+kernel) (by decide)) λe=>cM e (go _ _ (by decide) (by decide+kernel) (by decide)) λe=>no e
 VP:=λab=>⟨(cR J).bi _ (by decide),(B _ (by decide)).trans (by decide+kernel)⟩
 str:=λab=>⟨(cR J).bi _ (by decide),(B _ (by decide)).trans (by decide+kernel)⟩
 w9:=λc k f e=>
  (ro (aas.mp (ao (ao (ao (ao (ao (ao (ao ((cR J).cls c (zL (xw e)))).2).2).2).2).2).2).1 _ (zK e))).keep
 Bt:=λc k f e=> .inr (xw e)
theorem JI(J:o5 K mg=true):fg (DP prog W K h mg mb):=λc hc=>by
 have L5:c<3:=hc.elim (λhc=>by
  match c,hc with
  |0,ab=>decide
  |1,ab=>decide
  |2,ab=>decide
  |c+3,hc=>exact absurd rfl hc) id
 obtain a:=ao ((cR J).cls c (zL L5));obtain b:=ao a.2;obtain d:=ao b.2;obtain e:=ao d.2;obtain f:=ao e.2;have g:=ao f.2;obtain kk:=ao g.2;obtain i:=ao kk.2;obtain j:=ao i.2;have hm:∀{a},P.fX c a=true->a∈atts.getD c []:=λha=>List.contains_iff_mem.mp ha;have ht:∀{a},P.fX c a=true->(∀b∈atts.getD c [],(a==b || !(xv a==xv b))=true)/\∀p∈meths.getD c [],(!(xv a==BI p.1))=true:=λha=>
  have t:=ao (aas.mp (aas.mp DO c (zL L5)) _ (hm ha))
  ⟨aas.mp t.1,aas.mp t.2⟩
 refine⟨of_decide_eq_true a.1,of_decide_eq_true b.1,d.1,e.1,of_decide_eq_true f.1,λa ha=> ?_,λa b ha hb q=> ?_,λk f e=> ?_,λf e=> ?_⟩
 ·obtain t:=ao (aas.mp g.1 a (hm ha));exact⟨oY t.1 λattr q n=>⟨attr,q,n⟩,of_decide_eq_true t.2⟩
 ·exact((abd ..).mp ((ht ha).1 b (hm hb))).elim abh λz=>absurd (beq_iff_eq.mpr q) (abB.mp (abC _ |>.mp z))
 ·obtain m:=ro (aas.mp kk.1 _ (zK e));exact⟨m.find,m.ty,λa ha q=>absurd (beq_iff_eq.mpr q) (abB.mp (abC _ |>.mp ((ht ha).2 _ (zK e))))⟩
 ·obtain e:iT[c]? =some f:=e;have q:iT.getD c 0=f:=by rw[aaR,e];rfl
  rw[q]at j;exact⟨i.1,of_decide_eq_true j.1,of_decide_eq_true j.2⟩
theorem GA:ia.length=85:=by simp only[ia,aah,aah,aae,aae,aae];rfl
theorem Mf:P.fns=ia.zipIdx.map λr=>Qc T r.1.name r.1.params (tY r.2) r.1.body r.1.scope:=rfl
theorem NX{f:Nat}{r:Rec}(hr:ia[f]? =some r):P.fns[f]? =some (Qc T r.name r.params (tY f) r.body r.scope):=by simp only[Mf,abI,List.getElem?_zipIdx,hr];exact congrArg (λn=>some (Qc T r.name r.params (tY n) r.body r.scope)) (aby f)
theorem JJ(X:K.In h){cd:Value}{q:Str}(e:BK K cd q=true):h.CodeRec cd q:=
 oY e λc hc e=>oY e λo ho e=>oY e λvs hv e=>oY e λx hx e=>oY e λs hs e=>(DJ hs).elim λt ex=>⟨c,o,vs,t,nY hc,X _ _ ho,DM hv,hx.trans (congrArg some (ex.trans (congrArg (Value.str · t) (of_decide_eq_true e))))⟩
theorem Q2{C:Cx}(hC:C.h₀=h)(X:K.In h){fd:FuncData}{tX:List V}(e:Mc K fd.defaults tX fd.params.args.length=true):L8 C fd tX:=by
 subst hC;refine((abd ..).mp e).elim (λe=> ?_) λe=>oY e λt ht e=>oY e λo ho e=>oY e λitems hi e=>(tZ hi).elim λn ed=> ?_
 ·refine iD [] (aaS _) (.inl ⟨of_decide_eq_true (ao e).1,rfl⟩) λw B=> ?_;rw[abJ.mp (ao e).2];exact bc.nil
 ·exact iD items.toList (of_decide_eq_true (ao e).1) (.inr ⟨t,o,items,n,nY ht,X _ _ ho,ed,rfl⟩) λw B=>NS X B _ _ (ao e).2
theorem NY{K':Frag}(X:K.In h)(X':K'.In h)(J:o5 K mg=true)(D:Ma.map (DN K')=ia.map iK):∀f,f<(DP prog W K h mg mb).P.fns.length->JE (DP prog W K h mg mb) f:=λf hf=>by
 have hf:=abP hf (by rw[Mf,aae,aeB]);obtain hr:=aaP hf;generalize ia[f]=r at hr;obtain Wo:f<85:=GA▸hf;obtain Ym:Ma[f]? =some (fa f):=by have:f<Ma.length:=Wo;simp only[fa,aaR,aaP this];rfl
 obtain hd:DN K' (fa f)=iK r:=by obtain t:=congrArg (λl=>l[f]?) D;obtain t:(Ma.map (DN K'))[f]? =(ia.map iK)[f]? :=t;simp only[abI,abI,Ym,hr]at t;exact aad t
 refine oY ((cR J).fn f Wo) λo ho e=>oY e λfd Wq e=>cQ hd λo' mj hd=>cQ hd λfd' Q3 hd=> ?_;rw[<-(aad ((X _ _ ho).symm.trans (X' _ _ mj)))]at Q3;rw[<-aad (Wq.symm.trans Q3)]at hd;obtain t:=abG (aad hd);obtain t2:=abG t.2;obtain a:=ao e;obtain b:=ao a.2;obtain c:=ao b.2;obtain d:=ao c.2;exact⟨o,fd,r.body,r.name,tY f,X _ _ ho,DL Wq,t2.1,a.1,of_decide_eq_true b.1,of_decide_eq_true c.1,JJ X d.1,by rw[t.1,t2.2];exact NX hr,Q2 rfl X d.2⟩
end
end Own.Internal.Mp
end
section
open PySem PySem.W PyProof.Rows PySem.Calls PySem.Spec
set_option maxHeartbeats 0
namespace Own.Internal.Mp
noncomputable abbrev rl:OpenLaw:=abX
theorem s1:sreFenced pw.main=true:=by rw[Fast.te11788848310118352699];kernel_rfl
theorem s2:((moduleNames pw.main.body).isEmpty ||lookedIntoSs (moduleNames pw.main.body) pw.main.body)=true:=by kernel_rfl
theorem s3:namesResolve pw=true:=by rw[Fast.te8377067652309620493];kernel_rfl
theorem s4:pw.boundNames.all (λn=> !worldNames.contains n)=true:=by kernel_rfl
theorem s5:noRoadLSs {strict:= !(importedModules pw.main.body).all cThrough.contains,foot:=none,bare:=(["vars", "dir", "locals"]:List Str).filter (readsOut pw pw.main.body)} pw.main.body=true:=by rw[Fast.te8326940854005059898,Fast.te13343964577679436407];kernel_rfl
theorem s6:namesMeet pw pw.main.body (λab n=>attrL n)=true:=by rw[Fast.te17119622794617984870,Fast.te17868728402115742887];kernel_rfl
theorem s7:rl.row.partSaid=true:=by
 unfold OpenRow.partSaid looksOpen;show((sreFenced pw.main &&((moduleNames pw.main.body).isEmpty ||lookedIntoSs (moduleNames pw.main.body) pw.main.body) &&namesResolve pw &&pw.boundNames.all (λn=> !worldNames.contains n) &&
  noRoadLSs {strict:= !(importedModules pw.main.body).all cThrough.contains,foot:=none,bare:=(["vars", "dir", "locals"]:List Str).filter (readsOut pw pw.main.body)} pw.main.body &&namesMeet pw pw.main.body (λab n=>attrL n)) &&_ &&_ &&_ &&_ &&_ &&_ &&_ &&_ &&_ &&_ &&_ &&_ &&_)=true
 rw[s1,s2,s3,s4,s5,s6];kernel_rfl
theorem s8:rl.row.wellSaid=true:=by unfold OpenRow.wellSaid;rw[s7];kernel_rfl
theorem Yn:decide (rl.foot<=(behindTheImports rl.prog).length)=true:=by kernel_rfl
theorem Yo:rl.footing.all footLine=true:=by rw[Fast.te10501279942588096481];kernel_rfl
theorem Yp:noClassBlock rl.prog rl.footing=true:=by rw[Fast.te8179353310426384613];kernel_rfl
theorem Ut:noRoadLSs {strict:=true,foot:=some rl.bound',writes:=rl.writes,may:=rl.may} rl.footing=true:=by rw[Fast.te8326940854005059898];kernel_rfl
theorem Uu:defStands rl.about rl.above=true:=by rw[Fast.te9558739934217749035];kernel_rfl
theorem Uv:rl.namesIt=true:=by rw[Fast.te16286561074155671207];kernel_rfl
theorem sN:rl.bound'.all (λn=> !builtinNamed n ||rl.about==[n] || !rl.reads n)=true:=by rw[Fast.named_eq];kernel_rfl
theorem Sv:namesMeet rl.prog rl.footing (λsc n=>(!(["type", "isinstance", "issubclass", "getattr", "hasattr"]:List Str).contains n ||sc.names.lookup n==some .globalImplicit) &&
  (rl.may !=some n ||sc.kind== .module ||sc.names.lookup n==some .globalImplicit))=true:=by rw[Fast.te17119622794617984870];kernel_rfl
theorem Uw:rl.own.contains rl.name=true:=by kernel_rfl
theorem Ux:(rl.own.eraseDups.length==rl.own.length)=true:=by kernel_rfl
theorem Uy:rl.own.all (λn=> !builtinNamed n)=true:=by rw[Fast.named_eq];kernel_rfl
theorem Yq:namesMeet rl.prog rl.above (λab n=> !rl.own.contains n)=true:=by rw[Fast.te17119622794617984870];kernel_rfl
theorem Yr:(namesMeet rl.prog rl.footing λsc n=>sc.kind== .module ||sc.names.lookup n !=some .globalExplicit)=true:=by rw[Fast.te17119622794617984870];kernel_rfl
theorem Q4:OpenLaw.wellSaid abX=true:=by unfold OpenLaw.wellSaid;simp only[aaY];refine⟨⟨⟨⟨⟨⟨⟨⟨⟨⟨⟨⟨⟨⟨⟨⟨⟨⟨s8,Yn⟩,Yo⟩,Yp⟩,rfl⟩,rfl⟩,Ut⟩,Uu⟩,Uv⟩,by kernel_rfl⟩,sN⟩,by kernel_rfl⟩,by kernel_rfl⟩,Sv⟩,Uw⟩,Ux⟩,Uy⟩,Yq⟩,Yr⟩
end Own.Internal.Mp
end
section
open PySem PySem.W PyProof.Rows PySem.Calls
set_option maxHeartbeats 0
namespace Own.Internal.Mp
noncomputable def p9(tb:String->Option Builtin)(p:Program)(w:World)(pL:Nat)(ann:Option Value)(n:Nat):SharedT->Thread->Option SharedT:=
 Nat.rec (λab ai=>none) (λab ih s t=>match through t with
  |true=>some s
  |false=>match stepOk pL ann t with
   |false=>none
   |true=>match stepT (denote tb) p w s t with
    |some (s',t')=>ih s' t'
    |none=>none) n
theorem rp{tb:String->Option Builtin}{p:Program}{w:World}{pL:Nat}{ann:Option Value}:∀(n:Nat) {s s':SharedT} {t:Thread},p9 tb p w pL ann n s t=some s'->topRun tb p w pL ann n s.abs t=some s'.abs
 |0,ab,ai,aD,h=>nomatch h
 |n+1,s,s',t,h=>by
  unfold topRun;change(match through t with |true=>some s |false=>match stepOk pL ann t with |false=>none |true=>match stepT (denote tb) p w s t with |some (s',t')=>p9 tb p w pL ann n s' t' |none=>none)=some s' at h;cases ht:through t with
  |true=>rw[ht]at h;cases h;rfl
  |false=>
   rw[ht]at h;cases hk:stepOk pL ann t with
   |false=>rw[hk]at h;cases h
   |true=>
    rw[hk]at h;cases hs:stepT (denote tb) p w s t with
    |none=>rw[hs]at h;cases h
    |some r=>obtain⟨fR,Ys⟩:=r;rw[hs]at h;rw[stepT_spec hs];exact rp n h
def NZ(p:Program)(w:World)(pL:Nat)(ann:Option Value)(n:Nat):SharedT->Thread->Option SharedT:=
 Nat.rec (λab ai=>none) (λab ih s t=>match through t with
  |true=>some s
  |false=>match Fast.tw6613529449190102663 pL ann t with
   |false=>none
   |true=>match Fast.tw10156331382660048174 (Fast.tw11892475500146522536 Fast.tw14364793385576792824) p w s t with
    |some (s',t')=>ih s' t'
    |none=>none) n
theorem JK(p:Program)(w:World)(pL:Nat)(ann:Option Value)(n:Nat):NZ p w pL ann n=p9 treeTable p w pL ann n:=by unfold NZ p9;rw[<-Fast.te6613529449190102663,<-Fast.te10156331382660048174,<-Fast.te11892475500146522536,<-Fast.te14364793385576792824]
theorem DQ{p q:Program}{loose:List Str}{Xt:Shared->Bool}{α:Type}{Yf:Shared->α}{Ya:World->α}{N DC:Nat}{ann:Option Value}{g0:Bool}{rt:Params->Heap}{N0:Drawn}{N3:Nat}(row:String)
  (Q5:∀w:World,(fencedOpening treeTable p w N).map (λs=>(s.heap,s.gens,s.drawn,s.toks))=some (rt w.params,adE [],N0,N3))
  (size:∀w:World,((rt w.params).isNs mainGlobals,(rt w.params).objs.size,(rt w.params).nsMap mainGlobals "__annotations__")=(true,DC,ann))
  (run:∀(w:World) (b:Bool) (os:OsState),∃cH,topRun treeTable p (w.withFollow row b) DC ann N ⟨rt (w.withFollow row b).params,adE [],N0,N3,os⟩ (topStub p)=some cH/\
   (staticsOk (importedModules p.main.body) (rt (w.withFollow row b).params) cH.heap &&namesBound p cH.heap &&gensDone cH &&laidKept (rt (w.withFollow row b).params) cH.heap)=true/\
   openSeen q loose (importedModules p.main.body) Xt g0 cH=openGood q loose/\Yf cH=Ya (w.withFollow row b)):LeftO p q loose Xt Yf Ya N g0:=λw=>by
 have main:∀(w:World) (b:Bool),(openEnds treeTable p (w.withFollow row b) N).map (λs=>(openSeen q loose (importedModules p.main.body) Xt g0 s,Yf s))=some (openGood q loose,Ya (w.withFollow row b)):=λw b=>by
  obtain⟨⟨h,gs,d,k,os⟩,e,e'⟩:=abK.mp (Q5 (w.withFollow row b));obtain⟨rfl,rfl,rfl,rfl⟩:h=rt (w.withFollow row b).params/\gs=adE []/\d=N0/\k=N3:=by simpa using e'
  obtain⟨cH,r,l1,l2,l3⟩:=run w b os;obtain⟨z1,z2,z3⟩:_/\_/\_:=by simpa only[aeJ]using size (w.withFollow row b)
  have t:topFrom treeTable p (w.withFollow row b) N ⟨rt (w.withFollow row b).params,adE [],d,k,os⟩=some cH:=by unfold topFrom;dsimp only;rw[z1,z2,z3,r];show(match(staticsOk (importedModules p.main.body) (rt (w.withFollow row b).params) cH.heap &&namesBound p cH.heap &&gensDone cH &&laidKept (rt (w.withFollow row b).params) cH.heap)with |true=>some cH |false=>none)=_;rw[l1]
  unfold openEnds;rw[e];show(topFrom treeTable p _ N _).map _=_;rw[t];exact congrArg some (Prod.ext l2 l3)
 have:=main w (w.params.followText row);rwa [World.withFollow_self]at this
noncomputable def N4(l:List Obj):BT:=(l.foldl (λ(r:BT×Nat) o=>(r.1.ins r.2 o,r.2+1)) (BT.nil,0)).1
def T0(P:Params):BT:=N4 (boot_heap P).objs.toList
def hq:Program:=view pw [164]
def lP:List Str:=pw.boundNames.filter λx=>x != "law"
def N5(h:Heap):Frag:=Wm.filterMap λa=>(h.get? a).map (a,·)
def hX(s:Shared):Bool:=o5 (N5 s.heap) (s.heap.nsMap mainGlobals) &&recOk [] s
def hY(s:Shared):=Ma.map (DN (N5 s.heap))
theorem Q6:∀P:Params,absHeap (T0 P) 11 {}=boot_heap P:=λP=>by kernel_rfl
theorem JL:∀w:World,((boot_heap w.params).isNs mainGlobals,(boot_heap w.params).objs.size,(boot_heap w.params).nsMap mainGlobals "__annotations__")=(true,11,some (.ref 6)):=λw=>by kernel_rfl
theorem opens:opening pw=plainProg pw.main.scope.names:=by kernel_rfl
theorem N6:∀s,fenceModules? pw s=some s:=λs=>by kernel_rfl
noncomputable abbrev iL:String:= "special-get-raises"
def N7(t:BT)(n:Nat)(a:Addr):Option Obj:=if a<n then Heap.get? ⟨#[(t.get a).getD default],{}⟩ 0 else none
theorem JM(t:BT)(n:Nat)(life:Life)(a:Addr):N7 t n a=(absHeap t n life).get? a:=by
 unfold N7 Heap.get?;rw[absHeap_at];by_cases h:a<n
 ·rw[if_pos h,if_pos h];rfl
 ·rw[if_neg h,if_neg h]
def JN(s:SharedT):Frag:=Wm.filterMap λa=>(N7 s.tree s.n a).map (a,·)
theorem JO(s:SharedT):JN s=N5 s.abs.heap:=by unfold JN N5;simp only[JM s.tree s.n s.life];rfl
def zM{α:Type}(f:SharedT->α)(w:World)(os:OsState):Option α:=(NZ pw w 11 (some (.ref 6)) 6700 ⟨T0 w.params,11,{},adE [],boot_drawn,boot_toks,os⟩ (topStub pw)).map f
def Sw(P:Params)(s:SharedT):=((staticsOk (importedModules pw.main.body) (boot_heap P) s.abs.heap &&namesBound pw s.abs.heap &&gensDone s.abs &&laidKept (boot_heap P) s.abs.heap),Fast.tw4187177175401517315 hq lP (importedModules pw.main.body) (λab=>true) true s.abs)
def Q7(s:SharedT):=(o5 (JN s) (s.abs.heap.nsMap mainGlobals) &&recOk [] s.abs,Ma.map (DN (JN s)))
theorem Yt:∀(w:World) (os:OsState),zM (Sw (w.withFollow iL false).params) (w.withFollow iL false) os=some (true,openGood hq lP):=λw os=>by kernel_rfl
theorem Yu:∀(w:World) (os:OsState),zM Q7 (w.withFollow iL false) os=some (true,ia.map iK):=λw os=>by kernel_rfl
theorem Yv:∀(w:World) (os:OsState),zM (Sw (w.withFollow iL true).params) (w.withFollow iL true) os=some (true,openGood hq lP):=λw os=>by kernel_rfl
theorem Yw:∀(w:World) (os:OsState),zM Q7 (w.withFollow iL true) os=some (true,ia.map iK):=λw os=>by kernel_rfl
end Own.Internal.Mp
end
section
open PySem.W.X
open PySem PySem.W PyProof.Rows PySem.Calls PySem.Spec
set_option maxHeartbeats 0
namespace Own.Internal.Mp
theorem oe{h:Heap}{a:Addr}{o:Obj}:∀{l:List Addr},(l.filterMap λa=>(h.get? a).map (a,·)).lookup a=some o->h.get? a=some o
 |[],e=>nomatch e
 |b::l,e=>by
  rw[aet]at e;cases q:h.get? b with
  |none=>rw[q]at e;exact oe e
  |some x=>
   rw[q]at e;simp only[Option.map_some,acW]at e;cases z:a==b with
   |true=>rw[z]at e;cases e;rw[show a=b by simpa using z];exact q
   |false=>rw[z]at e;exact oe e
theorem GB(h:Heap):(N5 h).In h:=λab ai e=>oe e
def Wr(mg:Str->Option Value)(h:Heap):Prop:=∃K:Frag,K.In h/\o5 K mg=true
def Yx(_:World)(h:Heap):Prop:=∃K:Frag,K.In h/\Ma.map (DN K)=ia.map iK
theorem JP{q:Program}{loose m:List Str}{s:Shared}{X:Shared->Bool}(h:X s=true){z}(e:openSeen q loose m (λab=>true) true s=z):openSeen q loose m X true s=z:=by rw[<-e];unfold openSeen;rw[h]
theorem Q8:LeftO pw hq lP hX hY (λab=>ia.map iK) 7000:=by
 refine DQ (DC:=11) (ann:=some (.ref 6)) iL (boot_open opens (by decide) N6) JL λw b os=> ?_;have h0:zM (Sw (w.withFollow iL b).params) (w.withFollow iL b) os=some (true,openGood hq lP):=by cases b;exact Yt w os;exact Yv w os
 have h1:zM Q7 (w.withFollow iL b) os=some (true,ia.map iK):=by cases b;exact Yu w os;exact Yw w os
 unfold zM at h0 h1;obtain⟨s,hs,hl⟩:=abK.mp h0;rw[hs]at h1;rw[JK]at hs;have r:=topRun_mono 300 _ _ _ _ (rp _ hs);have g1:Q7 s=(true,ia.map iK):=aad h1;unfold Q7 at g1;rw[JO]at g1;simp only[Sw,aeJ]at hl;refine⟨s.abs,?_,hl.1,JP (congrArg adk g1) ?_,congrArg aeH g1⟩
 ·rw[<-Q6];exact r
 ·rw[Fast.te4187177175401517315];exact hl.2
noncomputable abbrev Pq:OpenRow:=abX.row
noncomputable def σ0:St:=⟨0,λab=> .dead⟩
theorem JQ{W:World}{h:Heap}{w:Wd}{vs:List Value}{ns:List Int}(z:IntsAre vs ns):bc W h w (ns.map .int) vs:=by
 induction z with
 |nil=>exact bc.nil
 |cons n t r ih=>exact bc.cons ⟨t,rfl⟩ ih
noncomputable def w0(h:Heap):Wd:=⟨0,λab=>0,λab=>0,λa=>∃o,h.get? a=some o,λab=>False⟩
theorem Uz{C:Cx}:Rel C C.h₀ (w0 C.h₀) σ0 where
 n:=rfl
 keep:=λab ai e=>e
 base:=λab o e=>⟨o,e⟩
 obj:=λab h=>nomatch h
 inj:=λab ai h=>nomatch h
 fr:=λab h=>nomatch h
 jO:=λab h=>h
 ip:=λdJ (h:False)=>aaT h
 iF:=λdJ dJ (h:False)=>h
set_option tactic.hygienic true in
theorem Q9(B:∀ns:List Int,ns.length<=63->∃aq,af P 116 72 [.bI (ns.map .int)] σ0=some (.bool true,aq))
  (w:World) (fh cH:Shared) (mg mb:Str->Option Value) (G:Ground hq lP Pq.records Wr w fh mg mb cH.heap) (Y:Yx w fh.heap) (hg:cH.gens= #[])
  (args:List WData) (vals:List Value) (as:List Addr) (L:Laid Pq.records w fh cH args vals as) (N8:Pq.claim.pre args=true) (N9:WData.layableAll args=true) (UA:ReadsAllW Pq.records (classAt fh.heap) cH.heap vals args as) (UB:WellAll w.params cH.heap vals args) (Pe:∀a∈as,(a==sysModules)=false):
   wpAny (model pw w) callerA (abr (.ref (fa 72)) vals) (λv s'=>GoodW Pq.claim (classAt fh.heap) (ExcName.means fh.heap) args cH (.ok (.ret v)) s')
    (λe s'=>GoodW Pq.claim (classAt fh.heap) (ExcName.means fh.heap) args cH (.error e) s') cH:=by
 wrow_args N8 N9 UA UB Pe
 rename_i ns _ _ _ _ _ as1 as2 a its as3 hL ra w1 r0 hI hr hlen _;have hlen:ns.length<=63:=by lia
 have ho:=script_obj L hL;obtain⟨K,X,J⟩:=G.X;obtain⟨K',X',D⟩:=Y;have X':=X'.keeps L.keeps;have T:=G.T;have O:=NW (prog:=pw) (W:=w) (mb:=mb) X J T.g T.b T.nolimit;have Gl:=Gz (prog:=pw) (W:=w) (K:=K) (h:=cH.heap) (mg:=mg) J T.builtins;have Kc:=JI (prog:=pw) (W:=w) (K:=K) (h:=cH.heap) (mb:=mb) J;have hF:=NY (prog:=pw) (W:=w) (mb:=mb) X X' J D;obtain⟨aq,hc⟩:=B ns hlen;have Rm:kX callerA 116:=⟨rfl,by decide,by decide⟩;have R:Rel (DP pw w K cH.heap mg mb) cH.heap (w0 cH.heap) σ0:=Uz;have hv:bc w cH.heap (w0 cH.heap) [.bI (ns.map .int)] [.ref a]:=
  bc.cons ⟨a,_,_,rfl,⟨_,ho⟩,ho,by rw[aae];exact aai hlen (by decide),JQ hI⟩ bc.nil
 refine(NO O Gl Kc hF 116).run (z:=⟨w0 cH.heap,σ0,cH,R⟩) Rm hv _ (λv s=>some (v,s)) (.bool true,aq) _ _ (aQ hc) λv u z' A q e=> ?_;have ev:=congrArg adk (aad e);rw[show v= .bool true from ev]at q;obtain rfl:u= .bool true:=q;obtain⟨w',Fp,fR,R'⟩:=z';obtain⟨h',tk,e⟩:=A.st;subst e;refine⟨.inl ⟨.bool true,ofPy (.bool true),[],rfl,λ_=>rfl,?_,?_,λ_=>⟨abA,λ_ h=>nomatch h⟩⟩,λb o e=>A.keep b o e (λl h=>nomatch h) (λh=>h),rfl,hg⟩
 ·show ReadsW _ _ _ _ (.bool true) _;constructor
 ·kernel_rfl
theorem law_holds(B:∀ns:List Int,ns.length<=63->∃aq,af P 116 72 [.bI (ns.map .int)] σ0=some (.bool true,aq)):abX.Holds:=by
 refine holds_law Q4 λOa=> ?_;refine holds_openX (q:=hq) (loose:=lP) (Xt:=hX) (XP:=Wr) (Yf:=hY) (Ya:=λab=>ia.map iK) (N:=7000) Q8
  (λs e=>⟨N5 s.heap,GB _,(abT.mp e).1⟩) (λmg h h' ⟨K,a,b⟩ k=>⟨K,a.keeps k,b⟩) (by rfl) (by rfl) (by rfl) (λs e=>recFacts_of (abT.mp e).2) (by rfl) Oa (by decide+kernel) ⟨rfl,rfl,rfl,rfl,rfl,by decide+kernel⟩ ?hw ?hc
 case hw=>w_witness2
 case hc=>
  intro w fh cH mg mb G Y a o pm cd doc dV kV ho hd hcd hD Yy hg args vals as L N8 N9 UA UB Pe;obtain⟨K,X,J⟩:=id G.X;have e:mg "law" =some (.ref (fa 72)):=((Gz (prog:=pw) (W:=w) (K:=K) (h:=cH.heap) (mg:=mg) J G.T.builtins).fn "law" 72 (by kernel_rfl)).2.1;obtain rfl:a=fa 72:=by have:=Yy.symm.trans e;cases this;rfl
  exact wpAny_mono (Q9 B w fh cH mg mb G ⟨N5 fh.heap,GB _,Y⟩ hg args vals as L N8 N9 UA UB Pe) (λab ai g=>g.toG) λab ai g=>g.toG
end Own.Internal.Mp
end
section
namespace Own.Internal.Ab
open Mp
abbrev Nm:=Fin 25
noncomputable def tx(s:String):List Nat:=s.toList.map Char.toNat
def Yz:List (List Nat):=["a", "b", "1", "E.A", "F.A", "E.B", "~a", "~1", "~E.A", "false", "true", "~false", "~true", "undefined", "null", "void", "string", "number", "o", "~o", "any", "unknown", "error", "T", "U"].map tx
def iq(x:Nm):List Nat:=Yz.getD x []
noncomputable def Rb:List Nm:=[0,1,2,3,4,5,0,2,3,9,10,9,10,13,14,15,16,17,18,18,20,21,22,23,24]
def bare(x:Nm):Nm:=Rb.getD x 0
noncomputable def Oc:List (List Nm):=[[0,16],[1,16],[2,17],[3,2,17],[4,2,17],[5,0,16],[0,16],[2,17],[3,2,17],[9],[10],[9],[10],[13,15],[14],[15],[16],[17],[18],[18],[20],[21],[22],[23],[24]]
def rooms(x:Nm):List Nm:=Oc.getD x []
noncomputable def Rf:List (Option Nm):=[some 16,some 16,some 17,some 17,some 17,some 16,some 16,some 17,some 17]++abz 16 none
def wide(x:Nm):Option Nm:=Rf.getD x none
noncomputable abbrev gI:Nm:=20
noncomputable abbrev tj:Nm:=21
noncomputable abbrev aL:Nm:=22
noncomputable abbrev aT:Nm:=23
noncomputable abbrev aU:Nm:=24
inductive Atom where
 |n(x:Nm)
 |cond(c a:List Nm)(y n:List Atom)(s:Bool)
noncomputable def never:List Nat:=[110,101,118,101,114]
def bj(l:List (List Nat)):List Nat:=match l with |[]=>never |l=>eZ [124] l
mutual
noncomputable def txt:Atom->List Nat
 | .n x=>iq x
 | .cond c a y n s=>[91]++bj (c.map iq)++[59]++bj (a.map iq)++[59]++bj (GC y)++[59]++bj (GC n)++[59]++[if s then 49 else 48]++[93]
noncomputable def GC:List Atom->List (List Nat)
 |[]=>[]
 |a::r=>txt a::GC r
end
noncomputable def gA:Atom->Option Nm
 | .n x=>some x
 |_=>none
section
variable {α:Type}(tx:α->List Nat)
noncomputable def pM(a:α):List α->List α
 |[]=>[a]
 |b::r=>if tx a=tx b then b::r else if jD (tx a) (tx b)then a::b::r else b::pM a r
noncomputable def canon:List α->List α
 |[]=>[]
 |a::r=>pM tx a (canon r)
variable (nm:α->Option Nm)(of:Nm->α)
noncomputable def has(xs:List α)(x:Nm):Bool:=xs.any λa=>nm a==some x
def mD(xs:List α):Option Nm:=if has nm xs gI then some gI else if has nm xs aL then some aL else if has nm xs tj then some tj else none
def ib(xs:List α):List α:=if(has nm xs 9 ||has nm xs 11) &&(has nm xs 10 ||has nm xs 12)then xs++[of 9,of 10]else xs
def ru(xs:List α)(a:α):Bool:=match nm a with
 |none=>true
 |some x=> !(bare x !=x &&has nm xs (bare x)) && !(match wide x with |some w=>has nm xs w |none=>false)
def xy(xs:List α):List α:=match mD nm xs with
 |some t=>[of t]
 |none=>canon tx ((ib nm of xs).filter (ru nm (ib nm of xs)))
end
def less:List Atom->List Atom:=xy txt gA .n
def aC:List Nm->List Nm:=xy iq some id
structure Env where
 T:List Nm
 U:List Nm
def sub(m:Env)(x:Nm):List Nm:=if x=aT then m.T else if x=aU then m.U else[x]
def subs(m:Env)(l:List Nm):List Nm:=aC (l.flatMap (sub m))
def isOpen(l:List Nm):Bool:=l.contains aT ||l.contains aU
def fits(held asked:List Nm):Bool:=held.all λx=>(rooms x).any λr=>(asked.map bare).contains r
def near(c:List Nm)(m:Env)(one:Nm):Env:=if c=[aT]then{m with T:=[one]}else if c=[aU]then{m with U:=[one]}else m
def pick(held ask:List Nm)(y n:List Atom)(s:Bool):List Atom:=
 if ask=[aL] && !isOpen held then[.n aL]
 else if isOpen held ||isOpen ask then[.cond held ask y n s]
 else if ask=[gI] ||ask=[tj]then y
 else if held=[gI]then less (y++n)
 else if fits held ask then y else n
mutual
noncomputable def ev:Atom->Env->List Atom
 | .n x,m=>(sub m x).map .n
 | .cond c a y n s,m=>
  let held:=subs m c
  if held=[aL]then[.n aL]
  else if s &&held.length !=1 then less (held.flatMap λone=>pick [one] (subs (near c m one) a) (less (bC y (near c m one))) (less (bC n (near c m one))) s)
  else pick held (subs m a) (less (bC y m)) (less (bC n m)) s
noncomputable def bC:List Atom->Env->List Atom
 |[],ab=>[]
 |a::r,m=>ev a m++bC r m
end
noncomputable def UC(c:Nat):Bool:=c==59 ||c==124 ||c==93 ||c==91
def clean(p:List Nat):Bool:=p.all λc=> !UC c
def D(u:List Nat):Prop:=∀c r,u=c::r->UC c=true
theorem Mg:D []:=λab ai h=>nomatch h
theorem jt{c:Nat}{r:List Nat}(h:UC c=true):D (c::r):=λab ai e=>by cases e;exact h
theorem jU:∀{p q u v:List Nat},clean p=true->clean q=true->D u->D v->p++u=q++v->p=q/\u=v
 |[],[],ab,ai,aD,bO,fc,ny,e=>⟨rfl,e⟩
 |[],c::q,u,v,ab,hq,hu,ai,e=>by have:=hu c (q++v) e;simp only[clean,abe,aaY,this]at hq;exact nomatch hq.1
 |c::p,[],u,v,hp,ab,ai,hv,e=>by have:=hv c (p++u) e.symm;simp only[clean,abe,aaY,this]at hp;exact nomatch hp.1
 |c::p,d::q,u,v,hp,hq,hu,hv,e=>by simp only[aeK,acw]at e;obtain⟨rfl,e⟩:=e;simp only[clean,abe,aaY]at hp hq;obtain⟨rfl,h⟩:=jU hp.2 hq.2 hu hv e;exact⟨rfl,h⟩
theorem rv:∀x:Nm,clean (iq x)=true:=by decide
theorem zN:∀x y:Nm,iq x=iq y->x=y:=by decide
theorem GD:∀x:Nm,iq x≠never:=by decide
theorem xA:clean never=true:=by decide
section
variable {α:Type}{f:α->List Nat}
def Inj(f:α->List Nat)(a:α):Prop:=∀b u v,D u->D v->f a++u=f b++v->a=b/\u=v
noncomputable def joinR(f:α->List Nat):List α->List Nat
 |[]=>[]
 |x::r=>124::(f x++joinR f r)
theorem ie(x:α):∀r:List α,eZ [124] ((x::r).map f)=f x++joinR f r
 |[]=>(aaV _).symm
 |y::r=>by show f x++[124]++eZ [124] ((y::r).map f)=_;simp only[ie y r,aaJ];rfl
theorem kx{r:List α}{u:List Nat}(hu:D u):D (joinR f r++u):=by
 cases r with
 |nil=>exact hu
 |cons x r=>exact jt rfl
theorem ua:∀{l l':List α} {u v:List Nat},(∀a∈l,Inj f a)->joinR f l++59::u=joinR f l'++59::v->l=l'/\u=v
 |[],[],ab,ai,aD,e=>⟨rfl,(aaL e).2⟩
 |[],ab::ai,aD,bO,fc,e=>nomatch(aaL e).1
 |ab::ai,[],aD,bO,fc,e=>nomatch(aaL e).1
 |a::l,b::l',u,v,h,e=>by obtain e0:(f a++joinR f l)++59::u=(f b++joinR f l')++59::v:=(aaL e).2;simp only[aaJ,aaJ]at e0;refine A2 (h a aac b _ _ (kx (jt rfl)) (kx (jt rfl)) e0) λh1 e1=> ?_;refine A2 (ua (λx hx=>h x (aaf _ hx)) e1) λh2 e2=> ?_;exact⟨by simp only[h1,h2],e2⟩
theorem kz{l l':List α}{u v:List Nat}(hn:∀a u v,D u->D v->f a++u≠never++v)(h:∀a∈l,Inj f a)(e:bj (l.map f)++59::u=bj (l'.map f)++59::v):l=l'/\u=v:=by
 cases l with
 |nil=>
  cases l' with
  |nil=>exact⟨rfl,(aaL (List.append_cancel_left e)).2⟩
  |cons b l'=>obtain e:never++59::u=eZ [124] ((b::l').map f)++59::v:=e;simp only[ie,aaJ]at e;exact absurd e.symm (hn b _ _ (kx (jt rfl)) (jt rfl))
 |cons a l=>
  cases l' with
  |nil=>obtain e:eZ [124] ((a::l).map f)++59::u=never++59::v:=e;simp only[ie,aaJ]at e;exact absurd e (hn a _ _ (kx (jt rfl)) (jt rfl))
  |cons b l'=>obtain e:eZ [124] ((a::l).map f)++59::u=eZ [124] ((b::l').map f)++59::v:=e;simp only[ie,ie,aaJ,aaJ]at e;refine A2 (h a aac b _ _ (kx (jt rfl)) (kx (jt rfl)) e) λh1 e1=> ?_;refine A2 (ua (λx hx=>h x (aaf _ hx)) e1) λh2 e2=> ?_;exact⟨by simp only[h1,h2],e2⟩
end
theorem ve(x:Nm):Inj iq x:=λy ab ai hu hv e=>by refine A2 (jU (rv x) (rv y) hu hv e) λh e=> ?_;exact⟨zN _ _ h,e⟩
theorem vf(x:Nm)(u v:List Nat)(hu:D u)(hv:D v):iq x++u≠never++v:=λe=>GD x (jU (rv x) xA hu hv e).1
set_option tactic.hygienic true in
theorem xB:∀x:Nm,∃c r,iq x=c::r/\c≠91:=by
 intro x;obtain this:(match iq x with |c::_=>c !=91 |[]=>false)=true:=by revert x;decide
 split at this
 ·rename_i c r h;exact wB c r h (by simpa using this)
 ·cases this
theorem mE:∀l:List Atom,GC l=l.map txt:=by
 intro v_;induction v_ with
 |nil=>exact rfl
 |cons a r ih=>simp only[GC,ih];rfl
theorem rx(c a:List Nm)(y n:List Atom)(s:Bool)(u:List Nat):txt (.cond c a y n s)++u=
  91::(bj (c.map iq)++59::(bj (a.map iq)++59::(bj (y.map txt)++59::(bj (n.map txt)++59::(if s then 49 else 48)::93::u)))):=by
 simp only[txt,mE,mE];simp only[aaJ,aeK,adK]
theorem BL(a:Atom)(u v:List Nat)(hu:D u)(hv:D v):txt a++u≠never++v:=by
 cases a with
 |n x=>exact vf x u v hu hv
 |cond c a y n s=>exactλe=>nomatch(aaL e).1
mutual
theorem BM:∀a:Atom,Inj txt a
 | .n x=>λb u v hu hv e=>by
  cases b with
  |n y=>refine A2 (ve x y u v hu hv e) λh e=> ?_;exact⟨congrArg _ h,e⟩
  |cond=>refine eO (xB x) λc r h hc=> ?_;rw[txt,h]at e;exact absurd (aaL e).1 hc
 | .cond c a y n s=>λb u v hu hv e=>by
  cases b with
  |n x=>refine eO (xB x) λd r h hc=> ?_;rw[rx,txt,h]at e;exact absurd (aaL e).1.symm hc
  |cond c' a' y' n' s'=>
   simp only[rx,rx]at e;refine A2 (kz vf (λx ab=>ve x) (aaL e).2) λh1 e1=> ?_;refine A2 (kz vf (λx ab=>ve x) e1) λh2 e2=> ?_;refine A2 (kz BL (rA y) e2) λh3 e3=> ?_;obtain⟨h4,e4⟩:=kz BL (rA n) e3;refine A2 (aaL e4) λhs e5=> ?_;have h5:s=s':=by cases s<;>cases s'<;>first |rfl |cases hs
   exact⟨by simp only[h1,h2,h3,h4,h5],(aaL e5).2⟩
theorem rA:∀l:List Atom,∀a∈l,Inj txt a
 |b::r,a,h=>by
  rcases aam.mp h with e |h
  ·exact e▸BM b
  ·exact rA r a h
end
theorem vg{a b:Atom}(h:txt a=txt b):a=b:=(BM a b [] [] Mg Mg (by rw[h])).1
theorem rB:∀a:List Nat,jD a a=false:=by
 intro v_;induction v_ with
 |nil=>exact rfl
 |cons x a ih=>simp only[jD,acx,if_false,ih]
theorem rC:∀{a b:List Nat},jD a b=false->jD b a=false->a=b
 |[],[],ab,ai=>rfl
 |[],ab::ai,h,aD=>nomatch h
 |ab::ai,[],aD,h=>nomatch h
 |x::a,y::b,h,k=>by
  unfold jD at h k;by_cases h1:x<y
  ·rw[if_pos h1]at h;cases h
  ·by_cases h2:y<x
   ·rw[if_pos h2]at k;cases k
   ·rw[if_neg h1,if_neg h2]at h;rw[if_neg h2,if_neg h1]at k;simp only[rC h k,acG (acb.mp h2) (acb.mp h1)]
theorem lt_trans:∀{a b c:List Nat},jD a b=true->jD b c=true->jD a c=true
 |[],_,[],_,h=>by rename_i b _;cases b<;>cases h
 |[],_,_::_,_,_=>rfl
 |_::_,[],_,h,_=>nomatch h
 |_::_,_::_,[],_,h=>nomatch h
 |x::a,y::b,z::c,h,k=>by
  unfold jD at h k⊢;by_cases h1:x<y
  ·by_cases k1:y<z
   ·rw[if_pos (aaQ h1 k1)]
   ·by_cases k2:z<y
    ·rw[if_neg k1,if_pos k2]at k;cases k
    ·rw[if_pos (aak h1 (acb.mp k2))]
  ·rw[if_neg h1]at h;by_cases h2:y<x
   ·rw[if_pos h2]at h;cases h
   ·rw[if_neg h2]at h;obtain e:x=y:=acG (acb.mp h2) (acb.mp h1);rw[e];by_cases k1:y<z
    ·rw[if_pos k1]
    ·rw[if_neg k1]at k⊢;by_cases k2:z<y
     ·rw[if_pos k2]at k;cases k
     ·rw[if_neg k2]at k⊢;exact lt_trans h k
section
variable {α:Type}{tx:α->List Nat}
abbrev oh(tx:α->List Nat)(l:List α):Prop:=l.Pairwise λa b=>jD (tx a) (tx b)=true
theorem xC(hi:∀{a b},tx a=tx b->a=b){a b:α}:∀{l:List α},b∈pM tx a l↔b=a\/b∈l:=by
 intro v_;induction v_ with
 |nil=>simp[pM]
 |cons c r ih=>
  simp only[pM];split
  ·rename_i h;obtain this:=hi h;subst this;simp
  ·split
   ·simp
   ·simp only[aam,ih];constructor
    ·rintro (h |h |h)<;>simp[h]
    ·rintro (h |h |h)<;>simp[h]
theorem GF(hi:∀{a b},tx a=tx b->a=b){a:α}:∀{l:List α},oh tx l->oh tx (pM tx a l):=by
 intro v_;induction v_ with
 |nil=>intro _;simp[pM]
 |cons c r ih=>
  intro h;refine A2 (aaD.mp h) λh1 h2=> ?_;simp only[pM];split
  ·exact h
  ·rename_i sZ;split
   ·rename_i eX;refine aaD.mpr ⟨λb hb=> ?_,h⟩;rcases aam.mp hb with e |hb
    ·exact e▸eX
    ·exact lt_trans eX (h1 b hb)
   ·rename_i eX;obtain eX:jD (tx a) (tx c)=false:=by simpa using eX
    obtain YA:jD (tx c) (tx a)=true:=by
     cases q:jD (tx c) (tx a)with
     |true=>rfl
     |false=>exact absurd (rC eX q) sZ
    refine aaD.mpr ⟨λb hb=> ?_,ih h2⟩;rcases(xC hi).mp hb with e |hb
    ·exact e▸YA
    ·exact h1 b hb
theorem oi(hi:∀{a b},tx a=tx b->a=b){b:α}:∀{l:List α},b∈canon tx l↔b∈l:=by
 intro v_;induction v_ with
 |nil=>exact aeo
 |cons a r ih=>simp only[canon,xC hi,ih,aam]
theorem oj(hi:∀{a b},tx a=tx b->a=b):∀l:List α,oh tx (canon tx l):=by
 intro v_;induction v_ with
 |nil=>exact aci
 |cons ab r ih=>exact GF hi (ih)
theorem kA:∀{l l':List α},oh tx l->oh tx l'->(∀b,b∈l↔b∈l')->l=l'
 |[],[],ab,ai,aD=>rfl
 |[],b::ab,ai,aD,h=>nomatch(h b).mpr aac
 |a::ab,[],ai,aD,h=>nomatch(h a).mp aac
 |a::l,b::l',h,h',e=>by
  refine A2 (aaD.mp h) λh1 h2=> ?_;refine A2 (aaD.mp h') λk1 k2=> ?_;obtain pW:a=b:=by
   rcases aam.mp ((e a).mp aac)with q |q
   ·exact q
   ·rcases aam.mp ((e b).mpr aac)with q' |q'
    ·exact q'.symm
    ·have:=lt_trans (k1 a q) (h1 b q');rw[rB]at this;cases this
  subst pW;obtain no:∀{m:List α},(∀c∈m,jD (tx a) (tx c)=true)->∀c∈m,c≠a:=λhm c hc q=>by obtain this:=hm c hc;rw[q,rB]at this;cases this
  rw[kA h2 k2 λc=> ?_];constructor
  ·intro hc;exact(aam.mp ((e c).mp (aaf _ hc))).resolve_left (no h1 c hc)
  ·intro hc;exact(aam.mp ((e c).mpr (aaf _ hc))).resolve_left (no k1 c hc)
theorem ub(hi:∀{a b},tx a=tx b->a=b){l l':List α}(h:∀b,b∈l↔b∈l'):canon tx l=canon tx l':=
 kA (oj hi l) (oj hi l') λb=>by simp only[oi hi,oi hi,h]
end
theorem i3:∀x:Nm,bare (bare x)=bare x:=by decide
theorem oo:∀x:Nm,wide (bare x)=wide x:=by decide
theorem vh:∀x w:Nm,wide x=some w->wide w=none/\bare w=w/\w≠aT/\w≠aU:=by decide
theorem cG{xs:List Atom}{x:Nm}:has gA xs x=true↔.n x∈xs:=by
 unfold has;rw[abn];constructor
 ·rintro ⟨a,ha,e⟩
  cases a with
  |n y=>rw[show y=x by simpa [gA]using e]at ha;exact ha
  |cond=>simp[gA]at e
 ·exactλh=>⟨_,h,by simp[gA]⟩
def tm(S:List Atom)(x:Nm):Prop:=(bare x≠x/\.n (bare x)∈S)\/∃w,wide x=some w/\.n w∈S
abbrev keep(S:List Atom)(a:Atom):Bool:=ru gA S a
theorem dq{S:List Atom}{a:Atom}:keep S a=true↔∀x,a= .n x->¬tm S x:=by
 cases a with
 |cond=>exact⟨λ_ x h=>(nomatch h),λ_=>rfl⟩
 |n x=>
  obtain e:keep S (.n x)=(!(bare x !=x &&has gA S (bare x)) && !(match wide x with |some w=>has gA S w |none=>false)):=rfl;simp only[e,aaY,abC,abC,Bool.and_eq_false_iff];constructor
  ·rintro ⟨h1,h2⟩ y ey
   cases ey
   rintro (⟨k1,k2⟩ |⟨w,k1,k2⟩)
   ·rcases h1 with h1 |h1
    ·exact k1 (by simpa using h1)
    ·rw[cG.mpr k2]at h1;cases h1
   ·rw[k1]at h2;dsimp only at h2;rw[cG.mpr k2]at h2;cases h2
  ·intro h;obtain h:=h x rfl;constructor
   ·by_cases hb:bare x=x
    ·left;simpa using hb
    ·right;cases q:has gA S (bare x)with
     |false=>rfl
     |true=>exact absurd (.inl ⟨hb,cG.mp q⟩) h
   ·split
    ·rename_i w hw;cases q:has gA S w with
     |false=>rfl
     |true=>exact absurd (.inr ⟨w,hw,cG.mp q⟩) h
    ·rfl
def kept(S:List Atom):List Atom:=S.filter (keep S)
theorem uc{zO DS:List Atom}(h1:∀b∈zO,b∈DS)(h2:∀b∈DS,b∈zO\/∃x,b= .n x/\tm zO x)(b:Atom):b∈kept zO↔b∈kept DS:=by
 have up:∀x,tm zO x->tm DS x:=λx h=>h.imp (λk=>⟨k.1,h1 _ k.2⟩) λi4=>ah i4 λw k m=>⟨w,k,h1 _ m⟩;obtain wd:∀{x w},wide x=some w->.n w∈DS->.n w∈zO:=λ{x w} hw hm=>by
  refine A3 (vh x w hw) λa1 a2 ab=> ?_;refine aaI (h2 _ hm) (λh=> ?_) λaw=>ah aw λy ey hd=> ?_
  ·exact h
  ·cases ey;refine aaI hd (λaZ=>A2 aZ λk ab=> ?_) λaw=>ah aw λv k ab=> ?_
   ·exact absurd a2 k
   ·rw[a1]at k;cases k
 have down:∀x,tm DS x->tm zO x:=λx h=>by
  refine aaI h (λaZ=>A2 aZ λk1 k2=> ?_) λaw=>ah aw λw k1 k2=> ?_
  ·refine aaI (h2 _ k2) (λh=> ?_) λaw=>ah aw λy ey hd=> ?_
   ·exact .inl ⟨k1,h⟩
   ·cases ey;refine aaI hd (λaZ=>A2 aZ λq ab=> ?_) λaw=>ah aw λw q m=> ?_
    ·exact absurd (i3 x) q
    ·exact .inr ⟨w,(oo x)▸q,m⟩
  ·exact .inr ⟨w,k1,wd k1 k2⟩
 simp only[kept,aaN];constructor
 ·rintro ⟨m,k⟩
  exact⟨h1 _ m,dq.mpr λx e d=>dq.mp k x e (down x d)⟩
 ·rintro ⟨m,k⟩
  refine⟨?_,dq.mpr λx e d=>dq.mp k x e (up x d)⟩;refine aaI (h2 _ m) (λh=> ?_) λaw=>ah aw λx e d=> ?_
  ·exact h
  ·exact absurd (up x d) (dq.mp k x e)
abbrev bools(xs:List Atom):List Atom:=ib gA .n xs
def both(xs:List Atom):Prop:=(.n 9∈xs\/.n 11∈xs)/\(.n 10∈xs\/.n 12∈xs)
theorem aH{xs:List Atom}{b:Atom}:b∈bools xs↔b∈xs\/(both xs/\(b= .n 9\/b= .n 10)):=by
 unfold bools ib both;split
 ·rename_i h;simp only[aaY,abd,cG]at h;simp[h]
 ·rename_i h;simp only[aaY,abd,cG]at h;simp[h]
abbrev top(xs:List Atom):Option Nm:=mD gA xs
theorem bW{xs:List Atom}{t:Nm}(h:top xs=some t):less xs=[.n t]:=by unfold less xy;rw[show mD gA xs=some t from h]
theorem less_none{xs:List Atom}(h:top xs=none):less xs=canon txt (kept (bools xs)):=by unfold less xy;rw[show mD gA xs=none from h];rfl
theorem ti{a b:Atom}(h:txt a=txt b):a=b:=vg h
theorem aN{xs:List Atom}(h:top xs=none){b:Atom}:b∈less xs↔b∈kept (bools xs):=by rw[less_none h,oi ti]
theorem eH(xs:List Atom):oh txt (less xs):=by
 cases h:top xs with
 |some t=>rw[bW h];exact aaB _ _
 |none=>rw[less_none h];exact oj ti _
def cu(x:Nm):Prop:=x=gI\/x=aL\/x=tj
theorem dT{xs:List Atom}{t:Nm}(h:top xs=some t): .n t∈xs/\cu t:=by
 unfold top mD at h;split at h
 ·rename_i q;cases h;exact⟨cG.mp q,.inl rfl⟩
 ·split at h
  ·rename_i q;cases h;exact⟨cG.mp q,.inr (.inl rfl)⟩
  ·split at h
   ·rename_i q;cases h;exact⟨cG.mp q,.inr (.inr rfl)⟩
   ·cases h
theorem ig{xs:List Atom}:top xs=none↔∀x,cu x->.n x∉xs:=by
 constructor
 ·intro h x hx hm;unfold top mD at h;split at h
  ·cases h
  ·rename_i a;split at h
   ·cases h
   ·rename_i b;split at h
    ·cases h
    ·rename_i c;rcases hx with e |e |e<;>subst e
     ·exact a (cG.mpr hm)
     ·exact b (cG.mpr hm)
     ·exact c (cG.mpr hm)
 ·intro h;cases q:top xs with
  |none=>rfl
  |some t=>refine A2 (dT q) λm i=> ?_;exact absurd m (h t i)
theorem mF{xs:List Atom}{t:Nm}(hi:cu t)(hm: .n t∈xs)(h:∀x,cu x->.n x∈xs->x=t):top xs=some t:=by
 cases q:top xs with
 |none=>exact absurd hm (ig.mp q t hi)
 |some u=>refine A2 (dT q) λm i=> ?_;rw[h u i m]
theorem mG{xs ys:List Atom}(h:∀b,b∈xs↔b∈ys):less xs=less ys:=by
 have ht:top xs=top ys:=by
  unfold top mD;have:∀x,has gA xs x=has gA ys x:=λx=>by rw[aaC,cG,cG,h]
  simp only[this]
 cases q:top ys with
 |some t=>simp only[bW (ht.trans q),bW q]
 |none=>
  simp only[less_none (ht.trans q),less_none q];have hb:∀b,b∈bools xs↔b∈bools ys:=λb=>by simp only[aH,aH];simp only[both,h]
  exact ub ti (uc (λb=>(hb b).mp) λb m=> .inl ((hb b).mpr m))
theorem JR{A B:List Atom}(h:∀z,cu z->(.n z∈A↔.n z∈B)):top A=top B:=by
 obtain e:∀z,cu z->has gA A z=has gA B z:=λz hz=>by rw[aaC,cG,cG,h z hz]
 unfold top mD;rw[e gI (.inl rfl),e aL (.inr (.inl rfl)),e tj (.inr (.inr rfl))]
theorem xD{S:List Atom}{x:Nm}(d:tm S x):x≠aT/\x≠aU:=by
 obtain this:∀x:Nm,bare x≠x\/wide x≠none->x≠aT/\x≠aU:=by decide
 exact this x (d.imp (λx=>x.1) λi4=>ah i4 λw h ab=>by rw[h];exactλq=>nomatch q)
theorem ud:∀x:Nm,bare x≠x->bare x≠aT/\bare x≠aU:=by decide
theorem cK:∀{x:Nm},cu x->x≠aT/\x≠aU/\bare x=x/\wide x=none/\x≠9/\x≠10:=by
 rintro x (e |e |e)<;>subst e<;>decide
theorem xE{S S':List Atom}(h:∀b∈S,b∈S'){x:Nm}(d:tm S x):tm S' x:=d.imp (λk=>⟨k.1,h _ k.2⟩) λi4=>ah i4 λw k m=>⟨w,k,h _ m⟩
def Fix(f:Atom->List Atom):Prop:=∀x:Nm,x≠aT->x≠aU->f (.n x)=[.n x]
theorem Fix.mem{f:Atom->List Atom}(F:Fix f){l:List Atom}{x:Nm}(h: .n x∈l)(h1:x≠aT)(h2:x≠aU): .n x∈l.flatMap f:=
 aau.mpr ⟨_,h,by rw[F x h1 h2];exact aag.mpr rfl⟩
theorem xF{xs:List Atom}(q:top xs=none){x:Nm}(d:tm (bools xs) x):tm (less xs) x:=by
 have kw:∀{x w},wide x=some w->.n w∈bools xs->.n w∈less xs:=λ{x w} hw hm=>by
  refine A3 (vh x w hw) λa1 a2 ab=> ?_;refine(aN q).mpr (aaN.mpr ⟨hm,dq.mpr λy e d=> ?_⟩);cases e;refine aaI d (λaZ=>A2 aZ λk ab=> ?_) λaw=>ah aw λv k ab=> ?_
  ·exact k a2
  ·rw[a1]at k;cases k
 refine aaI d (λaZ=>A2 aZ λh1 h2=> ?_) λaw=>ah aw λw h1 h2=> ?_
 ·by_cases hk:keep (bools xs) (.n (bare x))=true
  ·exact .inl ⟨h1,(aN q).mpr (aaN.mpr ⟨h2,hk⟩)⟩
  ·obtain this:tm (bools xs) (bare x):=by
    refine acQ λhd=>hk (dq.mpr λy e=> ?_);cases e;exact hd
   refine aaI this (λaZ=>A2 aZ λz ab=> ?_) λaw=>ah aw λw h3 h4=> ?_
   ·exact absurd (i3 x) z
   ·rw[oo]at h3;exact .inr ⟨w,h3,kw h3 h4⟩
 ·exact .inr ⟨w,h1,kw h1 h2⟩
theorem GG{xs:List Atom}(q:top xs=none){b:Atom}(hb:b∈xs):b∈less xs\/∃x,b= .n x/\tm (less xs) x:=by
 by_cases hl:b∈less xs
 ·exact .inl hl
 ·right;obtain hk:¬keep (bools xs) b=true:=λhk=>hl ((aN q).mpr (aaN.mpr ⟨aH.mpr (.inl hb),hk⟩));refine acQ λhd=>hk (dq.mpr λy e d=>hd ⟨y,e,xF q d⟩)
theorem xG{A B:List Atom}(AB:∀b∈A,b∈B\/∃x,b= .n x/\tm B x)(BA:∀b∈B,b∈bools A):less B=less A:=by
 obtain get:∀{b p:Nm},bare b=p->bare p=p->wide b=none->wide p=none->(.n p∈A\/.n b∈A)->(.n p∈B\/.n b∈B):=λ{b p} h1 h2 h3 h4 h=>by
  rcases h with h |h
  ·rcases AB _ h with h |⟨x,e,d⟩
   ·exact .inl h
   ·cases e;rcases d with⟨k,_⟩ |⟨w,k,_⟩
    ·exact absurd h2 k
    ·rw[h4]at k;cases k
  ·refine aaI (AB _ h) (λh=> ?_) λaw=>ah aw λx e d=> ?_
   ·exact .inr h
   ·cases e;rcases d with⟨_,k⟩ |⟨w,k,_⟩
    ·exact .inl (h1▸k)
    ·rw[h3]at k;cases k
 have bB:both A->both B:=λh=>⟨get (b:=11) rfl rfl rfl rfl h.1,get (b:=12) rfl rfl rfl rfl h.2⟩;obtain YB:both B->both A:=λh=>by
  have go:∀{y},.n y∈B->.n y∈A\/both A:=λhy=>(aH.mp (BA _ hy)).imp id (λx=>x.1);rcases h.1 with h1 |h1<;>rcases h.2 with h2 |h2<;>rcases go h1 with k1 |k1<;>first |exact k1 |skip
  all_goals rcases go h2 with k2 |k2<;>first |exact k2 |skip
  ·exact⟨.inl k1,.inl k2⟩
  ·exact⟨.inl k1,.inr k2⟩
  ·exact⟨.inr k1,.inl k2⟩
  ·exact⟨.inr k1,.inr k2⟩
 have hT:=JR λz hz=>by
  refine A6 (cK hz) λab ai c1 c2 c3 c4=> ?_;constructor
  ·intro h;rcases aH.mp (BA _ h)with h |⟨_,e |e⟩
   ·exact h
   ·cases e;exact absurd rfl c3
   ·cases e;exact absurd rfl c4
  ·intro h;refine aaI (AB _ h) (λh=> ?_) λaw=>ah aw λx e d=> ?_
   ·exact h
   ·cases e;refine aaI d (λaZ=>A2 aZ λk ab=> ?_) λaw=>ah aw λw k ab=> ?_
    ·exact absurd c1 k
    ·rw[c2]at k;cases k
 cases r:top A with
 |some t=>simp only[bW r,bW (hT.trans r)]
 |none=>
  simp only[less_none r,less_none (hT.trans r)];refine ub ti (uc (λb hb=> ?_) λb hb=> ?_)
  ·rcases aH.mp hb with h |⟨h,e⟩
   ·exact BA b h
   ·exact aH.mpr (.inr ⟨YB h,e⟩)
  ·rcases aH.mp hb with h |⟨h,e⟩
   ·refine aaI (AB b h) (λh=> ?_) λaw=>ah aw λx e d=> ?_
    ·exact .inl (aH.mpr (.inl h))
    ·exact .inr ⟨x,e,xE (λb hb=>aH.mpr (.inl hb)) d⟩
   ·exact .inl (aH.mpr (.inr ⟨bB h,e⟩))
theorem oq{f:Atom->List Atom}(F:Fix f){xs:List Atom}(ht:∀t,top xs=some t->∀z,cu z->.n z∈xs.flatMap f->z=t):less ((less xs).flatMap f)=less (xs.flatMap f):=by
 cases q:top xs with
 |some t=>refine A2 (dT q) λm i=> ?_;refine A3 (cK i) λb1 b2 ab=> ?_;simp only[bW q,bW (mF i (F.mem m b1 b2) (ht t q)),aaA,F t b1 b2];exact bW (mF i aac λx ab h=>by simpa using h)
 |none=>
  obtain k2:∀{x},tm (bools xs) x->tm (less xs) x:=xF q;have k4:∀{x},tm (less xs) x->tm ((less xs).flatMap f) x:=λ{x} d=>by
   refine aaI d (λaZ=>A2 aZ λh1 h2=> ?_) λaw=>ah aw λw h1 h2=> ?_
   ·exact .inl ⟨h1,F.mem h2 (ud x h1).1 (ud x h1).2⟩
   ·exact .inr ⟨w,h1,F.mem h2 (vh x w h1).2.2.1 (vh x w h1).2.2.2⟩
  obtain AB:∀b∈xs.flatMap f,b∈(less xs).flatMap f\/∃x,b= .n x/\tm ((less xs).flatMap f) x:=λb hb=>by
   refine ah (aau.mp hb) λa ha Od=> ?_;by_cases hl:a∈less xs
   ·exact .inl (aau.mpr ⟨a,hl,Od⟩)
   ·right;obtain⟨x,e,d⟩:∃x,a= .n x/\tm (bools xs) x:=by
     refine acQ λhd=>(λhk=>hl ((aN q).mpr (aaN.mpr ⟨aH.mpr (.inl ha),hk⟩))) (dq.mpr λy e d=>hd ⟨y,e,d⟩)
    subst e;rw[F x (xD d).1 (xD d).2,aag]at Od;exact⟨x,Od,k4 (k2 d)⟩
  obtain bA:both xs->both (xs.flatMap f):=λh=>⟨h.1.imp (λm=>F.mem m (by decide) (by decide)) λm=>F.mem m (by decide) (by decide),h.2.imp (λm=>F.mem m (by decide) (by decide)) λm=>F.mem m (by decide) (by decide)⟩;obtain BA:∀b∈(less xs).flatMap f,b∈bools (xs.flatMap f):=λb hb=>by
   refine ah (aau.mp hb) λa ha Od=> ?_;rcases aH.mp (aaN.mp ((aN q).mp ha)).1 with h |⟨h,e⟩
   ·exact aH.mpr (.inl (aau.mpr ⟨a,h,Od⟩))
   ·have:f a=[a]:=by rcases e with e |e<;>subst e<;>exact F _ (by decide) (by decide)
    rw[this,aag]at Od;subst Od;exact aH.mpr (.inr ⟨bA h,e⟩)
  exact xG AB BA
theorem BN{β:Type}{l:List β}{g:β->List Atom}(ht:∀t,top (l.flatMap g)=some t->∀z,cu z->.n z∈l.flatMap g->z=t):less (l.flatMap λa=>less (g a))=less (l.flatMap g):=by
 have sub:∀b,(∃z,b= .n z/\cu z)->b∈l.flatMap (λa=>less (g a))->b∈l.flatMap g:=λb ⟨z,e,hz⟩ hb=>by
  refine ah (aau.mp hb) λa ha hb=> ?_;refine aau.mpr ⟨a,ha,?_⟩;cases q:top (g a)with
  |some t=>rw[bW q,aag]at hb;exact hb▸(dT q).1
  |none=>
   refine A6 (cK hz) λab ai aD bO c3 c4=> ?_;rcases aH.mp (aaN.mp ((aN q).mp hb)).1 with h |⟨_,h |h⟩
   ·exact h
   ·rw[e]at h;cases h;exact absurd rfl c3
   ·rw[e]at h;cases h;exact absurd rfl c4
 cases q:top (l.flatMap g)with
 |some t=>refine A2 (dT q) λm i=> ?_;refine ah (aau.mp m) λa ha hm=> ?_;simp only[bW q];refine bW (mF i (aau.mpr ⟨a,ha,?_⟩) λz hz h=>ht t q z hz (sub _ ⟨z,rfl,hz⟩ h));rw[bW (mF i hm λz hz h=>ht t q z hz (aau.mpr ⟨a,ha,h⟩))];exact aac
 |none=>
  have qa:=λa ha=>ig.mpr λx hx h=>ig.mp q x hx (aau.mpr ⟨a,ha,h⟩);refine xG (λb hb=> ?_) λb hb=> ?_
  ·refine ah (aau.mp hb) λa ha hb=> ?_;have up:∀c∈less (g a),c∈l.flatMap λa=>less (g a):=λc hc=>aau.mpr ⟨a,ha,hc⟩;exact(GG (qa a ha) hb).imp (up b) λi4=>ah i4 λx e d=>⟨x,e,xE up d⟩
  ·refine ah (aau.mp hb) λa ha hb=> ?_;have up:∀c∈g a,c∈l.flatMap g:=λc hc=>aau.mpr ⟨a,ha,hc⟩;rcases aH.mp (aaN.mp ((aN (qa a ha)).mp hb)).1 with h |⟨h,e⟩
   ·exact aH.mpr (.inl (up b h))
   ·exact aH.mpr (.inr ⟨⟨h.1.imp (up _) (up _),h.2.imp (up _) (up _)⟩,e⟩)
theorem GH(a:Nm):∀l:List Nm,(pM iq a l).map Atom.n=pM txt (.n a) (l.map Atom.n):=by
 intro v_;induction v_ with
 |nil=>exact rfl
 |cons b r ih=>
  obtain e:∀x,txt (.n x)=iq x:=λab=>by simp only[txt]
  simp only[aaH,pM,pM,e,e];split
  ·rfl
  ·split
   ·rfl
   ·simp only[aaH,ih]
theorem DT:∀l:List Nm,(canon iq l).map Atom.n=canon txt (l.map Atom.n):=by
 intro v_;induction v_ with
 |nil=>exact rfl
 |cons a r ih=>simp only[aaH,canon,canon,GH,ih]
theorem vi(l:List Nm)(x:Nm):has gA (l.map Atom.n) x=has some l x:=by unfold has;simp only[acF];rfl
theorem DU(l:List Nm):ib gA Atom.n (l.map Atom.n)=(ib some id l).map Atom.n:=by
 unfold ib;simp only[vi];split
 ·simp
 ·rfl
theorem GI(l:List Nm)(x:Nm):ru gA (l.map Atom.n) (.n x)=ru some l x:=by unfold ru;simp only[vi];rfl
theorem aY(l:List Nm):(aC l).map Atom.n=less (l.map Atom.n):=by
 unfold aC less xy;obtain ht:mD gA (l.map Atom.n)=mD some l:=by unfold mD;simp only[vi]
 simp only[ht];cases mD some l with
 |some t=>rfl
 |none=>simp only[DT,DU];congr 1;simp only[List.filter_map];congr 1;refine List.filter_congr λx ab=> ?_;show ru some (ib some id l) x=ru gA ((ib some id l).map Atom.n) (.n x);simp only[GI]
theorem o6{l l':List Nm}(h:l.map Atom.n=l'.map Atom.n):l=l':=by
 induction l generalizing l' with
 |nil=>cases l' with |nil=>rfl |cons=>cases h
 |cons a l ih=>cases l' with
  |nil=>cases h
  |cons b l'=>simp only[aaH,acw,Atom.n.injEq]at h;simp only[h.1,ih h.2]
def fN(m:Env):Atom->List Atom
 | .n x=>(sub m x).map .n
 |a=>[a]
theorem gE{m:Env}{x:Nm}(h1:x≠aT)(h2:x≠aU):sub m x=[x]:=by rw[sub,if_neg h1,if_neg h2]
theorem Oe(m:Env):Fix (fN m):=λx h1 h2=>by show(sub m x).map _=_;rw[gE h1 h2];rfl
theorem rD(m:Env)(l:List Nm):(subs m l).map Atom.n=less ((l.map Atom.n).flatMap (fN m)):=by simp only[subs,aY,acz,abV];rfl
def Env.then(m₁ m₂:Env):Env:=⟨m₁.T.flatMap (sub m₂),m₁.U.flatMap (sub m₂)⟩
theorem rE(m₁ m₂:Env)(x:Nm):sub (m₁.then m₂) x=(sub m₁ x).flatMap (sub m₂):=by
 unfold sub;split
 ·rfl
 ·split
  ·rfl
  ·rename_i h1 h2;rw[aaA,if_neg h1,if_neg h2]
def One(l:List Nm):Prop:=∃t,∀z∈l,cu z->z=t
theorem ue{m₁ m₂:Env}{l:List Nm}(h:One (l.flatMap (sub (m₁.then m₂)))):subs m₂ (subs m₁ l)=subs (m₁.then m₂) l:=by
 obtain h':∀z∈l.flatMap (sub m₁),cu z->z∈l.flatMap (sub (m₁.then m₂)):=λz hz it=>by refine ah (aau.mp hz) λx hx hz=> ?_;refine aau.mpr ⟨x,hx,?_⟩;rw[rE];exact aau.mpr ⟨z,hz,by rw[gE (cK it).1 (cK it).2.1];exact aag.mpr rfl⟩
 refine o6 ?_;simp only[rD,rD,rD];have e:((l.map Atom.n).flatMap (fN m₁)).flatMap (fN m₂)=(l.map Atom.n).flatMap (fN (m₁.then m₂)):=by simp only[aeC,abV,abV];congr 1;funext x;show((sub m₁ x).map Atom.n).flatMap (fN m₂)=(sub (m₁.then m₂) x).map Atom.n;simp only[rE,abV,acz];rfl
 rw[oq (Oe m₂),e];intro t q z hz hm;rw[e]at hm;refine pE h λu hu=> ?_;obtain em:∀(m:Env) (z:Nm),.n z∈(l.map Atom.n).flatMap (fN m)->z∈l.flatMap (sub m):=λm z h=>by
  obtain this:(l.map Atom.n).flatMap (fN m)=(l.flatMap (sub m)).map Atom.n:=by simp only[abV,acz];rfl
  rw[this]at h;refine ah (aal.mp h) λy hy e=> ?_;cases e;exact hy
 refine A2 (dT q) λmt it=> ?_;simp only[hu z (em _ z hm) hz,hu t (h' t (em _ t mt) it) it]
theorem cZ(m:Env):∀l:List Atom,bC l m=l.flatMap λa=>ev a m:=by
 intro v_;induction v_ with
 |nil=>simp only[bC];rfl
 |cons a r ih=>simp only[bC,ih];rfl
mutual
noncomputable def nj(t:Nm):Atom->Prop
 | .n x=>cu x->x=t
 | .cond c a y n ab=>(aL∈c\/aL∈a->t=aL)/\zP t y/\zP t n
noncomputable def zP(t:Nm):List Atom->Prop
 |[]=>True
 |a::r=>nj t a/\zP t r
end
theorem dB{t:Nm}:∀{l:List Atom},zP t l↔∀b∈l,nj t b:=by
 intro v_;induction v_ with
 |nil=>simp[zP]
 |cons a r ih=>simp only[zP,ih,aam,forall_eq_or_imp]
def TopE(t:Nm)(m:Env):Prop:=∀x,cu x->x∈m.T\/x∈m.U->x=t
theorem mH{t:Nm}{m:Env}(E:TopE t m){l:List Nm}{z:Nm}(hz:cu z)(h:z∈l.flatMap (sub m)):z∈l\/z=t:=by
 refine ah (aau.mp h) λx hx h=> ?_;unfold sub at h;split at h
 ·exact .inr (E z hz (.inl h))
 ·split at h
  ·exact .inr (E z hz (.inr h))
  ·exact .inl (aag.mp h▸hx)
theorem dr{xs:List Atom}{b:Atom}(h:b∈less xs):b∈xs\/b= .n 9\/b= .n 10:=by
 cases q:top xs with
 |some t=>rw[bW q,aag]at h;exact .inl (h▸(dT q).1)
 |none=>exact(aH.mp (aaN.mp ((aN q).mp h)).1).imp id (λx=>x.2)
theorem eQ{t:Nm}{l:List Atom}(h:∀b∈l,nj t b):∀b∈less l,nj t b:=λb hb=>by
 rcases dr hb with q |q |q
 ·exact h b q
 ·subst q;simp only[nj];rintro (e |e |e)<;>cases e
 ·subst q;simp only[nj];rintro (e |e |e)<;>cases e
theorem ot{l:List Nm}{z:Nm}(hz:cu z)(h:z∈aC l):z∈l:=by
 have:Atom.n z∈less (l.map Atom.n):=aY l▸aan h;refine A6 (cK hz) λab ai aD bO c3 c4=> ?_;rcases dr this with q |q |q
 ·refine ah (aal.mp q) λy hy e=> ?_;cases e;exact hy
 ·cases q;exact absurd rfl c3
 ·cases q;exact absurd rfl c4
theorem rF{t:Nm}{m:Env}(E:TopE t m){l:List Nm}{z:Nm}(hz:cu z)(h:z∈subs m l):z∈l\/z=t:=mH E hz (ot hz h)
theorem dF:cu aL:= .inr (.inl rfl)
theorem GJ{t:Nm}(h:t=aL):∀b∈[Atom.n aL],nj t b:=λb hb=>by simp only[aag.mp hb];exactλab=>h.symm
theorem vj{t:Nm}{held ask:List Nm}{y n:List Atom}{s:Bool}(he:aL∈held\/aL∈ask->t=aL)(hy:∀b∈y,nj t b)(hn:∀b∈n,nj t b):∀b∈pick held ask y n s,nj t b:=by
 unfold pick;split
 ·rename_i h;simp only[aaY]at h;obtain this:ask=[aL]:=by simpa using h.1
  exact GJ (he (.inr (by rw[this];exact aac)))
 ·split
  ·intro b hb;rw[aag.mp hb];exact⟨he,dB.mpr hy,dB.mpr hn⟩
  ·split
   ·exact hy
   ·split
    ·exact eQ λb hb=>(aaz.mp hb).elim (hy b) (hn b)
    ·split
     ·exact hy
     ·exact hn
theorem jV{t:Nm}{m:Env}(E:TopE t m){c:List Nm}{one:Nm}(h:c=[aT]\/c=[aU]->cu one->one=t):TopE t (near c m one):=λx hx hm=>by
 unfold near at hm;split at hm
 ·rename_i hc;rcases hm with hm |hm
  ·obtain hm:x∈[one]:=hm;rw[aag]at hm;subst hm;exact h (.inl hc) hx
  ·exact E x hx (.inr hm)
 ·split at hm
  ·rename_i hc;rcases hm with hm |hm
   ·exact E x hx (.inl hm)
   ·obtain hm:x∈[one]:=hm;rw[aag]at hm;subst hm;exact h (.inr hc) hx
  ·exact E x hx hm
theorem mI{t:Nm}{m:Env}(E:TopE t m){c:List Nm}{one:Nm}(h:one∈subs m c)(hc:c=[aT]\/c=[aU])(ho:cu one):one=t:=by
 rcases rF E ho h with q |q
 ·refine A3 (cK ho) λb1 b2 ab=> ?_;rcases hc with e |e<;>rw[e,aag]at q
  ·exact absurd q b1
  ·exact absurd q b2
 ·exact q
mutual
theorem BO{t:Nm}:∀(A:Atom) {m:Env},nj t A->TopE t m->∀b∈ev A m,nj t b
 | .n x,m,h,E,b,hb=>by
  refine ah (aal.mp hb) λz hz e=> ?_;subst e;intro hi;obtain this:z∈[x].flatMap (sub m):=by rw[aaA];exact hz
  rcases mH E hi this with q |q
  ·rw[aag.mp q]at hi⊢;simp only[nj]at h;exact h hi
  ·exact q
 | .cond c a y n s,m,h,E,b,hb=>by
  refine A3 h λh1 h2 h3=> ?_;have er:∀{m':Env},TopE t m'->∀l,(aL∈l->t=aL)->aL∈subs m' l->t=aL:=λE' l hl he=>(rF E' dF he).elim hl Eq.symm;simp only[ev]at hb;split at hb
  ·rename_i hh;exact GJ (er E c (λz=>h1 (.inl z)) (by rw[hh];exact aac)) b hb
  ·split at hb
   ·refine eQ (λb hb=> ?_) b hb;refine ah (aau.mp hb) λone ho hb=> ?_;have En:=jV E (mI E ho);refine vj (λz=>z.elim (λz=> ?_) (er En a λz=>h1 (.inr z))) (eQ (eI y h2 En)) (eQ (eI n h3 En)) b hb;exact er E c (λz=>h1 (.inl z)) (aag.mp z▸ho)
   ·exact vj (λz=>z.elim (er E c λz=>h1 (.inl z)) (er E a λz=>h1 (.inr z))) (eQ (eI y h2 E)) (eQ (eI n h3 E)) b hb
theorem eI{t:Nm}:∀(l:List Atom) {m:Env},zP t l->TopE t m->∀b∈bC l m,nj t b
 |[],m,ab,ai,b,hb=>by simp only[bC]at hb;cases hb
 |a::r,m,h,E,b,hb=>by
  rcases aaz.mp hb with hb |hb
  ·exact BO a h.1 E b hb
  ·exact eI r h.2 E b hb
end
theorem xH(l:List Atom):l.flatMap (λa=>[a])=l:=by induction l with |nil=>rfl |cons a l ih=>rw[aaU,ih];rfl
theorem i5{t:Nm}(h:cu t):less [.n t]=[.n t]:=bW (mF h aac λab ai m=>by simpa using m)
theorem bG(A:List Atom):less (less A)=less A:=by
 cases q:top A with
 |some t=>rw[bW q];exact i5 (dT q).2
 |none=>obtain this:=oq (f:=λa=>[a]) (λab ai aD=>rfl) (xs:=A) (λt h=>by rw[q]at h;cases h);rwa [xH,xH]at this
def Tp(t:Nm)(l:List Atom):Prop:=∀z,cu z->.n z∈l->z=t
theorem xI{t:Nm}{l:List Atom}(h:∀b∈l,nj t b):Tp t l:=λz hz hm=>by have:=h _ hm;rw[nj]at this;exact this hz
theorem vk{t:Nm}{A B:List Atom}(h:Tp t B)(up:∀z,cu z->.n z∈A->.n z∈B):∀u,top A=some u->∀z,cu z->.n z∈B->z=u:=λu q z hz hm=>by refine A2 (dT q) λm i=> ?_;simp only[h z hz hm,h u i (up u i m)]
theorem GK(m:Env):Fix λa=>ev a m:=λx h1 h2=>by simp only[ev,gE h1 h2];rfl
theorem mJ{t:Nm}{m:Env}{A:List Atom}(h:Tp t (bC A m)):less (bC (less A) m)=less (bC A m):=by simp only[cZ]at h;simp only[cZ,cZ];exact oq (GK m) (vk h λz hz hm=>(GK m).mem hm (cK hz).1 (cK hz).2.1)
theorem mK{t:Nm}{A B:List Atom}(h:Tp t (A++B)):less (less A++less B)=less (A++B):=by simpa using(BN (l:=[A,B]) (g:=id) (vk (A:=[A,B].flatMap id) (t:=t) (by simpa using h) λab ai h=>h))
theorem gF(l:List Nm):aC (aC l)=aC l:=o6 (by simp only[aY,aY,bG])
def ax(l:List Nm):Prop:=∀x∈l,x≠aT/\x≠aU
theorem eJ{l:List Nm}:isOpen l=false↔ax l:=by
 unfold isOpen ax;rw[aen];simp only[List.contains_eq_mem,decide_eq_false_iff_not];constructor
 ·rintro ⟨h1,h2⟩ x hx
  exact⟨λe=>h1 (e▸hx),λe=>h2 (e▸hx)⟩
 ·intro h;exact⟨λm=>(h _ m).1 rfl,λm=>(h _ m).2 rfl⟩
theorem cC{m:Env}:∀{l:List Nm},ax l->l.flatMap (sub m)=l:=by
 intro v_;induction v_ with
 |nil=>intro dJ;exact rfl
 |cons x l ih=>intro h;simp only[aaU,ih λy hy=>h y (aaf _ hy),gE (h x aac).1 (h x aac).2];rfl
theorem bF{m:Env}{l:List Nm}(h:ax l)(hc:aC l=l):subs m l=l:=by simp only[subs,cC h,hc]
theorem eM(m:Env)(l:List Nm):aC (subs m l)=subs m l:=gF _
theorem kC{held ask:List Nm}{y n:List Atom}{s:Bool}(hy:less y=y)(hn:less n=n):less (pick held ask y n s)=pick held ask y n s:=by
 unfold pick;split
 ·exact i5 dF
 ·split
  ·obtain this:top [Atom.cond held ask y n s]=none:=ig.mpr λx ab h=>by simp at h
   obtain hb:bools [Atom.cond held ask y n s]=[.cond held ask y n s]:=by obtain this:∀x,has gA [Atom.cond held ask y n s] x=false:=λx=>rfl;simp[bools,ib,this]
   rfl
  ·split
   ·exact hy
   ·split
    ·exact bG _
    ·split
     ·exact hy
     ·exact hn
theorem uf{t:Nm}{m:Env}{held ask:List Nm}{y n Y N:List Atom}{s:Bool}(hc:ax held)(hk:aC held=held)(hs:s=true->held.length=1)(he:held≠[aL])
  (ha:aC ask=ask) (E:TopE t m) (oy:zP t y) (on:zP t n) (hy:less (bC y m)=Y) (hn:less (bC n m)=N):less (bC (pick held ask y n s) m)=pick held (subs m ask) Y N s:=by
 obtain cY:less Y=Y:=by simp only[<-hy,bG]
 obtain cN:less N=N:=by simp only[<-hn,bG]
 obtain ho:=eJ.mpr hc;obtain err:ax [aL]:=λx hx=>by rw[aag.mp hx];decide
 by_cases h1:ask=[aL]
 ·subst h1;obtain e1:subs m [aL]=[aL]:=bF err ha;obtain p:∀y n,pick held [aL] y n s=[.n aL]:=λy n=>by simp[pick,ho]
  simp only[e1,p,p,bC,ev,bC];exact i5 dF
 ·cases h2:isOpen ask with
  |true=>
   obtain p:pick held ask y n s=[.cond held ask y n s]:=by simp[pick,ho,h1,h2]
   have hl:(s &&held.length !=1)=false:=by
    cases s with
    |false=>rfl
    |true=>simp[hs rfl]
   rw[p,bC,bC,aaV,ev,bF hc hk,if_neg he,hl];simp only[aca,if_false];simp only[hy,hn];exact kC cY cN
  |false=>
   have YC:=eJ.mp h2;rw[bF YC ha];unfold pick;simp only[ho,h1,h2,decide_false,Bool.false_and,aca,if_false,Bool.or_self];split
   ·exact hy
   ·split
    ·obtain ok:∀b∈y++n,nj t b:=λb hb=>(aaz.mp hb).elim (dB.mp oy b) (dB.mp on b);obtain tp:=xI (eI _ (dB.mpr ok) E);simp only[mJ tp,<-hy,<-hn];obtain e:bC (y++n) m=bC y m++bC n m:=by simp only[cZ,cZ,cZ,acO]
     simp only[e]at tp⊢;exact(mK tp).symm
    ·split
     ·exact hy
     ·exact hn
theorem rG{l:List Nm}{z:Nm}(h:z∈aC l):z∈l\/z=9\/z=10:=by
 have:Atom.n z∈less (l.map Atom.n):=aY l▸aan h;rcases dr this with q |q |q
 ·refine ah (aal.mp q) λy hy e=> ?_;cases e;exact .inl hy
 ·cases q;exact .inr (.inl rfl)
 ·cases q;exact .inr (.inr rfl)
theorem dN{l:List Nm}(h:ax l):ax (aC l):=λx hx=>by
 rcases rG hx with q |q |q
 ·exact h x q
 ·subst q;decide
 ·subst q;decide
def DV(l:List Nm):Prop:=(∀z∈l,¬cu z)\/∃z,cu z/\l=[z]
theorem eN(l:List Nm):DV (aC l):=by
 cases q:top (l.map Atom.n)with
 |some t=>exact .inr ⟨t,(dT q).2,o6 (by simp only[aY,bW q];rfl)⟩
 |none=>refine .inl λz hz hi=> ?_;exact ig.mp q z hi (aan (ot hi hz))
theorem Of{t:Nm}{m:Env}{l:List Nm}(h:DV l)(E:TopE t m):One (l.flatMap (sub m)):=by
 rcases h with h |⟨z,hz,e⟩
 ·exact⟨t,λz hm hi=>(mH E hi hm).elim (λq=>absurd hi (h z q)) id⟩
 ·subst e;refine⟨z,λy hm ab=> ?_⟩;rw[aaA,gE (cK hz).1 (cK hz).2.1]at hm;exact aag.mp hm
theorem rH{t:Nm}{m₁ m₂:Env}(gh:TopE t m₁)(gj:TopE t m₂):TopE t (m₁.then m₂):=λx hx h=>by
 rcases h with h |h
 ·exact(mH gj hx h).elim (λq=>gh x hx (.inl q)) id
 ·exact(mH gj hx h).elim (λq=>gh x hx (.inr q)) id
def Known(m₁ m₂:Env):Prop:=(ax m₁.T\/m₁.T=[aT]/\ax m₂.T)/\(ax m₁.U\/m₁.U=[aU]/\ax m₂.U)
def IG(c:List Nm):Prop:=aC c=c/\(ax c\/c=[aT]\/c=[aU])
mutual
noncomputable def Fm:Atom->Prop
 | .n ab=>True
 | .cond c a y n ab=>IG c/\DV a/\zQ y/\zQ n
noncomputable def zQ:List Atom->Prop
 |[]=>True
 |a::r=>Fm a/\zQ r
end
theorem bX{x:Nm}{l:List Nm}(h:ax l)(m:x∈l):ax [x]:=λy hy=>aag.mp hy▸h x m
theorem dK{c:List Nm}(h:ax c)(m:Env)(one:Nm):near c m one=m:=by
 obtain h1:c≠[aT]:=λe=>by obtain this:=h aT (by rw[e];exact aac);exact this.1 rfl
 obtain h2:c≠[aU]:=λe=>by obtain this:=h aU (by rw[e];exact aac);exact this.2 rfl
 rw[near,if_neg h1,if_neg h2]
inductive Way(c:List Nm)(m₁ m₂:Env):Prop
 |known(h:ax (subs m₁ c))(k:∀one∈subs m₁ c,near c (m₁.then m₂) one=(near c m₁ one).then m₂/\Known (near c m₁ one) m₂)
 |Mh(h:subs m₁ c=c)(o:isOpen c=true)(l:c.length=1)(k:∀one∈subs m₂ c,near c (m₁.then m₂) one=m₁.then (near c m₂ one)/\Known m₁ (near c m₂ one))
theorem way{c:List Nm}{m₁ m₂:Env}(F:IG c)(K:Known m₁ m₂):Way c m₁ m₂:=by
 obtain⟨hc,F⟩:=F;refine A2 K λKT KU=> ?_;rcases F with h |h |h
 ·exact .known (by rw[bF h hc];exact h) λone ab=>by rw[dK h,dK h];exact⟨rfl,KT,KU⟩
 ·subst h;obtain sT:∀m:Env,subs m [aT]=aC m.T:=λm=>by simp only[subs,aaA];rfl
  rcases KT with h |⟨h,h2⟩
  ·refine .known (by rw[sT];exact dN h) λone ho=> ?_;rw[sT]at ho;have h1:=bX (dN h) ho;refine⟨?_,.inl h1,KU⟩;show Env.mk [one] _=Env.mk ([one].flatMap (sub m₂)) _;rw[cC h1];rfl
  ·refine .Mh (by rw[sT,h];exact hc) rfl rfl λone ho=> ?_;rw[sT]at ho;have h1:=bX (dN h2) ho;refine⟨?_,.inr ⟨h,h1⟩,KU⟩;show Env.mk [one] (m₁.U.flatMap (sub m₂))=Env.mk (m₁.T.flatMap (sub {m₂ with T:=[one]})) (m₁.U.flatMap (sub {m₂ with T:=[one]}));rw[h];congr 1;rcases KU with k |⟨k,_⟩
   ·simp only[cC k,cC k]
   ·simp only[k,aaA,aaA];rfl
 ·subst h;obtain sU:∀m:Env,subs m [aU]=aC m.U:=λm=>by simp only[subs,aaA];rfl
  rcases KU with h |⟨h,h2⟩
  ·refine .known (by rw[sU];exact dN h) λone ho=> ?_;rw[sU]at ho;have h1:=bX (dN h) ho;refine⟨?_,KT,.inl h1⟩;show Env.mk _ [one]=Env.mk _ ([one].flatMap (sub m₂));rw[cC h1];rfl
  ·refine .Mh (by rw[sU,h];exact hc) rfl rfl λone ho=> ?_;rw[sU]at ho;refine⟨?_,KT,.inr ⟨h,(bX (dN h2) ho)⟩⟩;show Env.mk (m₁.T.flatMap (sub m₂)) [one]=Env.mk (m₁.T.flatMap (sub {m₂ with U:=[one]})) (m₁.U.flatMap (sub {m₂ with U:=[one]}));rw[h];congr 1;rcases KT with k |⟨k,_⟩
   ·simp only[cC k,cC k]
   ·simp only[k,aaA,aaA];rfl
theorem gm{α β:Type}{f g:α->List β}:∀{l:List α},(∀a∈l,f a=g a)->l.flatMap f=l.flatMap g:=by
 intro v_;induction v_ with
 |nil=>intro dJ;exact rfl
 |cons a l ih=>intro h;simp only[aaU,aaU,h a aac,ih λb hb=>h b (aaf _ hb)]
theorem aO:∀x:Nm,aC [x]=[x]:=by decide+kernel
theorem ou{m:Env}{c:List Nm}(h:aL∈subs m c):subs m c=[aL]:=by
 refine aaI (eN (c.flatMap (sub m))) (λq=> ?_) λaw=>ah aw λz ab q=> ?_
 ·exact absurd dF (q _ h)
 ·have h':aL∈aC (c.flatMap (sub m)):=h;rw[q,aag]at h';exact h'▸q
def part(c a:List Nm)(y n:List Atom)(s:Bool)(m:Env)(one:Nm):List Atom:=pick [one] (subs (near c m one) a) (less (bC y (near c m one))) (less (bC n (near c m one))) s
theorem cO(c a:List Nm)(y n:List Atom)(s:Bool)(m:Env):ev (.cond c a y n s) m=if subs m c=[aL]then[.n aL]else if(s &&(subs m c).length !=1)=true then less ((subs m c).flatMap (part c a y n s m))else
  pick (subs m c) (subs m a) (less (bC y m)) (less (bC n m)) s:=by simp only[ev];rfl
section
variable {t:Nm}{c a:List Nm}{y n:List Atom}{s:Bool}
theorem BP{m:Env}(h1:aL∈c\/aL∈a->t=aL)(h2:zP t y)(h3:zP t n)(E:TopE t m):∀b∈(subs m c).flatMap (part c a y n s m),nj t b:=λb hb=>by refine ah (aau.mp hb) λone ho hb=> ?_;obtain En:TopE t (near c m one):=jV E (mI E ho);have er:∀{m':Env},TopE t m'->∀l,(aL∈l->t=aL)->aL∈subs m' l->t=aL:=λE' l hl he=>(rF E' dF he).elim hl Eq.symm;exact vj (λz=>z.elim (λz=>er E c (λz=>h1 (.inl z)) (aag.mp z▸ho)) (er En a λz=>h1 (.inr z))) (eQ (eI y h2 En)) (eQ (eI n h3 En)) b hb
theorem kE(m:Env)(A:Atom):bC [A] m=ev A m:=by simp only[bC,bC,aaV]
theorem DW{m₁ m₂:Env}(F:IG c)(W:DV a)(h1:aL∈c\/aL∈a->t=aL)(h2:zP t y)(h3:zP t n)(gh:TopE t m₁)(gj:TopE t m₂)(K:Known m₁ m₂)
  (iy:∀{m₁ m₂:Env},TopE t m₁->TopE t m₂->Known m₁ m₂->less (bC (less (bC y m₁)) m₂)=less (bC y (m₁.then m₂)))
  (jn:∀{m₁ m₂:Env},TopE t m₁->TopE t m₂->Known m₁ m₂->less (bC (less (bC n m₁)) m₂)=less (bC n (m₁.then m₂))):
  less (bC (ev (.cond c a y n s) m₁) m₂)=less (ev (.cond c a y n s) (m₁.then m₂)):=by
 have sN:∀{m₁ m₂:Env} {l:List Nm},DV l->TopE t m₁->TopE t m₂->subs m₂ (subs m₁ l)=subs (m₁.then m₂) l:=λw e e'=>ue (Of w (rH e e'));have Wc:DV c:=by rw[<-F.1];exact eN c
 obtain UD:bC [Atom.n aL] m₂=[.n aL]:=by rfl
 rcases way F K with⟨h,k⟩ |⟨h,o,l,k⟩
 ·have Og:subs (m₁.then m₂) c=subs m₁ c:=by rw[<-sN Wc gh gj,bF h (eM ..)]
  rw[cO,cO,Og];by_cases he:subs m₁ c=[aL]
  ·rw[if_pos he,if_pos he,UD]
  ·rw[if_neg he,if_neg he];cases hs:(s &&(subs m₁ c).length !=1)with
   |true=>rw[if_pos rfl,if_pos rfl,bG];obtain tp:Tp t (bC ((subs m₁ c).flatMap (part c a y n s m₁)) m₂):=xI (eI _ (dB.mpr (BP h1 h2 h3 gh)) gj);rw[mJ tp];simp only[cZ,aeC]at tp⊢;rw[<-BN (vk tp λab ai h=>h)];congr 1;refine gm λone ho=> ?_;obtain⟨k1,k2⟩:=k one ho;obtain En:TopE t (near c m₁ one):=jV gh (mI gh ho);rw[<-cZ,part,part,k1,uf (bX h ho) (aO one) (λab=>rfl) (λe=>he (ou (by simp only[<-(aaL e).1];exact ho))) (eM ..) gj (dB.mpr (eQ (eI y h2 En))) (dB.mpr (eQ (eI n h3 En))) (iy En gj k2) (jn En gj k2),sN W En gj]
   |false=>rw[if_neg (by decide),if_neg (by decide),kC (bG _) (bG _)];rw[uf h (eM ..) (λe=>by rw[e]at hs;simpa using hs) he (eM ..) gj (dB.mpr (eQ (eI y h2 gh))) (dB.mpr (eQ (eI n h3 gh))) (iy gh gj K) (jn gh gj K),sN W gh gj]
 ·obtain sZ:subs m₁ c≠[aL]:=by rw[h];intro e;rw[e]at o;exact absurd o (by decide)
  obtain hl:(s &&(subs m₁ c).length !=1)=false:=by rw[h,l];cases s<;>rfl
  obtain p:ev (.cond c a y n s) m₁=[.cond c (subs m₁ a) (less (bC y m₁)) (less (bC n m₁)) s]:=by rw[cO,if_neg sZ,hl,h];simp[pick,o]
  obtain Og:subs (m₁.then m₂) c=subs m₂ c:=by rw[<-sN Wc gh gj,h]
  rw[p,kE,cO,cO,Og];by_cases he:subs m₂ c=[aL]
  ·rw[if_pos he,if_pos he]
  ·rw[if_neg he,if_neg he];cases hs:(s &&(subs m₂ c).length !=1)with
   |true=>rw[if_pos rfl];congr 2;refine gm λone ho=> ?_;refine A2 (k one ho) λk1 k2=> ?_;obtain En:TopE t (near c m₂ one):=jV gj (mI gj ho);simp only[part,part,k1,sN W gh En,iy gh En k2,jn gh En k2]
   |false=>rw[if_neg (by decide),if_neg (by decide),sN W gh gj,iy gh gj K,jn gh gj K]
end
mutual
theorem comp{t:Nm}:∀(A:Atom) {m₁ m₂:Env},Fm A->nj t A->TopE t m₁->TopE t m₂->Known m₁ m₂->less (bC (ev A m₁) m₂)=less (ev A (m₁.then m₂))
 | .n x,m₁,m₂,ab,ai,aD,bO,fc=>by congr 1;rw[cZ,ev,ev,abV,rE,acz];refine gm λz ab=> ?_;simp only[ev]
 | .cond c a y n s,ab,ai,F,ok,gh,gj,K=>by exact DW F.1 F.2.1 ok.1 ok.2.1 ok.2.2 gh gj K (λe e' k=>comps y F.2.2.1 ok.2.1 e e' k) (λe e' k=>comps n F.2.2.2 ok.2.2 e e' k)
theorem comps{t:Nm}:∀(l:List Atom) {m₁ m₂:Env},zQ l->zP t l->TopE t m₁->TopE t m₂->Known m₁ m₂->less (bC (less (bC l m₁)) m₂)=less (bC l (m₁.then m₂))
 |[],ab,ai,aD,bO,fc,ny,wj=>by simp only[bC];rfl
 |a::r,m₁,m₂,F,ok,gh,gj,K=>by
  obtain tp:∀{l:List Atom},zP t l->Tp t (bC (bC l m₁) m₂):=λh=>xI (eI _ (dB.mpr (eI _ h gh)) gj);simp only[mJ (tp ok)];obtain e1:bC (bC (a::r) m₁) m₂=bC (ev a m₁) m₂++bC (bC r m₁) m₂:=by simp only[bC,cZ m₂,cZ m₂,cZ m₂,acO]
  obtain t1:=tp ok;rw[e1]at t1⊢;simp only[<-mK t1,comp a F.1 ok.1 gh gj K,<-mJ (tp ok.2),comps r F.2 ok.2 gh gj K,bC];exact mK (xI λb hb=>(aaz.mp hb).elim (BO a ok.1 (rH gh gj) b) (eI r ok.2 (rH gh gj) b))
end
theorem gS{α:Type}{w:α->Nat}:∀{l xs:List α},l.Nodup->(∀a∈l,a∈xs)->(l.map w).sum<=(xs.map w).sum:=by
 intro v_;induction v_ with
 |nil=>intro dJ dJ dJ;exact aaS _
 |cons a l ih=>
  intro xs h k;refine A2 (aaM.mp h) λh1 h2=> ?_;refine sO (List.append_of_mem (k a aac)) λs t e=> ?_;obtain ih:=ih h2 λb hb=>by obtain this:=k b (aaf _ hb);rw[e,aaz,aam]at this;rw[aaz];exact this.imp id λq=>q.resolve_left λq=>h1 (q▸hb)
  simp only[e];simp only[aaG,aaH,adb,abE]at ih⊢;lia
theorem ug{l:List Atom}(h:oh txt l):l.Nodup:=h.imp λ{a b} k e=>by rw[e,rB]at k;cases k
theorem kF{α:Type}{w:α->Nat}{a:α}{l:List α}(h:a∈l):w a<=(l.map w).sum:=by simpa using(gS (w:=w) (l:=[a]) (xs:=l) (aaB _ _) λb hb=>aag.mp hb▸h)
open Classical in
def GL(xs:List Atom)(b:Atom):Atom:=if b∈xs then b else if b= .n 9 then .n 11 else .n 12
theorem jW{w:Atom->Nat}(h9:w (.n 9)<=w (.n 11))(Oh:w (.n 10)<=w (.n 12))(xs:List Atom):((less xs).map w).sum<=(xs.map w).sum:=by
 cases ht:top xs with
 |some t=>rw[bW ht];simpa using kF (w:=w) (dT ht).1
 |none=>
  have key:∀b∈less xs,b∉xs->both xs/\(b= .n 9\/b= .n 10):=λb hb hn=>by rw[aN ht,kept,aaN,aH]at hb;exact hb.1.resolve_left hn
  obtain dead:both xs->.n 11∉less xs/\.n 12∉less xs:=λhB=>by
   obtain k:∀x:Nm,bare x≠x->.n (bare x)∈bools xs->.n x∉less xs:=λx h1 h2 hm=>by rw[aN ht,kept,aaN,dq]at hm;exact hm.2 x rfl (.inl ⟨h1,h2⟩)
   exact⟨k 11 (by decide) (aH.mpr (.inr ⟨hB,.inl rfl⟩)),k 12 (by decide) (aH.mpr (.inr ⟨hB,.inr rfl⟩))⟩
  obtain pin:∀b∈less xs,GL xs b∈xs:=λb hb=>by
   unfold GL;by_cases h:b∈xs
   ·rw[if_pos h];exact h
   ·rw[if_neg h];refine A2 (key b hb h) λhB e=> ?_;rcases e with e |e
    ·rw[if_pos e];subst e;exact(hB.1.resolve_left h)
    ·rw[if_neg (by rw[e];intro q;exact absurd (Atom.n.inj q) (by decide))];subst e;exact(hB.2.resolve_left h)
  obtain pw:∀b∈less xs,w b<=w (GL xs b):=λb hb=>by
   unfold GL;by_cases h:b∈xs
   ·rw[if_pos h];exact aab _
   ·rw[if_neg h];rcases(key b hb h).2 with e |e
    ·rw[if_pos e,e];exact h9
    ·rw[if_neg (by rw[e];intro q;exact absurd (Atom.n.inj q) (by decide)),e];exact Oh
  obtain pn:((less xs).map (GL xs)).Nodup:=by
   refine abR.mpr (acP (λ{a b} ha hb pW e=> ?_) (ug (eH xs)));have nx:∀c∈less xs,c∉xs->GL xs c= .n 11/\c= .n 9\/GL xs c= .n 12/\c= .n 10:=λc hc h=>by
    unfold GL;rw[if_neg h];rcases(key c hc h).2 with e |e
    ·exact .inl ⟨if_pos e,e⟩
    ·exact .inr ⟨if_neg (by rw[e];intro q;exact absurd (Atom.n.inj q) (by decide)),e⟩
   have Sx:∀c,c∈xs->GL xs c=c:=λc h=>if_pos h;by_cases h1:a∈xs<;>by_cases h2:b∈xs
   ·simp only[Sx a h1,Sx b h2]at e;exact pW e
   ·rw[Sx a h1]at e;have d:=dead (key b hb h2).1;rcases nx b hb h2 with q |q<;>simp only[q.1]at e<;>subst e
    ·exact d.1 ha
    ·exact d.2 ha
   ·simp only[Sx b h2]at e;have d:=dead (key a ha h1).1;rcases nx a ha h1 with q |q<;>rw[q.1]at e<;>subst e
    ·exact d.1 hb
    ·exact d.2 hb
   ·rcases nx a ha h1 with q |q<;>rcases nx b hb h2 with r |r
    ·exact pW (q.2.trans r.2.symm)
    ·rw[q.1,r.1]at e;exact absurd (Atom.n.inj e) (by decide)
    ·rw[q.1,r.1]at e;exact absurd (Atom.n.inj e) (by decide)
    ·exact pW (q.2.trans r.2.symm)
  refine aaa ?_ (gS (w:=w) pn λa ha=> ?_)
  ·obtain this:∀l:List Atom,(∀b∈l,w b<=w (GL xs b))->(l.map w).sum<=((l.map (GL xs)).map w).sum:=by
    intro l;induction l with
    |nil=>exactλab=>aab _
    |cons a l ih=>intro h;simp only[aaH,abE];exact aaw (h a aac) (ih λb hb=>h b (aaf _ hb))
   exact this _ pw
  ·obtain⟨b,hb,e⟩:=aal.mp ha;exact e▸pin b hb
theorem i6(xs:List Atom):(less xs).length<=xs.length:=by
 obtain h:=jW (w:=λab=>1) (aab _) (aab _) xs;obtain k:∀l:List Atom,(l.map λab=>1).sum=l.length:=λl=>by
  induction l with
  |nil=>rfl
  |cons a l ih=>simp only[aaH,abE,ih,aax];simp+arith
 simp only[k,k]at h;exact h
theorem gZ(l:List Nm):(aC l).length<=l.length:=by obtain h:=i6 (l.map .n);rw[<-aY,aae,aae]at h;exact h
noncomputable abbrev sm(w:Atom->Nat)(l:List Atom):Nat:=(l.map w).sum
mutual
noncomputable def FF(t u:Nat):Atom->Nat
 | .n x=>if x=aT then t else if x=aU then u else 1
 | .cond c ab y n s=>
  if c=[aT]then(if s then max (t*max 1 (max (fv 1 u y) (fv 1 u n))) (fv 1 u y+fv 1 u n)else max (max 1 (max (fv t u y) (fv t u n))) (fv 1 u y+fv 1 u n))
  else if c=[aU]then(if s then max (u*max 1 (max (fv t 1 y) (fv t 1 n))) (fv t 1 y+fv t 1 n)else max (max 1 (max (fv t u y) (fv t u n))) (fv t 1 y+fv t 1 n))
  else if c=[gI]then max 1 (fv t u y+fv t u n)
  else(if s then max 1 c.length else 1)*max 1 (max (fv t u y) (fv t u n))
noncomputable def fv(t u:Nat):List Atom->Nat
 |[]=>0
 |a::r=>FF t u a+fv t u r
end
theorem fy(t u:Nat):∀l:List Atom,fv t u l=sm (FF t u) l:=by
 intro v_;induction v_ with
 |nil=>exact rfl
 |cons a r ih=>simp only[fv,ih];rfl
def kc(c:List Nm):Nat:=if c=[aT]\/c=[aU]then 3 else max 1 c.length
mutual
noncomputable def Wt:Atom->Nat
 | .n x=>if x=aT\/x=aU then 30 else 10
 | .cond c ab y n ai=>kc c*(200+eU y+eU n)
noncomputable def eU:List Atom->Nat
 |[]=>0
 |a::r=>Wt a+eU r
end
theorem lQ:∀l:List Atom,eU l=sm Wt l:=by
 intro v_;induction v_ with
 |nil=>exact rfl
 |cons a r ih=>simp only[eU,ih];rfl
section
variable {w:Atom->Nat}(h9:w (.n 9)<=w (.n 11))(Oh:w (.n 10)<=w (.n 12))
theorem ow(l l':List Atom):sm w (l++l')=sm w l+sm w l':=by simp only[sm,aaG,adb]
theorem JT{α:Type}{f:α->List Atom}{B:Nat}:∀{l:List α},(∀a∈l,sm w (f a)<=B)->sm w (l.flatMap f)<=l.length*B:=by
 intro v_;induction v_ with
 |nil=>intro dJ;exact aaS _
 |cons a l ih=>intro h;simp only[aaU,ow,aax];obtain h1:=h a aac;obtain h2:=ih λb hb=>h b (aaf _ hb);lia
include h9 Oh in
theorem vm{held ask:List Nm}{Y N:List Atom}{s:Bool}{Z:Nat}(he:w (.n aL)<=Z)(hc:w (.cond held ask Y N s)<=Z)(hY:sm w Y<=Z)(hN:sm w N<=Z)(hs:held=[gI]->sm w Y+sm w N<=Z):sm w (pick held ask Y N s)<=Z:=by
 unfold pick;split
 ·exact he
 ·split
  ·exact hc
  ·split
   ·exact hY
   ·split
    ·rename_i h;exact aaa (jW h9 Oh _) (by simp only[aaG,adb];exact hs h)
    ·split
     ·exact hY
     ·exact hN
end
def iM(x:Nm)(l:List Nm)(t t':Nat):Prop:=(l=[x]/\t'=t)\/(ax l/\l.length<=t/\aC l=l)
theorem vn(m:Env){t t':Nat}(h:iM aT m.T t t'):subs m [aT]=m.T:=by
 obtain e:subs m [aT]=aC m.T:=by simp only[subs,aaA];rfl
 rw[e];rcases h with h |h
 ·rw[h.1];decide
 ·exact h.2.2
theorem vo(m:Env){t t':Nat}(h:iM aU m.U t t'):subs m [aU]=m.U:=by
 obtain e:subs m [aU]=aC m.U:=by simp only[subs,aaA];rfl
 rw[e];rcases h with h |h
 ·rw[h.1];decide
 ·exact h.2.2
theorem kG{l:List Nm}(h:ax l):l≠[aT]/\l≠[aU]:=⟨λe=>(h aT (e▸aac)).1 rfl,λe=>(h aU (e▸aac)).2 rfl⟩
theorem o7{l:List Nm}(hc:aC l=l)(hl:l.length≠1){one:Nm}(h:one∈l):[one]≠[gI]:=λe=>by
 simp only[(aaL e).1]at h;rcases hc▸eN l with k |⟨z,_,k⟩
 ·exact k _ h (.inl rfl)
 ·rw[k]at hl;exact hl rfl
theorem kH{t u:Nat}{c a:List Nm}{y n:List Atom}{s:Bool}(h:ax c):FF t u (.cond c a y n s)=if c=[gI]then max 1 (fv t u y+fv t u n)else(if s then max 1 c.length else 1)*max 1 (max (fv t u y) (fv t u n)):=by rw[FF,if_neg (kG h).1,if_neg (kG h).2]
theorem vp{t u:Nat}{x:Nm}(h1:x≠aT)(h2:x≠aU):FF t u (.n x)=1:=by rw[FF,if_neg h1,if_neg h2]
theorem mL{t u:Nat}{l:List Nm}(h:ax l):sm (FF t u) (l.map .n)=l.length:=by
 induction l with
 |nil=>rfl
 |cons x l ih=>obtain hx:=h x aac;show FF t u (.n x)+sm (FF t u) (l.map .n)=_;simp only[(ih λz hz=>h z (aaf _ hz)),vp hx.1 hx.2,aax,abf]
theorem bp{a b c:Nat}(h:a<=b):a<=max b c:=aaa h (aaW _ _)
theorem aM{a b c:Nat}(h:a<=c):a<=max b c:=aaa h (abi _ _)
theorem mx{a b c d:Nat}(h:a<=c)(k:b<=d):max a b<=max c d:=abb.mpr ⟨bp h,aM k⟩
section
variable {y n:List Atom}{a:List Nm}{s:Bool}
theorem GN{t' u' Y1 N1:Nat}{held ask:List Nm}{Y N:List Atom}(hc:ax held)(hY:sm (FF t' u') Y<=Y1)(hN:sm (FF t' u') N<=N1)(hs:s=true->held.length=1):sm (FF t' u') (pick held ask Y N s)<=if held=[gI]then max 1 (Y1+N1)else max 1 (max Y1 N1):=by
 obtain e9:FF t' u' (.n 9)<=FF t' u' (.n 11):=aab _;obtain Mi:FF t' u' (.n 10)<=FF t' u' (.n 12):=aab _;obtain ee:FF t' u' (.n aL)=1:=vp (by decide) (by decide);obtain ec:=kH (t:=t') (u:=u') (a:=ask) (y:=Y) (n:=N) (s:=s) hc;rw[fy,fy]at ec;obtain hk:(if s=true then max 1 held.length else 1)=1:=by
  cases s with
  |false=>rfl
  |true=>rw[hs rfl];rfl
 rw[hk,Nat.one_mul]at ec;by_cases h:held=[gI]
 ·rw[if_pos h]at ec⊢;exact vm e9 Mi (aaW _ _) (by rw[ec];exact mx (aab _) (aaw hY hN)) (aM (aaa hY (aao _ _))) (aM (aaa hN (aaj _ _))) λab=>aM (aaw hY hN)
 ·rw[if_neg h]at ec⊢;exact vm e9 Mi (aaW _ _) (by rw[ec];exact mx (aab _) (mx hY hN)) (aM (bp hY)) (aM (aM hN)) λe=>absurd e h
variable {t u t' u':Nat}{m:Env}
theorem dP(l:List Atom):sm (FF t u) (less l)<=sm (FF t u) l:=jW (by exact aab _) (by exact aab _) l
theorem GO{c:List Nm}{Z:Nat}{held:List Nm}(ER:ax held)(GP:aC held=held)(hl:held.length≠1)
  (sp:∀one∈held,one≠gI->held.length*max 1 (max (sm (FF t' u') (bC y (near c m one))) (sm (FF t' u') (bC n (near c m one))))<=Z):
  sm (FF t' u') (held.flatMap (part c a y n s m))<=Z:=by
 cases held with
 |nil=>exact aaS _
 |cons x r=>
  obtain each:∀one∈x::r,∃q,one=q/\sm (FF t' u') (part c a y n s m one)<=max 1 (max (sm (FF t' u') (bC y (near c m one))) (sm (FF t' u') (bC n (near c m one)))):=λone ho=>by refine⟨one,rfl,?_⟩;obtain this:=GN (t':=t') (u':=u') (held:=[one]) (ask:=subs (near c m one) a) (s:=s) (bX ER ho) (dP (bC y (near c m one))) (dP (bC n (near c m one))) λab=>rfl;rw[if_neg (o7 GP hl ho)]at this;exact this
  obtain bound:∀one∈x::r,(x::r).length*sm (FF t' u') (part c a y n s m one)<=Z:=λone ho=>by refine ah (each one ho) λab ai h=> ?_;exact aaa (abt _ h) (sp one ho λq=>o7 GP hl ho (by rw[q]))
  obtain go:∀l:List Nm,(∀one∈l,(x::r).length*sm (FF t' u') (part c a y n s m one)<=Z)->(x::r).length*sm (FF t' u') (l.flatMap (part c a y n s m))<=l.length*Z:=by
   intro l;induction l with
   |nil=>intro dJ;exact aaS _
   |cons o l ih=>
    intro h;obtain e3:(o::l).length*Z=Z+l.length*Z:=by rw[aax,adw,abf]
    simp only[aaU,ow,Nat.mul_add,e3];exact aaw (h o aac) (ih λb hb=>h b (aaf _ hb))
  exact Nat.le_of_mul_le_mul_left (go _ bound) (abO _)
theorem vq{c:List Nm}{Z:Nat}{held:List Nm}(e:subs m c=held)(ER:ax held)(GP:aC held=held)(h1:1<=Z)
  (sp:(s &&held.length !=1)=true->∀one∈held,one≠gI->held.length*max 1 (max (sm (FF t' u') (bC y (near c m one))) (sm (FF t' u') (bC n (near c m one))))<=Z)
  (ns:(s &&held.length !=1)=false->(if held=[gI]then max 1 (sm (FF t' u') (bC y m)+sm (FF t' u') (bC n m))else max 1 (max (sm (FF t' u') (bC y m)) (sm (FF t' u') (bC n m))))<=Z):
  sm (FF t' u') (ev (.cond c a y n s) m)<=Z:=by
 rw[cO,e];split
 ·show FF t' u' (.n aL)+0<=Z;exact h1
 ·cases hs:(s &&held.length !=1)
  ·obtain qb:s=true->held.length=1:=λq=>by rw[q]at hs;simpa using hs
   exact aaa (GN ER (dP _) (dP _) qb) (ns hs)
  ·obtain hl:held.length≠1:=by
    intro q;rw[q]at hs;cases s<;>cases hs
   exact aaa (dP _) (GO ER GP hl (sp hs))
end
mutual
theorem Oi:∀(A:Atom) {t u t' u':Nat} {m:Env},Fm A->1<=t->1<=u->iM aT m.T t t'->iM aU m.U u u'->sm (FF t' u') (ev A m)<=FF t u A
 | .n x,t,u,t',u',m,_,_,_,hT,hU=>by
  simp only[ev,FF,sub];by_cases h1:x=aT
  ·rw[if_pos h1,if_pos h1];refine aaI hT (λaZ=>A2 aZ λk e=> ?_) λaw=>A3 aw λk1 k2 _=> ?_
   ·rw[k];show FF t' u' (.n aT)+0<=t;exact e▸aab _
   ·rw[mL k1];exact k2
  ·rw[if_neg h1,if_neg h1];by_cases h2:x=aU
   ·rw[if_pos h2,if_pos h2];refine aaI hU (λaZ=>A2 aZ λk e=> ?_) λaw=>A3 aw λk1 k2 _=> ?_
    ·rw[k];exact e▸aab _
    ·rw[mL k1];exact k2
   ·rw[if_neg h2,if_neg h2];exact(vp h1 h2).symm▸aab _
 | .cond c a y n s,t,u,t',u',m,F,ht,hu,hT,hU=>by
  obtain⟨⟨zR,hF⟩,_,Fy,Fn⟩:=F;obtain iy:∀{t u t' u':Nat} {m:Env},1<=t->1<=u->iM aT m.T t t'->iM aU m.U u u'->sm (FF t' u') (bC y m)<=fv t u y:=λh1 h2 h3 h4=>o8 y Fy h1 h2 h3 h4;obtain jn:∀{t u t' u':Nat} {m:Env},1<=t->1<=u->iM aT m.T t t'->iM aU m.U u u'->sm (FF t' u') (bC n m)<=fv t u n:=λh1 h2 h3 h4=>o8 n Fn h1 h2 h3 h4;obtain pN:∀p:Nat,1<=max 1 p:=λp=>aaW _ _;obtain xJ:∀{p q:Nat},1<=p->q<=p*q:=λh=>aaE _ h;obtain po:∀{x one:Nm} {l:List Nm} {p:Nat},ax l->one∈l->iM x [one] 1 p:=λh ho=> .inr ⟨bX h ho,aab _,aO _⟩;obtain p1:∀{x:Nm} {l:List Nm} {p q:Nat},iM x l p q->ax l->l.length<=1->aC l=l->∀q',iM x l 1 q':=λ_ h k c _=> .inr ⟨h,k,c⟩;rcases hF with hc |hc |hc
  ·rw[kH hc];refine vq (bF hc zR) hc zR ?_ (λhs one ho _=> ?_) λhs=> ?_
   ·split
    ·exact pN _
    ·exact aaa (pN _) (xJ (by split;exact pN _;exact aab _))
   ·have qb:s=true:=by cases s;cases hs;rfl
    have hl:c.length≠1:=by subst qb;simpa using hs
    rw[if_neg (λe=>hl (congrArg _ e)),qb,dK hc];exact acr (abi _ _) (mx (aab _) (mx (iy ht hu hT hU) (jn ht hu hT hU)))
   ·by_cases e:c=[gI]
    ·rw[if_pos e,if_pos e];exact mx (aab _) (aaw (iy ht hu hT hU) (jn ht hu hT hU))
    ·rw[if_neg e,if_neg e];exact aaa (mx (aab _) (mx (iy ht hu hT hU) (jn ht hu hT hU))) (xJ (by split;exact pN _;exact aab _))
  ·subst hc;rw[FF,if_pos rfl];rcases hT with⟨k,e⟩ |⟨k1,k2,k3⟩
   ·subst e;have pT:∀p,iM aT m.T p p:=λp=> .inl ⟨k,rfl⟩;have e0:ev (.cond [aT] a y n s) m=[.cond [aT] (subs m a) (less (bC y m)) (less (bC n m)) s]:=by
     rw[cO,vn m (pT 1),k,if_neg (by decide)];simp[pick,show isOpen [aT]=true by decide]
    rw[e0];show FF t' u' _+0<=_;rw[FF,if_pos rfl];simp only[fy t',fy 1];have y1:=aaa (dP (t:=1) (u:=u') (bC y m)) (iy (aab 1) hu (pT 1) hU);have n1:=aaa (dP (t:=1) (u:=u') (bC n m)) (jn (aab 1) hu (pT 1) hU);have y2:=aaa (dP (t:=t') (u:=u') (bC y m)) (iy ht hu (pT t') hU);have n2:=aaa (dP (t:=t') (u:=u') (bC n m)) (jn ht hu (pT t') hU);simp only[fy]at y1 n1 y2 n2;cases s
    ·exact mx (mx (aab _) (mx y2 n2)) (aaw y1 n1)
    ·exact mx (abt _ (mx (aab _) (mx y1 n1))) (aaw y1 n1)
   ·have pT:iM aT m.T t t':= .inr ⟨k1,k2,k3⟩;refine vq (vn m pT) k1 k3 ?_ (λhs one ho _=> ?_) λhs=> ?_
    ·split
     ·exact bp (aaa (pN _) (xJ ht))
     ·exact bp (pN _)
    ·obtain qb:s=true:=by cases s;cases hs;rfl
     exact qb.symm▸bp (acr k2 (mx (aab _) (mx (iy (aab 1) hu (po k1 ho) hU) (jn (aab 1) hu (po k1 ho) hU))))
    ·cases s
     ·simp only[aca,↓reduceIte];split
      ·rename_i e;obtain q:=p1 pT k1 (by rw[e];exact aab _) k3 t';exact abb.mpr ⟨bp (pN _),aM (aaw (iy (aab 1) hu q hU) (jn (aab 1) hu q hU))⟩
      ·exact bp (mx (aab _) (mx (iy ht hu pT hU) (jn ht hu pT hU)))
     ·obtain hl:m.T.length=1:=by simpa using hs
      obtain q:=p1 pT k1 (by rw[hl];exact aab _) k3 t';split
      ·exact abb.mpr ⟨bp (aaa (pN _) (xJ ht)),aM (aaw (iy (aab 1) hu q hU) (jn (aab 1) hu q hU))⟩
      ·exact bp (aaa (mx (aab _) (mx (iy (aab 1) hu q hU) (jn (aab 1) hu q hU))) (xJ ht))
  ·subst hc;rw[FF,if_neg (by decide),if_pos rfl];rcases hU with⟨k,e⟩ |⟨k1,k2,k3⟩
   ·subst e;have pU:∀p,iM aU m.U p p:=λp=> .inl ⟨k,rfl⟩;have e0:ev (.cond [aU] a y n s) m=[.cond [aU] (subs m a) (less (bC y m)) (less (bC n m)) s]:=by
     rw[cO,vo m (pU 1),k,if_neg (by decide)];simp[pick,show isOpen [aU]=true by decide]
    rw[e0];show FF t' u' _+0<=_;rw[FF,if_neg (by decide),if_pos rfl];simp only[fy t'];have y1:=aaa (dP (t:=t') (u:=1) (bC y m)) (iy ht (aab 1) hT (pU 1));have n1:=aaa (dP (t:=t') (u:=1) (bC n m)) (jn ht (aab 1) hT (pU 1));have y2:=aaa (dP (t:=t') (u:=u') (bC y m)) (iy ht hu hT (pU u'));have n2:=aaa (dP (t:=t') (u:=u') (bC n m)) (jn ht hu hT (pU u'));cases s
    ·exact mx (mx (aab _) (mx y2 n2)) (aaw y1 n1)
    ·exact mx (abt _ (mx (aab _) (mx y1 n1))) (aaw y1 n1)
   ·have pU:iM aU m.U u u':= .inr ⟨k1,k2,k3⟩;refine vq (vo m pU) k1 k3 ?_ (λhs one ho _=> ?_) λhs=> ?_
    ·split
     ·exact bp (aaa (pN _) (xJ hu))
     ·exact bp (pN _)
    ·obtain qb:s=true:=by cases s;cases hs;rfl
     exact qb.symm▸bp (acr k2 (mx (aab _) (mx (iy ht (aab 1) hT (po k1 ho)) (jn ht (aab 1) hT (po k1 ho)))))
    ·cases s
     ·simp only[aca,↓reduceIte];split
      ·rename_i e;obtain q:=p1 pU k1 (by rw[e];exact aab _) k3 u';exact abb.mpr ⟨bp (pN _),aM (aaw (iy ht (aab 1) hT q) (jn ht (aab 1) hT q))⟩
      ·exact bp (mx (aab _) (mx (iy ht hu hT pU) (jn ht hu hT pU)))
     ·obtain hl:m.U.length=1:=by simpa using hs
      obtain q:=p1 pU k1 (by rw[hl];exact aab _) k3 u';split
      ·exact abb.mpr ⟨bp (aaa (pN _) (xJ hu)),aM (aaw (iy ht (aab 1) hT q) (jn ht (aab 1) hT q))⟩
      ·exact bp (aaa (mx (aab _) (mx (iy ht (aab 1) hT q) (jn ht (aab 1) hT q))) (xJ hu))
theorem o8:∀(l:List Atom) {t u t' u':Nat} {m:Env},zQ l->1<=t->1<=u->iM aT m.T t t'->iM aU m.U u u'->sm (FF t' u') (bC l m)<=fv t u l
 |[],ab,ai,aD,bO,fc,ny,wj,IE,Qt,F5=>aaS _
 |a::r,t,u,t',u',m,F,ht,hu,hT,hU=>by simp only[bC,ow,fv];exact aaw (Oi a F.1 ht hu hT hU) (o8 r F.2 ht hu hT hU)
end
theorem BQ{x:Nm}(h1:x≠aT)(h2:x≠aU):Wt (.n x)=10:=by rw[Wt,if_neg (λh=>h.elim h1 h2)]
theorem qd(l:List Atom):sm Wt (less l)<=sm Wt l:=jW (by decide) (by decide) l
theorem xK{l:List Nm}(h:ax l):sm Wt (l.map .n)=l.length*10:=by
 induction l with
 |nil=>rfl
 |cons x l ih=>obtain hx:=h x aac;show Wt (.n x)+sm Wt (l.map .n)=_;rw[(ih λz hz=>h z (aaf _ hz)),BQ hx.1 hx.2,aax,adw,abf]
structure lu(m:Env):Prop where
 T:iM aT m.T 3 3
 U:iM aU m.U 3 3
theorem jX(c:List Nm):1<=kc c:=by unfold kc;split;decide;exact aaW _ _
theorem ox{c:List Nm}(h:ax c):kc c=max 1 c.length:=by unfold kc;rw[if_neg];rintro (e |e);exact(kG h).1 e;exact(kG h).2 e
theorem lu.near{m:Env}(S:lu m){c:List Nm}{one:Nm}{l:List Nm}(hl:ax l)(ho:one∈l):lu (near c m one):=by
 have q:∀x,iM x [one] 3 3:=λx=> .inr ⟨bX hl ho,by show 1<=3;decide,aO _⟩;unfold Ab.near;split
 ·exact⟨q _,S.U⟩
 ·split
  ·exact⟨S.T,q _⟩
  ·exact S
theorem qe{m:Env}(S:lu m){c:List Nm}(F:IG c):(ax (subs m c)/\aC (subs m c)=subs m c/\(subs m c).length<=kc c)\/(subs m c=c/\(c=[aT]\/c=[aU])):=by
 refine A2 F λzR hF=> ?_;rcases hF with h |h |h
 ·refine .inl ?_;rw[bF h zR,ox h];exact⟨h,zR,abi _ _⟩
 ·subst h;rw[vn m S.T];rcases S.T with k |k
  ·exact .inr ⟨k.1,.inl rfl⟩
  ·exact .inl ⟨k.1,k.2.2,k.2.1⟩
 ·subst h;rw[vo m S.U];rcases S.U with k |k
  ·exact .inr ⟨k.1,.inr rfl⟩
  ·exact .inl ⟨k.1,k.2.2,k.2.1⟩
mutual
theorem Oj:∀(A:Atom) {m:Env},Fm A->lu m->sm Wt (ev A m)<=Wt A
 | .n x,m,ab,S=>by
  simp only[ev,Wt,sub];by_cases h1:x=aT
  ·rw[if_pos h1,if_pos (.inl h1)];refine aaI S.T (λaZ=>A2 aZ λk ab=> ?_) λaw=>A3 aw λk1 k2 ab=> ?_
   ·exact k▸aab 30
   ·rw[xK k1];exact abo 10 k2
  ·rw[if_neg h1];by_cases h2:x=aU
   ·rw[if_pos h2,if_pos (.inr h2)];refine aaI S.U (λaZ=>A2 aZ λk ab=> ?_) λaw=>A3 aw λk1 k2 ab=> ?_
    ·exact k▸aab 30
    ·rw[xK k1];exact abo 10 k2
   ·rw[if_neg h2,if_neg (λh=>h.elim h1 h2)];exact(BQ h1 h2).symm▸aab _
 | .cond c a y n s,m,F,S=>by
  obtain hW:=qe S F.1;obtain h9:Wt (.n 9)<=Wt (.n 11):=by decide
  obtain Oh:Wt (.n 10)<=Wt (.n 12):=by decide
  simp only[cO,Wt];obtain B1:200<=200+eU y+eU n:=by simp+arith
  have iy:∀{m},lu m->sm Wt (less (bC y m))<=eU y:=λS=>aaa (qd _) (BR y F.2.2.1 S);have jn:∀{m},lu m->sm Wt (less (bC n m))<=eU n:=λS=>aaa (qd _) (BR n F.2.2.2 S);obtain kB:=aaE (200+eU y+eU n) (jX c);obtain Mi:Wt (.n aL)=10:=rfl;generalize hB:200+eU y+eU n=B at*
  split
  ·show Wt (.n aL)+0<=_;lia
  ·cases hs:(s &&(subs m c).length !=1)
   ·obtain y1:=iy S;have n1:=jn S;refine vm h9 Oh (by lia) ?_ (by lia) (by lia) λab=>by lia
    simp only[Wt,lQ,lQ];refine acr ?_ (by lia);refine aaI hW (λaZ=>A3 aZ λk1 ab k3=> ?_) λaw=>A2 aw λk ab=> ?_
    ·rw[ox k1];exact abb.mpr ⟨jX c,k3⟩
    ·exact k.symm▸aab _
   ·refine aaa (qd _) ?_;have hl:(subs m c).length≠1:=by intro q;rw[q]at hs;cases s<;>cases hs
    refine aaI hW (λaZ=>A3 aZ λk1 k2 k3=> ?_) λaw=>A2 aw λk q=> ?_
    ·refine aaa (JT (B:=B) λone ho=> ?_) (abo _ k3);have y1:=iy (S.near (c:=c) k1 ho);have n1:=jn (S.near (c:=c) k1 ho);refine vm h9 Oh (by lia) ?_ (by lia) (by lia) λab=>by lia
     simp only[Wt,lQ,lQ,ox (bX k1 ho)];show 1*_<=_;lia
    ·exact absurd (by rw[k];rcases q with q |q<;>rw[q]<;>rfl) hl
theorem BR:∀(l:List Atom) {m:Env},zQ l->lu m->sm Wt (bC l m)<=eU l
 |[],ab,ai,aD=>aaS _
 |a::r,m,F,S=>by simp only[bC,ow,eU];exact aaw (Oj a F.1 S) (BR r F.2 S)
end
def wn(x:Nm):Nat:=if x=aT\/x=aU then 3 else 1
def wA:Atom->Nat
 | .n x=>wn x
 |_=>1
abbrev wN(l:List Nm):Nat:=sm wA (l.map .n)
theorem xM(l:List Nm):wN (aC l)<=wN l:=by show sm wA ((aC l).map .n)<=_;rw[aY];exact jW (by decide) (by decide) _
theorem g8{l:List Nm}(h:ax l):wN l=l.length:=by
 induction l with
 |nil=>rfl
 |cons x l ih=>obtain hx:=h x aac;show wn x+wN l=_;rw[(ih λz hz=>h z (aaf _ hz)),wn,if_neg (λh=>h.elim hx.1 hx.2),aax,abf]
theorem dZ(l:List Nm):l.length<=wN l:=by
 induction l with
 |nil=>exact aab _
 |cons x l ih=>
  show l.length+1<=wn x+wN l;obtain this:1<=wn x:=by unfold wn;split<;>decide
  lia
theorem BS{m:Env}(S:lu m)(l:List Nm):wN (subs m l)<=wN l:=by
 refine aaa (xM _) ?_;induction l with
 |nil=>exact aab _
 |cons x l ih=>
  obtain e:wN ((x::l).flatMap (sub m))=wN (sub m x)+wN (l.flatMap (sub m)):=by show sm wA (((x::l).flatMap (sub m)).map .n)=_;simp only[aaU,aaG,ow]
  rw[e];refine aaw ?_ ih;show _<=wn x;unfold sub wn;by_cases h1:x=aT
  ·rw[if_pos h1,if_pos (.inl h1)];refine aaI S.T (λaZ=>A2 aZ λk ab=> ?_) λaw=>A3 aw λk1 k2 ab=> ?_
   ·rw[k];decide
   ·rw[g8 k1];exact k2
  ·rw[if_neg h1];by_cases h2:x=aU
   ·rw[if_pos h2,if_pos (.inr h2)];refine aaI S.U (λaZ=>A2 aZ λk ab=> ?_) λaw=>A3 aw λk1 k2 ab=> ?_
    ·rw[k];decide
    ·rw[g8 k1];exact k2
   ·rw[if_neg h2,if_neg (λh=>h.elim h1 h2)];show wn x+0<=1;rw[wn,if_neg (λh=>h.elim h1 h2)];exact aab _
mutual
noncomputable def Ls:Atom->Prop
 | .n ab=>True
 | .cond c a y n ab=>wN c<=6/\wN a<=6/\Mj y/\Mj n
noncomputable def Mj:List Atom->Prop
 |[]=>True
 |a::r=>Ls a/\Mj r
end
theorem gB:∀{l:List Atom},Mj l↔∀b∈l,Ls b:=by
 intro v_;induction v_ with
 |nil=>simp[Mj]
 |cons a r ih=>simp only[Mj,ih];simp
theorem mM{l:List Atom}(h:∀b∈l,Ls b):∀b∈less l,Ls b:=λb hb=>by
 rcases dr hb with q |q |q
 ·exact h b q
 ·subst q;trivial
 ·subst q;trivial
theorem BU{held ask:List Nm}{y n:List Atom}{s:Bool}(hh:wN held<=6)(ha:wN ask<=6)(hy:∀b∈y,Ls b)(hn:∀b∈n,Ls b):∀b∈pick held ask y n s,Ls b:=by
 unfold pick;split
 ·intro b hb;rw[aag.mp hb];trivial
 ·split
  ·intro b hb;rw[aag.mp hb];exact⟨hh,ha,gB.mpr hy,gB.mpr hn⟩
  ·split
   ·exact hy
   ·split
    ·exact mM λb hb=>(aaz.mp hb).elim (hy b) (hn b)
    ·split
     ·exact hy
     ·exact hn
mutual
theorem GQ:∀(A:Atom) {m:Env},Fm A->Ls A->lu m->∀b∈ev A m,Ls b
 | .n x,m,_,_,_,b,hb=>by refine ah (aal.mp hb) λz _ e=> ?_;subst e;trivial
 | .cond c a y n s,m,F,L,S,b,hb=>by
  obtain iy:∀{m},lu m->∀b∈less (bC y m),Ls b:=λS=>mM (vt y F.2.2.1 L.2.2.1 S);obtain jn:∀{m},lu m->∀b∈less (bC n m),Ls b:=λS=>mM (vt n F.2.2.2 L.2.2.2 S);have wa:∀{m},lu m->wN (subs m a)<=6:=λS=>aaa (BS S a) L.2.1;rw[cO]at hb;split at hb
  ·simp only[aag.mp hb];trivial
  ·split at hb
   ·rename_i hs;obtain hl:(subs m c).length≠1:=by intro q;simp only[q]at hs;cases s<;>cases hs
    refine mM (λb hb=> ?_) b hb;refine ah (aau.mp hb) λone ho hb=> ?_;refine aaI ((qe S F.1)) (λaZ=>A3 aZ λk1 k2 k3=> ?_) λaw=>A2 aw λk q=> ?_
    ·obtain S':=S.near (c:=c) k1 ho;exact BU (by rw[g8 (bX k1 ho)];show 1<=6;decide) (wa S') (iy S') (jn S') b hb
    ·exact absurd (by rw[k];rcases q with q |q<;>rw[q]<;>rfl) hl
   ·exact BU (aaa (BS S c) L.1) (wa S) (iy S) (jn S) b hb
theorem vt:∀(l:List Atom) {m:Env},zQ l->Mj l->lu m->∀b∈bC l m,Ls b
 |[],ab,ai,aD,bO,b,hb=>nomatch hb
 |a::r,m,F,L,S,b,hb=>by exact(aaz.mp hb).elim (GQ a F.1 L.1 S b) (vt r F.2 L.2 S b)
end
end Own.Internal.Ab
end
section
namespace Own.Internal.Mp
set_option genCtorIdx false in
inductive Fc where
 |r
 |v{q:Option V}{a:V}(h:q=some a)
 |b{q:Option Bool}{a:Bool}(h:q=some a)
 |n{q:Option Nat}{a:Nat}(h:q=some a)
 |s{q:Option St}{a:St}(h:q=some a)
 |c{q:Option (V×St)}{v:V}{s:St}(h:q=some (v,s))
 |d{q:Option (List V×List V)}{a b:List V}(h:q=some (a,b))
 |m{q:Option (List V×St)}{a:List V}{s:St}(h:q=some (a,s))
 |l{q:Res}{f:Fl}{r:En}{s:St}(h:q=some (f,r,s))
 |i{q:Option (List V)}{a:List V}(h:q=some a)
 |f{q:V×St}{v:V}{s:St}(h:q=(v,s))
 |e{q:Option (V×St)}{v:V}{s:St}(h:q=some (v,s))
 |t{q:Res}{f:Fl}{r:En}{s:St}(h:q=some (f,r,s))
 |k
 |j
abbrev An:=List Fc
--N
def nV(q:Option V)(L:An)(k:V->An->Prop):Prop:=match L with | .v (q:=p) (a:=a) _::L=>q=p/\k a L | .r::L=>(match q with |some a=>k a L |none=>False) |_=>False
def nB(q:Option Bool)(L:An)(k:Bool->An->Prop):Prop:=match L with | .b (q:=p) (a:=a) _::L=>q=p/\k a L | .r::L=>(match q with |some a=>k a L |none=>False) |_=>False
def nN(q:Option Nat)(L:An)(k:Nat->An->Prop):Prop:=match L with | .n (q:=p) (a:=a) _::L=>q=p/\k a L | .r::L=>(match q with |some a=>k a L |none=>False) |_=>False
def nS(q:Option St)(L:An)(k:St->An->Prop):Prop:=match L with | .s (q:=p) (a:=a) _::L=>q=p/\k a L | .r::L=>(match q with |some a=>k a L |none=>False) |_=>False
def nC(q:Option (V×St))(L:An)(k:V->St->An->Prop):Prop:=match L with | .c (q:=p) (v:=v) (s:=s) _::L=>q=p/\k v s L | .r::L=>(match q with |some a=>k a.1 a.2 L |none=>False) |_=>False
def nD(q:Option (List V×List V))(L:An)(k:List V->List V->An->Prop):Prop:=match L with | .d (q:=p) (a:=v) (b:=s) _::L=>q=p/\k v s L | .r::L=>(match q with |some a=>k a.1 a.2 L |none=>False) |_=>False
def nM(q:Option (List V×St))(L:An)(k:List V->St->An->Prop):Prop:=match L with | .m (q:=p) (a:=v) (s:=s) _::L=>q=p/\k v s L |_=>False
def nL(q:Res)(L:An)(k:Fl->En->St->An->Prop):Prop:=match L with | .l (q:=p) (f:=f) (r:=r) (s:=s) _::L=>q=p/\k f r s L |_=>False
def nI(q:Option (List V))(L:An)(k:List V->An->Prop):Prop:=match L with | .i (q:=p) (a:=a) _::L=>q=p/\k a L | .r::L=>(match q with |some a=>k a L |none=>False) |_=>False
def nZ(q:V×St)(L:An)(k:V->St->An->Prop):Prop:=match L with | .f (q:=p) (v:=v) (s:=s) _::L=>q=p/\k v s L | .r::L=>k q.1 q.2 L |_=>False
def nE(q:Option (V×St))(L:An)(k:V->St->An->Prop)(w:An->Prop):Prop:=match L with | .e (q:=p) (v:=v) (s:=s) _::L=>q=p/\k v s L | .k::L=>w L |L=>w L
def nT(q:Res)(L:An)(k:Fl->En->St->An->Prop)(w:An->Prop):Prop:=match L with | .t (q:=p) (f:=f) (r:=r) (s:=s) _::L=>q=p/\k f r s L | .j::L=>w L |L=>w L
--M
def allEq:List Fc->Prop->Prop
 |[],p=>p
 | .r::L,p=>allEq L p
 | .v (q:=q) _::L,p=>q=q/\allEq L p
 | .b (q:=q) _::L,p=>q=q/\allEq L p
 | .n (q:=q) _::L,p=>q=q/\allEq L p
 | .s (q:=q) _::L,p=>q=q/\allEq L p
 | .c (q:=q) _::L,p=>q=q/\allEq L p
 | .d (q:=q) _::L,p=>q=q/\allEq L p
 | .m (q:=q) _::L,p=>q=q/\allEq L p
 | .l (q:=q) _::L,p=>q=q/\allEq L p
 | .i (q:=q) _::L,p=>q=q/\allEq L p
 | .f (q:=q) _::L,p=>q=q/\allEq L p
 | .e (q:=q) _::L,p=>q=q/\allEq L p
 | .t (q:=q) _::L,p=>q=q/\allEq L p
 | .k::L,p=>allEq L p
 | .j::L,p=>allEq L p
theorem aW{p:Prop}(h:p):∀L:List Fc,allEq L p
 |[]=>h
 | .r::L=>aW h L
 | .v ab::L=>⟨rfl,aW h L⟩
 | .b ab::L=>⟨rfl,aW h L⟩
 | .n ab::L=>⟨rfl,aW h L⟩
 | .s ab::L=>⟨rfl,aW h L⟩
 | .c ab::L=>⟨rfl,aW h L⟩
 | .d ab::L=>⟨rfl,aW h L⟩
 | .m ab::L=>⟨rfl,aW h L⟩
 | .l ab::L=>⟨rfl,aW h L⟩
 | .i ab::L=>⟨rfl,aW h L⟩
 | .f ab::L=>⟨rfl,aW h L⟩
 | .e ab::L=>⟨rfl,aW h L⟩
 | .t ab::L=>⟨rfl,aW h L⟩
 | .k::L=>aW h L
 | .j::L=>aW h L
def qT(s:St)(v:V)(L:An)(k:Bool->An->Prop):Prop:=match v with
 | .bool b=>k b L
 |v=>nB (cx s v) L k
def qG(b:Bool)(p:Prop):Prop:=match b with |true=>p |false=>False
mutual
noncomputable def qE(P:Prog)(call:ct):X->En->St->An->(V->St->An->Prop)->Prop
 | .bad,ab,ai,aD,bO=>False
 | .lit v,ab,s,L,k=>k v s L
 | .var i,r,s,L,k=>(match r.getD i none with |some v=>k v s L |none=>False)
 | .attr e a,r,s,L,k=>qE P call e r s L λo s L=>nV (aE s o a) L λv L=>k v s L
 | .idx e i,r,s,L,k=>qE P call e r s L λo s L=>qE P call i r s L λx s L=>nV (bS s o x) L λv L=>k v s L
 | .EZ e lo hi rev,r,s,L,k=>qE P call e r s L λo s L=>nV (pI s o lo hi rev) L λv L=>k v s L
 | .bin op a b,r,s,L,k=>qE P call a r s L λx s L=>qE P call b r s L λy s L=>nV (eP s op x y) L λv L=>k v s L
 | .cmp op a b,r,s,L,k=>qE P call a r s L λx s L=>qE P call b r s L λy s L=>nB (aS s op x y) L λv L=>k (.bool v) s L
 | .nt e,r,s,L,k=>qE P call e r s L λv s L=>qT s v L λb L=>k (.bool (!b)) s L
 | .wg op es,r,s,L,k=>nE (Sf P call op es r s) L k λL=>qB P call op es r s L k
 | .ite c a b,r,s,L,k=>nE (bR P call (.ite c a b) r s) L k λL=>qE P call c r s L λv s L=>qT s v L λt L=>match t with |true=>qE P call a r s L k |false=>qE P call b r s L k
 | .lst es,r,s,L,k=>qL P call es r s L λvs s L=>qG (decide (vs.length<big)) (k (.loc s.n) (s.new (.lst vs)) L)
 | .tup es,r,s,L,k=>qL P call es r s L λvs s L=>qG (decide (vs.length<big)) (k (.tup vs) s L)
 | .IV es,r,s,L,k=>qL P call es r s L λxs s L=>nD (Fe (oW xs) (yW xs)) L λa b L=>k (.loc s.n) (s.new (.bV a b)) L
 | .comp elt it wF,r,s,L,k=>qE P call it r s L λc s L=>nI (itemsOf c) L λvs L=>nB (some (decide (vs.length<big))) L λb L=>qG b (nM (cB (λr s=>bR P call elt r s) (λr s=>il P call wF r s) r vs s) L λxs s L=>k (.bI xs) s L)
 | .call f es,r,s,L,k=>qL P call es r s L λvs s L=>nC (call f vs s) L k
 | .new c es,r,s,L,k=>qL P call es r s L λvs s L=>nC (wI P call s c vs) L k
 | .bi b e,r,s,L,k=>qE P call e r s L λv s L=>nC (sX s b v) L k
 | .nr m o es,r,s,L,k=>qE P call o r s L λov s L=>nN (dA P s m ov) L λf L=>qL P call es r s L λvs s L=>nC (cX call s m f ov vs) L k
 | .jj e,r,s,L,k=>qE P call e r s L λv s L=>nZ (freeze s v) L k
noncomputable def qL(P:Prog)(call:ct):List X->En->St->An->(List V->St->An->Prop)->Prop
 |[],ab,s,L,k=>k [] s L
 |e::es,r,s,L,k=>qE P call e r s L λv s L=>qL P call es r s L λvs s L=>k (v::vs) s L
noncomputable def qB(P:Prog)(call:ct):Bool->List X->En->St->An->(V->St->An->Prop)->Prop
 |ab,[],ai,aD,bO,fc=>False
 |ab,[e],r,s,L,k=>qE P call e r s L k
 |op,e::es,r,s,L,k=>qE P call e r s L λv s L=>qT s v L λb L=>match b,op with |true,true=>qB P call op es r s L k |false,false=>qB P call op es r s L k |_,_=>k v s L
end
def qC(P:Prog)(call:ct):List X->En->St->An->(Bool->St->An->Prop)->Prop
 |[],ab,s,L,k=>k true s L
 |e::es,r,s,L,k=>qE P call e r s L λv s L=>qT s v L λb L=>match b with |true=>qC P call es r s L k |false=>k false s L
mutual
noncomputable def qS(P:Prog)(call:ct):S->En->St->An->(Fl->En->St->An->Prop)->Prop
 | .bad,ab,ai,aD,bO=>False
 | .asg i e,r,s,L,k=>qE P call e r s L λv s L=>k .next (r.set i (some v)) s L
 | .sP o a e,r,s,L,k=>qE P call e r s L λv s L=>qE P call o r s L λov s L=>nS (bT P s ov a v) L λs' L=>k .next r s' L
 | .sQ o i e,r,s,L,k=>qE P call e r s L λv s L=>qE P call o r s L λov s L=>qE P call i r s L λx s L=>nS (cL s ov x v) L λs' L=>k .next r s' L
 | .IA is e,r,s,L,k=>qE P call e r s L λv s L=>(match v with | .tup vs=>(match nv is vs r with |some r=>k .next r s L |none=>False) |_=>False)
 | .sR o a op e,r,s,L,k=>qE P call o r s L λov s L=>nV (aE s ov a) L λold L=>qE P call e r s L λv s L=>(match old,v with
  | .int x,.int y=>nV (eP s op (.int x) (.int y)) L λz L=>nS (bT P s ov a z) L λs' L=>k .next r s' L
  |ab,ai=>False)
 | .sS o i op e,r,s,L,k=>qE P call o r s L λov s L=>qE P call i r s L λix s L=>nV (bS s ov ix) L λold L=>qE P call e r s L λv s L=>(match old,v with
  | .int x,.int y=>nV (eP s op (.int x) (.int y)) L λz L=>nS (cL s ov ix z) L λs' L=>k .next r s' L
  |ab,ai=>False)
 | .exp e,r,s,L,k=>qE P call e r s L λv s L=>qG v.drops (k .next r s L)
 | .ret e,r,s,L,k=>qE P call e r s L λv s L=>k (.ret v) r s L
 | .iff c a b,r,s,L,k=>nT (hJ P call (.iff c a b) r s) L k λL=>qE P call c r s L λv s L=>qT s v L λt L=>match t with |true=>Mk P call a r s L k |false=>Mk P call b r s L k
 | .pH i it body,r,s,L,k=>qE P call it r s L λc s L=>nI (itemsOf c) L λvs L=>nL (dk i (λr s=>dS P call body r s) vs r s) L k
 | .EM c body,r,s,L,k=>nL (oX (λr s=>wh P call c r s) (λr s=>dS P call body r s) 5000 r s) L k
 | .fin body final,r,s,L,k=>Mk P call body r s L λf r s L=>Mk P call final r s L λg r s L=>qG g.yX (k f r s L)
noncomputable def Mk(P:Prog)(call:ct):List S->En->St->An->(Fl->En->St->An->Prop)->Prop
 |[],r,s,L,k=>k .next r s L
 |c::cs,r,s,L,k=>qS P call c r s L λf r s L=>match f with | .next=>Mk P call cs r s L k | .ret v=>k (.ret v) r s L
end
section
variable {P:Prog}{call:ct}
theorem Ml{q:Option V}{L:An}{k:_->An->Prop}(h:nV q L k):∃v L',q=some v/\k v L':=by
 cases L with
 |nil=>exact aaT h
 |cons f L=>cases f<;>first |exact aaT h |exact⟨_,L,h.1.trans (by assumption),h.2⟩ |(cases q<;>first |exact aaT h |exact⟨_,L,rfl,h⟩)
theorem UE{q:Option Bool}{L:An}{k:_->An->Prop}(h:nB q L k):∃v L',q=some v/\k v L':=by
 cases L with
 |nil=>exact aaT h
 |cons f L=>cases f<;>first |exact aaT h |exact⟨_,L,h.1.trans (by assumption),h.2⟩ |(cases q<;>first |exact aaT h |exact⟨_,L,rfl,h⟩)
theorem YD{q:Option Nat}{L:An}{k:_->An->Prop}(h:nN q L k):∃v L',q=some v/\k v L':=by
 cases L with
 |nil=>exact aaT h
 |cons f L=>cases f<;>first |exact aaT h |exact⟨_,L,h.1.trans (by assumption),h.2⟩ |(cases q<;>first |exact aaT h |exact⟨_,L,rfl,h⟩)
theorem Sy{q:Option St}{L:An}{k:_->An->Prop}(h:nS q L k):∃v L',q=some v/\k v L':=by
 cases L with
 |nil=>exact aaT h
 |cons f L=>cases f<;>first |exact aaT h |exact⟨_,L,h.1.trans (by assumption),h.2⟩ |(cases q<;>first |exact aaT h |exact⟨_,L,rfl,h⟩)
theorem Ws{q:Option (List V)}{L:An}{k:_->An->Prop}(h:nI q L k):∃v L',q=some v/\k v L':=by
 cases L with
 |nil=>exact aaT h
 |cons f L=>cases f<;>first |exact aaT h |exact⟨_,L,h.1.trans (by assumption),h.2⟩ |(cases q<;>first |exact aaT h |exact⟨_,L,rfl,h⟩)
theorem Sz{q:Option (V×St)}{L:An}{k:_->_->An->Prop}(h:nC q L k):∃v s L',q=some (v,s)/\k v s L':=by
 cases L with
 |nil=>exact aaT h
 |cons f L=>cases f<;>first |exact aaT h |exact⟨_,_,L,h.1.trans (by assumption),h.2⟩ |(cases q<;>first |exact aaT h |exact⟨_,_,L,rfl,h⟩)
theorem YE{q:Option (List V×List V)}{L:An}{k:_->_->An->Prop}(h:nD q L k):∃v s L',q=some (v,s)/\k v s L':=by
 cases L with
 |nil=>exact aaT h
 |cons f L=>cases f<;>first |exact aaT h |exact⟨_,_,L,h.1.trans (by assumption),h.2⟩ |(cases q<;>first |exact aaT h |exact⟨_,_,L,rfl,h⟩)
theorem YF{q:Option (List V×St)}{L:An}{k:_->_->An->Prop}(h:nM q L k):∃v s L',q=some (v,s)/\k v s L':=by
 cases L with
 |nil=>exact aaT h
 |cons f L=>cases f<;>first |exact aaT h |exact⟨_,_,L,h.1.trans (by assumption),h.2⟩ |(cases q<;>first |exact aaT h |exact⟨_,_,L,rfl,h⟩)
theorem Wu{q:Res}{L:An}{k:_->_->_->An->Prop}(h:nL q L k):∃f r s L',q=some (f,r,s)/\k f r s L':=by
 cases L with
 |nil=>exact aaT h
 |cons f L=>cases f<;>first |exact aaT h |exact⟨_,_,_,L,h.1.trans (by assumption),h.2⟩
theorem YG{q:V×St}{L:An}{k:_->_->An->Prop}(h:nZ q L k):∃v s L',q=(v,s)/\k v s L':=by
 cases L with
 |nil=>exact aaT h
 |cons f L=>cases f<;>first |exact aaT h |exact⟨_,_,L,h.1.trans (by assumption),h.2⟩ |exact⟨_,_,L,rfl,h⟩
theorem Wv{q:Option (V×St)}{L:An}{k:V->St->An->Prop}{w:An->Prop}(h:nE q L k w)(g:∀L,w L->∃v s L',q=some (v,s)/\k v s L'):∃v s L',q=some (v,s)/\k v s L':=by
 cases L with
 |nil=>exact g _ h
 |cons f L=>cases f<;>first |exact⟨_,_,_,h.1.trans (by assumption),h.2⟩ |exact g _ h
theorem YH{q:Res}{L:An}{k:Fl->En->St->An->Prop}{w:An->Prop}(h:nT q L k w)(g:∀L,w L->∃f r s L',q=some (f,r,s)/\k f r s L'):∃f r s L',q=some (f,r,s)/\k f r s L':=by
 cases L with
 |nil=>exact g _ h
 |cons f L=>cases f<;>first |exact⟨_,_,_,_,h.1.trans (by assumption),h.2⟩ |exact g _ h
theorem UG{b:Bool}{p:Prop}(h:qG b p):b=true/\p:=match b,h with |true,h=>⟨rfl,h⟩
theorem Pr{s:St}{v:V}{L:An}{k:Bool->An->Prop}(h:qT s v L k):∃b L',cx s v=some b/\k b L':=by
 unfold qT at h;split at h
 ·exact⟨_,_,rfl,h⟩
 ·refine eO (UE h) λb L' e h=> ?_;exact⟨b,L',e,h⟩
abbrev Rh(x:Option (V×St))(k:V->St->An->Prop):Prop:=∃v s L,x=some (v,s)/\k v s L
theorem Gb{α β:Type}{x:Option (α×St)}{f:α->St->Option (β×St)}{k1:α->St->An->Prop}{k:β->St->An->Prop}(h:∃v s L,x=some (v,s)/\k1 v s L)(g:∀v s L,k1 v s L->∃w s' L',f v s=some (w,s')/\k w s' L'):∃w s' L',ob x f=some (w,s')/\k w s' L':=
 let⟨v,s,L,e,h⟩:=h;let⟨w,s',L',e',h'⟩:=g v s L h
 ⟨w,s',L',(aQ e).trans e',h'⟩
theorem Gm{α β:Type}{x:Option α}{f:α->Option (β×St)}{k1:α->An->Prop}{k:β->St->An->Prop}(h:∃v L,x=some v/\k1 v L)(g:∀v L,k1 v L->∃w s' L',f v=some (w,s')/\k w s' L'):∃w s' L',om x f=some (w,s')/\k w s' L':=
 let⟨v,L,e,h⟩:=h;let⟨w,s',L',e',h'⟩:=g v L h
 ⟨w,s',L',(eB e).trans e',h'⟩
theorem YI{α β γ:Type}{x:Option (α×γ)}{f:α×γ->Option (β×St)}{k1:α->γ->An->Prop}{k:β->St->An->Prop}(h:∃v u L,x=some (v,u)/\k1 v u L)(g:∀v u L,k1 v u L->∃w s' L',f (v,u)=some (w,s')/\k w s' L'):∃w s' L',om x f=some (w,s')/\k w s' L':=
 let⟨v,u,L,e,h⟩:=h;let⟨w,s',L',e',h'⟩:=g v u L h
 ⟨w,s',L',(eB e).trans e',h'⟩
theorem Gg{β:Type}{b:Bool}{p:Prop}{x:Option (β×St)}{k:β->St->An->Prop}(h:qG b p)(g:p->∃w s' L',x=some (w,s')/\k w s' L'):∃w s' L',og b x=some (w,s')/\k w s' L':=
 let⟨e,h⟩:=UG h;let⟨w,s',L',e',h'⟩:=g h
 ⟨w,s',L',(b7 e).trans e',h'⟩
theorem Gr{β:Type}{v:β}{s:St}{L:An}{k:β->St->An->Prop}(h:k v s L):∃w s' L',some (v,s)=some (w,s')/\k w s' L':=⟨v,s,L,rfl,h⟩
mutual
theorem jC:∀(e:X) {r:En} {s:St} {L:An} {k:V->St->An->Prop},qE P call e r s L k->Rh (bR P call e r s) k
 | .bad,ab,ai,aD,bO,h=>h.elim
 | .lit v,ab,ai,aD,bO,h=>⟨_,_,_,rfl,h⟩
 | .var i,r,s,L,k,h=>by
  replace h:(match r.getD i none with |some v=>k v s L |none=>False):=h;cases hv:r.getD i none with
  |some v=>simp only[hv]at h;exact⟨v,s,L,eB hv,h⟩
  |none=>rw[hv]at h;exact h.elim
 | .attr e ab,ai,aD,bO,fc,h=>Gb (jC e h) λab ai aD h=>Gm (Ml h) λab ai h=>Gr h
 | .idx e i,ab,ai,aD,bO,h=>Gb (jC e h) λab ai aD h=>Gb (jC i h) λab ai aD h=>Gm (Ml h) λab ai h=>Gr h
 | .EZ e ab ai aD,bO,fc,ny,wj,h=>Gb (jC e h) λab ai aD h=>Gm (Ml h) λab ai h=>Gr h
 | .bin ab a b,ai,aD,bO,fc,h=>Gb (jC a h) λab ai aD h=>Gb (jC b h) λab ai aD h=>Gm (Ml h) λab ai h=>Gr h
 | .cmp ab a b,ai,aD,bO,fc,h=>Gb (jC a h) λab ai aD h=>Gb (jC b h) λab ai aD h=>Gm (UE h) λab ai h=>Gr h
 | .nt e,ab,ai,aD,bO,h=>Gb (jC e h) λab ai aD h=>Gm (Pr h) λab ai h=>Gr h
 | .wg op es,ab,ai,aD,bO,h=>Wv h λab h=>UH op es h
 | .ite c a b,r,ab,ai,k,h=>Wv h λab h=>Gb (jC c h) λab ai aD h=>Gm (Pr h) λt ab h=>by
  cases t
  ·exact jC b h
  ·exact jC a h
 | .lst es,ab,ai,aD,bO,h=>Gb (Ol es h) λab ai aD h=>Gg h λh=>Gr h
 | .tup es,ab,ai,aD,bO,h=>Gb (Ol es h) λab ai aD h=>Gg h λh=>Gr h
 | .IV es,ab,ai,aD,bO,h=>Gb (Ol es h) λab ai aD h=>YI (YE h) λab ai aD h=>Gr h
 | .comp elt it wF,ab,ai,aD,bO,h=>by refine qv (jC it h) λc s L h1 h=> ?_;refine eO (Ws h) λvs L h2 h=> ?_;refine eO (UE h) λb L h3 h=> ?_;refine A2 (UG h) λhb h=> ?_;refine qv (YF h) λxs s' L h4 h=> ?_;exact⟨_,_,L,(aQ h1).trans ((eB h2).trans ((b7 ((aad h3).trans hb)).trans (aQ h4))),h⟩
 | .call ab es,ai,aD,bO,fc,h=>Gb (Ol es h) λab ai aD h=>Sz h
 | .new ab es,ai,aD,bO,fc,h=>Gb (Ol es h) λab ai aD h=>Sz h
 | .bi ab e,ai,aD,bO,fc,h=>Gb (jC e h) λab ai aD h=>Sz h
 | .nr ab o es,ai,aD,bO,fc,h=>Gb (jC o h) λab ai aD h=>Gm (YD h) λab ai h=>Gb (Ol es h) λab ai aD h=>Sz h
 | .jj e,ab,ai,aD,bO,h=>by refine qv (jC e h) λv s L h1 h=> ?_;refine qv (YG h) λx s' L h2 h=> ?_;exact⟨x,s',L,(aQ h1).trans (congrArg some h2),h⟩
theorem Ol:∀(es:List X) {r:En} {s:St} {L:An} {k:List V->St->An->Prop},qL P call es r s L k->∃vs s' L',CX P call es r s=some (vs,s')/\k vs s' L'
 |[],ab,ai,aD,bO,h=>Gr h
 |e::es,ab,ai,aD,bO,h=>Gb (jC e h) λab ai aD h=>Gb (Ol es h) λab ai aD h=>Gr h
theorem UH:∀(op:Bool) (es:List X) {r:En} {s:St} {L:An} {k:V->St->An->Prop},qB P call op es r s L k->Rh (Sf P call op es r s) k
 |ab,[],ai,aD,bO,fc,h=>h.elim
 |ab,[e],ai,aD,bO,fc,h=>jC e h
 |op,e::e'::es,r,ab,ai,aD,h=>Gb (jC e h) λv s ab h=>Gm (Pr h) λb ab h=>by
  cases b<;>cases op
  ·exact UH false (_::es) h
  ·exact Gr h
  ·exact Gr h
  ·exact UH true (_::es) h
end
abbrev pO(x:Res)(k:Fl->En->St->An->Prop):Prop:=∃f r s L,x=some (f,r,s)/\k f r s L
theorem Hb{α:Type}{x:Option (α×St)}{f:α->St->Res}{k1:α->St->An->Prop}{k:Fl->En->St->An->Prop}(h:∃v s L,x=some (v,s)/\k1 v s L)(g:∀v s L,k1 v s L->pO (f v s) k):pO (ob x f) k:=
 let⟨v,s,L,e,h⟩:=h;let⟨a,b,c,L',e',h'⟩:=g v s L h
 ⟨a,b,c,L',(aQ e).trans e',h'⟩
theorem Hm{α:Type}{x:Option α}{f:α->Res}{k1:α->An->Prop}{k:Fl->En->St->An->Prop}(h:∃v L,x=some v/\k1 v L)(g:∀v L,k1 v L->pO (f v) k):pO (om x f) k:=
 let⟨v,L,e,h⟩:=h;let⟨a,b,c,L',e',h'⟩:=g v L h
 ⟨a,b,c,L',(eB e).trans e',h'⟩
theorem Hg{b:Bool}{p:Prop}{x:Res}{k:Fl->En->St->An->Prop}(h:qG b p)(g:p->pO x k):pO (og b x) k:=
 let⟨e,h⟩:=UG h;let⟨a,b,c,L',e',h'⟩:=g h
 ⟨a,b,c,L',(b7 e).trans e',h'⟩
theorem Hs{x:Res}{f:Fl->En->St->Res}{k1 k:Fl->En->St->An->Prop}(h:pO x k1)(g:∀a b c L,k1 a b c L->pO (f a b c) k):pO (os x f) k:=
 let⟨v,r,s,L,e,h⟩:=h;let⟨a,b,c,L',e',h'⟩:=g v r s L h
 ⟨a,b,c,L',(os_eq e).trans e',h'⟩
theorem Hr{f:Fl}{r:En}{s:St}{L:An}{k:Fl->En->St->An->Prop}(h:k f r s L):pO (some (f,r,s)) k:=⟨f,r,s,L,rfl,h⟩
mutual
theorem Ww:∀(c:S) {r:En} {s:St} {L:An} {k:Fl->En->St->An->Prop},qS P call c r s L k->pO (hJ P call c r s) k
 | .bad,_,_,_,_,h=>h.elim
 | .asg _ e,_,_,_,_,h=>p6▸Hb (jC e h) λ_ _ _ h=>Hr h
 | .sP o _ e,_,_,_,_,h=>xf▸Hb (jC e h) λ_ _ _ h=>Hb (jC o h) λ_ _ _ h=>Hm (Sy h) λ_ _ h=>Hr h
 | .sQ o i e,_,_,_,_,h=>xg▸Hb (jC e h) λ_ _ _ h=>Hb (jC o h) λ_ _ _ h=>Hb (jC i h) λ_ _ _ h=>Hm (Sy h) λ_ _ h=>Hr h
 | .IA is e,r,_,_,_,h=>Bu▸Hb (jC e h) λv s L h=>by
  cases v<;>first |exact h.elim |skip
  rename_i vs;dsimp only at h;split at h
  ·rename_i r' hr;exact⟨_,_,_,L,eB hr,h⟩
  ·exact h.elim
 | .sR o _ _ e,_,_,_,_,h=>xh▸Hb (jC o h) λ_ _ _ h=>Hm (Ml h) λold _ h=>Hb (jC e h) λv _ _ h=>by
  cases old<;>first |exact h.elim |skip
  cases v<;>first |exact h.elim |skip
  obtain h:=Ml h;refine nq (Hm h λ_ _ h=>Hm (Sy h) λ_ _ h=>Hr h) λf r s L e h=> ?_;exact⟨f,r,s,L,e,h⟩
 | .sS o i _ e,_,_,_,_,h=>xi▸Hb (jC o h) λ_ _ _ h=>Hb (jC i h) λ_ _ _ h=>Hm (Ml h) λold _ h=>Hb (jC e h) λv _ _ h=>by
  cases old<;>first |exact h.elim |skip
  cases v<;>first |exact h.elim |skip
  obtain h:=Ml h;refine nq (Hm h λ_ _ h=>Hm (Sy h) λ_ _ h=>Hr h) λf r s L e h=> ?_;exact⟨f,r,s,L,e,h⟩
 | .exp e,_,_,_,_,h=>Bv▸Hb (jC e h) λ_ _ _ h=>Hg h λh=>Hr h
 | .ret e,_,_,_,_,h=>Bw▸Hb (jC e h) λ_ _ _ h=>Hr h
 | .iff c a b,_,_,_,_,h=>YH h λ_ h=>by
  refine qv (jC c h) λo s L h1 h=> ?_;refine eO (Pr h) λt L h2 h=> ?_;obtain e:wh P call c _ _=some (t,s):=(aQ h1).trans (eB h2);rw[Bx,aQ e];cases t
  ·exact zS b h
  ·exact zS a h
 | .pH _ it _,_,_,_,_,h=>xj▸Hb (jC it h) λ_ _ _ h=>Hm (Ws h) λ_ _ h=>Wu h
 | .EM _ _,_,_,_,_,h=>Bz▸Wu h
 | .fin body final,_,_,_,_,h=>BB▸Hs (zS body h) λ_ _ _ _ h=>Hs (zS final h) λ_ _ _ _ h=>Hg h λh=>Hr h
theorem zS:∀(cs:List S) {r:En} {s:St} {L:An} {k:Fl->En->St->An->Prop},Mk P call cs r s L k->pO (dS P call cs r s) k
 |[],ab,ai,aD,bO,h=>Hr h
 |c::cs,ab,ai,aD,bO,h=>xk▸Hs (Ww c h) λf ab ai aD h=>by
  cases f with
  |next=>exact zS cs h
  |ret v=>exact Hr h
end
end
def qF(P:Prog)(call:ct)(f:Nat)(args:List V)(s:St)(L:An)(w:V×St):Prop:=match P.fns[f]? with
 |some F=>(match Lx F args with
  |some r=>Mk P call F.code r s L λfl ab s' ai=>(fl.val,s')=w
  |none=>False)
 |none=>False
set_option tactic.hygienic true in
theorem Ri{P:Prog}{d f:Nat}{args:List V}{s:St}{L:An}{w:V×St}(h:qF P (af P d) f args s L w):af P (d+1) f args s=some w:=by
 refine cps λ_ kk=> ?_;unfold qF at h;split at h
 ·rename_i F hF;split at h
  ·rename_i r hr;refine nq (zS _ h) λfl r' s' L' h1 h2=> ?_;exact kk<|(eB hF).trans ((eB hr).trans ((os_eq h1).trans (congrArg some h2)))
  ·exact h.elim
 ·exact h.elim
def ae{α:Type}(L:An)(w:α):Prop:=allEq L (w=w)
def rq(d f:Nat)(args:List V)(s:St)(w:V×St)(L:An):Prop:=qF P (af P d) f args s L w
def Wy(call:ct)(cs:List S)(r:En)(s:St)(w:Fl×En×St)(L:An):Prop:=Mk P call cs r s L λf r s ab=>(f,r,s)=w
def Wz(call:ct)(c:S)(r:En)(s:St)(w:Fl×En×St)(L:An):Prop:=qS P call c r s L λf r s ab=>(f,r,s)=w
def WA(call:ct)(x:X)(r:En)(s:St)(w:V×St)(L:An):Prop:=qE P call x r s L λv s ab=>(v,s)=w
def WB(call:ct)(x:X)(r:En)(s:St)(w:Bool×St)(L:An):Prop:=qE P call x r s L λv s L=>qT s v L λb ab=>(b,s)=w
def WC(call:ct)(es:List X)(r:En)(s:St)(w:Bool×St)(L:An):Prop:=qC P call es r s L λb s ab=>(b,s)=w
theorem run{d f:Nat}{args:List V}{s:St}{w:V×St}(L:List Fc)(e:rq d f args s w L=ae L w):af P (d+1) f args s=some w:=Ri (L:=L) (e▸aW rfl L:rq d f args s w L)
theorem eR{call:ct}{cs:List S}{r:En}{s:St}{w:Fl×En×St}(L:List Fc)(e:Wy call cs r s w L=ae L w):dS P call cs r s=some w:=by refine nq (zS cs (e▸aW rfl L:Wy call cs r s w L)) λf r s ab h k=> ?_;exact h.trans (congrArg some k)
theorem bU{call:ct}{x:X}{r:En}{s:St}{w:V×St}(L:List Fc)(e:WA call x r s w L=ae L w):bR P call x r s=some w:=by refine qv (jC x (e▸aW rfl L:WA call x r s w L)) λv s ab h k=> ?_;exact h.trans (congrArg some k)
theorem GR{call:ct}{x:X}{r:En}{s:St}{w:Bool×St}(L:List Fc)(e:WB call x r s w L=ae L w):wh P call x r s=some w:=by refine qv (jC x (e▸aW rfl L:WB call x r s w L)) λv s ab h k=> ?_;refine eO (Pr k) λb ab h2 k=> ?_;exact(aQ h).trans ((eB h2).trans (congrArg some k))
theorem GS{call:ct}{c:S}{r:En}{s:St}{w:Fl×En×St}(L:List Fc)(e:Wz call c r s w L=ae L w):hJ P call c r s=some w:=by refine nq (Ww c (e▸aW rfl L:Wz call c r s w L)) λf r s ab h k=> ?_;exact h.trans (congrArg some k)
theorem YJ:∀(es:List X) {call:ct} {r:En} {s:St} {L:An} {k:Bool->St->An->Prop},qC P call es r s L k->∃b s' L',il P call es r s=some (b,s')/\k b s' L':=by
 intro v_;induction v_ with
 |nil=>intro dJ dJ dJ dJ dJ h;exact MG _ _ _ rfl h
 |cons e es ih=>
  intro dJ dJ dJ dJ dJ h;refine qv (jC e h) λv s L h1 h=> ?_;refine eO (Pr h) λb L h2 h=> ?_;cases b
  ·exact MG _ _ _ ((aQ h1).trans (eB h2)) h
  ·refine qv (ih h) λb s L h3 h=> ?_;exact MG _ _ _ ((aQ h1).trans ((eB h2).trans h3)) h
theorem runC{call:ct}{es:List X}{r:En}{s:St}{w:Bool×St}(L:List Fc)(e:WC call es r s w L=ae L w):il P call es r s=some w:=by refine qv (YJ es (e▸aW rfl L:WC call es r s w L)) λb s ab h k=> ?_;exact h.trans (congrArg some k)
mutual
noncomputable def S.loops:S->List (X×List S)
 | .iff ab a b=>S.ju a++S.ju b
 | .pH ab it b=>(it,b)::S.ju b
 | .EM c b=>(c,b)::S.ju b
 | .fin a b=>S.ju a++S.ju b
 |_=>[]
noncomputable def S.ju:List S->List (X×List S)
 |[]=>[]
 |a::r=>S.loops a++S.ju r
end
mutual
noncomputable def X.comps:X->List (X×List X)
 | .attr e ab=>X.comps e
 | .idx e i=>X.comps e++X.comps i
 | .EZ e ab ai aD=>X.comps e
 | .bin ab a b=>X.comps a++X.comps b
 | .cmp ab a b=>X.comps a++X.comps b
 | .nt e=>X.comps e
 | .wg ab es=>X.dQ es
 | .ite c a b=>X.comps c++X.comps a++X.comps b
 | .lst es=>X.dQ es
 | .tup es=>X.dQ es
 | .IV es=>X.dQ es
 | .comp a it cs=>(a,cs)::(X.comps a++X.comps it++X.dQ cs)
 | .call ab es=>X.dQ es
 | .new ab es=>X.dQ es
 | .bi ab e=>X.comps e
 | .nr ab o es=>X.comps o++X.dQ es
 | .jj e=>X.comps e
 |_=>[]
noncomputable def X.dQ:List X->List (X×List X)
 |[]=>[]
 |a::r=>X.comps a++X.dQ r
end
mutual
noncomputable def S.comps:S->List (X×List X)
 | .asg ab e=>e.comps
 | .sP o ab e=>o.comps++e.comps
 | .sQ o i e=>o.comps++i.comps++e.comps
 | .IA ab e=>e.comps
 | .sR o ab ai e=>o.comps++e.comps
 | .sS o i ab e=>o.comps++i.comps++e.comps
 | .exp e=>e.comps
 | .ret e=>e.comps
 | .iff c a b=>c.comps++S.dQ a++S.dQ b
 | .pH ab it b=>it.comps++S.dQ b
 | .EM c b=>c.comps++S.dQ b
 | .fin a b=>S.dQ a++S.dQ b
 |_=>[]
noncomputable def S.dQ:List S->List (X×List X)
 |[]=>[]
 |a::r=>S.comps a++S.dQ r
end
mutual
noncomputable def X.eo:X->List X
 | .attr e ab=>X.eo e
 | .idx e i=>X.eo e++X.eo i
 | .EZ e ab ai aD=>X.eo e
 | .bin ab a b=>X.eo a++X.eo b
 | .cmp ab a b=>X.eo a++X.eo b
 | .nt e=>X.eo e
 | .wg o es=> .wg o es::X.gc es
 | .ite c a b=> .ite c a b::(X.eo c++X.eo a++X.eo b)
 | .lst es=>X.gc es
 | .tup es=>X.gc es
 | .IV es=>X.gc es
 | .comp a it cs=>X.eo a++X.eo it++X.gc cs
 | .call ab es=>X.gc es
 | .new ab es=>X.gc es
 | .bi ab e=>X.eo e
 | .nr ab o es=>X.eo o++X.gc es
 | .jj e=>X.eo e
 |_=>[]
noncomputable def X.gc:List X->List X
 |[]=>[]
 |a::r=>X.eo a++X.gc r
end
mutual
noncomputable def S.eo:S->List X
 | .asg ab e=>e.eo
 | .sP o ab e=>o.eo++e.eo
 | .sQ o i e=>o.eo++i.eo++e.eo
 | .IA ab e=>e.eo
 | .sR o ab ai e=>o.eo++e.eo
 | .sS o i ab e=>o.eo++i.eo++e.eo
 | .exp e=>e.eo
 | .ret e=>e.eo
 | .iff c a b=>c.eo++S.gc a++S.gc b
 | .pH ab it b=>it.eo++S.gc b
 | .EM c b=>c.eo++S.gc b
 | .fin a b=>S.gc a++S.gc b
 |_=>[]
noncomputable def S.gc:List S->List X
 |[]=>[]
 |a::r=>S.eo a++S.gc r
end
mutual
noncomputable def S.ifs:S->List S
 | .iff c a b=> .iff c a b::(S.xN a++S.xN b)
 | .pH ab ai b=>S.xN b
 | .EM ab b=>S.xN b
 | .fin a b=>S.xN a++S.xN b
 |_=>[]
noncomputable def S.xN:List S->List S
 |[]=>[]
 |a::r=>S.ifs a++S.xN r
end
def codeOf(f:Nat):List S:=(P.fns.map Fn.code).getD f []
def lb(f k:Nat):List S:=((S.ju (codeOf f)).getD k (.bad,[])).2
def lc(f k:Nat):X:=((S.ju (codeOf f)).getD k (.bad,[])).1
def bo(f k:Nat):X:=(S.gc (codeOf f)).getD k .bad
def fi(f k:Nat):S:=(S.xN (codeOf f)).getD k .bad
def ce(f k:Nat):X:=((S.dQ (codeOf f)).getD k (.bad,[])).1
def cc(f k:Nat):List X:=((S.dQ (codeOf f)).getD k (.bad,[])).2
end Own.Internal.Mp
end
section
namespace Own.Internal.Wk
open Mp Ab PySem PySem.W
abbrev nV(x:Nm):V:= .str (iq x)
noncomputable abbrev sV(t:List Nat):V:= .str t
abbrev cF(l:List Nm):V:= .bI (l.map nV)
abbrev cD(l:List Atom):V:= .bI (l.map λa=>sV (txt a))
noncomputable def iv:List Nm:=[0,1,2,3,4,5,6,7,8,9,10,11,12,13,14,15,16,17,18,19,20,21,22,23,24]
theorem cP{β:Type}{f g:Nm->β}(h:iv.map f=iv.map g)(x:Nm):f x=g x:=by
 obtain this:x∈iv:=by revert x;decide
 exact adA.mp h x this
theorem xO(d:Nat)(σ:St):∀x:Nm,af P (d+1) 51 [nV x] σ=some (nV (bare x),σ):=cP (by kernel_rfl)
structure Ext(σ aq:St):Prop where
 n:σ.n<=aq.n
 f:∀l,l<σ.n->aq.f l=σ.f l
theorem Ext.refl(σ:St):Ext σ σ:=⟨aab _,λab ai=>rfl⟩
theorem Ext.trans{a b c:St}(x:Ext a b)(y:Ext b c):Ext a c:=⟨aaa x.n y.n,λl h=>(y.f l (aak h x.n)).trans (x.f l h)⟩
theorem Ext.new(σ:St)(o:O):Ext σ (σ.new o):=⟨aaK _,λab h=>if_neg (aaF h)⟩
theorem Ext.set{σ aq:St}(x:Ext σ aq){l:Nat}(h:σ.n<=l)(o:O):Ext σ (aq.set l o):=⟨x.n,λk hk=>(if_neg (aaF (aak hk h))).trans (x.f k hk)⟩
noncomputable def cw(σ:St)(vs:List V):St:=(σ.new (.lst vs)).set σ.n .dead
theorem Ext.cw(σ:St)(vs:List V):Ext σ (cw σ vs):=(Ext.new σ _).set (aab _) _
theorem bY(σ:St)(o:O):(σ.new o).f σ.n=o:=if_pos rfl
theorem cz(σ:St)(l:Nat)(o:O):(σ.set l o).f l=o:=if_pos rfl
theorem qg{σ:St}{l:Nat}{vs:List V}(h:σ.f l= .lst vs):freeze σ (.loc l)=(.bI vs,σ.set l .dead):=by show(match σ.f l with | .lst vs=>(V.bI vs,_) | .bV ks vs=>(V.pG ks vs,_) |_=>_)=_;rw[h]
theorem vw{σ:St}{l:Nat}{ks vs:List V}(h:σ.f l= .bV ks vs):freeze σ (.loc l)=(.pG ks vs,σ.set l .dead):=by show(match σ.f l with | .lst vs=>(V.bI vs,_) | .bV ks vs=>(V.pG ks vs,_) |_=>_)=_;rw[h]
theorem aP(σ:St)(vs:List V):freeze (σ.new (.lst vs)) (.loc σ.n)=(.bI vs,cw σ vs):=qg (bY ..)
theorem uh(d:Nat)(σ:St)(r:List Nat):af P (d+1) 51 [.str (91::r)] σ=some (.str (91::r),σ):=by exact run [.r,.r,.r] (by kernel_rfl)
def oz:Atom->List (List Nat)
 | .n x=>(rooms x).map iq
 |a=>[txt a]
noncomputable def kR(x:Nm):Nat:=[4,4,5,3,3,2,4,5,3].getD x 6
def lR(σ:St)(x:Nm):List Fc:=abz (kR x) .r++[.f (aP σ ((rooms x).map nV)),.r]
theorem BV(d:Nat)(σ:St)(x:Nm):af P (d+2) 52 [nV x] σ=some (cF (rooms x),cw σ ((rooms x).map nV)):=
 run (lR σ x) (cP (f:=λx=>qF P (af P (d+1)) 52 [nV x] σ (lR σ x) (cF (rooms x),cw σ ((rooms x).map nV))) (g:=λx=>allEq (lR σ x) ((cF (rooms x),cw σ ((rooms x).map nV))=(cF (rooms x),cw σ ((rooms x).map nV)))) (by kernel_rfl) x)
theorem zT(d:Nat)(σ:St)(r:List Nat):af P (d+2) 52 [.str (91::r)] σ=some (.bI [.str (91::r)],cw σ [.str (91::r)]):=by obtain h0:=uh d σ r;exact run [.r,.r,.r,.r,.r,.r,.f (aP σ [.str (91::r)]),.r] (by kernel_rfl)
abbrev aV(a:Atom):V:=sV (txt a)
def ij:Atom->Atom
 | .n x=> .n (bare x)
 |a=>a
theorem Om(d:Nat)(σ:St):∀a:Atom,af P (d+1) 51 [aV a] σ=some (aV (ij a),σ)
 | .n x=>xO d σ x
 | .cond .. =>uh d σ _
theorem JU(d:Nat)(σ:St):∀a:Atom,af P (d+2) 52 [aV a] σ=some (.bI ((oz a).map sV),cw σ ((oz a).map sV))
 | .n x=>by simp only[oz,aay];exact BV d σ x
 | .cond .. =>zT d σ _
theorem fG{elt:En->St->Option (V×St)}{cond:En->St->Option (Bool×St)}{r:En}{s:St}{α:Type}{f g:α->V}:∀(l:List α),(∀a∈l,cond (r++[some (f a)]) s=some (true,s))->(∀a∈l,elt (r++[some (f a)]) s=some (g a,s))->cB elt cond r (l.map f) s=some (l.map g,s):=by
 intro v_;induction v_ with
 |nil=>intro dJ dJ;exact rfl
 |cons a l ih=>intro h1 h2;exact(aQ (h1 a aac)).trans ((aQ (h2 a aac)).trans (aQ (ih (λb hb=>h1 b (aaf _ hb)) λb hb=>h2 b (aaf _ hb))))
theorem jv{elt:En->St->Option (V×St)}{cond:En->St->Option (Bool×St)}{r:En}{s:St}{α:Type}{f:α->V}{p:α->Bool}:∀(l:List α),(∀a∈l,cond (r++[some (f a)]) s=some (p a,s))->(∀a∈l,elt (r++[some (f a)]) s=some (f a,s))->cB elt cond r (l.map f) s=some ((l.filter p).map f,s):=by
 intro v_;induction v_ with
 |nil=>intro dJ dJ;exact rfl
 |cons a l ih=>
  intro h1 h2;obtain ih:=ih (λb hb=>h1 b (aaf _ hb)) λb hb=>h2 b (aaf _ hb);obtain k:=h1 a aac;cases hp:p a
  ·rw[hp]at k;rw[List.filter_cons_of_neg (by simp[hp])];exact(aQ k).trans ih
  ·rw[hp]at k;rw[List.filter_cons_of_pos hp];exact(aQ k).trans ((aQ (h2 a aac)).trans (aQ ih))
def cA(l:List Atom)(a:Atom):Bool:=l.any λb=>decide (txt a=txt b)
theorem du{l:List Atom}{a:Atom}:cA l a=true↔a∈l:=by simp only[cA,abn,decide_eq_true_eq];exact⟨λi4=>ah i4 λb hb e=>vg e▸hb,λh=>⟨a,h,rfl⟩⟩
theorem JV(l:List Atom):(l.map aV).all V.isStr=true:=by rw[abN];exact aas.mpr λab ai=>rfl
theorem GU{s:St}{c:V}{l:List Atom}(h:jL s c=some (l.map aV))(a:Atom):E6 s (aV a) c=some (cA l a):=by unfold E6;rw[h];show og ((false &&_) ||(true &&_)) _=_;rw[JV,acF];rfl
theorem ui(s:St)(l:List Atom)(a:Atom):aS s .isin (aV a) (cD l)=some (cA l a):=GU (s:=s) (c:=cD l) rfl a
theorem DX{s:St}{k:Nat}{l:List Atom}(h:s.f k= .lst (l.map aV))(a:Atom):aS s .jJ (aV a) (.loc k)=some (!cA l a):=by show om (E6 s (aV a) (.loc k)) _=_;rw[GU (l:=l) (by show(s.f k).eW =_;exact congrArg _ h)];rfl
theorem BW:∀l:List Atom,strsOf (l.map aV)=some (l.map txt):=by
 intro v_;induction v_ with
 |nil=>exact rfl
 |cons a l ih=>exact(eB (f:=λi=>om (strsOf (l.map aV)) λl=>some (i::l)) (rfl:(aV a).wG =some (txt a))).trans (eB (ih))
theorem UI{s:St}{n:Nat}(h:0<n):aS s .gt (.int n) (.int 0)=some true:=congrArg some (decide_eq_true (Int.natCast_pos.mpr h))
theorem JW{s:St}{c:Nat}{l:List Atom}(h:(l.map λa=>(txt a).length+1).sum<big):E9 s (sV [c]) (cD l)=some (sV (eZ [c] (l.map txt)),s):=by refine(eB (f:=λss=>og (decide ((ss.map λx=>x.length+1).sum<big)) (some (V.str (eZ [c] ss),s))) (BW l)).trans (b7 (decide_eq_true ?_));rw[aay];exact h
abbrev tw(l:List Atom):Nat:=(l.map λa=>(txt a).length+1).sum
theorem BX(d:Nat)(σ:St)(l:List Atom)(h:tw l<big):af P (d+1) 56 [cD l] σ=some (sV (bj (l.map txt)),σ):=by
 cases l with
 |nil=>obtain h0:aS σ .gt (.int ((0:Nat):Int)) (.int 0)=some false:=rfl;exact run [.r,.r,.r] (by kernel_rfl)
 |cons a l=>obtain h2:cX (af P d) σ .join 0 (sV [124]) [cD (a::l)]=some (sV (bj ((a::l).map txt)),σ):=JW h;exact run [.r,.b (UI (s:=σ) (abO (l.map aV).length)),.r,.c h2,.r] (by kernel_rfl)
def uj:Atom->Bool
 | .n x=>x==aT ||x==aU
 |_=>true
theorem BY(d:Nat)(σ:St):∀a:Atom,il P (af P d) (cc 55 0) [some (cD l),some (aV a)] σ=some (uj a,σ)
 | .n x=>cP (f:=λx=>il P (af P d) (cc 55 0) [some (cD l),some (nV x)] σ) (g:=λx=>some (uj (.n x),σ)) (by kernel_rfl) x
 | .cond c a y n s=>by exact runC [.r,.r,.r] (by kernel_rfl)
theorem len_pos{s:St}(l:List V):aS s .gt (.int l.length) (.int 0)=some (!l.isEmpty):=by
 cases l with
 |nil=>rfl
 |cons a l=>exact UI (abO _)
theorem GW(d:Nat)(σ:St)(l:List Atom)(hl:l.length<big):af P (d+1) 55 [cD l] σ=some (.bool (l.any uj),σ):=by
 have h0:some (decide ((l.map aV).length<big))=some true:=congrArg some (decide_eq_true (by rw[aae];exact hl));obtain h1:cB (λr s=>bR P (af P d) (ce 55 0) r s) (λr s=>il P (af P d) (cc 55 0) r s) [some (cD l)] (l.map aV) σ=some ((l.filter uj).map aV,σ):=jv l (λa ab=>BY d σ a) (λa ab=>by kernel_rfl);obtain h2:aS σ .gt (.int ((l.filter uj).map aV).length) (.int 0)=some (l.any uj):=by
  rw[len_pos];congr 1;induction l with
  |nil=>rfl
  |cons a l ih=>
   simp only[abx,List.filter_cons];cases ha:uj a
   ·exact ih (adF hl) (congrArg some (decide_eq_true (by rw[aae];exact adF hl))) (jv l (λa ab=>BY d σ a) (λa ab=>by kernel_rfl))
   ·rfl
 exact run [.r,.b h0,.m h1,.r,.b h2,.r] (by kernel_rfl)
theorem vx(l:List Nm):(l.map Atom.n).any uj=isOpen l:=by rw[aaC];simp[isOpen,uj,abn,abd];exact⟨λi4=>ah i4 λx hx h=>h.elim (λe=> .inl (e▸hx)) λe=> .inr (e▸hx),λh=>h.elim (λm=>⟨_,m,.inl rfl⟩) λm=>⟨_,m,.inr rfl⟩⟩
theorem aJ{i:Nat}{b:En->St->Res}{v:V}{vs:List V}{r r':En}{s s':St}(h:b (r.set i (some v)) s=some (.next,r',s')):dk i b (v::vs) r s=dk i b vs r' s':=os_eq h
theorem eT{i:Nat}{b:En->St->Res}{v w:V}{vs:List V}{r r':En}{s s':St}(h:b (r.set i (some v)) s=some (.ret w,r',s')):dk i b (v::vs) r s=some (.ret w,r',s'):=os_eq h
theorem JX{s:St}(l:List V):aS s .eq (.int l.length) (.int 0)=some l.isEmpty:=by
 cases l with
 |nil=>rfl
 |cons a l=>exact congrArg some (decide_eq_false (λh=>nomatch h))
theorem gq{α:Type}{l:List α}(h:l.length<64):some (decide (l.length<big))=some true:=congrArg some (decide_eq_true (aaQ h (by decide)))
theorem DY:∀x:Nm,(rooms x).length<64:=by decide
noncomputable abbrev aR(l:List Nm):List Atom:=l.map Atom.n
theorem mN(l:List Nm):cD (aR l)=cF l:=by show V.bI _=_;rw[aay];rfl
theorem Mm(l:List Nm)(x:Nm):cA (aR l) (.n x)=l.contains x:=by rw[aaC,du];simp[aR]
theorem DZ(d:Nat)(σ:St)(held asked:List Nm)(x:Nm):∃s',Ext σ s'/\dS P (af P (d+2)) (lb 54 0) [some (cF held),some (cF asked),some (nV x),some (cF (asked.map bare))] σ=
  some (if(rooms x).any (asked.map bare).contains then .next else .ret (.bool false),[some (cF held),some (cF asked),some (nV x),some (cF (asked.map bare))],s'):=by
 refine cq _ (Ext.cw σ ((rooms x).map nV)) ?_;obtain h1:=BV d σ x;obtain hl:=gq (l:=(rooms x).map nV) (by rw[aae];exact DY x);obtain h2:cB (λr s=>bR P (af P (d+2)) (ce 54 1) r s) (λr s=>il P (af P (d+2)) (cc 54 1) r s) [some (cF held),some (cF asked),some (nV x),some (cF (asked.map bare))] ((rooms x).map nV) (cw σ ((rooms x).map nV))=some (((rooms x).filter (asked.map bare).contains).map nV,cw σ ((rooms x).map nV)):=
  jv (rooms x) (λa ab=>by
   obtain h3:aS (cw σ ((rooms x).map nV)) .isin (nV a) (cF (asked.map bare))=some ((asked.map bare).contains a):=by rw[<-Mm,<-mN];exact ui _ _ (.n a)
   revert h3;cases(asked.map bare).contains a
   ·intro h3;exact runC [.b h3] (by kernel_rfl)
   ·intro h3;exact runC [.b h3] (by kernel_rfl)) λa ab=>by kernel_rfl
 obtain h4:=JX (s:=cw σ ((rooms x).map nV)) (((rooms x).filter (asked.map bare).contains).map nV);obtain h5:(((rooms x).filter (asked.map bare).contains).map nV).isEmpty= !(rooms x).any (asked.map bare).contains:=by rw[aaC];simp
 rw[h5]at h4;revert h4;cases(rooms x).any (asked.map bare).contains
 ·intro h4;exact eR [.c h1,.r,.b hl,.m h2,.r,.b h4,.r] (by kernel_rfl)
 ·intro h4;exact eR [.c h1,.r,.b hl,.m h2,.r,.b h4] (by kernel_rfl)
theorem GX(d:Nat)(σ:St)(held asked:List Nm)(hl:asked.length<64):∃s',Ext σ s'/\af P (d+3) 54 [cF held,cF asked] σ=some (.bool (fits held asked),s'):=by
 obtain h1:cB (λr s=>bR P (af P (d+2)) (ce 54 0) r s) (λr s=>il P (af P (d+2)) (cc 54 0) r s) [some (cF held),some (cF asked),none,none] (asked.map nV) σ=some (asked.map λa=>nV (bare a),σ):=
  fG asked (λa ab=>by kernel_rfl) λa ab=>by exact bU [.c (xO (d+1) σ a)] (by kernel_rfl)
 obtain e1:(asked.map λa=>nV (bare a))=(asked.map bare).map nV:=by simp only[aay];rfl
 simp only[e1]at h1;obtain h0:=gq (l:=asked.map nV) (by rw[aae];exact hl);obtain lp:∀(l:List Nm) (y:Option V) (σ:St),∃s' r',Ext σ s'/\dk 2 (λr s=>dS P (af P (d+2)) (lb 54 0) r s) (l.map nV) [some (cF held),some (cF asked),y,some (cF (asked.map bare))] σ=some (if fits l asked then .next else .ret (.bool false),r',s'):=by
  intro l;induction l with
  |nil=>exactλy σ=>⟨σ,_,Ext.refl σ,rfl⟩
  |cons x l ih=>
   intro y σ;refine ah (DZ d σ held asked x) λs1 x1 h1=> ?_;revert h1;cases ha:(rooms x).any (asked.map bare).contains
   ·intro h1;have:fits (x::l) asked=false:=by unfold fits at*;simp only[abe,ha];rfl
    exact this.symm▸⟨s1,_,x1,eT h1⟩
   ·intro h1;refine eO (ih (some (nV x)) s1) λs2 r2 x2 h2=> ?_;refine⟨s2,r2,x1.trans x2,(aJ h1).trans (h2.trans ?_)⟩;obtain this:fits (x::l) asked=fits l asked:=by unfold fits at*;simp only[abe,ha];rfl
    rw[this]
 refine eO (lp held none σ) λs' r' x h2=> ?_;refine cq s' x ?_;revert h2;cases fits held asked
 ·intro h2;exact run [.r,.b h0,.m h1,.r,.l h2] (by kernel_rfl)
 ·intro h2;exact run [.r,.b h0,.m h1,.r,.l h2,.r] (by kernel_rfl)
def iz(x:Nm):Nm:=(rooms x).getLastD 0
def wA:Atom->List Nat
 | .n x=>iq (iz x)
 |a=>txt a
def b1(x:Nm):Bool:=iz x==16 ||iz x==17
def b2(x:Nm):Bool:=iz x !=x
theorem BZ:∀x:Nm,wide x=if b1 x &&b2 x then some (iz x)else none:=by decide
def twin(all:List Atom):Atom->Bool
 | .n x=>bare x !=x &&cA all (.n (bare x))
 |_=>false
def held(names:List Atom):Atom->Bool
 | .n x=>b1 x &&b2 x &&cA names (.n (iz x))
 |_=>false
section
variable (d:Nat)(s:St)(names all:List Atom)(lf:Nat)(x1 x3 x6 x7 x8:Option V)
theorem JY(a:Atom):bR P (af P (d+2)) (bo 53 2) [some (cD names),x1,some (aV a),x3,some (cD all),some (.loc lf),x6,x7,x8] s=some (.bool (twin all a),s):=by
 cases a with
 |cond c a y n s'=>exact bU [.r,.r] (by kernel_rfl)
 |n x=>
  obtain hi:bS s (nV x) (.int 0)=some (sV [(iq x).headD 0]):=cP (f:=λx=>bS s (nV x) (.int 0)) (g:=λx=>some (sV [(iq x).headD 0])) (by kernel_rfl) x;obtain hc:aS s .eq (sV [(iq x).headD 0]) (sV [126])=some (bare x !=x):=cP (f:=λx=>aS s .eq (sV [(iq x).headD 0]) (sV [126])) (g:=λx=>some (bare x !=x)) (by kernel_rfl) x;cases hb:bare x !=x
  ·simp only[hb]at hc;obtain e:twin all (.n x)=false:=by simp only[twin,hb];rfl
   rw[e];exact bU [.v hi,.b hc] (by kernel_rfl)
  ·simp only[hb]at hc;obtain e:twin all (.n x)=cA all (.n (bare x)):=by simp only[twin,hb];rfl
   obtain hs:pI s (nV x) (some 1) none false=some (nV (bare x)):=by obtain this:(if bare x !=x then pI s (nV x) (some 1) none false else none)=if bare x !=x then some (nV (bare x))else none:=cP (f:=λx=>if bare x !=x then pI s (nV x) (some 1) none false else none) (g:=λx=>if bare x !=x then some (nV (bare x))else none) (by kernel_rfl) x;rw[hb]at this;exact this
   rw[e];exact bU [.v hi,.b hc,.v hs,.b (ui s all (.n (bare x)))] (by kernel_rfl)
theorem JZ(a:Atom):bR P (af P (d+2)) (bo 53 3) [some (cD names),x1,some (aV a),x3,some (cD all),some (.loc lf),some (sV (wA a)),x7,x8] s=some (.bool (held names a),s):=by
 cases a with
 |cond c a y n s'=>exact bU [.r] (by kernel_rfl)
 |n x=>
  obtain h1:aS s .isin (nV (iz x)) (.tup [sV [115,116,114,105,110,103],sV [110,117,109,98,101,114]])=some (b1 x):=cP (f:=λx=>aS s .isin (nV (iz x)) (.tup [sV [115,116,114,105,110,103],sV [110,117,109,98,101,114]])) (g:=λx=>some (b1 x)) (by kernel_rfl) x;obtain h2:aS s .ne (nV (iz x)) (nV x)=some (b2 x):=cP (f:=λx=>aS s .ne (nV (iz x)) (nV x)) (g:=λx=>some (b2 x)) (by kernel_rfl) x;obtain e:held names (.n x)=(b1 x &&b2 x &&cA names (.n (iz x))):=rfl;rw[e];revert h1;cases b1 x
  ·intro h1;exact bU [.b h1] (by kernel_rfl)
  ·intro h1;revert h2;cases b2 x
   ·intro h2;exact bU [.b h1,.b h2] (by kernel_rfl)
   ·intro h2;exact bU [.b h1,.b h2,.b (ui s names (.n (iz x)))] (by kernel_rfl)
def o9(names all left:List Atom)(a:Atom):Bool:= !twin all a &&(!held names a && !cA left a)
theorem J0(left:List Atom)(a:Atom)(h:s.f lf= .lst (left.map aV)):bR P (af P (d+2)) (bo 53 4) [some (cD names),x1,some (aV a),x3,some (cD all),some (.loc lf),x6,some (.bool (twin all a)),some (.bool (held names a))] s=some (.bool (o9 names all left a),s):=by
 unfold o9;cases ht:twin all a
 ·cases hh:held names a
  ·show _=some (V.bool (!cA left a),s);exact bU [.b (DX h a)] (by kernel_rfl)
  ·show _=some (V.bool false,s);exact bU [] (by kernel_rfl)
 ·show _=some (V.bool false,s);exact bU [] (by kernel_rfl)
theorem iA{s:St}{k:Nat}{l:List V}(h:s.f k= .lst l)(hb:l.length+1<big)(v:V):pS s (.loc k) v=some (.none,s.set k (.lst (l++[v]))):=by show om (s.f k).eW _=_;exact h▸b7 (decide_eq_true hb)
theorem jY{s:St}{k:Nat}{l:List V}(h:s.f k= .lst l)(P:Prog):dA P s .append (.loc k)=some 0:=by show om (s.f k).eW _=_;rw[h];rfl
theorem D0{σ:St}(left:List Atom)(a:Atom)(x:Ext σ s)(hl:σ.n<=lf)(hk:lf<s.n)(h:s.f lf= .lst (left.map aV))(hb:left.length+1<big):∃s' YK YL YM,Ext σ s'/\lf<s'.n/\s'.f lf= .lst ((if o9 names all left a then left++[a]else left).map aV)/\dS P (af P (d+2)) (lb 53 1) [some (cD names),x1,some (aV a),x3,some (cD all),some (.loc lf),x6,x7,x8] s=some (.next,[some (cD names),x1,some (aV a),x3,some (cD all),some (.loc lf),YK,YL,YM],s'):=by
 obtain h1:=JU d s a;generalize hs:cw s ((oz a).map sV)=s1 at h1;obtain y:=hs▸Ext.cw s _;have h2:bS s1 (.bI ((oz a).map sV)) (.int (-1))=some (sV (wA a)):=by
  cases a with
  |cond=>rfl
  |n x=>exact cP (f:=λx=>bS s1 (.bI ((oz (.n x)).map sV)) (.int (-1))) (g:=λx=>some (sV (wA (.n x)))) (by kernel_rfl) x
 obtain h':=(y.f lf hk).trans h;obtain e1:=JY d s1 names all lf x1 x3 (some (sV (wA a))) x7 x8 a;obtain e2:=JZ d s1 names all lf x1 x3 (some (.bool (twin all a))) x8 a;obtain e3:=J0 d s1 names all lf x1 x3 (some (sV (wA a))) left a h';obtain IC:lf<s1.n:=aak hk y.n;cases hq:o9 names all left a
 ·simp only[hq]at e3;refine PN s1 (some (sV (wA a))) (some (.bool (twin all a))) (some (.bool (held names a))) (x.trans y) IC h' ?_;exact eR [.c h1,.v h2,.e e1,.e e2,.e e3] (by kernel_rfl)
 ·simp only[hq]at e3;obtain h4:cX (af P (d+2)) s1 .append 0 (.loc lf) [aV a]=some (.none,s1.set lf (.lst (left.map aV++[aV a]))):=iA h' (by rw[aae];exact hb) _;refine PN (s1.set lf (.lst (left.map aV++[aV a]))) (some (sV (wA a))) (some (.bool (twin all a))) (some (.bool (held names a))) ((x.trans y).set hl _) IC ((cz ..).trans (by rw[if_pos rfl,aaG];rfl)) ?_;exact eR [.c h1,.v h2,.e e1,.e e2,.e e3,.n (jY h' P),.c h4] (by kernel_rfl)
def aI(names all:List Atom):List Atom->List Atom->List Atom
 |left,[]=>left
 |left,a::r=>aI names all (if o9 names all left a then left++[a]else left) r
theorem D1{σ:St}:∀(l left:List Atom) (s:St) (x2 x6 x7 x8:Option V),Ext σ s->σ.n<=lf->lf<s.n->s.f lf= .lst (left.map aV)->left.length+l.length<big->∃s' y2 y6 y7 y8,Ext σ s'/\s'.f lf= .lst ((aI names all left l).map aV)/\dk 2 (λr s=>dS P (af P (d+2)) (lb 53 1) r s) (l.map aV) [some (cD names),x1,x2,x3,some (cD all),some (.loc lf),x6,x7,x8] s=some (.next,[some (cD names),x1,y2,x3,some (cD all),some (.loc lf),y6,y7,y8],s'):=by
 intro v_;induction v_ with
 |nil=>intro left s x2 x6 x7 x8 x dJ dJ h dJ;exact MK s _ _ _ _ x h rfl
 |cons a l ih=>
  intro left s x2 x6 x7 x8 x hl hk h hb;obtain hc:left.length+1+l.length<big:=by rw[aeF];exact hb
  refine IU (D0 d s names all lf x1 x3 x6 x7 x8 left a x hl hk h (aai (aao _ _) hc)) λs1 y6 y7 y8 x' IC h' e=> ?_;refine ML (ih _ s1 (some (aV a)) y6 y7 y8 x' hl IC h' (by split;rw[aah];exact hc;exact aai (aat (aaK _) _) hc)) λs2 z2 z6 z7 z8 YN Qo e'=> ?_;exact MK s2 z2 z6 z7 z8 YN Qo ((aJ e).trans e')
end
def rI(a:Atom):List Atom->List Atom
 |[]=>[a]
 |b::r=>if jD (txt b) (txt a)then b::rI a r else a::b::r
def gN:List Atom->List Atom
 |[]=>[]
 |a::r=>rI a (gN r)
theorem GY(a:Atom):∀l:List Atom,(rI a l).map txt=sW (txt a) (l.map txt):=by
 intro v_;induction v_ with
 |nil=>exact rfl
 |cons b r ih=>
  simp only[rI];show _=if jD (txt b) (txt a)then _ else _;split
  ·simp only[aaH,ih]
  ·rfl
theorem oA:∀l:List Atom,(gN l).map txt=kY (l.map txt):=by
 intro v_;induction v_ with
 |nil=>exact rfl
 |cons a r ih=>simp only[gN,GY,ih];rfl
theorem rJ{a b:Atom}:∀{l:List Atom},b∈rI a l↔b=a\/b∈l:=by
 intro v_;induction v_ with
 |nil=>simp[rI]
 |cons c r ih=>
  simp only[rI];split
  ·simp only[aam,ih];constructor
   ·rintro (h |h |h)<;>simp[h]
   ·rintro (h |h |h)<;>simp[h]
  ·simp
theorem oB{b:Atom}:∀{l:List Atom},b∈gN l↔b∈l:=by
 intro v_;induction v_ with
 |nil=>exact aeo
 |cons a r ih=>simp only[gN,rJ,ih,aam]
abbrev Wk(l:List Atom):Prop:=l.Pairwise λb c=>jD (txt c) (txt b)=false
theorem J5{a b:List Nat}(h:jD a b=true):jD b a=false:=by
 cases k:jD b a
 ·rfl
 ·have:=lt_trans h k;rw[rB]at this;cases this
theorem J6{a:Atom}:∀{l:List Atom},Wk l->Wk (rI a l):=by
 intro v_;induction v_ with
 |nil=>intro _;exact aaB _ _
 |cons b r ih=>
  intro h;refine A2 (aaD.mp h) λh1 h2=> ?_;simp only[rI];split
  ·rename_i k;refine aaD.mpr ⟨λc hc=> ?_,ih h2⟩;rcases rJ.mp hc with e |m
   ·subst e;exact J5 k
   ·exact h1 c m
  ·rename_i k;have k:jD (txt b) (txt a)=false:=by cases q:jD (txt b) (txt a);rfl;exact(k q).elim
   refine aaD.mpr ⟨λc hc=> ?_,h⟩;rcases aam.mp hc with e |m
   ·subst e;exact k
   ·cases q:jD (txt c) (txt a)
    ·rfl
    ·cases q2:jD (txt a) (txt b)
     ·have:=rC q2 k;rw[this]at q;rw[h1 c m]at q;cases q
     ·have:=lt_trans q q2;rw[h1 c m]at this;cases this
theorem xP:∀l:List Atom,Wk (gN l):=by
 intro v_;induction v_ with
 |nil=>exact aci
 |cons ab r ih=>exact J6 (ih)
theorem GZ{names all:List Atom}:∀{l left:List Atom},oh txt left->Wk l->(∀b∈left,∀c∈l,b=c\/jD (txt b) (txt c)=true)->oh txt (aI names all left l)/\∀b,b∈aI names all left l↔b∈left\/(b∈l/\twin all b=false/\held names b=false):=by
 intro v_;induction v_ with
 |nil=>intro left h dJ dJ;exact⟨h,λb=>by simp only[aI];simp⟩
 |cons a l ih=>
  intro left h w x;obtain⟨w1,w2⟩:=aaD.mp w;simp only[aI];obtain xl:∀b∈left,∀c∈l,b=c\/jD (txt b) (txt c)=true:=λb hb c hc=>x b hb c (aaf _ hc);cases hk:o9 names all left a
  ·rw[if_neg (by decide)];refine A2 (ih h w2 xl) λs1 s2=> ?_;refine⟨s1,λb=> ?_⟩;simp only[s2,aam];constructor
   ·rintro (m |⟨m,k⟩)
    ·exact .inl m
    ·exact .inr ⟨.inr m,k⟩
   ·rintro (m |⟨e |m,k⟩)
    ·exact .inl m
    ·subst e;simp only[o9,k.1,k.2]at hk;have:cA left b=true:=by simpa using hk
     exact .inl (du.mp this)
    ·exact .inr ⟨m,k⟩
  ·rw[if_pos rfl];obtain k:twin all a=false/\held names a=false/\cA left a=false:=by
    simp only[o9]at hk;simpa [aaY]using hk
   obtain na:a∉left:=λm=>by rw[du.mpr m]at k;exact absurd k.2.2 (by decide)
   obtain ha:oh txt (left++[a]):=List.pairwise_append.mpr ⟨h,aaB _ _,λb hb c hc=>by rw[aag.mp hc];exact(x b hb a aac).resolve_left λe=>na (e▸hb)⟩
   obtain⟨s1,s2⟩:=ih ha w2 λb hb c hc=>by
    rcases aaz.mp hb with m |m
    ·exact xl b m c hc
    ·rw[aag.mp m];cases q:jD (txt a) (txt c)
     ·exact .inl (vg (rC q (w1 c hc)))
     ·exact .inr rfl
   refine⟨s1,λb=> ?_⟩;rw[s2,aaz,aag,aam];constructor
   ·rintro ((m |e) |⟨m,k'⟩)
    ·exact .inl m
    ·exact .inr ⟨.inl e,e▸⟨k.1,k.2.1⟩⟩
    ·exact .inr ⟨.inr m,k'⟩
   ·rintro (m |⟨e |m,k'⟩)
    ·exact .inl (.inl m)
    ·exact .inl (.inr e)
    ·exact .inr ⟨m,k'⟩
theorem uk:∀x w:Nm,wide x=some w->w≠9/\w≠10:=by decide
theorem D2{xs:List Atom}{b:Atom}:keep (bools xs) b=true↔twin (bools xs) b=false/\held xs b=false:=by
 rw[dq];cases b with
 |cond=>exact⟨λ_=>⟨rfl,rfl⟩,λ_ x e=>nomatch e⟩
 |n x=>
  have t:twin (bools xs) (.n x)=true↔bare x≠x/\.n (bare x)∈bools xs:=by simp only[twin,aaY,du];simp
  have g:held xs (.n x)=true↔∃w,wide x=some w/\.n w∈bools xs:=by
   rw[held,aaY,du,BZ];constructor
   ·rintro ⟨h1,h2⟩
    exact⟨iz x,by rw[if_pos h1],aH.mpr (.inl h2)⟩
   ·rintro ⟨w,h1,h2⟩
    split at h1
    ·rename_i h3;obtain e:=aad h1;subst e;refine⟨h3,(aH.mp h2).resolve_right λk=> ?_⟩;have:=uk x (iz x) (by rw[BZ,if_pos h3]);rcases k.2 with k |k
     ·exact this.1 (Atom.n.inj k)
     ·exact this.2 (Atom.n.inj k)
    ·cases h1
  constructor
  ·intro h;constructor
   ·cases q:twin (bools xs) (.n x)
    ·rfl
    ·exact(h x rfl (.inl (t.mp q))).elim
   ·cases q:held xs (.n x)
    ·rfl
    ·exact(h x rfl (.inr (g.mp q))).elim
  ·rintro ⟨h1,h2⟩ y e d
   cases e;rcases d with d |d
   ·rw[t.mpr d]at h1;cases h1
   ·rw[g.mpr d]at h2;cases h2
theorem D3{xs:List Atom}(h:top xs=none):aI xs (bools xs) [] (gN (bools xs))=less xs:=by refine A2 (GZ (names:=xs) (all:=bools xs) (l:=gN (bools xs)) (left:=[]) aci (xP _) (λb hb=>nomatch hb)) λs1 s2=> ?_;refine kA s1 (eH xs) λb=> ?_;rw[s2,aN h,kept,aaN,oB,D2];simp
theorem um{s:St}{l:List Atom}(h:l.length<64):iu s (cD l)=some ((gN l).map aV):=by
 show og (decide ((l.map aV).length<64)) (match intsOf (l.map aV)with |some ns=>some ((Mp.sortI ns).map V.int) |none=>om (strsOf (l.map aV)) λss=>some ((kY ss).map V.str))=_;rw[aae,decide_eq_true h];cases l with
 |nil=>rfl
 |cons a l=>rw[BW];show some ((kY ((a::l).map txt)).map V.str)=_;rw[<-oA,aay];rfl
theorem fT(l:List Atom)(x:Nm):has gA l x=cA l (.n x):=by rw[aaC,cG,du]
theorem rK(d:Nat)(s:St)(l:List Atom)(t:Nm):dS P (af P d) (lb 53 0) [some (cD l),some (nV t),none,none,none,none,none,none,none] s=
  if cA l (.n t)then some (.ret (.bI [nV t]),[some (cD l),some (nV t),none,none,none,none,none,none,none],cw s [nV t])else some (.next,[some (cD l),some (nV t),none,none,none,none,none,none,none],s):=by
 obtain h:=ui s l (.n t);revert h;cases cA l (.n t)
 ·intro h;exact eR [.b h] (by kernel_rfl)
 ·intro h;exact eR [.b h,.f (aP s [nV t]),.r] (by kernel_rfl)
theorem G0(d:Nat)(s:St)(l:List Atom)(x:Option V):dk 1 (λr s=>dS P (af P d) (lb 53 0) r s) [nV 20,nV 22,nV 21] [some (cD l),x,none,none,none,none,none,none,none] s=
  match top l with
  |some t=>some (.ret (cD [.n t]),[some (cD l),some (nV t),none,none,none,none,none,none,none],cw s [nV t])
  |none=>some (.next,[some (cD l),some (nV 21),none,none,none,none,none,none,none],s):=by
 obtain Oo:=rK d s l 20;obtain Pt:=rK d s l 22;obtain Rj:=rK d s l 21;unfold top mD;rw[fT,fT,fT];revert Oo;cases cA l (.n 20)
 ·intro Oo;revert Pt;cases cA l (.n 22)
  ·intro Pt;revert Rj;cases cA l (.n 21)
   ·intro Rj;exact(aJ (r:=[some (cD l),x,none,none,none,none,none,none,none]) Oo).trans ((aJ (r:=[some (cD l),some (nV 20),none,none,none,none,none,none,none]) Pt).trans (aJ (r:=[some (cD l),some (nV 22),none,none,none,none,none,none,none]) Rj))
   ·intro Rj;exact(aJ (r:=[some (cD l),x,none,none,none,none,none,none,none]) Oo).trans ((aJ (r:=[some (cD l),some (nV 20),none,none,none,none,none,none,none]) Pt).trans (eT (r:=[some (cD l),some (nV 22),none,none,none,none,none,none,none]) Rj))
  ·intro Pt;exact(aJ (r:=[some (cD l),x,none,none,none,none,none,none,none]) Oo).trans (eT (r:=[some (cD l),some (nV 20),none,none,none,none,none,none,none]) Pt)
 ·intro Oo;exact eT (r:=[some (cD l),x,none,none,none,none,none,none,none]) Oo
theorem D4(l:List Atom):(cA (l.map ij) (.n 9) &&cA (l.map ij) (.n 10))=((has gA l 9 ||has gA l 11) &&(has gA l 10 ||has gA l 12)):=by
 obtain k:∀x y:Nm,(∀z:Nm,bare z=x↔z=x\/z=y)->cA (l.map ij) (.n x)=(has gA l x ||has gA l y):=λx y h=>by
  rw[aaC,du,abd,cG,cG,aal];constructor
  ·rintro ⟨a,ha,e⟩
   cases a with
   |cond=>cases e
   |n z=>exact((h z).mp (Atom.n.inj e)).elim (λq=> .inl (q▸ha)) λq=> .inr (q▸ha)
  ·rintro (m |m)
   ·exact⟨_,m,congrArg Atom.n ((h x).mpr (.inl rfl))⟩
   ·exact⟨_,m,congrArg Atom.n ((h y).mpr (.inr rfl))⟩
 simp only[k 9 11 (by decide),k 10 12 (by decide)]
theorem uq(l:List Atom):(bools l).length<=l.length+2:=by
 unfold bools ib;split
 ·simp only[aah];exact aab _
 ·exact aao _ _
theorem Oq(d:Nat)(s:St)(l:List Atom)(x:Option V)(hl:l.length<=61):∃s',Ext s s'/\∃w,bR P (af P d) (bo 53 0) [some (cD l),some (nV 21),x,some (cD (l.map ij)),none,none,none,none,none] s=some (cD w,s')/\bools l=l++w:=by
 obtain h1:=ui s (l.map ij) (.n 9);obtain h2:=ui s (l.map ij) (.n 10);obtain e0:bools l=if cA (l.map ij) (.n 9) &&cA (l.map ij) (.n 10)then l++[.n 9,.n 10]else l:=by rw[(D4 l)];rfl
 obtain f0:=aP s [];revert h1 e0;cases cA (l.map ij) (.n 9)
 ·intro h1 e0;refine cq _ (Ext.cw s []) ⟨[],?_,by rw[e0];simp⟩;exact bU [.b h1,.f f0] (by kernel_rfl)
 ·intro h1 e0;revert h2 e0;cases cA (l.map ij) (.n 10)
  ·intro h2 e0;refine cq _ (Ext.cw s []) ⟨[],?_,by rw[e0];simp⟩;exact bU [.b h1,.b h2,.f f0] (by kernel_rfl)
  ·intro h2 e0;refine cq _ (Ext.cw s [nV 9,nV 10]) ⟨[.n 9,.n 10],?_,e0.trans rfl⟩;exact bU [.b h1,.b h2,.f (aP s [nV 9,nV 10])] (by kernel_rfl)
theorem mO(d:Nat)(σ:St)(l:List Atom)(hl:l.length<=61):∃s',Ext σ s'/\af P (d+3) 53 [cD l] σ=some (cD (less l),s'):=by
 obtain tl:=G0 (d+2) σ l none;cases ht:top l with
 |some t=>simp only[ht]at tl;refine cq _ (Ext.cw σ [nV t]) ?_;rw[bW ht];exact run [.r,.l tl] (by kernel_rfl)
 |none=>
  simp only[ht]at tl;obtain tH:l.length<64:=aai hl (by decide);obtain h1:cB (λr s=>bR P (af P (d+2)) (ce 53 0) r s) (λr s=>il P (af P (d+2)) (cc 53 0) r s) [some (cD l),some (nV 21),none,none,none,none,none,none,none] (l.map aV) σ=some (l.map λa=>aV (ij a),σ):=
   fG l (λa ab=>by kernel_rfl) λa ab=>by exact bU [.c (Om (d+1) σ a)] (by kernel_rfl)
  obtain e1:(l.map λa=>aV (ij a))=(l.map ij).map aV:=by simp only[aay];rfl
  simp only[e1]at h1;refine ah (Oq (d+2) σ l none hl) λs1 x1 YO=> ?_;refine ah YO λw h2 hw=> ?_;have hb:(bools l).length<64:=aai (uq l) (aai (aat hl 2) (by decide));obtain h3:eP s1 .add (cD l) (cD w)=some (cD (bools l)):=by
   obtain e:cD (bools l)= .bI (l.map aV++w.map aV):=by rw[hw];show V.bI _=_;rw[aaG]
   simp only[e];exact b7 (decide_eq_true (by rw[aae,aae,<-aah,<-hw];exact aaQ hb (by decide)))
  obtain h4:iu (s1.new (.lst [])) (cD (bools l))=some ((gN (bools l)).map aV):=um hb;obtain YP:sX (s1.new (.lst [])) .sorted (cD (bools l))=some (.bI ((gN (bools l)).map aV),s1.new (.lst [])):=eB h4;obtain sl:(gN (bools l)).length<64:=by
   obtain this:=congrArg abw (oA (bools l));obtain k:∀m:List (List Nat),(kY m).length=m.length:=by
    obtain k':∀(a:List Nat) (m:List (List Nat)),(sW a m).length=m.length+1:=λa m=>by
     induction m with
     |nil=>rfl
     |cons b m ih=>simp only[sW];split;rw[aax,ih];rfl;rfl
    intro m;induction m with
    |nil=>rfl
    |cons a m ih=>simp only[kY,k',ih];rfl
   simp only[aae,k,aae]at this;rw[this];exact hb
  refine ML (D1 (d:=d) (names:=l) (all:=bools l) (lf:=s1.n) (x1:=some (nV 21)) (x3:=some (cD (l.map ij))) (σ:=s1) (gN (bools l)) [] (s1.new (.lst [])) none none none none (Ext.new s1 _) (aab _) (aap _) (bY ..) (aaQ (by simpa using sl) (by decide))) λs2 y2 y6 y7 y8 x2 h5 h6=> ?_;rw[D3 ht]at h5;refine cq (s2.set s1.n .dead) (x1.trans (x2.set (aab _) _)) ?_;exact run [.r,.l tl,.r,.b (gq (l:=l.map aV) (by rw[aae];exact tH)),.m h1,.e h2,.v h3,.c YP,.r,.l h6,.f (qg h5)] (by kernel_rfl)
end Own.Internal.Wk
end
section
namespace Own.Internal.Wk
open Mp Ab
inductive Sd where
 |k(l:List Nm)
 |p(l:List Nm)
 |v(t:Bool)
inductive Br where
 |sd(x:Sd)
 |q(c a:Sd)(y n:Br)(s:Bool)
noncomputable abbrev tu(t:Bool):Nm:=if t then 23 else 24
def nk:Sd->V
 | .k l=> .tup [sV [107],cF l]
 | .p l=> .tup [sV [43],cF l]
 | .v t=> .tup [nV (tu t),.bI []]
def xQ:List V:=[sV [99,104,101,99,107],sV [97,115,107,101,100],sV [121,101,115],sV [110,111],sV [115,112,114,101,97,100]]
noncomputable def IH(s:Bool):V:= .int (if s then 1 else 0)
def oC:Br->V
 | .sd x=>nk x
 | .q c a y n s=> .tup [sV [113],.pG xQ [nk c,nk a,oC y,oC n,IH s]]
abbrev qV(c a:Sd)(y n:Br)(s:Bool):V:= .pG xQ [nk c,nk a,oC y,oC n,IH s]
def c9(m:Env):Sd->List Nm
 | .k l=>l
 | .p l=>aC (m.T++l)
 | .v t=>if t then m.T else m.U
noncomputable def Rk(c:Sd)(m:Env)(one:Nm):Env:=match c with
 | .v t=>if t then{m with T:=[one]}else{m with U:=[one]}
 |_=>m
noncomputable def nearF(free:Bool)(c:Sd)(m:Env)(one:Nm):Env:=if free then Rk c m one else m
def iN(free:Bool):Br->Env->List Atom
 | .sd x,m=>aR (c9 m x)
 | .q c a y n s,m=>
  if c9 m c=[aL]then[.n aL]
  else if s &&(c9 m c).length !=1 then less ((c9 m c).flatMap λone=>if one=aL then[.n aL]else pick [one] (c9 (nearF free c m one) a) (iN free y (nearF free c m one)) (iN free n (nearF free c m one)) s)
  else pick (c9 m c) (c9 m a) (iN free y m) (iN free n m) s
def bZ(m:Env):O:= .bV [nV 23,nV 24] [cF m.T,cF m.U]
theorem Mn(l:List Nm):(l.map nV).all V.isStr=true:=by rw[abN];exact aas.mpr λab ai=>rfl
theorem G5:∀l l':List Nm,V.iS (l.map nV) (l'.map nV)=decide (l=l')
 |[],[]=>rfl
 |[],ab::ai=>rfl
 |ab::ai,[]=>rfl
 |x::l,y::l'=>by show(decide (iq x=iq y) &&V.iS (l.map nV) (l'.map nV))=_;rw[G5 l l',aaC];simp only[aaY,decide_eq_true_eq,acw];exact⟨λh=>⟨zN _ _ h.1,h.2⟩,λh=>⟨h.1▸rfl,h.2⟩⟩
theorem rL(s:St)(l l':List Nm):aS s .eq (cF l) (cF l')=some (decide (l=l')):=by show og ((l.map nV).all V.isStr &&(l'.map nV).all V.isStr) (some (V.iS (l.map nV) (l'.map nV)))=_;simp only[Mn,Mn,G5];rfl
theorem vy(d:Nat)(σ:St)(l:List Nm)(hl:l.length<big):af P (d+1) 55 [cF l] σ=some (.bool (isOpen l),σ):=by rw[<-mN,GW d σ (aR l) (by rw[aae];exact hl),vx]
section
variable (k:Nat)(free:Bool)(c a:Sd)(y n:Br)(sp:Bool)(e:Nat)(held ask:List Nm)(x4 x5 x6 x8:Option V)(s:St)
abbrev Ot:En:=[some (qV c a y n sp),some (.loc e),some (.bool free),some (cF held),x4,x5,x6,some (cF ask),x8]
theorem Ou(hl:held.length<big):∃s',Ext s s'/\bR P (af P (k+1)) (bo 59 2) (Ot free c a y n sp e held ask x4 x5 x6 x8) s=some (.bool (decide (ask=[aL]) && !isOpen held),s'):=by
 obtain h1:=rL (cw s [nV 22]) ask [22];obtain f1:=aP s [nV 22];refine cq _ (Ext.cw s [nV 22]) ?_;revert h1;cases decide (ask=[aL])
 ·intro h1;exact bU [.f f1,.b h1] (by kernel_rfl)
 ·intro h1;exact bU [.f f1,.b h1,.c (vy k (cw s [nV 22]) held hl)] (by kernel_rfl)
theorem Ov(hl:held.length<big)(ha:ask.length<big):bR P (af P (k+1)) (bo 59 3) (Ot free c a y n sp e held ask x4 x5 x6 x8) s=some (.bool (isOpen held ||isOpen ask),s):=by
 obtain h1:=vy k s held hl;revert h1;cases isOpen held
 ·intro h1;exact bU [.c h1,.c (vy k s ask ha)] (by kernel_rfl)
 ·intro h1;exact bU [.c h1] (by kernel_rfl)
theorem Ow:∃s',Ext s s'/\bR P (af P (k+1)) (bo 59 4) (Ot free c a y n sp e held ask x4 x5 x6 x8) s=some (.bool (decide (ask=[gI]) ||decide (ask=[tj])),s'):=by
 obtain f1:=aP s [nV 20];obtain h1:=rL (cw s [nV 20]) ask [20];revert h1;cases decide (ask=[gI])
 ·intro h1;refine cq _ ((Ext.cw s [nV 20]).trans (Ext.cw _ [nV 21])) ?_;exact bU [.f f1,.b h1,.f (aP (cw s [nV 20]) [nV 21]),.b (rL (cw (cw s [nV 20]) [nV 21]) ask [21])] (by kernel_rfl)
 ·intro h1;refine cq _ (Ext.cw s [nV 20]) ?_;exact bU [.f f1,.b h1] (by kernel_rfl)
end
theorem G6:∀x:Nm,(iq x).length<=9:=by decide
theorem xR:∀l:List Nm,tw (aR l)<=10*l.length:=by
 intro v_;induction v_ with
 |nil=>exact aab _
 |cons x l ih=>obtain h:=G6 x;obtain ih:=ih;show(iq x).length+1+tw (aR l)<=10*(l.length+1);lia
theorem ur(c:Nat):∀l:List Atom,(eZ [c] (l.map txt)).length<=tw l
 |[]=>aab _
 |[a]=>aaK _
 |a::b::l=>by show(txt a++[c]++eZ [c] ((b::l).map txt)).length<=(txt a).length+1+tw (b::l);simp only[aah,aah];exact aav (ur c (b::l)) _
theorem fH:∀l:List Atom,(bj (l.map txt)).length<=tw l+5
 |[]=>aab _
 |a::l=>aaa (ur 124 (a::l)) (aao _ _)
theorem add_str{s:St}{x y:List Nat}(h:x.length+y.length<big):eP s .add (sV x) (sV y)=some (sV (x++y)):=b7 (decide_eq_true h)
def jn(held ask:List Nm)(Y N:List Atom):List Nat:=eZ [59] [bj ((aR held).map txt),bj ((aR ask).map txt),bj (Y.map txt),bj (N.map txt)]
theorem rM(held ask:List Nm)(Y N:List Atom)(sp:Bool):((([91]++jn held ask Y N)++[59])++[if sp then 49 else 48])++[93]=txt (.cond held ask Y N sp):=by simp only[txt,mE,mE];obtain e:∀l:List Nm,(aR l).map txt=l.map iq:=λl=>aay.trans rfl;show((([91]++(bj ((aR held).map txt)++[59]++(bj ((aR ask).map txt)++[59]++(bj (Y.map txt)++[59]++bj (N.map txt)))))++[59])++_)++_=_;simp only[e,e];simp only[aaJ]
theorem xS{d:Nat}{s:St}{c a:List Nm}{Y N:List Atom}(sp:Bool)(lj:(jn c a Y N).length<=300000){G:Prop}
  (k:cX (af P d) s .join 0 (sV [59]) [.bI [sV (bj ((aR c).map txt)),sV (bj ((aR a).map txt)),sV (bj (Y.map txt)),sV (bj (N.map txt))]]=some (sV (jn c a Y N),s)->eP s .add (sV [91]) (sV (jn c a Y N))=some (sV ([91]++jn c a Y N))->eP s .add (sV ([91]++jn c a Y N)) (sV [59])=some (sV (([91]++jn c a Y N)++[59]))->bS s (.tup [sV [48],sV [49]]) (IH sp)=some (sV [if sp then 49 else 48])->
   eP s .add (sV (([91]++jn c a Y N)++[59])) (sV [if sp then 49 else 48])=some (sV ((([91]++jn c a Y N)++[59])++[if sp then 49 else 48]))->eP s .add (sV ((([91]++jn c a Y N)++[59])++[if sp then 49 else 48])) (sV [93])=some (sV (txt (.cond c a Y N sp)))->G):G:=by
 obtain bb:(1000000:Nat)=big:=rfl;obtain h:(jn c a Y N).length=(bj ((aR c).map txt)++[59]++(bj ((aR a).map txt)++[59]++(bj (Y.map txt)++[59]++bj (N.map txt)))).length:=rfl;simp only[aah,abv]at h;obtain g:∀{x y:List Nat} {n:Nat},x.length<=n->y.length<=300001->n<=300003->eP s .add (sV x) (sV y)=some (sV (x++y)):=λh1 h2 h3=>add_str (by lia);obtain l:∀{x:List Nat} {b n:Nat},x.length<=n->(x++[b]).length<=n+1:=λh=>aah.symm▸aat h 1;obtain l1:([91]++jn c a Y N).length<=300001:=by rw[aah,abf];exact abm lj
 refine k (b7 (x:=some (sV (jn c a Y N),_)) (decide_eq_true ?_)) (g (n:=1) (by decide) (acu lj) (by decide)) (g l1 (by show 1<=300001;decide) (by decide)) (by cases sp<;>rfl) (g (l l1) (by show 1<=300001;decide) (by decide)) ((g (l (l l1)) (by show 1<=300001;decide) (by decide)).trans (by rw[rM]));show _+(_+(_+(_+0)))<1000000;simp only[abv];lia
structure Fits(held ask:List Nm)(Y N:List Atom):Prop where
 h:held.length<64
 a:ask.length<64
 yn:Y.length+N.length<=61
 y:tw Y<=100000
 n:tw N<=100000
section
variable {k:Nat}{free:Bool}{c a:Sd}{y n:Br}{sp:Bool}{e:Nat}{held ask:List Nm}{Y N:List Atom}
theorem Ox(F:Fits held ask Y N):(jn held ask Y N).length<=300000:=by obtain h1:=fH (aR held);have h2:=fH (aR ask);have h3:=fH Y;obtain h4:=fH N;have k1:=xR held;have k2:=xR ask;obtain⟨f1,f2,_,f4,f5⟩:=F;show(bj ((aR held).map txt)++[59]++(bj ((aR ask).map txt)++[59]++(bj (Y.map txt)++[59]++bj (N.map txt)))).length<=_;simp only[aah,abv];lia
theorem G7(F:Fits held ask Y N)(x4 x5 x6:Option V)(s:St):cB (λr s=>bR P (af P (k+1)) (ce 59 0) r s) (λr s=>il P (af P (k+1)) (cc 59 0) r s) [some (qV c a y n sp),some (.loc e),some (.bool free),some (cF held),x4,x5,x6,some (cF ask),some (.bI [cF held,cF ask,cD Y,cD N])] [cF held,cF ask,cD Y,cD N] s=
  some ([sV (bj ((aR held).map txt)),sV (bj ((aR ask).map txt)),sV (bj (Y.map txt)),sV (bj (N.map txt))],s):=by
 obtain b:∀l∈[aR held,aR ask,Y,N],tw l<big:=by intro l hl;have k1:=xR held;have k2:=xR ask;obtain⟨f1,f2,_,f4,f5⟩:=F;show tw l<1000000;simp only[aam,adG,or_false]at hl;rcases hl with h |h |h |h<;>subst h<;>lia
 rw[<-mN held,<-mN ask];exact fG (f:=λl=>cD l) (g:=λl=>sV (bj (l.map txt))) [aR held,aR ask,Y,N] (λl ab=>by kernel_rfl) λl hl=>by exact bU [.c (BX k s l (b l hl))] (by kernel_rfl)
theorem p0(held ask:List Nm)(Y N:List Atom)(s:Bool):pick held ask Y N s=if(decide (ask=[aL]) && !isOpen held)=true then[.n aL]else if(isOpen held ||isOpen ask)=true then[.cond held ask Y N s]else if(decide (ask=[gI]) ||decide (ask=[tj]))=true then Y else if decide (held=[20])=true then less (Y++N)else if fits held ask then Y else N:=by unfold pick;simp only[decide_eq_true_eq]
set_option maxHeartbeats 2000000 in
theorem J7{s:St}(F:Fits held ask Y N)(hs:(sp &&held.length !=1)=false)(he:held≠[aL])(J:St->Prop)
  (Jx:∀{s s'},Ext s s'->J s->J s') (h0:J s)
  (Ha:∀s,J s->∃s',Ext s s'/\af P (k+3) 57 [nk a,.loc e,.bool free] s=some (cF ask,s'))
  (Hy:∀s,J s->∃s',Ext s s'/\af P (k+3) 57 [oC y,.loc e,.bool free] s=some (cD Y,s'))
  (Hn:∀s,J s->∃s',Ext s s'/\af P (k+3) 57 [oC n,.loc e,.bool free] s=some (cD N,s')):
  ∃s',Ext s s'/\af P (k+4) 59 [qV c a y n sp,.loc e,.bool free,cF held] s=some (cD (pick held ask Y N sp),s'):=by
 refine cps λab kk=> ?_;obtain pe:=p0 held ask Y N sp;have fin:∀{L:List Atom} {s':St},Ext s s'->pick held ask Y N sp=L->af P (k+4) 59 [qV c a y n sp,.loc e,.bool free,cF held] s=some (cD L,s')->_:=λ{L s'} x e r=>kk (cq s' x (e▸r));have bh:held.length<big:=aaQ F.h (by decide);have ba:ask.length<big:=aaQ F.a (by decide);obtain fe:=aP s [nV 22];obtain ce:=rL (cw s [nV 22]) held [22];rw[show decide (held=[22])=false from decide_eq_false he]at ce;obtain xe:Ext s (cw s [nV 22]):=Ext.cw s _;have c0:bR P (af P (k+3)) (bo 59 0) [some (qV c a y n sp),some (.loc e),some (.bool free),some (cF held),none,none,none,none,none] (cw s [nV 22])=some (.bool false,cw s [nV 22]):=by
  cases sp with
  |false=>exact bU [.r,.r] (by kernel_rfl)
  |true=>
   obtain h1:held.length=1:=by simpa using hs
   exact bU [.r,.r,.r,.b (by rw[aae,h1];rfl:aS (cw s [nV 22]) .ne (.int (held.map nV).length) (.int 1)=some false)] (by kernel_rfl)
 refine ah (Ha _ (Jx xe h0)) λs1 x1 ha=> ?_;refine ah (Ou (k+2) free c a y n sp e held ask none none none none s1 bh) λs2 x2 c1=> ?_;have j2:=Jx x2 (Jx x1 (Jx xe h0));have UJ:=xe.trans (x1.trans x2);revert c1 pe;cases QQ:(decide (ask=[aL]) && !isOpen held)
 ·intro pe c1;have c2:=Ov (k+2) free c a y n sp e held ask none none none none s2 bh ba;revert c2 pe;cases isOpen held ||isOpen ask
  ·intro pe c2;refine ah (Ow (k+2) free c a y n sp e held ask none none none none s2) λs3 x3 c3=> ?_;obtain j3:=Jx x3 j2;obtain WD:=UJ.trans x3;revert c3 pe;cases decide (ask=[gI]) ||decide (ask=[tj])
   ·intro pe c3;obtain f4:=aP s3 [nV 20];obtain c4:=rL (cw s3 [nV 20]) held [20];obtain x4:Ext s3 (cw s3 [nV 20]):=Ext.cw _ _;obtain j4:=Jx x4 j3;obtain UK:=WD.trans x4;revert c4 pe;cases decide (held=[20])
    ·intro pe c4;refine ah (GX k (cw s3 [nV 20]) held ask F.a) λs5 x5 c5=> ?_;have j5:=Jx x5 j4;revert c5 pe;cases fits held ask
     ·intro pe c5;refine ah (Hn s5 j5) λs6 x6 h6=> ?_;exact fin (L:=N) (UK.trans (x5.trans x6)) pe (run [.f fe,.b ce,.e c0,.r,.c ha,.e c1,.e c2,.e c3,.f f4,.b c4,.e (bU [.c c5,.r] (by kernel_rfl):bR P (af P (k+3)) (bo 59 5) [some (qV c a y n sp),some (.loc e),some (.bool free),some (cF held),none,none,none,some (cF ask),none] (cw s3 [nV 20])=some (oC n,s5)),.c h6,.r] (by kernel_rfl))
     ·intro pe c5;refine ah (Hy s5 j5) λs6 x6 h6=> ?_;exact fin (L:=Y) (UK.trans (x5.trans x6)) pe (run [.f fe,.b ce,.e c0,.r,.c ha,.e c1,.e c2,.e c3,.f f4,.b c4,.e (bU [.c c5,.r] (by kernel_rfl):bR P (af P (k+3)) (bo 59 5) [some (qV c a y n sp),some (.loc e),some (.bool free),some (cF held),none,none,none,some (cF ask),none] (cw s3 [nV 20])=some (oC y,s5)),.c h6,.r] (by kernel_rfl))
    ·intro pe c4;refine ah (Hy _ j4) λs5 x5 h5=> ?_;refine ah (Hn _ (Jx x5 j4)) λs6 x6 h6=> ?_;have hb:eP s6 .add (cD Y) (cD N)=some (cD (Y++N)):=by
      show og _ (some (V.bI (Y.map aV++N.map aV)))=_;exact aaG▸b7 (decide_eq_true (by simp only[aae,aae];exact aai F.yn (by decide)))
     refine ah (mO k s6 (Y++N) (by rw[aah];exact F.yn)) λs7 x7 h7=> ?_;exact fin (L:=less (Y++N)) (UK.trans (x5.trans (x6.trans x7))) pe (run [.f fe,.b ce,.e c0,.r,.c ha,.e c1,.e c2,.e c3,.f f4,.b c4,.r,.c h5,.r,.c h6,.v hb,.r,.c h7,.r] (by kernel_rfl))
   ·intro pe c3;refine ah (Hy _ j3) λs5 x5 h5=> ?_;exact fin (L:=Y) (WD.trans x5) pe (run [.f fe,.b ce,.e c0,.r,.c ha,.e c1,.e c2,.e c3,.r,.c h5,.r] (by kernel_rfl))
  ·intro pe c2;refine ah (Hy _ j2) λs5 x5 h5=> ?_;refine ah (Hn _ (Jx x5 j2)) λs6 x6 h6=> ?_;refine xS (d:=k+3) (s:=cw s6 [cF held,cF ask,cD Y,cD N]) sp (Ox F) λhj g1 g2 gi g3 g4=> ?_;exact fin (L:=[.cond held ask Y N sp]) (UJ.trans (x5.trans (x6.trans ((Ext.cw _ _).trans (Ext.cw (cw s6 [cF held,cF ask,cD Y,cD N]) [aV (.cond held ask Y N sp)]))))) pe (run [.f fe,.b ce,.e c0,.r,.c ha,.e c1,.e c2,.r,.c h5,.r,.c h6,.f (aP s6 [cF held,cF ask,cD Y,cD N]),.r,.r,.r,.m (G7 (k:=k+2) (free:=free) (c:=c) (a:=a) (y:=y) (n:=n) (sp:=sp) (e:=e) F none none none (cw s6 [cF held,cF ask,cD Y,cD N])),.c hj,.v g1,.v g2,.r,.v gi,.v g3,.v g4,.f (aP (cw s6 [cF held,cF ask,cD Y,cD N]) [aV (.cond held ask Y N sp)]),.r] (by kernel_rfl))
 ·intro pe c1;obtain ea:ask=[aL]:=by simp at QQ;exact QQ.1
  subst ea;exact fin (L:=[.n aL]) UJ pe (run [.f fe,.b ce,.e c0,.r,.c ha,.e c1,.r] (by kernel_rfl))
end
theorem fA{s s':St}(x:Ext s s'){e:Nat}(h:e<s.n){o:O}(k:s.f e=o):e<s'.n/\s'.f e=o:=⟨aak h x.n,(x.f e h).trans k⟩
theorem xT{s:St}{e:Nat}{m:Ab.Env}(h:s.f e=bZ m):sX s .dict (.loc e)=some (.loc s.n,s.new (bZ m)):=by show om (s.f e).gP _=_;rw[h];rfl
theorem B0{s:St}{e:Nat}{m:Ab.Env}(h:s.f e=bZ m)(t:Bool)(l:List Nm):cL s (.loc e) (nV (tu t)) (cF l)=some (s.set e (bZ (if t then{m with T:=l}else{m with U:=l}))):=by show(match s.f e with | .lst vs=>_ | .bV ks vs=>_ |_=>_)=_;rw[h];cases t<;>rfl
theorem uu{s:St}{e:Nat}{m:Ab.Env}(h:s.f e=bZ m)(t:Bool):bS s (.loc e) (nV (tu t))=some (cF (if t then m.T else m.U)):=by show(match(s.f e).eW with |some vs=>_ |none=>om (s.f e).gP _)=_;rw[h];cases t<;>rfl
section
variable {k:Nat}{free:Bool}{c a:Sd}{y n:Br}{sp:Bool}{e:Nat}{held:List Nm}
theorem B2(s:St):∃s',Ext s s'/\af P (k+1) 59 [qV c a y n sp,.loc e,.bool free,cF [aL]] s=some (cD [.n aL],s'):=by obtain h:=rL (cw s [nV 22]) [aL] [22];refine cq _ (Ext.cw s [nV 22]) ?_;exact run [.f (aP s [nV 22]),.r,.r] (by kernel_rfl)
def J8:Sd->Prop
 | .p ab=>False
 |_=>True
theorem J9(hc:J8 c){m:Ab.Env}(one:Nm)(lo:Nat)(s:St):∃s2,Ext s s2/\s.n<s2.n/\s2.f s.n=bZ (nearF free c m one)/\
  hJ P (af P (k+4)) (fi 59 2) [some (qV c a y n sp),some (.loc e),some (.bool free),some (cF held),some (.loc lo),some (nV one),some (.loc s.n),none,none] (s.new (bZ m))=some (.next,[some (qV c a y n sp),some (.loc e),some (.bool free),some (cF held),some (.loc lo),some (nV one),some (.loc s.n),none,none],s2):=by
 cases free with
 |false=>exact iD _ (Ext.new s _) (aap _) ⟨bY ..,by exact GS [] (by kernel_rfl)⟩
 |true=>
  cases c with
  |p l=>exact hc.elim
  |k l=>exact iD _ (Ext.new s _) (aap _) ⟨bY ..,by exact GS [.r,.r,.r] (by kernel_rfl)⟩
  |v t=>
   obtain h0:(cw (s.new (bZ m)) [nV one]).f s.n=bZ m:=((Ext.cw (s.new (bZ m)) [nV one]).f s.n (aap _)).trans (bY ..);obtain hi:aS (s.new (bZ m)) .ne (nV (tu t)) (sV [107])=some true:=by cases t<;>rfl
   refine iD _ (((Ext.new s _).trans (Ext.cw _ [nV one])).set (aab _) _) (aak (aap _) (Ext.cw (s.new (bZ m)) [nV one]).n) ⟨cz ..,?_⟩;exact GS [.r,.r,.b hi,.f (aP (s.new (bZ m)) [nV one]),.r,.r,.s (B0 h0 t [one])] (by kernel_rfl)
theorem B4{s:St}{k:Nat}{l w:List V}(h:s.f k= .lst l)(hb:l.length+w.length<big):uH s (.loc k) (.bI w)=some (.none,s.set k (.lst (l++w))):=by show om (s.f k).eW _=_;exact h▸b7 (decide_eq_true hb)
theorem B5{s:St}{k:Nat}{l:List V}(h:s.f k= .lst l)(P:Prog):dA P s .extend (.loc k)=some 0:=by show om (s.f k).eW _=_;rw[h];rfl
variable {m:Ab.Env}{R:Nm->List Atom}
theorem G8(hc:J8 c){σ:St}(s:St)(lo:Nat)(x5 x6:Option V)(out:List Atom)(one:Nm)(x:Ext σ s)(hl:σ.n<=lo)(hk:lo<s.n)(h:s.f lo= .lst (out.map aV))(he:e<s.n)(hm:s.f e=bZ m)(hb:out.length+(R one).length<big)
  (W:∀s' e',e'<s'.n->s'.f e'=bZ (nearF free c m one)->∃Mo,Ext s' Mo/\af P (k+4) 59 [qV c a y n sp,.loc e',.bool free,cF [one]] s'=some (cD (R one),Mo)):
  ∃s' y6,Ext σ s'/\lo<s'.n/\s'.f lo= .lst ((out++R one).map aV)/\dS P (af P (k+4)) (lb 59 0) [some (qV c a y n sp),some (.loc e),some (.bool free),some (cF held),some (.loc lo),some (nV one),x6,none,none] s=some (.next,[some (qV c a y n sp),some (.loc e),some (.bool free),some (cF held),some (.loc lo),some (nV one),y6,none,none],s'):=by
 refine cps λab kk=> ?_;refine dw (J9 (k:=k) (free:=free) (a:=a) (y:=y) (n:=n) (sp:=sp) (e:=e) (held:=held) hc (m:=m) one lo s) λs2 x2 hn Ro=> ?_;refine A2 Ro λh2 e2=> ?_;obtain k3:=fA (Ext.cw s2 [nV one]) hn h2;refine ah (W _ s.n k3.1 k3.2) λs4 x4 h4=> ?_;obtain WE:=(Ext.cw s2 [nV one]).trans x4;obtain l2:=fA x2 hk h;obtain l4:=fA WE l2.1 l2.2;obtain c2:cX (af P (k+4)) s4 .extend 0 (.loc lo) [cD (R one)]=some (.none,s4.set lo (.lst (out.map aV++(R one).map aV))):=B4 l4.2 (by simp only[aae,aae];exact hb);refine kk<|dI (s4.set lo (.lst (out.map aV++(R one).map aV))) (some (.loc s.n)) ((x.trans (x2.trans WE)).set hl _) l4.1 ((cz ..).trans (by simp only[aaG])) ?_
 exact eR [.c (xT hm),.t e2,.n (B5 l2.2 P),.f (aP s2 [nV one]),.c h4,.c c2] (by kernel_rfl)
theorem G9(hc:J8 c){σ:St}:∀(l:List Nm) (s:St) (lo:Nat) (x5 x6:Option V) (out:List Atom),Ext σ s->σ.n<=lo->lo<s.n->s.f lo= .lst (out.map aV)->e<σ.n->σ.f e=bZ m->(out++l.flatMap R).length<big->
  (∀one∈l,∀s' e',e'<s'.n->s'.f e'=bZ (nearF free c m one)->∃Mo,Ext s' Mo/\af P (k+4) 59 [qV c a y n sp,.loc e',.bool free,cF [one]] s'=some (cD (R one),Mo))->
  ∃s' y5 y6,Ext σ s'/\s'.f lo= .lst ((out++l.flatMap R).map aV)/\dk 5 (λr s=>dS P (af P (k+4)) (lb 59 0) r s) (l.map nV) [some (qV c a y n sp),some (.loc e),some (.bool free),some (cF held),some (.loc lo),x5,x6,none,none] s=some (.next,[some (qV c a y n sp),some (.loc e),some (.bool free),some (cF held),some (.loc lo),y5,y6,none,none],s'):=by
 intro v_;induction v_ with
 |nil=>intro s lo x5 x6 out x dJ dJ h dJ dJ dJ dJ;exact wC s x5 x6 x (by simp only[aeL,aaV];exact h) rfl
 |cons one l ih=>intro s lo x5 x6 out x hl hk h he hm hb W;rw[aaU,<-aaJ]at hb⊢;obtain em:=fA x he hm;refine b8 (G8 (k:=k) (free:=free) (a:=a) (y:=y) (n:=n) (sp:=sp) (held:=held) (R:=R) hc s lo x5 x6 out one x hl hk h em.1 em.2 (by rw[aah,aah]at hb;exact aai (aao _ _) hb) (W one aac)) λs1 y6 x1 k1 h1 e1=> ?_;refine uG (ih s1 lo (some (nV one)) y6 (out++R one) x1 hl k1 h1 he hm hb λo ho=>W o (aaf _ ho)) λs2 z5 z6 x2 h2 e2=> ?_;exact wC s2 z5 z6 x2 h2 ((aJ e1).trans e2)
theorem Ka(hc:J8 c){s:St}(he:e<s.n)(hm:s.f e=bZ m)(hs:(sp &&held.length !=1)=true)(hl:held.length<64)(ho:(held.flatMap R).length<=61)
  (W:∀one∈held,∀s' e',e'<s'.n->s'.f e'=bZ (nearF free c m one)->∃Mo,Ext s' Mo/\af P (k+4) 59 [qV c a y n sp,.loc e',.bool free,cF [one]] s'=some (cD (R one),Mo)):
  ∃s',Ext s s'/\af P (k+5) 59 [qV c a y n sp,.loc e,.bool free,cF held] s=some (cD (less (held.flatMap R)),s'):=by
 have qb:sp=true:=by cases sp;cases hs;rfl
 have WG:held.length≠1:=by subst qb;simpa using hs
 subst qb;obtain UL:decide (held=[22])=false:=decide_eq_false λh=>WG (congrArg _ h);obtain ce:=rL (cw s [nV 22]) held [22];simp only[UL]at ce;obtain h2:aS (cw s [nV 22]) .ne (.int (held.map nV).length) (.int 1)=some true:=by rw[aae];exact congrArg (λb=>some (!b)) (decide_eq_false λh=>WG (aaO h))
 obtain x1:=Ext.cw s [nV 22];generalize cw s [nV 22]=s1 at*
 have m1:=fA x1 he hm;obtain m2:=fA (Ext.new s1 (.lst [])) m1.1 m1.2;refine uG (G9 (k:=k) (free:=free) (a:=a) (y:=y) (n:=n) (sp:=true) (held:=held) (R:=R) hc (σ:=s1) held (s1.new (.lst [])) s1.n none none [] (Ext.new _ _) (aab _) (aap _) (bY ..) m1.1 m1.2 (aai ho (by decide)) W) λs3 y5 y6 x3 h3 e3=> ?_;refine ah (mO (k+1) (s3.set s1.n .dead) (held.flatMap R) ho) λs5 x5 h5=> ?_;refine cq s5 (x1.trans ((x3.set (aab _) _).trans x5)) ?_;exact run [.f (aP s [nV 22]),.b ce,.r,.r,.r,.b h2,.r,.l e3,.f (qg h3),.c h5,.r] (by kernel_rfl)
end
def zU(m:Ab.Env):Sd->Prop
 | .p l=>(m.T++l).length<=61
 |_=>True
def lA(free:Bool)(c a:Sd)(y n:Br)(s:Bool)(m:Ab.Env)(one:Nm):List Atom:=if one=aL then[.n aL]else pick [one] (c9 (nearF free c m one) a) (iN free y (nearF free c m one)) (iN free n (nearF free c m one)) s
theorem Hc(free:Bool)(c a:Sd)(y n:Br)(s:Bool)(m:Ab.Env):iN free (.q c a y n s) m=if c9 m c=[aL]then[.n aL]else if s &&(c9 m c).length !=1 then less ((c9 m c).flatMap (lA free c a y n s m))else pick (c9 m c) (c9 m a) (iN free y m) (iN free n m) s:=rfl
def zV(free:Bool):Br->Ab.Env->Prop
 | .sd x,m=>zU m x
 | .q c a y n s,m=>J8 c/\(c9 m c).length<64/\
  ((s &&(c9 m c).length !=1)=true->((c9 m c).flatMap (lA free c a y n s m)).length<=61/\∀one∈c9 m c,one≠aL->zU (nearF free c m one) a/\Fits [one] (c9 (nearF free c m one) a) (iN free y (nearF free c m one)) (iN free n (nearF free c m one))/\zV free y (nearF free c m one)/\zV free n (nearF free c m one))/\
  ((s &&(c9 m c).length !=1)=false->c9 m c≠[aL]->zU m a/\Fits (c9 m c) (c9 m a) (iN free y m) (iN free n m)/\zV free y m/\zV free n m)
noncomputable def K:Br->Nat
 | .sd ab=>4
 | .q ab ai y n aD=>max (K y) (K n)+4
theorem Oy:∀b:Br,4<=K b
 | .sd ab=>aab _
 | .q .. =>aaj _ _
theorem vz(free:Bool)(d:Nat){s:St}{e:Nat}{m:Ab.Env}(hm:s.f e=bZ m)(x:Sd)(hx:zU m x):∃s',Ext s s'/\af P (d+4) 57 [nk x,.loc e,.bool free] s=some (cF (c9 m x),s'):=by
 cases x with
 |k l=>refine cq s (Ext.refl s) ?_;exact run [.r,.r,.r,.r] (by kernel_rfl)
 |v t=>
  obtain h:=uu hm t;obtain e2:cF (c9 m (.v t))=cF (if t then m.T else m.U):=rfl;refine cq s (Ext.refl s) ?_;cases t
  ·show af P (d+4) 57 [.tup [nV 24,.bI []],.loc e,.bool free] s=_;exact run [.r,.r,.r,.v h,.r] (by kernel_rfl)
  ·show af P (d+4) 57 [.tup [nV 23,.bI []],.loc e,.bool free] s=_;exact run [.r,.r,.r,.v h,.r] (by kernel_rfl)
 |p l=>
  obtain hb:eP s .add (cF m.T) (cF l)=some (cF (m.T++l)):=by show og _ (some (V.bI (m.T.map nV++l.map nV)))=_;rw[<-aaG];exact b7 (decide_eq_true (by rw[aae,aae,<-aah];exact aai hx (by decide)))
  refine ah (mO d s (aR (m.T++l)) (by rw[aae];exact hx)) λs' x' h'=> ?_;rw[mN,<-aY]at h';have e2:cD ((aC (m.T++l)).map Atom.n)=cF (aC (m.T++l)):=mN _;rw[e2]at h';refine cq s' x' ?_;exact run [.r,.r,.v (uu hm true),.v hb,.r,.c h',.r] (by kernel_rfl)
theorem Hd{free:Bool}{k:Nat}{c a:Sd}{y n:Br}{sp:Bool}{held:List Nm}{m:Ab.Env}(hs:(sp &&held.length !=1)=false)(he:held≠[aL])
  (iy:∀s e,e<s.n->s.f e=bZ m->∃s',Ext s s'/\af P (k+4) 57 [oC y,.loc e,.bool free] s=some (cD (iN free y m),s'))
  (jn:∀s e,e<s.n->s.f e=bZ m->∃s',Ext s s'/\af P (k+4) 57 [oC n,.loc e,.bool free] s=some (cD (iN free n m),s'))
  (ha:zU m a) (F:Fits held (c9 m a) (iN free y m) (iN free n m)) {s:St} {e:Nat} (h1:e<s.n) (h2:s.f e=bZ m):
  ∃s',Ext s s'/\af P (k+5) 59 [qV c a y n sp,.loc e,.bool free,cF held] s=some (cD (pick held (c9 m a) (iN free y m) (iN free n m) sp),s'):=
 J7 (k:=k+1) F hs he (λs=>e<s.n/\s.f e=bZ m) (λx h=>fA x h.1 h.2) ⟨h1,h2⟩ (λs h=>vz free k h.2 a ha) (λs h=>iy s e h.1 h.2) λs h=>jn s e h.1 h.2
theorem Mq(free:Bool)(c a:Sd)(y n:Br)(sp:Bool)(k:Nat)
  (iy:∀d,k+4<=d->∀(s:St) (e:Nat) (m:Ab.Env),e<s.n->s.f e=bZ m->zV free y m->∃s',Ext s s'/\af P d 57 [oC y,.loc e,.bool free] s=some (cD (iN free y m),s'))
  (jn:∀d,k+4<=d->∀(s:St) (e:Nat) (m:Ab.Env),e<s.n->s.f e=bZ m->zV free n m->∃s',Ext s s'/\af P d 57 [oC n,.loc e,.bool free] s=some (cD (iN free n m),s'))
  (s:St) (e:Nat) (m:Ab.Env) (he:e<s.n) (hm:s.f e=bZ m) (F:zV free (.q c a y n sp) m):∃s',Ext s s'/\af P (k+7) 58 [qV c a y n sp,.loc e,.bool free] s=some (cD (iN free (.q c a y n sp) m),s'):=by
 refine A4 F λhc hl F1 F2=> ?_;obtain YQ:zU m c:=by cases c<;>first |trivial |exact hc.elim
 refine ah (vz free (k+2) hm c YQ) λs1 x1 h1=> ?_;obtain m1:=fA x1 he hm;have goal:∀R,(∃s',Ext s1 s'/\af P (k+6) 59 [qV c a y n sp,.loc e,.bool free,cF (c9 m c)] s1=some (cD R,s'))->∃s',Ext s s'/\af P (k+7) 58 [qV c a y n sp,.loc e,.bool free] s=some (cD R,s'):=by
  rintro R ⟨s2,x2,h2⟩
  refine⟨s2,x1.trans x2,?_⟩;exact run [.r,.c h1,.c h2,.r] (by kernel_rfl)
 refine goal _ ?_;simp only[Hc];by_cases hE:c9 m c=[aL]
 ·rw[if_pos hE,hE];exact B2 s1
 ·rw[if_neg hE];cases hs:(sp &&(c9 m c).length !=1)
  ·refine A4 (F2 hs hE) λg1 g2 g3 g4=> ?_;exact Hd (k:=k+1) hs hE (λs e h1 h2=>iy _ (aaK _) s e m h1 h2 g3) (λs e h1 h2=>jn _ (aaK _) s e m h1 h2 g4) g1 g2 m1.1 m1.2
  ·refine A2 (F1 hs) λg0 gs=> ?_;refine Ka (k:=k+1) hc m1.1 m1.2 hs hl g0 λone ho s' e' h1 h2=> ?_;simp only[lA];by_cases Rp:one=aL
   ·rw[if_pos Rp,Rp];exact B2 s'
   ·rw[if_neg Rp];refine A4 (gs one ho Rp) λg1 g2 g3 g4=> ?_;exact Hd (k:=k) (held:=[one]) (by cases sp<;>rfl) (λe=>Rp (aaL e).1) (λs e h1 h2=>iy _ (aab _) s e _ h1 h2 g3) (λs e h1 h2=>jn _ (aab _) s e _ h1 h2 g4) g1 g2 h1 h2
theorem B6(free:Bool):∀(b:Br) (d:Nat),K b<=d->∀(s:St) (e:Nat) (m:Ab.Env),e<s.n->s.f e=bZ m->zV free b m->∃s',Ext s s'/\af P d 57 [oC b,.loc e,.bool free] s=some (cD (iN free b m),s'):=by
 intro v_;induction v_ with
 |sd x=>intro d hd s e m dJ hm F;obtain⟨k,rfl⟩:∃k,d=k+4:=⟨d -4,(acq hd).symm⟩;refine ah (vz free k hm x F) λs' x' h=> ?_;exact cq s' x' (h.trans (by rw[<-mN];rfl))
 |q c a y n sp Rq SA=>intro d hd s e m he hm F;obtain k4:4<=max (K y) (K n):=aaa (Oy y) (aaW _ _);obtain hd:max (K y) (K n)+4<=d:=hd;obtain⟨k,rfl⟩:∃k,d=k+8:=⟨d -8,(acq (aaa (aat k4 4) hd)).symm⟩;obtain hk:max (K y) (K n)<=k+4:=Nat.le_of_add_le_add_right (b:=4) hd;refine ah (Mq free c a y n sp k (λd hd=>Rq d (aaa (aaa (aaW _ _) hk) hd)) (λd hd=>SA d (aaa (aaa (abi _ _) hk) hd)) s e m he hm F) λs2 x2 h3=> ?_;refine cq s2 x2 ?_;exact run [.r,.c h3,.r] (by kernel_rfl)
theorem jw(free:Bool)(c a:Sd)(y n:Br)(sp:Bool)(k:Nat)(hd:max (K y) (K n)<=k+4)(s:St)(e:Nat)(m:Ab.Env)(he:e<s.n)(hm:s.f e=bZ m)(F:zV free (.q c a y n sp) m):∃s',Ext s s'/\af P (k+7) 58 [qV c a y n sp,.loc e,.bool free] s=some (cD (iN free (.q c a y n sp) m),s'):=
 Mq free c a y n sp k (λd IB=>B6 free y d (aaa (aaa (aaW _ _) hd) IB)) (λd IB=>B6 free n d (aaa (aaa (abi _ _) hd) IB)) s e m he hm F
noncomputable def dO(at':Nat)(nums:List Int):O:= .lst [.int at',.bI (nums.map .int)]
structure fL(l:Nat)(σ aq:St):Prop where
 n:σ.n<=aq.n
 f:∀k,k<σ.n->k≠l->aq.f k=σ.f k
theorem fL.refl(l:Nat)(σ:St):fL l σ σ:=⟨aab _,λab ai aD=>rfl⟩
theorem fL.trans{l:Nat}{a b c:St}(x:fL l a b)(y:fL l b c):fL l a c:=⟨aaa x.n y.n,λk h e=>(y.f k (aak h x.n) e).trans (x.f k h e)⟩
theorem Ext.x{l:Nat}{a b:St}(x:Ext a b):fL l a b:=⟨x.n,λk h ab=>x.f k h⟩
theorem fL.set(l:Nat)(σ:St)(o:O):fL l σ (σ.set l o):=⟨aab _,λab ai e=>if_neg e⟩
def D(l:Nat)(nums:List Int)(b:Nat)(σ:St):Prop:=∃at':Nat,at'+b<=1000/\σ.f l=dO at' nums/\l<σ.n
theorem D.less{l:Nat}{nums:List Int}{b c:Nat}{σ:St}(h:D l nums b σ)(k:c<=b):D l nums c σ:=by refine ah h λa h1 h2=> ?_;exact⟨a,aaa (aav k _) h1,h2⟩
theorem D.ext{l:Nat}{nums:List Int}{b:Nat}{σ aq:St}(h:D l nums b σ)(x:Ext σ aq):D l nums b aq:=by refine dw h λa h1 h2 h3=> ?_;exact⟨a,h1,(fA x h3 h2).2,(fA x h3 h2).1⟩
theorem dG{l:Nat}{nums:List Int}(h0:0<nums.length)(h1:nums.length<=1000)(d:Nat){b:Nat}{σ:St}(h:D l nums (b+1) σ){n:Nat}(hn:0<n):∃v aq,v<n/\D l nums b aq/\fL l σ aq/\af P (d+1) 50 [.loc l,.int n] σ=some (.int (v:Nat),aq):=by
 refine dw h λa ha hf hl=> ?_;obtain TJ:a %nums.length<nums.length:=aeu _ h0;generalize hx:nums[a %nums.length]=x;obtain zn:0<=(x+(a/nums.length:Nat)*((a:Int)+5)) %(n:Int):=Int.emod_nonneg _ (by lia);obtain zl:(x+(a/nums.length:Nat)*((a:Int)+5)) %(n:Int)<n:=Int.emod_lt_of_pos _ (by lia);refine dI (((x+(a/nums.length:Nat)*((a:Int)+5)) %n).toNat) (σ.set l (dO (a+1) nums)) (by lia) ⟨a+1,by lia,cz ..,hl⟩ (fL.set l σ _) ?_;obtain e0:bS σ (.loc l) (.int 0)=some (.int a):=by show(match(σ.f l).eW with |some vs=>_ |none=>_)=_;rw[hf];rfl
 obtain e1:cL σ (.loc l) (.int 0) (.int ((a:Int)+1))=some (σ.set l (dO (a+1) nums)):=by show(match σ.f l with | .lst vs=>_ | .bV ks vs=>_ |_=>_)=_;rw[hf];rfl
 generalize hs:σ.set l (dO (a+1) nums)=s1 at*
 obtain f1:s1.f l=dO (a+1) nums:=by rw[<-hs];exact cz ..
 obtain e2:bS s1 (.loc l) (.int 1)=some (.bI (nums.map .int)):=by show(match(s1.f l).eW with |some vs=>_ |none=>_)=_;rw[f1];rfl
 obtain hlen:((nums.map V.int).length:Int)=nums.length:=by rw[aae]
 obtain e3:sX s1 .len (.bI (nums.map .int))=some (.int nums.length,s1):=by show some (V.int ((nums.map V.int).length:Int),s1)=_;rw[hlen]
 obtain e4:eP s1 .mod (.int a) (.int nums.length)=some (.int (a %nums.length:Nat)):=by show om (og (decide ((0:Int)<nums.length)) (some ((a:Int) %nums.length))) _=_;rw[decide_eq_true (by lia:(0:Int)<nums.length)];rfl
 obtain e5:bS s1 (.bI (nums.map .int)) (.int (a %nums.length:Nat))=some (.int x):=by show E7 (nums.map V.int) ((a %nums.length:Nat):Int)=_;unfold E7;rw[if_pos (abl _),adD,abI,aaP TJ,hx];rfl
 obtain e6:eP s1 .fdiv (.int a) (.int nums.length)=some (.int (a/nums.length:Nat)):=by show om (og (decide ((0:Int)<nums.length) &&decide ((nums.length:Int).natAbs<2^30)) (some ((a:Int)/nums.length))) _=_;rw[decide_eq_true (by lia:(0:Int)<nums.length),decide_eq_true (by lia:(nums.length:Int).natAbs<2^30)];rfl
 obtain dv:a/nums.length<=a:=Nat.div_le_self _ _;obtain e7:eP s1 .mul (.int (a/nums.length:Nat)) (.int ((a:Int)+5))=some (.int ((a/nums.length:Nat)*((a:Int)+5))):=by
  show om (og (decide (((a/nums.length:Nat):Int).natAbs<2^60) &&decide (((a:Int)+5).natAbs<2^60)) (some _)) _=_;generalize a/nums.length=q at*
  rw[decide_eq_true (by lia:(q:Int).natAbs<2^60),decide_eq_true (by lia:((a:Int)+5).natAbs<2^60)];rfl
 obtain e8:eP s1 .mod (.int (x+(a/nums.length:Nat)*((a:Int)+5))) (.int n)=some (.int (((x+(a/nums.length:Nat)*((a:Int)+5)) %n).toNat:Nat)):=by show om (og (decide ((0:Int)<n)) (some ((x+(a/nums.length:Nat)*((a:Int)+5)) %n))) _=_;rw[decide_eq_true (by lia:(0:Int)<n),aco zn];rfl
 exact run [.v e0,.r,.s e1,.v e2,.c e3,.v e2,.v e4,.v e5,.v e6,.r,.v e7,.r,.v e8,.r] (by kernel_rfl)
def zW:V:= .tup ((iv.take 20).map nV)
noncomputable def vA(v:Nat):Nm:=Fin.ofNat 25 v
theorem xU(s:St)(v:Nat)(hv:v<20):bS s zW (.int v)=some (nV (vA v)):=by
 obtain h:∀w:Fin 20,bS s zW (.int (w.val:Nat))=some (nV (vA w.val)):=by
  obtain this:(aeW 20).map (λw=>bS s zW (.int (w.val:Nat)))=(aeW 20).map λw=>some (nV (vA w.val)):=by kernel_rfl
  exactλw=>adA.mp this w (List.mem_finRange w)
 exact h ⟨v,hv⟩
structure KindsOk(n:Nat)(l:List Nm):Prop where
 gT:aC l=l
 low:∀x∈l,x.val<20
 len:l.length<=n
theorem He{v:Nat}(h:v<20):(vA v).val<20:=by show v %25<20;lia
theorem oE{l:List Nm}(h:∀x∈l,x.val<20):∀x∈aC l,x.val<20:=λx hx=>by
 rcases rG hx with m |m |m
 ·exact h x m
 ·rw[m];decide
 ·rw[m];decide
theorem Hf{n:Nat}{l:List Nm}(h:∀x∈l,x.val<20)(k:l.length<=n):KindsOk n (aC l):=⟨gF l,oE h,aaa (gZ l) k⟩
theorem oF{c:Nat}(h:c<big):itemsOf (.CR c)=some ((aba c).map λ(i:Nat)=>V.int (i:Int)):=b7 (decide_eq_true h)
theorem zX{s:St}(c:Nat):sX s .range (.int c)=some (.CR c,s):=by show og (decide ((0:Int)<=c)) (some (V.CR (Int.toNat c),s))=_;rfl
section
variable {l:Nat}{nums:List Int}(h0:0<nums.length)(h1:nums.length<=1000)
include h0 h1
theorem zY(d:Nat)(cs:V):∀(vs:List V) (b:Nat) (σ:St),D l nums (b+vs.length) σ->∃(xs:List Nm) (aq:St),xs.length=vs.length/\(∀x∈xs,x.val<20)/\D l nums b aq/\fL l σ aq/\cB (λr s=>bR P (af P (d+1)) (ce 60 0) r s) (λr s=>il P (af P (d+1)) (cc 60 0) r s) [some (.loc l),some cs] vs σ=some (xs.map nV,aq):=by
 intro v_;induction v_ with
 |nil=>intro b σ h;exact pF [] σ rfl (aar _) h (fL.refl l σ) rfl
 |cons v vs ih=>
  intro b σ h;refine b8 (dG h0 h1 d h (n:=20) (by decide)) λw s1 hw d1 x1 e1=> ?_;refine kU (ih b s1 d1) λxs s2 k1 k2 k3 k4 k5=> ?_;refine pF (vA w::xs) s2 (by rw[aax,k1];rfl) ?_ k3 (x1.trans k4) ?_
  ·intro x hx;rcases aam.mp hx with e |m
   ·rw[e];exact He hw
   ·exact k2 x m
  ·obtain hn:=xU s1 w hw;obtain e:bR P (af P (d+1)) (ce 60 0) [some (.loc l),some cs,some v] σ=some (nV (vA w),s1):=by
    exact bU [.c e1,.v hn] (by kernel_rfl)
   obtain c:il P (af P (d+1)) (cc 60 0) [some (.loc l),some cs,some v] σ=some (true,σ):=by kernel_rfl
   exact(aQ c).trans ((aQ e).trans (aQ k5))
noncomputable abbrev UM(cs:List Nat):V:= .tup (cs.map λ(c:Nat)=>V.int (c:Int))
theorem gr(d:Nat)(cs:List Nat)(n:Nat)(hc:0<cs.length)(hn:∀c∈cs,c<=n)(h3:n<=3){b:Nat}{σ:St}(h:D l nums (b+4) σ):∃(xs:List Nm) (aq:St),KindsOk n xs/\D l nums b aq/\fL l σ aq/\af P (d+4) 60 [.loc l,UM cs] σ=some (cF xs,aq):=by
 refine b8 (dG h0 h1 (d+2) h (n:=(cs.map λ(c:Nat)=>V.int (c:Int)).length) (by simp only[aae];exact hc)) λw s1 hw d1 x1 e1=> ?_;simp only[aae]at hw;obtain hi:bS s1 (UM cs) (.int w)=some (.int (cs[w]:Nat)):=by show E7 (cs.map λ(c:Nat)=>V.int (c:Int)) ((w:Nat):Int)=_;unfold E7;rw[adD,abI,aaP hw];rfl
 obtain WH:=hn _ (List.getElem_mem hw);generalize cs[w]=c at*
 obtain hr:=zX (s:=s1) c;obtain cb:c<big:=aai (aaa WH h3) (by decide);refine kU (zY h0 h1 (d+2) (UM cs) ((aba c).map λ(i:Nat)=>V.int (i:Int)) b s1 (d1.less (by simp only[aae,abp];lia))) λxs s2 k1 k2 k3 k4 k5=> ?_;simp only[aae,abp]at k1;obtain YR:some (decide (((aba c).map λ(i:Nat)=>V.int (i:Int)).length<big))=some true:=congrArg some (decide_eq_true (by simp only[aae,abp];exact cb));refine ah (mO d s2 (aR xs) (by simp only[aae,k1];lia)) λs3 x3 e3=> ?_;rw[mN,<-aY]at e3;obtain e4:cD ((aC xs).map Atom.n)=cF (aC xs):=mN _;rw[e4]at e3;refine dI (aC xs) s3 (Hf k2 (k1▸WH)) (k3.ext x3) (x1.trans (k4.trans x3.x)) ?_;exact run [.r,.c e1,.v hi,.r,.i (oF cb),.b YR,.m k5,.r,.c e3,.r] (by kernel_rfl)
def jZ:Sd->Prop
 | .k l=>KindsOk 2 l\/l=[20]\/l=[21]
 | .p l=>KindsOk 2 l
 | .v ab=>True
theorem D5(d:Nat){b:Nat}{σ:St}(h:D l nums (b+5) σ):∃(x:Sd) (aq:St),jZ x/\D l nums b aq/\fL l σ aq/\af P (d+5) 61 [.loc l] σ=some (nk x,aq):=by
 refine cps λab kk=> ?_;refine b8 (dG h0 h1 (d+3) h (n:=8) (by decide)) λw s1 hw d1 x1 e1=> ?_;by_cases c1:w<4
 ·obtain q1:aS s1 .lt (.int w) (.int 4)=some true:=congrArg some (decide_eq_true (by lia));refine b8 (gr h0 h1 d [1,2,1] 2 (by decide) (by decide) (by decide) d1) λxs s2 k1 k2 k3 k4=> ?_;refine kk<|dI (.k xs) s2 (.inl k1) k2 (x1.trans k3) ?_
  exact run [.c e1,.b q1,.c k4,.r] (by kernel_rfl)
 ·have q1:aS s1 .lt (.int w) (.int 4)=some false:=congrArg some (decide_eq_false (by lia));obtain YS:D l nums (b+1) s1:=d1.less (by simp+arith);obtain YT:w=4\/w=5\/w=6\/w=7:=by lia
  rcases YT with e |e |e |e<;>subst e
  ·refine b8 (dG h0 h1 (d+3) YS (n:=2) (by decide)) λv s2 hv d2 x2 e2=> ?_;obtain Jh:v=0\/v=1:=by lia
   rcases Jh with e |e<;>subst e
   ·have f:=aP s2 [nV 20];refine kk<|dI (.k [20]) _ (.inr (.inl rfl)) (d2.ext (Ext.cw s2 [nV 20])) (x1.trans (x2.trans (Ext.cw s2 [nV 20]).x)) ?_
    exact run [.c e1,.r,.r,.c e2,.r,.f f,.r] (by kernel_rfl)
   ·have f:=aP s2 [nV 21];refine kk<|dI (.k [21]) _ (.inr (.inr rfl)) (d2.ext (Ext.cw s2 [nV 21])) (x1.trans (x2.trans (Ext.cw s2 [nV 21]).x)) ?_
    exact run [.c e1,.r,.r,.c e2,.r,.f f,.r] (by kernel_rfl)
  ·have f:=aP s1 [];refine kk<|dI (.v false) _ trivial ((d1.less (by lia)).ext (Ext.cw s1 [])) (x1.trans (Ext.cw s1 []).x) ?_
   exact run [.c e1,.r,.r,.r,.r,.r,.f f,.r] (by kernel_rfl)
  ·obtain f:=aP s1 [];refine kk<|dI (.v true) _ trivial ((d1.less (by lia)).ext (Ext.cw s1 [])) (x1.trans (Ext.cw s1 []).x) ?_
   exact run [.c e1,.r,.r,.r,.r,.r,.f f,.r] (by kernel_rfl)
  ·refine b8 (gr h0 h1 d [1,2] 2 (by decide) (by decide) (by decide) d1) λxs s2 k1 k2 k3 k4=> ?_;refine kk<|dI (.p xs) s2 k1 k2 (x1.trans k3) ?_
   exact run [.c e1,.r,.r,.r,.c k4,.r] (by kernel_rfl)
end
def fB:Sd->Prop
 | .k l=>KindsOk 2 l
 | .p l=>KindsOk 2 l
 | .v ab=>True
def mP:Sd->Prop
 | .k l=>KindsOk 2 l
 | .p ab=>False
 | .v ab=>True
def da:Nat->Br->Prop
 |ab,.sd x=>fB x
 |0,.q .. =>False
 |g+1,.q c a y n ab=>mP c/\jZ a/\da g y/\da g n
theorem da.up:∀{g:Nat} {b:Br},da g b->da (g+1) b
 |0,.sd ab,h=>h
 |ab+1,.sd ai,h=>h
 |0,.q ..,h=>h.elim
 |ab+1,.q ..,h=>⟨h.1,h.2.1,h.2.2.1.up,h.2.2.2.up⟩
theorem da.le{g:Nat}{b:Br}(h:da g b):∀k,da (g+k) b
 |0=>h
 |k+1=>(da.le h k).up
noncomputable def NQ:Nat->Nat
 |0=>21
 |g+1=>2*NQ g+13
theorem Ru:∀g,21<=NQ g:=by
 intro v_;induction v_ with
 |zero=>exact aab _
 |succ g ih=>obtain this:=ih;show 21<=2*NQ g+13;lia
theorem fL.setB{l:Nat}{σ aq:St}(x:fL l σ aq){k:Nat}(h:σ.n<=k)(o:O):fL l σ (aq.set k o):=⟨x.n,λj hj e=>(if_neg (aaF (aak hj h))).trans (x.f j hj e)⟩
theorem D.set{l:Nat}{nums:List Int}{b:Nat}{σ:St}(h:D l nums b σ){k:Nat}(e:l≠k)(o:O):D l nums b (σ.set k o):=by refine dw h λa h1 h2 h3=> ?_;exact⟨a,h1,(if_neg e).trans h2,h3⟩
section
variable {l:Nat}{nums:List Int}(h0:0<nums.length)(h1:nums.length<=1000)
include h0 h1
theorem Kb(d:Nat){b:Nat}{s1:St}(d1:D l nums (b+4) s1)(w:Nat):∃(c:Sd) (s2:St),mP c/\D l nums b s2/\fL l s1 s2/\∀x1 x3 x4 x5 x6,bR P (af P (d+4)) (bo 62 0) [some (.loc l),x1,some (.int w),x3,x4,x5,x6] s1=some (nk c,s2):=by
 by_cases h5:w=5
 ·subst h5;refine b8 (gr h0 h1 d [2,1] 2 (by decide) (by decide) (by decide) d1) λxs s2 k1 k2 k3 k4=> ?_;exact dI (.k xs) s2 k1 k2 k3 (λx1 x3 x4 x5 x6=>by exact bU [.r,.c k4] (by kernel_rfl))
 ·obtain q5:aS s1 .eq (.int w) (.int 5)=some false:=congrArg some (decide_eq_false (by lia));obtain f:=aP s1 [];obtain e:∀t:Bool,decide ((w:Int)<3)=t->mP (.v t)/\D l nums b (cw s1 [])/\fL l s1 (cw s1 [])/\∀x1 x3 x4 x5 x6,bR P (af P (d+4)) (bo 62 0) [some (.loc l),x1,some (.int w),x3,x4,x5,x6] s1=some (nk (.v t),cw s1 []):=by
   intro t ht;refine⟨trivial,(d1.less (aao _ _)).ext (Ext.cw s1 []),(Ext.cw s1 []).x,λx1 x3 x4 x5 x6=> ?_⟩;obtain q3:aS s1 .lt (.int w) (.int 3)=some t:=congrArg some ht;cases t
   ·exact bU [.b q5,.b q3,.f f] (by kernel_rfl)
   ·exact bU [.b q5,.b q3,.f f] (by kernel_rfl)
  exact⟨_,_,e _ rfl⟩
theorem Hh(d:Nat){σ:St}{b g:Nat}{M:Nat}(hM:4<=M)(hg:∀g',g=g'+1->NQ g'<=M)
  (ih:∀g' b σ,g=g'+1->D l nums (b+NQ g') σ->∃(q:Br) (s':St),(∃c a y n sp,q= .q c a y n sp/\da (g'+1) q/\af P (d+5) 62 [.loc l,.int (g':Nat)] σ=some (qV c a y n sp,s'))/\D l nums b s'/\fL l σ s')
  {s:St} (x:fL l σ s) (hD:D l nums (b+(M+1)) s) {ls:Nat} (YU:σ.n<=ls) (hl:l<σ.n) {old:List V} (ho:s.f ls= .lst old) (hk:ls<s.n) (hb:old.length<2) (x2 c3 c4 x6:Option V) (i:V):
  ∃(q:Br) (g':Nat) (s':St) (y2:Option V),da g q/\g'<=g/\D l nums b s'/\fL l σ s'/\ls<s'.n/\s'.f ls= .lst (old++[oC q])/\
   dS P (af P (d+5)) (lb 62 0) [some (.loc l),some (.int (g:Nat)),x2,c3,c4,some (.loc ls),some i] s=some (.next,[some (.loc l),some (.int (g':Nat)),y2,c3,c4,some (.loc ls),some i],s'):=by
 refine cps λab kk=> ?_;obtain ne:l≠ls:=by lia
 refine b8 (dG h0 h1 (d+4) (b:=b+M) hD (n:=7) (by decide)) λw s1 hw d1 x1 e1=> ?_;have keep:∀{s'},fL l s1 s'->ls<s'.n/\s'.f ls= .lst old:=λy=>⟨aak (aak hk x1.n) y.n,(y.f ls (aak hk x1.n) ne.symm).trans ((x1.f ls hk ne.symm).trans ho)⟩;have ca:=jY (keep (fL.refl l s1)).2 P;have fin:∀{s':St} {q:Br} {g':Nat},da g q->g'<=g->D l nums b s'->fL l s1 s'->(cX (af P (d+5)) s' .append 0 (.loc ls) [oC q]=some (.none,s'.set ls (.lst (old++[oC q])))->dS P (af P (d+5)) (lb 62 0) [some (.loc l),some (.int (g:Nat)),x2,c3,c4,some (.loc ls),some i] s=some (.next,[some (.loc l),some (.int (g':Nat)),some (.int w),c3,c4,some (.loc ls),some i],s'.set ls (.lst (old++[oC q]))))->_:=λ{s' q g'} k1 k2 dd y e=>kk (Tg q g' _ (some (.int w)) k1 k2 (dd.set ne _) ((x.trans (x1.trans y)).setB YU _) (keep y).1 ⟨cz ..,e (iA (keep y).2 (aak (adH hb) (by decide)) _)⟩);by_cases hn:3<w/\0<g
 ·obtain⟨g',rfl⟩:∃g',g=g'+1:=⟨g -1,by lia⟩;obtain q1:aS s1 .gt (.int w) (.int 3)=some true:=congrArg some (decide_eq_true (by lia));obtain q2:aS s1 .gt (.int ((g'+1:Nat):Int)) (.int 0)=some true:=congrArg some (decide_eq_true (by simp+arith));obtain q3:eP s1 .sub (.int ((g'+1:Nat):Int)) (.int 1)=some (.int (g':Nat)):=congrArg (λz=>some (V.int z)) (by simp+arith);obtain⟨q,s2,⟨c,a,y,n,sp,hq,k1,k2⟩,k3,k4⟩:=ih g' b s1 rfl (d1.less (aav (hg g' rfl) _));subst hq;exact fin k1 (aaS _) k3 k4 λa2=>eR [.c e1,.b q1,.b q2,.n ca,.v q3,.c k2,.c a2] (by kernel_rfl)
 ·have cb:bR P (af P (d+5)) (bo 62 2) [some (.loc l),some (.int (g:Nat)),some (.int w),c3,c4,some (.loc ls),some i] s1=some (.bool false,s1):=by
   by_cases h3:3<w
   ·exact bU [.b (congrArg some (decide_eq_true (by lia)):aS s1 .gt (.int w) (.int 3)=some true),.b (congrArg some (decide_eq_false (by lia)):aS s1 .gt (.int (g:Nat)) (.int 0)=some false)] (by kernel_rfl)
   ·exact bU [.b (congrArg some (decide_eq_false (by lia)):aS s1 .gt (.int w) (.int 3)=some false)] (by kernel_rfl)
  have md:eP s1 .mod (.int w) (.int 4)=some (.int ((w %4:Nat):Int)):=rfl;have hr:w %4=0\/w %4=1\/w %4=2\/w %4=3:=by lia
  rcases hr with e |e |e |e<;>rw[e]at md
  ·exact fin (q:= .sd (.v true)) (by cases g<;>trivial) (aab _) ((d1.less (by lia)).ext (Ext.cw s1 [])) (Ext.cw s1 []).x λa2=>eR [.c e1,.e cb,.v md,.r,.n ca,.v md,.r,.f (aP s1 []),.c a2] (by kernel_rfl)
  ·exact fin (q:= .sd (.v false)) (by cases g<;>trivial) (aab _) ((d1.less (by lia)).ext (Ext.cw s1 [])) (Ext.cw s1 []).x λa2=>eR [.c e1,.e cb,.v md,.r,.n ca,.v md,.r,.f (aP s1 []),.c a2] (by kernel_rfl)
  ·refine b8 (gr h0 h1 (d+1) [0,1,2] 2 (by decide) (by decide) (by decide) (d1.less (by lia):D l nums (b+4) s1)) λxs s2 k1 k2 k3 k4=> ?_;exact fin (q:= .sd (.k xs)) (by cases g<;>exact k1) (aab _) k2 k3 λa2=>eR [.c e1,.e cb,.v md,.r,.n ca,.v md,.r,.c k4,.c a2] (by kernel_rfl)
  ·refine b8 (gr h0 h1 (d+1) [1,2] 2 (by decide) (by decide) (by decide) (d1.less (by lia):D l nums (b+4) s1)) λxs s2 k1 k2 k3 k4=> ?_;exact fin (q:= .sd (.p xs)) (by cases g<;>exact k1) (aab _) k2 k3 λa2=>eR [.c e1,.e cb,.v md,.r,.n ca,.v md,.r,.c k4,.c a2] (by kernel_rfl)
theorem Hi(d:Nat){b g:Nat}{M:Nat}(hM:4<=M)(hg:∀g',g=g'+1->NQ g'<=M)
  (ih:∀g' b σ,g'<g->D l nums (b+NQ g') σ->∃(q:Br) (s':St),(∃c a y n sp,q= .q c a y n sp/\da (g'+1) q/\af P (d+5) 62 [.loc l,.int (g':Nat)] σ=some (qV c a y n sp,s'))/\D l nums b s'/\fL l σ s')
  {σ:St} (hD:D l nums (b+(2*M+13)) σ):
  ∃(q:Br) (s':St),(∃c a y n sp,q= .q c a y n sp/\da (g+1) q/\af P (d+6) 62 [.loc l,.int (g:Nat)] σ=some (qV c a y n sp,s'))/\D l nums b s'/\fL l σ s':=by
 refine cps λab kk=> ?_;have hl:=hD.choose_spec.2.2;refine b8 (dG h0 h1 (d+4) (b:=b+(2*M+12)) hD (n:=6) (by decide)) λw s1 hw d1 x1 e1=> ?_;refine b8 (Kb h0 h1 (d+1) (b:=b+(2*M+8)) (d1.less (aab _)) w) λc s2 oc d2 x2 e2=> ?_;refine b8 (D5 h0 h1 d (b:=b+(2*M+3)) (d2.less (aab _))) λa s3 oa d3 x3 e3=> ?_;have II:=x1.trans (x2.trans x3);have d4:D l nums (b+1+(M+1)+(M+1)) (s3.new (.lst [])):=(d3.less (by simp+arith)).ext (Ext.new _ _);refine PO (Hh h0 h1 d (σ:=σ) (b:=b+1+(M+1)) (g:=g) (M:=M) hM hg (λg' b σ e h=>ih g' b σ (by lia) h) (s:=s3.new (.lst [])) (II.trans (Ext.new s3 _).x) d4 (ls:=s3.n) II.n hl (bY ..) (aap _) (by decide) (some (.int w)) (some (nk c)) (some (nk a)) none (.int 0)) λy g1 s5 y2 oy YV d5 x5 k5 UN=> ?_;obtain⟨f5,e5⟩:=UN;refine PO (Hh h0 h1 d (σ:=σ) (b:=b+1) (g:=g1) (M:=M) hM (λg' e=>aaa (by
   have:g'+1<=g:=e▸YV;obtain⟨k,rfl⟩:∃k,g=g'+1+k:=⟨g -(g'+1),by lia⟩;obtain mono:∀k,NQ g'<=NQ (g'+k):=λk=>by
    induction k with
    |zero=>exact aab _
    |succ k ih=>exact aaa ih (by show NQ (g'+k)<=2*NQ (g'+k)+13;simp+arith)
   exact aaa (mono k) (hg (g'+k) (by simp+arith))) (aab M)) (λg' b σ e h=>ih g' b σ (by lia) h) (s:=s5) x5 d5 (ls:=s3.n) II.n hl f5 k5 (by show 0+1<2;decide) y2 (some (nk c)) (some (nk a)) (some (.int 0)) (.int 1)) λn g2 s6 z2 on VT d6 x6 k6 UN=> ?_
 refine A2 UN λf6 e6=> ?_;have lp:dk 6 (λr s=>dS P (af P (d+5)) (lb 62 0) r s) [.int 0,.int 1] [some (.loc l),some (.int (g:Nat)),some (.int w),some (nk c),some (nk a),some (.loc s3.n),none] (s3.new (.lst []))=some (.next,[some (.loc l),some (.int (g2:Nat)),z2,some (nk c),some (nk a),some (.loc s3.n),some (.int 1)],s6):=
  (aJ (r:=[some (.loc l),some (.int (g:Nat)),some (.int w),some (nk c),some (nk a),some (.loc s3.n),none]) e5).trans (aJ (r:=[some (.loc l),some (.int (g1:Nat)),y2,some (nk c),some (nk a),some (.loc s3.n),some (.int 0)]) e6)
 refine b8 (dG h0 h1 (d+4) (b:=b) d6 (n:=3) (by decide)) λv s7 hv d7 x7 e7=> ?_;obtain i0:bS s6 (.loc s3.n) (.int 0)=some (oC y):=by show(match(s6.f s3.n).eW with |some vs=>_ |none=>_)=_;rw[f6];rfl
 obtain i1:bS s6 (.loc s3.n) (.int 1)=some (oC n):=by show(match(s6.f s3.n).eW with |some vs=>_ |none=>_)=_;rw[f6];rfl
 obtain up:da g n:=by obtain⟨k,rfl⟩:∃k,g=g1+k:=⟨g -g1,by lia⟩;exact on.le k
 obtain i2:∃sp,bS s7 (.tup [.int 1,.int 1,.int 0]) (.int v)=some (IH sp):=by
  obtain Jh:v=0\/v=1\/v=2:=by lia
  rcases Jh with e |e |e<;>subst e
  ·exact⟨true,rfl⟩
  ·exact⟨true,rfl⟩
  ·exact⟨false,rfl⟩
 obtain⟨sp,i2⟩:=i2;obtain f8:freeze (s7.new (.bV xQ [nk c,nk a,oC y,oC n,IH sp])) (.loc s7.n)=(qV c a y n sp,(s7.new (.bV xQ [nk c,nk a,oC y,oC n,IH sp])).set s7.n .dead):=vw (bY ..);refine kk<|jk (.q c a y n sp) ((s7.new (.bV xQ [nk c,nk a,oC y,oC n,IH sp])).set s7.n .dead) ⟨c,a,y,n,sp,rfl,⟨oc,oa,oy,up⟩,?_⟩ (d7.ext ((Ext.new s7 _).set (aab _) _)) (x6.trans (x7.trans ((Ext.new s7 _).set (aab _) _).x))
 exact run [.c e1,.e (e2 (some (.int (g:Nat))) none none none none),.c e3,.r,.r,.l lp,.v i0,.v i1,.c e7,.v i2,.r,.f f8] (by kernel_rfl)
theorem mQ:∀(g g':Nat),g'<=g->∀(d b:Nat) (σ:St),D l nums (b+NQ g') σ->∃(q:Br) (s':St),(∃c a y n sp,q= .q c a y n sp/\da (g'+1) q/\af P (d+6+g) 62 [.loc l,.int (g':Nat)] σ=some (qV c a y n sp,s'))/\D l nums b s'/\fL l σ s'
 |0,g',hg,d,b,σ,h=>by obtain rfl:g'=0:=Nat.le_zero.mp hg;exact Hi h0 h1 d (g:=0) (M:=4) (aab _) (λg' e=>absurd e.symm (adI _)) (λg' b σ e=>absurd e (acK _)) h
 |g+1,0,hg,d,b,σ,h=>by obtain t:=Hi h0 h1 (d+(g+1)) (g:=0) (M:=4) (aab _) (λg' e=>absurd e.symm (adI _)) (λg' b σ e=>absurd e (acK _)) h;exact(show d+6+(g+1)=d+(g+1)+6 by lia)▸t
 |g+1,k+1,hg,d,b,σ,h=>by
  obtain t:=Hi h0 h1 (d+(g+1)) (b:=b) (g:=k+1) (M:=NQ k) (aaa (by decide) (Ru k)) (λg' e=>by cases e;exact aab _) (λYW b σ e h=>by rw[show d+(g+1)+5=d+6+g by simp+arith];exact(mQ g YW (by lia) d b σ h)) h
  exact(show d+6+(g+1)=d+(g+1)+6 by lia)▸t
end
noncomputable abbrev iV(i:Nat):V:= .int (i:Int)
structure TT where
 R:List V
 nm:List V
 E:Nat
 F:Nat
noncomputable def dh(t:List Nat):V:= .tup [.int 1,.str t]
def gJ(s7 fr:Nat):V:= .tup [.int 8,.tup [.tup [.str [112],iV s7,.int 0,.int 0]],.tup [],.tup [],.tup [],.tup [],iV fr]
noncomputable def D6:V:= .tup [.int 4,.int 7,.int 0]
def Kd(E F:Nat)(x:Nm):V:=[.tup [.int 3,.str [97],.int 0],.tup [.int 3,.str [98],.int 0],.tup [.int 4,.int 1,.int 0],.tup [.int 5,iV E,.str [65],.int 1,.int 0],.tup [.int 5,iV F,.str [65],.int 1,.int 0],.tup [.int 5,iV E,.str [66],.str [97],.int 0],.tup [.int 3,.str [97],.int 1],.tup [.int 4,.int 1,.int 1],.tup [.int 5,iV E,.str [65],.int 1,.int 1],.tup [.int 2,.int 0,.int 0],.tup [.int 2,.int 1,.int 0],.tup [.int 2,.int 0,.int 1],.tup [.int 2,.int 1,.int 1],dh (iq 13),dh (iq 14),dh (iq 15),dh (iq 16),dh (iq 17),.none,.none,dh (iq 20),dh (iq 21),dh (iq 22)].getD x .none
noncomputable def yQ(x:Nm):Bool:=x==18 ||x==19
noncomputable def oG(x:Nm):Bool:=x==23 ||x==24
def dg(E F s7 p:Nat)(x:Nm):V:=if yQ x then gJ s7 (if x=18 then 0 else 1)else if oG x then .tup [.int 10,iV p]else Kd E F x
def gu:List V:=[dh (iq 20),dh (iq 21),dh never,dh (iq 15),dh (iq 13),dh (iq 14),dh (iq 16),dh (iq 17),.tup [.int 2,.int 0,.int 0],.tup [.int 2,.int 1,.int 0],dh [111,98,106,101,99,116],.tup [.int 8,.tup [],.tup [],.tup [],.tup [],.tup [],.int 0],.tup [.int 6,.tup [.int 8,.int 9]],dh (iq 22),.tup [.int 2,.int 0,.int 1],.tup [.int 2,.int 1,.int 1]]
structure TT.Ok(τ:TT):Prop where
 fst:∀(i:Nat) (v:V),gu[i]? =some v->τ.R[i]? =some v
 nd:∀(i j:Nat) (v:V),τ.R[i]? =some v->τ.R[j]? =some v->i=j
 tup:∀v∈τ.R,V.isTup v=true
 Mr:∀(i j:Nat) (v:V),τ.nm[i]? =some v->τ.nm[j]? =some v->i=j
 ef:τ.E≠τ.F
structure TT.Le(τ ay:TT):Prop where
 R:∀(i:Nat) (v:V),τ.R[i]? =some v->ay.R[i]? =some v
 nm:∀(i:Nat) (v:V),τ.nm[i]? =some v->ay.nm[i]? =some v
 E:ay.E=τ.E
 F:ay.F=τ.F
theorem TT.Le.refl(τ:TT):τ.Le τ:=⟨λab ai h=>h,λab ai h=>h,rfl,rfl⟩
theorem TT.Le.trans{a b c:TT}(x:a.Le b)(y:b.Le c):a.Le c:=⟨λi v h=>y.R i v (x.R i v h),λi v h=>y.nm i v (x.nm i v h),y.E.trans x.E,y.F.trans x.F⟩
def az(τ:TT)(x:Nm)(t:Nat):Prop:=∃s7 p,τ.R[t]? =some (dg τ.E τ.F s7 p x)/\(yQ x=true->τ.R[s7]? =some D6)/\(oG x=true->τ.nm[p]? =some (nV x))
def dU(ts:List Nat):V:= .tup [.int 6,.tup (ts.map iV)]
def bf(c a y n:Nat)(s:Bool):V:= .tup [.int 16,iV c,iV a,iV y,iV n,.tup [],IH s]
def Ke(ps:List (Nat->Prop))(ts:List Nat):Prop:=(∀i∈ts,∃p∈ps,p i)/\∀p∈ps,∃i∈ts,p i
def gO(τ:TT):List (Nat->Prop)->Nat->Prop
 |[],t=>t=2
 |[p],t=>p t
 |ps,t=>∃ts:List Nat,τ.R[t]? =some (dU ts)/\ts.Pairwise (λx y=>x<y)/\2<=ts.length/\Ke ps ts
mutual
noncomputable def au(τ:TT):Atom->Nat->Prop
 | .n x,t=>az τ x t
 | .cond c a y n s,t=>∃tc ta ty tn,τ.R[t]? =some (bf tc ta ty tn s)/\gO τ (c.map (az τ)) tc/\gO τ (a.map (az τ)) ta/\gO τ (uv τ y) ty/\gO τ (uv τ n) tn
noncomputable def uv(τ:TT):List Atom->List (Nat->Prop)
 |[]=>[]
 |a::r=>au τ a::uv τ r
end
theorem gU(τ:TT):∀l:List Atom,uv τ l=l.map (au τ):=by
 intro v_;induction v_ with
 |nil=>exact rfl
 |cons a r ih=>simp only[uv,ih];rfl
theorem uw(τ:TT)(l:List Nm):l.map (az τ)=uv τ (aR l):=by simp only[gU,aay];exact ack λx ab=>by funext t;simp only[Function.comp,au]
def ar(τ:TT)(l:List Atom)(t:Nat):Prop:=gO τ (l.map (au τ)) t
theorem bH{τ:TT}{c a:List Nm}{y n:List Atom}{s:Bool}{t:Nat}:au τ (.cond c a y n s) t↔∃tc ta ty tn,τ.R[t]? =some (bf tc ta ty tn s)/\ar τ (aR c) tc/\ar τ (aR a) ta/\ar τ y ty/\ar τ n tn:=by simp only[au,uw,uw,gU,gU,gU,gU];rfl
theorem fJ{τ:TT}{a b:Atom}{l:List Atom}{t:Nat}:ar τ (a::b::l) t↔∃ts:List Nat,τ.R[t]? =some (dU ts)/\ts.Pairwise (λx y=>x<y)/\2<=ts.length/\(∀i∈ts,∃c∈a::b::l,au τ c i)/\∀c∈a::b::l,∃i∈ts,au τ c i:=by
 have e:∀ts,Ke ((a::b::l).map (au τ)) ts↔(∀i∈ts,∃c∈a::b::l,au τ c i)/\∀c∈a::b::l,∃i∈ts,au τ c i:=λts=>by
  refine and_congr ?_ ?_
  ·refine forall_congr' λi=>forall_congr' λab=> ?_;constructor
   ·rintro ⟨p,hp,k⟩
    refine ah (aal.mp hp) λc hc e=> ?_;subst e;exact⟨c,hc,k⟩
   ·rintro ⟨c,hc,k⟩;exact⟨_,aan hc,k⟩
  ·constructor
   ·intro h c hc;exact h _ (aan hc)
   ·intro h p hp;refine ah (aal.mp hp) λc hc e=> ?_;subst e;exact h c hc
 exact exists_congr λts=>and_congr_right λab=>and_congr_right λab=>and_congr_right λab=>e ts
theorem gO.mono{τ ay:TT}(x:τ.Le ay){α:Type}{f g:α->Nat->Prop}{l:List α}(h:∀a∈l,∀t,f a t->g a t){t:Nat}(k:gO τ (l.map f) t):gO ay (l.map g) t:=by
 match l,h,k with
 |[],ab,k=>exact k
 |[a],h,k=>exact h a aac t k
 |a::b::r,h,⟨ts,h1,h2,h3,h4,h5⟩=>
  refine⟨ts,x.R _ _ h1,h2,h3,λi hi=> ?_,λp hp=> ?_⟩
  ·refine ah (h4 i hi) λp hp q=> ?_;refine ah ((aal (l:=a::b::r)).mp hp) λc hc e=> ?_;subst e;exact⟨_,aan hc,h c hc i q⟩
  ·refine ah ((aal (l:=a::b::r)).mp hp) λc hc e=> ?_;subst e;refine ah (h5 _ (aan hc)) λi hi q=> ?_;exact⟨i,hi,h c hc i q⟩
theorem az.mono{τ ay:TT}(x:τ.Le ay){n:Nm}{t:Nat}:az τ n t->az ay n t
 |⟨s7,p,h1,h2,h3⟩=>⟨s7,p,by rw[x.E,x.F];exact x.R _ _ h1,λk=>x.R _ _ (h2 k),λk=>x.nm _ _ (h3 k)⟩
mutual
theorem au.mono{τ ay:TT}(x:τ.Le ay):∀(A:Atom) (t:Nat),au τ A t->au ay A t
 | .n n,t,h=>by simp only[au]at h⊢;exact h.mono x
 | .cond c a y n s,t,h=>by simp only[au]at h⊢;refine jI h λtc ta ty tn h1 h2 h3 h4 h5=> ?_;rw[gU]at h4 h5⊢;rw[gU];exact⟨tc,ta,ty,tn,x.R _ _ h1,h2.mono x λab ai aD=>az.mono x,h3.mono x λab ai aD=>az.mono x,h4.mono x (rN x y),h5.mono x (rN x n)⟩
theorem rN{τ ay:TT}(x:τ.Le ay):∀(l:List Atom),∀a∈l,∀t,au τ a t->au ay a t
 |[],ab,h,ai,aD=>nomatch h
 |b::r,a,h,t,k=>by
  rcases aam.mp h with e |m
  ·rw[e]at k⊢;exact au.mono x b t k
  ·exact rN x r a m t k
end
theorem ar.mono{τ ay:TT}(x:τ.Le ay){l:List Atom}{t:Nat}(h:ar τ l t):ar ay l t:=gO.mono x (λa ab t k=>au.mono x a t k) h
noncomputable def kd:V->Int
 | .tup (.int k::ab)=>k
 |_=> -1
noncomputable def sg:V->List V
 | .tup (.int 5::ab::r)=> .int 5::r
 | .tup (.int 8::ab::r)=> .int 8::r
 | .tup (.int 10::ab)=>[.int 10]
 | .tup r=>r
 |_=>[]
section
variable (E F s7 p Hj p':Nat)
def YX:List (List V):=[[.int 3,.str [97],.int 0],[.int 3,.str [98],.int 0],[.int 4,.int 1,.int 0],[.int 5,.str [65],.int 1,.int 0],[.int 5,.str [65],.int 1,.int 0],[.int 5,.str [66],.str [97],.int 0],[.int 3,.str [97],.int 1],[.int 4,.int 1,.int 1],[.int 5,.str [65],.int 1,.int 1],[.int 2,.int 0,.int 0],[.int 2,.int 1,.int 0],[.int 2,.int 0,.int 1],[.int 2,.int 1,.int 1],[.int 1,nV 13],[.int 1,nV 14],[.int 1,nV 15],[.int 1,nV 16],[.int 1,nV 17],[.int 8,.tup [],.tup [],.tup [],.tup [],.int 0],[.int 8,.tup [],.tup [],.tup [],.tup [],.int 1],[.int 1,nV 20],[.int 1,nV 21],[.int 1,nV 22],[.int 10],[.int 10]]
def Pu(x:Nm):List V:=YX.getD x []
noncomputable def YY:List Int:=[3,3,4,5,5,5,3,4,5,2,2,2,2,1,1,1,1,1,8,8,1,1,1,10,10]
def wo(x:Nm):Int:=YY.getD x 0
theorem zZ:∀x:Nm,sg (dg E F s7 p x)=Pu x:=cP (by kernel_rfl)
theorem rO:∀x:Nm,kd (dg E F s7 p x)=wo x:=cP (by kernel_rfl)
theorem jx:∀x:Nm,wo x≠6/\wo x≠16:=by decide
noncomputable def Hk(x y:Nm):Bool:=x==y ||(x==3 &&y==4) ||(x==4 &&y==3) ||(x==23 &&y==24) ||(x==24 &&y==23)
theorem Oz:iv.map (λx=>iv.map λy=>V.iS (Pu x) (Pu y))=iv.map λx=>iv.map λy=>Hk x y:=by kernel_rfl
theorem Kf(x y:Nm)(h:Pu x=Pu y):Hk x y=true:=by rw[<-(cP (cP Oz x) y),(wK _ _).mpr h]
theorem Hl:iv.map (λx=>V.iS (Pu x) (sg (dh never)))=iv.map λab=>false:=by kernel_rfl
theorem ux(x:Nm):dg E F s7 p x≠dh never:=λh=>by obtain h1:=cP Hl x;rw[<-zZ E F s7 p x,h]at h1;cases h1
theorem Ho:∀x:Nm,yQ x=true->oG x=false:=by decide
end
section
variable {τ:TT}(ok:τ.Ok)
include ok
theorem rP{x:Nm}{s7 p Hj p':Nat}(o:yQ x=true->τ.R[s7]? =some D6)(o':yQ x=true->τ.R[Hj]? =some D6)(q:oG x=true->τ.nm[p]? =some (nV x))(q':oG x=true->τ.nm[p']? =some (nV x)):dg τ.E τ.F s7 p x=dg τ.E τ.F Hj p' x:=by
 unfold dg;cases ho:yQ x
 ·cases hp:oG x
  ·rfl
  ·obtain e:=ok.Mr _ _ _ (q hp) (q' hp);subst e;rfl
 ·obtain e:=ok.nd _ _ _ (o ho) (o' ho);subst e;rfl
theorem gH{x:Nm}{t t':Nat}:az τ x t->az τ x t'->t=t'
 |⟨s7,p,h1,h2,h3⟩,⟨Hj,p',k1,k2,k3⟩=>ok.nd _ _ _ h1 (by rw[rP ok h2 k2 h3 k3];exact k1)
theorem fj{x y:Nm}{t:Nat}:az τ x t->az τ y t->x=y
 |⟨s7,p,h1,h2,h3⟩,⟨Hj,p',k1,k2,k3⟩=>by
  rw[h1]at k1;obtain e:dg τ.E τ.F s7 p x=dg τ.E τ.F Hj p' y:=aad k1;obtain s:=Kf x y (by simp only[<-zZ τ.E τ.F s7 p x,<-zZ τ.E τ.F Hj p' y,e]);simp only[Hk,abd,aaY,beq_iff_eq]at s;rcases s with(((s |⟨a,b⟩) |⟨a,b⟩) |⟨a,b⟩) |⟨a,b⟩
  ·exact s
  ·subst a;subst b;obtain e:V.tup [.int 5,iV τ.E,.str [65],.int 1,.int 0]=V.tup [.int 5,iV τ.F,.str [65],.int 1,.int 0]:=e;exact absurd (aaO (by simpa using e)) ok.ef
  ·subst a;subst b;have e:V.tup [.int 5,iV τ.F,.str [65],.int 1,.int 0]=V.tup [.int 5,iV τ.E,.str [65],.int 1,.int 0]:=e;exact absurd (aaO (by simpa using e)) ok.ef.symm
  ·subst a;subst b;obtain e:V.tup [.int 10,iV p]=V.tup [.int 10,iV p']:=e;have:p=p':=aaO (by simpa using e);subst this;have:=(h3 rfl).symm.trans (k3 rfl);exact absurd this (by decide)
  ·subst a;subst b;have e:V.tup [.int 10,iV p]=V.tup [.int 10,iV p']:=e;obtain this:p=p':=aaO (by simpa using e);subst this;have:=(h3 rfl).symm.trans (k3 rfl);exact absurd this (by decide)
end
theorem rQ{τ:TT}{A:Atom}{t:Nat}(h:au τ A t):∃v,τ.R[t]? =some v/\kd v≠6/\v≠dh never:=by
 cases A with
 |n x=>refine eO h λs7 p h1 ab=> ?_;exact iD _ h1 (by rw[rO];exact(jx x).1) (ux _ _ _ _ x)
 |cond c a y n s=>refine nq (bH.mp h) λtc ta ty tn h ab=> ?_;exact iD _ h (by show(16:Int)≠6;decide) (by intro e;cases e)
theorem Kg{l l':List Nat}(h:l.Pairwise (λx y=>x<y))(h':l'.Pairwise (λx y=>x<y))(k:∀b,b∈l↔b∈l'):l=l':=by
 obtain e:∀{l:List Nat},l.Pairwise (λx y=>x<y)->oh (λn=>[n]) l:=λh=>h.imp λ{a b} q=>by show(if a<b then true else if b<a then false else jD [] [])=true;rw[if_pos q]
 exact kA (e h) (e h') k
theorem gO.func{τ:TT}(ok:τ.Ok){α:Type}{f:α->Nat->Prop}{l:List α}(h:∀a∈l,∀t t',f a t->f a t'->t=t'){t t':Nat}(k:gO τ (l.map f) t)(k':gO τ (l.map f) t'):t=t':=by
 match l,h,k,k' with
 |[],ab,k,k'=>exact k.trans k'.symm
 |[a],h,k,k'=>exact h a aac t t' k k'
 |a::b::r,h,⟨ts,h1,h2,h3,h4,h5⟩,⟨ts',k1,k2,k3,k4,k5⟩=>
  obtain sub:∀{us Pf:List Nat},Ke ((a::b::r).map f) us->Ke ((a::b::r).map f) Pf->∀i∈us,i∈Pf:=λu u' i hi=>by refine ah (u.1 i hi) λp hp q=> ?_;refine ah (u'.2 p hp) λj hj q'=> ?_;refine ah (aal.mp hp) λc hc e=> ?_;subst e;exact(h c hc i j q q')▸hj
  have e:=Kg h2 k2 λi=>⟨sub ⟨h4,h5⟩ ⟨k4,k5⟩ i,sub ⟨k4,k5⟩ ⟨h4,h5⟩ i⟩;subst e;exact ok.nd _ _ _ h1 k1
mutual
theorem i7{τ:TT}(ok:τ.Ok):∀(A:Atom) (t t':Nat),au τ A t->au τ A t'->t=t'
 | .n x,t,t',h,h'=>by simp only[au]at h h';exact gH ok h h'
 | .cond c a y n s,t,t',h,h'=>by simp only[au,gU,gU]at h h';refine jI h λtc ta ty tn h1 h2 h3 h4 h5=> ?_;refine jI h' λB7 Rv Pw Px k1 k2 k3 k4 k5=> ?_;obtain e2:tc=B7:=gO.func (f:=az τ) ok (λab ai aD bO=>gH ok) h2 k2;obtain e3:ta=Rv:=gO.func (f:=az τ) ok (λab ai aD bO=>gH ok) h3 k3;obtain e4:ty=Pw:=gO.func ok (vB ok y) h4 k4;obtain e5:tn=Px:=gO.func ok (vB ok n) h5 k5;subst e2;subst e3;subst e4;subst e5;exact ok.nd _ _ _ h1 k1
theorem vB{τ:TT}(ok:τ.Ok):∀(l:List Atom),∀a∈l,∀t t',au τ a t->au τ a t'->t=t'
 |[],ab,h,ai,aD=>nomatch h
 |b::r,a,h,t,t'=>by
  rcases aam.mp h with e |m
  ·rw[e];exact i7 ok b t t'
  ·exact vB ok r a m t t'
end
mutual
noncomputable def Cn:Atom->Prop
 | .n ab=>True
 | .cond c a y n ab=>oh txt (aR c)/\oh txt (aR a)/\oh txt y/\oh txt n/\Ms y/\Ms n
noncomputable def Ms:List Atom->Prop
 |[]=>True
 |a::r=>Cn a/\Ms r
end
theorem dC:∀{l:List Atom},Ms l↔∀b∈l,Cn b:=by
 intro v_;induction v_ with
 |nil=>simp[Ms]
 |cons a r ih=>simp only[Ms,ih];simp
theorem mR{τ:TT}(ok:τ.Ok){l l':List Atom}(hl:oh txt l)(tH:oh txt l')(h:∀a∈l,∀b∈l',∀t,au τ a t->au τ b t->a=b){t:Nat}(k:ar τ l t)(k':ar τ l' t):l=l':=by
 have r2:=ok.fst 2 _ rfl;obtain nu:∀{a:Atom} {t:Nat} {ts:List Nat},au τ a t->τ.R[t]? =some (dU ts)->False:=λk q=>by refine dw (rQ k) λv h1 h2 ab=> ?_;rw[q]at h1;cases h1;exact h2 rfl
 have nn:∀{a:Atom},au τ a 2->False:=λk=>by refine dw (rQ k) λv h1 ab h2=> ?_;rw[r2]at h1;cases h1;exact h2 rfl
 have un:∀{ts:List Nat},τ.R[2]? =some (dU ts)->False:=λq=>by rw[r2]at q;cases q
 match l,l',hl,tH,h,k,k' with
 |[],[],ab,ai,aD,bO,fc=>rfl
 |[],[b],ab,ai,aD,k,k'=>subst k;exact(nn k').elim
 |[],ab::ai::aD,bO,fc,ny,k,k'=>subst k;obtain⟨ts,q,_⟩:=k';exact(un q).elim
 |[a],[],ab,ai,aD,k,k'=>subst k';exact(nn k).elim
 |ab::ai::aD,[],bO,fc,ny,k,k'=>subst k';obtain⟨ts,q,_⟩:=k;exact(un q).elim
 |[a],[b],ab,ai,h,k,k'=>rw[h a aac b aac t k k']
 |[a],ab::ai::aD,bO,fc,ny,k,k'=>obtain⟨ts,q,_⟩:=k';exact(nu k q).elim
 |ab::ai::aD,[b],bO,fc,ny,k,k'=>obtain⟨ts,q,_⟩:=k;exact(nu k' q).elim
 |a::b::r,a'::b'::r',hl,tH,h,k,k'=>
  refine jH (fJ.mp k) λts q1 q2 q3 q4 q5=> ?_;refine jH (fJ.mp k') λus u1 u2 u3 u4 u5=> ?_;rw[q1]at u1;obtain e:ts=us:=by
   obtain this:ts.map iV=us.map iV:=by obtain this:=aad u1;simp only[dU,V.tup.injEq,acw,true_and,and_true]at this;exact this
   exact aew (λx y h=>aaO (by simpa using h)) |>.mp this
  subst e;refine kA hl tH λc=>⟨λhc=> ?_,λhc=> ?_⟩
  ·refine ah (q5 c hc) λi hi w=> ?_;refine ah (u4 i hi) λd hd w'=> ?_;exact(h c hc d hd i w w')▸hd
  ·refine ah (u5 c hc) λi hi w=> ?_;refine ah (q4 i hi) λd hd w'=> ?_;simp only[<-h d hd c hc i w' w];exact hd
theorem Kh{s s':Bool}(h:IH s=IH s'):s=s':=by cases s<;>cases s'<;>first |rfl |cases h
mutual
theorem mS{τ:TT}(ok:τ.Ok):∀(A B:Atom) (t:Nat),Cn A->Cn B->au τ A t->au τ B t->A=B
 | .n x,.n y,t,ab,ai,h,h'=>by simp only[au]at h h';rw[fj ok h h']
 | .n x,.cond c a y n s,t,ab,ai,h,h'=>by refine eO h λs7 p h1 ab=> ?_;refine nq (bH.mp h') λtc ta ty tn k1 ab=> ?_;rw[h1]at k1;obtain this:=congrArg kd (aad k1);rw[rO]at this;exact absurd this (jx x).2
 | .cond c a y n s,.n x,t,ab,ai,h',h=>by refine eO h λs7 p h1 ab=> ?_;refine nq (bH.mp h') λtc ta ty tn k1 ab=> ?_;rw[h1]at k1;obtain this:=congrArg kd (aad k1);rw[rO]at this;exact absurd this (jx x).2
 | .cond c a y n s,.cond c' a' y' n' s',t,H,H',h,h'=>by
  refine jI (bH.mp h) λtc ta ty tn h1 h2 h3 h4 h5=> ?_;refine jI (bH.mp h') λB7 Rv Pw Px k1 k2 k3 k4 k5=> ?_;rw[h1]at k1;obtain e:=aad k1;simp only[bf,V.tup.injEq,acw,V.int.injEq,Int.natCast_inj,true_and,and_true]at e;obtain⟨e1,e2,e3,e4,e5⟩:=e;subst e1;subst e2;subst e3;subst e4;refine A6 H λH1 H2 H3 H4 H5 H6=> ?_;refine A6 H' λK1 K2 K3 K4 K5 K6=> ?_;obtain nn:∀l l':List Nm,∀a∈aR l,∀b∈aR l',∀t,au τ a t->au τ b t->a=b:=λl l' a ha b hb t h h'=>by refine ah (aal.mp ha) λx ab e=> ?_;refine ah (aal.mp hb) λy ab e'=> ?_;subst e;subst e';rw[fj ok h h']
  simp only[o6 (mR ok H1 K1 (nn _ _) h2 k2),o6 (mR ok H2 K2 (nn _ _) h3 k3),mR ok H3 K3 (λa ha b hb t=>vC ok y H5 a ha b t (dC.mp K5 b hb)) h4 k4,mR ok H4 K4 (λa ha b hb t=>vC ok n H6 a ha b t (dC.mp K6 b hb)) h5 k5,Kh e5]
theorem vC{τ:TT}(ok:τ.Ok):∀(l:List Atom),Ms l->∀a∈l,∀(b:Atom) (t:Nat),Cn b->au τ a t->au τ b t->a=b
 |[],ab,ai,h,aD,bO=>nomatch h
 |c::r,H,a,h,b,t=>by
  rcases aam.mp h with e |m
  ·exact e▸mS ok c b t H.1
  ·exact vC ok r H.2 a m b t
end
theorem bP{σ:St}{l c a:Nat}{fs:List (Nat×V)}{v:V}(h:σ.f l= .ins c fs)(e:yV fs a=some v):aE σ (.loc l) a=some v:=by show om (σ.f l).me _=_;rw[h];exact e
noncomputable def OA(l:Nat):List (Nat×V):=[(0,.loc (l+1)),(1,.loc (l+2)),(2,.loc (l+3)),(3,.loc (l+4)),(4,.loc (l+5)),(5,.loc (l+6)),(6,.loc (l+7)),(7,.loc (l+8)),(8,.int 0),(9,.int 0)]
def nums(n:Nat):List V:=(aba n).map iV
inductive Tb(l:Nat)(τ:TT)(σ:St):Prop
 |mk(ins:σ.f l= .ins 0 (OA l))(rows:σ.f (l+1)= .lst τ.R)(idx:σ.f (l+2)= .bV τ.R (nums τ.R.length))(bnd:σ.f (l+4)= .lst (abz τ.nm.length (.int (-1))))(tX:σ.f (l+5)= .lst (abz τ.nm.length (.int (-1))))(UO:σ.f (l+6)= .lst τ.nm)(lt:l+8<σ.n)(ok:τ.Ok)
structure jb(l:Nat)(σ aq:St):Prop where
 n:σ.n<=aq.n
 f:∀k,k<σ.n->k≠l+1->k≠l+2->aq.f k=σ.f k
theorem jb.refl(l:Nat)(σ:St):jb l σ σ:=⟨aab _,λab ai aD bO=>rfl⟩
theorem jb.trans{l:Nat}{a b c:St}(x:jb l a b)(y:jb l b c):jb l a c:=⟨aaa x.n y.n,λk h e g=>(y.f k (aak h x.n) e g).trans (x.f k h e g)⟩
theorem Ext.t{l:Nat}{a b:St}(x:Ext a b):jb l a b:=⟨x.n,λk h ab ai=>x.f k h⟩
theorem jb.setB{l:Nat}{σ aq:St}(x:jb l σ aq){k:Nat}(h:σ.n<=k)(o:O):jb l σ (aq.set k o):=⟨x.n,λj hj e g=>(if_neg (aaF (aak hj h))).trans (x.f j hj e g)⟩
theorem Tb.ext{l:Nat}{τ:TT}{σ aq:St}(T:Tb l τ σ)(x:Ext σ aq):Tb l τ aq:=by obtain h:=T.7;exact⟨(x.f _ (by lia)).trans T.1,(x.f _ (by lia)).trans T.2,(x.f _ (by lia)).trans T.3,(x.f _ (by lia)).trans T.4,(x.f _ (by lia)).trans T.5,(x.f _ (by lia)).trans T.6,aak h x.n,T.8⟩
theorem Tb.set{l:Nat}{τ:TT}{σ:St}(T:Tb l τ σ){k:Nat}(h:l+8<k)(o:O):Tb l τ (σ.set k o):=by obtain e:∀j,j<=l+8->(σ.set k o).f j=σ.f j:=λj hj=>if_neg (by lia);exact⟨(e _ (aao _ _)).trans T.1,(e _ (by simp+arith)).trans T.2,(e _ (by simp+arith)).trans T.3,(e _ (by simp+arith)).trans T.4,(e _ (by simp+arith)).trans T.5,(e _ (by simp+arith)).trans T.6,T.7,T.8⟩
def Cr(g:Nat)(τ:TT):Prop:=τ.R.length+g+2000<=big
theorem Cr.le{g g':Nat}{τ:TT}(k:Cr g τ)(h:g'<=g):Cr g' τ:=aaa (aat (aav h _) _) k
theorem Cr.lt{g:Nat}{τ:TT}(k:Cr g τ){n:Nat}(h:n<2000):τ.R.length+n<big:=aak (Nat.add_lt_add_of_le_of_lt (aao _ g) h) k
theorem Cr.as{a b r:Nat}{τ:TT}(k:Cr (a+b+r) τ):Cr (a+(b+r)) τ:=(abc ..)▸k
inductive wq(l:Nat)(τ:TT)(σ:St)(ay:TT)(aq:St):Prop
 |mk(tb:Tb l ay aq)(le:τ.Le ay)(ext:jb l σ aq)(nm:ay.nm=τ.nm)
theorem wq.refl{l:Nat}{τ:TT}{σ:St}(T:Tb l τ σ):wq l τ σ τ σ:=⟨T,TT.Le.refl τ,jb.refl l σ,rfl⟩
theorem wq.trans{l:Nat}{τ ay xV:TT}{σ aq xW:St}(x:wq l τ σ ay aq)(y:wq l ay aq xV xW):wq l τ σ xV xW:=⟨y.1,x.2.trans y.2,x.3.trans y.3,y.4.trans x.4⟩
theorem wq.oH{l:Nat}{τ:TT}{σ aq:St}(T:Tb l τ σ)(x:Ext σ aq):wq l τ σ τ aq:=⟨T.ext x,TT.Le.refl τ,x.t,rfl⟩
def Pg(l:Nat)(τ:TT)(σ:St)(K:TT->Nat->Prop)(r:Nat)(x:Option (V×St)):Prop:=∃t ay aq,wq l τ σ ay aq/\K ay t/\Cr r ay/\x=some (iV t,aq)
theorem Pg.el{l r:Nat}{τ:TT}{σ:St}{K:TT->Nat->Prop}{x:Option (V×St)}{G:Prop}(z:Pg l τ σ K r x)(k:∀t ay aq,wq l τ σ ay aq->K ay t->Cr r ay->x=some (iV t,aq)->G):G:=g9 z k
theorem Pg.mk{l r t:Nat}{τ ay:TT}{σ aq:St}{K:TT->Nat->Prop}{x:Option (V×St)}(q:wq l τ σ ay aq)(k:K ay t)(c:Cr r ay)(e:x=some (iV t,aq)):Pg l τ σ K r x:=⟨t,ay,aq,q,k,c,e⟩
def Row(row:V)(τ:TT)(t:Nat):Prop:=τ.R[t]? =some row
def Ty(A:List Atom)(τ:TT)(t:Nat):Prop:=ar τ A t
def Na(x:Nm)(τ:TT)(t:Nat):Prop:=az τ x t
section
variable {l:Nat}{τ:TT}{σ:St}(T:Tb l τ σ)
include T
theorem Tb.a0:aE σ (.loc l) 0=some (.loc (l+1)):=bP T.1 rfl
theorem Tb.a1:aE σ (.loc l) 1=some (.loc (l+2)):=bP T.1 rfl
theorem Tb.a3:aE σ (.loc l) 3=some (.loc (l+4)):=bP T.1 rfl
theorem Tb.a4:aE σ (.loc l) 4=some (.loc (l+5)):=bP T.1 rfl
theorem Tb.a5:aE σ (.loc l) 5=some (.loc (l+6)):=bP T.1 rfl
theorem Tb.at{t:Nat}{row:V}(h:τ.R[t]? =some row):bS σ (.loc (l+1)) (iV t)=some row:=by show(match(σ.f (l+1)).eW with |some vs=>_ |none=>_)=_;exact T.2▸h
theorem Tb.sort{row:V}(h:V.isTup row=true):bM (row::τ.R)=true:=by
 unfold bM;obtain this:(row::τ.R).all V.isTup=true:=by simp only[abe,h];exact aas.mpr T.8.tup
 simp only[this,ads]
theorem Tb.isin{row:V}(h:V.isTup row=true):aS σ .isin row (.loc (l+2))=some (τ.R.any λk=>V.beq k row):=by show(match(σ.f (l+2)).eW with |some vs=>_ |none=>om (σ.f (l+2)).gP λp=>og (bM (row::p.1)) (some (p.1.any (λk=>V.beq k row))))=_;exact T.3▸b7 (T.sort h)
omit T in
theorem xX:∀{ks:List V} {n i:Nat} {row:V},(∀(i j:Nat) (v:V),ks[i]? =some v->ks[j]? =some v->i=j)->ks[i]? =some row->bx ks ((List.range' n ks.length).map iV) row=some (iV (n+i))
 |[],ab,ai,aD,bO,h=>nomatch h
 |k::ks,n,0,row,ab,h=>by cases h;show(if V.beq k k=true then some (iV n)else _)=_;rw[(beq_iff k k).mpr rfl];rfl
 |k::ks,n,i+1,row,nd,h=>by
  obtain ne:V.beq k row=false:=by
   cases q:V.beq k row
   ·rfl
   ·obtain e:=(beq_iff k row).mp q;exact absurd (nd 0 (i+1) row (congrArg _ e) h) (by lia)
  show(if V.beq k row=true then _ else bx ks ((List.range' (n+1) ks.length).map iV) row)=_;rw[ne,xX (λi j v h h'=>acm (nd (i+1) (j+1) v h h')) (n:=n+1) h,aeF];rfl
omit T in
theorem oJ:∀{ks vs:List V} {row:V},(∀k∈ks,k≠row)->bx ks vs row=none
 |[],ab,ai,aD=>by cases ‹List V›<;>rfl
 |ab::ai,[],aD,bO=>rfl
 |k::ks,v::vs,row,h=>by
  have ne:V.beq k row=false:=by
   cases q:V.beq k row
   ·rfl
   ·exact absurd ((beq_iff k row).mp q) (h k aac)
  show(if V.beq k row=true then _ else bx ks vs row)=_;rw[ne,if_neg (by decide),oJ λj hj=>h j (aaf _ hj)]
omit T in
theorem mT:∀{ks vs:List V} {x y:V},ks.length=vs.length->(∀k∈ks,k≠x)->putK ks vs x y=(ks++[x],vs++[y])
 |[],[],ab,ai,aD,bO=>rfl
 |k::ks,v::vs,x,y,h,n=>by
  obtain ne:V.beq k x=false:=by
   cases q:V.beq k x
   ·rfl
   ·exact absurd ((beq_iff k x).mp q) (n k aac)
  show(if V.beq k x=true then _ else _)=_;rw[ne,mT (acm h) λj hj=>n j (aaf _ hj)];rfl
theorem Tb.find{t:Nat}{row:V}(h:τ.R[t]? =some row):bx τ.R (nums τ.R.length) row=some (iV t):=by obtain this:=xX (n:=0) T.8.nd h;rw[aby,<-List.range_eq_range']at this;exact this
omit T in
theorem dR{σ:St}{k:Nat}{ks vs:List V}{i v:V}(h:σ.f k= .bV ks vs)(hs:bM (i::ks)=true)(hf:bx ks vs i=some v):bS σ (.loc k) i=some v:=by
 cases i with
 |str s=>show(match(σ.f k).eW with |some vs=>_ |none=>om (σ.f k).gP λp=>og (bM (.str s::p.1)) (bx p.1 p.2 (.str s)))=_;exact h▸(b7 hs).trans hf
 |int s=>show(match(σ.f k).eW with |some vs=>_ |none=>om (σ.f k).gP λp=>og (bM (.int s::p.1)) (bx p.1 p.2 (.int s)))=_;exact h▸(b7 hs).trans hf
 |tup s=>show(match(σ.f k).eW with |some vs=>_ |none=>om (σ.f k).gP λp=>og (bM (.tup s::p.1)) (bx p.1 p.2 (.tup s)))=_;exact h▸(b7 hs).trans hf
 |_=>unfold bM at hs;simp[abe,V.isInt,V.isStr,V.isTup]at hs
theorem Tb.Rw{t:Nat}{row:V}(h:τ.R[t]? =some row):bS σ (.loc (l+2)) row=some (iV t):=dR T.3 (T.sort (T.8.tup row (abk h))) (T.find h)
theorem oK(d:Nat){t:Nat}{row:V}(h:τ.R[t]? =some row):af P (d+1) 74 [.loc l,row] σ=some (iV t,σ):=by obtain h1:=T.a1;obtain h2:=T.isin (T.8.tup row (abk h));obtain this:(τ.R.any λk=>V.beq k row)=true:=abn.mpr ⟨row,abk h,(beq_iff _ _).mpr rfl⟩;simp only[this]at h2;exact run [.v h1,.b h2,.v h1,.v (T.Rw h),.r] (by kernel_rfl)
omit T in
theorem vD{s:St}{k:Nat}{vs:List V}(h:s.f k= .lst vs):sX s .len (.loc k)=some (iV vs.length,s):=by show om (match(s.f k).eW with |some vs=>some vs.length |none=>_) _=_;exact h▸rfl
omit T in
theorem B8(d:Nat){σ:St}{l:Nat}{R:List V}(hi:σ.f l= .ins 0 (OA l))(hr:σ.f (l+1)= .lst R)(hx:σ.f (l+2)= .bV R (nums R.length))(ht:R.all V.isTup=true){row:V}(h1:V.isTup row=true)(WI:∀k∈R,k≠row)(hb:R.length+1<big):
  af P (d+1) 74 [.loc l,row] σ=some (iV R.length,(σ.set (l+1) (.lst (R++[row]))).set (l+2) (.bV (R++[row]) (nums (R.length+1)))):=by
 obtain so:bM (row::R)=true:=by unfold bM;simp only[show(row::R).all V.isTup=true by simp only[abe,h1,ht];rfl,ads]
 obtain hn:(R.any λk=>V.beq k row)=false:=abB.mpr λq=>ah (abn.mp q) λk hk e=>WI k hk ((beq_iff _ _).mp e);obtain a1:aE σ (.loc l) 1=some (.loc (l+2)):=bP hi rfl;obtain a0:aE σ (.loc l) 0=some (.loc (l+1)):=bP hi rfl;obtain h2:aS σ .isin row (.loc (l+2))=some false:=by show(match(σ.f (l+2)).eW with |some vs=>_ |none=>om (σ.f (l+2)).gP λp=>og (bM (row::p.1)) (some (p.1.any (λk=>V.beq k row))))=_;exact hx▸(b7 so).trans (congrArg some hn)
 obtain h6:cX (af P d) σ .append 0 (.loc (l+1)) [row]=some (.none,σ.set (l+1) (.lst (R++[row]))):=iA hr hb _;obtain e1:∀j,j≠l+1->(σ.set (l+1) (.lst (R++[row]))).f j=σ.f j:=λj hj=>if_neg hj;obtain h7:aE (σ.set (l+1) (.lst (R++[row]))) (.loc l) 1=some (.loc (l+2)):=bP ((e1 l (by simp+arith)).trans hi) rfl;obtain h8:cL (σ.set (l+1) (.lst (R++[row]))) (.loc (l+2)) row (iV R.length)=some ((σ.set (l+1) (.lst (R++[row]))).set (l+2) (.bV (R++[row]) (nums (R.length+1)))):=by
  show(match(σ.set (l+1) (.lst (R++[row]))).f (l+2)with | .lst vs=>_ | .bV ks vs=>_ |_=>_)=_;rw[e1 _ (by simp+arith),hx];refine(b7 (by simp only[so,decide_eq_true hb];rfl)).trans ?_;rw[mT (by simp only[nums,aae,abp]) WI];obtain this:nums (R.length+1)=nums R.length++[iV R.length]:=by simp only[nums,List.range_succ,aaG];rfl
  rw[this]
 exact run [.v a1,.b h2,.v a0,.c (vD hr),.v a0,.n (jY hr P),.c h6,.v h7,.s h8,.r] (by kernel_rfl)
omit T in
theorem qh{α:Type}{l:List α}{x v:α}{i:Nat}(h:(l++[x])[i]? =some v):l[i]? =some v\/(i=l.length/\x=v):=by
 rcases Nat.lt_trichotomy i l.length with e |e |e
 ·exact .inl ((abU e).symm.trans h)
 ·rw[abQ (abD e.symm),e,aed]at h;exact .inr ⟨e,aad h⟩
 ·rw[ace (by rw[aah];exact e)]at h;cases h
omit T in
theorem Cb{l:List V}{x:V}(h:∀(i j:Nat) (v:V),l[i]? =some v->l[j]? =some v->i=j)(n:∀k∈l,k≠x)(i j:Nat)(v:V)(a:(l++[x])[i]? =some v)(b:(l++[x])[j]? =some v):i=j:=
 (qh a).elim (λa=>(qh b).elim (h i j v a) λb=>absurd b.2.symm (n v (abk a))) λa=>(qh b).elim (λb=>absurd a.2.symm (n v (abk b))) λb=>a.1.trans b.1.symm
omit T in
theorem Aa{α:Type}{l:List α}{x v:α}{i:Nat}(h:l[i]? =some v):(l++[x])[i]? =some v:=(abU (abg.mp h).1).trans h
theorem Ki(d:Nat){row:V}(hr:V.isTup row=true)(hn:∀k∈τ.R,k≠row)(hb:τ.R.length+1<big):
  ∃aq,wq l τ σ {τ with R:=τ.R++[row]} aq/\af P (d+1) 74 [.loc l,row] σ=some (iV τ.R.length,aq):=by
 refine cq ((σ.set (l+1) (.lst (τ.R++[row]))).set (l+2) (.bV (τ.R++[row]) (nums (τ.R.length+1)))) ⟨⟨?_,?_,?_,?_,?_,?_,T.7,?_⟩,⟨λi v h=> ?_,λab ai h=>h,rfl,rfl⟩,⟨aab _,λk ab e g=>(if_neg g).trans (if_neg e)⟩,rfl⟩ ?_
 ·exact(if_neg (by simp+arith)).trans ((if_neg (by simp+arith)).trans T.1)
 ·exact(if_neg (by simp+arith)).trans (if_pos rfl)
 ·show(if l+2=l+2 then O.bV (τ.R++[row]) (nums (τ.R.length+1))else _)=_;rw[if_pos rfl,aah];rfl
 ·exact(if_neg (by simp+arith)).trans ((if_neg (by simp+arith)).trans T.4)
 ·exact(if_neg (by simp+arith)).trans ((if_neg (by simp+arith)).trans T.5)
 ·exact(if_neg (by simp+arith)).trans ((if_neg (by simp+arith)).trans T.6)
 ·exact⟨λi v h=>Aa (T.8.fst i v h),Cb T.8.nd hn,λv hv=>(aaz.mp hv).elim (T.8.tup v) λm=>(aag.mp m)▸hr,T.8.Mr,T.8.ef⟩
 ·exact Aa h
 ·exact B8 d T.1 T.2 T.3 (aas.mpr T.8.tup) hr hn hb
theorem gV(d:Nat){row:V}(hr:V.isTup row=true){r:Nat}(c:Cr (1+r) τ):Pg l τ σ (Row row) r (af P (d+1) 74 [.loc l,row] σ):=by
 by_cases h:row∈τ.R
 ·exact pE (adl h) λt ht=> .mk (.refl T) ht (c.le (aaj ..)) (oK T d ht)
 ·refine ah (Ki T d hr (λk hk q=>h (q▸hk)) (c.lt (by decide))) λaq p e=> .mk p ?_ ?_ e
  ·exact(abQ (aab _)).trans (by rw[aed];rfl)
  ·show(τ.R++[row]).length+r+2000<=big;rw[aah,abc τ.R.length];exact c
end
def Rx:Atom->Int
 | .n x=>wo x
 |_=>16
def kT:List Atom->Int
 |[]=>1
 |[a]=>Rx a
 |_=>6
theorem jd(E F s7 p:Nat)(σ:St):∀x:Nm,bS σ (dg E F s7 p x) (.int 0)=some (.int (wo x)):=cP (by kernel_rfl)
theorem kI{τ:TT}{A:Atom}{t:Nat}(h:au τ A t)(σ:St):∃v,τ.R[t]? =some v/\bS σ v (.int 0)=some (.int (Rx A)):=by
 cases A with
 |n x=>refine eO h λs7 p h1 ab=> ?_;exact cq _ h1 (jd _ _ _ _ σ x)
 |cond c a y n s=>refine nq (bH.mp h) λtc ta ty tn h ab=> ?_;exact cq _ h rfl
theorem Cc(A:Atom):Rx A≠6:=by cases A with |n x=>exact(jx x).1 |cond=>exact(by decide:(16:Int)≠6)
theorem gw{τ:TT}(ok:τ.Ok){As:List Atom}{t:Nat}(h:ar τ As t)(σ:St):∃v,τ.R[t]? =some v/\bS σ v (.int 0)=some (.int (kT As)):=by
 match As,h with
 |[],h=>cases h;exact cq _ (ok.fst 2 _ rfl) rfl
 |[a],h=>exact kI h σ
 |ab::ai::aD,⟨ts,h,bO⟩=>exact cq _ h rfl
theorem je{τ:TT}(ok:τ.Ok){As:List Atom}(h:ar τ As 2):As=[]:=by
 have r2:=ok.fst 2 _ rfl
 match As,h with
 |[],ab=>rfl
 |[a],h=>refine dw (rQ (show au τ a 2 from h)) λv h1 ab h2=> ?_;rw[r2]at h1;cases h1;exact absurd rfl h2
 |ab::ai::aD,⟨ts,h,bO⟩=>rw[r2]at h;cases h
def eA(τ:TT)(S:List Atom)(G:List Nat):Prop:=(∀i∈G,∃a∈S,au τ a i)/\∀a∈S,∃i∈G,au τ a i
theorem eq_int{s:St}{i j:Int}{b:Bool}(h:decide (i=j)=b):aS s .eq (.int i) (.int j)=some b:=congrArg some h
section
variable {l:Nat}{τ:TT}{σ:St}(T:Tb l τ σ)
include T
theorem vE(d:Nat){As:List Atom}{t:Nat}(h:ar τ As t):af P (d+1) 0 [.loc l,iV t] σ=some (.int (kT As),σ):=by refine ah (gw T.8 h σ) λv h1 h2=> ?_;exact run [.v T.a0,.v (T.at h1),.v h2,.r] (by kernel_rfl)
theorem j0(d:Nat){As:List Atom}{t:Nat}(h:ar τ As t):∃ts:List Nat,af P (d+1) 3 [.loc l,iV t] σ=some (.tup (ts.map iV),σ)/\ts.Pairwise (λx y=>x<y)/\eA τ As ts:=by
 obtain a:=T.a0
 match As,h with
 |[],h=>cases h;refine iD [] ?_ aci ⟨(aar _),aar _⟩;exact run [.r,.r] (by kernel_rfl)
 |[A],h=>
  have h':=h;refine ah (kI h' σ) λv h1 h2=> ?_;obtain t2:t≠2:=λe=>nomatch je T.8 (As:=[A]) (e▸h)
  obtain r:=T.at h1;refine iD [t] ?_ (aaB _ _) ⟨λi hi=>⟨A,aac,aag.mp hi▸h'⟩,λa ha=>⟨t,aac,aag.mp ha▸h'⟩⟩;exact run [.b (eq_int (s:=σ) (i:=(t:Int)) (j:=2) (b:=false) (decide_eq_false (by lia))),.v a,.v r,.v h2,.b (eq_int (s:=σ) (i:=Rx A) (j:=6) (b:=false) (decide_eq_false (Cc A))),.r] (by kernel_rfl)
 |a'::b::r,h=>
  refine jH (fJ.mp h) λts h1 h2 h3 h4 h5=> ?_;obtain t2:t≠2:=λe=>nomatch je T.8 (As:=a'::b::r) (e▸h)
  exact iD ts (by exact run [.b (eq_int (s:=σ) (i:=(t:Int)) (j:=2) (b:=false) (decide_eq_false (by lia))),.v a,.v (T.at h1),.r,.r,.r,.r] (by kernel_rfl)) h2 ⟨h4,h5⟩
end
noncomputable def j6(x:Nm):Int:=[6,6,7,7,7,6,6,7,7].getD x (-1)
def vF:Atom->Int
 | .n x=>j6 x
 |_=> -1
theorem Cd(d E F s7 p:Nat)(σ:St):∀x:Nm,af P (d+1) 4 [dg E F s7 p x] σ=some (.int (j6 x),σ):=cP (by kernel_rfl)
theorem Kj(d tc ta ty tn:Nat)(s:Bool)(σ:St):af P (d+1) 4 [bf tc ta ty tn s] σ=some (.int (-1),σ):=by exact run [.r,.r,.r,.r,.r,.r] (by kernel_rfl)
theorem Hp{τ:TT}{A:Atom}{t:Nat}(h:au τ A t)(d:Nat)(σ:St):∃v,τ.R[t]? =some v/\af P (d+1) 4 [v] σ=some (.int (vF A),σ):=by
 cases A with
 |n x=>refine eO h λs7 p h1 ab=> ?_;exact cq _ h1 (Cd d _ _ _ _ σ x)
 |cond c a y n s=>refine nq (bH.mp h) λtc ta ty tn h ab=> ?_;exact cq _ h (Kj d ..)
def fresh(x:Nm):Bool:=bare x !=x
theorem Hq(d E F s7 p:Nat)(σ:St)(t tab:V):∀x:Nm,bR P (af P d) (bo 5 0) [some tab,some t,some (dg E F s7 p x)] σ=some (.bool (fresh x),σ):=cP (by kernel_rfl)
noncomputable def Rz:V->V
 | .tup vs=> .tup vs.dropLast
 |v=>v
theorem Ce(E F s7 p:Nat)(σ:St):∀x:Nm,(if fresh x then pI σ (dg E F s7 p x) none (some (-1)) false else some .none)=some (if fresh x then Rz (dg E F s7 p x)else .none):=cP (by kernel_rfl)
theorem Cf(E F s7 p:Nat)(σ:St):∀x:Nm,(if fresh x then eP σ .add (Rz (dg E F s7 p x)) (.tup [.int 0])else some .none)=some (if fresh x then dg E F s7 p (bare x)else .none):=cP (by kernel_rfl)
theorem jz(E F s7 p:Nat):∀x:Nm,V.isTup (dg E F s7 p x)=true:=cP (f:=λx=>V.isTup (dg E F s7 p x)) (g:=λab=>true) (by kernel_rfl)
def OB(τ:TT)(A:Atom)(r:Int):Prop:=match A with
 | .n x=>(fresh x=true/\((∃i:Nat,r=i/\az τ (bare x) i)\/(r= -1/\∀i,¬az τ (bare x) i)))\/(fresh x=false/\r= -1)
 |_=>r= -1
theorem oL:∀x:Nm,yQ (bare x)=yQ x/\oG (bare x)=oG x:=by decide
theorem vG:∀x:Nm,oG x=true->fresh x=false:=by decide
theorem vH{l:Nat}{τ:TT}{σ:St}(T:Tb l τ σ)(d:Nat){A:Atom}{t:Nat}(h:au τ A t):∃r:Int,af P (d+1) 5 [.loc l,iV t] σ=some (.int r,σ)/\OB τ A r:=by
 obtain a:=T.a0;cases A with
 |cond c a' y n s=>
  refine nq (bH.mp h) λtc ta ty tn h ab=> ?_;obtain r:=T.at h;exact cq (-1) (by exact run [.v a,.v r,.r,.r,.r] (by kernel_rfl)) rfl
 |n x=>
  refine dM h λs7 p h1 h2 h3=> ?_;obtain r:=T.at h1;obtain e:=Hq d τ.E τ.F s7 p σ (iV t) (.loc l) x;cases hf:fresh x
  ·rw[hf]at e;exact cq (-1) (by exact run [.v a,.v r,.e e,.r] (by kernel_rfl)) (.inr ⟨hf,rfl⟩)
  ·rw[hf]at e;obtain c1:=Ce τ.E τ.F s7 p σ x;obtain c2:=Cf τ.E τ.F s7 p σ x;rw[hf]at c1 c2;obtain a1:=T.a1;obtain cl:dA P σ .get (.loc (l+2))=some 0:=by
    show om (σ.f (l+2)).gP _=_;exact T.3▸rfl
   obtain g:cX (af P d) σ .get 0 (.loc (l+2)) [dg τ.E τ.F s7 p (bare x),.int (-1)]=some ((bx τ.R (nums τ.R.length) (dg τ.E τ.F s7 p (bare x))).getD (.int (-1)),σ):=by show om (σ.f (l+2)).gP (λq=>og (bM (dg τ.E τ.F s7 p (bare x)::q.1)) (some ((bx q.1 q.2 (dg τ.E τ.F s7 p (bare x))).getD (.int (-1)),σ)))=_;exact T.3▸b7 (T.sort (jz ..))
   by_cases hm:dg τ.E τ.F s7 p (bare x)∈τ.R
   ·refine pE (adl hm) λi hi=> ?_;rw[T.find hi]at g;refine cq (i:Int) ?_ (.inl ⟨hf,.inl ⟨i,rfl,s7,p,hi,λk=>h2 ((oL x).1▸k),λk=> ?_⟩⟩)
    ·exact run [.v a,.v r,.e e,.v a1,.n cl,.v c1,.v c2,.c g,.r] (by kernel_rfl)
    ·obtain k1:oG x=true:=(oL x).2▸k;have k2:=vG x k1;rw[hf]at k2;cases k2
   ·rw[oJ (row:=dg τ.E τ.F s7 p (bare x)) (λk hk e=>hm (by simp only[<-e];exact hk))]at g;refine cq (-1) ?_ (.inl ⟨hf,.inr ⟨rfl,λi ⟨Hj,p',k1,k2,k3⟩=>hm ?_⟩⟩)
    ·exact run [.v a,.v r,.e e,.v a1,.n cl,.v c1,.v c2,.c g,.r] (by kernel_rfl)
    ·rw[rP T.8 (s7:=s7) (p:=p) (Hj:=Hj) (p':=p') (λk=>h2 ((oL x).1▸k)) k2 (λk=>by
      obtain k1:oG x=true:=(oL x).2▸k;have k2:=vG x k1;rw[hf]at k2;cases k2) k3]
     exact abk k1
theorem mU{τ:TT}(ok:τ.Ok){A:Atom}{x:Nm}{t:Nat}(h:au τ A t)(k:az τ x t):A= .n x:=by
 cases A with
 |n y=>simp only[au]at h;rw[fj ok h k]
 |cond c a y n s=>refine eO k λs7 p h1 ab=> ?_;refine nq (bH.mp h) λtc ta ty tn k1 ab=> ?_;rw[h1]at k1;obtain this:=congrArg kd (aad k1);rw[rO]at this;exact absurd this (jx x).2
theorem mV{τ:TT}(ok:τ.Ok){S:List Atom}{G:List Nat}(h:eA τ S G){x:Nm}{t:Nat}(k:az τ x t):t∈G↔.n x∈S:=by
 constructor
 ·intro m;refine ah (h.1 t m) λa ha q=> ?_;exact mU ok q k▸ha
 ·intro m;refine ah (h.2 _ m) λi hi q=> ?_;exact gH ok q k▸hi
theorem dH{τ:TT}(ok:τ.Ok):az τ 20 0/\az τ 21 1/\az τ 22 13/\az τ 9 8/\az τ 10 9/\az τ 11 14/\az τ 12 15/\az τ 16 6/\az τ 17 7/\az τ 13 4/\az τ 15 3:=by obtain h:∀(x:Nm) (t:Nat),gu[t]? =some (dg τ.E τ.F 0 0 x)->yQ x=false->oG x=false->az τ x t:=λx t e o p=>⟨0,0,ok.fst t _ e,(by rw[o];exactλq=>nomatch q),by rw[p];exactλq=>nomatch q⟩;exact⟨h 20 0 rfl rfl rfl,h 21 1 rfl rfl rfl,h 22 13 rfl rfl rfl,h 9 8 rfl rfl rfl,h 10 9 rfl rfl rfl,h 11 14 rfl rfl rfl,h 12 15 rfl rfl rfl,h 16 6 rfl rfl rfl,h 17 7 rfl rfl rfl,h 13 4 rfl rfl rfl,h 15 3 rfl rfl rfl⟩
def fM(G:List Nat):O:= .bV (G.map iV) (G.map λab=> .int 1)
theorem vI(G:List Nat):(G.map iV).all V.isInt=true:=by rw[abN];exact aas.mpr λab ai=>rfl
theorem Ac{σ:St}{g:Nat}{G:List Nat}(h:σ.f g=fM G)(i:Int):aS σ .isin (.int i) (.loc g)=some (decide (∃j∈G,(j:Int)=i)):=by show(match(σ.f g).eW with |some vs=>_ |none=>om (σ.f g).gP λp=>og (bM (.int i::p.1)) (some (p.1.any (λk=>V.beq k (.int i)))))=_;rw[h];refine(b7 (by unfold bM;simp only[abe,vI];rfl)).trans ?_;rw[acF,acN,aaC,abn,decide_eq_true_eq];exact⟨λi4=>ah i4 λj hj e=>⟨j,hj,V.int.inj (beq_eq _ _ e)⟩,λi4=>ah i4 λj hj e=>⟨j,hj,e▸fP _⟩⟩
theorem iB{σ:St}{g:Nat}{G:List Nat}(h:σ.f g=fM G)(i:Nat):aS σ .isin (iV i) (.loc g)=some (decide (i∈G)):=by rw[Ac h];congr 1;rw[aaC,decide_eq_true_eq,decide_eq_true_eq];exact⟨λi4=>ah i4 λj hj e=>aaO e▸hj,λm=>⟨i,m,rfl⟩⟩
noncomputable def fE(G:List Nat)(i:Nat):List Nat:=if i∈G then G else G++[i]
theorem mW{G:List Nat}{i j:Nat}:j∈fE G i↔j∈G\/j=i:=by
 unfold fE;split
 ·exact⟨.inl,λh=>h.elim id λe=>e▸‹_›⟩
 ·rw[aaz,aag]
theorem qi{G:List Nat}{i:Nat}(h:G.Nodup):(fE G i).Nodup:=by
 unfold fE;split
 ·exact h
 ·rename_i n;exact adB.mpr ⟨h,aaB _ _,λa ha b hb e=>n (by simp only[<-aag.mp hb,<-e];exact ha)⟩
theorem Kl:∀(G:List Nat) (i:Nat),putK (G.map iV) (G.map λab=>V.int 1) (iV i) (.int 1)=((fE G i).map iV,(fE G i).map λab=> .int 1):=by
 intro v_;induction v_ with
 |nil=>intro i;exact rfl
 |cons j G ih=>
  intro i;show(if V.beq (iV j) (iV i)=true then(iV j::G.map iV,V.int 1::G.map λab=>V.int 1)else(let r:=putK (G.map iV) (G.map λab=>V.int 1) (iV i) (.int 1);(iV j::r.1,V.int 1::r.2)))=_;by_cases e:j=i
  ·subst e;rw[(beq_iff _ _).mpr rfl,fE,if_pos aac];rfl
  ·obtain ne:V.beq (iV j) (iV i)=false:=by
    cases q:V.beq (iV j) (iV i)
    ·rfl
    ·exact absurd (aaO (V.int.inj ((beq_iff _ _).mp q))) e
   rw[ne,ih i];simp only[fE];have m:i∈j::G↔i∈G:=by rw[aam];exact⟨λh=>h.resolve_left λq=>e q.symm,.inr⟩
   by_cases h:i∈G
   ·rw[if_pos h,if_pos (m.mpr h)];rfl
   ·rw[if_neg h,if_neg (λq=>h (m.mp q))];rfl
theorem qj{σ:St}{g:Nat}{G:List Nat}(h:σ.f g=fM G)(hb:G.length+1<big)(i:Nat):cL σ (.loc g) (iV i) (.int 1)=some (σ.set g (fM (fE G i))):=by
 show(match σ.f g with | .lst vs=>_ | .bV ks vs=>_ |_=>_)=_;rw[h];refine(b7 ?_).trans ?_
 ·rw[aae,decide_eq_true hb];unfold bM;simp only[abe,vI];rfl
 ·rw[Kl];rfl
section
variable {τ:TT}(ok:τ.Ok){S:List Atom}{G:List Nat}(H:eA τ S G)
include ok H
theorem kJ{w:List Nat}(hw:w.Nodup)(hs:∀i∈w,i∈G):w.length<=S.length:=by
 classical
 let f:Nat->Atom:=λi=>if h:∃a∈S,au τ a i then h.choose else .n 0;have k:=λi hi=>by have h:=H.1 i (hs i hi);obtain e:f i=h.choose:=dif_pos h;exact e▸h.choose_spec
 obtain nd:(w.map f).Nodup:=by refine abR.mpr (acP (λ{a b} ha hb pW e=> ?_) hw);obtain ka:=(k a ha).2;rw[e]at ka;exact pW (i7 ok _ _ _ ka (k b hb).2)
 obtain this:=gS (w:=λab=>1) nd (xs:=S) λa ha=>by refine ah (aal.mp ha) λi hi e=> ?_;exact e▸(k i hi).1
 obtain one:∀m:List Atom,(m.map λab=>1).sum=m.length:=λm=>by
  induction m with
  |nil=>rfl
  |cons a m ih=>simp only[aaH,abE,ih,aax,abf]
 simp only[one,one,aae]at this;exact this
theorem D7(d:Nat){σ:St}{g:Nat}(h:σ.f g=fM G):af P (d+1) 8 [.loc g] σ=some (.int (match top S with |some t=>if t=20 then 0 else if t=22 then 13 else 1 |none=> -1),σ):=by
 refine A4 (dH ok) λf0 f1 IJ ab=> ?_;have body:∀(i:Nat) (b:Bool),aS σ .isin (iV i) (.loc g)=some b->dS P (af P d) (lb 8 0) [some (.loc g),some (iV i)] σ=if b then some (.ret (iV i),[some (.loc g),some (iV i)],σ)else some (.next,[some (.loc g),some (iV i)],σ):=by
  intro i b hi;cases b
  ·show _=some (Fl.next,[some (.loc g),some (iV i)],σ);exact eR [.b hi] (by kernel_rfl)
  ·show _=some (Fl.ret (iV i),[some (.loc g),some (iV i)],σ);exact eR [.b hi,.r] (by kernel_rfl)
 obtain b0:=body 0 _ (iB h 0);obtain Py:=body 13 _ (iB h 13);obtain b1:=body 1 _ (iB h 1);have e:∀(x:Nm) (i:Nat),az τ x i->decide (i∈G)=cA S (.n x):=λx i k=>by rw[aaC,decide_eq_true_eq,du];exact mV ok H k
 rw[e 20 0 f0]at b0;rw[e 22 13 IJ]at Py;rw[e 21 1 f1]at b1;unfold top mD;rw[fT,fT,fT];cases h1:cA S (.n 20)
 ·rw[h1]at b0;have n0:=aJ (i:=1) (b:=λr s=>dS P (af P d) (lb 8 0) r s) (vs:=[.int 13,.int 1]) (r:=[some (.loc g),none]) b0;revert Py;cases cA S (.n 22)
  ·intro Py;obtain Km:=n0.trans (aJ (vs:=[.int 1]) Py);cases h3:cA S (.n 21)
   ·rw[h3]at b1;have lp:=(Km.trans (aJ (vs:=[]) b1));exact run [.r,.l lp,.r] (by kernel_rfl)
   ·rw[h3]at b1;have lp:=Km.trans (eT (vs:=[]) b1);exact run [.r,.l lp] (by kernel_rfl)
  ·intro Py;obtain lp:dk 1 (λr s=>dS P (af P d) (lb 8 0) r s) [.int 0,.int 13,.int 1] [some (.loc g),none] σ=some (.ret (iV 13),[some (.loc g),some (iV 13)],σ):=n0.trans (eT (vs:=[.int 1]) Py);exact run [.r,.l lp] (by kernel_rfl)
 ·rw[h1]at b0;obtain lp:dk 1 (λr s=>dS P (af P d) (lb 8 0) r s) [.int 0,.int 13,.int 1] [some (.loc g),none] σ=some (.ret (iV 0),[some (.loc g),some (iV 0)],σ):=eT (vs:=[.int 13,.int 1]) b0;exact run [.r,.l lp] (by kernel_rfl)
end
theorem eA.fE{τ:TT}{S:List Atom}{G:List Nat}(h:eA τ S G){a:Atom}{i:Nat}(k:au τ a i):eA τ (S++[a]) (fE G i):=by
 refine⟨λj hj=> ?_,λb hb=> ?_⟩
 ·rcases mW.mp hj with m |e
  ·refine ah (h.1 j m) λb hb q=> ?_;exact⟨b,acf _ hb,q⟩
  ·exact⟨a,acB _ aac,e▸k⟩
 ·rcases aaz.mp hb with m |m
  ·refine ah (h.2 b m) λj hj q=> ?_;exact⟨j,mW.mpr (.inl hj),q⟩
  ·exact⟨i,mW.mpr (.inr rfl),aag.mp m▸k⟩
structure uy(g:Nat)(s s':St):Prop where
 n:s'.n=s.n
 f:∀k,k≠g->s'.f k=s.f k
theorem uy.refl(g:Nat)(s:St):uy g s s:=⟨rfl,λab ai=>rfl⟩
theorem uy.trans{g:Nat}{a b c:St}(x:uy g a b)(y:uy g b c):uy g a c:=⟨y.n.trans x.n,λk h=>(y.f k h).trans (x.f k h)⟩
theorem uy.set(g:Nat)(s:St)(o:O):uy g s (s.set g o):=⟨rfl,λab h=>if_neg h⟩
theorem uy.ext{g:Nat}{σ s s':St}(y:uy g s s')(x:Ext σ s)(h:σ.n<=g):Ext σ s':=⟨by simp only[y.n];exact x.n,λk hk=>(y.f k (aaF (aak hk h))).trans (x.f k hk)⟩
theorem Tb.WJ{l:Nat}{τ:TT}{s s':St}{g:Nat}(T:Tb l τ s)(y:uy g s s')(h:l+8<g):Tb l τ s':=by obtain e:∀j,j<=l+8->s'.f j=s.f j:=λj hj=>y.f j (by lia);exact⟨(e _ (aao _ _)).trans T.1,(e _ (by simp+arith)).trans T.2,(e _ (by simp+arith)).trans T.3,(e _ (by simp+arith)).trans T.4,(e _ (by simp+arith)).trans T.5,(e _ (by simp+arith)).trans T.6,by simp only[y.n];exact T.7,T.8⟩
section
variable {τ:TT}(ok:τ.Ok){S:List Atom}{G:List Nat}
include ok
theorem Ad(H:eA τ S G)(d:Nat){σ:St}{g:Nat}(h:σ.f g=fM G)(nd:G.Nodup)(hl:G.length+2<big):∃G' aq,af P (d+1) 6 [.loc g] σ=some (.none,aq)/\uy g σ aq/\aq.f g=fM G'/\eA τ (bools S) G'/\G'.Nodup:=by
 refine A8 (dH ok) λab ai aD f8 f9 WK YZ bO=> ?_;obtain e:∀(x:Nm) (i:Nat),az τ x i->decide (i∈G)=has gA S x:=λx i k=>by rw[aaC,decide_eq_true_eq,cG];exact mV ok H k
 obtain i8:=iB h 8;obtain WL:=iB h 14;obtain i9:=iB h 9;obtain WM:=iB h 15;rw[e 9 8 f8]at i8;rw[e 11 14 WK]at WL;rw[e 10 9 f9]at i9;rw[e 12 15 YZ]at WM;obtain c1:bR P (af P d) (bo 6 1) [some (.loc g)] σ=some (.bool (has gA S 9 ||has gA S 11),σ):=by
  cases q:has gA S 9
  ·rw[q]at i8;exact bU [.b i8,.b WL] (by kernel_rfl)
  ·rw[q]at i8;exact bU [.b i8] (by kernel_rfl)
 obtain c2:bR P (af P d) (bo 6 2) [some (.loc g)] σ=some (.bool (has gA S 10 ||has gA S 12),σ):=by
  cases q:has gA S 10
  ·rw[q]at i9;exact bU [.b i9,.b WM] (by kernel_rfl)
  ·rw[q]at i9;exact bU [.b i9] (by kernel_rfl)
 have c0:bR P (af P d) (bo 6 0) [some (.loc g)] σ=some (.bool ((has gA S 9 ||has gA S 11) &&(has gA S 10 ||has gA S 12)),σ):=by
  cases q:has gA S 9 ||has gA S 11
  ·rw[q]at c1;exact bU [.k,.e c1] (by kernel_rfl)
  ·rw[q]at c1;exact bU [.k,.e c1,.e c2] (by kernel_rfl)
 obtain eb:bools S=if(has gA S 9 ||has gA S 11) &&(has gA S 10 ||has gA S 12)then S++[.n 9,.n 10]else S:=rfl;revert c0 eb;cases(has gA S 9 ||has gA S 11) &&(has gA S 10 ||has gA S 12)
 ·intro c0 eb;rw[eb];refine pF G σ ?_ (uy.refl g σ) h H nd;exact run [.e c0] (by kernel_rfl)
 ·intro c0 eb;rw[eb];obtain h1:(σ.set g (fM (fE G 8))).f g=fM (fE G 8):=cz ..;obtain l1:(fE G 8).length<=G.length+1:=by unfold fE;split;simp+arith;rw[aah];exact aab _
  refine pF (fE (fE G 8) 9) _ ?_ ((uy.set g σ (fM (fE G 8))).trans (uy.set g _ (fM (fE (fE G 8) 9)))) (cz ..) ?_ (qi (qi nd))
  ·exact run [.e c0,.s (qj h (adF hl) 8),.s (qj h1 (by lia) 9)] (by kernel_rfl)
  ·obtain this:=(H.fE (a:= .n 9) (i:=8) (by simp only[au];exact f8)).fE (a:= .n 10) (i:=9) (by simp only[au];exact f9);rw[aaJ]at this;exact this
end
theorem rR:∀x:Nm,(j6 x=6/\wide x=some 16)\/(j6 x=7/\wide x=some 17)\/(j6 x= -1/\wide x=none):=by decide
theorem Ae{τ:TT}(ok:τ.Ok){S:List Atom}{G:List Nat}(H:eA τ S G){x:Nm}{i:Nat}(k:az τ x i):decide (∃j∈G,(j:Int)=(i:Int))=cA S (.n x):=by rw[aaC,decide_eq_true_eq,du,<-mV ok H k];exact⟨λz=>ah z λj hj e=>aaO e▸hj,λm=>⟨i,m,rfl⟩⟩
theorem rS{G:List Nat}{z:Int}(h:z<0):decide (∃j∈G,(j:Int)=z)=false:=decide_eq_false λq=>ah q λj ab e=>aer.mpr h (e▸abl j)
theorem stays{l:Nat}{τ:TT}{σ:St}(T:Tb l τ σ)(d:Nat){S:List Atom}{G:List Nat}(H:eA τ S G){g:Nat}(h:σ.f g=fM G){A:Atom}{t:Nat}(hA:au τ A t):af P (d+2) 7 [.loc l,.loc g,iV t] σ=some (.bool (keep S A),σ):=by
 refine ah (vH T d hA) λr e1 tw=> ?_;refine ah (Hp hA d σ) λv hv e2=> ?_;obtain fin:∀{b1 b2},decide (∃j∈G,(j:Int)=r)=b1->decide (∃j∈G,(j:Int)=vF A)=b2->af P (d+2) 7 [.loc l,.loc g,iV t] σ=some (.bool (!b1 && !b2),σ):=λ{b1 b2} k1 k2=>by
  obtain g1:=Ac h r;obtain g2:aS σ .jJ (.int (vF A)) (.loc g)=some (!b2):=(congrArg (λx=>om x λb=>some !b) ((Ac h (vF A)).trans (congrArg some k2)):_);rw[k1]at g1;cases b1
  ·exact run [.c e1,.b g1,.v T.a0,.v (T.at hv),.c e2,.b g2,.r] (by kernel_rfl)
  ·exact run [.c e1,.b g1,.r] (by kernel_rfl)
 cases A with
 |cond=>cases tw;exact fin (rS (by decide)) (rS (by show(-1:Int)<0;decide))
 |n x=>
  refine fin (b1:=fresh x &&has gA S (bare x)) (b2:=match wide x with |some w=>has gA S w |none=>false) ?_ ?_
  ·rw[fT];rcases tw with⟨hf,⟨i,hi,k⟩ |⟨hr,k⟩⟩ |⟨hf,hr⟩
   ·rw[hf,hi];exact Ae T.8 H k
   ·rw[hf,rS (by lia)];exact(abB.mpr λq=>ah (H.2 _ (du.mp q)) λi ab q=>k i (by simp only[au]at q;exact q)).symm
   ·rw[hf];exact rS (by lia)
  ·obtain⟨_,_,_,_,_,_,_,f6,f7,_⟩:=dH T.8;show decide (∃j∈G,(j:Int)=j6 x)=_;rcases rR x with⟨h1,h2⟩ |⟨h1,h2⟩ |⟨h1,h2⟩
   ·rw[h1,h2];exact(Ae T.8 H f6).trans (fT S 16).symm
   ·rw[h1,h2];exact(Ae T.8 H f7).trans (fT S 17).symm
   ·rw[h1,h2];exact rS (by decide)
noncomputable def rT(a:Nat):List Nat->List Nat
 |[]=>[a]
 |b::r=>if a<=b then a::b::r else b::rT a r
noncomputable def dc:List Nat->List Nat
 |[]=>[]
 |a::r=>rT a (dc r)
theorem Ht(a:Nat):∀l:List Nat,insI a (l.map λ(i:Nat)=>(i:Int))=(rT a l).map λ(i:Nat)=>(i:Int):=by
 intro v_;induction v_ with
 |nil=>exact rfl
 |cons b r ih=>
  show(if(a:Int)<=b then _ else(b:Int)::insI a (r.map λ(i:Nat)=>(i:Int)))=_;rw[rT,ih];by_cases h:a<=b
  ·rw[if_pos h,if_pos (adv.mpr h)];rfl
  ·rw[if_neg h,if_neg (λq=>h (adv.mp q))];rfl
theorem D8:∀l:List Nat,Mp.sortI (l.map λ(i:Nat)=>(i:Int))=(dc l).map λ(i:Nat)=>(i:Int):=by
 intro v_;induction v_ with
 |nil=>exact rfl
 |cons a r ih=>show insI a (Mp.sortI (r.map λ(i:Nat)=>(i:Int)))=_;simp only[ih,Ht];rfl
theorem xY{a b:Nat}:∀{l:List Nat},b∈rT a l↔b=a\/b∈l:=by
 intro v_;induction v_ with
 |nil=>simp[rT]
 |cons c r ih=>
  simp only[rT];split
  ·simp
  ·simp only[aam,ih];constructor
   ·rintro (h |h |h)<;>simp[h]
   ·rintro (h |h |h)<;>simp[h]
theorem kK{b:Nat}:∀{l:List Nat},b∈dc l↔b∈l:=by
 intro v_;induction v_ with
 |nil=>exact aeo
 |cons a r ih=>simp only[dc,xY,ih,aam]
theorem Kn{a:Nat}:∀{l:List Nat},l.Pairwise (λx y=>x<y)->a∉l->(rT a l).Pairwise (λx y=>x<y):=by
 intro v_;induction v_ with
 |nil=>intro _ _;exact aaB _ _
 |cons b r ih=>
  intro h n;obtain⟨h1,h2⟩:=aaD.mp h;obtain ne:a≠b:=λe=>n (e▸aac);simp only[rT];split
  ·rename_i k;exact aaD.mpr ⟨λc hc=>by
    rcases aam.mp hc with e |m
    ·lia
    ·obtain this:=h1 c m;lia,h⟩
  ·rename_i k;exact aaD.mpr ⟨λc hc=>by
    rcases xY.mp hc with e |m
    ·lia
    ·exact h1 c m,ih h2 λm=>n (aaf _ m)⟩
theorem Hu:∀{l:List Nat},l.Nodup->(dc l).Pairwise (λx y=>x<y):=by
 intro v_;induction v_ with
 |nil=>intro dJ;exact aci
 |cons a r ih=>intro h;obtain⟨h1,h2⟩:=aaM.mp h;exact Kn (ih h2) λm=>h1 (kK.mp m)
theorem uz:∀l:List Nat,(dc l).length=l.length:=by
 intro v_;induction v_ with
 |nil=>exact rfl
 |cons a r ih=>
  obtain this:∀(a:Nat) (l:List Nat),(rT a l).length=l.length+1:=λa l=>by
   induction l with
   |nil=>rfl
   |cons b l ih=>simp only[rT];split;rfl;rw[aax,ih];rfl
  simp only[dc,this,ih];rfl
theorem Hv:∀l:List Nat,intsOf (l.map iV)=some (l.map λ(i:Nat)=>(i:Int)):=by
 intro v_;induction v_ with
 |nil=>exact rfl
 |cons a l ih=>exact(eB (f:=λi=>om (intsOf (l.map iV)) λl=>some (i::l)) (rfl:(iV a).int? =some (a:Int))).trans (eB (ih))
theorem rU{σ:St}{g:Nat}{G:List Nat}(h:σ.f g=fM G)(hl:G.length<64):sX σ .sorted (.loc g)=some (.bI ((dc G).map iV),σ):=by show om (match(σ.f g).eW with |some vs=>_ |none=>om (σ.f g).gP λp=>og (decide (p.1.length<64)) (om (intsOf p.1) λns=>some ((Mp.sortI ns).map V.int))) _=_;rw[h];show om (og (decide ((G.map iV).length<64)) (om (intsOf (G.map iV)) λns=>some ((Mp.sortI ns).map V.int))) _=_;rw[aae,decide_eq_true hl,Hv];show some (V.bI ((Mp.sortI (G.map λ(i:Nat)=>(i:Int))).map V.int),σ)=_;rw[D8,aay];rfl
theorem xZ{τ:TT}(ok:τ.Ok){L:List Atom}{K:List Nat}(H:eA τ L K)(hK:K.Pairwise (λx y=>x<y))(hL:oh txt L)(hc:∀a∈L,Cn a):
  (K=[]/\L=[])\/(∃i a,K=[i]/\L=[a]/\au τ a i)\/(2<=K.length/\∀ay t,τ.Le ay->ay.R[t]? =some (dU K)->ar ay L t):=by
 have inj:∀(a b:Atom) (i:Nat),a∈L->b∈L->au τ a i->au τ b i->a=b:=λab ai aD ha hb h h'=>mS ok _ _ _ (hc _ ha) (hc _ hb) h h'
 match K,L,H,hK,hL,inj with
 |[],[],ab,ai,aD,bO=>exact .inl ⟨rfl,rfl⟩
 |[],a::r,H,ab,ai,aD=>refine ah (H.2 a aac) λi hi ab=> ?_;cases hi
 |i::r,[],H,ab,ai,aD=>refine ah (H.1 i aac) λa ha ab=> ?_;cases ha
 |[i],[a],H,ab,ai,aD=>refine ah (H.1 i aac) λb hb q=> ?_;exact .inr (.inl ⟨i,a,rfl,rfl,aag.mp hb▸q⟩)
 |[i],a::b::r,H,ab,hL,inj=>refine ah (H.2 a aac) λj hj q=> ?_;refine ah (H.2 b (aaf _ aac)) λk hk q'=> ?_;simp only[aag.mp hj]at q;simp only[aag.mp hk]at q';have e:=inj _ _ _ aac (aaf _ aac) q q';have:=(aaD.mp hL).1 b aac;rw[e,rB]at this;cases this
 |i::j::r,[a],H,hK,ab,ai=>refine ah (H.1 i aac) λb hb q=> ?_;refine ah (H.1 j (aaf _ aac)) λc hc q'=> ?_;rw[aag.mp hb]at q;rw[aag.mp hc]at q';obtain this:=(aaD.mp hK).1 j aac;rw[i7 ok _ _ _ q q']at this;exact absurd this (acx _)
 |i::j::r,a::b::l,H,hK,ab,ai=>
  refine .inr (.inr ⟨by show 2<=r.length+2;lia,λay t x h=>fJ.mpr ⟨_,h,hK,by show 2<=r.length+2;lia,λi hi=> ?_,λc hc=> ?_⟩⟩)
  ·refine ah (H.1 i hi) λc hc q=> ?_;exact⟨c,hc,au.mono x c i q⟩
  ·refine ah (H.2 c hc) λi hi q=> ?_;exact⟨i,hi,au.mono x c i q⟩
theorem D9(K:List Nat):V.isTup (dU K)=true:=by
 show(V.fW 6 (.int 6) &&(V.fW 6 (.tup (K.map iV)) &&true))=true;obtain this:V.fW 6 (.tup (K.map iV))=true:=by show(K.map iV).all (V.fW 5)=true;rw[abN];exact aas.mpr λab ai=>rfl
 rw[this];rfl
theorem Tb.pP{l:Nat}{τ:TT}{σ:St}(T:Tb l τ σ):dA P σ (.user 0) (.loc l)=some 74:=by show om (σ.f l).me (λp=>P.hH p.1 0)=_;rw[T.1];rfl
noncomputable def vJ:List Nat->List Nat->List Nat
 |G,[]=>G
 |G,i::r=>vJ (fE G i) r
theorem Hw:∀(ts G:List Nat),(vJ G ts).length<=G.length+ts.length:=by
 intro v_;induction v_ with
 |nil=>intro G;exact aab _
 |cons i r ih=>
  intro G;refine aaa (ih _) ?_;obtain this:(fE G i).length<=G.length+1:=by unfold fE;split;simp+arith;rw[aah];exact aab _
  simp only[aax];lia
theorem Ko:∀(ts:List Nat) {G:List Nat},G.Nodup->(vJ G ts).Nodup:=by
 intro v_;induction v_ with
 |nil=>intro dJ h;exact h
 |cons ab r ih=>intro dJ h;exact ih (qi h)
theorem rV{j:Nat}:∀{ts G:List Nat},j∈vJ G ts↔j∈G\/j∈ts:=by
 intro v_;induction v_ with
 |nil=>intro G;simp[vJ]
 |cons i r ih=>intro G;rw[vJ,ih,mW,aam,or_assoc]
section
variable {l:Nat}{τ:TT}(d:Nat)(c:V)
theorem Ah(g:Nat)(x3:Option V):∀(ts G:List Nat) (s:St) (x4:Option V),s.f g=fM G->G.length+ts.length+1<big->∃s' y4,uy g s s'/\s'.f g=fM (vJ G ts)/\
  dk 4 (λr s=>dS P (af P d) (lb 9 1) r s) (ts.map iV) [some (.loc l),some c,some (.loc g),x3,x4,none,none] s=some (.next,[some (.loc l),some c,some (.loc g),x3,y4,none,none],s'):=by
 intro v_;induction v_ with
 |nil=>intro G s x4 h dJ;exact wB s x4 (uy.refl g s) ⟨h,rfl⟩
 |cons i ts ih=>
  intro G s x4 h hb;refine cps λab kk=> ?_;simp only[aax]at hb;obtain b:dS P (af P d) (lb 9 1) [some (.loc l),some c,some (.loc g),x3,some (iV i),none,none] s=some (.next,[some (.loc l),some c,some (.loc g),x3,some (iV i),none,none],s.set g (fM (fE G i))):=by exact eR [.s (qj h (by lia) i)] (by kernel_rfl)
  obtain la:(fE G i).length<=G.length+1:=by unfold fE;split;simp+arith;rw[aah];exact aab _
  refine eO (ih (fE G i) (s.set g (fM (fE G i))) (some (iV i)) (cz ..) (by lia)) λs' y4 k1 Ro=> ?_;refine A2 Ro λk2 k3=> ?_;exact kk (wB s' y4 ((uy.set g s _).trans k1) ⟨k2,(aJ b).trans k3⟩)
theorem Ai(g:Nat)(hg:l+8<g):∀(ps:List (List Atom×Nat)) (S:List Atom) (G:List Nat) (s:St) (x3 x4:Option V),Tb l τ s->s.f g=fM G->eA τ S G->G.Nodup->G.length<=S.length->(∀p∈ps,ar τ p.1 p.2)->(S++ps.flatMap (λx=>x.1)).length<=61->
  ∃G' s' y3 y4,uy g s s'/\s'.f g=fM G'/\eA τ (S++ps.flatMap (λx=>x.1)) G'/\G'.Nodup/\G'.length<=(S++ps.flatMap (λx=>x.1)).length/\
  dk 3 (λr s=>dS P (af P (d+1)) (lb 9 0) r s) (ps.map λp=>iV p.2) [some (.loc l),some c,some (.loc g),x3,x4,none,none] s=some (.next,[some (.loc l),some c,some (.loc g),y3,y4,none,none],s'):=by
 intro v_;induction v_ with
 |nil=>intro S G s x3 x4 T h H nd hl dJ hb;exact CQ G s x3 x4 (uy.refl g s) h (by simpa using H) nd ⟨by simpa using hl,rfl⟩
 |cons p ps ih=>
  intro S G s x3 x4 T h H nd hl hp hb;refine dw (j0 T d (hp p aac)) λts e1 k1 k2=> ?_;obtain lt:=kJ T.8 k2 (k1.imp λq=>aaF q) λab h=>h;rw[aaU,<-aaJ]at hb⊢;have QU:=hb;rw[aah,aah]at QU;obtain bb:(1000000:Nat)=big:=rfl;refine eO (Ah (l:=l) (d+1) c g (some (iV p.2)) ts G s x4 h (by simp only[<-bb];lia)) λs1 y4 o1 Ro=> ?_;refine A2 Ro λf1 e2=> ?_;obtain H1:eA τ (S++p.1) (vJ G ts):=by
   refine⟨λi hi=> ?_,λa ha=> ?_⟩
   ·rcases rV.mp hi with m |m
    ·refine ah (H.1 i m) λa ha q=> ?_;exact⟨a,acf _ ha,q⟩
    ·refine ah (k2.1 i m) λa ha q=> ?_;exact⟨a,acB _ ha,q⟩
   ·refine aaI (aaz.mp ha) (λm=> ?_) λm=> ?_
    ·obtain⟨i,hi,q⟩:=H.2 a m;exact⟨i,rV.mpr (.inl hi),q⟩
    ·obtain⟨i,hi,q⟩:=k2.2 a m;exact⟨i,rV.mpr (.inr hi),q⟩
  obtain b:dS P (af P (d+1)) (lb 9 0) [some (.loc l),some c,some (.loc g),some (iV p.2),x4,none,none] s=some (.next,[some (.loc l),some c,some (.loc g),some (iV p.2),y4,none,none],s1):=by exact eR [.c e1,.r,.l e2] (by kernel_rfl)
  refine jI (ih (S++p.1) (vJ G ts) s1 (some (iV p.2)) y4 (T.WJ o1 hg) f1 H1 (Ko ts nd) (by obtain this:=Hw ts G;simp only[aah];lia) (λq hq=>hp q (aaf _ hq)) hb) λG' s' z3 z4 q1 q2 q3 q4 UP=> ?_;refine A2 UP λq5 q6=> ?_;exact CQ G' s' z3 z4 (o1.trans q1) q2 q3 q4 ⟨q5,(aJ b).trans q6⟩
theorem mX{σ:St}(T:Tb l τ σ)(ps:List (List Atom×Nat))(hc:itemsOf c=some (ps.map λp=>iV p.2))(hp:∀p∈ps,ar τ p.1 p.2)(GP:∀p∈ps,∀a∈p.1,Cn a)(hl:(ps.flatMap (λx=>x.1)).length<=61){r:Nat}(hb:Cr (1+r) τ):Pg l τ σ (Ty (less (ps.flatMap (λx=>x.1)))) r (af P (d+3) 9 [.loc l,c] σ):=by
 obtain UQ:=hb.le (aaj ..);refine cps λab kk=> ?_;obtain hg:l+8<σ.n:=T.7;obtain bb:(1000000:Nat)=big:=rfl;obtain T0:Tb l τ (σ.new (fM [])):=T.ext (Ext.new σ _);refine jI (Ai (l:=l) (τ:=τ) (d+1) c σ.n hg ps [] [] (σ.new (fM [])) none none T0 (bY ..) ⟨(aar _),aar _⟩ abA (aab _) hp (by simpa using hl)) λG s1 y3 y4 o1 f1 H1 Y0 UP=> ?_;refine A2 UP λl1 e1=> ?_;simp only[adK]at H1 l1;obtain x1:Ext σ s1:=o1.ext (Ext.new σ _) (aab _);obtain T1:Tb l τ s1:=T.ext x1;have tp:=D7 T.8 H1 (d+1) f1;cases ht:top (ps.flatMap (λx=>x.1))with
 |some t=>
  rw[ht]at tp;refine A4 (dH T.8) λf0 g1 IJ ab=> ?_;obtain⟨i,hi,he⟩:∃i:Nat,az τ t i/\(if t=20 then(0:Int)else if t=22 then 13 else 1)=i:=by
   rcases(dT ht).2 with e |e |e<;>subst e
   ·exact⟨0,f0,rfl⟩
   ·exact⟨13,IJ,rfl⟩
   ·exact⟨1,g1,rfl⟩
  obtain Qg:af P (d+2) 8 [.loc σ.n] s1=some (iV i,s1):=tp.trans (by show some (V.int (if t=20 then 0 else if t=22 then 13 else 1),s1)=_;rw[he]);refine kk (.mk (t:=i) (.oH T x1) ?_ UQ ?_)
  ·show ar _ _ _;rw[bW ht];show au τ (.n t) i;simp only[au];exact hi
  ·obtain ge:aS s1 .ge (iV i) (.int 0)=some true:=congrArg some (decide_eq_true (abl i));exact run [.r,.i hc,.l e1,.c Qg,.r,.r] (by kernel_rfl)
 |none=>
  rw[ht]at tp;refine kU (Ad T.8 H1 (d+1) f1 Y0 (by simp only[<-bb];lia)) λG' s2 e2 o2 f2 H2 WN=> ?_;have T2:=T1.WJ o2 hg;obtain x2:=o2.ext x1 (aab _);obtain bl:=uq (ps.flatMap (λx=>x.1));have l2:G'.length<64:=by obtain this:=kJ T.8 H2 WN λab h=>h;lia
  obtain e3:=rU f2 l2;generalize hS:bools (ps.flatMap (λx=>x.1))=S at*
  classical
  let p:Nat->Bool:=λi=>decide (∃a∈S,au τ a i/\keep S a=true);obtain Qf:∀i∈dc G',af P (d+2) 7 [.loc l,.loc σ.n,iV i] s2=some (.bool (p i),s2):=λi hi=>by
   refine ah (H2.1 i (kK.mp hi)) λa ha q=> ?_;obtain this:=stays T2 d H2 f2 q;rw[this];congr 3;rw[aaC,decide_eq_true_eq];refine⟨λk=>⟨a,ha,q,k⟩,λi4=>dw i4 λb hb q' k=> ?_⟩;cases a with
   |cond=>rfl
   |n x=>rw[mU T.8 q' q]at k;exact k
  have cp:cB (λr s=>bR P (af P (d+2)) (ce 9 0) r s) (λr s=>il P (af P (d+2)) (cc 9 0) r s) [some (.loc l),some c,some (.loc σ.n),y3,y4,some (.int (-1)),none] ((dc G').map iV) s2=some (((dc G').filter p).map iV,s2):=
   jv (dc G') (λi hi=>by
    have h:=Qf i hi;revert h;cases p i
    ·intro h;exact runC [.c h] (by kernel_rfl)
    ·intro h;exact runC [.c h] (by kernel_rfl)) λi hi=>by
    exact bU [] (by kernel_rfl)
  have ya:some (decide (((dc G').map iV).length<big))=some true:=gq (by simp only[aae,uz];exact l2);have HK:eA τ (less (ps.flatMap (λx=>x.1))) ((dc G').filter p):=by
   refine⟨λi hi=> ?_,λa ha=> ?_⟩
   ·refine dw (of_decide_eq_true (aaN.mp hi).2) λa ha q k=> ?_;exact⟨a,by rw[aN ht,kept,aaN,hS];exact⟨ha,k⟩,q⟩
   ·rw[aN ht,kept,aaN,hS]at ha;refine ah (H2.2 a ha.1) λi hi q=> ?_;exact⟨i,aaN.mpr ⟨kK.mpr hi,decide_eq_true ⟨a,ha.1,q,ha.2⟩⟩,q⟩
  obtain cn:∀a∈less (ps.flatMap (λx=>x.1)),Cn a:=λa ha=>by
   rcases dr ha with m |m |m
   ·refine ah (aau.mp m) λq hq m=> ?_;exact GP q hq a m
   ·subst m;trivial
   ·subst m;trivial
  have pl:((dc G').filter p).Pairwise (λx y=>x<y):=(Hu WN).filter _;generalize(dc G').filter p=Kp at*
  rcases xZ T.8 HK pl (eH _) cn with⟨hk,hL⟩ |⟨i,a,hk,hL,q⟩ |⟨hk,hT⟩
  ·refine kk (.mk (t:=2) (.oH T x2) (hL▸rfl:ar _ _ _) UQ ?_);subst hk;exact run [.r,.i hc,.l e1,.c tp,.r,.c e2,.c e3,.r,.b ya,.m cp,.r,.r] (by kernel_rfl)
  ·refine kk (.mk (t:=i) (.oH T x2) (by rw[hL];exact q:ar _ _ _) UQ ?_);subst hk;exact run [.r,.i hc,.l e1,.c tp,.r,.c e2,.c e3,.r,.b ya,.m cp,.r,.r,.r,.r,.r] (by kernel_rfl)
  ·refine(gV T2 (d+1) (D9 Kp) hb).el λt ay s3 p3 h3 c3 e5=> ?_;refine kk (.mk (t:=t) ⟨p3.1,p3.2,x2.t.trans p3.3,p3.4⟩ (hT ay t p3.2 h3) c3 ?_);have tr:cx s2 (.bI (Kp.map iV))=some true:=by
    cases Kp with
    |nil=>exact absurd hk (by decide)
    |cons=>rfl
   obtain n1:aS s2 .eq (.int (Kp.map iV).length) (.int 1)=some false:=eq_int (decide_eq_false (by rw[aae];lia));obtain kl:Kp.length<=61:=by obtain this:=kJ T.8 HK (pl.imp λq=>aaF q) λab h=>h;obtain k2:=i6 (ps.flatMap (λx=>x.1));lia
   have n2:aS s2 .gt (.int (Kp.map iV).length) (.int 400)=some false:=congrArg some (decide_eq_false (by rw[aae];lia));have cl:=T2.pP;exact run [.r,.i hc,.l e1,.c tp,.r,.c e2,.c e3,.r,.b ya,.m cp,.b tr,.r,.b n1,.r,.b n2,.n cl,.r,.c e5,.r] (by kernel_rfl)
end
theorem Kq:∀x:Nm,wo x≠6/\wo x≠7/\wo x≠12/\wo x≠18:=by decide
section
variable {l:Nat}{τ:TT}{σ:St}(T:Tb l τ σ)
include T
theorem yb(d:Nat){A:Atom}{t:Nat}(h:au τ A t):af P (d+1) 25 [.loc l,iV t] σ=some (.bool (uj A),σ):=by
 obtain a:=T.a0;cases A with
 |cond c a' y n s=>refine nq (bH.mp h) λtc ta ty tn h ab=> ?_;obtain r:=T.at h;exact run [.v a,.v r,.r,.r,.r] (by kernel_rfl)
 |n x=>
  refine eO h λs7 p h ab=> ?_;obtain r:=T.at h;obtain hd:=jd τ.E τ.F s7 p σ x;obtain c1:aS σ .isin (.int (wo x)) (.tup [.int 10,.int 14,.int 15,.int 16,.int 17,.int 19])=some (uj (.n x)):=cP (f:=λx=>aS σ .isin (.int (wo x)) (.tup [.int 10,.int 14,.int 15,.int 16,.int 17,.int 19])) (g:=λx=>some (uj (.n x))) (by kernel_rfl) x;obtain ne:=Kq x;have c6:=eq_int (s:=σ) (decide_eq_false ne.1);have c7:=eq_int (s:=σ) (decide_eq_false ne.2.1);have Y2:=eq_int (s:=σ) (decide_eq_false ne.2.2.1);have Y3:=eq_int (s:=σ) (decide_eq_false ne.2.2.2);revert c1;cases uj (.n x)
  ·intro c1;exact run [.v a,.v r,.v hd,.b c1,.v hd,.b c6,.v hd,.b c7,.v hd,.b Y2,.v hd,.b Y3,.r] (by kernel_rfl)
  ·intro c1;exact run [.v a,.v r,.v hd,.b c1,.r] (by kernel_rfl)
theorem Ea(d:Nat)(t row:V)(x4 x5:Option V):∀(ts:List Nat) (b:Nat->Bool) (x3:Option V),(∀i∈ts,af P d 25 [.loc l,iV i] σ=some (.bool (b i),σ))->∃y3,dk 3 (λr s=>dS P (af P d) (lb 25 0) r s) (ts.map iV) [some (.loc l),some t,some row,x3,x4,x5] σ=some (if ts.any b then .ret (.bool true)else .next,[some (.loc l),some t,some row,y3,x4,x5],σ):=by
 intro v_;induction v_ with
 |nil=>intro b x3 dJ;exact⟨x3,rfl⟩
 |cons i ts ih=>
  intro b x3 h;obtain hi:=h i aac;revert hi;cases hb:b i
  ·intro hi;obtain e:dS P (af P d) (lb 25 0) [some (.loc l),some t,some row,some (iV i),x4,x5] σ=some (.next,[some (.loc l),some t,some row,some (iV i),x4,x5],σ):=by
    exact eR [.c hi] (by kernel_rfl)
   refine pE (ih b (some (iV i)) λj hj=>h j (aaf _ hj)) λy3 k=> ?_;refine⟨y3,((aJ e).trans k).trans ?_⟩;simp only[abx,hb,adm]
  ·intro hi;have e:dS P (af P d) (lb 25 0) [some (.loc l),some t,some row,some (iV i),x4,x5] σ=some (.ret (.bool true),[some (.loc l),some t,some row,some (iV i),x4,x5],σ):=by
    exact eR [.c hi,.r] (by kernel_rfl)
   refine⟨some (iV i),(eT e).trans ?_⟩;rw[abx,hb,aea,if_pos rfl]
theorem Kr(d:Nat){As:List Atom}{t:Nat}(h:ar τ As t):af P (d+2) 25 [.loc l,iV t] σ=some (.bool (As.any uj),σ):=by
 obtain a:=T.a0
 match As,h with
 |[],h=>cases h;obtain r:=T.at (T.8.fst 2 _ rfl);exact run [.v a,.v r,.r,.r,.r,.r,.r,.r,.r,.r,.r,.r,.r] (by kernel_rfl)
 |[A],h=>simp only[abx,List.any_nil,aeX];exact yb T (d+1) (A:=A) h
 |a'::b::r',h=>
  refine jH (fJ.mp h) λts h1 h2 h3 h4 h5=> ?_;obtain r:=T.at h1
  classical
  obtain hb:∀i∈ts,af P (d+1) 25 [.loc l,iV i] σ=some (.bool (decide (∃c∈a'::b::r',au τ c i/\uj c=true)),σ):=λi hi=>by
   refine ah (h4 i hi) λc hc q=> ?_;simp only[yb T d q];congr 3;rw[aaC,decide_eq_true_eq];refine⟨λk=>⟨c,hc,q,k⟩,λi4=>dw i4 λc' L5 q' k=> ?_⟩;cases c with
   |cond=>rfl
   |n x=>simp only[au]at q;rw[mU T.8 q' q]at k;exact k
  refine pE (Ea T (d+1) (iV t) (dU ts) none none ts _ none hb) λy3 lp=> ?_;obtain e:ts.any (λi=>decide (∃c∈a'::b::r',au τ c i/\uj c=true))=(a'::b::r').any uj:=by
   rw[aaC,abn,abn];constructor
   ·rintro ⟨i,hi,k⟩
    refine dw (of_decide_eq_true k) λc hc ab k=> ?_;exact⟨c,hc,k⟩
   ·rintro ⟨c,hc,k⟩
    refine ah (h5 c hc) λi hi q=> ?_;exact⟨i,hi,decide_eq_true ⟨c,hc,q,k⟩⟩
  rw[e]at lp;cases hx:(a'::b::r').any uj
  ·rw[hx]at lp;exact run [.v a,.v r,.r,.r,.r,.r,.r,.r,.l lp,.r,.r,.r,.r,.r] (by kernel_rfl)
  ·rw[hx]at lp;exact run [.v a,.v r,.r,.r,.r,.r,.r,.r,.l lp] (by kernel_rfl)
end
noncomputable def rW(k:Int):Bool:=k==1 ||k==2 ||k==3 ||k==4 ||k==5
theorem rX{k:Int}(h:rW k=true):k≠6/\k≠7/\k≠8/\k≠9/\k≠19/\k≠18/\k≠12/\k≠13/\k≠16/\k≠17/\k≠10:=by simp only[rW,abd,beq_iff_eq]at h;rcases h with(((h|h)|h)|h)|h<;>subst h<;>decide
noncomputable def RA:V:= .pG [.int 11,.int 14,.int 15,.int 16,.int 17] [.tup [.int 1,.int 2],.tup [.int 1,.int 2],.tup [.int 1,.int 3],.tup [.int 1,.int 5],.tup [.int 2,.int 5]]
theorem Eb(d:Nat)(σ:St){v:V}{k:Int}(h:bS σ v (.int 0)=some (.int k))(hk:rW k=true):af P (d+1) 15 [v] σ=some (.bI [],cw σ []):=by
 obtain⟨n6,n7,n8,n9,SD,SE,SF,Km,_⟩:=rX hk;obtain c0:aS σ .isin (.int k) RA=some false:=by simp only[rW,abd,beq_iff_eq]at hk;rcases hk with(((e |e) |e) |e) |e<;>subst e<;>rfl
 exact run [.v h,.b c0,.b (eq_int (s:=σ) (decide_eq_false n6)),.b (eq_int (s:=σ) (decide_eq_false n7)),.b (eq_int (s:=σ) (decide_eq_false n8)),.b (eq_int (s:=σ) (decide_eq_false n9)),.b (eq_int (s:=σ) (decide_eq_false SD)),.b (eq_int (s:=σ) (decide_eq_false SE)),.b (eq_int (s:=σ) (decide_eq_false SF)),.b (eq_int (s:=σ) (decide_eq_false Km)),.f (aP σ []),.r] (by kernel_rfl)
theorem rY(d:Nat)(σ:St){v:V}{k:Int}(h:bS σ v (.int 0)=some (.int k))(UR:k≠13)(US:k≠16)(UT:k≠17):af P (d+1) 16 [v] σ=some (.tup [],σ):=by exact run [.v h,.b (eq_int (s:=σ) (decide_eq_false UR)),.v h,.b (eq_int (s:=σ) (decide_eq_false US)),.v h,.b (eq_int (s:=σ) (decide_eq_false UT)),.r] (by kernel_rfl)
theorem Hx(d s7 fr:Nat)(σ:St):∃aq,Ext σ aq/\af P (d+3) 15 [gJ s7 fr] σ=some (.bI [iV s7],aq):=by
 obtain k1:af P (d+1) 13 [.tup []] σ=some (.bI [],cw σ []):=by exact run [.r,.f (aP σ []),.r] (by kernel_rfl)
 obtain k2:af P (d+1) 13 [.tup []] (cw σ [])=some (.bI [],cw (cw σ []) []):=by exact run [.r,.f (aP (cw σ []) []),.r] (by kernel_rfl)
 obtain c1:cB (λr s=>bR P (af P (d+1)) (ce 14 0) r s) (λr s=>il P (af P (d+1)) (cc 14 0) r s) [some (gJ s7 fr),none,none] [.tup [.str [112],iV s7,.int 0,.int 0]] σ=some ([iV s7],σ):=by kernel_rfl
 obtain lp:dk 2 (λr s=>dS P (af P (d+1)) (lb 14 0) r s) [] [some (gJ s7 fr),some (.bI [iV s7]),none] σ=some (.next,[some (gJ s7 fr),some (.bI [iV s7]),none],σ):=rfl;obtain k3:af P (d+2) 14 [gJ s7 fr] σ=some (.bI [iV s7],cw (cw σ []) []):=by exact run [.r,.r,.r,.m c1,.r,.r,.r,.r,.l lp,.r,.c k1,.r,.r,.c k2,.r,.r] (by kernel_rfl)
 refine cq (cw (cw σ []) []) ((Ext.cw σ []).trans (Ext.cw (cw σ []) [])) ?_;exact run [.r,.r,.r,.r,.r,.c k3,.r] (by kernel_rfl)
theorem Ks(d:Nat)(ts:List Nat)(hl:ts.length<64)(σ:St):af P (d+1) 15 [dU ts] σ=some (.bI (ts.map iV),σ):=by
 obtain hb:some (decide ((ts.map iV).length<big))=some true:=gq (by rw[aae];exact hl);obtain c1:cB (λr s=>bR P (af P d) (ce 15 1) r s) (λr s=>il P (af P d) (cc 15 1) r s) [some (dU ts),some (.int 6),none,none] (ts.map iV) σ=some (ts.map iV,σ):=fG (f:=iV) (g:=iV) ts (λab ai=>by kernel_rfl) λab ai=>by kernel_rfl
 exact run [.r,.r,.r,.r,.r,.b hb,.m c1,.r] (by kernel_rfl)
theorem lS(d l:Nat){σ aq:St}{v:V}{k:Int}{vs:List V}(Pk:af P (d+3) 15 [v] σ=some (.bI vs,aq))(h:bS aq v (.int 0)=some (.int k))(UR:k≠13)(US:k≠16)(UT:k≠17):af P (d+4) 17 [.loc l,v] σ=some (.bI vs,aq):=by obtain lp:dk 3 (λr s=>dS P (af P (d+3)) (lb 17 0) r s) [] [some (.loc l),some v,some (.bI vs),none] aq=some (.next,[some (.loc l),some v,some (.bI vs),none],aq):=rfl;exact run [.c Pk,.c (rY (d+2) aq h UR US UT),.r,.l lp,.r] (by kernel_rfl)
def Lf(τ:TT)(i:Nat):Prop:=∃v k,τ.R[i]? =some v/\(∀σ,bS σ v (.int 0)=some (.int k))/\rW k=true
def Ob(τ:TT)(i:Nat):Prop:=∃s7 fr,τ.R[i]? =some (gJ s7 fr)/\τ.R[s7]? =some D6
def Gd(τ:TT)(i w:Nat):Prop:=(Lf τ i/\1<=w)\/(Ob τ i/\2<=w)\/∃ts:List Nat,τ.R[i]? =some (dU ts)/\ts.length<64/\(∀j∈ts,Lf τ j\/Ob τ j)/\1+2*ts.length<=w
def SG(τ:TT)(i:Nat):Prop:=∃v k,τ.R[i]? =some v/\(∀σ,bS σ v (.int 0)=some (.int k))/\k≠13/\k≠16/\k≠17/\k≠10
noncomputable abbrev tot(W:List (Nat×Nat)):Nat:=(W.map (λx=>x.2)).sum
abbrev lV(W:List (Nat×Nat)):List V:=W.map λp=>iV p.1
theorem Kt{τ:TT}{l i w:Nat}(h:Gd τ i w)(d:Nat)(σ:St):∃(kids:List (Nat×Nat)) (aq:St) (v:V),τ.R[i]? =some v/\Ext σ aq/\af P (d+4) 17 [.loc l,v] σ=some (.bI (lV kids),aq)/\(∀p∈kids,Gd τ p.1 p.2)/\tot kids+1<=w/\kids.length<64/\SG τ i:=by
 rcases h with⟨⟨v,k,h1,h2,h3⟩,hw⟩ |⟨⟨s7,fr,h1,h2⟩,hw⟩ |⟨ts,h1,h2,h3,hw⟩
 ·obtain⟨n6,n7,n8,n9,SD,SE,SF,Km,Pz,UU,UW⟩:=rX h3;exact MH [] (cw σ []) v h1 (Ext.cw σ []) (lS d l (Eb (d+2) σ (h2 σ) h3) (h2 _) Km Pz UU) (aar _) hw (by decide) ⟨v,k,h1,h2,Km,Pz,UU,UW⟩
 ·refine ah (Hx d s7 fr σ) λaq x e=> ?_;exact MH [(s7,1)] aq _ h1 x (lS d l e rfl (by decide:(8:Int)≠13) (by decide) (by decide)) (λp hp=>by rw[aag.mp hp];exact .inl ⟨⟨_,4,h2,λab=>rfl,rfl⟩,aab _⟩) hw (by show 1<64;decide) ⟨_,8,h1,λab=>rfl,by decide,by decide,by decide,by decide⟩
 ·have e:=Ks (d+2) ts h2 σ;have e':lV (ts.map λj=>(j,2))=ts.map iV:=by show((ts.map λj=>(j,2)).map λp=>iV p.1)=_;exact aay.trans rfl
  have t':tot (ts.map λj=>(j,2))=2*ts.length:=by
   show((ts.map λj=>(j,2)).map (λx=>x.2)).sum=_;clear e e' h1 h2 h3 hw;induction ts with
   |nil=>rfl
   |cons a r ih=>simp only[aaH,abE,ih,aax];simp+arith
  refine MH (ts.map λj=>(j,2)) σ _ h1 (Ext.refl σ) (by rw[e'];exact lS d l e rfl (by decide:(6:Int)≠13) (by decide) (by decide)) (λp hp=> ?_) (by rw[t'];lia) (by rw[aae];exact h2) ⟨_,6,h1,λab=>rfl,by decide,by decide,by decide,by decide⟩;refine ah (aal.mp hp) λj hj e=> ?_;subst e;exact(h3 j hj).elim (λq=> .inl ⟨q,by show 1<=2;decide⟩) λq=> .inr (.inl ⟨q,aab _⟩)
theorem uA{s:St}{k:Nat}{vs:List V}(h:s.f k= .lst vs):cx s (.loc k)=some (!vs.isEmpty):=by show om (s.f k).eW _=_;rw[h];rfl
theorem Ku{s:St}{k:Nat}{vs:List V}{v:V}(h:s.f k= .lst (vs++[v])):MP s (.loc k)=some (v,s.set k (.lst vs)):=by show om (s.f k).eW _=_;rw[h];show om (vs++[v]).getLast? _=_;rw[List.getLast?_concat];show some (v,s.set k (.lst (vs++[v]).dropLast))=_;rw[List.dropLast_concat]
theorem OC{s:St}{k:Nat}{l:List V}(h:s.f k= .lst l)(P:Prog):dA P s .pop (.loc k)=some 0:=by show om (s.f k).eW _=_;rw[h];rfl
theorem Ec{σ:St}{g:Nat}{G:List Nat}(h:σ.f g=fM G)(i:Nat):aS σ .jJ (iV i) (.loc g)=some (!decide (i∈G)):=by show om (E6 σ (iV i) (.loc g)) _=_;rw[show E6 σ (iV i) (.loc g)=_ from(iB h i)];rfl
theorem Hz{τ:TT}{i w:Nat}(h:Gd τ i w):1<=w:=by rcases h with h |h |⟨_,_,_,_,h⟩<;>lia
theorem Kv{τ:TT}:∀{W:List (Nat×Nat)},(∀p∈W,Gd τ p.1 p.2)->W.length<=tot W:=by
 intro v_;induction v_ with
 |nil=>intro dJ;exact aab _
 |cons p W ih=>intro h;obtain h1:=Hz (h p aac);obtain h2:=ih λq hq=>h q (aaf _ hq);show W.length+1<=p.2+tot W;lia
inductive Rl(τ:TT)(σ:St)(sn wt:Nat)(W:List (Nat×Nat))(G:List Nat)(s:St):Prop
 |mk(x:Ext σ s)(ks:sn<s.n)(kw:wt<s.n)(fs:s.f sn=fM G)(fw:s.f wt= .lst (lV W))(nd:G.Nodup)(gG:∀i∈G,SG τ i)(gW:∀p∈W,Gd τ p.1 p.2)
noncomputable abbrev PA(l:Nat)(t:V)(sn wt:Nat)(x4:Option V):En:=[some (.loc l),some t,some (.loc sn),some (.loc wt),x4]
abbrev SH(d l:Nat)(t:V)(sn wt N:Nat)(x4:Option V)(s:St):Res:=oX (λr s=>wh P (af P (d+4)) (lc 18 0) r s) (λr s=>dS P (af P (d+4)) (lb 18 0) r s) N (PA l t sn wt x4) s
def Rr(τ:TT)(σ:St)(l:Nat)(t:V)(sn wt:Nat)(x:Res):Prop:=∃G' s' y4,Ext σ s'/\s'.f sn=fM G'/\G'.Nodup/\(∀i∈G',SG τ i)/\G'.length<64/\x=some (.next,PA l t sn wt y4,s')
theorem vK(W W':List (Nat×Nat)):tot (W++W')=tot W+tot W':=by show(aeG _ _).sum=_;simp only[aaG,adb]
theorem Aj{l:Nat}{τ:TT}{σ:St}(T:Tb l τ σ)(d sn wt:Nat)(t:V)(hs:σ.n<=sn)(hw:σ.n<=wt)(sZ:sn≠wt)(N:Nat):∀(W:List (Nat×Nat)) (G:List Nat) (s:St) (x4:Option V),Rl τ σ sn wt W G s->tot W<N->G.length+tot W<64->Rr τ σ l t sn wt (SH d l t sn wt N x4 s):=by
 induction N with
 |zero=>intro W G s x4 dJ h dJ;exact absurd h (acK _)
 |succ N ih=>
  intro W G s x4 R hN Je;refine aaI (List.eq_nil_or_concat W) (λe=> ?_) λaw=>sO aw λW0 p e=> ?_
  ·subst e;obtain tt:wh P (af P (d+4)) (lc 18 0) (PA l t sn wt x4) s=some (false,s):=GR [.b (uA R.5)] (by kernel_rfl);exact⟨G,s,x4,R.1,R.4,R.6,R.7,Je,aQ tt⟩
  ·rw[List.concat_eq_append]at e;subst e;obtain fw:s.f wt= .lst (lV W0++[iV p.1]):=R.5.trans (congrArg O.lst aaG);rw[vK]at hN Je;obtain tr:=uA fw;rw[show(!(lV W0++[iV p.1]).isEmpty)=true by cases lV W0<;>rfl]at tr;obtain go:∀{W1 G1 s1},dS P (af P (d+4)) (lb 18 0) (PA l t sn wt x4) s=some (.next,PA l t sn wt (some (iV p.1)),s1)->Rl τ σ sn wt W1 G1 s1->tot W1<N->G1.length+tot W1<64->Rr τ σ l t sn wt (SH d l t sn wt (N+1) x4 s):=λ{W1 G1 s1} b R a c=>by
    obtain e:SH d l t sn wt (N+1) x4 s=SH d l t sn wt N (some (iV p.1)) s1:=(aQ (GR [.b tr] (by kernel_rfl):wh P (af P (d+4)) (lc 18 0) (PA l t sn wt x4) s=some (true,s))).trans (os_eq b);exact e▸ih W1 G1 s1 (some (iV p.1)) R a c
   obtain cp:=OC fw P;obtain pp:=Ku fw;obtain gp:=R.8 p (acB _ aac);obtain UX:∀q∈W0,Gd τ q.1 q.2:=λq hq=>R.8 q (acf _ hq);obtain UY:(s.set wt (.lst (lV W0))).f sn=fM G:=(if_neg sZ).trans R.4;obtain ni:=Ec UY p.1;obtain e1:tot [p]=p.2:=acL _;obtain p1:=Hz gp;rw[e1]at hN Je;by_cases hm:p.1∈G
   ·rw[decide_eq_true hm]at ni;exact go (eR [.n cp,.c pp,.r,.b ni] (by kernel_rfl)) ⟨R.1.set hw _,R.2,R.3,UY,cz ..,R.6,R.7,UX⟩ (by lia) (by lia)
   ·rw[decide_eq_false hm]at ni;obtain bb:(1000000:Nat)=big:=rfl;obtain lW:=Kv UX;obtain sg:=qj UY (by lia) p.1;obtain eG:fE G p.1=G++[p.1]:=if_neg hm;rw[eG]at sg;obtain x2:=(R.1.set hw (.lst (lV W0))).set hs (fM (G++[p.1]));obtain WO:((s.set wt (.lst (lV W0))).set sn (fM (G++[p.1]))).f wt= .lst (lV W0):=(if_neg (acR sZ)).trans (cz ..);refine MI (Kt (l:=l) gp d ((s.set wt (.lst (lV W0))).set sn (fM (G++[p.1])))) λkids s3 v r1 x3 Y4 gk tk lk sd=> ?_;obtain T2:=T.ext x2;obtain WQ:=fA x3 R.3 WO;obtain WR:=fA x3 R.2 (cz (s.set wt (.lst (lV W0))) sn (fM (G++[p.1])));obtain ee:cX (af P (d+4)) s3 .extend 0 (.loc wt) [.bI (lV kids)]=some (.none,s3.set wt (.lst (lV W0++lV kids))):=B4 WQ.2 (by simp only[aae,<-bb];lia);exact go (eR [.n cp,.c pp,.r,.b ni,.s sg,.n (B5 WO P),.v T2.a0,.v (T2.at r1),.c Y4,.c ee] (by kernel_rfl)) ⟨(x2.trans x3).set hw _,WR.1,WQ.1,(if_neg sZ).trans WR.2,(cz ..).trans (congrArg O.lst (aaG ..).symm),eG▸qi R.6,abM.mpr ⟨R.7,abF.mpr sd⟩,abM.mpr ⟨UX,gk⟩⟩ (by rw[vK];lia) (by rw[vK,aah,abv];lia)
theorem Kw{l:Nat}{τ:TT}{σ:St}(T:Tb l τ σ)(d:Nat){t w:Nat}(h:Gd τ t w)(hw:w<63):∃(G':List Nat) (s':St),Ext σ s'/\G'.Nodup/\(∀i∈G',SG τ i)/\G'.length<64/\af P (d+5) 18 [.loc l,iV t] σ=some (.bI ((dc G').map iV),s'):=by obtain t1:tot [(t,w)]=w:=acL _;refine CP (Aj T d σ.n (σ.n+1) (iV t) (aab _) (aaK _) (aaF (aap _)) 5000 [(t,w)] [] ((σ.new (fM [])).new (.lst [iV t])) none ⟨(Ext.new σ _).trans (Ext.new _ _),abq (aap _),aap _,(if_neg (aaF (aap _))).trans (bY ..),bY ..,abA,aar _,abF.mpr h⟩ (by rw[t1];lia) (by show 0+_<64;lia)) λG' s' y4 q1 q2 q3 q4 q5 q6=> ?_;exact pF G' s' q1 q3 q4 q5 (run [.r,.l q6,.c (rU q2 q5),.r] (by kernel_rfl))
theorem any_none{s:St}:∀vs:List Nat,IW s (vs.map λab=> .tup [])=some false:=by
 intro v_;induction v_ with
 |nil=>exact rfl
 |cons ab vs ih=>exact ih
theorem Ed{l:Nat}{τ:TT}{σ:St}(T:Tb l τ σ)(d:Nat){t w:Nat}(h:Gd τ t w)(hw:w<63):∃s',Ext σ s'/\af P (d+6) 19 [.loc l,iV t] σ=some (.tup [],s'):=by
 refine kU (Kw T d h hw) λG' s1 x1 nd gd hl e1=> ?_;obtain T1:=T.ext x1;obtain ge:aS σ .lt (iV t) (.int 0)=some false:=congrArg some (decide_eq_false (by have:=abl t;simp+arith));obtain hb:some (decide (((dc G').map iV).length<big))=some true:=gq (by simp only[aae,uz];exact hl);obtain row:∀i∈dc G',∃v k,τ.R[i]? =some v/\(∀σ,bS σ v (.int 0)=some (.int k))/\k≠13/\k≠16/\k≠17/\k≠10:=λi hi=>gd i (kK.mp hi);obtain a0:=T1.a0;obtain c1:cB (λr s=>bR P (af P (d+5)) (ce 19 0) r s) (λr s=>il P (af P (d+5)) (cc 19 0) r s) [some (.loc l),some (iV t),some (.bI ((dc G').map iV)),none,none,none,none] ((dc G').map iV) s1=some ((dc G').map λab=> .tup [],s1):=
  fG (dc G') (λab ai=>by kernel_rfl) λi hi=>by refine ME (row i hi) λv k h1 h2 h3 h4 h5 ab=> ?_;obtain r:=T1.at h1;exact bU [.v a0,.v r,.c (rY (d+4) s1 (h2 s1) h3 h4 h5)] (by kernel_rfl)
 have c2:cB (λr s=>bR P (af P (d+5)) (ce 19 1) r s) (λr s=>il P (af P (d+5)) (cc 19 1) r s) [some (.loc l),some (iV t),some (.bI ((dc G').map iV)),none,none,none,none] ((dc G').map iV) s1=some (((dc G').filter λab=>false).map iV,s1):=by
  obtain this:∀vs:List Nat,(∀i∈vs,il P (af P (d+5)) (cc 19 1) ([some (.loc l),some (iV t),some (.bI ((dc G').map iV)),none,none,none,none]++[some (iV i)]) s1=some (false,s1))->cB (λr s=>bR P (af P (d+5)) (ce 19 1) r s) (λr s=>il P (af P (d+5)) (cc 19 1) r s) [some (.loc l),some (iV t),some (.bI ((dc G').map iV)),none,none,none,none] (vs.map iV) s1=some ((vs.filter λab=>false).map iV,s1):=by
   intro vs hv;induction vs with
   |nil=>rfl
   |cons i vs ih=>exact(aQ (hv i aac)).trans (ih λj hj=>hv j (aaf _ hj))
  refine this _ λi hi=> ?_;refine ME (row i hi) λv k h1 h2 h3 h4 h5 h6=> ?_;have r:=T1.at h1;have c:=eq_int (s:=s1) (decide_eq_false h6);have h0:=h2 s1;exact runC [.v a0,.v r,.v h0,.b c] (by kernel_rfl)
 have e0:((dc G').filter λab=>false).map iV=[]:=by
  obtain this:(dc G').filter (λab=>false)=[]:=aee.mpr λab ai h=>by cases h
  exact congrArg _ this
 rw[e0]at c2;have an:sX s1 .any (.bI ((dc G').map λab=>V.tup []))=some (.bool false,s1):=eB (any_none _);refine cq s1 x1 ?_;exact run [.r,.c e1,.r,.b hb,.m c1,.c an,.r,.b hb,.m c2,.r,.r,.r] (by kernel_rfl)
theorem Ci:∀x:Nm,yQ x=false->oG x=false->rW (wo x)=true:=by decide
theorem Cj{τ:TT}{x:Nm}{t:Nat}(h:az τ x t)(hp:oG x=false):Lf τ t\/Ob τ t:=by
 refine dM h λs7 p h1 h2 ab=> ?_;cases ho:yQ x
 ·exact .inl ⟨_,wo x,h1,λσ=>jd _ _ _ _ σ x,Ci x ho hp⟩
 ·refine .inr ⟨s7,if x=18 then 0 else 1,?_,h2 ho⟩;rw[dg,if_pos ho]at h1;exact h1
theorem yc{x:Nm}(h:x≠aT/\x≠aU):oG x=false:=by
 cases q:oG x
 ·rfl
 ·simp only[oG,abd,beq_iff_eq]at q;exact q.elim (λe=>(h.1 e).elim) λe=>(h.2 e).elim
theorem Ky{τ:TT}(ok:τ.Ok){ns:List Nm}{t:Nat}(h:ar τ (aR ns) t)(hc:ax ns)(hl:ns.length<=30):∃w,Gd τ t w/\w<63:=by
 match ns,h,hc,hl with
 |[],h,ab,ai=>cases h;exact cq 1 (.inl ⟨⟨_,1,ok.fst 2 _ rfl,λab=>rfl,rfl⟩,aab _⟩) (by decide)
 |[x],h,hc,ab=>
  obtain h:au τ (.n x) t:=h;refine aaI (Cj h (yc (hc x aac))) (λq=> ?_) λq=> ?_
  ·exact cq 2 (.inl ⟨q,by decide⟩) (by decide)
  ·exact cq 2 (.inr (.inl ⟨q,by decide⟩)) (by decide)
 |x::y::r,h,hc,hl=>refine jH (fJ.mp h) λts h1 h2 h3 h4 h5=> ?_;obtain lt:ts.length<=(aR (x::y::r)).length:=kJ ok (G:=ts) ⟨h4,h5⟩ (h2.imp λq=>aaF q) λab h=>h;simp only[aae]at lt;refine cq (1+2*ts.length) (.inr (.inr ⟨ts,h1,by lia,λj hj=> ?_,aab _⟩)) (by lia);refine ah (h4 j hj) λc Y5 q=> ?_;refine ah (aal.mp (show c∈(x::y::r).map Atom.n from Y5)) λz hz e=> ?_;subst e;exact Cj q (yc (hc z hz))
theorem pb{l:Nat}{τ:TT}{σ:St}(T:Tb l τ σ)(d:Nat){ns:List Nm}{t:Nat}(h:ar τ (aR ns) t)(hc:ax ns)(hl:ns.length<=30):∃s',Ext σ s'/\af P (d+6) 19 [.loc l,iV t] σ=some (.tup [],s'):=by refine ah (Ky T.8 h hc hl) λw h1 h2=> ?_;exact Ed T d h1 h2
theorem jA{σ:St}{l c:Nat}{fs:List (Nat×V)}(h:σ.f l= .ins c fs):freeze σ (.loc l)=(.loc l,σ):=by show(match σ.f l with | .lst vs=>(V.bI vs,_) | .bV ks vs=>(V.pG ks vs,_) |_=>_)=_;rw[h]
theorem Ee(d E F s7 p:Nat)(σ:St)(t tab:V):∀x:Nm,bR P (af P d) (bo 10 0) [some tab,some t,some (dg E F s7 p x)] σ=some (.bool (fresh x),σ):=cP (by kernel_rfl)
theorem Ef:∀x:Nm,fresh x=false->bare x=x:=by decide
section
variable {l:Nat}{τ:TT}{σ:St}(T:Tb l τ σ)
include T
theorem pg(d:Nat){x:Nm}{t r:Nat}(h:az τ x t)(hb:Cr (1+r) τ):Pg l τ σ (Na (bare x)) r (af P (d+2) 11 [.loc l,iV t] σ):=by
 refine dM h λs7 p h1 h2 h3=> ?_;obtain a0:=T.a0;obtain r:=T.at h1;obtain e:=Ee d τ.E τ.F s7 p σ (iV t) (.loc l) x;cases hf:fresh x
 ·rw[hf]at e;obtain k:af P (d+1) 10 [.loc l,iV t] σ=some (.bool false,σ):=by
   exact run [.v a0,.v r,.e e,.r] (by kernel_rfl)
  exact .mk (t:=t) (.refl T) (by rw[Ef x hf];exact h) (hb.le (aaj ..)) (run [.c k,.r] (by kernel_rfl))
 ·rw[hf]at e;have k:af P (d+1) 10 [.loc l,iV t] σ=some (.bool true,σ):=by
   exact run [.v a0,.v r,.e e,.r] (by kernel_rfl)
  obtain c1:=Ce τ.E τ.F s7 p σ x;obtain c2:=Cf τ.E τ.F s7 p σ x;rw[hf]at c1 c2;refine(gV T d (jz τ.E τ.F s7 p (bare x)) hb).el λt' ay aq p' r' c' e'=> ?_;refine .mk (t:=t') p' ⟨s7,p,by rw[p'.2.E,p'.2.F];exact r',λq=>p'.2.R _ _ (h2 ((oL x).1▸q)),λq=> ?_⟩ c' (run [.c k,.n T.pP,.v a0,.v r,.v c1,.v c2,.c e',.r] (by kernel_rfl));obtain k1:oG x=true:=(oL x).2▸q;have k2:=vG x k1;rw[hf]at k2;cases k2
end
theorem HA{l r:Nat}(d:Nat)(c tt:V)(ts:List Nat):∀(τ:TT) (σ:St),Tb l τ σ->(∀i∈ts,∃x,az τ x i)->Cr (ts.length+r) τ->∃(zs:List (Nm×Nat)) (ay:TT) (aq:St),wq l τ σ ay aq/\Cr r ay/\(∀z∈zs,az ay z.1 z.2)/\((∀z∈zs,∃i∈ts,∃x,az τ x i/\z.1=bare x)/\(∀i∈ts,∀x,az τ x i->∃z∈zs,z.1=bare x)/\zs.length=ts.length)/\
  cB (λr s=>bR P (af P (d+2)) (ce 12 0) r s) (λr s=>il P (af P (d+2)) (cc 12 0) r s) [some (.loc l),some tt] (ts.map iV) σ=some (zs.map λz=>iV z.2,aq):=by
 induction ts with
 |nil=>intro τ σ T dJ hb;exact jl [] τ σ (.refl T) ((aby r)▸hb) (aar _) ⟨aar _,aar _,rfl⟩ rfl
 |cons i ts ih=>
  intro τ σ T h hb;refine pE (h i aac) λx hx=> ?_;refine(pg T d hx (r:=ts.length+r) (by rw[<-abc,abf 1];exact hb)).el λt' fF bD p1 n1 c1 e1=> ?_;refine fq (ih fF bD p1.1 (λj hj=>(h j (aaf _ hj)).imp λy hy=>hy.mono p1.2) c1) λzs ay aq p2 c2 q1 q q5=> ?_;refine A3 q λq2 q3 q4=> ?_;refine jl ((bare x,t')::zs) ay aq (p1.trans p2) c2 (aaX.mpr ⟨az.mono p2.2 n1,q1⟩) ⟨?_,?_,by rw[aax,q4];rfl⟩ ?_
  ·intro z hz;rcases aam.mp hz with e |m
   ·exact⟨i,aac,x,hx,by rw[e]⟩
   ·obtain⟨j,hj,y,hy,e⟩:=q2 z m;obtain⟨y',Qp⟩:=h j (aaf _ hj);exact⟨j,aaf _ hj,y,(fj p1.1.8 (Qp.mono p1.2) hy)▸Qp,e⟩
  ·intro j hj y hy;rcases aam.mp hj with e |m
   ·cases e;exact⟨_,aac,by rw[fj T.8 hy hx]⟩
   ·exact ah (q3 j m y (hy.mono p1.2)) λz hz e=>⟨z,aaf _ hz,e⟩
  ·exact(aQ (by kernel_rfl:il P (af P (d+2)) (cc 12 0) [some (.loc l),some tt,some (iV i)] σ=some (true,σ))).trans ((aQ (bU [.c e1] (by kernel_rfl))).trans (aQ q5))
theorem ph{l:Nat}{τ:TT}{σ:St}(T:Tb l τ σ)(d:Nat){zs:List (Nm×Nat)}{c:V}(hc:itemsOf c=some (zs.map λz=>iV z.2))(h:∀z∈zs,az τ z.1 z.2)(hl:zs.length<=61){r:Nat}(hb:Cr (1+r) τ):Pg l τ σ (Ty (less (aR (zs.map (λx=>x.1))))) r (af P (d+3) 9 [.loc l,c] σ):=by
 obtain ef:∀zs:List (Nm×Nat),(zs.map λz=>(([.n z.1],z.2):List Atom×Nat)).flatMap (λx=>x.1)=aR (zs.map (λx=>x.1)):=λzs=>by
  induction zs with
  |nil=>rfl
  |cons a l ih=>exact congrArg (Atom.n a.1::·) ih
 refine ef zs▸mX d c T (zs.map λz=>([.n z.1],z.2)) (hc.trans (by rw[aay];rfl)) (λp hp=>ah (aal.mp hp) λz hz e=> ?_) (λp hp a ha=>ah (aal.mp hp) λz hz e=> ?_) ?_ hb
 ·rw[<-e];show au τ (.n z.1) z.2;simp only[au];exact h z hz
 ·rw[<-e]at ha;simp only[aag.mp ha];trivial
 ·simp only[ef,aae,aae];exact hl
theorem regular{l:Nat}{τ:TT}{σ:St}(T:Tb l τ σ)(d:Nat){ns:List Nm}{t:Nat}(h:ar τ (aR ns) t)(hl:ns.length<=30){g:Nat}(hb:Cr (31+g) τ):Pg l τ σ (Ty (less (aR (ns.map bare)))) g (af P (d+4) 12 [.loc l,iV t] σ):=by
 obtain k0:=vE T (d+2) h
 match ns,h,hl,k0 with
 |[],h,ab,k0=>
  cases h;obtain r:=T.at (T.8.fst 2 _ rfl);obtain k:af P (d+2) 10 [.loc l,iV 2] σ=some (.bool false,σ):=by exact run [.v T.a0,.v r,.r,.r,.r] (by kernel_rfl)
  obtain k1:af P (d+3) 11 [.loc l,iV 2] σ=some (iV 2,σ):=by exact run [.c k,.r] (by kernel_rfl)
  exact .mk (t:=2) (.refl T) rfl (hb.le (aaj ..)) (run [.c k0,.r,.c k1,.r] (by kernel_rfl))
 |[x],h,ab,k0=>
  obtain h:au τ (.n x) t:=h;refine(pg T (d+1) h (hb.le (aat (by decide) g))).el λt' ay aq p n c e=> ?_;obtain k0:af P (d+3) 0 [.loc l,iV t] σ=some (.int (wo x),σ):=k0;refine .mk (t:=t') p ?_ c ?_
  ·obtain e:less (aR [bare x])=aR [bare x]:=by rw[<-aY,aO]
   show ar ay (less (aR [bare x])) t';rw[e];show au ay (.n (bare x)) t';simp only[au];exact n
  ·exact run [.c k0,.b (eq_int (s:=σ) (decide_eq_false (jx x).1)),.c e,.r] (by kernel_rfl)
 |x::y::r,h,hl,k0=>
  refine dw (j0 T (d+2) h) λts e1 k1 k2=> ?_;obtain hx:∀i∈ts,∃z,az τ z i:=λi hi=>by refine ah (k2.1 i hi) λc hc q=> ?_;refine ah (aal.mp hc) λz ab e=> ?_;subst e;simp only[au]at q;exact⟨z,q⟩
  have lt:=kJ T.8 k2 (k1.imp λq=>aaF q) λab h=>h;simp only[aae]at lt;refine fq (HA (l:=l) (r:=1+g) (d+1) (.none) (iV t) ts τ σ T hx (hb.le (by lia))) λzs fF bD p1 c1 q1 q q5=> ?_;obtain⟨q2,q3,q4⟩:=q;obtain ya:some (decide ((ts.map iV).length<big))=some true:=gq (by rw[aae];lia);refine(ph p1.1 d (c:= .bI (zs.map λz=>iV z.2)) rfl q1 (by lia) c1).el λt' ay aq p2 w1 c2 w2=> ?_;refine .mk (t:=t') (p1.trans p2) ((mG λb=> ?_)▸w1) c2 ?_
  ·constructor
   ·intro hb;refine ah (aal.mp hb) λw hw e=> ?_;refine ah (aal.mp hw) λz hz e'=> ?_;subst e;subst e';obtain⟨i,hi,u,hu,e⟩:=q2 z hz;refine ah (k2.1 i hi) λc hc q=> ?_;obtain this:=mU T.8 q hu;subst this;refine ah (aal.mp hc) λv hv e'=> ?_;cases e';rw[e];exact aan (aan hv)
   ·intro hb;refine ah (aal.mp hb) λw hw e=> ?_;refine ah (aal.mp hw) λz hz e'=> ?_;subst e;subst e';refine ah (k2.2 (.n z) (aan hz)) λi hi q=> ?_;refine ah (q3 i hi z q) λu hu e=> ?_;exact aan (e▸aan hu)
  ·obtain fz:=jA T.1;exact run [.c k0,.r,.f fz,.c e1,.r,.b ya,.m q5,.r,.c w2,.r] (by kernel_rfl)
theorem lX(s:St)(ts:List Nat)(i:Int):aS s .isin (.int i) (.tup (ts.map iV))=some (decide (∃j∈ts,(j:Int)=i)):=by refine(b7 (by rw[vI];rfl)).trans ?_;rw[acF,acN,aaC,abn,decide_eq_true_eq];exact⟨λi4=>ah i4 λj hj e=>⟨j,hj,(V.int.inj (beq_eq _ _ e)).symm⟩,λi4=>ah i4 λj hj e=>⟨j,hj,e▸fP _⟩⟩
theorem rZ{τ:TT}(ok:τ.Ok){S:List Atom}{G:List Nat}(H:eA τ S G){x:Nm}{i:Nat}(h:az τ x i):decide (∃j∈G,(j:Int)=(i:Int))=cA S (.n x):=by rw[aaC,decide_eq_true_eq,du,<-mV ok H h];exact⟨λi4=>ah i4 λj hj e=>aaO e▸hj,λm=>⟨i,m,rfl⟩⟩
theorem KA{τ:TT}{S:List Atom}{G:List Nat}(H:eA τ S G){x:Nm}(h:∀i,¬az τ x i):decide (∃j∈G,(j:Int)= -1)=cA S (.n x):=by
 rw[decide_eq_false λi4=>ah i4 λj ab e=>by lia];cases q:cA S (.n x)
 ·rfl
 ·refine ah (H.2 _ (du.mp q)) λi ab k=> ?_;exact(h i k).elim
noncomputable def valN(x:Nm):Option Nm:=[none,none,none,some 2,some 2,some 0,none,none,some 2].getD x none
section
variable {l:Nat}{τ:TT}{σ:St}(T:Tb l τ σ)
include T
theorem vL(d:Nat){v:V}(hv:V.isTup v=true):∃r:Int,cX (af P d) σ .get 0 (.loc (l+2)) [v,.int (-1)]=some (.int r,σ)/\((∃i:Nat,r=i/\τ.R[i]? =some v)\/(r= -1/\v∉τ.R)):=by
 have g:cX (af P d) σ .get 0 (.loc (l+2)) [v,.int (-1)]=some ((bx τ.R (nums τ.R.length) v).getD (.int (-1)),σ):=by show om (σ.f (l+2)).gP (λq=>og (bM (v::q.1)) (some ((bx q.1 q.2 v).getD (.int (-1)),σ)))=_;exact T.3▸b7 (T.sort hv)
 by_cases hm:v∈τ.R
 ·refine pE (adl hm) λi hi=> ?_;rw[T.find hi]at g;exact cq i g (.inl ⟨i,rfl,hi⟩)
 ·rw[oJ (row:=v) (λk hk e=>hm (by simp only[<-e];exact hk))]at g;exact cq (-1) g (.inr ⟨rfl,hm⟩)
theorem Tb.UZ:dA P σ .get (.loc (l+2))=some 0:=by show om (σ.f (l+2)).gP _=_;rw[T.3];rfl
theorem vM{S:List Atom}{G:List Nat}(H:eA τ S G)(z:Nm)(hz:yQ z=false/\oG z=false){r:Int}(h:(∃i:Nat,r=i/\τ.R[i]? =some (dg τ.E τ.F 0 0 z))\/(r= -1/\dg τ.E τ.F 0 0 z∉τ.R)):decide (∃j∈G,(j:Int)=r)=cA S (.n z):=by
 refine aaI h (λaZ=>ah aZ λi hi k=> ?_) λaw=>A2 aw λhr k=> ?_
 ·rw[hi];exact rZ T.8 H ⟨0,0,k,(by rw[hz.1];exactλq=>nomatch q),by rw[hz.2];exactλq=>nomatch q⟩
 ·rw[hr];refine KA H λi ⟨s7,p,k1,k2,k3⟩=>k ?_;simp only[rP T.8 (s7:=0) (p:=0) (Hj:=s7) (p':=p) (by rw[hz.1];exactλq=>nomatch q) k2 (by rw[hz.2];exactλq=>nomatch q) k3];exact abk k1
theorem yd(d:Nat){S:List Atom}{G:List Nat}(H:eA τ S G)(s7 p:Nat)(x:Nm):af P (d+1) 47 [.loc l,dg τ.E τ.F s7 p x,.tup (G.map iV)] σ=some (.bool (match valN x with |some z=>cA S (.n z) |none=>false),σ):=by
 obtain a1:=T.a1;obtain cg:=T.UZ;have hd:=jd τ.E τ.F s7 p σ x;have c5:=cP (f:=λx=>aS σ .ne (.int (wo x)) (.int 5)) (g:=λx=>some (valN x).isNone) (by kernel_rfl) x;obtain hc:valN x=none\/x=3\/x=4\/x=5\/x=8:=by clear c5 hd;revert x;decide
 rcases hc with e |e |e |e |e
 ·rw[e]at c5⊢;exact run [.v hd,.b c5,.r] (by kernel_rfl)
 ·cases e;refine ah (vL T d (v:=dg τ.E τ.F 0 0 2) (jz ..)) λr g k=> ?_;obtain i:=lX σ G r;rw[vM T H 2 ⟨rfl,rfl⟩ k]at i;exact run [.v hd,.r,.r,.r,.v a1,.n cg,.r,.c g,.b i,.r] (by kernel_rfl)
 ·subst e;refine ah (vL T d (v:=dg τ.E τ.F 0 0 2) (jz ..)) λr g k=> ?_;obtain i:=lX σ G r;rw[vM T H 2 ⟨rfl,rfl⟩ k]at i;exact run [.v hd,.r,.r,.r,.v a1,.n cg,.r,.c g,.b i,.r] (by kernel_rfl)
 ·subst e;refine ah (vL T d (v:=dg τ.E τ.F 0 0 0) (jz ..)) λr g k=> ?_;have i:=lX σ G r;rw[vM T H 0 ⟨rfl,rfl⟩ k]at i;exact run [.v hd,.r,.r,.r,.v a1,.n cg,.r,.c g,.b i,.r] (by kernel_rfl)
 ·subst e;refine ah (vL T d (v:=dg τ.E τ.F 0 0 2) (jz ..)) λr g k=> ?_;have i:=lX σ G r;rw[vM T H 2 ⟨rfl,rfl⟩ k]at i;exact run [.v hd,.r,.r,.r,.v a1,.n cg,.r,.c g,.b i,.r] (by kernel_rfl)
def okN(S:List Atom)(x:Nm):Bool:=cA S (.n x) ||((match wide x with |some w=>cA S (.n w) |none=>false) ||((match valN x with |some z=>cA S (.n z) |none=>false) ||(x==13 &&cA S (.n 15))))
theorem HB(d:Nat){S:List Atom}{G:List Nat}(H:eA τ S G)(s t:V)(x5 x6:Option V){x:Nm}{i:Nat}(h:az τ x i):∃y5 y6,dS P (af P (d+1)) (lb 48 0) [some (.loc l),some s,some t,some (.tup (G.map iV)),some (iV i),x5,x6] σ=some (if okN S x then .next else .ret (.bool false),[some (.loc l),some s,some t,some (.tup (G.map iV)),some (iV i),y5,y6],σ):=by
 refine dM h λs7 p h1 h2 h3=> ?_;obtain a0:=T.a0;obtain r:=T.at h1;obtain c1:=lX σ G (i:Int);rw[rZ T.8 H ⟨s7,p,h1,h2,h3⟩]at c1;obtain w1:=Cd d τ.E τ.F s7 p σ x;obtain c2:=lX σ G (j6 x);have e2:decide (∃j∈G,(j:Int)=j6 x)=(match wide x with |some w=>cA S (.n w) |none=>false):=by
  obtain⟨_,_,_,_,_,_,_,f6,f7,_⟩:=dH T.8;rcases rR x with⟨h1,h2⟩ |⟨h1,h2⟩ |⟨h1,h2⟩
  ·exact h1▸h2▸rZ T.8 H f6
  ·rw[h1,h2];exact rZ T.8 H f7
  ·rw[h1,h2];exact decide_eq_false λi4=>ah i4 λj ab e=>by lia
 rw[e2]at c2;obtain⟨_,_,_,_,_,_,_,_,_,f4,f3⟩:=dH T.8;have e4:decide ((i:Int)=4)=(x==13):=by
  rw[aaC,decide_eq_true_eq,beq_iff_eq];constructor
  ·intro e;obtain e:i=4:=aaO e;subst e;exact fj T.8 ⟨s7,p,h1,h2,h3⟩ f4
  ·intro e;subst e;exact congrArg _ (gH T.8 ⟨s7,p,h1,h2,h3⟩ f4)
 obtain c4:aS σ .eq (iV i) (.int 4)=some (x==13):=congrArg some e4;obtain c3:=lX σ G 3;rw[show decide (∃j∈G,(j:Int)=3)=cA S (.n 15)from(rZ T.8 H f3)]at c3;have q1:bR P (af P (d+1)) (bo 48 1) [some (.loc l),some s,some t,some (.tup (G.map iV)),some (iV i),some (dg τ.E τ.F s7 p x),x6] σ=some (.bool (cA S (.n x) ||((match wide x with |some w=>cA S (.n w) |none=>false) ||(match valN x with |some z=>cA S (.n z) |none=>false))),σ):=by
  generalize(match wide x with |some w=>cA S (.n w) |none=>false)=b2 at*
  generalize(match valN x with |some z=>cA S (.n z) |none=>false)=b3 at*
  generalize cA S (.n x)=b1 at*
  cases b1
  ·cases b2
   ·show _=some (V.bool b3,σ);exact bU [.b c1,.c w1,.b c2,.c (yd T d H s7 p x)] (by kernel_rfl)
   ·show _=some (V.bool true,σ);exact bU [.b c1,.c w1,.b c2] (by kernel_rfl)
  ·show _=some (V.bool true,σ);exact bU [.b c1] (by kernel_rfl)
 unfold okN;generalize(match wide x with |some w=>cA S (.n w) |none=>false)=b2 at*
 generalize(match valN x with |some z=>cA S (.n z) |none=>false)=b3 at*
 generalize cA S (.n x)=b1 at*
 generalize cA S (.n 15)=b5 at*
 obtain q2:∀b,bR P (af P (d+1)) (bo 48 3) [some (.loc l),some s,some t,some (.tup (G.map iV)),some (iV i),some (dg τ.E τ.F s7 p x),some (.bool b)] σ=some (.bool (x==13 &&b5),σ):=by
  intro b;revert c4;cases x==13
  ·intro c4;exact bU [.b c4] (by kernel_rfl)
  ·intro c4;exact bU [.b c4,.b c3] (by kernel_rfl)
 generalize(x==13 &&b5)=b6 at*
 have e6:(b1 ||(b2 ||(b3 ||b6)))=((b1 ||(b2 ||b3)) ||b6):=by cases b1<;>cases b2<;>cases b3<;>rfl
 rw[e6];generalize(b1 ||(b2 ||b3))=bh at*
 refine MD (some (dg τ.E τ.F s7 p x)) (some (.bool bh)) ?_;obtain qf:=q2 bh;clear q2;cases bh
 ·cases b6
  ·show _=some (Fl.ret (.bool false),_,σ);exact eR [.v a0,.v r,.e q1,.k,.e qf,.r] (by kernel_rfl)
  ·show _=some (Fl.next,_,σ);exact eR [.v a0,.v r,.e q1,.k,.e qf] (by kernel_rfl)
 ·show _=some (Fl.next,_,σ);exact eR [.v a0,.v r,.e q1] (by kernel_rfl)
end
theorem HC{l:Nat}{τ:TT}{σ:St}(T:Tb l τ σ)(d:Nat){S:List Atom}{G:List Nat}(H:eA τ S G)(s t:V)(ok:Nat->Bool):∀(ts:List Nat) (x4 x5 x6:Option V),(∀i∈ts,∃x,az τ x i/\ok i=okN S x)->∃y4 y5 y6,dk 4 (λr s=>dS P (af P (d+1)) (lb 48 0) r s) (ts.map iV) [some (.loc l),some s,some t,some (.tup (G.map iV)),x4,x5,x6] σ=some (if ts.all ok then .next else .ret (.bool false),[some (.loc l),some s,some t,some (.tup (G.map iV)),y4,y5,y6],σ):=by
 intro v_;induction v_ with
 |nil=>intro x4 x5 x6 dJ;exact IS x4 x5 x6 rfl
 |cons i ts ih=>
  intro x4 x5 x6 h;refine ah (h i aac) λx hx e=> ?_;refine sO (HB T d H s t x5 x6 hx) λy5 y6 b=> ?_;rw[<-e]at b;cases ho:ok i
  ·rw[ho]at b;exact IS _ _ _ ((eT b).trans (by rw[abe,ho];rfl))
  ·rw[ho]at b;refine MF (ih (some (iV i)) y5 y6 λj hj=>h j (aaf _ hj)) λz4 z5 z6 k=> ?_;exact IS z4 z5 z6 (((aJ b).trans k).trans (by rw[abe,ho];rfl))
theorem Al{τ:TT}(ok:τ.Ok){As:List Atom}{x:Nm}{t:Nat}(h:ar τ As t)(k:az τ x t):As=[.n x]:=by
 match As,h with
 |[],h=>cases h;refine eO k λs7 p h1 ab=> ?_;rw[ok.fst 2 _ rfl]at h1;exact absurd (aad h1).symm (ux _ _ _ _ x)
 |[a],h=>rw[mU ok (show au τ a t from h) k]
 |ab::ai::aD,⟨ts,h,bO⟩=>refine eO k λs7 p h1 ab=> ?_;rw[h]at h1;obtain this:=congrArg kd (aad h1);simp only[rO]at this;exact absurd this.symm (jx x).1
open Classical in
theorem HD{τ:TT}(ok:τ.Ok){As:List Atom}{x:Nm}{t i:Nat}(h:ar τ As t)(k:az τ x i):decide ((t:Int)=i)=decide (As=[.n x]):=by
 rw[aaC,decide_eq_true_eq,decide_eq_true_eq];constructor
 ·intro e;obtain e:t=i:=aaO e;subst e;exact Al ok h k
 ·intro e;subst e;obtain h:au τ (.n x) t:=h;rw[gH ok h k]
def oM(held asked:List Nm):Bool:=(less (aR (held.map bare))).all λa=>match a with | .n x=>okN (less (aR (asked.map bare))) x |_=>false
theorem lY{l:List Nm}{a:Atom}(h:a∈less (aR l)):∃x,a= .n x:=by
 rcases dr h with m |m |m
 ·refine ah (aal.mp m) λx ab e=> ?_;exact⟨x,e.symm⟩
 ·exact⟨9,m⟩
 ·exact⟨10,m⟩
theorem Eg{l:Nat}{τ:TT}{σ:St}(T:Tb l τ σ)(d:Nat){held asked:List Nm}{s t:Nat}(hs:ar τ (aR held) s)(ht:ar τ (aR asked) t)(h1:held.length<=30)(h2:asked.length<=30)(na:asked≠[20]/\asked≠[21]/\asked≠[22]){r:Nat}(hb:Cr (62+r) τ):∃ay aq,wq l τ σ ay aq/\Cr r ay/\af P (d+5) 48 [.loc l,iV s,iV t] σ=some (.bool (oM held asked),aq):=by
 refine cps λab kk=> ?_
 classical
 refine A4 (dH T.8) λf0 g1 IJ ab=> ?_;obtain ne:∀(x:Nm) (i:Nat),az τ x i->asked≠[x]->aS σ .eq (iV t) (iV i)=some false:=λx i k h=>congrArg some ((HD T.8 ht k).trans (decide_eq_false λe=>h (o6 (l':=[x]) e)));obtain c0:=ne 20 0 f0 na.1;obtain c1:=ne 21 1 g1 na.2.1;obtain WS:=ne 22 13 IJ na.2.2;refine(regular T d ht h2 (g:=31+r) (Cr.as hb)).el λt' fF bD p1 t1 Y6 e1=> ?_;refine dw (j0 p1.1 (d+3) t1) λG e2 ab H=> ?_;refine(regular p1.1 d (hs.mono p1.2) h1 Y6).el λs' jG dx p2 t2 c2 e3=> ?_;refine dw (j0 p2.1 (d+3) t2) λts e4 ab K=> ?_;obtain H2:eA jG (less (aR (asked.map bare))) G:=⟨λi hi=>(H.1 i hi).imp λa h=>⟨h.1,au.mono p2.2 a i h.2⟩,λa ha=>(H.2 a ha).imp λi h=>⟨h.1,au.mono p2.2 a i h.2⟩⟩;let ok:Nat->Bool:=λi=>decide (∃x,az jG x i/\okN (less (aR (asked.map bare))) x=true);refine MF (HC p2.1 (d+3) H2 (iV s) (iV t) ok ts none none none λi hi=>by refine ah (K.1 i hi) λa ha q=> ?_;obtain⟨x,e⟩:=lY ha;subst e;refine⟨x,q,?_⟩;rw[aaC,decide_eq_true_eq];exact⟨λi4=>ah i4 λy hy k=>fj p2.1.8 hy q▸k,λk=>⟨x,q,k⟩⟩) λy4 y5 y6 lp=> ?_
 have eu:ts.all ok=oM held asked:=by
  unfold oM;rw[aaC,aas,aas];constructor
  ·intro h a ha;obtain⟨x,e⟩:=lY ha;subst e;refine ah (K.2 _ ha) λi hi q=> ?_;refine ah (of_decide_eq_true (h i hi)) λy hy k=> ?_;exact fj p2.1.8 hy q▸k
  ·intro h i hi;refine ah (K.1 i hi) λa ha q=> ?_;obtain⟨x,e⟩:=lY ha;obtain this:=h a ha;subst e;exact decide_eq_true ⟨x,q,this⟩
 rw[eu]at lp;refine kk<|jk jG dx (p1.trans p2) c2 ?_
 cases hu:oM held asked
 ·rw[hu]at lp;exact run [.b c0,.b c1,.b WS,.c e1,.c e2,.c e3,.c e4,.r,.l lp] (by kernel_rfl)
 ·rw[hu]at lp;exact run [.b c0,.b c1,.b WS,.c e1,.c e2,.c e3,.c e4,.r,.l lp,.r] (by kernel_rfl)
theorem Am:∀z:Nm,bare z=z->rooms z=[z]++(valN z).toList++(wide z).toList++(if z==13 then[15]else[]):=by decide
theorem sa:∀x:Nm,rooms (bare x)=rooms x:=by decide
theorem ye(l:List Nm)(z:Nm)(hz:bare z=z):okN (aR l) z=(rooms z).any l.contains:=by rw[Am z hz];unfold okN;cases wide z<;>cases valN z<;>cases hq:(z==13)<;>simp[Mm,Bool.or_assoc,Bool.or_comm,Bool.or_left_comm]
theorem Eh:∀x w:Nm,wide x=some w->∀y:Nm,bare y=w->y=w:=by decide
theorem kL:∀y:Nm,(bare y=9↔y=9\/y=11)/\(bare y=10↔y=10\/y=12)/\bare y≠11/\bare y≠12:=by decide
theorem Ei:∀y:Nm,(bare y=gI\/bare y=aL\/bare y=tj)->bare y=y:=by decide
theorem HE(y:Nm)(h:cu (bare y)):bare y=y:=Ei y h
theorem sf{l:List Nm}(h:aC l=l)(a:Atom):a∈less (aR (l.map bare))↔a∈aR (l.map bare):=by
 have hl:less (aR l)=aR l:=by rw[<-aY,h]
 rcases h▸eN l with ht |⟨z,hz,e⟩
 ·have t0:top (aR l)=none:=ig.mpr λx hx m=>by
   obtain⟨y,hy,e⟩:=aal.mp m;cases e;exact ht _ hy hx
  have t1:top (aR (l.map bare))=none:=ig.mpr λx hx m=>by obtain⟨y,hy,e⟩:=aal.mp m;cases e;refine ah (aal.mp hy) λu hu e=> ?_;subst e;have:=HE u hx;rw[this]at hx;exact ht u hu hx
  have mem:∀{x:Nm},.n x∈aR (l.map bare)↔∃u∈l,bare u=x:=λ{x}=>by
   constructor
   ·intro m;obtain⟨y,hy,e⟩:=aal.mp m;cases e;exact aal.mp hy
   ·rintro ⟨u,hu,e⟩
    subst e;exact aan (aan hu)
  have inl:∀{x:Nm},.n x∈aR l↔x∈l:=λ{x}=>⟨λm=>by obtain⟨y,hy,e⟩:=aal.mp m;cases e;exact hy,aan⟩;obtain kp:∀{x:Nm},x∈l->¬tm (bools (aR l)) x:=λ{x} hx=>by
   obtain this: .n x∈less (aR l):=by rw[hl];exact inl.mpr hx
   rw[aN t0,kept,aaN,dq]at this;exact this.2 x rfl
  obtain nine:both (aR (l.map bare))->9∈l/\10∈l:=λhB=>by
   obtain hb:both (aR l):=by
    constructor
    ·rcases hB.1 with m |m
     ·obtain⟨u,hu,e⟩:=mem.mp m;exact((kL u).1.mp e).elim (λe=> .inl (inl.mpr (e▸hu))) λe=> .inr (inl.mpr (e▸hu))
     ·obtain⟨u,hu,e⟩:=mem.mp m;exact((kL u).2.2.1 e).elim
    ·rcases hB.2 with m |m
     ·obtain⟨u,hu,e⟩:=mem.mp m;exact((kL u).2.1.mp e).elim (λe=> .inl (inl.mpr (e▸hu))) λe=> .inr (inl.mpr (e▸hu))
     ·obtain⟨u,hu,e⟩:=mem.mp m;exact((kL u).2.2.2 e).elim
   obtain k:∀x:Nm,(x=9\/x=10)->x∈l:=λx hx=>by
    obtain m: .n x∈less (aR l):=by
     rw[aN t0,kept,aaN,dq];refine⟨aH.mpr (.inr ⟨hb,hx.imp (congrArg _) (congrArg _)⟩),λy e d=> ?_⟩;cases e;rcases d with⟨d,_⟩ |⟨w,d,_⟩
     ·rcases hx with e |e<;>subst e<;>exact d rfl
     ·rcases hx with e |e<;>subst e<;>cases d
    rw[hl]at m;exact inl.mp m
   exact⟨k 9 (.inl rfl),k 10 (.inr rfl)⟩
  rw[aN t1,kept,aaN];constructor
  ·rintro ⟨m,_⟩
   rcases aH.mp m with m |⟨hB,e |e⟩
   ·exact m
   ·rw[e];exact mem.mpr ⟨9,(nine hB).1,rfl⟩
   ·rw[e];exact mem.mpr ⟨10,(nine hB).2,rfl⟩
  ·intro m;refine⟨aH.mpr (.inl m),dq.mpr λx e d=> ?_⟩;subst e;refine ah (mem.mp m) λu hu e=> ?_;refine aaI d (λaZ=>A2 aZ λd ab=> ?_) λaw=>ah aw λw d dm=> ?_
   ·exact d (by rw[<-e];exact i3 u)
   ·rw[<-e,oo]at d;obtain wl:w∈l:=by
     rcases aH.mp dm with k |⟨_,k⟩
     ·refine ah (mem.mp k) λv hv e'=> ?_;exact Eh u w d v e'▸hv
     ·exact absurd k (λk=>by have:=uk u w d;exact k.elim (λe=>this.1 (Atom.n.inj e)) λe=>this.2 (Atom.n.inj e))
    exact kp hu (.inr ⟨w,d,aH.mpr (.inl (inl.mpr wl))⟩)
 ·subst e;have:bare z=z:=(cK hz).2.2.1;show a∈less (aR [bare z])↔a∈aR [bare z];rw[this];obtain e:less (aR [z])=aR [z]:=by rw[<-aY,aO]
  rw[e]
theorem Ap{held asked:List Nm}(h1:aC held=held)(h2:aC asked=asked):oM held asked=fits held asked:=by
 have e:∀z:Nm,okN (less (aR (asked.map bare))) z=okN (aR (asked.map bare)) z:=λz=>by
  have k:∀x:Nm,cA (less (aR (asked.map bare))) (.n x)=cA (aR (asked.map bare)) (.n x):=λx=>by rw[aaC,du,du,sf h2]
  unfold okN;cases wide z<;>cases valN z<;>simp only[k]
 unfold oM fits;rw[aaC,aas,aas];constructor
 ·intro h x hx;obtain m: .n (bare x)∈less (aR (held.map bare)):=(sf h1 _).mpr (aan (aan hx));rw[<-sa,<-ye _ _ (i3 x),<-e];exact(h _ m)
 ·intro h a ha;refine ah (aal.mp ((sf h1 a).mp ha)) λy hy e1=> ?_;refine ah (aal.mp hy) λx hx e2=> ?_;subst e1;subst e2;show okN _ (bare x)=true;rw[e,ye _ _ (i3 x),sa];exact h x hx
noncomputable def yf(l:Nat)(dp:Nat):List (Nat×V):=[(10,.loc l),(11,.int dp),(12,.int 200),(13,.int 40)]
inductive Wd(l h dp:Nat)(τ:TT)(σ:St):Prop
 |mk(tb:Tb l τ σ)(ho:σ.f h= .ins 2 (yf l dp))(lh:l+8<h)(lt:h<σ.n)
theorem Wd.lt{l h dp:Nat}{τ:TT}{σ:St}(W:Wd l h dp τ σ):h<σ.n:=W.4
theorem jb.at{l:Nat}{σ aq:St}(x:jb l σ aq){k:Nat}(h:k<σ.n)(e:k≠l+1)(g:k≠l+2){o:O}(q:σ.f k=o):aq.f k=o:=(x.f k h e g).trans q
theorem Wd.Mt{l h dp:Nat}{τ ay:TT}{σ aq:St}(W:Wd l h dp τ σ)(p:wq l τ σ ay aq):Wd l h dp ay aq:=
 ⟨p.1,p.3.at W.lt (by obtain this:=W.3;lia) (by obtain this:=W.3;lia) W.2,W.3,aak W.lt p.3.n⟩
theorem Wd.ext{l h dp:Nat}{τ:TT}{σ aq:St}(W:Wd l h dp τ σ)(x:Ext σ aq):Wd l h dp τ aq:=W.Mt (.oH W.1 x)
section
variable {l h dp:Nat}{τ:TT}{σ:St}(W:Wd l h dp τ σ)
include W
theorem Wd.gK:aE σ (.loc h) 10=some (.loc l):=bP W.2 rfl
theorem Wd.SI:aE σ (.loc h) 11=some (.int dp):=bP W.2 rfl
theorem Wd.Y7:aE σ (.loc h) 12=some (.int 200):=bP W.2 rfl
theorem Wd.Y8:aE σ (.loc h) 13=some (.int 40):=bP W.2 rfl
theorem Wd.pP(k:Nat){f:Nat}(e:P.hH 2 k=some f):dA P σ (.user k) (.loc h)=some f:=by show om (σ.f h).me (λp=>P.hH p.1 k)=_;rw[W.2];exact e
end
def fO(l:Nat)(σ:St)(M:V)(ps:List (Nat×Nat)):Prop:=M= .pG (ps.map λp=>iV p.1) (ps.map λp=>iV p.2)\/∃k,M= .loc k/\k<σ.n/\k≠l+1/\k≠l+2/\σ.f k= .bV (ps.map λp=>iV p.1) (ps.map λp=>iV p.2)
theorem fO.ext{l:Nat}{σ aq:St}{M:V}{ps:List (Nat×Nat)}(m:fO l σ M ps)(x:jb l σ aq):fO l aq M ps:=by
 refine aaI m (λm=> ?_) λaw=>jH aw λk e h1 h2 h3 h4=> ?_
 ·exact .inl m
 ·exact .inr ⟨k,e,aak h1 x.n,h2,h3,x.at h1 h2 h3 h4⟩
theorem fO.bV{l:Nat}{σ:St}{M:V}{ps:List (Nat×Nat)}(m:fO l σ M ps):eD σ M=some (ps.map λp=>iV p.1,ps.map λp=>iV p.2)/\jL σ M=none/\cW σ M=none:=by
 refine aaI m (λm=> ?_) λaw=>jH aw λk e ab ai aD h4=> ?_
 ·subst m;exact⟨rfl,rfl,rfl⟩
 ·subst e;refine⟨?_,?_,?_⟩
  ·show(σ.f k).gP =_;exact congrArg _ h4
  ·show(σ.f k).eW =_;rw[h4];rfl
  ·show(σ.f k).eW =_;rw[h4];rfl
theorem j7(ps:List (Nat×Nat)):(ps.map λp=>iV p.1).all V.isInt=true:=by rw[abN];exact aas.mpr λab ai=>rfl
section
variable {l:Nat}{σ:St}{M:V}{ps:List (Nat×Nat)}(m:fO l σ M ps)
include m
theorem fO.len:sX σ .len M=some (.int ps.length,σ):=by refine A3 m.bV λh1 h2 h3=> ?_;show om (match jL σ M with |some vs=>some vs.length |none=>om (eD σ M) λp=>og (p.1.all V.isInt) (some p.1.length)) _=_;rw[h2,h1];show om (og ((ps.map λp=>iV p.1).all V.isInt) (some (ps.map λp=>iV p.1).length)) _=_;rw[j7,aae];rfl
theorem fO.isin(i:Nat):aS σ .isin (iV i) M=some (decide (i∈ps.map (λx=>x.1))):=by
 refine A3 m.bV λh1 h2 h3=> ?_;show(match jL σ M with |some vs=>_ |none=>om (eD σ M) λp=>og (bM (iV i::p.1)) (some (p.1.any λk=>V.beq k (iV i))))=_;rw[h2,h1];refine(b7 (by unfold bM;simp only[abe,j7];rfl)).trans ?_;rw[acF,acN,aaC,abn,decide_eq_true_eq,aal];refine⟨λi4=>ah i4 λp hp e=>⟨p,hp,?_⟩,λi4=>ah i4 λp hp e=>⟨p,hp,?_⟩⟩
 ·obtain this:=(beq_iff (iV p.1) (iV i)).mp e;exact aaO (V.int.inj this)
 ·show V.beq (iV p.1) (iV i)=true;rw[e];exact(beq_iff _ _).mpr rfl
theorem fO.pP(P:Prog):dA P σ .get M=some 0:=by show om (eD σ M) _=_;rw[m.bV.1];rfl
theorem fO.get(call:ct)(i t:Nat):cX call σ .get 0 M [iV i,iV t]=some ((bx (ps.map λp=>iV p.1) (ps.map λp=>iV p.2) (iV i)).getD (iV t),σ):=by show om (eD σ M) _=_;exact m.bV.1▸b7 (by unfold bM;simp only[abe,j7];rfl)
theorem fO.dict:sX σ .dict M=some (.loc σ.n,σ.new (.bV (ps.map λp=>iV p.1) (ps.map λp=>iV p.2))):=by show om (eD σ M) _=_;exact m.bV.1▸b7 (by rw[j7];rfl)
theorem j8(d:Nat):∃aq,Ext σ aq/\af P (d+1) 21 [M,.tup []] σ=some (.pG (ps.map λp=>iV p.1) (ps.map λp=>iV p.2),aq):=by obtain lp:dk 3 (λr s=>dS P (af P d) (lb 21 0) r s) [] [some M,some (.tup []),some (.loc σ.n),none] (σ.new (.bV (ps.map λp=>iV p.1) (ps.map λp=>iV p.2)))=some (.next,[some M,some (.tup []),some (.loc σ.n),none],σ.new (.bV (ps.map λp=>iV p.1) (ps.map λp=>iV p.2))):=rfl;refine cq ((σ.new (.bV (ps.map λp=>iV p.1) (ps.map λp=>iV p.2))).set σ.n .dead) ((Ext.new σ _).set (aab _) _) ?_;exact run [.c m.dict,.r,.l lp,.f (vw (bY σ (.bV (ps.map λp=>iV p.1) (ps.map λp=>iV p.2))))] (by kernel_rfl)
end
structure de(τ:TT)(m:Ab.Env)(ps:List (Nat×Nat)):Prop where
 nd:(ps.map (λx=>x.1)).Nodup
 at':∀p∈ps,(τ.nm[p.1]? =some (nV 23)/\ar τ (aR m.T) p.2)\/(τ.nm[p.1]? =some (nV 24)/\ar τ (aR m.U) p.2)
 T:(∀p∈ps,τ.nm[p.1]?≠some (nV 23))->m.T=[aT]
 U:(∀p∈ps,τ.nm[p.1]?≠some (nV 24))->m.U=[aU]
theorem de.mono{τ ay:TT}{m:Ab.Env}{ps:List (Nat×Nat)}(h:de τ m ps)(x:τ.Le ay)(nm:ay.nm=τ.nm):de ay m ps:=
 ⟨h.nd,λp hp=>by rw[nm];exact(h.at' p hp).imp (λk=>⟨k.1,k.2.mono x⟩) λk=>⟨k.1,k.2.mono x⟩,by rw[nm];exact h.T,by rw[nm];exact h.U⟩
theorem Ej{i:Nat}:∀{ps:List (Nat×Nat)},(bx (ps.map λp=>iV p.1) (ps.map λp=>iV p.2) (iV i)=none/\∀p∈ps,p.1≠i)\/∃p∈ps,p.1=i/\bx (ps.map λp=>iV p.1) (ps.map λp=>iV p.2) (iV i)=some (iV p.2):=by
 intro v_;induction v_ with
 |nil=>exact .inl ⟨rfl,aar _⟩
 |cons q ps ih=>
  obtain e0:bx ((q::ps).map λp=>iV p.1) ((q::ps).map λp=>iV p.2) (iV i)=if V.beq (iV q.1) (iV i)=true then some (iV q.2)else bx (ps.map λp=>iV p.1) (ps.map λp=>iV p.2) (iV i):=rfl;rw[e0];by_cases e:q.1=i
  ·exact e.symm▸((beq_iff _ _).mpr rfl).symm▸.inr ⟨q,aac,e,rfl⟩
  ·obtain ne:V.beq (iV q.1) (iV i)=false:=by
    cases k:V.beq (iV q.1) (iV i)
    ·rfl
    ·exact absurd (aaO (V.int.inj ((beq_iff _ _).mp k))) e
   rw[ne];refine aaI (ih) (λaZ=>A2 aZ λh1 h2=> ?_) λaw=>dw aw λp hp h1 h2=> ?_
   ·exact .inl ⟨h1,λp hp=>(aam.mp hp).elim (λk=>k▸e) (h2 p)⟩
   ·exact .inr ⟨p,aaf _ hp,h1,h2⟩
theorem KC{l:Nat}{τ:TT}(tk:τ.Ok){σ:St}{M:V}{ps:List (Nat×Nat)}{m:Ab.Env}(mv:fO l σ M ps)(ok:de τ m ps){x:Nm}{t p:Nat}(hx:oG x=true)(hn:τ.nm[p]? =some (nV x))(ht:az τ x t)(call:ct):∃r:Nat,cX call σ .get 0 M [iV p,iV t]=some (iV r,σ)/\ar τ (aR (sub m x)) r:=by
 obtain g:=mv.get call p t;have WT:x=23\/x=24:=by simpa [oG]using hx
 have self:ar τ (aR [x]) t:=by show au τ (.n x) t;simp only[au];exact ht
 refine aaI (Ej (i:=p) (ps:=ps)) (λaZ=>A2 aZ λh1 h2=> ?_) λaw=>dw aw λq hq h1 h2=> ?_
 ·rw[h1]at g;refine cq t g ?_;obtain nx:∀q∈ps,τ.nm[q.1]?≠some (nV x):=λq hq k=>h2 q hq (tk.Mr _ _ _ k hn);rcases WT with e |e<;>subst e
  ·rw[show sub m 23=m.T from rfl,ok.T nx];exact self
  ·rw[show sub m 24=m.U from rfl,ok.U nx];exact self
 ·rw[h2]at g;refine cq q.2 g ?_;obtain k:=ok.at' q hq;rw[h1,hn]at k;rcases WT with e |e<;>subst e
  ·rcases k with k |k
   ·exact k.2
   ·exact absurd k.1 (by decide)
  ·rcases k with k |k
   ·exact absurd k.1 (by decide)
   ·exact k.2
theorem yR(s:St){k:Int}(j:Int)(h:k≠j):aS s .eq (.int k) (.int j)=some false:=eq_int (decide_eq_false h)
section
variable {l h dp:Nat}{τ:TT}{σ:St}(W:Wd l h dp τ σ){M:V}{ps:List (Nat×Nat)}(mv:fO l σ M ps)
include W mv
theorem sj(hp:ps≠[])(d t:Nat)(x3:Option V):bR P (af P d) (bo 23 0) [some (.loc h),some (iV t),some M,x3] σ=some (.bool false,σ):=by obtain c1:aS σ .lt (iV t) (.int 0)=some false:=congrArg some (decide_eq_false (by have:=abl t;simp+arith));obtain c3:aS σ .eq (.int ps.length) (.int 0)=some false:=congrArg some (decide_eq_false (by cases ps;exact absurd rfl hp;simp only[aax];lia));exact bU [.r,.c mv.len,.b c3] (by kernel_rfl)
theorem uB(hp:ps=[])(d t:Nat):af P (d+1) 23 [.loc h,iV t,M] σ=some (iV t,σ):=by
 obtain c1:aS σ .lt (iV t) (.int 0)=some false:=congrArg some (decide_eq_false (by have:=abl t;simp+arith));have c3:aS σ .eq (.int ps.length) (.int 0)=some true:=by rw[hp];rfl
 exact run [.r,.c mv.len,.b c3,.r] (by kernel_rfl)
theorem sk(hp:ps≠[])(d:Nat){t:Nat}{v:V}{k:Int}(hv:τ.R[t]? =some v)(hk:bS σ v (.int 0)=some (.int k))(lk:rW k=true):af P (d+2) 23 [.loc h,iV t,M] σ=some (iV t,σ):=by
 refine cps λab kk=> ?_;obtain⟨n6,n7,n8,n9,SD,SE,SF,Km,Pz,UU,UW⟩:=rX lk;have Y9:k≠11:=by rintro rfl;cases lk
 have Za:k≠14:=by rintro rfl;cases lk
 obtain Zb:k≠15:=by rintro rfl;cases lk
 obtain OD:af P (d+1) 22 [.loc h,iV t,v,M] σ=some (iV t,σ):=by exact run [.v hk,.b (yR σ 15 Zb),.v hk,.b (yR σ 14 Za),.v hk,.b (yR σ 18 SE),.v hk,.b (yR σ 9 n9),.v hk,.b (yR σ 19 SD),.v hk,.b (yR σ 16 Pz),.r] (by kernel_rfl)
 exact kk<|run [.e (sj W mv hp (d+1) t none),.v W.gK,.v W.1.a0,.v (W.1.at hv),.v hk,.b (yR σ 10 UW),.v hk,.b (yR σ 6 n6),.v hk,.b (yR σ 11 Y9),.v hk,.b (yR σ 12 SF),.v hk,.b (yR σ 8 n8),.v hk,.b (yR σ 13 Km),.c OD,.r] (by kernel_rfl)
theorem KD(hp:ps≠[])(d:Nat){t s7 fr:Nat}(hv:τ.R[t]? =some (gJ s7 fr))(h7:τ.R[s7]? =some D6):af P (d+4) 23 [.loc h,iV t,M] σ=some (iV t,σ):=by
 obtain gK:=W.gK;obtain r:=W.1.at hv;obtain e1:af P (d+2) 20 [.loc h,.tup [],M] σ=some (.tup [],σ):=by obtain c1:cB (λr s=>bR P (af P (d+1)) (ce 20 0) r s) (λr s=>il P (af P (d+1)) (cc 20 0) r s) [some (.loc h),some (.tup []),some M] [] σ=some ([],σ):=rfl;exact run [.r,.r,.m c1,.r,.r] (by kernel_rfl)
 obtain e2:af P (d+2) 83 [.loc h,.tup [],M] σ=some (.tup [],σ):=by exact run [.r,.r] (by kernel_rfl)
 obtain c1:cB (λr s=>bR P (af P (d+2)) (ce 84 0) r s) (λr s=>il P (af P (d+2)) (cc 84 0) r s) [some (.loc h),some (gJ s7 fr),some M,none,none,none,none] [.tup [.str [112],iV s7,.int 0,.int 0]] σ=some ([.tup [.str [112],iV s7,.int 0,.int 0]],σ):=by
  obtain q1:bR P (af P (d+2)) (ce 84 0) [some (.loc h),some (gJ s7 fr),some M,none,none,none,none,some (.tup [.str [112],iV s7,.int 0,.int 0])] σ=some (.tup [.str [112],iV s7,.int 0,.int 0],σ):=by exact bU [.r,.r,.c (sk W mv hp d h7 (k:=4) rfl rfl),.r,.r] (by kernel_rfl)
  obtain q0:il P (af P (d+2)) (cc 84 0) [some (.loc h),some (gJ s7 fr),some M,none,none,none,none,some (.tup [.str [112],iV s7,.int 0,.int 0])] σ=some (true,σ):=by kernel_rfl
  exact(aQ q0).trans ((aQ q1).trans (aQ rfl))
 obtain sh:af P (d+3) 84 [.loc h,gJ s7 fr,M] σ=some (iV t,σ):=by exact run [.r,.r,.r,.m c1,.r,.r,.c e1,.r,.c e1,.r,.c e2,.v gK,.n W.1.pP,.r,.c e2,.r,.c (oK W.1 (d+1) hv),.r] (by kernel_rfl)
 exact run [.e (sj W mv hp (d+3) t none),.v gK,.v W.1.a0,.v r,.r,.r,.r,.r,.r,.r,.r,.r,.r,.r,.c sh,.r] (by kernel_rfl)
theorem KG(hp:ps≠[])(d:Nat){t p r:Nat}(hv:τ.R[t]? =some (.tup [.int 10,iV p]))(g:cX (af P d) σ .get 0 M [iV p,iV t]=some (iV r,σ)):af P (d+1) 23 [.loc h,iV t,M] σ=some (iV r,σ):=by exact run [.e (sj W mv hp d t none),.v W.gK,.v W.1.a0,.v (W.1.at hv),.r,.r,.n (mv.pP P),.r,.c g,.r] (by kernel_rfl)
theorem HF(hp:ps≠[]){m:Ab.Env}(ok:de τ m ps)(d:Nat){x:Nm}{t:Nat}(hx:az τ x t):∃r:Nat,ar τ (aR (sub m x)) r/\af P (d+4) 23 [.loc h,iV t,M] σ=some (iV r,σ):=by
 have self:ar τ (aR [x]) t:=by show au τ (.n x) t;simp only[au];exact hx
 refine dM hx λs7 p h1 h2 h3=> ?_;cases ho:yQ x
 ·cases hq:oG x
  ·obtain e:sub m x=[x]:=by
    refine gE ?_ ?_<;>(intro e;subst e;cases hq)
   exact⟨t,e▸self,sk W mv hp (d+2) h1 (jd _ _ _ _ σ x) (Ci x ho hq)⟩
  ·rw[dg,ho,hq]at h1;refine ah (KC W.1.8 mv ok hq (h3 hq) hx (af P (d+3))) λr g k=> ?_;exact cq r k (KG W mv hp (d+3) h1 g)
 ·have e:sub m x=[x]:=by
   refine gE ?_ ?_<;>(intro e;subst e;cases ho)
  rw[dg,ho]at h1;exact⟨t,e▸self,KD W mv hp d h1 (h2 ho)⟩
end
inductive Q(l h dp:Nat)(X:Nat->Prop)(τ:TT)(σ:St)(ay:TT)(aq:St):Prop
 |mk(wd:Wd l h dp ay aq)(le:τ.Le ay)(n:σ.n<=aq.n)(f:∀k,k<σ.n->k≠l+1->k≠l+2->¬X k->aq.f k=σ.f k)(nm:ay.nm=τ.nm)
def No(_:Nat):Prop:=False
section
variable {l h dp:Nat}{X Y:Nat->Prop}{τ ay xV:TT}{σ aq xW:St}
theorem Wd.pq(W:Wd l h dp τ σ)(p:wq l τ σ ay aq)(X:Nat->Prop):Q l h dp X τ σ ay aq:=⟨W.Mt p,p.2,p.3.n,λk h1 h2 h3 ab=>p.3.f k h1 h2 h3,p.4⟩
theorem Q.trans(x:Q l h dp X τ σ ay aq)(y:Q l h dp X ay aq xV xW):Q l h dp X τ σ xV xW:=
 ⟨y.1,x.2.trans y.2,aaa x.3 y.3,λk h1 h2 h3 h4=>(y.4 k (aak h1 x.3) h2 h3 h4).trans (x.4 k h1 h2 h3 h4),y.5.trans x.5⟩
theorem Q.sub(x:Q l h dp X τ σ ay aq)(k:∀j,j<σ.n->X j->Y j):Q l h dp Y τ σ ay aq:=⟨x.1,x.2,x.3,λj h1 h2 h3 h4=>x.4 j h1 h2 h3 λq=>h4 (k j h1 q),x.5⟩
theorem Q.w(x:Q l h dp No τ σ ay aq)(Y:Nat->Prop):Q l h dp Y τ σ ay aq:=x.sub λab ai h=>h.elim
theorem Q.cut(x:Q l h dp X τ σ ay aq)(k:∀j,X j->σ.n<=j):Q l h dp No τ σ ay aq:=x.sub λj h q=>absurd (k j q) (aeP h)
theorem Q.ext(x:Q l h dp No τ σ ay aq):jb l σ aq:=⟨x.3,λk h1 h2 h3=>x.4 k h1 h2 h3 id⟩
theorem Wd.q(W:Wd l h dp τ σ)(x:Ext σ aq)(X:Nat->Prop):Q l h dp X τ σ τ aq:=W.pq (.oH W.1 x) X
theorem Wd.q0(W:Wd l h dp τ σ)(X:Nat->Prop):Q l h dp X τ σ τ σ:=W.q (Ext.refl σ) X
theorem de.q{m:Ab.Env}{ps:List (Nat×Nat)}(h:de τ m ps)(x:Q l h' dp X τ σ ay aq):de ay m ps:=h.mono x.2 x.5
end
def qk(l h dp:Nat)(X:Nat->Prop)(τ:TT)(σ:St)(A:List Atom)(r:Nat)(x:Option (V×St)):Prop:=∃t ay aq,Q l h dp X τ σ ay aq/\ar ay A t/\Cr r ay/\x=some (iV t,aq)
theorem qk.el{l h dp:Nat}{X:Nat->Prop}{τ:TT}{σ:St}{A:List Atom}{r:Nat}{x:Option (V×St)}{G:Prop}(z:qk l h dp X τ σ A r x)(k:∀t ay aq,Q l h dp X τ σ ay aq->ar ay A t->Cr r ay->x=some (iV t,aq)->G):G:=g9 z k
theorem qk.mk{l h dp:Nat}{X:Nat->Prop}{τ:TT}{σ:St}{A:List Atom}{r:Nat}{x:Option (V×St)}{t:Nat}{ay:TT}{aq:St}(q:Q l h dp X τ σ ay aq)(k:ar ay A t)(c:Cr r ay)(e:x=some (iV t,aq)):qk l h dp X τ σ A r x:=⟨t,ay,aq,q,k,c,e⟩
theorem Wd.g{l h dp:Nat}{X:Nat->Prop}{τ:TT}{σ:St}{A:List Atom}{r:Nat}{x:Option (V×St)}(W:Wd l h dp τ σ)(z:Pg l τ σ (Ty A) r x):qk l h dp X τ σ A r x:=z.el λab ai aD p k c e=> .mk (W.pq p X) k c e
theorem qk.U0{l h dp:Nat}{X:Nat->Prop}{τ ay:TT}{σ aq:St}{A:List Atom}{r:Nat}{x y:Option (V×St)}(z:qk l h dp X ay aq A r x)(q:Q l h dp X τ σ ay aq)(k:∀{t:Nat} {s:St},x=some (iV t,s)->y=some (iV t,s)):qk l h dp X τ σ A r y:=z.el λab ai aD q' t c e=> .mk (q.trans q') t c (k e)
theorem qk.to{l h dp:Nat}{X:Nat->Prop}{τ:TT}{σ:St}{A:List Atom}{r:Nat}{x y:Option (V×St)}(z:qk l h dp X τ σ A r x)(k:∀{t:Nat} {s:St},x=some (iV t,s)->y=some (iV t,s)):qk l h dp X τ σ A r y:=z.el λab ai aD q' t c e=> .mk q' t c (k e)
def mY(l h dp D c:Nat)(m:Ab.Env)(A:Atom):Prop:=∀(d:Nat),D<=d->∀(τ:TT) (σ:St) (t:Nat) (M:V) (ps:List (Nat×Nat)) (r:Nat),Wd l h dp τ σ->fO l σ M ps->de τ m ps->ps≠[]->au τ A t->Cr (c+r) τ->
 qk l h dp No τ σ (ev A m) r (af P d 23 [.loc h,iV t,M] σ)
noncomputable abbrev Mu(C:Atom->Nat)(as:List (Atom×Nat)):Nat:=(as.map λa=>C a.1).sum
theorem Ek{l h dp D:Nat}{C:Atom->Nat}{m:Ab.Env}{ps:List (Nat×Nat)}(hp:ps≠[]){M:V}(c:V)(d:Nat)(hd:D<=d){r:Nat}(as:List (Atom×Nat)):∀(τ:TT) (σ:St),Wd l h dp τ σ->fO l σ M ps->de τ m ps->(∀a∈as,au τ a.1 a.2/\mY l h dp D (C a.1) m a.1)->Cr (Mu C as+r) τ->
  ∃(qs:List (List Atom×Nat)) (ay:TT) (aq:St),Q l h dp No τ σ ay aq/\Cr r ay/\(∀q∈qs,ar ay q.1 q.2)/\qs.map (λx=>x.1)=as.map (λa=>ev a.1 m)/\
   cB (λr s=>bR P (af P d) (ce 20 0) r s) (λr s=>il P (af P d) (cc 20 0) r s) [some (.loc h),some c,some M] (as.map λa=>iV a.2) σ=some (qs.map λq=>iV q.2,aq):=by
 induction as with
 |nil=>intro τ σ W dJ dJ dJ hb;exact jl [] τ σ (W.q0 _) ((aby r)▸hb) (aar _) rfl rfl
 |cons a as ih=>intro τ σ W mv ok H hb;refine cps λab kk=> ?_;obtain H:=aaX.mp H;refine(H.1.2 d hd τ σ a.2 M ps _ W mv ok hp H.1.1 (Cr.as hb)).el λt' fF bD p1 t1 c1 e1=> ?_;refine fq (ih fF bD p1.1 (mv.ext p1.ext) (ok.q p1) (λb hb=>⟨au.mono p1.2 _ _ (H.2 b hb).1,(H.2 b hb).2⟩) c1) λqs jG dx p2 c2 q1 q2 q3=> ?_;exact kk (jl ((ev a.1 m,t')::qs) jG dx (p1.trans p2) c2 (aaX.mpr ⟨t1.mono p2.2,q1⟩) (congrArg _ q2) ((aQ (by kernel_rfl:il P (af P d) (cc 20 0) [some (.loc h),some c,some M,some (iV a.2)] σ=some (true,σ))).trans ((aQ (bU [.c e1] (by kernel_rfl))).trans (aQ q3))))
theorem sq{τ:TT}(ok:τ.Ok){As:List Atom}{ts:List Nat}(H:eA τ As ts)(nd:ts.Pairwise (λx y=>x<y)):∃as:List (Atom×Nat),as.map (λx=>x.2)=ts/\(∀a∈as,au τ a.1 a.2)/\(as.map (λx=>x.1)).Nodup/\∀A,A∈as.map (λx=>x.1)->A∈As:=by
 obtain go:∀us:List Nat,(∀i∈us,i∈ts)->us.Pairwise (λx y=>x<y)->∃as:List (Atom×Nat),as.map (λx=>x.2)=us/\(∀a∈as,au τ a.1 a.2)/\(as.map (λx=>x.1)).Nodup/\∀A,A∈as.map (λx=>x.1)->A∈As:=by
  intro us;induction us with
  |nil=>exactλab ai=>⟨[],rfl,(aar _),abA,aar _⟩
  |cons i us ih=>
   intro hs hp;obtain⟨p1,p2⟩:=aaD.mp hp;refine gD (ih (λj hj=>hs j (aaf _ hj)) p2) λas e1 e2 e3 e4=> ?_;refine ah (H.1 i (hs i aac)) λA hA q=> ?_;refine⟨(A,i)::as,by simp only[aaH,e1],λa ha=> ?_,?_,λB hB=> ?_⟩
   ·rcases aam.mp ha with e |k
    ·exact e▸q
    ·exact e2 a k
   ·refine aaM.mpr ⟨λk=> ?_,e3⟩;refine ah (aal.mp k) λb hb e=> ?_;obtain this:=e2 b hb;rw[e]at this;obtain e':=i7 ok _ _ _ this q;obtain m:b.2∈us:=e1▸aan hb;obtain this:=p1 _ m;lia
   ·rcases aam.mp hB with e |k
    ·simp only[e];exact hA
    ·exact e4 B k
 exact go ts (λab h=>h) nd
theorem yg{τ:TT}(ok:τ.Ok){As:List Atom}{ts:List Nat}(H:eA τ As ts)(hc:∀a∈As,Cn a){as:List (Atom×Nat)}(e1:as.map (λx=>x.2)=ts)(e2:∀a∈as,au τ a.1 a.2)(e4:∀A,A∈as.map (λx=>x.1)->A∈As):∀A∈As,A∈as.map (λx=>x.1):=λA hA=>by refine ah (H.2 A hA) λi hi q=> ?_;rw[<-e1]at hi;refine ah (aal.mp hi) λb hb e=> ?_;obtain this:=e2 b hb;simp only[e]at this;exact(mS ok _ _ _ (hc _ (e4 _ (aan hb))) (hc A hA) this q)▸aan hb
mutual
theorem yh:∀(A:Atom) (m:Ab.Env),Cn A->∀b∈ev A m,Cn b
 | .n x,m,ab,b,hb=>by refine ah (aal.mp hb) λz ab e=> ?_;subst e;trivial
 | .cond c a y n s,m,H,b,hb=>by
  obtain RB:∀l:List Nm,oh txt (aR (aC l)):=λl=>by simp only[show aR (aC l)=less (aR l)from aY l];exact eH _
  obtain one:∀x:Nm,oh txt (aR [x]):=λx=>aaB _ _;have iy:=λm b hb=>(dr hb).elim (sr y m H.2.2.2.2.1 b) λk=>k.elim (λe=>by subst e;trivial) λe=>by subst e;trivial
  have jn:=λm b hb=>(dr hb).elim (sr n m H.2.2.2.2.2 b) λk=>k.elim (λe=>by subst e;trivial) λe=>by subst e;trivial
  have pk:∀{held:List Nm} {a:List Nm} {m:Ab.Env},oh txt (aR held)->∀b∈pick held (subs m a) (less (bC y m)) (less (bC n m)) s,Cn b:=λ{held a m} hh b hb=>by
   unfold pick at hb;split at hb
   ·rw[aag.mp hb];trivial
   ·split at hb
    ·rw[aag.mp hb];exact⟨hh,RB _,eH _,eH _,dC.mpr (iy m),dC.mpr (jn m)⟩
    ·split at hb
     ·exact iy m b hb
     ·split at hb
      ·rcases dr hb with k |k |k
       ·exact(aaz.mp k).elim (iy m b) (jn m b)
       ·subst k;trivial
       ·subst k;trivial
      ·split at hb
       ·exact iy m b hb
       ·exact jn m b hb
  rw[cO]at hb;split at hb
  ·simp only[aag.mp hb];trivial
  ·split at hb
   ·rcases dr hb with k |k |k
    ·refine ah (aau.mp k) λo ab k=> ?_;exact pk (one o) b k
    ·subst k;trivial
    ·subst k;trivial
   ·exact pk (RB _) b hb
theorem sr:∀(l:List Atom) (m:Ab.Env),Ms l->∀b∈bC l m,Cn b
 |[],ab,ai,b,hb=>nomatch hb
 |a::r,m,H,b,hb=>by exact(aaz.mp hb).elim (yh a m H.1 b) (sr r m H.2 b)
end
structure fk(m:Ab.Env):Prop where
 T:aC m.T=m.T
 U:aC m.U=m.U
theorem fk.sub{m:Ab.Env}(h:fk m)(x:Nm):aC (sub m x)=sub m x:=by
 unfold Ab.sub;split
 ·exact h.T
 ·split
  ·exact h.U
  ·exact aO x
theorem Aq{m:Ab.Env}(h:fk m):∀A:Atom,less (ev A m)=ev A m:=by
 intro v_;cases v_ with
 |n x=>simp only[ev,<-aY,h.sub]
 |cond c a y n s=>
  rw[cO];split
  ·exact i5 (.inr (.inl rfl))
  ·split
   ·exact bG _
   ·exact kC (bG _) (bG _)
theorem su{l h dp D:Nat}{C:Atom->Nat}{m:Ab.Env}{As:List Atom}(hC:∀A∈As,mY l h dp D (C A) m A)(GP:∀A∈As,Cn A)(hm:fk m)(hl:(bC As m).length<=61)(hA:As.length<=61){d:Nat}(hd:D<=d){τ:TT}{σ:St}{t:Nat}{M:V}{ps:List (Nat×Nat)}{r:Nat}(W:Wd l h dp τ σ)(mv:fO l σ M ps)(ok:de τ m ps)(hp:ps≠[])(ht:ar τ As t)(hb:Cr ((As.map C).sum+(1+r)) τ):
  qk l h dp No τ σ (less (bC As m)) r (af P (d+4) 23 [.loc h,iV t,M] σ):=by
 match As,hC,GP,hl,hA,ht,hb with
 |[],ab,ai,aD,bO,ht,hb=>cases ht;exact .mk (W.q0 _) rfl (hb.le (by simp+arith)) (sk W mv hp (d+2) (W.1.8.fst 2 _ rfl) rfl rfl)
 |[A],hC,ab,ai,aD,ht,hb=>refine(hC A aac (d+4) (aej hd) τ σ t M ps _ W mv ok hp ht hb).el λt' ay aq p k c e=> .mk p ?_ (c.le (aaj _ _)) e;simp only[bC,bC,aaV,Aq hm];exact k
 |A::B::rr,hC,GP,hl,hA,ht,hb=>
  refine jH (fJ.mp ht) λts h1 h2 h3 h4 h5=> ?_;refine gD (sq W.1.8 (As:=A::B::rr) (ts:=ts) ⟨h4,h5⟩ h2) λas e1 e2 e3 e4=> ?_;obtain cl:Mu C as<=((A::B::rr).map C).sum:=by obtain this:=gS (w:=C) e3 (xs:=A::B::rr) e4;rw[aay]at this;exact this
  refine fq (Ek hp (.tup (ts.map iV)) (d+2) (aej hd) as τ σ W mv ok (λa ha=>⟨e2 a ha,hC a.1 (e4 _ (aan ha))⟩) (hb.le (aat cl _))) λqs fF bD p1 c1 q1 q2 q3=> ?_;obtain ei:(as.map λa=>iV a.2)=ts.map iV:=by simp only[<-e1,aay];rfl
  simp only[ei]at q3;obtain U1:ts.length<64:=aai (kJ W.1.8 (S:=A::B::rr) (G:=ts) ⟨h4,h5⟩ (h2.imp λq=>aaF q) λab h=>h) (aai hA (by decide));obtain ya:some (decide ((ts.map iV).length<big))=some true:=gq (by rw[aae];exact U1);obtain each:af P (d+3) 20 [.loc h,.tup (ts.map iV),M] σ=some (.tup (qs.map λq=>iV q.2),bD):=by exact run [.r,.b ya,.m q3,.r,.r] (by kernel_rfl)
  obtain PB:qs.flatMap (λx=>x.1)=bC (as.map (λx=>x.1)) m:=by simp only[cZ,acX,acX,q2,aay];rfl
  obtain WU:∀(l:List Atom) (b:Atom),b∈bC l m↔∃A∈l,b∈ev A m:=λl b=>by rw[cZ,aau]
  have RC:∀l:List Atom,(bC l m).length=(l.map λA=>(ev A m).length).sum:=λl=>by
   induction l with
   |nil=>rfl
   |cons a l ih=>simp only[bC,aah,ih,aaH,abE]
  obtain le:less (qs.flatMap (λx=>x.1))=less (bC (A::B::rr) m):=PB▸mG λb=>by rw[WU,WU];exact⟨λz=>ah z λA' h k=>⟨A',e4 A' h,k⟩,λz=>ah z λA' h k=>⟨A',(yg W.1.8 (As:=A::B::rr) (ts:=ts) ⟨h4,h5⟩ GP e1 e2 e4) A' h,k⟩⟩
  exact le▸((p1.1.g (mX d (.tup (qs.map λq=>iV q.2)) p1.1.1 qs rfl q1 (λq hq a ha=>by
   obtain this:q.1∈qs.map (λx=>x.1):=aan hq;rw[q2]at this;refine ah (aal.mp this) λb QU e=> ?_;rw[<-e]at ha;exact yh b.1 m (GP _ (e4 _ (aan QU))) a ha) (by
   simp only[PB,RC];obtain this:=gS (w:=λA=>(ev A m).length) e3 (xs:=A::B::rr) e4;rw[RC]at hl;exact aaa this hl) c1)).U0 p1 λw2=>run [.e (sj W mv hp (d+3) t none),.v W.gK,.v W.1.a0,.v (W.1.at h1),.r,.r,.r,.r,.v W.gK,.f (jA W.1.1),.r,.c each,.r,.c w2,.r] (by kernel_rfl))
theorem OE{As:List Atom}:kT As≠12:=by
 match As with
 |[]=>exact(by decide:(1:Int)≠12)
 |[.n x]=>revert x;decide
 |[.cond ..]=>exact(by decide:(16:Int)≠12)
 |ab::ai::aD=>exact(by decide:(6:Int)≠12)
theorem Ck{As:List Atom}(h:∀c a y n s,As≠[.cond c a y n s]):kT As≠16:=by
 match As with
 |[]=>exact(by decide:(1:Int)≠16)
 |[.n x]=>exact(jx x).2
 |[.cond c a y n s]=>exact absurd rfl (h c a y n s)
 |ab::ai::aD=>exact(by decide:(6:Int)≠16)
theorem RD{As:List Atom}:kT As≠19:=by
 match As with
 |[]=>exact(by decide:(1:Int)≠19)
 |[.n x]=>revert x;decide
 |[.cond ..]=>exact(by decide:(16:Int)≠19)
 |ab::ai::aD=>exact(by decide:(6:Int)≠19)
theorem lZ{ns:List Nm}:∀c a y n s,aR ns≠[.cond c a y n s]:=λc a y n s h=>by
 match ns,h with
 |[],h=>cases h
 |[x],h=>cases h
 |ab::ai::aD,h=>cases h
theorem ne_int{s:St}{i j:Int}(h:i≠j):aS s .ne (.int i) (.int j)=some true:=congrArg (λb=>some (!b)) (decide_eq_false h)
section
variable {l h dp:Nat}{τ:TT}{σ:St}(W:Wd l h dp τ σ)
include W
theorem Ar(d:Nat){cs as:List Atom}{tc ta ty tn:Nat}(s:Bool)(hc:ar τ cs tc)(ha:ar τ as ta):af P (d+1) 28 [.loc l,bf tc ta ty tn s] σ=some (.bool false,σ):=by refine ah (gw W.1.8 hc σ) λv1 r1 k1=> ?_;refine ah (gw W.1.8 ha σ) λv2 r2 k2=> ?_;obtain a0:=W.1.a0;exact run [.v a0,.r,.v (W.1.at r1),.v a0,.r,.v (W.1.at r2),.v k1,.b (ne_int (s:=σ) (OE (As:=cs))),.r] (by kernel_rfl)
theorem oN(d:Nat){As:List Atom}{t:Nat}(ht:ar τ As t):af P (d+3) 29 [.loc h,iV t,.bool false] σ=some (.bool (As.any uj),σ):=by
 obtain gK:=W.gK;obtain o:=Kr W.1 d ht;cases q:As.any uj
 ·rw[q]at o;exact run [.v gK,.c o,.r] (by kernel_rfl)
 ·rw[q]at o;exact run [.v gK,.c o,.r] (by kernel_rfl)
omit W in
theorem Au(d:Nat)(M:V):af P (d+1) 26 [.loc h,.tup [],M] σ=some (.bool false,σ):=by obtain lp:dk 3 (λr s=>dS P (af P d) (lb 26 0) r s) [] [some (.loc h),some (.tup []),some M,none,none] σ=some (.next,[some (.loc h),some (.tup []),some M,none,none],σ):=rfl;exact run [.r,.l lp,.r] (by kernel_rfl)
theorem iC(d:Nat){As:List Atom}{t:Nat}(ht:ar τ As t)(hn:∀c a y n s,As≠[.cond c a y n s]):af P (d+3) 78 [.loc h,iV t] σ=some (iV t,σ):=by
 refine ah (gw W.1.8 ht σ) λv r k=> ?_;have gK:=W.gK;obtain cs:af P (d+2) 49 [.loc h,v] σ=some (iV t,σ):=by exact run [.v k,.b (yR σ 16 (Ck hn)),.v gK,.n W.1.pP,.c (oK W.1 d r),.r] (by kernel_rfl)
 exact run [.v gK,.v W.1.a0,.v (W.1.at r),.c cs,.r] (by kernel_rfl)
theorem aliases(d p:Nat){row M:V}{rd sp ex pa dn:V}(hp:σ.f p= .ins 1 [(14,.loc h),(15,row),(16,M),(17,rd),(18,sp),(19,ex),(20,pa),(21,dn)]){As:List Atom}{t:Nat}(ht:ar τ As t)(M':V):af P (d+1) 40 [.loc p,iV t,M'] σ=some (.tup [iV t,M'],σ):=by
 refine ah (gw W.1.8 ht σ) λv r k=> ?_;obtain PC:aE σ (.loc p) 14=some (.loc h):=bP hp rfl;obtain tt:wh P (af P d) (lc 40 0) [some (.loc p),some (iV t),some M',some (.loc h),some (.loc l),some (.int 0),none,none,none,none] σ=some (false,σ):=by exact GR [.v W.1.a0,.v (W.1.at r),.v k,.b (yR σ 19 (RD (As:=As)))] (by kernel_rfl)
 obtain lp:oX (λr s=>wh P (af P d) (lc 40 0) r s) (λr s=>dS P (af P d) (lb 40 0) r s) 5000 [some (.loc p),some (iV t),some M',some (.loc h),some (.loc l),some (.int 0),none,none,none,none] σ=some (.next,[some (.loc p),some (iV t),some M',some (.loc h),some (.loc l),some (.int 0),none,none,none,none],σ):=aQ tt;exact run [.v PC,.v W.gK,.l lp,.r] (by kernel_rfl)
end
theorem pj(l h dp:Nat)(m:Ab.Env)(x:Nm):mY l h dp 4 0 m (.n x):=λd hd τ σ t M ps r W mv ok hp ht c=>by obtain⟨k,rfl⟩:=abj hd;refine ah (HF W mv hp ok k ht) λr k1 k2=> .mk (t:=r) (W.q0 _) ?_ (c.le (aaj ..)) k2;simp only[ev];exact k1
theorem mZ(l h dp:Nat){D:Nat}(hD:4<=D)(m:Ab.Env)(ns:List Nm):∀A∈aR ns,mY l h dp D 0 m A:=λA hA=>ah (aal.mp hA) λx ab e d hd=>e▸pj l h dp m x d (aaa hD hd)
theorem sy(ns:List Nm):∀A∈aR ns,Cn A:=λA hA=>ah (aal.mp hA) λx ab e=>e▸trivial
theorem yi(l:List Atom):(l.map λab=>(0:Nat)).sum=0:=by
 induction l with
 |nil=>rfl
 |cons a l ih=>simp only[aaH,abE,ih]
theorem jf(m:Ab.Env)(ns:List Nm):bC (aR ns) m=aR (ns.flatMap (sub m)):=by simp only[cZ,abV];simp only[acz];exact gm λx ab=>by simp only[ev]
theorem ik(m:Ab.Env)(ns:List Nm):less (bC (aR ns) m)=aR (subs m ns):=by rw[jf,<-aY];rfl
theorem KH{m:Ab.Env}(h1:m.T=[aT])(h2:m.U=[aU])(x:Nm):sub m x=[x]:=by
 unfold sub;split
 ·rename_i e;rw[h1,e]
 ·split
  ·rename_i e;rw[h2,e]
  ·rfl
theorem yj{m:Ab.Env}(h1:m.T=[aT])(h2:m.U=[aU]){ns:List Nm}(hc:aC ns=ns):subs m ns=ns:=by
 obtain this:ns.flatMap (sub m)=ns:=by
  rw[show sub m=λx=>[x]from funext (KH h1 h2)];clear hc;induction ns with
  |nil=>rfl
  |cons a l ih=>simp only[aaU,ih];rfl
 simp only[subs,this,hc]
section
variable {l h dp:Nat}{τ:TT}{σ:St}(W:Wd l h dp τ σ){M:V}{ps:List (Nat×Nat)}(mv:fO l σ M ps){m:Ab.Env}(ok:de τ m ps)
include W mv ok
theorem uC(hm:fk m)(d:Nat){ns:List Nm}(hn:aC ns=ns)(hl:(ns.flatMap (sub m)).length<=61)(hA:ns.length<=61){t r:Nat}(ht:ar τ (aR ns) t)(hb:Cr (1+r) τ):qk l h dp No τ σ (aR (subs m ns)) r (af P (d+9) 80 [.loc h,iV t,M] σ):=by
 obtain go:qk l h dp No τ σ (aR (subs m ns)) r (af P (d+8) 23 [.loc h,iV t,M] σ):=by
  by_cases hp:ps=[]
  ·exact(yj (ok.T (hp▸aar _)) (ok.U (hp▸aar _)) hn).symm▸.mk (W.q0 _) ht (hb.le (aaj ..)) (uB W mv hp (d+7) t)
  ·obtain z:=su (C:=λab=>0) (d:=d+4) (mZ l h dp (aab 4) m ns) (sy ns) hm (by simp only[jf,aae];exact hl) (by rw[aae];exact hA) (aaj _ _) W mv ok hp ht (by rw[yi,aby];exact hb);rw[ik]at z;exact z
 exact go.to λq=>run [.c q,.r] (by kernel_rfl)
end
def verdict(held ask:List Nm):Int:=if isOpen ask then 3 else if decide (ask=[20]) ||decide (ask=[21])then 1 else if decide (held=[20])then 2 else if fits held ask then 1 else 0
theorem kM{τ:TT}(ok:τ.Ok){ns:List Nm}{x:Nm}{t i:Nat}(h:ar τ (aR ns) t)(k:az τ x i)(s:St):aS s .eq (iV t) (iV i)=some (decide (ns=[x])):=by
 classical
 refine congrArg some ((HD ok h k).trans ?_);rw[aaC,decide_eq_true_eq,decide_eq_true_eq];exact⟨λe=>o6 (l':=[x]) e,λe=>congrArg _ e⟩
theorem judge{l h dp:Nat}{τ:TT}{σ:St}(W:Wd l h dp τ σ)(d:Nat){held ask:List Nm}{c e r:Nat}(hc:ar τ (aR held) c)(he:ar τ (aR ask) e)(cl:isOpen held=false)(SJ:ask≠[22])(h1:aC held=held)(h2:aC ask=ask)(l1:held.length<=30)(l2:ask.length<=30)(hb:Cr (62+r) τ):
  ∃ay aq,Q l h dp No τ σ ay aq/\Cr r ay/\af P (d+8) 30 [.loc h,iV c,iV e,.bool false] σ=some (.int (verdict held ask),aq):=by
 refine cps λab kk=> ?_;have aI:∀{v:Int},af P (d+8) 30 [.loc h,iV c,iV e,.bool false] σ=some (.int v,σ)->verdict held ask=v->_:=λx y=>kk (jk τ σ (W.q0 _) (hb.le (aaj ..)) (y▸x));refine A4 (A4 (dH W.1.8) λf0 g1 IJ ab=>⟨f0,g1,IJ,trivial⟩) λf0 g1 IJ ab=> ?_;have so:=oN W (d+4) he;rw[vx]at so;have gK:=W.gK;have Mv:=kM W.1.8 he f0 σ;have OF:=kM W.1.8 he g1 σ;obtain q0:=kM W.1.8 hc f0 σ;revert so;cases ho:isOpen ask
 ·intro so;revert Mv;cases e1:decide (ask=[20])
  ·intro Mv;revert OF;cases e2:decide (ask=[21])
   ·intro OF;revert q0;cases e3:decide (held=[20])
    ·intro q0;refine ah (pb W.1 (d+1) hc (eJ.mp cl) l1) λs1 x1 k1=> ?_;obtain W1:=W.ext x1;refine ah (pb W1.1 (d+1) he (eJ.mp ho) l2) λs2 x2 k2=> ?_;have W2:=W1.ext x2;refine dM (Eg W2.1 (d+1) hc he l1 l2 ⟨of_decide_eq_false e1,of_decide_eq_false e2,SJ⟩ hb) λay aq p c' k3=> ?_;rw[Ap h1 h2]at k3;obtain k4:af P (d+7) 82 [.loc h,iV c,iV e] s2=some (.bool (fits held ask),aq):=by
      exact run [.v W2.gK,.c k3,.r] (by kernel_rfl)
     refine kk (jk ay aq ((W.q (x1.trans x2) _).trans (W2.pq p _)) c' ?_);rw[show verdict held ask=if fits held ask then 1 else 0 by unfold verdict;rw[ho,e1,e2,e3];rfl];revert k4;cases fits held ask
     ·exactλk4=>run [.v gK,.c so,.b Mv,.b OF,.b q0,.c k1,.r,.r,.c k2,.r,.r,.n (W2.pP 6 (f:=82) rfl),.c k4,.r] (by kernel_rfl)
     ·exactλk4=>run [.v gK,.c so,.b Mv,.b OF,.b q0,.c k1,.r,.r,.c k2,.r,.r,.n (W2.pP 6 (f:=82) rfl),.c k4,.r] (by kernel_rfl)
    ·intro q0;exact aI (run [.v gK,.c so,.b Mv,.b OF,.b q0,.r] (by kernel_rfl)) (by unfold verdict;rw[ho,e1,e2,e3])
   ·intro OF;exact aI (run [.v gK,.c so,.b Mv,.b OF,.r] (by kernel_rfl)) (by unfold verdict;rw[ho,e1,e2])
  ·intro Mv;exact aI (run [.v gK,.c so,.b Mv,.r] (by kernel_rfl)) (by unfold verdict;rw[ho,e1])
 ·intro so;exact aI (run [.v gK,.c so,.r] (by kernel_rfl)) (by unfold verdict;rw[ho])
inductive pz(τ:TT)(c a:List Nm)(y n:List Atom)(tc ta ty tn:Nat):Prop
 |mk(c:ar τ (aR c) tc)(a:ar τ (aR a) ta)(y:ar τ y ty)(n:ar τ n tn)
theorem pz.mono{τ ay:TT}(x:τ.Le ay){c a:List Nm}{y n:List Atom}{tc ta ty tn:Nat}(h:pz τ c a y n tc ta ty tn):pz ay c a y n tc ta ty tn:=⟨h.1.mono x,h.2.mono x,h.3.mono x,h.4.mono x⟩
abbrev dW(ps:List (Nat×Nat)):V:= .pG (ps.map λp=>iV p.1) (ps.map λp=>iV p.2)
theorem Cm{ps:List (Nat×Nat)}(hp:ps≠[]){s:St}:aS s .eq (.int ps.length) (.int 0)=some false:=eq_int (decide_eq_false λe=>hp (List.eq_nil_of_length_eq_zero (aaO e)))
inductive l0(l h dp D:Nat)(C:Atom->Nat)(m:Ab.Env)(y:List Atom):Prop
 |mk(at':∀A∈y,mY l h dp D (C A) m A)(cn:∀A∈y,Cn A)(ev:(bC y m).length<=61)(len:y.length<=61)
theorem l0.names{l h dp D:Nat}(hD:4<=D){m:Ab.Env}{ns:List Nm}(hl:(ns.flatMap (sub m)).length<=61)(hA:ns.length<=61):l0 l h dp D (λab=>0) m (aR ns):=
 ⟨mZ l h dp hD m ns,sy ns,by rw[jf,aae];exact hl,by rw[aae];exact hA⟩
theorem m5{elt:En->St->Option (V×St)}{cond:En->St->Option (Bool×St)}{r:En}{v w:V}{vs ws:List V}{s s1 s2:St}(h0:cond (r++[some v]) s=some (true,s))(h1:elt (r++[some v]) s=some (w,s1))(h2:cB elt cond r vs s1=some (ws,s2)):cB elt cond r (v::vs) s=some (w::ws,s2):=(aQ h0).trans ((aQ h1).trans (aQ h2))
noncomputable abbrev sA(C:Atom->Nat)(y:List Atom):Nat:=(y.map C).sum
section
variable {l h dp D:Nat}{C:Atom->Nat}{m:Ab.Env}(hm:fk m){M:V}{ps:List (Nat×Nat)}(hp:ps≠[]){τ:TT}{σ:St}{d:Nat}(hd:D<=d)
include hm hp hd
theorem Co{y:List Atom}{ty r:Nat}(L:l0 l h dp D C m y)(W:Wd l h dp τ σ)(mv:fO l σ M ps)(ok:de τ m ps)(S:ar τ y ty)(hb:Cr (sA C y+(1+r)) τ):qk l h dp No τ σ (less (bC y m)) r (af P (d+4) 23 [.loc h,iV ty,M] σ):=su L.1 L.2 hm L.3 L.4 hd W mv ok hp S hb
theorem Mw{c:List Nm}{tc r:Nat}(L:l0 l h dp D (λab=>0) m (aR c))(W:Wd l h dp τ σ)(mv:fO l σ M ps)(ok:de τ m ps)(S:ar τ (aR c) tc)(hb:Cr (1+r) τ):qk l h dp No τ σ (aR (subs m c)) r (af P (d+4) 23 [.loc h,iV tc,M] σ):=ik m c▸Co hm hp hd L W mv ok S (by simp only[sA,yi,aby];exact hb)
theorem Cp(W:Wd l h dp τ σ)(mv:fO l σ M ps)(ok:de τ m ps){c a:List Nm}{y n:List Atom}{tc ta ty tn:Nat}(s:Bool)(S:pz τ c a y n tc ta ty tn)(hc:l0 l h dp D (λab=>0) m (aR c))(ha:l0 l h dp D (λab=>0) m (aR a))(hy:l0 l h dp D C m y)(hn:l0 l h dp D C m n){r:Nat}(hb:Cr (1+(1+(sA C y+(1+(sA C n+(1+(1+r))))))) τ)
  {G:Prop} (kk:∀t B7 Rv Pw Px ay aq,Q l h dp No τ σ ay aq->Cr r ay->pz ay (subs m c) (subs m a) (less (bC y m)) (less (bC n m)) B7 Rv Pw Px->ay.R[t]? =some (bf B7 Rv Pw Px s)->af P (d+8) 31 [.loc h,bf tc ta ty tn s,M] σ=some (iV t,aq)->G):G:=by
 refine ah (j8 mv (d+4)) λs0 x0 w1=> ?_;obtain W0:=W.ext x0;have Zc:=mv;have mv:fO l s0 (dW ps) ps:= .inl rfl;refine(Mw hm hp hd hc W0 mv ok S.1 hb).el λt1 fF s1 p1 k1 c1 e1=> ?_;refine(Mw hm hp hd ha p1.1 (mv.ext p1.ext) (ok.q p1) (S.2.mono p1.2) c1).el λt2 jG s2 p2 k2 c2 e2=> ?_;obtain SK:=p1.trans p2;refine(Co hm hp hd hy p2.1 (mv.ext SK.ext) (ok.q SK) (S.3.mono SK.2) c2).el λt3 SM s3 p3 k3 c3 e3=> ?_;have SN:=SK.trans p3;refine(Co hm hp hd hn p3.1 (mv.ext SN.ext) (ok.q SN) (S.4.mono SN.2) c3).el λt4 WV s4 p4 k4 c4 e4=> ?_;refine(gV p4.1.1 (d+4) (row:=bf t1 t2 t3 t4 s) (by cases s<;>rfl) c4).el λt PD s5 p5 r5 c5 e5=> ?_;refine kk t t1 t2 t3 t4 PD s5 ((W.q x0 _).trans ((SN.trans p4).trans (p4.1.pq p5 _))) c5 (.mono p5.2 ⟨k1.mono ((p2.2.trans p3.2).trans p4.2),k2.mono (p3.2.trans p4.2),k3.mono p4.2,k4⟩) r5 ?_;have yes:∀(s:St) (v:V),il P (af P (d+4)) (cc 20 0) ([some (.loc h),some (.tup [iV tc,iV ta,iV ty,iV tn]),some (dW ps)]++[some v]) s=some (true,s):=λab ai=>by kernel_rfl
 obtain each:∀{t t':Nat} {s s':St},af P (d+4) 23 [.loc h,iV t,dW ps] s=some (iV t',s')->bR P (af P (d+4)) (ce 20 0) ([some (.loc h),some (.tup [iV tc,iV ta,iV ty,iV tn]),some (dW ps)]++[some (iV t)]) s=some (iV t',s'):=λe=>bU [.c e] (by kernel_rfl);obtain lp:cB (λr s=>bR P (af P (d+4)) (ce 20 0) r s) (λr s=>il P (af P (d+4)) (cc 20 0) r s) [some (.loc h),some (.tup [iV tc,iV ta,iV ty,iV tn]),some (dW ps)] [iV tc,iV ta,iV ty,iV tn] s0=some ([iV t1,iV t2,iV t3,iV t4],s4):=
  m5 (yes _ _) (each e1) (m5 (yes _ _) (each e2) (m5 (yes _ _) (each e3) (m5 (yes _ _) (each e4) rfl)))
 obtain four:af P (d+5) 20 [.loc h,.tup [iV tc,iV ta,iV ty,iV tn],dW ps] s0=some (.tup [iV t1,iV t2,iV t3,iV t4],s4):=run [.r,.r,.m lp,.r,.r] (by kernel_rfl);obtain pl:af P (d+6) 24 [.loc h,bf tc ta ty tn s,M] σ=some (iV t,s5):=run [.r,.c w1,.v W0.gK,.n W0.1.pP,.r,.r,.c four,.r,.r,.r,.c e5,.r] (by kernel_rfl);obtain Zd:af P (d+7) 81 [.loc h,bf tc ta ty tn s,M] σ=some (iV t,s5):=run [.c pl,.r] (by kernel_rfl);exact run [.c Zc.len,.b (Cm (s:=σ) hp),.n (W.pP 5 (f:=81) rfl),.c Zd,.r] (by kernel_rfl)
end
theorem Wd.set{l h dp:Nat}{τ:TT}{σ:St}(W:Wd l h dp τ σ){k:Nat}(hk:h<k)(o:O):Wd l h dp τ (σ.set k o):=⟨W.1.set (aaQ W.3 hk) o,(if_neg (aaF hk)).trans W.2,W.3,W.lt⟩
theorem Wd.Av{l h dp:Nat}{τ:TT}{σ:St}(W:Wd l h dp τ σ){k:Nat}(hk:h<k)(o:O){X:Nat->Prop}(hX:X k):Q l h dp X τ σ τ (σ.set k o):=⟨W.set hk o,TT.Le.refl τ,aab _,λj ab ai aD h4=>if_neg λ(e:j=k)=>h4 (e▸hX),rfl⟩
structure Sp where
 p:Nat
 sp:Nat
 ex:Nat
structure Qn where
 c:List Nm
 a:List Nm
 y:List Atom
 n:List Atom
 s:Bool
 tc:Nat
 ta:Nat
 ty:Nat
 tn:Nat
structure Dy where
 rd:Nat
 pa:Int
 E:List V
 v:Nat
abbrev Qn.row(q:Qn):V:=bf q.tc q.ta q.ty q.tn q.s
noncomputable abbrev Qn.at(q:Qn):Atom:= .cond q.c q.a q.y q.n q.s
abbrev Qn.Sd(q:Qn)(τ:TT):Prop:=pz τ q.c q.a q.y q.n q.tc q.ta q.ty q.tn
def yS(h:Nat)(row:V)(ps:List (Nat×Nat))(s:Sp)(u:Dy)(dn:Int):List (Nat×V):=[(14,.loc h),(15,row),(16,dW ps),(17,iV u.rd),(18,.loc s.sp),(19,.loc s.ex),(20,.int u.pa),(21,.int dn)]
inductive ir(h:Nat)(s:Sp)(σ:St)(row:V)(ps:List (Nat×Nat))(u:Dy)(dn:Int):Prop
 |mk(fp:σ.f s.p= .ins 1 (yS h row ps s u dn))(fs:σ.f s.sp= .lst [iV u.v])(fe:σ.f s.ex= .lst u.E)(hp:h<s.p/\s.p<σ.n)(hs:h<s.sp/\s.sp<σ.n)(he:h<s.ex/\s.ex<σ.n)(ps:s.p≠s.sp)(pe:s.p≠s.ex)(se:s.sp≠s.ex)
def oO(s:Sp)(k:Nat):Prop:=k=s.p\/k=s.sp\/k=s.ex
section
variable {l h dp:Nat}{s:Sp}{τ:TT}{σ:St}{row:V}{ps:List (Nat×Nat)}{u:Dy}{dn:Int}
theorem vN{aq:St}(x:jb l σ aq)(lh:l+8<h){k:Nat}(a:h<k/\k<σ.n):(h<k/\k<aq.n)/\aq.f k=σ.f k:=⟨⟨a.1,aak a.2 x.n⟩,x.f k a.2 (by obtain this:=a.1;lia) (by obtain this:=a.1;lia)⟩
theorem ir.ext{aq:St}(S:ir h s σ row ps u dn)(lh:l+8<h)(x:jb l σ aq):ir h s aq row ps u dn:=
 have a:=vN x lh S.4;have b:=vN x lh S.5;have c:=vN x lh S.6
 ⟨a.2.trans S.1,b.2.trans S.2,c.2.trans S.3,a.1,b.1,c.1,S.7,S.8,S.9⟩
theorem ir.El(S:ir h s σ row ps u dn)(Em:V)(rd:Nat)(pa WW:Int):ir h s (σ.set s.p (.ins 1 (yS h Em ps s ⟨rd,pa,u.E,u.v⟩ WW))) Em ps ⟨rd,pa,u.E,u.v⟩ WW:=
 ⟨cz ..,(if_neg S.7.symm).trans S.2,(if_neg S.8.symm).trans S.3,S.4,S.5,S.6,S.7,S.8,S.9⟩
theorem ir.OG(S:ir h s σ row ps u dn){k:Nat}(n:¬oO s k)(o:O):ir h s (σ.set k o) row ps u dn:=
 ⟨(if_neg λe=>n (.inl e.symm)).trans S.1,(if_neg λe=>n (.inr (.inl e.symm))).trans S.2,(if_neg λe=>n (.inr (.inr e.symm))).trans S.3,S.4,S.5,S.6,S.7,S.8,S.9⟩
section
variable (S:ir h s σ row ps u dn)
include S
theorem ir.sC:aE σ (.loc s.p) 14=some (.loc h):=bP S.1 rfl
theorem ir.IK:aE σ (.loc s.p) 15=some row:=bP S.1 rfl
theorem ir.Cq:aE σ (.loc s.p) 16=some (dW ps):=bP S.1 rfl
theorem ir.PF:aE σ (.loc s.p) 17=some (iV u.rd):=bP S.1 rfl
theorem ir.PG:aE σ (.loc s.p) 18=some (.loc s.sp):=bP S.1 rfl
theorem ir.WX:aE σ (.loc s.p) 19=some (.loc s.ex):=bP S.1 rfl
theorem ir.KI:aE σ (.loc s.p) 20=some (.int u.pa):=bP S.1 rfl
theorem ir.OH:aE σ (.loc s.p) 21=some (.int dn):=bP S.1 rfl
theorem ir.st{a:Nat}{v:V}{fs:List (Nat×V)}(e:fb (yS h row ps s u dn) a v=fs)(ok:P.fX 1 a=true):bT P σ (.loc s.p) a v=some (σ.set s.p (.ins 1 fs)):=by show om (σ.f s.p).me _=_;rw[S.1,<-e];exact b7 (by rw[ok];rfl)
theorem ir.RE(d':Int):bT P σ (.loc s.p) 21 (.int d')=some (σ.set s.p (.ins 1 (yS h row ps s u d'))):=S.st rfl rfl
theorem ir.Mx(r:Int):bT P σ (.loc s.p) 20 (.int r)=some (σ.set s.p (.ins 1 (yS h row ps s ⟨u.rd,r,u.E,u.v⟩ dn))):=S.st rfl rfl
end
inductive Cs(r0 g:Nat)(τ:TT)(v:Nat):Prop
 |mk(r:Cr (g+r0) τ)(v:50*v+g<=200000)
variable {r0:Nat}
theorem Cs.le{g g' v:Nat}(k:Cs r0 g τ v)(h:g'<=g):Cs r0 g' τ v:=⟨k.1.le (aat h _),aaa (aav h _) k.2⟩
theorem Cs.rows{g g' v:Nat}{ay:TT}(k:Cs r0 g τ v)(c:Cr (g'+r0) ay)(h:g'<=g):Cs r0 g' ay v:=⟨c,(k.le h).2⟩
def Done(h:Nat)(s:Sp)(ps:List (Nat×Nat))(E:List V)(A:List Atom)(r0 r:Nat)(τ:TT)(σ:St):Prop:=∃row u,∃t:Nat,ir h s σ row ps u t/\u.E=E/\ar τ A t/\Cs r0 r τ u.v
def Rs(l h dp:Nat)(s:Sp)(τ:TT)(σ:St)(K:TT->St->Prop)(x:Option (V×St)):Prop:=∃ay aq,Q l h dp (oO s) τ σ ay aq/\K ay aq/\x=some (.none,aq)
theorem Rs.el{K:TT->St->Prop}{x:Option (V×St)}{G:Prop}(z:Rs l h dp s τ σ K x)(k:∀ay aq,Q l h dp (oO s) τ σ ay aq->K ay aq->x=some (.none,aq)->G):G:=dM z k
theorem Rs.to{K K':TT->St->Prop}{x y:Option (V×St)}{ET:TT}{σ0:St}(z:Rs l h dp s τ σ K x)(q:Q l h dp (oO s) ET σ0 τ σ)(i:∀{τ σ},K τ σ->K' τ σ)(k:∀{s:St},x=some (.none,s)->y=some (.none,s)):Rs l h dp s ET σ0 K' y:=z.el λay aq a b e=>⟨ay,aq,q.trans a,i b,k e⟩
theorem Rs.fin{ay:TT}{aq:St}{A:List Atom}{t r:Nat}{x:Option (V×St)}(q:Q l h dp (oO s) τ σ ay aq)(S:ir h s aq row ps u dn)(k:ar ay A t)(c:Cs r0 r ay u.v)(e:bT P aq (.loc s.p) 21 (iV t)=some (aq.set s.p (.ins 1 (yS h row ps s u t)))->x=some (.none,aq.set s.p (.ins 1 (yS h row ps s u t)))):Rs l h dp s τ σ (Done h s ps u.E A r0 r) x:=
 ⟨ay,_,q.trans (q.1.Av S.4.1 _ (.inl rfl)),⟨row,u,t,S.El row u.rd u.pa t,rfl,k,c⟩,e (S.RE t)⟩
structure KJ(m:Ab.Env)(c a:List Nm):Prop where
 c1:(c.flatMap (sub m)).length<=30
 a1:(a.flatMap (sub m)).length<=30
 c2:c.length<=30
 a2:a.length<=30
variable {D:Nat}{C:Atom->Nat}{m:Ab.Env}(hD:4<=D)(hm:fk m){q:Qn}
include hD hm
omit hD hm in
theorem pA{n:Nat}(h:n<=30):n<=61:=aaa h (by decide)
theorem KL(W:Wd l h dp τ σ)(S:ir h s σ q.row ps u dn)(ok:de τ m ps)(hp:ps≠[])(Z:q.Sd τ)(F:KJ m q.c q.a)(hy:l0 l h dp D C m q.y)(hn:l0 l h dp D C m q.n){held:List Nm}(hk:(u.pa= -1/\held=subs m q.c)\/∃pt:Nat,u.pa=pt/\ar τ (aR held) pt)(d:Nat)(hd:D<=d){r:Nat}(hb:Cs r0 (sA C q.y+sA C q.n+8+r) τ u.v):
  Rs l h dp s τ σ (Done h s ps u.E [.cond held (subs m q.a) (less (bC q.y m)) (less (bC q.n m)) q.s] r0 r) (af P (d+10) 34 [.loc s.p] σ):=by
 refine cps λab kk=> ?_;have mv:fO l σ (dW ps) ps:= .inl rfl;obtain La:=l0.names (l:=l) (h:=h) (dp:=dp) hD (pA F.a1) (pA F.a2);obtain low:r<=sA C q.y+sA C q.n+8+r:=aaj ..;have b1:Cr (1+(1+(sA C q.y+(1+(sA C q.n+(1+(1+(1+(r+r0))))))))) τ:=hb.1.le (by simp+arith);refine aaI hk (λaZ=>A2 aZ λk1 k2=> ?_) λaw=>ah aw λpt k1 k2=> ?_
 ·refine Cp hm hp hd W mv ok q.s Z (l0.names hD (pA F.c1) (pA F.c2)) La hy hn b1 λt tc ta ty tn fF bD p1 c1 Z1 r1 e1=> ?_;refine kk<| .fin (t:=t) (p1.w _) (S.ext W.3 p1.ext) (bH.mpr ⟨tc,ta,ty,tn,r1,k2▸Z1.1,Z1.2,Z1.3,Z1.4⟩) (hb.rows (c1.le (aaj ..)) low) λAw=> ?_
  obtain laid:af P (d+9) 33 [.loc s.p] σ=some (iV t,bD):=run [.v S.KI,.b (k1▸rfl:aS σ .lt (.int u.pa) (.int 0)=some true),.v S.sC,.v S.IK,.v S.Cq,.c e1,.r] (by kernel_rfl);exact run [.c laid,.s Aw] (by kernel_rfl)
 ·refine Cp (c:=[]) (tc:=2) hm hp hd W mv ok q.s ⟨rfl,Z.2,Z.3,Z.4⟩ (l0.names hD (aaS _) (aaS _)) La hy hn b1 λt0 tc ta ty tn fF bD p1 c1 Z1 r1 e1=> ?_;refine(gV p1.1.1 (d+7) (row:=bf pt ta ty tn q.s) (by cases q.s<;>rfl) c1).el λt jG dx p2 r2 c2 e2=> ?_;have S1:=S.ext W.3 p1.ext;obtain w2:=p1.1.pq p2 No;refine kk<| .fin (t:=t) ((p1.trans w2).w _) (S1.ext W.3 w2.ext) (bH.mpr ⟨pt,ta,ty,tn,r2,k2.mono (p1.2.trans w2.2),Z1.2.mono w2.2,Z1.3.mono w2.2,Z1.4.mono w2.2⟩) (hb.rows c2 low) λAw=> ?_
  obtain lt:aS σ .lt (.int u.pa) (.int 0)=some false:=congrArg some (decide_eq_false (by lia));obtain laid:af P (d+9) 33 [.loc s.p] σ=some (iV t,dx):=run [.v S.KI,.b lt,.v S.Cq,.c mv.len,.b (Cm (s:=σ) hp),.v S.sC,.v S.IK,.r,.r,.v S.Cq,.c e1,.v S1.sC,.v p1.1.gK,.n p1.1.1.pP,.v (k1▸S1.KI:aE bD (.loc s.p) 20=some (.int pt)),.v S1.sC,.v p1.1.gK,.v p1.1.1.a0,.v (p1.1.1.at r1),.r,.r,.c e2,.r] (by kernel_rfl);exact run [.c laid,.s Aw] (by kernel_rfl)
end
section
variable {l h dp:Nat}{s:Sp}{τ:TT}{σ:St}{ps:List (Nat×Nat)}{u:Dy}{m:Ab.Env}{q:Qn}
inductive Inv(l h dp:Nat)(s:Sp)(ps:List (Nat×Nat))(m:Ab.Env)(q:Qn)(u:Dy)(τ:TT)(σ:St):Prop
 |mk(W:Wd l h dp τ σ)(S:ir h s σ q.row ps u (-1))(Z:q.Sd τ)(ok:de τ m ps)
theorem Inv.on{ay:TT}{aq:St}(I:Inv l h dp s ps m q u τ σ)(x:Q l h dp No τ σ ay aq):Inv l h dp s ps m q u ay aq:=⟨x.1,I.2.ext I.1.3 x.ext,I.3.mono x.2,I.4.q x⟩
def KN(m:Ab.Env)(q:Qn)(u:Dy)(held:List Nm)(τ:TT):Prop:=(u.pa= -1/\held=subs m q.c)\/∃pt:Nat,u.pa=pt/\ar τ (aR held) pt
theorem yk(I:Inv l h dp s ps m q u τ σ)(hm:fk m)(hc:aC q.c=q.c)(F:KJ m q.c q.a){held:List Nm}(hk:KN m q u held τ){r:Nat}(hb:Cr (1+r) τ)(d:Nat):qk l h dp No τ σ (aR held) r (af P (d+10) 32 [.loc s.p] σ):=by
 refine cps λab kk=> ?_;obtain c2:=I.1.pP 2 (f:=78) rfl;refine aaI hk (λaZ=>A2 aZ λk1 k2=> ?_) λaw=>ah aw λpt k1 k2=> ?_
 ·refine kk<|(uC I.1 (.inl rfl) I.4 hm d hc (pA F.c1) (pA F.c2) I.3.1 hb).el λck ay aq p k c e=> .mk (t:=ck) p (k2▸k) c ?_
  exact run [.v I.2.sC,.n c2,.v I.2.KI,.b (k1▸rfl:aS σ .ge (.int u.pa) (.int 0)=some false),.n (I.1.pP 4 (f:=80) rfl),.v I.2.IK,.r,.v I.2.Cq,.c e,.c (iC p.1 (d+6) k lZ),.r] (by kernel_rfl)
 ·refine kk<| .mk (t:=pt) (I.1.q0 _) k2 (hb.le (aaj ..)) ?_
  obtain KI:aE σ (.loc s.p) 20=some (.int pt):=k1▸I.2.KI;exact run [.v I.2.sC,.n c2,.v KI,.b (congrArg some (decide_eq_true (abl pt)):aS σ .ge (.int pt) (.int 0)=some true),.v KI,.c (iC I.1 (d+6) k2 lZ),.r] (by kernel_rfl)
inductive Ends(l h dp:Nat)(s:Sp)(ps:List (Nat×Nat))(m:Ab.Env)(q:Qn)(u:Dy)(r0 g:Nat)(held ask:List Nm)(Y N:List Atom)(d0:Nat)(K:List Atom->TT->St->Prop):Prop
 |mk(hD:∀τ σ,Done h s ps u.E [.n aL] r0 g τ σ->Wd l h dp τ σ->K [.n aL] τ σ)
  (hW:(isOpen held ||isOpen ask)=true->∀d,d0<=d->∀τ σ,Inv l h dp s ps m q u τ σ->Cs r0 g τ u.v->KN m q u held τ->Rs l h dp s τ σ (K [.cond held ask Y N q.s]) (af P d 34 [.loc s.p] σ))
  (hY:(isOpen held ||isOpen ask)=false->∀τ σ,Inv l h dp s ps m q u τ σ->Cs r0 g τ u.v->Rs l h dp s τ σ (K Y) (af P d0 41 [.loc s.p,iV q.ty,dW ps] σ))
  (hN:(isOpen held ||isOpen ask)=false->∀τ σ,Inv l h dp s ps m q u τ σ->Cs r0 g τ u.v->Rs l h dp s τ σ (K N) (af P d0 41 [.loc s.p,iV q.tn,dW ps] σ))
  (hB:(isOpen held ||isOpen ask)=false->held=[20]->∀τ σ,Inv l h dp s ps m q u τ σ->Cs r0 g τ u.v->∃t fF bD v,Q l h dp (oO s) τ σ fF bD/\af P d0 44 [.loc s.p,iV q.ty,dW ps] σ=some (iV t,bD)/\ir h s bD q.row ps ⟨u.rd,u.pa,u.E,v⟩ (-1)/\u.E.length+1<big/\
   Rs l h dp s fF (bD.set s.ex (.lst (u.E++[iV t]))) (K (less (Y++N))) (af P d0 41 [.loc s.p,iV q.tn,dW ps] (bD.set s.ex (.lst (u.E++[iV t])))))
theorem KN.mono{τ ay:TT}{held:List Nm}(k:KN m q u held τ)(x:τ.Le ay):KN m q u held ay:=k.imp id λz=>ah z λpt a b=>⟨pt,a,b.mono x⟩
variable {held ask:List Nm}{Y N:List Atom}{d r0 g:Nat}{K:List Atom->TT->St->Prop}
def took(held ask:List Nm)(Y N:List Atom)(sd:Bool):List Atom:=if isOpen ask then[.cond held ask Y N sd]else if decide (ask=[20]) ||decide (ask=[21])then Y else if decide (held=[20])then less (Y++N)else if fits held ask then Y else N
theorem KO(X:Ends l h dp s ps m q u r0 g held ask Y N d K)(I:Inv l h dp s ps m q u τ σ)(c:Cs r0 g τ u.v)(hk:KN m q u held τ)(cl:isOpen held=false):Rs l h dp s τ σ (K (took held ask Y N q.s)) (af P (d+1) 39 [.loc s.p,.int (verdict held ask),dW ps] σ):=by
 obtain Ax:=I.2.IK;have y:∀{v},isOpen ask=false->v=1->Rs l h dp s τ σ (K Y) (af P (d+1) 39 [.loc s.p,.int v,dW ps] σ):=λo e=>e▸(X.3 (by rw[cl,o];rfl) τ σ I c).to (I.1.q0 _) id λe=>run [.r,.r,.v Ax,.r,.c e] (by kernel_rfl);unfold took verdict;cases ho:isOpen ask
 ·cases hu:decide (ask=[20]) ||decide (ask=[21])
  ·cases ha:decide (held=[20])
   ·cases hf:fits held ask
    ·exact(X.4 (by rw[cl,ho];rfl) τ σ I c).to (I.1.q0 _) id λe=>run [.r,.r,.r,.v Ax,.r,.v I.2.Cq,.c e] (by kernel_rfl)
    ·exact y ho rfl
   ·refine jI (X.5 (by rw[cl,ho];rfl) (of_decide_eq_true ha) τ σ I c) λt fF bD v q1 e1 S1 lE z=> ?_;refine z.to (q1.trans (q1.1.Av S1.6.1 _ (.inr (.inr rfl)))) id λe2=> ?_;exact run [.r,.r,.r,.v I.2.WX,.n (jY I.2.3 P),.v Ax,.r,.c e1,.c (iA S1.3 lE _:cX (af P d) bD .append 0 (.loc s.ex) [iV t]=_),.v (bP ((if_neg S1.8).trans S1.1) rfl:aE (bD.set s.ex (.lst (u.E++[iV t]))) (.loc s.p) 15=some q.row),.r,.v (bP ((if_neg S1.8).trans S1.1) rfl:aE (bD.set s.ex (.lst (u.E++[iV t]))) (.loc s.p) 16=some (dW ps)),.c e2] (by kernel_rfl)
  ·exact y ho rfl
 ·exact(X.2 (by rw[ho,ads]) d (aab _) τ σ I c hk).to (I.1.q0 _) id λe=>run [.r,.c e] (by kernel_rfl)
theorem WY(W:Wd l h dp τ σ)(Z:q.Sd τ)(d:Nat):af P (d+1) 28 [.loc l,q.row] σ=some (.bool false,σ):=Ar W d q.s Z.1 Z.2
def Ct(held ask:List Nm)(Y N:List Atom)(sd:Bool):List Atom:=if ask=[22]then[.n aL]else took held ask Y N sd
theorem KP(X:Ends l h dp s ps m q u r0 g held (subs m q.a) Y N (d+8) K)(hm:fk m)(I:Inv l h dp s ps m q u τ σ)(c:Cs r0 (63+g) τ u.v)(hk:KN m q u held τ)(F:KJ m q.c q.a)(ha:aC q.a=q.a){ck:Nat}(KQ:ar τ (aR held) ck)(ch:aC held=held)(cl:isOpen held=false)(lh:held.length<=30):
  Rs l h dp s τ σ (K (Ct held (subs m q.a) Y N q.s)) (af P (d+10) 38 [.loc s.p,q.row,iV ck] σ):=by
 refine(uC I.1 (.inl rfl) I.4 hm d ha (pA F.a1) (pA F.a2) I.3.2 (r:=62+(g+r0)) (c.1.le (by simp+arith))).el λe fF bD p1 k1 c1 e1=> ?_;have I1:=I.on p1;obtain fo:=iC p1.1 (d+6) k1 lZ;obtain c2:=I.1.pP 2 (f:=78) rfl;obtain c4:=I.1.pP 4 (f:=80) rfl;have yT:=kM p1.1.1.8 k1 (A4 (dH p1.1.1.8) λab ai x aD=>x) bD;unfold Ct;by_cases IL:subs m q.a=[22]
 ·rw[decide_eq_true IL]at yT;rw[if_pos IL];exact(Rs.fin (t:=13) (A:=[.n aL]) (p1.w _) I1.2 (A4 (dH p1.1.1.8) λab ai x aD=>x) (c.rows (c1.le (aaj ..)) (aaj ..)) λAw=>run [.v I.2.sC,.n c2,.n c4,.r,.v I.2.Cq,.c e1,.c fo,.v I1.2.Cq,.r,.r,.r,.b yT,.s Aw] (by kernel_rfl)).el λjG dx q2 dn e=>⟨jG,dx,q2,X.1 jG dx dn q2.1,e⟩
 ·simp only[decide_eq_false IL]at yT;rw[if_neg IL];refine dM (judge p1.1 (d+1) (KQ.mono p1.2) k1 cl IL ch (eM m q.a) lh (aaa (gZ _) F.a1) c1) λjG dx p2 c3 e2=> ?_;exact(KO X (I1.on p2) (c.rows c3 (aaj ..)) (hk.mono (p1.trans p2).2) cl).to ((p1.trans p2).w _) id λe3=>run [.v I.2.sC,.n c2,.n c4,.r,.v I.2.Cq,.c e1,.c fo,.v I1.2.Cq,.r,.r,.r,.b yT,.v p1.1.gK,.c (WY p1.1 I1.3 (d+8)),.c e2,.c e3] (by kernel_rfl)
theorem Cu(X:Ends l h dp s ps m q u r0 g held (subs m q.a) Y N (d+8) K)(hm:fk m)(I:Inv l h dp s ps m q u τ σ)(c:Cs r0 (64+g) τ u.v)(hk:KN m q u held τ)(F:KJ m q.c q.a)(hc:aC q.c=q.c)(ha:aC q.a=q.a)(hs:(q.s &&held.length !=1)=false)(ch:aC held=held)(lh:held.length<=30):
  Rs l h dp s τ σ (K (if held=[22]then[.n aL]else pick held (subs m q.a) Y N q.s)) (af P (d+11) 37 [.loc s.p] σ):=by
 refine(yk I hm hc F hk (r:=63+(g+r0)) (c.1.le (by simp+arith)) d).el λck fF bD p1 KQ c1 e1=> ?_;obtain I1:=I.on p1;obtain cs:=c.rows (g':=63+g) (c1.le (by simp+arith)) (by simp+arith);obtain EU:=I.2.sC;have Ax:=I.2.IK;have yT:=kM p1.1.1.8 KQ (A4 (dH p1.1.1.8) λab ai x aD=>x) bD;by_cases IL:held=[22]
 ·rw[decide_eq_true IL]at yT;rw[if_pos IL];exact(Rs.fin (t:=13) (A:=[.n aL]) (p1.w _) I1.2 (A4 (dH p1.1.1.8) λab ai x aD=>x) (cs.le (aaj ..)) λAw=>run [.v EU,.v Ax,.c e1,.b yT,.s Aw] (by kernel_rfl)).el λjG dx q2 dn e=>⟨jG,dx,q2,X.1 jG dx dn q2.1,e⟩
 ·simp only[decide_eq_false IL]at yT;rw[if_neg IL];obtain gK:=p1.1.gK;have iw:=WY p1.1 I1.3 (d+9);have so:=oN p1.1 (d+7) KQ;rw[vx]at so
  --Sl code ahead of Sl oN
  have pre:∀{s2:St},(∀w:V,w= .bool (isOpen held)->af P (d+10) 29 [.loc h,iV ck,.bool false] bD=some (w,bD))->(if isOpen held then af P (d+10) 34 [.loc s.p] bD=some (.none,s2)else af P (d+10) 38 [.loc s.p,q.row,iV ck] bD=some (.none,s2))->af P (d+11) 37 [.loc s.p] σ=some (.none,s2):=λ{s2} so z=>by
   have so:=so _ rfl;have WZ:=I1.2.Cq;obtain ba:=Au (h:=h) (σ:=bD) (d+9) (dW ps);obtain⟨cc,aa,yy,nn,sd,tc,ta,ty,tn⟩:=q;cases sd with
   |false=>
    revert so z;cases isOpen held
    ·exactλso e2=>run [.v EU,.v Ax,.c e1,.b yT,.r,.r,.r,.r,.v gK,.c iw,.c so,.r,.v WZ,.c ba,.c e2] (by kernel_rfl)
    ·exactλso e2=>run [.v EU,.v Ax,.c e1,.b yT,.r,.r,.r,.r,.v gK,.c iw,.c so,.c e2] (by kernel_rfl)
   |true=>
    match held,hs with
    |[x],ab=>
     obtain t2:aS bD .eq (iV ck) (.int 2)=some false:=eq_int (decide_eq_false λe=>acg _ _ (je p1.1.1.8 ((aaO e:ck=2)▸KQ:ar fF (aR [x]) 2)));obtain t6:=yR bD 6 (jx x).1;obtain kk:=vE p1.1.1 (d+9) KQ;revert so z;cases isOpen [x]
     ·exactλso e2=>run [.v EU,.v Ax,.c e1,.b yT,.r,.r,.b t2,.r,.r,.v gK,.c kk,.b t6,.v gK,.c iw,.c so,.r,.v WZ,.c ba,.c e2] (by kernel_rfl)
     ·exactλso e2=>run [.v EU,.v Ax,.c e1,.b yT,.r,.r,.b t2,.r,.r,.v gK,.c kk,.b t6,.v gK,.c iw,.c so,.c e2] (by kernel_rfl)
  have pre:=λs2=> @pre s2 λw e=>e▸so;cases ho:isOpen held
  ·rw[show pick held (subs m q.a) Y N q.s=Ct held (subs m q.a) Y N q.s by unfold pick Ct took;simp only[ho,aL,gI,tj,Bool.not_false,aeU,adm,decide_eq_true_eq]];exact(KP X hm I1 cs (hk.mono p1.2) F ha KQ ch ho lh).to (p1.w _) id λ{s2} e=>pre s2 (by rw[ho];exact e)
  ·rw[show pick held (subs m q.a) Y N q.s=[.cond held (subs m q.a) Y N q.s] by unfold pick;simp only[ho,adU,adf,aea];rfl];exact(X.2 (by rw[ho];rfl) (d+10) (aav (by decide) _) fF bD I1 (cs.le (aaj ..)) (hk.mono p1.2)).to (p1.w _) id λ{s2} e=>pre s2 (by rw[ho];exact e)
end
section
variable {l h dp:Nat}{s:Sp}{τ:TT}{σ:St}{row:V}{ps:List (Nat×Nat)}{u:Dy}{dn:Int}{m:Ab.Env}{r0 r:Nat}
theorem KR(W:Wd l h dp τ σ)(S:ir h s σ row ps u dn)(hr:u.rd+1<=200)(hv:u.v+1<=4000)(d:Nat){G:Prop}(kk:∀aq,Q l h dp (oO s) τ σ τ aq->ir h s aq row ps ⟨u.rd+1,u.pa,u.E,u.v+1⟩ dn->af P (d+1) 76 [.loc s.p] σ=some (.none,aq)->G):G:=by
 obtain S1:=S.El row (u.rd+1) u.pa dn;have q1:=W.Av S.4.1 (.ins 1 (yS h row ps s ⟨u.rd+1,u.pa,u.E,u.v⟩ dn)) (X:=oO s) (.inl rfl);obtain U2:bT P σ (.loc s.p) 17 (iV (u.rd+1))=some (σ.set s.p (.ins 1 (yS h row ps s ⟨u.rd+1,u.pa,u.E,u.v⟩ dn))):=S.st rfl rfl;revert U2 q1 S1;generalize σ.set s.p (.ins 1 (yS h row ps s ⟨u.rd+1,u.pa,u.E,u.v⟩ dn))=bD;intro S1 q1 U2;obtain ix:∀{σ:St} {v:Nat},σ.f s.sp= .lst [iV v]->bS σ (.loc s.sp) (.int 0)=some (iV v):=λ{σ v} e=>by show(match(σ.f s.sp).eW with |some vs=>_ |none=>_)=_;rw[e];rfl
 obtain sx:cL bD (.loc s.sp) (.int 0) (iV (u.v+1))=some (bD.set s.sp (.lst [iV (u.v+1)])):=by show(match bD.f s.sp with | .lst vs=>_ | .bV ks vs=>_ |_=>_)=_;exact S1.2▸rfl
 obtain S2:ir h s (bD.set s.sp (.lst [iV (u.v+1)])) row ps ⟨u.rd+1,u.pa,u.E,u.v+1⟩ dn:=⟨(if_neg S1.7).trans S1.1,cz ..,(if_neg S1.9.symm).trans S1.3,S1.4,S1.5,S1.6,S1.7,S1.8,S1.9⟩;obtain q2:=q1.1.Av S1.5.1 (.lst [iV (u.v+1)]) (X:=oO s) (.inr (.inl rfl));obtain gt:∀{a b:Nat},a<=b->aS (bD.set s.sp (.lst [iV (u.v+1)])) .gt (iV a) (iV b)=some false:=λh=>congrArg some (decide_eq_false (adM.mpr (adv.mpr h)));exact kk _ (q1.trans q2) S2 (run [.v S.PF,.r,.s U2,.v S1.PG,.v (ix S1.2),.r,.s sx,.v S2.PF,.v S2.sC,.v q2.1.Y7,.b (gt hr),.v S2.PG,.v (ix S2.2),.b (gt hv)] (by kernel_rfl))
def SO(l h dp D:Nat)(m:Ab.Env)(ps:List (Nat×Nat))(As:List Atom):Prop:=(ps≠[]/\l0 l h dp D Wt m As)\/(ps=[]/\((∃ns,As=aR ns/\aC ns=ns)\/∃c a y n s,As=[.cond c a y n s]))
theorem HG(y:List Atom):sA Wt y=eU y:=(lQ y).symm
variable {D:Nat}(hm:fk m)
include hm in
theorem OI(W:Wd l h dp τ σ)(ok:de τ m ps){As:List Atom}(B:SO l h dp D m ps As)(nc:∀c a y n s,As≠[.cond c a y n s]){t:Nat}(ht:ar τ As t)(d:Nat)(hd:D<=d)(hb:Cr (eU As+(1+r)) τ):qk l h dp No τ σ (less (bC As m)) r (af P (d+5) 80 [.loc h,iV t,dW ps] σ):=by
 rcases B with⟨hp,L⟩ |⟨hp,⟨ns,e,hn⟩ |⟨c,a,y,n,s,e⟩⟩
 ·exact(Co hm hp hd L W (.inl rfl) ok ht (by rw[HG];exact hb)).to λe=>run [.c e,.r] (by kernel_rfl)
 ·subst e;refine .mk (t:=t) (W.q0 _) ?_ (hb.le (by simp+arith)) (run [.c (uB W (.inl rfl) hp (d+3) t),.r] (by kernel_rfl));simp only[ik,yj (ok.T (hp▸aar _)) (ok.U (hp▸aar _)) hn];exact ht
 ·exact absurd e (nc c a y n s)
def W4(l h dp:Nat)(s:Sp)(ps:List (Nat×Nat))(m:Ab.Env)(u:Dy)(y:List Atom)(r0 r:Nat)(τ:TT)(σ:St):Prop:=
 Done h s ps u.E (less (bC y m)) r0 r τ σ\/∃q,y=[q.at]/\Inv l h dp s ps m q ⟨u.rd+1, -1,u.E,u.v+1⟩ τ σ/\Cs r0 (Wt q.at+r) τ (u.v+1)
theorem Cv(y:List Atom):(∃c a y' n s,y=[.cond c a y' n s])\/∀c a y' n s,y≠[.cond c a y' n s]:=by
 match y with
 |[]=>exact .inr λab ai aD bO fc h=>nomatch h
 |[.n x]=>exact .inr λab ai aD bO fc h=>by cases h
 |[.cond c a y' n s]=>exact .inl ⟨c,a,y',n,s,rfl⟩
 |ab::ai::aD=>exact .inr λab ai aD bO fc h=>by cases h
include hm in
theorem HH(W:Wd l h dp τ σ)(S:ir h s σ row ps u (-1))(ok:de τ m ps){y:List Atom}(B:SO l h dp D m ps y){t:Nat}(ht:ar τ y t)(hr:u.rd+1<=200)(c:Cs r0 (eU y+50+r) τ u.v)(d:Nat)(hd:D<=d):Rs l h dp s τ σ (W4 l h dp s ps m u y r0 r) (af P (d+6) 41 [.loc s.p,iV t,dW ps] σ):=by
 refine cps λab kk=> ?_;have al:∀e,af P (e+1) 40 [.loc s.p,iV t,dW ps] σ=some (.tup [iV t,dW ps],σ):=λe=>aliases W e s.p S.1 ht _;rcases Cv y with⟨c',a,y',n,sd,e⟩ |nc
 ·subst e;refine jI (bH.mp ht) λtc ta ty tn r1 z1 z2 z3 z4=> ?_;let q:Qn:=⟨c',a,y',n,sd,tc,ta,ty,tn⟩;refine KR W S hr (by obtain this:=c.2;lia) (d+4) λbD q1 S1 e1=> ?_;obtain S2:=S1.El q.row (u.rd+1) u.pa (-1);obtain q2:=q1.1.Av S1.4.1 (.ins 1 (yS h q.row ps s ⟨u.rd+1,u.pa,u.E,u.v+1⟩ (-1))) (X:=oO s) (.inl rfl);obtain S3:=S2.El q.row (u.rd+1) u.pa (-1);obtain q3:=q2.1.Av S1.4.1 (.ins 1 (yS h q.row ps s ⟨u.rd+1,u.pa,u.E,u.v+1⟩ (-1))) (X:=oO s) (.inl rfl);obtain q4:=q3.1.Av S1.4.1 (.ins 1 (yS h q.row ps s ⟨u.rd+1, -1,u.E,u.v+1⟩ (-1))) (X:=oO s) (.inl rfl);obtain cf:dA P σ (.user 1) (.loc s.p)=some 76:=by
   show om (σ.f s.p).me (λq=>P.hH q.1 1)=_;rw[S.1];rfl
  refine kk<|⟨τ,_,((q1.trans q2).trans q3).trans q4,.inr ⟨q,rfl,⟨q4.1,(S3.El q.row (u.rd+1) (-1) (-1)),⟨z1,z2,z3,z4⟩,ok⟩,⟨c.1.le (by simp only[eU,eU];simp+arith),?_⟩⟩,?_⟩
  ·obtain this:=c.2;simp only[eU,eU]at this;lia
  ·exact run [.c (al (d+4)),.v S.sC,.v W.gK,.v W.1.a0,.v (W.1.at r1),.r,.r,.n cf,.c e1,.s (S1.st rfl rfl:bT P bD (.loc s.p) 15 q.row=some (bD.set s.p (.ins 1 (yS h q.row ps s ⟨u.rd+1,u.pa,u.E,u.v+1⟩ (-1))))),.s (S2.st rfl rfl:bT P _ (.loc s.p) 16 (dW ps)=some _),.s (S3.Mx (-1))] (by kernel_rfl)
 ·refine ah (gw W.1.8 ht σ) λw rr k=> ?_;refine(OI hm W ok B nc ht d hd (r:=49+(r+r0)) (c.1.le (by simp+arith))).el λt' ay aq p1 k1 c1 e1=> ?_;exact kk<|(Rs.fin (t:=t') (p1.w _) (S.ext W.3 p1.ext) k1 (c.rows (c1.le (aaj _ _)) (aaj _ _)) λAw=>run [.c (al (d+4)),.v S.sC,.v W.gK,.v W.1.a0,.v (W.1.at rr),.v k,.b (ne_int (Ck nc):aS σ .ne (.int (kT y)) (.int 16)=some true),.v S.sC,.n (W.pP 4 (f:=80) rfl),.c e1,.s Aw] (by kernel_rfl)).to (W.q0 _) .inl id
end
theorem KS{σ:St}{p:Nat}{fs:List (Nat×V)}(h:σ.f p= .ins 1 fs)(hl:fs.length<100){a:Nat}(ha:P.fX 1 a=true)(v:V):bT P σ (.loc p) a v=some (σ.set p (.ins 1 (fb fs a v))):=by show om (σ.f p).me _=_;rw[h];exact b7 (by simp only[ha,decide_eq_true hl];rfl)
inductive Ns(σ:St)(fs:List (Nat×V))(k:Nat)(s:St):Prop
 |mk(x:Ext σ s)(n:s.n=σ.n+k)(f:s.f σ.n= .ins 1 fs)
theorem Ns.set{σ s:St}{fs:List (Nat×V)}{k:Nat}(h:Ns σ fs k s)(a:Nat)(v:V):Ns σ (fb fs a v) k (s.set σ.n (.ins 1 (fb fs a v))):=⟨h.1.set (aab _) _,h.2,cz ..⟩
theorem m6(d:Nat)(σ:St)(h:Nat)(row:V)(ps:List (Nat×Nat))(rd sp:Nat):∃aq,Ext σ aq/\aq.n=σ.n+2/\(∀E v,aq.f σ.n= .ins 1 (yS h row ps ⟨σ.n,sp,σ.n+1⟩ ⟨rd, -1,E,v⟩ (-1)))/\aq.f (σ.n+1)= .lst []/\wI P (af P (d+1)) σ 1 [.loc h,row,dW ps,iV rd,.loc sp]=some (.loc σ.n,aq):=by
 have a0:Ns σ [] 1 (σ.new (.ins 1 [])):=⟨Ext.new σ _,rfl,bY ..⟩;obtain a5:=((((a0.set 14 (.loc h)).set 15 row).set 16 (dW ps)).set 17 (iV rd)).set 18 (.loc sp);have e:∀{s:St} {fs:List (Nat×V)} {k:Nat} (a:Nat) (v:V),Ns σ fs k s->P.fX 1 a=true->fs.length<100->bT P s (.loc σ.n) a v=some (s.set σ.n (.ins 1 (fb fs a v))):=λa v z ok l=>KS z.3 l ok v;obtain e5:=e 18 (.loc sp) ((((a0.set 14 (.loc h)).set 15 row).set 16 (dW ps)).set 17 (iV rd)) rfl (by show 4<100;decide);revert a5 e5;generalize(((((σ.new (.ins 1 [])).set σ.n (.ins 1 (fb [] 14 (.loc h)))).set σ.n (.ins 1 (fb (fb [] 14 (.loc h)) 15 row))).set σ.n (.ins 1 (fb (fb (fb [] 14 (.loc h)) 15 row) 16 (dW ps)))).set σ.n (.ins 1 (fb (fb (fb (fb [] 14 (.loc h)) 15 row) 16 (dW ps)) 17 (iV rd)))).set σ.n (.ins 1 (fb (fb (fb (fb (fb [] 14 (.loc h)) 15 row) 16 (dW ps)) 17 (iV rd)) 18 (.loc sp)))=s5;intro a5 e5;have n5:=a5.2;obtain lt:σ.n<s5.n:=n5▸aap _;have a6:Ns σ _ 2 (s5.new (.lst [])):=⟨a5.1.trans (Ext.new s5 _),congrArg Nat.succ n5,(if_neg (aaF lt)).trans a5.3⟩;obtain g6:(s5.new (.lst [])).f (σ.n+1)= .lst []:=n5▸bY s5 (.lst []);obtain a7:=a6.set 19 (.loc s5.n);obtain a8:=a7.set 20 (.int (-1));obtain a9:=a8.set 21 (.int (-1));obtain o:∀{s:St} {o:O},s.f (σ.n+1)= .lst []->(s.set σ.n o).f (σ.n+1)= .lst []:=λh=>(if_neg (aeO _)).trans h;refine EX _ a9.1 a9.2 (λE v=>a9.3.trans ?_) (o (o (o g6))) ?_
 ·rw[n5];rfl
 ·refine(eB (rfl:P.iT[1]? =some 75)).trans ((aQ (a:=V.none) ?_).trans rfl);exact run [.s (e 14 (.loc h) a0 rfl (by decide)),.s (e 15 row (a0.set 14 (.loc h)) rfl (by show 1<100;decide)),.s (e 16 (dW ps) ((a0.set 14 (.loc h)).set 15 row) rfl (by show 2<100;decide)),.s (e 17 (iV rd) (((a0.set 14 (.loc h)).set 15 row).set 16 (dW ps)) rfl (by show 3<100;decide)),.s e5,.s (e 19 (.loc s5.n) a6 rfl (by show 5<100;decide)),.s (e 20 (.int (-1)) a7 rfl (by show 6<100;decide)),.s (e 21 (.int (-1)) a8 rfl (by show 7<100;decide))] (by kernel_rfl)
abbrev j9(d n p:Nat)(σ:St):Res:=oX (λr s=>wh P (af P d) (lc 42 0) r s) (λr s=>dS P (af P d) (lb 42 0) r s) n [some (.loc p)] σ
inductive Eo(k hh dp:Nat)(u:Dy):Prop
 |mk(rd:u.rd+hh<=200)(E:u.E.length+hh<=900)(dp:dp+3*hh<=k)
inductive Ex(t0:Nm)(hh N:Nat)(A:List Atom)(τ:TT)(E:List (List Atom×Nat))(D:List Atom):Prop
 |mk (ty:∀q∈E,ar τ q.1 q.2) (ok:∀a∈E.flatMap (λx=>x.1)++D,Cn a/\nj t0 a) (eq:less (E.flatMap (λx=>x.1)++D)=A) (nil:E=[]->D=A) (len:(E.flatMap (λx=>x.1)++D).length<=N) (k:E.length<=hh)
abbrev jg(E:List (List Atom×Nat)):List V:=E.map λq=>iV q.2
def Lo(t0:Nm)(l h dp:Nat)(s:Sp)(ps:List (Nat×Nat))(E:List V)(hh N:Nat)(A:List Atom)(r0 r:Nat)(τ:TT)(σ:St)(x:Res):Prop:=∃ay aq E1 D,Q l h dp (oO s) τ σ ay aq/\Done h s ps (E++jg E1) D r0 r ay aq/\Ex t0 hh N A ay E1 D/\x=some (.next,[some (.loc s.p)],aq)
section
variable {t0:Nm}{l h dp:Nat}{s:Sp}{ps:List (Nat×Nat)}{E:List V}{hh N:Nat}{A:List Atom}{r0 r:Nat}{τ:TT}{σ:St}{x:Res}
theorem Lo.el{G:Prop}(z:Lo t0 l h dp s ps E hh N A r0 r τ σ x)(k:∀ay aq E1 D,Q l h dp (oO s) τ σ ay aq->Done h s ps (E++jg E1) D r0 r ay aq->Ex t0 hh N A ay E1 D->x=some (.next,[some (.loc s.p)],aq)->G):G:=IU z k
theorem Lo.to{OJ N':Nat}{ET:TT}{σ0:St}{y:Res}(z:Lo t0 l h dp s ps E hh N A r0 r τ σ x)(q:Q l h dp (oO s) ET σ0 τ σ)(h1:hh<=OJ)(h2:N<=N')(e:x=y):Lo t0 l h dp s ps E OJ N' A r0 r ET σ0 y:=z.el λay aq E1 D a b c k=>⟨ay,aq,E1,D,q.trans a,b,⟨c.1,c.2,c.3,c.4,aaa c.5 h2,aaa c.6 h1⟩,e▸k⟩
theorem Lo.le{r':Nat}(z:Lo t0 l h dp s ps E hh N A r0 r τ σ x)(k:r'<=r):Lo t0 l h dp s ps E hh N A r0 r' τ σ x:=z.el λay aq E1 D a b c e=>⟨ay,aq,E1,D,a,g9 b λrow u t S e k' c=>⟨row,u,t,S,e,k',c.le k⟩,c,e⟩
theorem Done.lo(z:Done h s ps E A r0 r τ σ)(W:Wd l h dp τ σ)(ok:∀a∈A,Cn a/\nj t0 a)(ca:less A=A)(len:A.length<=N)(d k:Nat):Lo t0 l h dp s ps E hh N A r0 r τ σ (j9 d (k+1) s.p σ):=by refine⟨τ,σ,[],A,W.q0 _,(aaV E).symm▸z,⟨aar _,ok,ca,λab=>rfl,len,aaS _⟩,?_⟩;refine g9 z λrow u t S ab ai aD=> ?_;obtain tt:wh P (af P d) (lc 42 0) [some (.loc s.p)] σ=some (false,σ):=GR [.v S.OH,.b (congrArg some (decide_eq_false (adM.mpr (abl t))):aS σ .lt (.int t) (.int 0)=some false)] (by kernel_rfl);exact aQ tt
theorem vO(d k:Nat){row:V}{u:Dy}{bD:St}(S:ir h s σ row ps u (-1))(e:af P d 37 [.loc s.p] σ=some (.none,bD)):j9 d k s.p bD=j9 d (k+1) s.p σ:=by have tt:wh P (af P d) (lc 42 0) [some (.loc s.p)] σ=some (true,σ):=GR [.v S.OH,.r] (by kernel_rfl);have bd:dS P (af P d) (lb 42 0) [some (.loc s.p)] σ=some (.next,[some (.loc s.p)],bD):=eR [.c e] (by kernel_rfl);exact((aQ tt).trans (os_eq bd)).symm
theorem finish_ok(d:Nat)(z:Lo t0 l h dp s ps [] hh N A r0 (1+r) τ σ (j9 (d+3) 5000 s.p σ))(hN:N<=61)(hk:hh<=900){G:Prop}(kk:∀t ay aq v,Q l h dp (oO s) τ σ ay aq->ar ay A t->Cs r0 r ay v->aq.f s.sp= .lst [iV v]->af P (d+4) 42 [.loc s.p] σ=some (iV t,aq)->G):G:=by
 refine z.el λfF s1 E1 D q dn x e=> ?_;refine g9 dn λrow u t S eE kD c=> ?_;obtain U3:=S.WX;obtain ln:=vD S.3;rw[eE]at ln;cases E1 with
 |nil=>exact kk t fF s1 u.v q (x.4 rfl▸kD) (c.le (aaj ..)) S.2 (run [.l e,.v U3,.c ln,.r,.v S.OH,.r] (by kernel_rfl))
 |cons q1 E2=>
  obtain x1:=Ext.cw s1 [.int t];obtain W1:=q.1.ext x1;obtain ad:eP (cw s1 [.int t]) .add (.loc s.ex) (.bI [.int t])=some (.bI (jg (q1::E2)++[iV t])):=by show om ((cw s1 [.int t]).f s.ex).eW (λa=>og (decide (a.length+1<big)) (some (V.bI (a++[.int t]))))=_;simp only[(fA x1 S.6.2 S.3).2,eE];exact b7 (decide_eq_true (by simp only[adK,aae];exact aai (abm (aaa x.6 hk)) (by decide)))
  obtain ev:jg (q1::E2)++[iV t]=jg (q1::E2++[(D,t)]):=by simp only[jg,jg,aaG];rfl
  have PB:(q1::E2++[(D,t)]).flatMap (λx=>x.1)=(q1::E2).flatMap (λx=>x.1)++D:=by rw[acO,aaU (xs:=[]),aeL,aaV]
  refine(mX d (.bI (jg (q1::E2)++[iV t])) W1.1 (q1::E2++[(D,t)]) (by exact congrArg _ ev) (abM.mpr ⟨x.1,abF.mpr kD⟩) (λq hq a ha=>(x.2 a (PB▸aau.mpr ⟨q,hq,ha⟩)).1) (by rw[PB];exact aaa x.5 hN) (r:=r+r0) (abc ..▸c.1)).el λt' jG s2 p2 k2 c2 e2=> ?_;obtain k2:ar _ _ _:=k2;rw[PB,x.3]at k2;obtain f:=fA x1 S.5.2 S.2;refine kk t' jG s2 u.v ((q.trans (q.1.q x1 _)).trans (W1.pq p2 _)) k2 (c.rows c2 (aaj ..)) ?_ ?_
  ·obtain a:=vN p2.3 W1.3 ⟨S.5.1,f.1⟩;exact a.2.trans f.2
  ·exact run [.l e,.v U3,.c ln,.b (eq_int (decide_eq_false λe=>nomatch(aaO e:(jg (q1::E2)).length=0)):aS s1 .eq (.int (jg (q1::E2)).length) (.int 0)=some false),.v S.sC,.v q.1.gK,.f (jA q.1.1.1),.v U3,.v S.OH,.f (aP s1 [.int t]),.v ad,.r,.c e2,.r] (by kernel_rfl)
theorem Wd.deep(W:Wd l h dp τ σ)(yl:Nat):Wd l h yl τ (σ.set h (.ins 2 (yf l yl))):=⟨W.1.set W.3 _,cz ..,W.3,W.lt⟩
theorem U4{row:V}{u:Dy}{dn:Int}(S:ir h s σ row ps u dn):¬oO s h:=λk=>k.elim (λe=>aaF S.4.1 e) λk=>k.elim (λe=>aaF S.5.1 e) λe=>aaF S.6.1 e
theorem ym(W:Wd l h dp τ σ)(yl:Nat):bT P σ (.loc h) 11 (.int yl)=some (σ.set h (.ins 2 (yf l yl))):=by show om (σ.f h).me _=_;rw[W.2];rfl
abbrev U5(l h dp:Nat)(σ:St):St:=σ.set h (.ins 2 (yf l (dp+1)))
theorem Ay(W:Wd l h dp τ σ){row:V}{u:Dy}{dn:Int}(S:ir h s σ row ps u dn)(IM:dp<40){d t v:Nat}{ay:TT}{s2:St}(q:Q l h (dp+1) (oO s) τ (U5 l h dp σ) ay s2)(f:s2.f s.sp= .lst [iV v])(e:af P d 42 [.loc s.p] (U5 l h dp σ)=some (iV t,s2)){G:Prop}(kk:∀s3,Q l h dp (oO s) τ σ ay s3->s3.f s.sp= .lst [iV v]->af P (d+1) 43 [.loc s.p] σ=some (iV t,s3)->G):G:=by
 obtain sb:eP s2 .sub (.int ((dp+1:Nat):Int)) (.int 1)=some (.int dp):=congrArg (λz=>some (V.int z)) (by simp+arith);refine kk (s2.set h (.ins 2 (yf l dp))) ⟨q.1.deep dp,q.2,q.3,λj h1 h2 h3 h4=> ?_,q.5⟩ ((if_neg (acM S.5.1)).trans f) ?_
 ·by_cases e:j=h
  ·cases e;exact(cz ..).trans W.2.symm
  ·exact(if_neg e).trans ((q.4 j h1 h2 h3 h4).trans (if_neg e))
 ·exact run [.v S.sC,.v W.SI,.v W.Y8,.b (congrArg some (decide_eq_false (by lia)):aS σ .ge (.int dp) (.int 40)=some false),.v W.SI,.r,.s (ym W (dp+1)),.c e,.r,.v q.1.SI,.v sb,.s (ym q.1 dp)] (by kernel_rfl)
end
mutual
noncomputable def ht:Atom->Nat
 | .n ab=>0
 | .cond ab ai y n aD=>1+max (m7 y) (m7 n)
noncomputable def m7:List Atom->Nat
 |[]=>0
 |a::r=>max (ht a) (m7 r)
end
theorem yo{c a:List Nm}{y n:List Atom}{s:Bool}:less [.cond c a y n s]=[.cond c a y n s]:=by
 obtain k:=i6 [.cond c a y n s];obtain mm:Atom.cond c a y n s∈less [.cond c a y n s]:=by rw[aN rfl,kept,aaN];exact⟨aH.mpr (.inl aac),rfl⟩
 revert k mm;generalize less [.cond c a y n s]=L;intro k mm
 match L,k,mm with
 |[b],ab,mm=>rw[aag.mp mm]
def Ep(t0:Nm)(l h dp:Nat)(m:Ab.Env)(ps:List (Nat×Nat))(N hh:Nat)(A:Atom):Prop:=∀(d fuel:Nat),24*hh+20<=d->hh<=fuel->∀(τ:TT) (σ:St) (s:Sp) (q:Qn) (u:Dy) (r0 r:Nat),q.at=A->u.pa= -1->Inv l h dp s ps m q u τ σ->Eo 40 hh dp u->Cs r0 (Wt A+r) τ u.v->Lo t0 l h dp s ps u.E hh N (ev A m) r0 (1+r) τ σ (j9 d (fuel+1) s.p σ)
inductive kb(t0:Nm)(l h dp D:Nat)(m:Ab.Env)(ps:List (Nat×Nat))(y:List Atom)(N hh:Nat):Prop
 |mk(brn:∀yl,dp<=yl->yl<=dp+1->SO l h yl D m ps y)(ok:∀a∈less (bC y m),Cn a/\nj t0 a)(len:(bC y m).length<=N)(lim:N<=61)(nest:∀a,y=[a]->∀yl,dp<=yl->yl<=dp+1->Ep t0 l h yl m ps N hh a)
section
variable {t0:Nm}{l h dp D:Nat}{s:Sp}{m:Ab.Env}{ps:List (Nat×Nat)}{u:Dy}{N hh:Nat}{y:List Atom}{τ:TT}{σ:St}{r0 r:Nat}
variable (hm:fk m)
include hm
theorem sD{U6:Nat}(h1:U6<=dp)(h2:dp<=U6+1)(B:kb t0 l h U6 D m ps y N hh)(W:Wd l h dp τ σ)(G:W4 l h dp s ps m u y r0 r τ σ)(L:Eo 40 hh dp ⟨u.rd+1, -1,u.E,u.v+1⟩)(d fuel:Nat)(hd:24*hh+20<=d)(hf:hh<=fuel):Lo t0 l h dp s ps u.E hh N (less (bC y m)) r0 r τ σ (j9 d (fuel+1) s.p σ):=by
 refine aaI G (λG=> ?_) λaw=>dw aw λq e I c=> ?_
 ·exact G.lo W B.2 (bG _) (aaa (i6 _) B.3) d fuel
 ·obtain z:=B.5 _ e dp h1 h2 d fuel hd hf τ σ s q _ r0 r rfl rfl I L c;simp only[e,bC,bC,aaV,Aq hm];exact z.le (aaj ..)
theorem Eo.step(L:Eo 42 (hh+1) dp u):Eo 40 hh dp ⟨u.rd+1, -1,u.E,u.v+1⟩:=⟨by obtain this:=L.1;lia,by obtain this:=L.2;lia,by obtain this:=L.3;lia⟩
end
section
variable {t0:Nm}{l h dp D:Nat}{s:Sp}{m:Ab.Env}{ps:List (Nat×Nat)}{u:Dy}{N hh:Nat}{y:List Atom}{τ:TT}{σ:St}{r0 r:Nat}
theorem jr{s1:St}{row Em:V}{td:List (Nat×Nat)}{rd:Nat}{dn:Int}(S:ir h s σ row ps u dn)(x:Ext σ s1)(n:s1.n=σ.n+2)(fp:∀E v,s1.f σ.n= .ins 1 (yS h Em td ⟨σ.n,s.sp,σ.n+1⟩ ⟨rd, -1,E,v⟩ (-1)))(fe:s1.f (σ.n+1)= .lst []):ir h ⟨σ.n,s.sp,σ.n+1⟩ s1 Em td ⟨rd, -1,[],u.v⟩ (-1):=by obtain a:=S.4;obtain b:=S.5;exact⟨fp _ _,(x.f s.sp b.2).trans S.2,fe,⟨by lia,by lia⟩,⟨b.1,by lia⟩,⟨by lia,by lia⟩,by lia,by simp+arith,by lia⟩
theorem HI{row:V}{dn:Int}{ay:TT}{s1 s2:St}{v mk:Nat}(S:ir h s σ row ps u dn)(W:Wd l h dp τ σ)(x:Ext σ s1)(hm:σ.n<=mk)(q:Q l h dp (oO ⟨mk,s.sp,mk+1⟩) τ s1 ay s2)(f:s2.f s.sp= .lst [iV v]):Q l h dp (oO s) τ σ ay s2/\ir h s s2 row ps ⟨u.rd,u.pa,u.E,v⟩ dn:=by obtain q':=(W.q x _).trans q;have n1:∀{k:Nat},k<σ.n->k≠mk/\k≠mk+1:=λa=>⟨by lia,by lia⟩;have at':∀{k:Nat},h<k/\k<σ.n->k≠s.sp->(h<k/\k<s2.n)/\s2.f k=σ.f k:=λ{k} a b=>⟨⟨a.1,aak a.2 q'.3⟩,q'.4 k a.2 (by have:=a.1;have:=W.3;lia) (by have:=a.1;have:=W.3;lia) λz=>z.elim (n1 a.2).1 λz=>z.elim b (n1 a.2).2⟩;have a:=at' S.4 S.7;have c:=at' S.6 S.9.symm;exact⟨q'.sub λj hj k=>k.elim (λe=>absurd e (n1 hj).1) λk=>k.elim (λe=> .inr (.inl e)) λe=>absurd e (n1 hj).2,a.2.trans S.1,f,c.2.trans S.3,a.1,⟨S.5.1,aak S.5.2 q'.3⟩,c.1,S.7,S.8,S.9⟩
theorem ir.U7{row:V}{dn:Int}(S:ir h s σ row ps u dn)(o:O):ir h s (σ.set h o) row ps u dn:=S.OG (U4 S) o
theorem Inv.deep{q:Qn}(I:Inv l h dp s ps m q u τ σ):Inv l h (dp+1) s ps m q u τ (U5 l h dp σ):=⟨I.1.deep _,I.2.U7 _,I.3,I.4⟩
variable (hm:fk m)
include hm
theorem KW(B:kb t0 l h dp D m ps y N hh)(W:Wd l h dp τ σ){row:V}(S:ir h s σ row ps u (-1))(ok:de τ m ps){t:Nat}(ht:ar τ y t)(L:Eo 42 (hh+1) dp u)(c:Cs r0 (eU y+51+r) τ u.v)(d:Nat)(hd:D<=d)(hd2:24*hh+20<=d+4){G:Prop}(kk:∀t1 fF s1 v,Q l h dp (oO s) τ σ fF s1->ar fF (less (bC y m)) t1->ir h s s1 row ps ⟨u.rd,u.pa,u.E,v⟩ (-1)->Cs r0 r fF v->af P (d+7) 44 [.loc s.p,iV t,dW ps] σ=some (iV t1,s1)->G):G:=by
 refine jH (m6 (d+5) σ h row ps u.rd s.sp) λs1 x1 n1 f1 g1 e1=> ?_;obtain L1:=L.1;refine(HH hm (W.ext x1) (jr S x1 n1 f1 g1) ok (B.1 dp (aab _) (aaK _)) ht (by lia) (r:=1+r) (c.le (by simp+arith)) d hd).el λjG s2 q2 z e2=> ?_;refine aaI z (λz=> ?_) λaw=>dw aw λq e I c2=> ?_
 ·refine g9 z λEm u' t' S2 ab k2 c2=> ?_;obtain z:=HI S W x1 (aab _) q2 S2.2;exact kk t' jG s2 u'.v z.1 k2 z.2 (c2.le (aaj ..)) (run [.v S.sC,.v S.IK,.v S.PF,.v S.PG,.c e1,.c e2,.v S2.OH,.b (congrArg some (decide_eq_true (abl _)):aS s2 .ge (.int t') (.int 0)=some true),.v S2.OH,.r] (by kernel_rfl))
 ·obtain lo:=sD hm (aaK dp) (aab _) B (I.1.deep (dp+1)) (.inr ⟨q,e,I.deep,by exact c2⟩) (u:=⟨u.rd, -1,[],u.v⟩) ⟨(Eo.step hm L).1,by have:=L.2;show 0+hh<=900;lia,by obtain this:=L.3;lia⟩ (d+4) 4999 hd2 (by have:=L.2;lia);refine finish_ok (d+1) lo B.4 (by have:=L.2;lia) λt5 PD s5 v5 q5 k5 c5 f5 e5=> ?_;refine Ay I.1 I.2 (by obtain this:=L.3;lia) q5 f5 e5 λs6 q6 f6 e6=> ?_;obtain z:=HI S W x1 (aab _) (q2.trans q6) f6;exact kk t5 PD s6 v5 z.1 k5 z.2 c5 (run [.v S.sC,.v S.IK,.v S.PF,.v S.PG,.c e1,.c e2,.v I.2.OH,.r,.c e6,.r] (by kernel_rfl))
theorem Cw{q:Qn}{Ny Nn:Nat}(By:kb t0 l h dp D m ps q.y Ny hh)(Bn:kb t0 l h dp D m ps q.n Nn hh)(hD:4<=D)(ER:ps=[]->isOpen (subs m q.a)=false){held:List Nm}(Ze:ps=[]->isOpen held=false)(I:Inv l h dp s ps m q u τ σ)(L:Eo 42 (hh+1) dp u)(c:Cs r0 (165+eU q.y+eU q.n+r) τ u.v)(hk:KN m q u held τ)(F:KJ m q.c q.a)(hc:aC q.c=q.c)(ha:aC q.a=q.a)(hs:(q.s &&held.length !=1)=false)(ch:aC held=held)(lh:held.length<=30){d fuel:Nat}(SP:D+2<=d)(hd2:24*hh+20<=d+5)(hf:hh<=fuel)
  {OK:List Atom} (RF:OK=if held=[22]then[.n aL]else pick held (subs m q.a) (less (bC q.y m)) (less (bC q.n m)) q.s) (PH:∀b∈OK,Cn b/\nj t0 b) (n1:Ny<=N) (n2:Nn<=N) (n3:1<=N) (n4:held=[20]->Ny+Nn<=N):
  Lo t0 l h dp s ps u.E (hh+1) N OK r0 r τ σ (j9 (d+11) (fuel+2) s.p σ):=by
 obtain⟨e2,rfl⟩:=abj SP;obtain X:Ends l h dp s ps m q u r0 (101+eU q.y+eU q.n+r) held (subs m q.a) (less (bC q.y m)) (less (bC q.n m)) (e2+(D+2)+8) (λA τ σ=>OK=A->Lo t0 l h dp s ps u.E (hh+1) N A r0 r τ σ (j9 (e2+(D+2)+11) (fuel+1) s.p σ)):=by
  have one:∀{A:Atom} {τ:TT} {σ:St},Done h s ps u.E [A] r0 r τ σ->Wd l h dp τ σ->OK=[A]->less [A]=[A]->Lo t0 l h dp s ps u.E (hh+1) N [A] r0 r τ σ (j9 (e2+(D+2)+11) (fuel+1) s.p σ):=λz W e ca=>z.lo W (e▸PH) ca n3 _ _;have low:∀{τ:TT} {σ:St} {A:List Atom},Done h s ps u.E A r0 (101+eU q.y+eU q.n+r) τ σ->Done h s ps u.E A r0 r τ σ:=λz=>g9 z λrow u' t S e k c=>⟨row,u',t,S,e,k,c.le (aaj ..)⟩;obtain go:∀{z:List Atom} {Nz t:Nat} {τ:TT} {σ:St},kb t0 l h dp D m ps z Nz hh->Nz<=N->eU z<=eU q.y+eU q.n->ar τ z t->Inv l h dp s ps m q u τ σ->Cs r0 (101+eU q.y+eU q.n+r) τ u.v->Rs l h dp s τ σ (λτ σ=>OK=less (bC z m)->Lo t0 l h dp s ps u.E (hh+1) N (less (bC z m)) r0 r τ σ (j9 (e2+(D+2)+11) (fuel+1) s.p σ)) (af P (e2+(D+2)+8) 41 [.loc s.p,iV t,dW ps] σ):=λ{z Nz t τ σ} B hN hw ht I c=>
   (HH hm I.1 I.2 I.4 (B.1 dp (aab _) (aaK _)) ht (by obtain this:=L.1;lia) (r:=r) (c.le (by lia)) (e2+(D+2)+2) (by lia)).el λay aq q' G e=>⟨ay,aq,q',λab=>(sD hm (aab dp) (aaK dp) B q'.1 G (Eo.step hm L) _ fuel (by lia) hf).to (q'.1.q0 _) (aaK _) hN rfl,e⟩
  refine⟨λτ σ z W e=>one (low z) W e (i5 (.inr (.inl rfl))),λho dd qJ τ σ I c hk=> ?_,λab τ σ I c=>go By n1 (aao ..) I.3.3 I c,λab τ σ I c=>go Bn n2 (aaj ..) I.3.4 I c,λab OJ τ σ I c=> ?_⟩
  ·have hp:ps≠[]:=λe=>by
    simp only[Ze e,ER e]at ho;cases ho
   obtain put:∀{z:List Atom},SO l h dp D m ps z->l0 l h dp D Wt m z:=λB=>B.elim (λk=>k.2) λk=>absurd k.1 hp;obtain⟨x,rfl⟩:=abj (aaa ((aaj _ _):D+10<=e2+(D+2)+8) qJ);refine(KL hD hm I.1 I.2 I.4 hp I.3 F (put (By.1 dp (aab _) (aaK _))) (put (Bn.1 dp (aab _) (aaK _))) hk (x+D) (aaj ..) (r:=r) (c.le (by simp only[HG,HG];simp+arith))).el λay aq q' z e=>⟨ay,aq,q',λet=>one z q'.1 et ?_,e⟩;exact yo
  ·refine KW hm By I.1 I.2 I.4 I.3.3 L (r:=eU q.n+50+r) (c.le (by simp+arith)) (e2+(D+2)+1) (by simp+arith) (by assumption) λt fF s1 v q1 k1 S1 c1 e1=> ?_;have S2:ir h s (s1.set s.ex (.lst (u.E++[iV t]))) q.row ps ⟨u.rd,u.pa,u.E++[iV t],v⟩ (-1):=⟨(if_neg S1.8).trans S1.1,(if_neg S1.9).trans S1.2,cz ..,S1.4,S1.5,S1.6,S1.7,S1.8,S1.9⟩;refine⟨t,fF,s1,v,q1,e1,S1,aai (by obtain this:=L.2;lia:u.E.length+1<=900) (by decide),?_⟩;refine(HH hm (q1.1.set S1.6.1 _) S2 (I.4.q q1) (Bn.1 dp (aab _) (aaK _)) (I.3.4.mono q1.2) (by obtain this:=L.1;show u.rd+1<=200;lia) (r:=r) c1 (e2+(D+2)+2) (by lia)).el λay aq q' G e=>⟨ay,aq,q',λet=> ?_,e⟩;refine(sD hm (aab dp) (aaK dp) Bn q'.1 G ⟨(Eo.step hm L).1,by obtain this:=L.2;rw[aah];show u.E.length+1+hh<=900;lia,(Eo.step hm L).3⟩ (e2+(D+2)+11) fuel (by lia) hf).el λSM wu E1 Dn q3 dn x e3=> ?_;obtain fl:((less (bC q.y m),t)::E1).flatMap (λx=>x.1)++Dn=less (bC q.y m)++(E1.flatMap (λx=>x.1)++Dn):=by rw[aaU,aaJ]
   have SQ:=abM.mpr ⟨By.2,x.2⟩;refine⟨SM,wu,(less (bC q.y m),t)::E1,Dn,q3,?_,⟨aaX.mpr ⟨(k1.mono q'.2).mono q3.2,x.1⟩,fl▸SQ,?_,(λh=>nomatch h),?_,abm x.6⟩,e3⟩
   ·rw[aaJ]at dn;exact dn
   ·simp only[fl,<-x.3,<-mK (xI λb hb=>(SQ b hb).2),bG]
   ·exact fl▸aah▸aaa (aaw (aaa (i6 _) By.3) x.5) (n4 OJ)
 exact(Cu X hm I (c.le (by simp+arith)) hk F hc ha hs ch lh).el λjG dx q2 k e=>RF▸(k RF).to q2 (aab _) (aab _) (vO _ _ I.2 e)
end
noncomputable def gL(p t:Nat)(ps:List (Nat×Nat)):List (Nat×Nat):=ps.map λq=>if q.1=p then(p,t)else q
theorem uD{p t:Nat}:∀{ps:List (Nat×Nat)},(ps.map (λx=>x.1)).Nodup->p∈ps.map (λx=>x.1)->putK (ps.map λp=>iV p.1) (ps.map λp=>iV p.2) (iV p) (iV t)=((gL p t ps).map λp=>iV p.1,(gL p t ps).map λp=>iV p.2)
 |q::ps,nd,hm=>by
  obtain⟨n1,n2⟩:=aaM.mp nd;obtain e0:putK ((q::ps).map λp=>iV p.1) ((q::ps).map λp=>iV p.2) (iV p) (iV t)=if V.beq (iV q.1) (iV p)=true then(iV q.1::ps.map (λp=>iV p.1),iV t::ps.map λp=>iV p.2)else(iV q.1::(putK (ps.map λp=>iV p.1) (ps.map λp=>iV p.2) (iV p) (iV t)).1,iV q.2::(putK (ps.map λp=>iV p.1) (ps.map λp=>iV p.2) (iV p) (iV t)).2):=rfl;rw[e0];by_cases e:q.1=p
  ·have:gL p t ps=ps:=by
    refine(ack λr hr=> ?_).trans (adC ps);obtain this:r.1≠p:=λk=>n1 (by simp only[e,<-k];exact aan hr);exact(if_neg this).trans rfl
   rw[e,(beq_iff _ _).mpr rfl];obtain e1:gL p t (q::ps)=(p,t)::gL p t ps:=by unfold gL;rw[aaH,if_pos e]
   rw[e1,this];rfl
  ·obtain ne:V.beq (iV q.1) (iV p)=false:=by
    cases k:V.beq (iV q.1) (iV p)
    ·rfl
    ·exact absurd (aaO (V.int.inj ((beq_iff _ _).mp k))) e
   have FI:=(aam.mp hm).resolve_left λk=>e k.symm;rw[ne,uD n2 FI];obtain e1:gL p t (q::ps)=q::gL p t ps:=by unfold gL;rw[aaH,if_neg e]
   rw[e1];rfl
theorem oP(p t:Nat)(ps:List (Nat×Nat)):(gL p t ps).map (λx=>x.1)=ps.map (λx=>x.1):=by
 unfold gL;rw[aay];refine ack λq _=> ?_;show(if q.1=p then(p,t)else q).1=q.1;split
 ·rename_i e;exact e.symm
 ·rfl
theorem de.gL{τ:TT}(tk:τ.Ok){m:Ab.Env}{ps:List (Nat×Nat)}(ok:de τ m ps){b:Bool}{p pt:Nat}{one:Nm}(hp:τ.nm[p]? =some (nV (tu b)))(hm:p∈ps.map (λx=>x.1))(h1:ar τ (aR [one]) pt):de τ (near [tu b] m one) (gL p pt ps):=by
 have nx:∀q∈ps,q.1≠p->τ.nm[q.1]?≠some (nV (tu b)):=λq ab sZ k=>sZ (tk.Mr _ _ _ k hp);obtain key:∀x:V,(∀q∈Wk.gL p pt ps,τ.nm[q.1]?≠some x)->∀q∈ps,τ.nm[q.1]?≠some x:=λx h q hq=>by
  obtain this:q.1∈(Wk.gL p pt ps).map (λx=>x.1):=by rw[oP];exact aan hq
  refine ah (aal.mp this) λr hr e=> ?_;exact e▸h r hr
 refine ah (aal.mp hm) λq0 W5 e0=> ?_;refine⟨by simp only[oP];exact ok.nd,λq hq=> ?_,λh=> ?_,λh=> ?_⟩
 ·refine ah (aal.mp hq) λr hr e=> ?_;by_cases er:r.1=p
  ·rw[if_pos er]at e;subst e;cases b
   ·exact .inr ⟨hp,h1⟩
   ·exact .inl ⟨hp,h1⟩
  ·rw[if_neg er]at e;subst e;obtain a:=ok.at' r hr;obtain b':=nx r hr er;cases b
   ·exact a.elim (λk=> .inl k) λk=>absurd k.1 b'
   ·exact a.elim (λk=>absurd k.1 b') λk=> .inr k
 ·have h':=key _ h;cases b
  ·exact ok.T h'
  ·exact absurd hp (by rw[<-e0];exact h' q0 W5)
 ·have h':=key _ h;cases b
  ·exact absurd hp (by rw[<-e0];exact h' q0 W5)
  ·exact ok.U h'
theorem joined(d:Nat){σ:St}{ps:List (Nat×Nat)}{k p t:Nat}(hk:σ.f k= .bV [iV p] [iV t])(eX:k<σ.n)(nd:(ps.map (λx=>x.1)).Nodup)(hp:p∈ps.map (λx=>x.1))(hb:ps.length+1<big):∃aq,Ext σ aq/\af P (d+1) 27 [dW ps,.loc k] σ=some (dW (gL p t ps),aq):=by
 obtain mv:fO 0 σ (dW ps) ps:= .inl rfl;obtain f1:(σ.new (.bV (ps.map λp=>iV p.1) (ps.map λp=>iV p.2))).f σ.n= .bV (ps.map λp=>iV p.1) (ps.map λp=>iV p.2):=bY ..;obtain k1:=fA (Ext.new σ (.bV (ps.map λp=>iV p.1) (ps.map λp=>iV p.2))) eX hk;generalize σ.new (.bV (ps.map λp=>iV p.1) (ps.map λp=>iV p.2))=s1 at*
 obtain cl:dA P s1 .update (.loc σ.n)=some 0:=by show om (s1.f σ.n).gP _=_;rw[f1];rfl
 obtain up:cX (af P d) s1 .update 0 (.loc σ.n) [.loc k]=some (.none,s1.set σ.n (.bV ((gL p t ps).map λp=>iV p.1) ((gL p t ps).map λp=>iV p.2))):=by
  show om (s1.f σ.n).gP (λP'=>om (s1.f k).gP λq=>og (E8 σ.n (.loc k) &&(P'.1++q.1).all V.isInt &&decide (P'.1.length+q.1.length<big)) (some (V.none,s1.set σ.n (.bV (gg P'.1 P'.2 q.1 q.2).1 (gg P'.1 P'.2 q.1 q.2).2))))=_;simp only[f1,k1.2];refine(b7 ?_).trans ?_
  ·show(decide (σ.n≠k) &&((ps.map λp=>iV p.1)++[iV p]).all V.isInt &&decide ((ps.map λp=>iV p.1).length+1<big))=true;simp only[decide_eq_true (by lia:σ.n≠k),ada,j7,aae,decide_eq_true hb];rfl
  ·show some (V.none,s1.set σ.n (.bV (putK (ps.map λp=>iV p.1) (ps.map λp=>iV p.2) (iV p) (iV t)).1 (putK (ps.map λp=>iV p.1) (ps.map λp=>iV p.2) (iV p) (iV t)).2))=_;rw[uD nd hp]
 refine cq _ (((Ext.new σ (.bV (ps.map λp=>iV p.1) (ps.map λp=>iV p.2))).set (aab _) (.bV ((gL p t ps).map λp=>iV p.1) ((gL p t ps).map λp=>iV p.2))).set (aab _) .dead) ?_;exact run [.c mv.dict,.n cl,.c up,.f (vw (cz s1 σ.n (.bV ((gL p t ps).map λp=>iV p.1) ((gL p t ps).map λp=>iV p.2))))] (by kernel_rfl)
section
variable {t0:Nm}{l h dp D:Nat}{s:Sp}{m:Ab.Env}{ps:List (Nat×Nat)}{q:Qn}{u:Dy}{N hh:Nat}{τ:TT}{σ:St}{r0 r:Nat}
inductive Zf(l h dp:Nat)(s:Sp)(ps:List (Nat×Nat))(m:Ab.Env)(q:Qn)(u:Dy)(one:Nm)(τ:TT)(σ:St)(mk:Nat)(td:List (Nat×Nat))(c':List Nm)(B7:Nat)(OL:Int)(aq:St):Prop
 |mk(x:Ext σ aq)(n:σ.n<=mk)(I:Inv l h dp ⟨mk,s.sp,mk+1⟩ td (near q.c m one) ⟨c',q.a,q.y,q.n,true,B7,q.ta,q.ty,q.tn⟩ ⟨u.rd,OL,[],u.v⟩ τ aq)(k:(OL= -1/\[one]=subs (near q.c m one) c')\/∃pt:Nat,OL=pt/\ar τ (aR [one]) pt)(cc:(c'=[one]/\one≠aT/\one≠aU)\/c'=q.c)(e0:ps=[]->td=[])(e1:ps≠[]->td≠[])
theorem KX(b:Bool){one:Nm}:subs (near [tu b] m one) [tu b]=[one]:=by
 cases b
 ·show aC ([one]++[])=_;rw[aaV,aO]
 ·show aC ([one]++[])=_;rw[aaV,aO]
theorem Er(I:Inv l h dp s ps m q u τ σ)(F:IG q.c)(hl:(subs m q.c).length≠1)(hp:ps.length<=900){one:Nm}{pt:Nat}(ho:one∈subs m q.c)(h1:ar τ (aR [one]) pt)(d:Nat){G:Prop}
  (kk:∀mk td c' B7 OL aq,Zf l h dp s ps m q u one τ σ mk td c' B7 OL aq->af P (d+2) 35 [.loc s.p,iV pt] σ=some (.loc mk,aq)->G) (hs:q.s=true):G:=by
 obtain⟨c,a,y,n,sd,tc,ta,ty,tn⟩:=q;obtain rfl:sd=true:=hs;have Ax:=I.2.IK;obtain EU:=I.2.sC;obtain gK:=I.1.gK;obtain a0:=I.1.1.a0;rcases F.2 with hc |hc
 ·obtain U8:kT (aR c)≠10:=by
   match c,hc,hl with
   |[],ab,ai=>exact(by decide:(1:Int)≠10)
   |[x],hc,hl=>exact absurd (congrArg abw (bF hc F.1)) hl
   |ab::ai::aD,bO,fc=>exact(by decide:(6:Int)≠10)
  refine ah (gw I.1.1.8 I.3.1 σ) λw rr k=> ?_;refine jH (m6 d σ h (bf pt ta ty tn true) ps u.rd s.sp) λs1 x1 n1 f1 g1 e1=> ?_;have S1:=jr I.2 x1 n1 f1 g1;obtain S2:=S1.El (bf pt ta ty tn true) u.rd pt (-1);refine kk σ.n ps [one] pt pt _ ⟨x1.set (aab _) _,aab _,⟨(I.1.ext x1).set S1.4.1 _,S2,⟨h1,I.3.2,I.3.3,I.3.4⟩,(dK hc m one).symm▸I.4⟩,.inr ⟨pt,rfl,h1⟩,.inl ⟨rfl,hc one (bF hc F.1▸ho)⟩,id,id⟩ ?_;exact run [.v Ax,.v EU,.v gK,.v a0,.r,.v (I.1.1.at rr),.v k,.b (yR σ 10 U8),.v EU,.r,.r,.v I.2.Cq,.v I.2.PF,.v I.2.PG,.c e1,.s (S1.Mx pt),.f (jA S2.1)] (by kernel_rfl)
 ·obtain hc:∃b,c=[tu b]:=hc.elim (λe=>⟨true,e⟩) λe=>⟨false,e⟩;obtain⟨b,rfl⟩:=hc;have Su:(if b then m.T else m.U)≠[tu b]:=λe=>hl (by
   cases b
   ·show(aC (m.U++[])).length=1;rw[show m.U=[tu false]from e];rfl
   ·show(aC (m.T++[])).length=1;rw[show m.T=[tu true]from e];rfl)
  obtain L5:az τ (tu b) tc:=I.3.1;refine dM L5 λs7 q rr ab hq=> ?_;have hq:=hq (by cases b<;>rfl);have rr:τ.R[tc]? =some (.tup [.int 10,iV q]):=by cases b<;>exact rr
  have mem:q∈ps.map (λx=>x.1):=adL λhn=>by
   obtain nx:∀r∈ps,τ.nm[r.1]?≠some (nV (tu b)):=λr hr k=>hn (by simp only[<-I.1.1.8.Mr _ _ _ k hq];exact aan hr);cases b
   ·exact Su (I.4.U nx)
   ·exact Su (I.4.T nx)
  obtain mv:fO l σ (dW ps) ps:= .inl rfl;obtain mi:=mv.isin q;simp only[decide_eq_true mem]at mi;obtain x0:=Ext.new σ (.bV [iV q] [iV pt]);refine ah (joined d (bY σ (.bV [iV q] [iV pt])) (aap _) I.4.nd mem (aai (abm hp) (by decide))) λs2 x2 e2=> ?_;obtain S2:=I.2.ext I.1.3 (x0.trans x2).t;refine jH (m6 d s2 h (bf tc ta ty tn true) (gL q pt ps) u.rd s.sp) λs3 x3 n3 f3 g3 e3=> ?_;obtain S3:=jr S2 x3 n3 f3 g3;obtain x:=(x0.trans x2).trans x3;refine kk s2.n (gL q pt ps) [tu b] tc (-1) s3 ⟨x,(x0.trans x2).n,⟨I.1.ext x,S3,I.3,I.4.gL I.1.1.8 hq mem h1⟩,.inl ⟨rfl,(KX b).symm⟩,.inr rfl,λe=> ?_,λe k=> ?_⟩ ?_
  ·rw[e]at mem;cases mem
  ·obtain k2:=oP q pt ps;rw[k]at k2;rw[<-k2]at mem;cases mem
  ·exact run [.v Ax,.v EU,.v gK,.v a0,.r,.v (I.1.1.at rr),.r,.r,.r,.v I.2.Cq,.b mi,.v I.2.Cq,.r,.r,.c e2,.v S2.sC,.v S2.PF,.v S2.PG,.c e3,.f (jA S3.1)] (by kernel_rfl)
structure HJ(t0:Nm)(l h dp D:Nat)(m:Ab.Env)(ps:List (Nat×Nat))(c a:List Nm)(y n:List Atom)(hh:Nat)(one:Nm):Prop where
 gT:fk (near c m one)
 Cy:KJ (near c m one) c a
 br:∀td,(ps=[]->td=[])->(ps≠[]->td≠[])->kb t0 l h (dp+1) D (near c m one) td y 61 hh/\kb t0 l h (dp+1) D (near c m one) td n 61 hh
 ok:∀b∈part c a y n true m one,Cn b/\nj t0 b
 nt:¬cu one
 cl:ps=[]->isOpen [one]=false/\isOpen (subs (near c m one) a)=false
theorem HM{ps td:List (Nat×Nat)}(k:ps≠[]->td≠[])(e:td=[]):ps=[]:=adL λn=>k n e
abbrev Qn.cost(q:Qn):Nat:=166+eU q.y+eU q.n
theorem KY(I:Inv l h dp s ps m q u τ σ)(hs:q.s=true)(hD:4<=D)(F:IG q.c)(ha:aC q.a=q.a)(hl:(subs m q.c).length≠1)(hp:ps.length<=900){one:Nm}(PE:HJ t0 l h dp D m ps q.c q.a q.y q.n hh one)(L:Eo 40 (hh+1) dp u){i:Nat}(ho:one∈subs m q.c)(hi:az τ one i)(c:Cs r0 (q.cost+r) τ u.v){d:Nat}(SP:D+2<=d)(hd2:24*hh+20<=d+5)(hf:hh<=800){G:Prop}
  (kk:∀mk bD t' ay aq v,af P (d+13) 35 [.loc s.p,iV i] σ=some (.loc mk,bD)->af P (d+13) 43 [.loc mk] bD=some (iV t',aq)->Q l h dp (oO s) τ σ ay aq->ar ay (part q.c q.a q.y q.n true m one) t'->ir h s aq q.row ps ⟨u.rd,u.pa,u.E,v⟩ (-1)->Cs r0 r ay v->G):G:=by
 obtain L2:=L.2;obtain L3:=L.3;refine Er I F hl hp ho hi (d+11) (λmk td c' B7 OL s1 z U9=> ?_) hs;obtain B:=PE.br td z.6 z.7;obtain fw:KJ (near q.c m one) c' q.a:=z.5.elim (λe=>e.1▸⟨by rw[aaU,gE e.2.1 e.2.2];exact aaj 1 29,PE.Cy.a1,aaj 1 29,PE.Cy.a2⟩) λe=>e▸PE.Cy;refine finish_ok (d+8) (Cw PE.gT (s:=⟨mk,s.sp,mk+1⟩) (q:=⟨c',q.a,q.y,q.n,true,B7,q.ta,q.ty,q.tn⟩) (u:=⟨u.rd,OL,[],u.v⟩) (N:=61) (held:=[one]) (r:=1+r) (d:=d) (fuel:=4998) B.1 B.2 hD (λe=>(PE.cl (HM z.7 e)).2) (λe=>(PE.cl (HM z.7 e)).1) z.3.deep ⟨L.1,by show 0+(hh+1)<=900;lia,by lia⟩ (c.le (by show 165+eU q.y+eU q.n+(1+r)<=166+eU q.y+eU q.n+r;simp+arith)) z.4 fw (z.5.elim (λe=>e.1▸aO one) λe=>e▸F.1) ha rfl (aO one) (aaj 1 29) SP hd2 (by lia) (OK:=part q.c q.a q.y q.n true m one) (by rw[if_neg λe=>PE.nt (.inr (.inl (aaL e).1))];rfl) PE.ok B.1.4 B.2.4 (by decide) λe=>absurd (.inl (aaL e).1) PE.nt) (aab _) (by lia) λt' jG s2 v q2 k2 c2 f2 e2=> ?_;refine Ay z.3.1 z.3.2 (by lia) q2 f2 e2 λs3 q3 f3 e3=> ?_;obtain w:=HI I.2 I.1 z.1 z.2 q3 f3;exact kk mk s1 t' jG s3 v U9 e3 w.1 k2 w.2 c2
end
section
variable {t0:Nm}{l h dp D:Nat}{s:Sp}{m:Ab.Env}{ps:List (Nat×Nat)}{q:Qn}{u:Dy}{N hh:Nat}{τ:TT}{σ:St}{r0 r:Nat}
theorem Q.setB{X:Nat->Prop}{ET τ:TT}{σ0 σ:St}(q:Q l h dp X ET σ0 τ σ){k:Nat}(hk:σ0.n<=k)(hh:h<k)(o:O):Q l h dp X ET σ0 τ (σ.set k o):=
 ⟨q.1.set hh o,q.2,q.3,λj h1 h2 h3 h4=>(if_neg (aaF (aak h1 hk))).trans (q.4 j h1 h2 h3 h4),q.5⟩
inductive OM(t0:Nm)(l h dp D:Nat)(m:Ab.Env)(ps:List (Nat×Nat))(q:Qn)(u:Dy)(hh d:Nat):Prop
 |mk(hs:q.s=true)(hD:4<=D)(F:IG q.c)(ha:aC q.a=q.a)(hl:(subs m q.c).length≠1)(hp:ps.length<=900)(PE:∀one∈subs m q.c,HJ t0 l h dp D m ps q.c q.a q.y q.n hh one)(L:Eo 40 (hh+1) dp u)(SP:D+2<=d)(hd2:24*hh+20<=d+5)(hf:hh<=800)
abbrev Qn.R(q:Qn)(m:Ab.Env)(one:Nm):List Atom:=part q.c q.a q.y q.n true m one
theorem yp{d:Nat}(H:OM t0 l h dp D m ps q u hh d)(ck:V){ET:TT}{σ0:St}{mk:Nat}(TV:σ0.n<=mk)(OJ:h<mk)(zs:List (Nm×Nat)):∀(done:List (List Atom×Nat)) (τ:TT) (σ:St) (v:Nat) (x3:Option V),Q l h dp (oO s) ET σ0 τ σ->mk<σ.n->¬oO s mk->σ.f mk= .lst (jg done)->(∀q∈done,ar τ q.1 q.2)->Inv l h dp s ps m q ⟨u.rd,u.pa,u.E,v⟩ τ σ->(∀z∈zs,z.1∈subs m q.c/\az τ z.1 z.2)->Cs r0 (zs.length*q.cost+r) τ v->done.length+zs.length<1000->{G:Prop}->
  (∀yq ay aq v' y3,Q l h dp (oO s) ET σ0 ay aq->mk<aq.n->aq.f mk= .lst (jg yq)->(∀q∈yq,ar ay q.1 q.2)->yq.map (λx=>x.1)=done.map (λx=>x.1)++zs.map (λz=>q.R m z.1)->Inv l h dp s ps m q ⟨u.rd,u.pa,u.E,v'⟩ ay aq->Cs r0 r ay v'->
   dk 3 (λr s=>dS P (af P (d+13)) (lb 36 0) r s) (zs.map λz=>iV z.2) [some (.loc s.p),some ck,some (.loc mk),x3] σ=some (.next,[some (.loc s.p),some ck,some (.loc mk),y3],aq)->G)->G:=by
 induction zs with
 |nil=>intro done τ σ v x3 q' hn nm hf hT I dJ c dJ G kk;exact kk done τ σ v x3 q' hn hf hT (aaV _).symm I (c.le (aaj ..)) rfl
 |cons z zs ih=>
  intro done τ σ v x3 q' hn nm hf hT I hz c hd G kk;have hz:=aaX.mp hz;refine KY I H.1 H.2 H.3 H.4 H.5 H.6 (H.7 z.1 hz.1.1) ⟨H.8.1,H.8.2,H.8.3⟩ hz.1.1 hz.1.2 (r:=zs.length*q.cost+r) (c.le (by simp only[aax,adw];simp+arith)) H.9 H.10 H.11 λq1 s1 t' fF s2 v1 U9 Zg p1 k1 S1 c1=> ?_;obtain Zh:s2.f mk= .lst (jg done):=(p1.4 mk hn (by obtain this:=q'.1.3;lia) (by obtain this:=q'.1.3;lia) nm).trans hf;obtain ed:jg done++[iV t']=jg (done++[(q.R m z.1,t')]):=by simp only[jg,jg,aaG];rfl
  obtain ap:pS s2 (.loc mk) (iV t')=some (.none,s2.set mk (.lst (jg (done++[(q.R m z.1,t')])))):=ed▸iA Zh (by rw[aae];exact aak (by simp only[aax]at hd;lia:done.length+1<1000) (by decide)) _;obtain b:dS P (af P (d+13)) (lb 36 0) [some (.loc s.p),some ck,some (.loc mk),some (iV z.2)] σ=some (.next,[some (.loc s.p),some ck,some (.loc mk),some (iV z.2)],s2.set mk (.lst (jg (done++[(q.R m z.1,t')])))):=eR [.n (jY hf P),.c U9,.c Zg,.c ap] (by kernel_rfl);refine ih (done++[(q.R m z.1,t')]) fF _ v1 (some (iV z.2)) ((q'.trans p1).setB TV OJ _) (aak hn p1.3) nm (cz ..) (abM.mpr ⟨λw hw=>(hT w hw).mono p1.2,abF.mpr k1⟩) ⟨p1.1.set OJ _,S1.OG nm _,I.3.mono p1.2,I.4.q p1⟩ (λw hw=>⟨(hz.2 w hw).1,(hz.2 w hw).2.mono p1.2⟩) c1 (by rw[aah];simp only[aax]at hd;show done.length+1+zs.length<1000;lia) λyq ay aq v' y3 a1 a2 a3 a4 a5 a6 a7 a8=> ?_;exact kk yq ay aq v' y3 a1 a2 a3 a4 (by simp only[a5,aaG,aaJ];rfl) a6 a7 ((aJ b).trans a8)
theorem Es{d:Nat}(H:OM t0 l h dp D m ps q u hh d)(I:Inv l h dp s ps m q u τ σ){ck:Nat}(KQ:ar τ (aR (subs m q.c)) ck)(hl:(subs m q.c).length<=30)(c:Cs r0 ((subs m q.c).length*q.cost+(1+r)) τ u.v)(Et:((subs m q.c).flatMap (q.R m)).length<=61):Rs l h dp s τ σ (Done h s ps u.E (less ((subs m q.c).flatMap (q.R m))) r0 r) (af P (d+14) 36 [.loc s.p,iV ck] σ):=by
 refine cps λab kk=> ?_;obtain x0:=Ext.new σ (.lst []);obtain W:=I.1;have W0:=W.ext x0;have S0:=I.2.ext W.3 x0.t;refine dw (j0 W0.1 (d+12) KQ) λts ep pl Hs=> ?_;refine gD (sq W.1.8 Hs pl) λas e1 e2 e3 e4=> ?_;obtain e5:=yg W.1.8 Hs (sy _) e1 e2 e4;obtain zz:∃zs:List (Nm×Nat),as=zs.map (λz=>(Atom.n z.1,z.2))/\∀z∈zs,z.1∈subs m q.c:=by
  revert e4;clear e1 e2 e3 e5;induction as with
  |nil=>exactλab=>⟨[],rfl,aar _⟩
  |cons a r ih=>intro nm;refine ah (ih λA hA=>nm A (aaf _ hA)) λzs h1 h2=> ?_;refine ah (aal.mp (nm a.1 aac)) λx hx e=> ?_;exact⟨(x,a.2)::zs,by simp only[aaH,<-h1,e],aaX.mpr ⟨hx,h2⟩⟩
 refine ah zz λzs Va SR=> ?_;obtain Zi:(zs.map λz=>iV z.2)=ts.map iV:=by simp only[<-e1,Va,aay,aay];rfl
 have W6:as.map (λx=>x.1)=aR (zs.map (λx=>x.1)):=by simp only[Va,aay,aR,aay];rfl
 have nd:(zs.map (λx=>x.1)).Nodup:=by simp only[W6]at e3;exact(abR.mp e3).imp λh e=>h (by rw[e])
 have sub:∀{w:Nm->Nat},((zs.map (λx=>x.1)).map w).sum<=((subs m q.c).map w).sum:=gS nd λx hx=>ah (aal.mp hx) λz hz e=>e▸SR z hz;have zl:zs.length<=(subs m q.c).length:=by
  obtain k:=sub (w:=λab=>1);obtain one:∀l:List Nm,(l.map λab=>1).sum=l.length:=λl=>by
   induction l with
   |nil=>rfl
   |cons a l ih=>simp only[aaH,abE,ih,aax,abf]
  simp only[one,one,aae]at k;exact k
 have n3:¬oO s σ.n:=λk=>k.elim (λe=>acM I.2.4.2 e) λk=>k.elim (λe=>acM I.2.5.2 e) λe=>acM I.2.6.2 e;refine yp H (iV ck) (σ0:=σ) (ET:=τ) (mk:=σ.n) (aab _) W.lt zs [] τ (σ.new (.lst [])) u.v none (W.q x0 _) (aap _) n3 (bY ..) (aar _) ⟨W0,S0,I.3,I.4⟩ (λz hz=>⟨SR z hz,e2 (.n z.1,z.2) (by rw[Va];exact aan hz)⟩) (c.le (aat (abo _ zl) _)) (by show 0+zs.length<1000;lia) λdone fF s1 v1 y3 q1 m1 m2 m3 m4 I1 c1 lp=> ?_;rw[Zi]at lp;have W2:=q1.1.set W.lt .dead;have fl:done.flatMap (λx=>x.1)=(zs.map (λx=>x.1)).flatMap (q.R m):=by simp only[acX,m4,acX,aay];rfl
 refine(mX (d+10) (.bI (jg done)) W2.1 done rfl m3 (λw hw a ha=>ah (aal.mp (m4▸aan hw:w.1∈[]++zs.map (λz=>q.R m z.1))) λz hz e=>((H.7 z.1 (SR z hz)).ok a (by rw[show part q.c q.a q.y q.n true m z.1=w.1 from e];exact ha)).1) (by simp only[fl,aev];exact aaa sub (by rw[<-aev];exact Et)) (r:=r+r0) (abc ..▸c1.1)).el λt SM s3 p3 k3 c3 e9=> ?_
 obtain q3:=W2.pq p3 No;refine kk<| .fin (t:=t) (u:=⟨u.rd,u.pa,u.E,v1⟩) ((q1.setB (aab σ.n) W.lt .dead).trans (q3.w _)) ((I1.2.OG n3 .dead).ext W2.3 q3.ext) ?_ (c1.rows c3 (aaj ..)) λAw=> ?_
 ·obtain k3:ar _ _ _:=k3;rw[fl]at k3;rw[mG (ys:=(zs.map (λx=>x.1)).flatMap (q.R m)) λb=> ?_]
  ·exact k3
  ·rw[aau,aau];exact⟨λz=>ah z λx hx hb=>⟨x,by obtain k:=e5 (.n x) (aan hx);rw[W6]at k;exact ah (aal.mp k) λy hy e=>Atom.n.inj e▸hy,hb⟩,λz=>ah z λx hx hb=>⟨x,ah (aal.mp hx) λz hz e=>e▸SR z hz,hb⟩⟩
 ·exact run [.v S0.sC,.v W0.gK,.c ep,.r,.l lp,.v I1.2.sC,.v q1.1.gK,.f (jA q1.1.1.1),.f (qg m2),.c e9,.s Aw] (by kernel_rfl)
end
theorem HN{τ:TT}(ok:τ.Ok){held:List Nm}{t:Nat}(h:ar τ (aR held) t)(s:St):aS s .eq (iV t) (.int 2)=some held.isEmpty:=by
 cases held with
 |nil=>cases h;rfl
 |cons x r=>exact eq_int (decide_eq_false λe=>acg _ _ (je ok ((aaO e:t=2)▸h:ar τ (aR (x::r)) 2)))
theorem KZ{k n X r:Nat}(h:n<=k)(k1:1<=k):n*(166+X)+(3+r)<=k*(200+X)+r:=by
 obtain a:=abo (166+X) h;obtain b:k*(200+X)=k*(166+X)+k*34:=by congr 1;lia
 rw[b];generalize k*(166+X)=z at*
 lia
section
variable {t0:Nm}{l h dp D:Nat}{s:Sp}{m:Ab.Env}{ps:List (Nat×Nat)}{q:Qn}{u:Dy}{N hh:Nat}{τ:TT}{σ:St}{r0 r:Nat}
theorem K0{d fuel:Nat}(H:OM t0 l h dp D m ps q u hh d)(hm:fk m)(I:Inv l h dp s ps m q u τ σ)(K7:u.pa= -1)(Fw:KJ m q.c q.a)(hk:(subs m q.c).length<=kc q.c)(PH:∀b∈ev q.at m,Cn b/\nj t0 b)(hN:N<=61)(hlen:((subs m q.c).flatMap (q.R m)).length<=N)(c:Cs r0 (Wt q.at+r) τ u.v):Lo t0 l h dp s ps u.E (hh+1) N (ev q.at m) r0 (1+r) τ σ (j9 (d+15) (fuel+2) s.p σ):=by
 have wA:Wt q.at=kc q.c*(200+(eU q.y+eU q.n)):=by simp only[Wt,abc]
 obtain w0:=KZ (X:=eU q.y+eU q.n) (r:=r) hk (jX q.c);simp only[<-wA]at w0;have SJ:subs m q.c≠[22]:=λe=>H.5 (by exact congrArg _ e);have W7:ev q.at m=less ((subs m q.c).flatMap (q.R m)):=by rw[cO,if_neg SJ,if_pos (by rw[H.1,Bool.true_and,bne_iff_ne];exact H.5),H.1]
 obtain fin:Rs l h dp s τ σ (Done h s ps u.E (ev q.at m) r0 (1+r)) (af P (d+15) 37 [.loc s.p] σ):=by
  refine(yk I hm H.3.1 Fw (.inl ⟨K7,rfl⟩) (r:=(subs m q.c).length*q.cost+(1+(1+r))+r0) (c.1.le (by show 1+((subs m q.c).length*(166+eU q.y+eU q.n)+(1+(1+r))+r0)<=_;lia)) (d+4)).el λck fF bD p1 t1 c1 e1=> ?_;have I1:=I.on p1;have cs:=c.rows c1 (by show(subs m q.c).length*(166+eU q.y+eU q.n)+(1+(1+r))<=_;lia);obtain EU:=I.2.sC;obtain Ax:=I.2.IK;have yT:=kM p1.1.1.8 t1 (A4 (dH p1.1.1.8) λab ai x aD=>x) bD;rw[decide_eq_false SJ]at yT;obtain c2:=HN p1.1.1.8 t1 bD;rw[W7];cases he:subs m q.c with
  |nil=>rw[he]at c2 t1;obtain⟨cc,aa,yy,nn,sd,tc,ta,ty,tn⟩:=q;obtain rfl:sd=true:=H.1;exact .fin (t:=2) (p1.w _) I1.2 rfl (cs.le (by simp+arith)) λAw=>run [.v EU,.v Ax,.c e1,.b yT,.r,.r,.b c2,.s Aw] (by kernel_rfl)
  |cons x rr=>
   have k6:kT (aR (subs m q.c))=6:=by
    rw[he];cases rr with
    |nil=>exact absurd (congrArg abw he) H.5
    |cons=>rfl
   obtain kk:=vE p1.1.1 (d+13) t1;rw[k6]at kk;rw[he]at c2;rw[<-he];refine(Es H I1 t1 (aaa (gZ _) Fw.c1) (r:=1+r) cs (aaa hlen hN)).to (p1.w _) id λe2=> ?_;obtain⟨cc,aa,yy,nn,sd,tc,ta,ty,tn⟩:=q;obtain rfl:sd=true:=H.1;exact run [.v EU,.v Ax,.c e1,.b yT,.r,.r,.b c2,.r,.r,.v p1.1.gK,.c kk,.r,.c e2] (by kernel_rfl)
 exact fin.el λjG dx q2 z e=>(z.lo q2.1 PH (Aq hm _) (by rw[W7];exact aaa (i6 _) hlen) (d+15) fuel).to q2 (aab _) (aab _) (vO _ _ I.2 e)
variable {M:V}
theorem l6(Nx:Ep t0 l h (dp+1) m ps N hh q.at)(hN:N<=61)(W:Wd l h dp τ σ)(mv:fO l σ M ps)(ok:de τ m ps)(Z:q.Sd τ)(IM:dp+1+3*hh<=40)(hw:Wt q.at<=200000)(d:Nat)(hd:24*hh+20<=d+3)(c:Cr (Wt q.at+r) τ):qk l h dp No τ σ (ev q.at m) r (af P (d+6) 45 [.loc h,q.row,M] σ):=by
 refine ah (j8 mv (d+4)) λs1 x1 e1=> ?_;refine jH (m6 (d+4) (s1.new (.lst [iV 0])) h q.row ps 0 s1.n) λs3 x3 n3 f3 g3 e3=> ?_;have II:=(x1.trans (Ext.new s1 (.lst [iV 0]))).trans x3;obtain W3:=W.ext II;obtain wl:h<s1.n:=aak W.lt x1.n;obtain n2:s3.n=s1.n+1+2:=n3;have S3:ir h ⟨s1.n+1,s1.n,s1.n+1+1⟩ s3 q.row ps ⟨0, -1,[],0⟩ (-1):=⟨f3 _ _,(x3.f s1.n (aap _)).trans (bY ..),g3,⟨(abq ‹_›),by lia⟩,⟨wl,by lia⟩,⟨by lia,by lia⟩,by simp+arith,by simp+arith,by simp+arith⟩;obtain I:Inv l h dp ⟨s1.n+1,s1.n,s1.n+1+1⟩ ps m q ⟨0, -1,[],0⟩ τ s3:=⟨W3,S3,Z,ok⟩;refine finish_ok d (Nx (d+3) 4999 hd (by lia) τ _ ⟨s1.n+1,s1.n,s1.n+1+1⟩ q ⟨0, -1,[],0⟩ r 0 rfl rfl I.deep ⟨by lia,by show 0+hh<=900;lia,IM⟩ ⟨c,by lia⟩) hN (by lia) λt5 PD s5 v q5 k5 c5 f5 e5=> ?_;refine Ay W3 S3 (by lia) q5 f5 e5 λs6 q6 f6 e6=> ?_;refine .mk (t:=t5) (((W.q II _).trans q6).cut λj k=> ?_) k5 ((aby r).symm▸c5.1) ?_
 ·obtain xn:=x1.n;rcases k with k |k |k<;>(have k:j=_:=k;simp only[k];lia)
 ·exact run [.r,.c e1,.c e3,.c e6,.r] (by kernel_rfl)
variable {c a:List Nm}{y n:List Atom}{sd:Bool}
theorem HO(Nx:Ep t0 l h (dp+1) m ps N hh (.cond c a y n sd))(hN:N<=61)(W:Wd l h dp τ σ)(mv:fO l σ M ps)(ok:de τ m ps)(hp:ps≠[]){t:Nat}(ha:au τ (.cond c a y n sd) t)(IM:dp+1+3*hh<=40)(hw:Wt (.cond c a y n sd)<=200000)(d:Nat)(hd:24*hh+20<=d+3)(cr:Cr (Wt (.cond c a y n sd)+r) τ):qk l h dp No τ σ (ev (.cond c a y n sd) m) r (af P (d+9) 23 [.loc h,iV t,M] σ):=by refine jI (bH.mp ha) λtc ta ty tn rr z1 z2 z3 z4=> ?_;refine ah (j8 mv (d+6)) λs1 x1 e1=> ?_;have W8:fO l s1 (dW ps) ps:= .inl rfl;refine(l6 (q:=⟨c,a,y,n,sd,tc,ta,ty,tn⟩) Nx hN (W.ext x1) W8 ok ⟨z1,z2,z3,z4⟩ IM hw d hd cr).U0 (W.q x1 _) λ{t' s'} e2=> ?_;obtain Zj:af P (d+7) 79 [.loc h,bf tc ta ty tn sd,dW ps] s1=some (iV t',s'):=run [.c e2,.r] (by kernel_rfl);obtain OD:af P (d+8) 22 [.loc h,iV t,bf tc ta ty tn sd,M] σ=some (iV t',s'):=run [.r,.r,.r,.r,.r,.r,.r,.r,.r,.r,.r,.r,.r,.c e1,.c W8.len,.b (UI (List.length_pos_iff.mpr hp):aS s1 .gt (.int ps.length) (.int 0)=some true),.n ((W.ext x1).pP 3 (f:=79) rfl),.c Zj,.r] (by kernel_rfl);exact run [.e (sj W mv hp (d+8) t none),.v W.gK,.v W.1.a0,.v (W.1.at rr),.r,.r,.r,.r,.r,.r,.r,.r,.r,.r,.r,.r,.c OD,.r] (by kernel_rfl)
theorem sE(Nx:Ep t0 l h (dp+1) m [] N hh (.cond c a y n sd))(hN:N<=61)(W:Wd l h dp τ σ)(ok:de τ m []){t:Nat}(ha:au τ (.cond c a y n sd) t)(IM:dp+1+3*hh<=40)(hw:Wt (.cond c a y n sd)<=200000)(d:Nat)(hd:24*hh+20<=d+3)(cr:Cr (Wt (.cond c a y n sd)+r) τ):qk l h dp No τ σ (ev (.cond c a y n sd) m) r (af P (d+9) 78 [.loc h,iV t] σ):=by refine jI (bH.mp ha) λtc ta ty tn rr z1 z2 z3 z4=> ?_;have x1:=Ext.new σ (.bV [] []);have lh:=W.3;have lt:=W.lt;have mv:fO l (σ.new (.bV [] [])) (.loc σ.n) []:= .inr ⟨σ.n,rfl,aap _,by lia,by lia,bY ..⟩;refine(l6 (q:=⟨c,a,y,n,sd,tc,ta,ty,tn⟩) Nx hN (W.ext x1) mv ok ⟨z1,z2,z3,z4⟩ IM hw d hd cr).U0 (W.q x1 _) λ{t' s'} e2=> ?_;obtain ck:af P (d+7) 46 [.loc h,bf tc ta ty tn sd] σ=some (iV t',s'):=run [.r,.c e2,.r] (by kernel_rfl);obtain cs:af P (d+8) 49 [.loc h,bf tc ta ty tn sd] σ=some (iV t',s'):=run [.r,.r,.c ck,.r] (by kernel_rfl);exact run [.v W.gK,.v W.1.a0,.v (W.1.at rr),.c cs,.r] (by kernel_rfl)
end
mutual
noncomputable def Ca:Atom->Prop
 | .n ab=>True
 | .cond ab a y n ai=>aC a=a/\PI y/\PI n
noncomputable def PI:List Atom->Prop
 |[]=>True
 |a::r=>Ca a/\PI r
end
theorem kN:∀{l:List Atom},PI l↔∀b∈l,Ca b:=by
 intro v_;induction v_ with
 |nil=>simp[PI]
 |cons a r ih=>simp only[PI,ih];simp
theorem gC:∀{l:List Atom},zQ l↔∀b∈l,Fm b:=by
 intro v_;induction v_ with
 |nil=>simp[zQ]
 |cons a r ih=>simp only[zQ,ih];simp
structure AG(t0:Nm)(A:Atom):Prop where
 fm:Fm A
 ok:nj t0 A
 cn:Cn A
 ls:Ls A
 ca:Ca A
structure EG(t0:Nm)(m:Ab.Env):Prop where
 gT:fk m
 sm:lu m
 top:TopE t0 m
mutual
noncomputable def LP:Atom->Ab.Env->Nat->Prop
 | .n ab,ai,aD=>True
 | .cond c a y n s,m,N=>1<=N/\N<=61/\
  ((s &&(subs m c).length !=1)=true->((subs m c).flatMap (part c a y n s m)).length<=N/\∀one∈subs m c,IP y (near c m one) 61/\IP n (near c m one) 61)/\
  ((s &&(subs m c).length !=1)=false->∃N1 N2,IP y m N1/\IP n m N2/\N1<=N/\N2<=N/\(subs m c=[20]->N1+N2<=N))
noncomputable def IP:List Atom->Ab.Env->Nat->Prop
 |[],ab,N=>N<=61
 |a::r,m,N=>N<=61/\(bC (a::r) m).length<=N/\r.length+1<=61/\LP a m N/\RG r m
noncomputable def RG:List Atom->Ab.Env->Prop
 |[],ab=>True
 |a::r,m=>LP a m 61/\RG r m
end
theorem K8:∀{l:List Atom} {m:Ab.Env},RG l m->∀b∈l,LP b m 61:=by
 intro v_;induction v_ with
 |nil=>intro dJ dJ b hb;exact nomatch hb
 |cons a r ih=>
  intro m h b hb;rcases aam.mp hb with e |k
  ·rw[e];exact h.1
  ·exact ih h.2 b k
theorem LP.up{A:Atom}{m:Ab.Env}{N N':Nat}(h:LP A m N)(k:N<=N')(k':N'<=61):LP A m N':=by
 cases A with
 |n x=>trivial
 |cond c a y n s=>
  refine A4 h λh1 h2 h3 h4=> ?_;exact⟨aaa h1 k,k',λe=>⟨aaa (h3 e).1 k,(h3 e).2⟩,λe=>by refine kU (h4 e) λN1 N2 a1 a2 a3 a4 a5=> ?_;exact⟨N1,N2,a1,a2,aaa a3 k,aaa a4 k,λq=>aaa (a5 q) k⟩⟩
structure Zk(l:List Atom)(m:Ab.Env)(N:Nat):Prop where
 lim:N<=61
 ev:(bC l m).length<=N
 len:l.length<=61
 mem:∀b∈l,LP b m 61
 one:∀b,l=[b]->LP b m N
theorem IP.f{l:List Atom}{m:Ab.Env}{N:Nat}(h:IP l m N):Zk l m N:=by
 cases l with
 |nil=>exact⟨h,aaS _,aaS _,(aar _),λab h=>nomatch h⟩
 |cons a r=>
  refine A5 h λh1 h2 h3 h4 h5=> ?_;exact⟨h1,h2,h3,λb hb=>by
   rcases aam.mp hb with e |k
   ·exact e▸h4.up h1 (aab _)
   ·exact K8 h5 b k,λb hb=>by
   cases hb;exact h4⟩
mutual
noncomputable def SU:Atom->Prop
 | .n x=>x≠aT/\x≠aU
 | .cond c a y n ab=>ax c/\ax a/\tq y/\tq n/\less y=y/\less n=n
noncomputable def tq:List Atom->Prop
 |[]=>True
 |a::r=>SU a/\tq r/\(r≠[]->(∃x,a= .n x)/\∀b∈r,∃x,b= .n x)
end
theorem K9{y:List Atom}(h:tq y):(∃ns,y=aR ns)\/∃a,y=[a]/\SU a:=by
 match y,h with
 |[],ab=>exact .inl ⟨[],rfl⟩
 |[a],h=>exact .inr ⟨a,rfl,h.1⟩
 |a::b::r,h=>
  obtain⟨⟨x,hx⟩,hr⟩:=h.2.2 (λe=>nomatch e);refine .inl ?_;have:∀l:List Atom,(∀b∈l,∃x,b= .n x)->∃ns,l=aR ns:=λl=>by
   induction l with
   |nil=>exactλab=>⟨[],rfl⟩
   |cons b l ih=>intro h;refine pE (ih λc hc=>h c (aaf _ hc)) λns e=> ?_;obtain⟨x,e'⟩:=h b aac;exact⟨x::ns,by simp only[e,e'];rfl⟩
  exact this _ λc hc=>by
   rcases aam.mp hc with e |k
   ·exact⟨x,e.trans hx⟩
   ·exact hr c k
theorem HP{m:Ab.Env}(S:lu m):∀(l:List Nm),(l.flatMap (sub m)).length<=wN l:=by
 intro v_;induction v_ with
 |nil=>exact aab _
 |cons x l ih=>
  simp only[aaU,aah];show _<=wn x+wN l;refine aaw ?_ (ih);unfold sub wn;by_cases h1:x=aT
  ·rw[if_pos h1,if_pos (.inl h1)];refine aaI S.T (λaZ=>A2 aZ λk ab=> ?_) λaw=>A3 aw λab k ai=> ?_
   ·rw[k];decide
   ·exact k
  ·rw[if_neg h1];by_cases h2:x=aU
   ·rw[if_pos h2,if_pos (.inr h2)];refine aaI S.U (λaZ=>A2 aZ λk ab=> ?_) λaw=>A3 aw λab k ai=> ?_
    ·rw[k];decide
    ·exact k
   ·rw[if_neg h2,if_neg (λh=>h.elim h1 h2)];exact aab _
theorem Cy{t0:Nm}{m:Ab.Env}(E:EG t0 m){c a:List Nm}{y n:List Atom}{s:Bool}(L:Ls (.cond c a y n s)):KJ m c a:=by obtain h1:=HP E.sm c;obtain h2:=HP E.sm a;obtain h3:=dZ c;obtain h4:=dZ a;obtain k1:=L.1;obtain k2:=L.2.1;exact⟨by lia,by lia,by lia,by lia⟩
theorem EG.near{t0:Nm}{m:Ab.Env}(E:EG t0 m){c:List Nm}{one:Nm}(hc:ax (subs m c))(ho:one∈subs m c):EG t0 (near c m one):=by
 refine⟨?_,E.sm.near hc ho,jV E.top (mI E.top ho)⟩;unfold Ab.near;split
 ·exact⟨aO one,E.gT.U⟩
 ·split
  ·exact⟨E.gT.T,aO one⟩
  ·exact E.gT
theorem mY.up{l h dp D D' c c':Nat}{m:Ab.Env}{A:Atom}(H:mY l h dp D c m A)(k:D<=D')(k':c<=c'):mY l h dp D' c' m A:=λd hd τ σ t M ps r W mv ok hp ha hb=>H d (aaa k hd) τ σ t M ps r W mv ok hp ha (hb.le (aat k' r))
theorem Az:∀{l:List Atom} {b:Atom},b∈l->ht b<=m7 l:=by
 intro v_;induction v_ with
 |nil=>intro dJ h;exact nomatch h
 |cons a r ih=>
  intro b h;rcases aam.mp h with e |k
  ·exact e▸aaW _ _
  ·exact aaa (ih k) (abi _ _)
theorem map_two{τ:TT}(tk:τ.Ok){m:Ab.Env}{ps:List (Nat×Nat)}(ok:de τ m ps):ps.length<=2:=by
 obtain nd:(ps.map λp=>decide (τ.nm[p.1]? =some (nV 23))).Nodup:=by
  refine abR.mpr (acP (λ{p q} hp hq sZ e=>sZ ?_) (abR.mp ok.nd));obtain same:∀{p:Nat×Nat},p∈ps->τ.nm[p.1]?≠some (nV 23)->τ.nm[p.1]? =some (nV 24):=λ{p} hp h=>(ok.at' p hp).elim (λk=>absurd k.1 h) λk=>k.1;by_cases h1:τ.nm[p.1]? =some (nV 23)
  ·rw[decide_eq_true h1]at e;exact tk.Mr _ _ _ h1 (of_decide_eq_true e.symm)
  ·rw[decide_eq_false h1]at e;exact tk.Mr _ _ _ (same hp h1) (same hq (of_decide_eq_false e.symm))
 obtain k:=gS (w:=λab=>1) nd (xs:=[true,false]) λb ab=>by cases b<;>simp
 obtain one:∀l:List Bool,(l.map λab=>1).sum=l.length:=λl=>by
  induction l with
  |nil=>rfl
  |cons a l ih=>simp only[aaH,abE,ih,aax,abf]
 rw[one,aae]at k;exact k
def uE(t0:Nm)(hh:Nat)(A:Atom):Prop:=AG t0 A->∀(l h dp:Nat) (m:Ab.Env) (N:Nat),EG t0 m->LP A m N->dp+3*hh<=39->Wt A<=200000->mY l h dp (24*hh+26) (Wt A) m A
def l8(t0:Nm)(hh:Nat)(A:Atom):Prop:=AG t0 A->∀(l h dp:Nat) (m:Ab.Env) (ps:List (Nat×Nat)) (N:Nat),EG t0 m->LP A m N->(ps≠[]\/(ps=[]/\SU A))->Wt A<=200000->Ep t0 l h dp m ps N hh A
theorem ON{b:Atom}{l:List Atom}(h:b∈l):Wt b<=eU l:=by
 induction l with
 |nil=>cases h
 |cons a r ih=>exact(aam.mp h).elim (λe=>e▸aao _ _) λk=>aaa (ih k) (aaj _ _)
theorem kO{t0:Nm}{l h dp N hh:Nat}{m:Ab.Env}{ps:List (Nat×Nat)}{y:List Atom}(ih:∀b∈y,uE t0 hh b/\l8 t0 hh b)(hA:∀b∈y,AG t0 b)(E:EG t0 m)(L:IP y m N)(md:ps≠[]\/(ps=[]/\tq y/\less y=y))(IM:dp+1+3*hh<=39)(hw:eU y<=200000):kb t0 l h dp (24*hh+26) m ps y N hh:=by
 obtain F:=L.f;obtain wt:∀{b},b∈y->Wt b<=200000:=λhb=>aaa (ON hb) hw;refine⟨λyl h1 h2=> ?_,λa ha=>⟨(dr ha).elim (sr y m (dC.mpr λb hb=>(hA b hb).cn) a) λk=>k.elim (λe=>e▸trivial) λe=>e▸trivial,eQ (eI y (dB.mpr λb hb=>(hA b hb).ok) E.top) a ha⟩,F.ev,F.lim,λb e yl h1 h2=> ?_⟩
 ·refine aaI md (λhp=> ?_) λaw=>A3 aw λhp S hc=> ?_
  ·exact .inl ⟨hp,λb hb=>(ih b hb).1 (hA b hb) l h yl m 61 E (F.mem b hb) (by lia) (wt hb),λb hb=>(hA b hb).cn,aaa F.ev F.lim,F.len⟩
  ·refine(K9 S).elim (λz=>pE z λns e=> .inr ⟨hp,.inl ⟨ns,e,?_⟩⟩) λz=>ah z λb e Sb=> ?_
   ·rw[e]at hc;exact o6 (by rw[aY];exact hc)
   ·cases b with
    |n x=>exact .inr ⟨hp,.inl ⟨[x],e,aO x⟩⟩
    |cond c a y' n s=>exact .inr ⟨hp,.inr ⟨c,a,y',n,s,e⟩⟩
 ·have hb:b∈y:=e▸aac;exact(ih b hb).2 (hA b hb) l h yl m ps N E (F.one b e) (md.imp id λk=>⟨k.1,by obtain z:=k.2.1;simp only[e]at z;exact z.1⟩) (wt hb)
theorem AA{l:List Nm}(hc:aC l=l)(hl:l.length≠1){one:Nm}(h:one∈l):¬cu one:=λht=>(hc▸eN l).elim (λk=>k _ h ht) λz=>ah z λz ab k=>hl (by exact congrArg _ k)
theorem Lb{c a:List Nm}{y n:List Atom}{s:Bool}(hy:∀b∈y,Cn b)(hn:∀b∈n,Cn b)(m:Ab.Env)(one:Nm):∀b∈part c a y n s m one,Cn b:=λb hb=>by
 have it:∀{y:List Atom},(∀b∈y,Cn b)->∀b∈less (bC y (near c m one)),Cn b:=λ{y} hy b hb=>(dr hb).elim (sr y _ (dC.mpr hy) b) λk=>k.elim (λe=>e▸trivial) λe=>e▸trivial;unfold part pick at hb;split at hb
 ·rw[aag.mp hb];trivial
 ·split at hb
  ·rw[aag.mp hb];refine⟨aaB _ _,?_,eH _,eH _,dC.mpr (it hy),dC.mpr (it hn)⟩;simp only[show aR (subs (near c m one) a)=less (aR (a.flatMap (sub (near c m one))))from aY _];exact eH _
  ·split at hb
   ·exact it hy b hb
   ·split at hb
    ·exact(dr hb).elim (λk=>(aaz.mp k).elim (it hy b) (it hn b)) λk=>k.elim (λe=>e▸trivial) λe=>e▸trivial
    ·split at hb
     ·exact it hy b hb
     ·exact it hn b hb
theorem Eu{t0:Nm}{c a:List Nm}{y n:List Atom}{s:Bool}{hh:Nat}(iy:∀b∈y,uE t0 hh b/\l8 t0 hh b)(jn:∀b∈n,uE t0 hh b/\l8 t0 hh b):l8 t0 (hh+1) (.cond c a y n s):=by
 intro G l h dp m ps N E L md hw d fuel hd hf τ σ st q u r0 r e K7 I Lm cr;obtain⟨qc,qa,qy,qn,qs,tc,ta,ty,tn⟩:=q;obtain⟨rfl,rfl,rfl,rfl,rfl⟩:qc=c/\qa=a/\qy=y/\qn=n/\qs=s:=by cases e;exact⟨rfl,rfl,rfl,rfl,rfl⟩
 obtain⟨x,rfl⟩:=abj (by assumption:24*hh+29+15<=d);obtain⟨f0,rfl⟩:=abj (aaa (aaj 1 hh) hf);have wA:200+eU qy+eU qn<=Wt (.cond qc qa qy qn qs):=by simp only[Wt];exact aaE _ (jX qc)
 obtain⟨g1,g2,g3,g4,g5⟩:=G;have gy:∀b∈qy,AG t0 b:=λb hb=>⟨gC.mp g1.2.2.1 b hb,dB.mp g2.2.1 b hb,dC.mp g3.2.2.2.2.1 b hb,gB.mp g4.2.2.1 b hb,kN.mp g5.2.1 b hb⟩;have gn:∀b∈qn,AG t0 b:=λb hb=>⟨gC.mp g1.2.2.2 b hb,dB.mp g2.2.2 b hb,dC.mp g3.2.2.2.2.2 b hb,gB.mp g4.2.2.2 b hb,kN.mp g5.2.2 b hb⟩;have W9:ps≠[]\/(ps=[]/\tq qy/\less qy=qy):=md.imp id λk=>⟨k.1,k.2.2.2.1,k.2.2.2.2.2.1⟩;have Xa:ps≠[]\/(ps=[]/\tq qn/\less qn=qn):=md.imp id λk=>⟨k.1,k.2.2.2.2.1,k.2.2.2.2.2.2⟩;have Fw:=Cy E g4;have PH:∀b∈ev (.cond qc qa qy qn qs) m,Cn b/\nj t0 b:=λb hb=>⟨yh _ m g3 b hb,BO _ g2 E.top b hb⟩;have Po:ps=[]->ax qc/\ax qa:=λe=>md.elim (λk=>absurd e k) λk=>⟨k.2.1,k.2.2.1⟩;have Xb:∀m',ps=[]->isOpen (subs m' qa)=false:=λm' e=>by rw[bF (Po e).2 g5.1];exact eJ.mpr (Po e).2
 refine A4 L λL1 L2 L3 L4=> ?_;obtain Zl:=Lm.3;cases hs:(qs &&(subs m qc).length !=1)
 ·refine kU (L4 hs) λN1 N2 l1 l2 l3 l4 l5=> ?_;obtain By:=kO (l:=l) (h:=h) (dp:=dp) (ps:=ps) iy gy E l1 W9 (by lia) (by lia);obtain Bn:=kO (l:=l) (h:=h) (dp:=dp) (ps:=ps) jn gn E l2 Xa (by lia) (by lia);exact Cw E.gT By Bn (aaj 4 (24*hh+22)) (Xb m) (held:=subs m qc) (λe=>by rw[bF (Po e).1 g1.1.1];exact eJ.mpr (Po e).1) I ⟨Lm.1,Lm.2,aaa Zl (by decide)⟩ (r:=1+r) (cr.le (by show 165+eU qy+eU qn+(1+r)<=Wt _+r;lia)) (.inl ⟨K7,rfl⟩) Fw g1.1.1 g5.1 hs (eM m qc) (aaa (gZ _) Fw.c1) (d:=x+(24*hh+29+4)) (fuel:=f0) (by simp+arith) (by simp+arith) (by lia) (by rw[cO,hs];rfl) PH l3 l4 L1 l5
 ·refine A2 (L3 hs) λl1 l2=> ?_;obtain⟨rfl,hl⟩:qs=true/\(subs m qc).length≠1:=by rw[aaY,bne_iff_ne]at hs;exact hs
  refine aaI (qe E.sm g1.1) (λaZ=>A3 aZ λk1 k2 k3=> ?_) λaw=>A2 aw λk q=> ?_
  ·obtain PE:∀one∈subs m qc,HJ t0 l h dp (24*hh+26) m ps qc qa qy qn hh one:=λone ho=>by
    obtain E':=E.near k1 ho;refine⟨E'.gT,Cy E' g4,λtd p1 p2=>⟨?_,?_⟩,λb hb=>⟨Lb (λb hb=>(gy b hb).cn) (λb hb=>(gn b hb).cn) m one b hb,BP g2.1 g2.2.1 g2.2.2 E.top b (aau.mpr ⟨one,ho,hb⟩)⟩,AA k2 hl ho,λe=>⟨eJ.mpr (bX k1 ho),Xb _ e⟩⟩
    ·exact kO iy gy E' (l2 one ho).1 (W9.elim (λk=> .inl (p2 k)) λk=> .inr ⟨p1 k.1,k.2⟩) (by lia) (by lia)
    ·exact kO jn gn E' (l2 one ho).2 (Xa.elim (λk=> .inl (p2 k)) λk=> .inr ⟨p1 k.1,k.2⟩) (by lia) (by lia)
   exact K0 (N:=N) (fuel:=f0) (d:=x+(24*hh+29)) ⟨rfl,aaj 4 (24*hh+22),g1.1,g5.1,hl,aaa (map_two I.1.1.8 I.4) (by decide),PE,Lm,by simp+arith,by simp+arith,by obtain this:=Lm.1;lia⟩ E.gT I K7 Fw k3 PH L2 l1 cr
  ·exact absurd (by rw[k];rcases q with q |q<;>rw[q]<;>rfl) hl
theorem yr{t0:Nm}{c a:List Nm}{y n:List Atom}{s:Bool}{hh:Nat}(H:l8 t0 hh (.cond c a y n s)):uE t0 hh (.cond c a y n s):=by intro G l h dp m N E L IM hw d hd τ σ t M ps r W mv ok hp ha hb;obtain⟨x,rfl⟩:=abj (aaa (aaj 9 (24*hh+17)) hd);have L2:=L;exact HO (H G l h (dp+1) m ps N E L (.inl hp) hw) L2.2.1 W mv ok hp ha (by lia) hw x (by lia) hb
theorem AD(t0:Nm)(hh:Nat):∀A:Atom,ht A<=hh->uE t0 hh A/\l8 t0 hh A:=by
 have nm:∀(hh:Nat) (x:Nm),uE t0 hh (.n x)/\l8 t0 hh (.n x):=λhh x=>⟨λab l h dp m N ai aD bO fc=>(pj l h dp m x).up (aaj _ _) (aaS _),λab ai aD bO fc ny wj IE Qt F5 OO OP OQ RH Vc Zm Zn Zo q Zp Zq Zr e=>nomatch e⟩;induction hh with
 |zero=>
  intro A;cases A with
  |n x=>exactλab=>nm 0 x
  |cond c a y n s=>intro h;simp only[ht]at h;lia
 |succ hh ih=>
  intro A;cases A with
  |n x=>exactλab=>nm _ x
  |cond c a y n s=>intro k;simp only[ht]at k;obtain H:=Eu (t0:=t0) (c:=c) (a:=a) (s:=s) (λb hb=>ih b (aaa (Az (l:=y) hb) (by lia))) (λb hb=>ih b (aaa (Az (l:=n) hb) (by lia)));exact⟨yr H,H⟩
inductive Bd(c:Nat)(σ:St)(fs:List (Nat×V))(os:List O)(s:St):Prop
 |mk(x:Ext σ s)(f:s.f σ.n= .ins c fs)(n:s.n=σ.n+1+os.length)(o:∀j o,os[j]? =some o->s.f (σ.n+1+j)=o)
theorem Bd.nil(c:Nat)(σ:St):Bd c σ [] [] (σ.new (.ins c [])):=⟨Ext.new σ _,bY ..,rfl,λab ai h=>nomatch h⟩
section
variable {c:Nat}{σ s:St}{fs:List (Nat×V)}{os:List O}(z:Bd c σ fs os s)
include z
theorem Bd.set(a:Nat)(v:V):Bd c σ (fb fs a v) os (s.set σ.n (.ins c (fb fs a v))):=⟨z.1.set (aab _) _,cz ..,z.3,λj o h=>(if_neg (by simp+arith)).trans (z.4 j o h)⟩
theorem Bd.AE(a:Nat)(v:V)(ok:P.fX c a=true)(l:fs.length<100):bT P s (.loc σ.n) a v=some (s.set σ.n (.ins c (fb fs a v))):=by show om (s.f σ.n).me _=_;exact z.2▸b7 (by simp only[ok,decide_eq_true l];rfl)
theorem Bd.new(o:O):Bd c σ fs (os++[o]) (s.new o):=by obtain n:=z.3;refine⟨z.1.trans (Ext.new s o),(if_neg (by lia)).trans z.2,(congrArg (λx=>x+1) n).trans (by simp only[aah];rfl),λj w h=> ?_⟩;exact(qh h).elim (λh=>(if_neg (by obtain this:=(abg.mp h).1;lia)).trans (z.4 j w h)) λh=>(if_pos (by simp only[n,h.1])).trans h.2
theorem Bd.on(o:O)(a:Nat):Bd c σ (fb fs a (.loc s.n)) (os++[o]) ((s.new o).set σ.n (.ins c (fb fs a (.loc s.n)))):=(z.new o).set a _
theorem Bd.My(o:O)(a:Nat)(ok:P.fX c a=true)(l:fs.length<100):bT P (s.new o) (.loc σ.n) a (.loc s.n)=some ((s.new o).set σ.n (.ins c (fb fs a (.loc s.n)))):=(z.new o).AE a _ ok l
end
theorem Ew(d:Nat){l:Nat}(rs:List V):∀(R:List V) (s:St) (x1:Option V),s.f l= .ins 0 (OA l)->s.f (l+1)= .lst R->s.f (l+2)= .bV R (nums R.length)->(R++rs).all V.isTup=true->(R++rs).length<=100->(R++rs).Nodup->
  ∃s' y1,s'.n=s.n/\(∀k,k≠l+1->k≠l+2->s'.f k=s.f k)/\s'.f (l+1)= .lst (R++rs)/\s'.f (l+2)= .bV (R++rs) (nums (R++rs).length)/\dk 1 (λr s=>dS P (af P (d+1)) (lb 73 0) r s) rs [some (.loc l),x1] s=some (.next,[some (.loc l),y1],s'):=by
 induction rs with
 |nil=>intro R s x1 dJ hr hx dJ dJ dJ;exact pF s x1 rfl (λab ai aD=>rfl) (by rw[aaV];exact hr) (by rw[aaV];exact hx) rfl
 |cons row rs ih=>
  intro R s x1 hi hr hx ht hl nd;obtain bb:(1000000:Nat)=big:=rfl;have h2:=hl;rw[aah]at h2;have h3:=ht;simp only[ada,abe,aaY,aaY]at h3;rw[List.append_cons]at ht hl nd⊢;obtain cl:dA P s (.user 0) (.loc l)=some 74:=by show om (s.f l).me (λp=>P.hH p.1 0)=_;exact hi▸rfl
  refine kU (ih (R++[row]) ((s.set (l+1) (.lst (R++[row]))).set (l+2) (.bV (R++[row]) (nums (R.length+1)))) (some row) ((if_neg (by simp+arith)).trans ((if_neg (by simp+arith)).trans hi)) ((if_neg (by simp+arith)).trans (if_pos rfl)) (by simp only[aah];exact if_pos rfl) ht hl nd) λs' y1 k1 k2 k3 k4 k5=> ?_;exact pF s' y1 k1 (λk a b=>(k2 k a b).trans ((if_neg b).trans (if_neg a))) k3 k4 ((aJ (eR [.n cl,.c (B8 d hi hr hx h3.1 h3.2.1 (λk hk=>(adB.mp (aaJ ..▸nd)).2.2 k hk row aac) (by lia))] (by kernel_rfl))).trans k5)
theorem yt:gu.Nodup:=of_decide_eq_true (by kernel_rfl)
theorem Ey(d:Nat)(σ:St)(E F:Nat)(ef:E≠F):∃aq,Ext σ aq/\Tb σ.n ⟨gu,[],E,F⟩ aq/\wI P (af P (d+2)) σ 0 []=some (.loc σ.n,aq):=by
 obtain z0:=Bd.nil 0 σ;obtain z1:=z0.on (.lst []) 0;obtain z2:=z1.on (.bV [] []) 1;obtain z3:=z2.on (.lst [.none]) 2;obtain z4:=z3.on (.lst []) 3;obtain z5:=z4.on (.lst []) 4;obtain z6:=z5.on (.lst []) 5;obtain z7:=z6.on (.bV [] []) 6;obtain z8:=z7.on (.bV [] []) 7;obtain z9:=z8.set 8 (.int 0);obtain z:=z9.set 9 (.int 0);refine kU (Ew d (l:=σ.n) gu [] _ none z.2 (z.4 0 _ rfl) (z.4 1 _ rfl) (by kernel_rfl) (aaq rfl) yt) λs' y1 k1 k2 k3 k4 k5=> ?_;obtain o:∀j {o:O},1<j->_=some o->s'.f (σ.n+1+j)=o:=λj o h e=>(k2 _ (by lia) (by lia)).trans (z.4 j o e);refine iD s' ⟨k1▸z.1.n,λk hk=>(k2 k (by lia) (by lia)).trans (z.1.f k hk)⟩ ⟨(k2 _ (by simp+arith) (by simp+arith)).trans z.2,k3,k4,o 3 (by decide) rfl,o 4 (by decide) rfl,o 5 (by decide) rfl,?_,⟨λi v h=>h,λi j v h h'=>(List.getElem?_inj (abg.mp h).1 yt).mp (h.trans h'.symm),aas.mp (by kernel_rfl),(λi j v h=>nomatch h),ef⟩⟩ ?_
 ·simp only[k1];exact abP (aap _) z.3.symm
 ·exact(eB (rfl:P.iT[0]? =some 73)).trans ((aQ (run [.s (z0.My (.lst []) 0 rfl (aaq rfl)),.r,.s (z1.My (.bV [] []) 1 rfl (by show 1<100;decide)),.s (z2.My (.lst [.none]) 2 rfl (by show 2<100;decide)),.s (z3.My (.lst []) 3 rfl (by show 3<100;decide)),.s (z4.My (.lst []) 4 rfl (by show 4<100;decide)),.s (z5.My (.lst []) 5 rfl (by show 5<100;decide)),.r,.s (z6.My (.bV [] []) 6 rfl (by show 6<100;decide)),.r,.s (z7.My (.bV [] []) 7 rfl (by show 7<100;decide)),.s (z8.AE 8 (.int 0) rfl (by show 8<100;decide)),.s (z9.AE 9 (.int 0) rfl (by show 9<100;decide)),.r,.l k5] (by kernel_rfl):af P (d+2) 73 [.loc σ.n] (σ.new (.ins 0 []))=some (V.none,s'))).trans rfl)
theorem ql{l:Nat}{τ:TT}{σ:St}(T:Tb l τ σ):dA P σ (.user 0) (.loc l)=some 74:=by show om (σ.f l).me (λp=>P.hH p.1 0)=_;rw[T.1];rfl
theorem yu{l:Nat}{τ:TT}{σ:St}(T:Tb l τ σ)(d n:Nat){r:Nat}(c:Cr (1+r) τ):Pg l τ σ (Row (.tup [.int 4,iV n,.int 0])) r (af P (d+2) 1 [.loc l,iV n] σ):=
 (gV T d (row:= .tup [.int 4,iV n,.int 0]) rfl c).el λab ai aD p k c e=> .mk p k c (run [.n (ql T),.c e,.r] (by kernel_rfl))
structure tA(l:Nat)(σ aq:St):Prop where
 n:σ.n<=aq.n
 f:∀k,k<σ.n->(k<l+1\/l+8<k)->aq.f k=σ.f k
theorem tA.refl(l:Nat)(σ:St):tA l σ σ:=⟨aab _,λab ai aD=>rfl⟩
theorem tA.trans{l:Nat}{a b c:St}(x:tA l a b)(y:tA l b c):tA l a c:=⟨aaa x.n y.n,λk h e=>(y.f k (aak h x.n) e).trans (x.f k h e)⟩
theorem jb.l{l:Nat}{a b:St}(x:jb l a b):tA l a b:=⟨x.n,λk h e=>x.f k h (by lia) (by lia)⟩
theorem Ez{l:Nat}{τ:TT}{σ:St}(T:Tb l τ σ)(d:Nat){x:Nm}(hx:oG x=true)(hn:nV x∉τ.nm)(hm:τ.nm.length<=100){r:Nat}(c:Cr (1+r) τ){G:Prop}
  (kk:∀t ay aq,Tb l ay aq->τ.Le ay->tA l σ aq->ay.nm=τ.nm++[nV x]->az ay x t->Cr r ay->af P (d+2) 2 [.loc l,nV x] σ=some (iV t,aq)->G):G:=by
 obtain bb:(1000000:Nat)=big:=rfl;obtain rl:abz τ.nm.length (V.int (-1))++[.int (-1)]=abz (τ.nm++[nV x]).length (V.int (-1)):=by rw[aah,abv,List.replicate_succ']
 let bD:=σ.set (l+4) (.lst (abz τ.nm.length (.int (-1))++[.int (-1)]));let dx:=bD.set (l+5) (.lst (abz τ.nm.length (.int (-1))++[.int (-1)]));let wu:=dx.set (l+6) (.lst (τ.nm++[nV x]));have f1:∀k,k≠l+4->bD.f k=σ.f k:=λk h=>if_neg h;have f2:∀k,k≠l+4->k≠l+5->dx.f k=σ.f k:=λk h h'=>(if_neg h').trans (f1 k h);have f3:∀k,(k<l+4\/l+6<k)->wu.f k=σ.f k:=λk h=>(if_neg (by lia)).trans (f2 k (by lia) (by lia));have T3:Tb l {τ with nm:=τ.nm++[nV x]} wu:=⟨(f3 _ (.inl (by simp+arith))).trans T.1,(f3 _ (.inl (by simp+arith))).trans T.2,(f3 _ (.inl (by simp+arith))).trans T.3,(if_neg (by simp+arith)).trans ((if_neg (by simp+arith)).trans ((if_pos rfl).trans (congrArg _ rl))),(if_neg (by simp+arith)).trans ((if_pos rfl).trans (congrArg _ rl)),if_pos rfl,T.7,⟨T.8.fst,T.8.nd,T.8.tup,Cb T.8.Mr λk hk e=>hn (e▸hk),T.8.ef⟩⟩;refine(gV T3 d (row:= .tup [.int 10,iV τ.nm.length]) rfl c).el λt ay aq p r c e=> ?_;obtain lr:(abz τ.nm.length (V.int (-1))).length+1<big:=by rw[adh];lia
 obtain Zs:sX σ .len (.loc (l+4))=some (iV τ.nm.length,σ):=adh (n:=τ.nm.length) (a:=V.int (-1))▸vD T.4;have d5:=(f1 (l+5) (by simp+arith)).trans T.5;have d6:=(f2 (l+6) (by simp+arith) (by simp+arith)).trans T.6;refine kk t ay aq p.1 ⟨p.2.R,λi v h=>p.2.nm i v (Aa h),p.2.E,p.2.F⟩ ⟨p.3.n,λk h e=>(p.3.f k h (by lia) (by lia)).trans (f3 k (by lia))⟩ p.4 ⟨0,τ.nm.length,?_,λq=>absurd (Ho x q) (by rw[hx];decide),λab=> ?_⟩ c (run [.v T.a3,.c Zs,.v T.a3,.n (jY T.4 P),.c (iA T.4 lr _:cX (af P (d+1)) σ .append 0 (.loc (l+4)) [.int (-1)]=some (.none,bD)),.v (bP ((f1 _ (by lia)).trans T.1) rfl:aE bD (.loc l) 4=some (.loc (l+5))),.n (jY d5 P),.c (iA d5 lr _:cX (af P (d+1)) bD .append 0 (.loc (l+5)) [.int (-1)]=some (.none,dx)),.v (bP ((f2 _ (by lia) (by lia)).trans T.1) rfl:aE dx (.loc l) 5=some (.loc (l+6))),.n (jY d6 P),.c (iA d6 (by lia) _:cX (af P (d+1)) dx .append 0 (.loc (l+6)) [nV x]=some (.none,wu)),.n (ql T3),.c e,.r] (by kernel_rfl))
 ·rw[dg,hx,abB.mpr λq=>absurd (Ho x q) (by rw[hx];decide)];exact r
 ·rw[p.4,abQ (aab _),aed];rfl
def Cz:List V:=[sV [116,97,98],sV [109,97,100,101],sV [110,97,109,101,115],sV [100,105,100,115],sV [116,117,114,110,101,100]]
structure Pl where
 wl:Nat
 l:Nat
 md:Nat
 nz:Nat
 dd:Nat
 tr:Bool
 ks:List V
 vs:List V
def wO(p:Pl):O:= .bV (Cz++p.ks) ([.loc p.l,.loc p.md,.loc p.nz,.loc p.dd,.bool p.tr]++p.vs)
inductive HQ(p:Pl)(E F:Nat)(σ:St):Prop
 |mk(w:σ.f p.wl=wO p)(d:σ.f p.dd= .bV [sV [69],sV [70]] [iV E,iV F])(k:(Cz++p.ks).all V.isStr=true)
theorem dX{s:List Nat}{ks:List V}(h:ks.all V.isStr=true):bM (.str s::ks)=true:=by unfold bM;simp only[show(V.str s::ks).all V.isStr=true by simp only[abe,h];rfl,ads,aea]
section
variable {p:Pl}{E F:Nat}{σ:St}(W:HQ p E F σ)
include W
theorem HQ.tab:bS σ (.loc p.wl) (sV [116,97,98])=some (.loc p.l):=dR W.1 (dX W.3) rfl
theorem HQ.made:bS σ (.loc p.wl) (sV [109,97,100,101])=some (.loc p.md):=dR W.1 (dX W.3) rfl
theorem HQ.names:bS σ (.loc p.wl) (sV [110,97,109,101,115])=some (.loc p.nz):=dR W.1 (dX W.3) rfl
theorem HQ.Lc:bS σ (.loc p.wl) (sV [100,105,100,115])=some (.loc p.dd):=dR W.1 (dX W.3) rfl
theorem HQ.turned:bS σ (.loc p.wl) (sV [116,117,114,110,101,100])=some (.bool p.tr):=dR W.1 (dX W.3) rfl
theorem HQ.e:bS σ (.loc p.dd) (sV [69])=some (iV E):=dR W.2 rfl rfl
theorem HQ.f:bS σ (.loc p.dd) (sV [70])=some (iV F):=dR W.2 rfl rfl
end
theorem OR{β:Type}{L:List Nm}{f g:Nm->β}(h:L.map f=L.map g){x:Nm}(hx:x∈L):f x=g x:=adA.mp h x hx
noncomputable def AF:List Nm:=[0,1,2,6,7,9,10,11,12,13,14,15,16,17,20,21,22]
theorem EA(d wl E F s7 p:Nat)(σ:St){x:Nm}(h:x∈AF):af P (d+2) 63 [.loc wl,nV x] σ=some (dg E F s7 p x,σ):=OR (f:=λx=>af P (d+2) 63 [.loc wl,nV x] σ) (g:=λx=>some (dg E F s7 p x,σ)) (by kernel_rfl) h
theorem AH:∀x:Nm,x∈AF\/x=3\/x=4\/x=5\/x=8\/x=18\/x=19\/oG x=true:=by decide
theorem Ld:∀x:Nm,x∈AF->yQ x=false:=by decide
theorem Lg{p:Pl}{τ:TT}{σ:St}(W:HQ p τ.E τ.F σ)(T:Tb p.l τ σ)(d:Nat){x:Nm}(hx:oG x=false){r:Nat}(c:Cr (1+r) τ){G:Prop}
  (kk:∀ay aq s7,wq p.l τ σ ay aq->(yQ x=true->ay.R[s7]? =some D6)->Cr r ay->af P (d+4) 63 [.loc p.wl,nV x] σ=some (dg τ.E τ.F s7 0 x,aq)->G):G:=by
 have aI:yQ x=false->af P (d+4) 63 [.loc p.wl,nV x] σ=some (dg τ.E τ.F 0 0 x,σ)->G:=λq=>kk τ σ 0 (.refl T) (λk=>absurd (q.symm.trans k) (by decide)) (c.le (aaj ..));have num:(∀{t aq},af P (d+3) 1 [.loc p.l,iV 7] σ=some (iV t,aq)->af P (d+4) 63 [.loc p.wl,nV x] σ=some (dg τ.E τ.F t 0 x,aq))->G:=λh=>(yu T (d+1) 7 c).el λt ay aq p r c e=>kk ay aq t p (λab=>r) c (h e);rcases AH x with h |h |h |h |h |h |h |h
 ·exact aI (Ld x h) (EA (d+2) p.wl τ.E τ.F 0 0 σ h)
 ·subst h;exact aI rfl (run [.r,.r,.r,.r,.r,.r,.v W.Lc,.r,.v W.e,.r] (by kernel_rfl))
 ·subst h;exact aI rfl (run [.r,.r,.r,.r,.r,.r,.v W.Lc,.r,.v W.f,.r] (by kernel_rfl))
 ·subst h;exact aI rfl (run [.r,.r,.r,.r,.r,.r,.r,.v W.Lc,.v W.e,.r] (by kernel_rfl))
 ·subst h;exact aI rfl (run [.r,.r,.r,.r,.r,.r,.v W.Lc,.r,.v W.e,.r] (by kernel_rfl))
 ·subst h;exact num λe=>run [.r,.r,.r,.r,.r,.r,.r,.r,.r,.v W.tab,.c e,.r] (by kernel_rfl)
 ·subst h;exact num λe=>run [.r,.r,.r,.r,.r,.r,.r,.r,.r,.v W.tab,.c e,.r] (by kernel_rfl)
 ·rw[hx]at h;cases h
inductive HR(p:Pl)(L:List (Nm×Nat))(τ:TT)(σ:St):Prop
 |mk (m:σ.f p.md= .bV (L.map λq=>nV q.1) (L.map λq=>iV q.2)) (n:σ.f p.nz= .bV (L.map λq=>iV q.2) (L.map λq=>nV q.1)) (at':∀q∈L,az τ q.1 q.2)
theorem oQ(L:List (Nm×Nat)):(L.map λp=>nV p.1).all V.isStr=true:=by rw[abN];exact aas.mpr λab ai=>rfl
theorem CA(L:List (Nm×Nat)):(L.map λp=>iV p.2).all V.isInt=true:=by rw[abN];exact aas.mpr λab ai=>rfl
theorem oR{x y:Nm}(h:nV x=nV y):x=y:=zN x y (V.str.inj h)
theorem HS{x y:Nat}(h:iV x=iV y):x=y:=aaO (V.int.inj h)
theorem yv{f g:Nm×Nat->V}{q:Nm×Nat}{L:List (Nm×Nat)}(i:∀a∈L,f a=f q->g a=g q)(h:q∈L):bx (L.map f) (L.map g) (f q)=some (g q):=by
 induction L with
 |nil=>cases h
 |cons a L ih=>
  show(if V.beq (f a) (f q)=true then some (g a)else bx (L.map f) (L.map g) (f q))=_;by_cases e:f a=f q
  ·rw[if_pos ((beq_iff _ _).mpr e),i a aac e]
  ·rw[if_neg λk=>e ((beq_iff _ _).mp k)];exact ih (λb hb=>i b (aaf _ hb)) ((aam.mp h).resolve_left λk=>e (by rw[k]))
section
variable {p:Pl}{L:List (Nm×Nat)}{τ:TT}{σ:St}(M:HR p L τ σ)
include M
theorem HR.jJ(x:Nm):aS σ .jJ (nV x) (.loc p.md)=some (!decide (x∈L.map (λx=>x.1))):=by
 show om (E6 σ (nV x) (.loc p.md)) _=_;obtain this:E6 σ (nV x) (.loc p.md)=some (decide (x∈L.map (λx=>x.1))):=by show(match(σ.f p.md).eW with |some vs=>_ |none=>om (σ.f p.md).gP λp=>og (bM (nV x::p.1)) (some (p.1.any (λk=>V.beq k (nV x)))))=_;rw[M.1];refine(b7 (dX (oQ L))).trans ?_;rw[acF,acN,aaC,abn,decide_eq_true_eq,aal];exact⟨λi4=>ah i4 λp hp e=>⟨p,hp,oR ((beq_iff _ _).mp e)⟩,λi4=>ah i4 λp hp e=>⟨p,hp,(beq_iff _ _).mpr (by rw[<-e])⟩⟩
 rw[this];rfl
theorem HR.get(tk:τ.Ok){x:Nm}{t:Nat}(h:(x,t)∈L):bS σ (.loc p.md) (nV x)=some (iV t):=
 dR M.1 (dX (oQ L)) (yv (f:=λq=>nV q.1) (g:=λq=>iV q.2) (q:=(x,t)) (λa ha e=>congrArg (λn:Nat=>iV n) (gH tk (oR e▸M.3 a ha) (M.3 _ h))) h)
end
theorem vP{p:Pl}{τ:TT}{L:List (Nm×Nat)}{σ:St}(W:HQ p τ.E τ.F σ)(M:HR p L τ σ)(tk:τ.Ok)(d:Nat){x:Nm}{t:Nat}(h:(x,t)∈L):af P (d+1) 64 [.loc p.wl,nV x] σ=some (iV t,σ):=by obtain n1:=M.jJ x;rw[decide_eq_true (aal.mpr ⟨_,h,rfl⟩)]at n1;exact run [.v W.made,.b n1,.v W.made,.v (M.get tk h),.r] (by kernel_rfl)
inductive EV(p:Pl)(n:Nat):Prop
 |mk(w:p.l+8<p.wl/\p.wl<n)(m:p.l+8<p.md/\p.md<n)(z:p.l+8<p.nz/\p.nz<n)(d:(p.dd<p.l+1\/p.l+8<p.dd)/\p.dd<n)(mz:p.md≠p.nz)(wm:p.wl≠p.md)(wz:p.wl≠p.nz)(dm:p.dd≠p.md)(dz:p.dd≠p.nz)(wd:p.dd≠p.wl)
theorem EV.up{p:Pl}{n n':Nat}(P:EV p n)(h:n<=n'):EV p n':=⟨P.1.imp_right λk=>aak k h,P.2.imp_right λk=>aak k h,P.3.imp_right λk=>aak k h,P.4.imp_right λk=>aak k h,P.5,P.6,P.7,P.8,P.9,P.10⟩
inductive Lw(p:Pl)(L:List (Nm×Nat))(τ:TT)(σ:St):Prop
 |mk(T:Tb p.l τ σ)(W:HQ p τ.E τ.F σ)(M:HR p L τ σ)(P:EV p σ.n)
inductive Nn(L:List (Nm×Nat))(nm:List V):Prop
 |mk (pm:∀v∈nm,∃q∈L,v=nV q.1) (nd:(L.map (λx=>x.1)).Nodup) (nl:nm.length<=L.length)
inductive LW(p:Pl)(L:List (Nm×Nat))(τ:TT)(σ:St):Prop
 |mk(z:Lw p L τ σ)(n:Nn L τ.nm)
section
variable {p:Pl}{L:List (Nm×Nat)}{τ ay:TT}{σ aq:St}
theorem Lw.ext(H:Lw p L τ σ)(T:Tb p.l ay aq)(le:τ.Le ay)(x:tA p.l σ aq):Lw p L ay aq:=by obtain P:=H.4;exact⟨T,⟨(x.f _ P.1.2 (.inr P.1.1)).trans H.2.1,(x.f _ P.4.2 P.4.1).trans (le.E▸le.F▸H.2.2),H.2.3⟩,⟨(x.f _ P.2.2 (.inr P.2.1)).trans H.3.1,(x.f _ P.3.2 (.inr P.3.1)).trans H.3.2,λq hq=>(H.3.3 q hq).mono le⟩,P.up x.n⟩
def PJ(p:Pl)(L:List (Nm×Nat))(σ:St):St:=σ.set p.md (.bV (L.map λq=>nV q.1) (L.map λq=>iV q.2))
def Xc(p:Pl)(L:List (Nm×Nat))(σ:St):St:=(PJ p L σ).set p.nz (.bV (L.map λq=>iV q.2) (L.map λq=>nV q.1))
variable {x:Nm}{t:Nat}
theorem Lw.enter(H:Lw p L τ σ)(hx:x∉L.map (λx=>x.1))(hn:az τ x t)(hl:L.length<=100):
  cL σ (.loc p.md) (nV x) (iV t)=some (PJ p (L++[(x,t)]) σ)/\cL (PJ p (L++[(x,t)]) σ) (.loc p.nz) (iV t) (nV x)=some (Xc p (L++[(x,t)]) σ):=by
 obtain bb:(1000000:Nat)=big:=rfl;obtain M:=H.3;obtain le:∀{α:Type} (f:Nm×Nat->α),decide ((L.map f).length+1<big)=true:=λf=>decide_eq_true (by rw[aae];lia);obtain ap:∀(f g:Nm×Nat->V),(∀a∈L,f a=f (x,t)->a.1=x)->putK (L.map f) (L.map g) (f (x,t)) (g (x,t))=((L++[(x,t)]).map f,(L++[(x,t)]).map g):=λf g h=>by rw[mT (by simp only[aae,aae]) λk hk e=>hx (ah (aal.mp hk) λa ha e'=>aal.mpr ⟨a,ha,h a ha (e'.trans e)⟩),aaG,aaG];rfl
 constructor
 ·show(match σ.f p.md with | .lst vs=>_ | .bV ks vs=>_ |_=>_)=_;rw[M.1];exact(b7 (by rw[dX (oQ L),le];rfl)).trans (ap (λq=>nV q.1) (λq=>iV q.2) (λa ab e=>oR e)▸rfl)
 ·show(match(PJ p _ σ).f p.nz with | .lst vs=>_ | .bV ks vs=>_ |_=>_)=_;rw[show(PJ p (L++[(x,t)]) σ).f p.nz=_ from(if_neg H.4.5.symm).trans M.2];exact(b7 (by unfold bM;rw[abe,CA,le];rfl)).trans (ap (λq=>iV q.2) (λq=>nV q.1) (λa ha e=>fj H.1.8 ((HS e:a.2=t)▸M.3 a ha) hn)▸rfl)
theorem Lw.after(H:Lw p L τ σ)(hn:az τ x t):Lw p (L++[(x,t)]) τ (Xc p (L++[(x,t)]) σ):=by obtain P:=H.4;exact⟨(H.1.set P.2.1 _).set P.3.1 _,⟨(if_neg P.7).trans ((if_neg P.6).trans H.2.1),(if_neg P.9).trans ((if_neg P.8).trans H.2.2),H.2.3⟩,⟨(if_neg P.5).trans (if_pos rfl),if_pos rfl,abM.mpr ⟨H.3.3,abF.mpr hn⟩⟩,P⟩
theorem OS:∀x:Nm,x∈iv:=by decide
theorem Nn.Cy{nm:List V}(H:Nn L nm):L.length<=25:=by
 obtain this:=gS (w:=λab=>1) H.2 (xs:=iv) λx ab=>OS x;obtain one:∀l:List Nm,(l.map λab=>1).sum=l.length:=λl=>by
  induction l with
  |nil=>rfl
  |cons a l ih=>simp only[aaH,abE,ih,aax,abf]
 rw[one,aae]at this;exact this
inductive Off(p:Pl)(k:Nat):Prop
 |mk(l:k<p.l+1\/p.l+8<k)(m:k≠p.md)(z:k≠p.nz)
inductive Gt(p:Pl)(X:Nat->Prop)(L:List (Nm×Nat))(τ:TT)(σ:St)(L':List (Nm×Nat))(ay:TT)(aq:St):Prop
 |mk(lw:LW p L' ay aq)(le:τ.Le ay)(n:σ.n<=aq.n)(f:∀k,k<σ.n->Off p k->¬X k->aq.f k=σ.f k)(sub:∀q∈L,q∈L')
def EW(_:Nat):Prop:=False
def Rg(p:Pl)(L:List (Nm×Nat))(τ:TT)(σ:St)(K:List (Nm×Nat)->TT->Nat->Prop)(r:Nat)(x:Option (V×St)):Prop:=∃t L' ay aq,Gt p EW L τ σ L' ay aq/\K L' ay t/\Cr r ay/\x=some (iV t,aq)
def Hs(x:Nm)(L:List (Nm×Nat))(_:TT)(t:Nat):Prop:=(x,t)∈L
def Lt(A:List Atom)(_:List (Nm×Nat))(τ:TT)(t:Nat):Prop:=ar τ A t
def La(A:Atom)(_:List (Nm×Nat))(τ:TT)(t:Nat):Prop:=au τ A t
variable {X:Nat->Prop}{L' Xd:List (Nm×Nat)}{xV:TT}{xW:St}{K:List (Nm×Nat)->TT->Nat->Prop}{r:Nat}{y z:Option (V×St)}
theorem Rg.el{G:Prop}(h:Rg p L τ σ K r y)(k:∀t L' ay aq,Gt p EW L τ σ L' ay aq->K L' ay t->Cr r ay->y=some (iV t,aq)->G):G:=IU h k
theorem Rg.mk(g:Gt p EW L τ σ L' ay aq)(k:K L' ay t)(c:Cr r ay)(e:y=some (iV t,aq)):Rg p L τ σ K r y:=⟨t,L',ay,aq,g,k,c,e⟩
theorem Rg.to(h:Rg p L τ σ K r y)(k:∀{t s},y=some (iV t,s)->z=some (iV t,s)):Rg p L τ σ K r z:=h.el λab ai aD bO g h c e=> .mk g h c (k e)
theorem Gt.refl(H:LW p L τ σ):Gt p X L τ σ L τ σ:=⟨H,TT.Le.refl τ,aab _,λab ai aD bO=>rfl,λab h=>h⟩
theorem Gt.trans(x:Gt p X L τ σ L' ay aq)(y:Gt p X L' ay aq Xd xV xW):Gt p X L τ σ Xd xV xW:=⟨y.1,x.2.trans y.2,aaa x.3 y.3,λk h o n=>(y.4 k (aak h x.3) o n).trans (x.4 k h o n),λq h=>y.5 q (x.5 q h)⟩
theorem Gt.w(x:Gt p EW L τ σ L' ay aq):Gt p X L τ σ L' ay aq:=⟨x.1,x.2,x.3,λk h o ab=>x.4 k h o id,x.5⟩
theorem Gt.cut(x:Gt p X L τ σ L' ay aq)(h:∀k,X k->σ.n<=k):Gt p EW L τ σ L' ay aq:=⟨x.1,x.2,x.3,λk l o ab=>x.4 k l o λq=>absurd (h k q) (aeP l),x.5⟩
theorem LW.Mt(H:LW p L τ σ)(q:wq p.l τ σ ay aq):Gt p X L τ σ L ay aq:=⟨⟨H.1.ext q.1 q.2 q.3.l,q.4▸H.2⟩,q.2,q.3.n,λk h o ab=>q.3.l.f k h o.1,λab h=>h⟩
theorem LW.xt(H:LW p L τ σ)(x:Ext σ aq):Gt p X L τ σ L τ aq:=H.Mt (.oH H.1.1 x)
theorem LW.e(H:LW p L τ σ)(x:Ext σ aq):LW p L τ aq:=(H.xt (X:=EW) x).1
theorem AI(H:LW p L τ σ)(d:Nat)(x:Nm){r:Nat}(hb:Cr (2+r) τ):Rg p L τ σ (Hs x) r (af P (d+6) 64 [.loc p.wl,nV x] σ):=by
 obtain hl:=H.2.Cy;obtain hm:=H.2.3;by_cases hx:x∈L.map (λx=>x.1)
 ·refine ah (aal.mp hx) λq hq e=> ?_;obtain Xe:(x,q.2)∈L:=e▸hq;exact .mk (t:=q.2) (.refl H) Xe (hb.le (aaj ..)) (vP H.1.2 H.1.3 H.1.1.8 (d+5) Xe)
 ·obtain W:=H.1.2;obtain n1:=H.1.3.jJ x;rw[decide_eq_false hx]at n1;have fin:∀{fF:TT} {bD:St} {t:Nat},Tb p.l fF bD->(∀v∈fF.nm,v∈τ.nm\/v=nV x)->τ.Le fF->tA p.l σ bD->Cr r fF->fF.nm.length<=τ.nm.length+1->az fF x t->bR P (af P (d+5)) (bo 64 0) [some (.loc p.wl),some (nV x),none] σ=some (iV t,bD)->Rg p L τ σ (Hs x) r (af P (d+6) 64 [.loc p.wl,nV x] σ):=λ{fF bD t} T1 pm le x1 c hn hN ev=>by
   obtain H1:=H.1.ext T1 le x1;obtain H2:=H1.after hN;obtain mem:(x,t)∈L++[(x,t)]:=acB _ aac;obtain sN:=H1.enter hx hN (aaa hl (aaq rfl));refine .mk (t:=t) ⟨⟨H2,⟨λv hv=>(pm v hv).elim (λh=>ah (H.2.1 v h) λq hq e=>⟨q,acf _ hq,e⟩) λe=>⟨_,mem,e⟩,?_,?_⟩⟩,le,x1.n,λk h o ab=>(if_neg o.3).trans ((if_neg o.2).trans (x1.f k h o.1)),λab h=>acf _ h⟩ mem c (run [.v W.made,.b n1,.e ev,.v H1.2.made,.s sN.1,.v (dR ((if_neg H1.4.6).trans H1.2.1) (dX H1.2.3) rfl:bS (PJ p (L++[(x,t)]) bD) (.loc p.wl) (sV [110,97,109,101,115])=some (.loc p.nz)),.s sN.2,.v H2.2.made,.v (H2.3.get H2.1.8 mem),.r] (by kernel_rfl))
   ·simp only[aaG];exact adB.mpr ⟨H.2.2,aaB _ _,λa ha b hb e=>hx ((e.trans (aag.mp hb):a=x)▸ha)⟩
   ·simp only[aah];exact aaa hn (abm hm)
  obtain c0:=cP (f:=λx=>aS σ .isin (nV x) (.tup [nV 23,nV 24])) (g:=λx=>some (oG x)) (by kernel_rfl) x;revert c0;cases hp:oG x
  ·intro c0;refine Lg W H.1.1 (d+1) hp (r:=1+r) (Cr.as hb) λfF bD s7 p1 k1 c1 e1=> ?_;refine(gV p1.1 (d+4) (row:=dg τ.E τ.F s7 0 x) (jz ..) c1).el λt jG dx p2 r2 c2 e2=> ?_;obtain q:=p1.trans p2;exact fin q.1 (q.4▸λv hv=> .inl hv) q.2 q.3.l c2 (q.4▸aaK _) ⟨s7,0,by rw[q.2.E,q.2.F];exact r2,λk=>p2.2.R _ _ (k1 k),λk=>absurd (hp.symm.trans k) (by decide)⟩ (bU [.b c0,.v W.tab,.n H.1.1.pP,.c e1,.c e2] (by kernel_rfl))
  ·intro c0;refine Ez H.1.1 (d+3) hp (λh=>ah (H.2.1 _ h) λq hq e=>hx (aal.mpr ⟨q,hq,(oR e).symm⟩)) (by lia) (r:=1+r) (Cr.as hb) λt fF bD T1 le x1 Xf N1 c1 e1=> ?_;exact fin T1 (Xf▸λv hv=>(aaz.mp hv).imp id aag.mp) le x1 (c1.le (aaj ..)) (by simp only[Xf,aah];exact aab _) N1 (bU [.b c0,.v W.tab,.c e1] (by kernel_rfl))
end
section
variable {p:Pl}{r:Nat}
theorem EB(d:Nat)(c:V)(ns:List Nm):∀(L:List (Nm×Nat)) (τ:TT) (σ:St),LW p L τ σ->Cr (2*ns.length+r) τ->∃(zs:List (Nm×Nat)) (L':List (Nm×Nat)) (ay:TT) (aq:St),Gt p EW L τ σ L' ay aq/\Cr r ay/\zs.map (λx=>x.1)=ns/\(∀z∈zs,az ay z.1 z.2)/\
  cB (λr s=>bR P (af P (d+6)) (ce 65 0) r s) (λr s=>il P (af P (d+6)) (cc 65 0) r s) [some (.loc p.wl),some c] (ns.map nV) σ=some (zs.map λz=>iV z.2,aq):=by
 induction ns with
 |nil=>intro L τ σ H hb;exact CQ [] L τ σ (.refl H) (hb.le (aaj ..)) rfl (aar _) rfl
 |cons x ns ih=>intro L τ σ H hb;refine(AI H d x (r:=2*ns.length+r) (hb.le (by simp only[aax];simp+arith))).el λt L1 fF bD g1 m1 c1 e1=> ?_;refine jI (ih L1 fF bD g1.1 c1) λzs L2 jG dx g2 c2 l2 n2 e2=> ?_;exact CQ ((x,t)::zs) L2 jG dx (g1.trans g2) c2 (congrArg _ l2) (aaX.mpr ⟨(g1.1.1.3.3 _ m1).mono g2.2,n2⟩) ((aQ (by kernel_rfl:il P (af P (d+6)) (cc 65 0) [some (.loc p.wl),some c,some (nV x)] σ=some (true,σ))).trans ((aQ (bU [.c e1] (by kernel_rfl))).trans (aQ e2)))
theorem sF{L:List (Nm×Nat)}{τ:TT}{σ:St}(H:LW p L τ σ)(d:Nat)(ns:List Nm)(hl:ns.length<=20)(hb:Cr (41+r) τ):Rg p L τ σ (Lt (aR (aC ns))) r (af P (d+7) 65 [.loc p.wl,cF ns] σ):=by
 have key:∀ms:List Nm,(∀x,x∈ms↔x∈ns)->ms.length=ns.length->(∀{vs s1 t s2},cB (λr s=>bR P (af P (d+6)) (ce 65 0) r s) (λr s=>il P (af P (d+6)) (cc 65 0) r s) [some (.loc p.wl),some (cF ns)] (ms.map nV) σ=some (vs,s1)->af P (d+6) 9 [.loc p.l,.bI vs] s1=some (iV t,s2)->some (decide ((ms.map nV).length<big))=some true->af P (d+7) 65 [.loc p.wl,cF ns] σ=some (iV t,s2))->Rg p L τ σ (Lt (aR (aC ns))) r (af P (d+7) 65 [.loc p.wl,cF ns] σ):=λms hm lm fin=>by
  refine jI (EB d (cF ns) ms L τ σ H (r:=1+r) (hb.le (by lia))) λzs L1 fF bD g1 c1 l1 n1 e1=> ?_;obtain lz:zs.length=ms.length:=l1▸(aae ..).symm;refine(ph g1.1.1.1 (d+3) (c:= .bI (zs.map λz=>iV z.2)) rfl n1 (by lia) c1).el λt jG dx p2 k2 c2 e2=> ?_;refine .mk (t:=t) (g1.trans (g1.1.Mt p2)) ?_ c2 (fin e1 e2 (gq (by rw[aae];lia)));rw[aR,aY,<-mG (xs:=aR (zs.map (λx=>x.1))) λb=> ?_]
  ·exact k2
  ·rw[l1];exact⟨λh=>ah (aal.mp h) λx hx e=>e▸aan ((hm x).mp hx),λh=>ah (aal.mp h) λx hx e=>e▸aan ((hm x).mpr hx)⟩
 obtain W:=H.1.2;obtain fz:=jA H.1.1.1;obtain w2:=W.turned;revert w2;cases p.tr
 ·intro w2;exact key ns (λab=>aeo) rfl λe1 e2 lb=>run [.v W.tab,.f fz,.v w2,.r,.b lb,.m e1,.r,.c e2,.r] (by kernel_rfl)
 ·intro w2;obtain sl:pI σ (cF ns) none none true=some (cF ns.reverse):=by
   show some (V.bI (ns.map nV).reverse)=some (V.bI (ns.reverse.map nV));rw[List.map_reverse]
  exact key ns.reverse (λab=>acY) aes λe1 e2 lb=>run [.v W.tab,.f fz,.v w2,.v sl,.r,.b lb,.m e1,.r,.c e2,.r] (by kernel_rfl)
end
def EC:Sd->Prop
 | .k l=>aC l=l/\ax l
 | .p l=>ax l/\∀z∈l,¬cu z
 | .v ab=>True
def gf:Br->Ab.Env->List Atom
 | .sd x,m=>aR (c9 m x)
 | .q c a y n s,m=>[.cond (c9 m c) (c9 m a) (gf y m) (gf n m) s]
def SV:Br->Prop
 | .sd x=>EC x
 | .q c a y n ab=>EC c/\J8 c/\EC a/\SV y/\SV n
abbrev I0:Ab.Env:=⟨[aT],[aU]⟩
def jh(free:Bool)(m:Ab.Env):Ab.Env:=if free then I0 else m
def tB(free:Bool)(m:Ab.Env):Ab.Env:=if free then m else I0
theorem sG{m:Ab.Env}(E:fk m){x:Sd}(h:EC x):aC (c9 m x)=c9 m x:=by
 match x,h with
 | .k l,h=>exact h.1
 | .p l,ab=>exact gF _
 | .v true,ab=>exact E.T
 | .v false,ab=>exact E.U
theorem fK{m:Ab.Env}(hT:ax m.T)(hU:ax m.U){x:Sd}(h:EC x):ax (c9 m x):=by
 match x,h with
 | .k l,h=>exact h.2
 | .p l,h=>exact dN λz hz=>(aaz.mp hz).elim (hT z) (h.1 z)
 | .v true,ab=>exact hT
 | .v false,ab=>exact hU
theorem HT(x:Nm):sub I0 x=[x]:=by
 unfold sub;split
 ·rename_i h;rw[h]
 ·split
  ·rename_i h;rw[h]
  ·rfl
theorem m8(l:List Nm):subs I0 l=aC l:=by
 simp only[subs,gm (g:=λx=>[x]) λx ab=>HT x];congr 1;induction l with
 |nil=>rfl
 |cons x l ih=>simp only[aaU,ih];rfl
theorem CB(m:Ab.Env):I0.then m=m:=by show Ab.Env.mk ([aT].flatMap (sub m)) ([aU].flatMap (sub m))=m;simp only[aaA,aaA];rfl
theorem Lh{m:Ab.Env}(E:fk m){x:Sd}(h:EC x):subs m (c9 I0 x)=c9 m x:=by
 match x,h with
 | .k l,h=>exact bF h.2 h.1
 | .v true,ab=>show subs m [aT]=m.T;simp only[subs,aaA];exact E.T
 | .v false,ab=>show subs m [aU]=m.U;simp only[subs,aaA];exact E.U
 | .p l,h=>
  show subs m (aC ([aT]++l))=aC (m.T++l);obtain e:([aT]++l).flatMap (sub m)=m.T++l:=by simp only[acO,aaA,cC h.1];rfl
  rw[<-m8,ue,CB,subs,e];rw[CB,e];refine aaI (E.T▸eN m.T) (λk=> ?_) λaw=>ah aw λz ab k=> ?_
  ·exact⟨0,λz hz t=>((aaz.mp hz).elim (λq=>k z q t) λq=>h.2 z q t).elim⟩
  ·exact⟨z,λy hy t=>(aaz.mp hy).elim (λq=>aag.mp (k▸q)) λq=>(h.2 y q t).elim⟩
theorem kP(free:Bool){m:Ab.Env}(E:fk m)(C:free=false->ax m.T/\ax m.U){x:Sd}(h:EC x):subs (tB free m) (c9 (jh free m) x)=c9 m x:=by
 cases free
 ·obtain⟨c1,c2⟩:=C rfl;exact bF (fK c1 c2 h) (sG E h)
 ·exact Lh E h
theorem CC(free:Bool){m:Ab.Env}(C:free=false->ax m.T/\ax m.U){c:Sd}(h:EC c)(np:J8 c)(one:Nm):
  jh free (nearF free c m one)=jh free m/\tB free (nearF free c m one)=near (c9 (jh free m) c) (tB free m) one/\(fk m->fk (nearF free c m one))/\(free=false->ax (nearF free c m one).T/\ax (nearF free c m one).U):=by
 cases free
 ·obtain⟨c1,c2⟩:=C rfl;exact⟨rfl,(dK (fK c1 c2 h) _ _).symm,id,λab=>⟨c1,c2⟩⟩
 ·match c,h,np with
  | .k l,h,ab=>exact⟨rfl,(dK h.2 _ _).symm,id,λq=>nomatch q⟩
  | .v true,ab,ai=>exact⟨rfl,rfl,λE=>⟨aO one,E.U⟩,λq=>nomatch q⟩
  | .v false,ab,ai=>exact⟨rfl,rfl,λE=>⟨E.T,aO one⟩,λq=>nomatch q⟩
theorem HU(m:Ab.Env)(l:List Nm):less (bC (aR l) m)=aR (subs m l):=by rw[jf];exact(aY _).symm
theorem fU(c a:List Nm)(y n:List Atom)(s:Bool)(m:Ab.Env):less (ev (.cond c a y n s) m)=ev (.cond c a y n s) m:=by
 rw[cO];split
 ·exact i5 dF
 ·split
  ·exact bG _
  ·exact kC (bG _) (bG _)
theorem vQ{free:Bool}{c a:Sd}{y n:Br}{s:Bool}(hc:EC c)(np:J8 c)(ha:EC a)
  (iy:∀m,fk m->(free=false->ax m.T/\ax m.U)->iN free y m=less (bC (gf y (jh free m)) (tB free m)))
  (jn:∀m,fk m->(free=false->ax m.T/\ax m.U)->iN free n m=less (bC (gf n (jh free m)) (tB free m)))
  {m:Ab.Env} (E:fk m) (C:free=false->ax m.T/\ax m.U) (he:c9 m c≠[aL]):(c9 m c).flatMap (lA free c a y n s m)=(c9 m c).flatMap (part (c9 (jh free m) c) (c9 (jh free m) a) (gf y (jh free m)) (gf n (jh free m)) s (tB free m)):=by
 refine gm λone ho=> ?_;refine A4 (CC free C hc np one) λk1 k2 k3 k4=> ?_;obtain ne:one≠aL:=λe=>he (by rw[<-kP free E C hc]at ho⊢;exact ou (e▸ho))
 rw[lA,if_neg ne,iy _ (k3 E) k4,jn _ (k3 E) k4,k1,k2];congr 1;exact k2▸k1▸(kP free (k3 E) k4 ha).symm
theorem gM(free:Bool):∀(b:Br),SV b->∀m,fk m->(free=false->ax m.T/\ax m.U)->iN free b m=less (bC (gf b (jh free m)) (tB free m))
 | .sd x,h,m,E,C=>by show aR (c9 m x)=less (bC (aR (c9 (jh free m) x)) _);simp only[HU,kP free E C h]
 | .q c a y n s,⟨hc,np,ha,hy,hn⟩,m,E,C=>by
  rw[Hc,gf,kE,fU,cO,kP free E C hc,kP free E C ha];by_cases he:c9 m c=[aL]
  ·rw[if_pos he,if_pos he]
  ·rw[if_neg he,if_neg he,gM free y hy m E C,gM free n hn m E C,vQ hc np ha (gM free y hy) (gM free n hn) E C he]
section
variable {t u t' u':Nat}{m:Ab.Env}
theorem gX(p:Nat):1<=max 1 p:=aaW _ _
theorem HV{p q:Nat}:p<=max 1 (max p q):=aM (aaW _ _)
theorem HW{p q:Nat}:q<=max 1 (max p q):=aM (abi _ _)
theorem HX(ht:1<=t)(hu:1<=u):∀A:Atom,1<=FF t u A:=by
 intro v_;cases v_ with
 |n x=>
  simp only[FF];split
  ·exact ht
  ·split
   ·exact hu
   ·exact aab _
 |cond c a y n s=>
  obtain k:∀(p q:Nat),1<=(if s then max 1 p else 1)*max 1 q:=λp q=>by
   refine aaa (gX q) (aaE _ ?_);split
   ·exact gX p
   ·exact aab _
  simp only[FF];split
  ·split
   ·exact bp (aaa (gX _) (aaE _ ht))
   ·exact bp (gX _)
  ·split
   ·split
    ·exact bp (aaa (gX _) (aaE _ hu))
    ·exact bp (gX _)
   ·split
    ·exact gX _
    ·exact k _ _
theorem iO(ht:1<=t)(hu:1<=u):∀l:List Atom,l.length<=sm (FF t u) l:=by
 intro v_;induction v_ with
 |nil=>exact aab _
 |cons a l ih=>rw[aax,abf];exact aaw (HX ht hu a) (ih)
variable {c a:List Nm}{y n:List Atom}{s:Bool}
structure Xg(t u t' u':Nat)(c a:List Nm)(y n:List Atom)(s:Bool)(m:Ab.Env)(Z:Nat):Prop where
 sp:(s &&(subs m c).length !=1)=true->ax (subs m c)/\∃t1 u1,(1<=t1/\t1<=t)/\(1<=u1/\u1<=u)/\(∀one∈subs m c,iM aT (near c m one).T t1 t'/\iM aU (near c m one).U u1 u')/\(subs m c).length*max 1 (max (fv t1 u1 y) (fv t1 u1 n))<=Z
 ns:(s &&(subs m c).length !=1)=false->∃t1 u1 t2 u2,(1<=t1/\t1<=t)/\(1<=u1/\u1<=u)/\1<=t2/\1<=u2/\iM aT m.T t1 t2/\iM aU m.U u1 u2/\fv t1 u1 y<=Z/\fv t1 u1 n<=Z/\(subs m c=[20]->fv t1 u1 y+fv t1 u1 n<=Z)
theorem Mz(F:IG c)(ht:1<=t)(hu:1<=u)(pQ:1<=t')(o3:1<=u')(hT:iM aT m.T t t')(hU:iM aU m.U u u'):Xg t u t' u' c a y n s m (FF t u (.cond c a y n s)):=by
 obtain⟨zR,hF⟩:=F;rcases hF with hc |hc |hc
 ·rw[kH hc];have e:=bF (m:=m) hc zR;constructor
  ·rw[e];intro hs;have qb:s=true:=by cases s;cases hs;rfl
   obtain hl:c.length≠1:=by subst qb;simpa using hs
   refine⟨hc,t,u,⟨ht,aab _⟩,⟨hu,aab _⟩,λone ab=>by rw[dK hc];exact⟨hT,hU⟩,?_⟩;rw[if_neg (λe=>hl (congrArg _ e)),qb];exact abo _ (abi _ _)
  ·rw[e];intro dJ;refine⟨t,u,t',u',⟨ht,aab _⟩,⟨hu,aab _⟩,pQ,o3,hT,hU,?_⟩;by_cases ea:c=[gI]
   ·rw[if_pos ea];exact⟨aM (aao _ _),aM (aaj _ _),λab=>abi _ _⟩
   ·rw[if_neg ea];obtain k:∀q,q<=(if s=true then max 1 c.length else 1)*q:=λq=>aaE _ (by split;exact gX _;exact aab _);exact⟨aaa HV (k _),aaa HW (k _),λq=>absurd q ea⟩
 ·subst hc;obtain e:=vn m hT;constructor
  ·rw[e];intro hs;have qb:s=true:=by cases s;cases hs;rfl
   obtain hl:m.T.length≠1:=by subst qb;simpa using hs
   refine aaI hT (λaZ=>A2 aZ λk ab=> ?_) λaw=>A3 aw λk1 k2 k3=> ?_
   ·rw[k]at hl;exact absurd rfl hl
   ·rw[qb];exact⟨k1,1,u,⟨aab _,ht⟩,⟨hu,aab _⟩,λone ho=>⟨.inr ⟨bX k1 ho,aab _,aO _⟩,hU⟩,bp (abo _ k2)⟩
  ·rw[e];intro hs;by_cases hl:m.T.length=1
   ·obtain q:∃t2,1<=t2/\iM aT m.T 1 t2:=hT.elim (λk=>⟨1,aab _,.inl ⟨k.1,rfl⟩⟩) λk=>⟨t',pQ,.inr ⟨k.1,by rw[hl];exact aab _,k.2.2⟩⟩;refine ah q λt2 q1 q2=> ?_;exact⟨1,u,t2,u',⟨aab _,ht⟩,⟨hu,aab _⟩,q1,o3,q2,hU,by
     cases s
     ·exact⟨aM (aao _ _),aM (aaj _ _),λab=>aM (aab _)⟩
     ·exact⟨aM (aao _ _),aM (aaj _ _),λab=>aM (aab _)⟩⟩
   ·obtain qb:s=false:=by cases s;rfl;exact absurd (by simpa using hs) hl
    rw[qb];exact⟨t,u,t',u',⟨ht,aab _⟩,⟨hu,aab _⟩,pQ,o3,hT,hU,bp HV,bp HW,λq=>absurd (congrArg _ q) hl⟩
 ·subst hc;obtain e:=vo m hU;constructor
  ·rw[e];intro hs;have qb:s=true:=by cases s;cases hs;rfl
   obtain hl:m.U.length≠1:=by subst qb;simpa using hs
   refine aaI hU (λaZ=>A2 aZ λk ab=> ?_) λaw=>A3 aw λk1 k2 k3=> ?_
   ·rw[k]at hl;exact absurd rfl hl
   ·rw[qb];exact⟨k1,t,1,⟨ht,aab _⟩,⟨aab _,hu⟩,λone ho=>⟨hT,.inr ⟨bX k1 ho,aab _,aO _⟩⟩,bp (abo _ k2)⟩
  ·rw[e];intro hs;by_cases hl:m.U.length=1
   ·obtain q:∃t2,1<=t2/\iM aU m.U 1 t2:=hU.elim (λk=>⟨1,aab _,.inl ⟨k.1,rfl⟩⟩) λk=>⟨u',o3,.inr ⟨k.1,by rw[hl];exact aab _,k.2.2⟩⟩;refine ah q λt2 q1 q2=> ?_;exact⟨t,1,t',t2,⟨ht,aab _⟩,⟨aab _,hu⟩,pQ,q1,hT,q2,by
     cases s
     ·exact⟨aM (aao _ _),aM (aaj _ _),λab=>aM (aab _)⟩
     ·exact⟨aM (aao _ _),aM (aaj _ _),λab=>aM (aab _)⟩⟩
   ·obtain qb:s=false:=by cases s;rfl;exact absurd (by simpa using hs) hl
    rw[qb];exact⟨t,u,t',u',⟨ht,aab _⟩,⟨hu,aab _⟩,pQ,o3,hT,hU,bp HV,bp HW,λq=>absurd (congrArg _ q) hl⟩
theorem sH{Z:Nat}(I:Xg t u t' u' c a y n s m Z)(Fy:zQ y)(Fn:zQ n)(hs:(s &&(subs m c).length !=1)=true):sm (FF t' u') ((subs m c).flatMap (part c a y n s m))<=Z:=by
 obtain⟨hc,t1,u1,h1,h2,h3,h4⟩:=I.sp hs;obtain hl:(subs m c).length≠1:=by intro q;rw[q]at hs;cases s<;>cases hs
 refine GO hc (eM m c) hl λone ho ab=>aaa (abt _ ?_) h4;refine A2 (h3 one ho) λp1 p2=> ?_;exact mx (aab _) (mx (o8 y Fy h1.1 h2.1 p1 p2) (o8 n Fn h1.1 h2.1 p1 p2))
mutual
theorem yw:∀(A:Atom) {t u t' u':Nat} {m:Ab.Env} {N:Nat},Fm A->1<=t->1<=u->1<=t'->1<=u'->iM aT m.T t t'->iM aU m.U u u'->FF t u A<=N->N<=61->LP A m N
 | .n x,ab,ai,aD,bO,fc,ny,wj,IE,Qt,F5,OO,OP,OQ,RH,Vc=>trivial
 | .cond c a y n s,t,u,t',u',m,N,F,ht,hu,pQ,o3,hT,hU,hN,Et=>by
  refine A4 F λFc ab Fy Fn=> ?_;obtain I:=Mz (a:=a) (y:=y) (n:=n) (s:=s) Fc ht hu pQ o3 hT hU;refine⟨aaa (HX ht hu _) hN,Et,λhs=>⟨aaa (iO pQ o3 _) (aaa (sH I Fy Fn hs) hN),λone ho=> ?_⟩,λhs=> ?_⟩
  ·obtain⟨_,t1,u1,h1,h2,h3,h4⟩:=I.sp hs;refine A2 (h3 one ho) λp1 p2=> ?_;obtain h5:max 1 (max (fv t1 u1 y) (fv t1 u1 n))<=61:=aaa (aaa (aaE _ (List.length_pos_of_mem ho)) h4) (aaa hN Et);exact⟨vR y Fy h1.1 h2.1 pQ o3 p1 p2 (aaa HV h5) (aab _),vR n Fn h1.1 h2.1 pQ o3 p1 p2 (aaa HW h5) (aab _)⟩
  ·obtain⟨t1,u1,t2,u2,h1,h2,h3,h4,h5,h6,h7,h8,h9⟩:=I.ns hs;exact⟨fv t1 u1 y,fv t1 u1 n,vR y Fy h1.1 h2.1 h3 h4 h5 h6 (aab _) (aaa h7 (aaa hN Et)),vR n Fn h1.1 h2.1 h3 h4 h5 h6 (aab _) (aaa h8 (aaa hN Et)),aaa h7 hN,aaa h8 hN,λq=>aaa (h9 q) hN⟩
theorem vR:∀(l:List Atom) {t u t' u':Nat} {m:Ab.Env} {N:Nat},zQ l->1<=t->1<=u->1<=t'->1<=u'->iM aT m.T t t'->iM aU m.U u u'->fv t u l<=N->N<=61->IP l m N
 |[],ab,ai,aD,bO,fc,ny,wj,IE,Qt,F5,OO,OP,OQ,RH,Et=>Et
 |a::r,t,u,t',u',m,N,F,ht,hu,pQ,o3,hT,hU,hN,Et=>by exact⟨Et,(aaa (iO pQ o3 _) (aaa (o8 (a::r) F ht hu hT hU) hN)),aaa (aaa (fy t u (a::r)▸iO ht hu (a::r)) hN) Et,yw a F.1 ht hu pQ o3 hT hU (aaa (aao _ _) hN) Et,HY r F.2 ht hu pQ o3 hT hU (aaa (aaa (aaj _ _) hN) Et)⟩
theorem HY:∀(l:List Atom) {t u t' u':Nat} {m:Ab.Env},zQ l->1<=t->1<=u->1<=t'->1<=u'->iM aT m.T t t'->iM aU m.U u u'->fv t u l<=61->RG l m
 |[],ab,ai,aD,bO,fc,ny,wj,IE,Qt,F5,OO,OP,OQ=>trivial
 |a::r,t,u,t',u',m,F,ht,hu,pQ,o3,hT,hU,hN=>by exact⟨yw a F.1 ht hu pQ o3 hT hU (aaa (aao _ _) hN) (aab _),HY r F.2 ht hu pQ o3 hT hU (aaa (aaj _ _) hN)⟩
end
end
theorem low_ne{x:Nm}(h:x.val<20):x≠aT/\x≠aU/\¬cu x:=by
 refine⟨λe=>by rw[e]at h;exact absurd h (by decide),λe=>by rw[e]at h;exact absurd h (by decide),?_⟩
 rintro (e |e |e)<;>rw[e]at h<;>exact absurd h (by decide)
theorem KindsOk.closed{n:Nat}{l:List Nm}(h:KindsOk n l):ax l:=λx hx=>⟨(low_ne (h.low x hx)).1,(low_ne (h.low x hx)).2.1⟩
theorem KindsOk.no{n:Nat}{l:List Nm}(h:KindsOk n l):∀z∈l,¬cu z:=λx hx=>(low_ne (h.low x hx)).2.2
theorem l9{x:Sd}(h:fB x):EC x:=by
 revert h;cases x with
 |k l=>intro h;exact⟨KindsOk.gT h,KindsOk.closed h⟩
 |p l=>intro h;exact⟨KindsOk.closed h,KindsOk.no h⟩
 |v ab=>intro dJ;trivial
theorem m9{x:Sd}(h:mP x):EC x/\J8 x:=by
 match x,h with
 | .k l,h=>exact⟨⟨KindsOk.gT h,KindsOk.closed h⟩,trivial⟩
 | .v ab,ai=>exact⟨trivial,trivial⟩
theorem yx{x:Sd}(h:jZ x):EC x:=by
 match x,h with
 | .k l,.inl h=>exact⟨h.gT,h.closed⟩
 | .k _,.inr (.inl rfl)=>exact⟨aO _,λx hx=>by rw[aag.mp hx];decide⟩
 | .k _,.inr (.inr rfl)=>exact⟨aO _,λx hx=>by rw[aag.mp hx];decide⟩
 | .p l,h=>exact⟨KindsOk.closed h,KindsOk.no h⟩
 | .v ab,ai=>trivial
theorem tC:∀{g:Nat} {b:Br},da g b->SV b
 |0,.sd ab,h=>l9 h
 |ab+1,.sd ai,h=>l9 h
 |0,.q ..,h=>h.elim
 |ab+1,.q ..,h=>⟨(m9 h.1).1,(m9 h.1).2,yx h.2.1,tC h.2.2.1,tC h.2.2.2⟩
theorem iP{x:Nm}{l:List Nm}(h:iM x l 3 3)(hx:x=aT\/x=aU):wN l<=3:=by
 refine aaI h (λaZ=>A2 aZ λk ab=> ?_) λaw=>A3 aw λk1 k2 ab=> ?_
 ·rw[k];rcases hx with e |e<;>rw[e]<;>decide
 ·rw[g8 k1];exact k2
theorem OT(l l':List Nm):wN (l++l')=wN l+wN l':=by show sm Ab.wA ((l++l').map .n)=_;rw[aaG,ow]
theorem kQ{m:Ab.Env}(S:lu m){x:Sd}(h:fB x\/jZ x):wN (c9 m x)<=5:=by
 obtain kk:∀{l:List Nm},KindsOk 2 l->wN l<=2:=λh=>by rw[g8 h.closed];exact h.len
 obtain pp:∀{l:List Nm},KindsOk 2 l->wN (aC (m.T++l))<=5:=λ{l} h=>by refine aaa (xM _) ?_;rw[OT];exact aaw (iP S.T (.inl rfl)) (kk h)
 match x,h with
 | .k l,.inl h=>exact aaa (kk h) (by decide)
 | .k l,.inr (.inl h)=>exact aaa (kk h) (by decide)
 | .k _,.inr (.inr (.inl rfl))=>show wN [20]<=5;decide
 | .k _,.inr (.inr (.inr rfl))=>show wN [21]<=5;decide
 | .p l,.inl h=>exact pp h
 | .p l,.inr h=>exact pp h
 | .v true,ab=>exact aaa (iP S.T (.inl rfl)) (by decide)
 | .v false,ab=>exact aaa (iP S.U (.inr rfl)) (by decide)
theorem ji{x:Sd}(h:mP x):fB x:=by
 match x,h with
 | .k l,h=>exact h
 | .v ab,ai=>trivial
theorem qm{l:List Nm}(h:aC l=l):oh txt (aR l):=by rw[<-h,show aR (aC l)=less (aR l)from aY l];exact eH _
theorem HZ{m:Ab.Env}(E:fk m)(S:lu m){c:Sd}(h:mP c):IG (c9 m c):=by
 refine⟨sG E (m9 h).1,?_⟩
 match c,h with
 | .k l,h=>exact .inl (KindsOk.closed h)
 | .v true,ab=>exact S.T.elim (λk=> .inr (.inl k.1)) λk=> .inl k.1
 | .v false,ab=>exact S.U.elim (λk=> .inr (.inr k.1)) λk=> .inl k.1
theorem sI{t0:Nm}{m:Ab.Env}(T:TopE t0 m){x:Sd}(h:fB x){z:Nm}(hz:cu z)(hm:z∈c9 m x):z=t0:=by
 match x,h with
 | .k l,h=>exact absurd hz (KindsOk.no h z hm)
 | .p l,h=>exact(aaz.mp (ot hz hm)).elim (λq=>T z hz (.inl q)) λq=>absurd hz (KindsOk.no h z q)
 | .v true,ab=>exact T z hz (.inl hm)
 | .v false,ab=>exact T z hz (.inr hm)
theorem Li{t0:Nm}{m:Ab.Env}(T:TopE t0 m){x:Sd}(h:jZ x)(hm:aL∈c9 m x):t0=aL:=by
 match x,h with
 | .k l,.inl h=>exact absurd dF (h.no _ hm)
 | .k _,.inr (.inl rfl)=>exact absurd (aag.mp hm) (by decide)
 | .k _,.inr (.inr rfl)=>exact absurd (aag.mp hm) (by decide)
 | .p l,h=>exact(sI T (x:= .p l) h dF hm).symm
 | .v true,ab=>exact(T _ dF (.inl hm)).symm
 | .v false,ab=>exact(T _ dF (.inr hm)).symm
theorem Lj{t0 x:Nm}(h:cu x->x=t0):AG t0 (.n x):=⟨trivial,h,trivial,trivial,trivial⟩
theorem CD{t0:Nm}{m:Ab.Env}(E:EG t0 m):∀{g:Nat} {b:Br},da g b->(∀A∈gf b m,AG t0 A)/\oh txt (gf b m):=by
 have sd:∀{x:Sd},fB x->(∀A∈aR (c9 m x),AG t0 A)/\oh txt (aR (c9 m x)):=λ{x} h=>⟨λA hA=>by refine ah (aal.mp hA) λz hz e=> ?_;subst e;exact Lj λq=>sI E.top h q hz,qm (sG E.gT (l9 h))⟩
 intro g b;induction g generalizing b with
 |zero=>cases b with
  |sd x=>exact sd
  |q c a y n s=>exactλh=>h.elim
 |succ g ih=>cases b with
  |sd x=>exact sd
  |q c a y n s=>intro h;refine A4 h λhc ha hy hn=> ?_;refine A2 (ih hy) λy1 y2=> ?_;obtain⟨n1,n2⟩:=ih hn;refine⟨λA hA=> ?_,aaB _ _⟩;simp only[aag.mp hA];obtain F:=HZ E.gT E.sm hc;obtain ca:=sG E.gT (yx ha);exact⟨⟨F,ca▸eN _,gC.mpr λb hb=>(y1 b hb).fm,gC.mpr λb hb=>(n1 b hb).fm⟩,⟨λq=>q.elim (λq=>(sI E.top (ji hc) dF q).symm) (Li E.top ha),dB.mpr λb hb=>(y1 b hb).ok,dB.mpr λb hb=>(n1 b hb).ok⟩,⟨qm F.1,qm ca,y2,n2,dC.mpr λb hb=>(y1 b hb).cn,dC.mpr λb hb=>(n1 b hb).cn⟩,⟨aaa (kQ E.sm (.inl (ji hc))) (by decide),aaa (kQ E.sm (.inr ha)) (by decide),gB.mpr λb hb=>(y1 b hb).ls,gB.mpr λb hb=>(n1 b hb).ls⟩,⟨ca,kN.mpr λb hb=>(y1 b hb).ca,kN.mpr λb hb=>(n1 b hb).ca⟩⟩
noncomputable def Wb:Nat->Nat
 |0=>50
 |g+1=>3*(200+Wb g+Wb g)
theorem RI:∀g,50<=Wb g
 |0=>aab _
 |g+1=>aaa (show 50<=3*200 by decide) (abt 3 (aaa (aao _ _) (aao _ _)))
theorem Lk(l:List Nm):eU (aR l)<=10*wN l:=by
 induction l with
 |nil=>exact aab _
 |cons x l ih=>obtain e:wN (x::l)=wn x+wN l:=rfl;simp only[e,Nat.mul_add];refine aaw ?_ ih;simp only[Wt,wn];split<;>exact aab _
theorem yz(l:List Nm):m7 (aR l)=0:=by
 induction l with
 |nil=>rfl
 |cons x l ih=>show max (ht (.n x)) (m7 (aR l))=0;rw[ih];rfl
theorem RJ(c:List Nm)(h:wN c<=3):kc c<=3:=by
 unfold kc;split
 ·exact aab _
 ·exact abb.mpr ⟨by decide,aaa (dZ c) h⟩
theorem vS{m:Ab.Env}(S:lu m){x:Sd}(h:mP x):wN (c9 m x)<=3:=by
 match x,h with
 | .k l,h=>exact aaa (by simp only[show c9 m (.k l)=l from rfl,g8 (KindsOk.closed h)];exact KindsOk.len h) (by decide)
 | .v true,ab=>exact iP S.T (.inl rfl)
 | .v false,ab=>exact iP S.U (.inr rfl)
theorem RK{m:Ab.Env}(S:lu m):∀{g:Nat} {b:Br},da g b->eU (gf b m)<=Wb g/\m7 (gf b m)<=g:=by
 have sd:∀{g:Nat} {x:Sd},fB x->eU (aR (c9 m x))<=Wb g/\m7 (aR (c9 m x))<=g:=λ{g x} h=>⟨aaa (Lk _) (aaa (abt 10 (kQ S (.inl h))) (RI g)),aaa (abD (yz _)) (aaS _)⟩;intro g b;induction g generalizing b with
 |zero=>cases b with
  |sd x=>exact sd
  |q c a y n s=>exactλh=>h.elim
 |succ g ih=>cases b with
  |sd x=>exact sd
  |q c a y n s=>
   intro h;refine A4 h λhc ha hy hn=> ?_;refine A2 (ih hy) λy1 y2=> ?_;refine A2 (ih hn) λn1 n2=> ?_;refine⟨?_,?_⟩
   ·simp only[gf,eU,eU,acL,Wt];exact acr (RJ _ (vS S hc)) (aaw (aav y1 _) n1)
   ·simp only[gf,m7,m7,ht];exact abb.mpr ⟨by rw[abf];exact aat (abb.mpr ⟨y2,n2⟩) 1,aaS _⟩
noncomputable def B:Nat->Nat->Nat->Nat
 |0,t,u=>max (t+2) u
 |g+1,t,u=>max (max (t*B g 1 u) (2*B g 1 u)) (max (max (u*B g t 1) (2*B g t 1)) (2*B g t u))
theorem H0:∀g t u,max (t+2) u<=B g t u:=by
 intro v_;induction v_ with
 |zero=>intro dJ dJ;exact aab _
 |succ g ih=>intro t u;exact aM (aM (aaa (ih t u) (aaE _ (aaq rfl))))
theorem yA(g t u:Nat):1<=B g t u:=aaa (bp (aaj 1 (t+1))) (H0 g t u)
theorem dbl{p q r:Nat}(h:p<=r)(k:q<=r):p+q<=2*r:=by rw[Nat.two_mul];exact aaw h k
theorem yB{t u k:Nat}{l:List Nm}(h:KindsOk k l):sm (FF t u) (aR l)<=k:=by rw[mL h.closed];exact h.len
theorem H7{t u:Nat}{x:Sd}(h:fB x):fv t u (aR (c9 I0 x))<=max (t+2) u:=by
 rw[fy]
 match x,h with
 | .k l,h=>exact bp (aaa (yB h) (aaj _ _))
 | .v true,ab=>exact bp (show FF t u (.n aT)+0<=t+2 by exact aao _ _)
 | .v false,ab=>exact aM (show FF t u (.n aU)+0<=u by exact aab _)
 | .p l,h=>refine bp ?_;show sm (FF t u) (aR (aC ([aT]++l)))<=t+2;rw[show aR (aC ([aT]++l))=less (aR ([aT]++l))from aY _];refine aaa (dP _) ?_;exact aaw (aab _) (yB h)
theorem RL{p q r:Nat}(h:p<=r)(k:q<=r)(o:1<=r):max 1 (max p q)<=r:=abb.mpr ⟨o,abb.mpr ⟨h,k⟩⟩
theorem yC{t u r:Nat}{c a:List Nm}{y n:List Atom}{s:Bool}(hc:ax c)(hl:c.length<=2)(h:fv t u y<=r)(k:fv t u n<=r)(o:1<=r):FF t u (.cond c a y n s)<=2*r:=by
 rw[kH hc];split
 ·exact abb.mpr ⟨aaa o (aaE _ (aaq rfl)),dbl h k⟩
 ·refine acr ?_ (RL h k o);split
  ·exact abb.mpr ⟨by decide,hl⟩
  ·decide
theorem RM:∀{g:Nat} {b:Br},da g b->∀t u,fv t u (gf b I0)<=B g t u:=by
 intro g b;induction g generalizing b with
 |zero=>cases b with
  |sd x=>exactλh t u=>H7 h
  |q c a y n s=>exactλh=>h.elim
 |succ g ih=>cases b with
  |sd x=>exactλh t u=>aaa (H7 h) (H0 _ t u)
  |q c a y n s=>
   intro h t u;obtain⟨hc,_,hy,hn⟩:=h;obtain iy:=ih hy;obtain jn:=ih hn;obtain two:∀t u,2*B g t u≥B g t u:=λt u=>aaE _ (aaq rfl);simp only[gf,fv,fv,acL]
   match c,hc with
   | .k l,hc=>exact aM (aM (yC (KindsOk.closed hc) (KindsOk.len hc) (iy t u) (jn t u) (yA g t u)))
   | .v true,ab=>
    cases s
    ·exact abb.mpr ⟨aM (aM (aaa (RL (iy t u) (jn t u) (yA g t u)) (two t u))),bp (aM (dbl (iy 1 u) (jn 1 u)))⟩
    ·exact abb.mpr ⟨bp (bp (abt t (RL (iy 1 u) (jn 1 u) (yA g 1 u)))),bp (aM (dbl (iy 1 u) (jn 1 u)))⟩
   | .v false,ab=>
    cases s
    ·exact abb.mpr ⟨aM (aM (aaa (RL (iy t u) (jn t u) (yA g t u)) (two t u))),aM (bp (aM (dbl (iy t 1) (jn t 1))))⟩
    ·exact abb.mpr ⟨aM (bp (bp (abt u (RL (iy t 1) (jn t 1) (yA g t 1))))),aM (bp (aM (dbl (iy t 1) (jn t 1))))⟩
theorem RN{m:Ab.Env}(hT:ax m.T)(hU:ax m.U)(lT:m.T.length<=1)(lU:m.U.length<=2):∀{g:Nat} {b:Br},da g b->∀t u,fv t u (gf b m)<=2^g*3:=by
 have sd:∀{x:Sd},fB x->∀t u,fv t u (aR (c9 m x))<=3:=λ{x} h t u=>by
  rw[fy,mL (fK hT hU (l9 h))]
  match x,h with
  | .k l,h=>exact aaa (KindsOk.len h) (by decide)
  | .v true,ab=>exact aaa lT (by decide)
  | .v false,ab=>exact aaa lU (by decide)
  | .p l,h=>refine aaa (gZ _) ?_;rw[aah];exact aaw lT (KindsOk.len h)
 obtain one:∀g,1<=2^g*3:=λg=>aaa (by decide) (aaE 3 (aeS g));intro g b;induction g generalizing b with
 |zero=>cases b with
  |sd x=>exactλh=>sd h
  |q c a y n s=>exactλh=>h.elim
 |succ g ih=>cases b with
  |sd x=>exactλh t u=>aaa (sd h t u) (aaE 3 (aeS _))
  |q c a y n s=>
   intro h t u;obtain⟨hc,_,hy,hn⟩:=h;simp only[gf,fv,fv,acL,Nat.pow_succ,Nat.mul_comm (2^g) 2,Nat.mul_assoc];refine yC (fK hT hU (m9 hc).1) ?_ (ih hy t u) (ih hn t u) (one g)
   match c,hc with
   | .k l,h=>exact KindsOk.len h
   | .v true,ab=>exact aaa lT (by decide)
   | .v false,ab=>exact lU
mutual
theorem MA:∀A:Atom,Ls A->(txt A).length+1<=Wt A
 | .n x,ab=>by
  obtain h:=G6 x;obtain this:10<=Wt (.n x):=by simp only[Wt];split<;>decide
  exact aaa (aat h 1) this
 | .cond c a y n s,L=>by
  refine A4 L λl1 l2 l3 l4=> ?_;have h1:=aaa (fH (aR c)) (aat (xR c) 5);have h2:=aaa (fH (aR a)) (aat (xR a) 5);obtain h3:=fH y;obtain h4:=fH n;have k1:=aaa (dZ c) l1;obtain k2:=aaa (dZ a) l2;obtain h5:=oS y l3;obtain h6:=oS n l4;obtain e:txt (.cond c a y n s)=((([91]++jn c a y n)++[59])++[if s then 49 else 48])++[93]:=(rM c a y n s).symm;obtain ej:(jn c a y n).length=(bj ((aR c).map txt)).length+1+((bj ((aR a).map txt)).length+1+((bj (y.map txt)).length+1+(bj (n.map txt)).length)):=by show(bj ((aR c).map txt)++[59]++(bj ((aR a).map txt)++[59]++(bj (y.map txt)++[59]++bj (n.map txt)))).length=_;simp only[aah,abv]
  refine aaa ?_ (aaE _ (jX c));rw[e];simp only[aah,abv,ej];lia
theorem oS:∀l:List Atom,Mj l->tw l<=eU l
 |[],ab=>aab _
 |a::r,h=>by exact aaw (MA a h.1) (oS r h.2)
end
structure FE(free:Bool)(E0 m:Ab.Env)(t u:Nat):Prop where
 laid:jh free m=E0
 gT:fk m
 cl:free=false->ax m.T/\ax m.U
 sm:lu m
 bt:1<=t/\t<=3
 bu:1<=u/\u<=2
 put:∃t' u',1<=t'/\1<=u'/\iM aT (tB free m).T t t'/\iM aU (tB free m).U u u'
theorem pB:lu I0:=⟨.inl ⟨rfl,rfl⟩,.inl ⟨rfl,rfl⟩⟩
theorem FE.sp{free:Bool}{E0 m:Ab.Env}{t u:Nat}(F:FE free E0 m t u):lu (tB free m):=by
 cases free
 ·exact pB
 ·exact F.sm
theorem pC{m:Ab.Env}(S:lu m){x:Sd}(h:fB x\/jZ x):zU m x:=by
 obtain k:∀{l:List Nm},KindsOk 2 l->(m.T++l).length<=61:=λh=>by exact aah▸aaa (aaw (aaa (dZ _) (iP S.T (.inl rfl))) h.len) (aaq rfl)
 match x,h with
 | .k ab,ai=>trivial
 | .v ab,ai=>trivial
 | .p l,.inl h=>exact k h
 | .p l,.inr h=>exact k h
theorem H8{g:Nat}(hg:g<=2){b:Br}(h:da g b):da 2 b:=by obtain this:=h.le (2 -g);rw[Nat.add_sub_of_le hg]at this;exact this
section
variable {free:Bool}{E0:Ab.Env}{t0:Nm}(G:EG t0 E0)(hB:∀b,da 2 b->∀t u,t<=3->u<=2->fv t u (gf b E0)<=20)
include G hB
theorem H9{m:Ab.Env}{t u:Nat}(F:FE free E0 m t u){b:Br}(hb:da 2 b):(iN free b m).length<=20/\tw (iN free b m)<=100000:=by
 obtain e:=gM free b (tC hb) m F.gT F.cl;rw[F.laid]at e;rw[e];refine b8 F.put λt' u' h1 h2 h3 h4=> ?_;obtain⟨ag,_⟩:=CD G hb;obtain fm:=gC.mpr λb hb=>(ag b hb).fm;constructor
 ·exact aaa (iO h1 h2 _) (aaa (dP _) (aaa (o8 _ fm F.bt.1 F.bu.1 h3 h4) (hB b hb t u F.bt.2 F.bu.2)))
 ·refine aaa (oS _ (gB.mpr (mM (vt _ fm (gB.mpr λb hb=>(ag b hb).ls) F.sp)))) ?_;rw[lQ];exact aaa (qd _) (aaa (BR _ fm F.sp) (aaa (RK G.sm hb).1 (aaq rfl)))
theorem fits_of{m:Ab.Env}{t u:Nat}(F:FE free E0 m t u){held:List Nm}(hh:held.length<64){a:Sd}(ha:jZ a){y n:Br}(hy:da 2 y)(hn:da 2 n):Fits held (c9 m a) (iN free y m) (iN free n m):=by refine A2 (H9 G hB F hy) λy1 y2=> ?_;refine A2 (H9 G hB F hn) λn1 n2=> ?_;exact⟨hh,aai (aaa (dZ _) (kQ F.sm (.inr ha))) (aaq rfl),aaa (aaw y1 n1) (aaq rfl),y2,n2⟩
theorem Ia:∀{g:Nat} {b:Br},g<=3->da g b->∀{m:Ab.Env} {t u:Nat},FE free E0 m t u->fv t u (gf b E0)<=61->zV free b m:=by
 intro g b;induction g generalizing b with
 |zero=>cases b with
  |sd x=>exactλab h ai aD bO F fc=>pC F.sm (.inl h)
  |q c a y n s=>exactλab h=>h.elim
 |succ g ih=>cases b with
  |sd x=>exactλab h ai aD bO F fc=>pC F.sm (.inl h)
  |q c a y n s=>
   intro hg h m t u F hF;refine A4 h λhc ha hy hn=> ?_;have y2:=H8 (acv hg) hy;have n2:=H8 (acv hg) hn;refine A2 (m9 hc) λcc np=> ?_;have iy:∀{m t u},FE free E0 m t u->zV free y m:=λ{m t u} F=>ih (aeM hg) hy F (aaa (hB y y2 t u F.bt.2 F.bu.2) (by decide));have jn:∀{m t u},FE free E0 m t u->zV free n m:=λ{m t u} F=>ih (aeM hg) hn F (aaa (hB n n2 t u F.bt.2 F.bu.2) (by decide));refine b8 F.put λt' u' h1 h2 h3 h4=> ?_;have e:=kP free F.gT F.cl cc;rw[F.laid]at e;have I:=Mz (a:=c9 E0 a) (y:=gf y E0) (n:=gf n E0) (s:=s) (HZ G.gT G.sm hc) F.bt.1 F.bu.1 h1 h2 h3 h4;have hl:=aaa (dZ _) (vS F.sm hc);refine⟨np,aai hl (by decide),λhs=> ?_,λhs ab=> ?_⟩
   ·have tO:=hs;rw[<-e]at tO;obtain⟨cl,t1,u1,q1,q2,q3,_⟩:=I.sp tO;obtain sZ:c9 m c≠[aL]:=λq=>by rw[q]at hs;cases s<;>cases hs
    constructor
    ·rw[vQ cc np (yx ha) (gM free y (tC hy)) (gM free n (tC hn)) F.gT F.cl sZ,F.laid,<-e];exact aaa (iO h1 h2 _) (aaa (sH I (gC.mpr λb hb=>((CD G hy).1 b hb).fm) (gC.mpr λb hb=>((CD G hn).1 b hb).fm) tO) hF)
    ·intro one ho dJ;refine A4 (CC free F.cl cc np one) λk1 k2 k3 k4=> ?_;rw[<-e]at ho;rw[F.laid]at k1 k2;obtain F1:FE free E0 (nearF free c m one) t1 u1:=⟨k1,k3 F.gT,k4,by
      cases free
      ·exact F.sm
      ·have Zt:nearF true c m one=_:=k2;simp only[Zt];exact F.sp.near cl ho,⟨q1.1,aaa q1.2 F.bt.2⟩,⟨q2.1,aaa q2.2 F.bu.2⟩,t',u',h1,h2,by rw[k2];exact(q3 one ho).1,by rw[k2];exact(q3 one ho).2⟩
     exact⟨pC F1.sm (.inr ha),fits_of G hB (held:=[one]) F1 (by show 1<64;decide) ha y2 n2,iy F1,jn F1⟩
   ·rw[<-e]at hs;refine Th (I.ns hs) λt1 u1 a2 b2 q1 q2 q3 q4 q5 q6 ab=> ?_;obtain F1:FE free E0 m t1 u1:=⟨F.laid,F.gT,F.cl,F.sm,⟨q1.1,aaa q1.2 F.bt.2⟩,⟨q2.1,aaa q2.2 F.bu.2⟩,a2,b2,q3,q4,q5,q6⟩;exact⟨pC F.sm (.inr ha),fits_of G hB F (aai hl (by decide)) ha y2 n2,iy F1,jn F1⟩
end
structure Ib(l:List Nm):Prop where
 gT:aC l=l
 low:∀x∈l,x.val<20
theorem Ib.closed{l:List Nm}(h:Ib l):ax l:=λx hx=>⟨(low_ne (h.low x hx)).1,(low_ne (h.low x hx)).2.1⟩
theorem KindsOk.l{n:Nat}{l:List Nm}(h:KindsOk n l):Ib l:=⟨h.gT,h.low⟩
theorem ED{l:List Nm}(h:aC l=l):l.Nodup:=by exact List.Pairwise.of_map Atom.n (λa b k e=>k (by rw[e])) (ug (qm h))
theorem OU:∀x:Nm,x.val<20->x∈iv.take 20:=by decide
theorem Ib.len{l:List Nm}(h:Ib l):l.length<=20:=by
 obtain this:=gS (w:=λab=>1) (ED h.gT) (xs:=iv.take 20) λx hx=>OU x (h.low x hx);obtain one:∀l:List Nm,(l.map λab=>1).sum=l.length:=λl=>by
  induction l with
  |nil=>rfl
  |cons a l ih=>simp only[aaH,abE,ih,aax,abf]
 rw[one]at this;exact this
structure vT(m:Ab.Env):Prop where
 T:Ib m.T
 U:Ib m.U
theorem ng{m:Ab.Env}(E:vT m){x:Sd}(h:fB x):Ib (c9 m x):=by
 match x,h with
 | .k l,h=>exact KindsOk.l h
 | .p l,h=>exact⟨gF _,oE λz hz=>(aaz.mp hz).elim (E.T.low z) (KindsOk.low h z)⟩
 | .v true,ab=>exact E.T
 | .v false,ab=>exact E.U
theorem CE{m:Ab.Env}(E:vT m){x:Sd}(h:jZ x):∀z∈c9 m x,z.val<22:=by
 obtain k:∀{l:List Nm},Ib l->∀z∈l,z.val<22:=λh z hz=>aaQ (h.low z hz) (by decide)
 match x,h with
 | .k l,.inl h=>exact k (KindsOk.l h)
 | .k _,.inr (.inl rfl)=>intro z hz;rw[aag.mp hz];decide
 | .k _,.inr (.inr rfl)=>intro z hz;rw[aag.mp hz];decide
 | .p l,h=>exact k (ng E (x:= .p l) h)
 | .v true,ab=>exact k E.T
 | .v false,ab=>exact k E.U
theorem yD{held ask:List Nm}(hh:∀x∈held,x.val<20)(ha:∀x∈ask,x.val<22)(Y N:List Atom)(s:Bool):pick held ask Y N s=Y\/pick held ask Y N s=N:=by
 obtain h1:ask≠[aL]:=λe=>absurd (ha aL (by rw[e];exact aac)) (by decide);obtain cl:∀{l:List Nm},(∀x∈l,x.val<22)->isOpen l=false:=λh=>eJ.mpr λx hx=>⟨λe=>absurd (h x hx) (by rw[e];decide),λe=>absurd (h x hx) (by rw[e];decide)⟩;obtain h4:held≠[gI]:=λe=>absurd (hh gI (by rw[e];exact aac)) (by decide);unfold pick;rw[(cl ha),(cl (l:=held) λx hx=>aaQ (hh x hx) (by decide)),decide_eq_false h1,if_neg (by decide),if_neg (by decide)];split
 ·exact .inl rfl
 ·split
  ·exact .inl rfl
  ·exact .inr rfl
theorem yE{m:Ab.Env}(E:vT m){c a:Sd}{y n:Br}{s:Bool}(ha:jZ a){one:Nm}(ho:one.val<20):lA false c a y n s m one=iN false y m\/lA false c a y n s m one=iN false n m:=by rw[lA,if_neg λe=>absurd ho (by rw[e];decide)];exact yD (λx hx=>aag.mp hx▸ho) (CE E ha) _ _ _
theorem vU{m:Ab.Env}(E:vT m){c:Sd}(h:mP c):Ib (c9 m c)/\c9 m c≠[aL]:=by have:=ng E (ji h);exact⟨this,λe=>absurd (this.low aL (by rw[e];exact aac)) (by decide)⟩
theorem CF{m:Ab.Env}(E:vT m):∀{g:Nat} {b:Br},da g b->∃ns,Ib ns/\iN false b m=aR ns:=by
 intro g b;induction g generalizing b with
 |zero=>cases b with
  |sd x=>exactλh=>⟨_,ng E h,rfl⟩
  |q c a y n s=>exactλh=>h.elim
 |succ g ih=>cases b with
  |sd x=>exactλh=>⟨_,ng E h,rfl⟩
  |q c a y n s=>
   intro h;refine A4 h λhc ha hy hn=> ?_;refine ah (ih hy) λys y1 y2=> ?_;refine ah (ih hn) λns n1 n2=> ?_;refine A2 (vU E hc) λc1 c2=> ?_;simp only[Hc,if_neg c2];split
   ·obtain this:∀l:List Nm,(∀x∈l,x.val<20)->∃zs,(∀x∈zs,x.val<20)/\l.flatMap (lA false c a y n s m)=aR zs:=λl=>by
     induction l with
     |nil=>exactλab=>⟨[],(aar _),rfl⟩
     |cons x l ih=>
      intro h;refine ah (ih λz hz=>h z (aaf _ hz)) λzs z1 z2=> ?_;simp only[aaU,z2];rcases yE E (c:=c) (y:=y) (n:=n) (s:=s) ha (h x aac)with e |e
      ·exact⟨ys++zs,λw hw=>(aaz.mp hw).elim (y1.low w) (z1 w),by rw[e,y2];exact aaG.symm⟩
      ·exact⟨ns++zs,λw hw=>(aaz.mp hw).elim (n1.low w) (z1 w),by rw[e,n2];exact aaG.symm⟩
    refine ah (this _ c1.low) λzs z1 z2=> ?_;exact⟨aC zs,⟨gF _,oE z1⟩,by rw[z2];exact(aY zs).symm⟩
   ·rcases yD c1.low (CE E ha) (iN false y m) (iN false n m) s with e |e
    ·exact cq ys y1 (e.trans y2)
    ·exact cq ns n1 (e.trans n2)
theorem jB{m:Ab.Env}(E:vT m){g:Nat}{b:Br}(h:da g b):(iN false b m).length<=20/\tw (iN false b m)<=100000:=by refine ah (CF E h) λns h1 h2=> ?_;rw[h2];exact⟨by rw[aae];exact h1.len,aaa (xR ns) (aaa (abt 10 h1.len) (by decide))⟩
theorem Ic{α:Type}{f:α->List Atom}{k:Nat}:∀{l:List α},(∀a∈l,(f a).length<=k)->(l.flatMap f).length<=l.length*k:=by
 intro v_;induction v_ with
 |nil=>intro dJ;exact aaS _
 |cons a l ih=>intro h;rw[aaU,aah,aax,adw,abf];exact aaw (ih λb hb=>h b (aaf _ hb)) (h a aac)
section
variable {m:Ab.Env}(E:vT m)(S:lu m)
include E S
theorem yF{g:Nat}{c a:Sd}{y n:Br}{s:Bool}(hc:mP c)(ha:jZ a)(hy:da g y)(hn:da g n):((c9 m c).flatMap (lA false c a y n s m)).length<=61:=by
 refine aaa (Ic (k:=20) λone ho=> ?_) (aaa (abo 20 (aaa (dZ _) (vS S hc))) (by decide));rcases yE E (c:=c) (y:=y) (n:=n) (s:=s) ha ((vU E hc).1.low one ho)with e |e
 ·rw[e];exact(jB E hy).1
 ·rw[e];exact(jB E hn).1
theorem Ll:∀{g:Nat} {b:Br},da g b->zV false b m:=by
 intro g b;induction g generalizing b with
 |zero=>cases b with
  |sd x=>exactλh=>pC S (.inl h)
  |q c a y n s=>exactλh=>h.elim
 |succ g ih=>cases b with
  |sd x=>exactλh=>pC S (.inl h)
  |q c a y n s=>
   intro h;refine A4 h λhc ha hy hn=> ?_;have F:∀{held:List Nm},held.length<64->Fits held (c9 m a) (iN false y m) (iN false n m):=λhh=>
    ⟨hh,aai (aaa (dZ _) (kQ S (.inr ha))) (by decide),aaa (aaw (jB E hy).1 (jB E hn).1) (by decide),(jB E hy).2,(jB E hn).2⟩
   have hl:(c9 m c).length<64:=aai (aaa (dZ _) (vS S hc)) (by decide);exact⟨(m9 hc).2,hl,λab=>⟨yF E S hc ha hy hn,λone ab ai=>⟨pC S (.inr ha),F (held:=[one]) (by show 1<64;decide),ih hy,ih hn⟩⟩,λab ai=>⟨pC S (.inr ha),F hl,ih hy,ih hn⟩⟩
theorem Lp:∀{g:Nat} {b:Br},da g b->IP (gf b m) I0 61:=by
 obtain cn:fk m:=⟨E.T.gT,E.U.gT⟩;have cl:false=false->ax m.T/\ax m.U:=λab=>⟨E.T.closed,E.U.closed⟩;have sd:∀{x:Sd},fB x->IP (aR (c9 m x)) I0 61:=λ{x} h=>by
  have h1:=aaa (dZ _) (kQ S (.inl h));have h2:(bC (aR (c9 m x)) I0).length=(c9 m x).length:=by simp only[jf,cC (fK (cl rfl).1 (cl rfl).2 (l9 h)),aae]
  obtain this:∀l:List Nm,RG (aR l) I0:=λl=>by
   induction l with
   |nil=>trivial
   |cons x l ih=>exact⟨trivial,ih⟩
  generalize c9 m x=l at*
  cases l with
  |nil=>exact aab _
  |cons z l=>exact⟨aab _,by rw[show Atom.n z::aR l=aR (z::l)from rfl,h2];lia,by rw[aae];simp only[aax]at h1;lia,trivial,this l⟩
 intro g b;induction g generalizing b with
 |zero=>cases b with
  |sd x=>exactλh=>sd h
  |q c a y n s=>exactλh=>h.elim
 |succ g ih=>cases b with
  |sd x=>exactλh=>sd h
  |q c a y n s=>
   intro h;have hb:=h;refine A4 h λhc ha hy hn=> ?_;refine A2 (vU E hc) λc1 c2=> ?_;obtain e:subs I0 (c9 m c)=c9 m c:=bF c1.closed c1.gT;refine⟨aab _,?_,(by decide),⟨(by decide),aab _,λab=>⟨?_,λone ab=> ?_⟩,λab=>⟨61,61,ih hy,ih hn,aab _,aab _,λq=> ?_⟩⟩,trivial⟩
   ·obtain this:=(jB E hb).1;simp only[gM false _ (tC hb) m cn cl,gf,kE,fU]at this;rw[kE];exact aaa this (by decide)
   ·rw[e];exact(vQ (s:=s) (m9 hc).1 (m9 hc).2 (yx ha) (gM false y (tC hy)) (gM false n (tC hn)) cn cl c2)▸yF E S hc ha hy hn
   ·rw[dK c1.closed];exact⟨ih hy,ih hn⟩
   ·rw[e]at q;exact absurd (c1.low 20 (by rw[q];exact aac)) (by decide)
end
mutual
noncomputable def OW:Atom->Prop
 | .n ab=>True
 | .cond c a y n s=>(c≠[aL]/\(s=true->c.length=1)/\(isOpen c ||isOpen a)=true/\(aC c=c/\aC a=a/\less y=y/\less n=n))/\AJ y/\AJ n
noncomputable def AJ:List Atom->Prop
 |[]=>True
 |a::r=>OW a/\AJ r
end
theorem yG:∀{l:List Atom},AJ l↔∀b∈l,OW b:=by
 intro v_;induction v_ with
 |nil=>simp[AJ]
 |cons a r ih=>simp only[AJ,ih];simp
mutual
theorem qo:∀A:Atom,OW A->ev A I0=[A]
 | .n x,ab=>by simp only[ev,HT];rfl
 | .cond c a y n s,W=>by
  refine A3 W λOX h8 h9=>A7 OX λh1 h2 h3 h4 h5 h6 h7=> ?_;obtain hs:(s &&c.length !=1)=false:=by
   cases s with
   |false=>rfl
   |true=>rw[h2 rfl];rfl
  rw[cO,m8,m8,h4,h5,if_neg h1,hs,if_neg (by decide),sJ y h8,sJ n h9,h6,h7,p0,h3,if_pos rfl,if_neg];intro e;simp only[aaY,decide_eq_true_eq]at e;rw[e.1]at h3;rw[show isOpen [aL]=false from rfl,aeX]at h3;rw[h3]at e;exact nomatch e.2
theorem sJ:∀l:List Atom,AJ l->bC l I0=l
 |[],ab=>by simp only[bC]
 |a::r,W=>by simp only[bC,qo a W.1,sJ r W.2];rfl
end
structure Pv(k:Nat)(b:Atom):Prop where
 fm:Fm b
 ca:Ca b
 ht:ht b<=k
 w:OW b
theorem Ie(k:Nat)(x:Nm):Pv k (.n x):=⟨trivial,trivial,aaS _,trivial⟩
theorem Pv.up{k k':Nat}{b:Atom}(h:Pv k b)(l:k<=k'):Pv k' b:=⟨h.fm,h.ca,aaa h.ht l,h.w⟩
theorem qp{k:Nat}{l:List Atom}(h:∀b∈l,Pv k b):∀b∈less l,Pv k b:=λb hb=>by
 rcases dr hb with q |q |q
 ·exact h b q
 ·rw[q];exact Ie ..
 ·rw[q];exact Ie ..
theorem vV{l:List Atom}{k:Nat}(h:∀b∈l,ht b<=k):m7 l<=k:=by
 induction l with
 |nil=>exact aaS _
 |cons a r ih=>exact abb.mpr ⟨h a aac,ih λb hb=>h b (aaf _ hb)⟩
theorem CG{held ask:List Nm}{Y N:List Atom}{s:Bool}{k:Nat}(hf:IG held)(ha:aC ask=ask)(he:held≠[aL])(hs:s=true->held.length=1)(ly:less Y=Y)(ln:less N=N)(hy:∀b∈Y,Pv k b)(hn:∀b∈N,Pv k b):∀b∈pick held ask Y N s,Pv (1+k) b:=by
 have up:∀{b},Pv k b->Pv (1+k) b:=λh=>h.up (aaj _ _);unfold pick;split
 ·intro b hb;rw[aag.mp hb];exact Ie ..
 ·split
  ·rename_i o;intro b hb;rw[aag.mp hb];exact⟨⟨hf,ha▸eN _,gC.mpr λb hb=>(hy b hb).fm,gC.mpr λb hb=>(hn b hb).fm⟩,⟨ha,kN.mpr λb hb=>(hy b hb).ca,kN.mpr λb hb=>(hn b hb).ca⟩,aav (abb.mpr ⟨vV λb hb=>(hy b hb).ht,vV λb hb=>(hn b hb).ht⟩) 1,⟨he,hs,o,hf.1,ha,ly,ln⟩,yG.mpr λb hb=>(hy b hb).w,yG.mpr λb hb=>(hn b hb).w⟩
  ·split
   ·exactλb hb=>up (hy b hb)
   ·split
    ·exact qp λb hb=>(aaz.mp hb).elim (λq=>up (hy b q)) λq=>up (hn b q)
    ·split
     ·exactλb hb=>up (hy b hb)
     ·exactλb hb=>up (hn b hb)
mutual
theorem CH:∀(A:Atom) {m:Ab.Env},Fm A->lu m->∀b∈ev A m,Pv (ht A) b
 | .n x,m,_,_,b,hb=>by refine ah (aal.mp hb) λz _ e=> ?_;subst e;exact Ie ..
 | .cond c a y n s,m,F,S,b,hb=>by
  obtain hW:=qe S F.1;have iy:∀{m},lu m->∀b∈less (bC y m),Pv (max (m7 y) (m7 n)) b:=λS=>qp λb hb=>(AK y F.2.2.1 S b hb).up (aaW _ _);have jn:∀{m},lu m->∀b∈less (bC n m),Pv (max (m7 y) (m7 n)) b:=λS=>qp λb hb=>(AK n F.2.2.2 S b hb).up (abi _ _);rw[cO]at hb;split at hb
  ·simp only[aag.mp hb];exact Ie ..
  ·rename_i sZ;split at hb
   ·rename_i hs;obtain hl:(subs m c).length≠1:=by intro q;rw[q]at hs;cases s<;>cases hs
    rcases hW with⟨k1,k2,k3⟩ |⟨k,q⟩
    ·refine qp (λb hb=> ?_) b hb;refine ah (aau.mp hb) λone ho hb=> ?_;obtain S':=S.near (c:=c) k1 ho;exact CG ⟨aO _,.inl (bX k1 ho)⟩ (eM ..) (λe=>sZ (ou (by simp only[<-(aaL e).1];exact ho))) (λ_=>rfl) (bG _) (bG _) (iy S') (jn S') b hb
    ·exact absurd (by rw[k];rcases q with q |q<;>rw[q]<;>rfl) hl
   ·rename_i hs;refine CG ⟨eM m c,?_⟩ (eM ..) sZ (λq=> ?_) (bG _) (bG _) (iy S) (jn S) b hb
    ·rcases hW with k |⟨k,q⟩
     ·exact .inl k.1
     ·exact k.symm▸.inr q
    ·rw[q]at hs;simpa using hs
theorem AK:∀(l:List Atom) {m:Ab.Env},zQ l->lu m->∀b∈bC l m,Pv (m7 l) b
 |[],ab,ai,aD,bO,hb=>by simp only[bC]at hb;cases hb
 |a::r,m,F,S,b,hb=>by exact(aaz.mp hb).elim (λq=>(CH a F.1 S b q).up (aaW _ _)) λq=>(AK r F.2 S b q).up (abi _ _)
end
structure bz(m:Ab.Env):Prop where
 T:KindsOk 3 m.T\/∃t,cu t/\m.T=[t]
 U:KindsOk 2 m.U
def eV(t:Bool)(m:Ab.Env):Ab.Env:=if t then⟨m.T,[aU]⟩else⟨[aT],m.U⟩
abbrev qA(E0:Ab.Env)(c a:Sd)(y n:Br)(s:Bool):Atom:= .cond (c9 E0 c) (c9 E0 a) (gf y E0) (gf n E0) s
theorem bz.cl{m:Ab.Env}(h:bz m):ax m.T/\ax m.U:=by
 refine⟨?_,h.U.closed⟩;refine aaI h.T (λk=> ?_) λaw=>ah aw λt k e=> ?_
 ·exact k.closed
 ·simp only[e];intro x hx;rw[aag.mp hx];exact⟨(cK k).1,(cK k).2.1⟩
theorem bz.put{m:Ab.Env}(h:bz m)(q q':Nat):iM aT m.T 3 q/\iM aU m.U 2 q':=by
 refine⟨.inr ⟨h.cl.1,?_⟩,.inr ⟨h.cl.2,h.U.len,h.U.gT⟩⟩;refine aaI h.T (λk=> ?_) λaw=>ah aw λt k e=> ?_
 ·exact⟨k.len,k.gT⟩
 ·rw[e];exact⟨(by show 1<=3;decide),aO t⟩
noncomputable def tD(m:Ab.Env):Nm:=m.T.headD 20
theorem bz.top{m:Ab.Env}(h:bz m):TopE (tD m) m:=λx hx hm=>by
 rcases hm with hm |hm
 ·refine aaI h.T (λk=> ?_) λaw=>ah aw λt k e=> ?_
  ·exact absurd hx (k.no x hm)
  ·simp only[tD,e];rw[e]at hm;exact aag.mp hm
 ·exact absurd hx (h.U.no x hm)
theorem kS{x z:Nm}(hz:z=aT\/z=aU)(hx:cu x)(h:x∈[z]):False:=by rw[aag.mp h]at hx;exact hz.elim (λe=>(cK hx).1 e) λe=>(cK hx).2.1 e
theorem nh(t0:Nm):EG t0 I0:=⟨⟨aO _,aO _⟩,pB,λx hx h=>(h.elim (λq=>kS (.inl rfl) hx q) λq=>kS (.inr rfl) hx q).elim⟩
theorem bz.eg{m:Ab.Env}(h:bz m):EG (tD m) m:=by
 obtain⟨⟨hT,_⟩ |hT,hU⟩:=h.put 3 3
 ·exact absurd (hT▸h.cl.1) λq=>(q aT aac).1 rfl
 ·rcases hU with⟨hU,_⟩ |hU
  ·exact absurd (hU▸h.cl.2) λq=>(q aU aac).2 rfl
  ·exact⟨⟨hT.2.2,hU.2.2⟩,⟨.inr hT,.inr ⟨hU.1,acu hU.2.1,hU.2.2⟩⟩,h.top⟩
theorem bz.half{m:Ab.Env}(h:bz m)(t:Bool):EG (tD m) (eV t m):=by
 obtain e:=h.eg;cases t
 ·exact⟨⟨aO _,e.gT.U⟩,⟨.inl ⟨rfl,rfl⟩,e.sm.U⟩,λx hx k=>k.elim (λq=>(kS (.inl rfl) hx q).elim) λq=>e.top x hx (.inr q)⟩
 ·exact⟨⟨e.gT.T,aO _⟩,⟨e.sm.T,.inl ⟨rfl,rfl⟩⟩,λx hx k=>k.elim (λq=>e.top x hx (.inl q)) λq=>(kS (.inr rfl) hx q).elim⟩
theorem EE(c a:List Nm)(y n:List Atom)(s:Bool):less [.cond c a y n s]=[.cond c a y n s]:=by rfl
theorem OY:∀b,da 2 b->∀t u,t<=3->u<=2->fv t u (gf b I0)<=20:=λb hb t u ht hu=>by
 obtain k:∀t<4,∀u<3,B 2 t u<=20:=by decide
 exact aaa (RM hb t u) (k t (acU ht) u (acU hu))
section
variable {c a:Sd}{y n:Br}{s:Bool}(hq:da 3 (.q c a y n s))
include hq
theorem vW{t u:Nat}(ht:t<=3)(hu:u<=2):FF t u (qA I0 c a y n s)<=40:=by
 obtain k:∀t<4,∀u<3,B 3 t u<=40:=by decide
 exact aaa (RM hq t u) (k t (acU ht) u (acU hu))
theorem vX{t0:Nm}{E0:Ab.Env}(G:EG t0 E0):AG t0 (qA E0 c a y n s):=(CD G hq).1 _ aac
theorem OZ{E0:Ab.Env}(S:lu E0):Wt (qA E0 c a y n s)<=36600/\ht (qA E0 c a y n s)<=3:=by obtain this:=RK S hq;exact⟨this.1,aaa (aaW _ _) this.2⟩
theorem vY{m:Ab.Env}{t u:Nat}(F:FE true I0 m t u):zV true (.q c a y n s) m/\LP (qA I0 c a y n s) m 61/\iN true (.q c a y n s) m=ev (qA I0 c a y n s) m:=by
 obtain SW:=vW hq F.bt.2 F.bu.2;refine b8 F.put λt' u' h1 h2 h3 h4=> ?_;refine⟨Ia (nh 0) OY (aab 3) hq F ?_,yw _ (vX hq (nh 0)).fm F.bt.1 F.bu.1 h1 h2 h3 h4 (aaa SW (by decide)) (aab _),?_⟩
 ·simp only[gf,fv,fv,acL];exact aaa SW (by decide)
 ·simp only[gM true _ (tC hq) m F.gT F.cl,gf,kE];exact fU ..
variable {m:Ab.Env}(h:bz m)
include h
omit hq in
theorem bz.fe:FE true I0 m 3 2:=⟨rfl,h.eg.gT,(λq=>nomatch q),h.eg.sm,(by decide),(by decide),1,1,by decide,by decide,(h.put 1 1).1,(h.put 1 1).2⟩
omit hq in
theorem bz.Xh(t:Bool):FE true I0 (eV t m) 3 2:=⟨rfl,(h.half t).gT,(λq=>nomatch q),(h.half t).sm,(by decide),(by decide),by
 cases t
 ·exact⟨3,1,by decide,by decide,.inl ⟨rfl,rfl⟩,(h.put 1 1).2⟩
 ·exact⟨1,2,by decide,by decide,(h.put 1 1).1,.inl ⟨rfl,rfl⟩⟩⟩
omit hq in
theorem bz.then(t:Bool):Known (eV t m) (eV (!t) m)/\(eV t m).then (eV (!t) m)=m:=by
 refine A2 h.cl λk1 k2=> ?_;cases t
 ·refine⟨⟨.inr ⟨rfl,k1⟩,.inl k2⟩,?_⟩;show Ab.Env.mk ([aT].flatMap (sub ⟨m.T,[aU]⟩)) (m.U.flatMap (sub ⟨m.T,[aU]⟩))=m;rw[aaA,cC k2];rfl
 ·refine⟨⟨.inl k1,.inr ⟨rfl,k2⟩⟩,?_⟩;show Ab.Env.mk (m.T.flatMap (sub ⟨[aT],m.U⟩)) ([aU].flatMap (sub ⟨[aT],m.U⟩))=m;rw[aaA,cC k1];rfl
structure RO(t0:Nm)(l:List Atom)(m:Ab.Env)(R:List Atom):Prop where
 ag:∀b∈l,AG t0 b
 lp:∀b∈l,LP b m 61
 ht:∀b∈l,ht b<=3
 w:∀b∈l,OW b
 wt:(l.map Wt).sum<=36600
 len:l.length<=61
 bC:(bC l m).length<=61
 eq:less (Ab.bC l m)=R
 gT:less l=l
theorem yH(t:Bool):RO (tD m) (ev (qA I0 c a y n s) (eV t m)) (eV (!t) m) (ev (qA I0 c a y n s) m):=by
 refine cps λab kk=> ?_;have ag:=vX hq (nh (tD m));obtain eh:=h.half t;obtain pv:=CH (qA I0 c a y n s) ag.fm eh.sm;obtain W:=OZ hq pB;refine A2 (h.then t) λkn th=> ?_;obtain ff:∃t' u' t2 u2,(1<=t'/\1<=u'/\1<=t2/\1<=u2)/\fv t' u' (ev (qA I0 c a y n s) (eV t m))<=40/\iM aT (eV (!t) m).T t' t2/\iM aU (eV (!t) m).U u' u2:=by
  obtain k:=λt' u' p q=>aaa (Oi (t:=3) (u:=2) (t':=t') (u':=u') (m:=eV t m) (qA I0 c a y n s) ag.fm (by decide) (by decide) p q) (vW hq (aab 3) (aab 2));cases t
  ·exact⟨3,1,1,1,(by decide),by rw[fy];exact k 3 1 (.inl ⟨rfl,rfl⟩) (h.put 1 1).2,(h.put 1 1).1,.inl ⟨rfl,rfl⟩⟩
  ·exact⟨1,2,1,1,(by decide),by rw[fy];exact k 1 2 (h.put 1 1).1 (.inl ⟨rfl,rfl⟩),.inl ⟨rfl,rfl⟩,(h.put 1 1).2⟩
 obtain⟨t',u',t2,u2,⟨p1,p2,p3,p4⟩,q1,q2,q3⟩:=ff;refine kk<|⟨λb hb=>⟨(pv b hb).fm,BO _ ag.ok eh.top b hb,yh _ _ ag.cn b hb,GQ _ ag.fm ag.ls eh.sm b hb,(pv b hb).ca⟩,λb hb=> ?_,λb hb=>aaa (pv b hb).ht W.2,λb hb=>(pv b hb).w,aaa (Oj _ ag.fm eh.sm) W.1,?_,?_,?_,fU ..⟩
 ·refine yw b (pv b hb).fm p1 p2 p3 p4 q2 q3 (aaa ?_ (aaa q1 (by decide))) (aab _);simp only[fy];exact kF hb
 ·exact aaa (iO p1 p2 _) (aaa (fy ..▸q1) (by decide))
 ·exact aaa (iO p3 p4 _) (aaa (o8 _ (gC.mpr λb hb=>(pv b hb).fm) p1 p2 q2 q3) (aaa q1 (by decide)))
 ·simp only[comp _ ag.fm ag.ok eh.top (h.half (!t)).top kn,th];exact fU ..
omit hq in
theorem O0:∀{g:Nat} {b:Br},da g b->tq (gf b m)/\less (gf b m)=gf b m:=by
 obtain⟨cT,cU⟩:=h.cl;have sd:∀{x:Sd},fB x->tq (aR (c9 m x))/\less (aR (c9 m x))=aR (c9 m x):=λ{x} hx=>by
  obtain hc:=fK cT cU (l9 hx);refine⟨?_,(aY _).symm.trans (congrArg _ (sG h.eg.gT (l9 hx)))⟩;generalize c9 m x=l at*
  induction l with
  |nil=>trivial
  |cons z l ih=>
   obtain this:=hc z aac;obtain all:∀l:List Nm,ax l->tq (aR l):=λl=>by
    induction l with
    |nil=>exactλab=>trivial
    |cons z l ih=>exactλhc=>⟨hc z aac,ih λw hw=>hc w (aaf _ hw),λab=>⟨⟨z,rfl⟩,λb hb=>(aal.mp hb).elim λw k=>⟨w,k.2.symm⟩⟩⟩
   exact all _ hc
 intro g b;induction g generalizing b with
 |zero=>cases b with
  |sd x=>exact sd
  |q c a y n s=>exactλh=>h.elim
 |succ g ih=>cases b with
  |sd x=>exact sd
  |q c a y n s=>intro hb;refine A4 hb λhc ha hy hn=> ?_;refine A2 (ih hy) λy1 y2=> ?_;refine A2 (ih hn) λn1 n2=> ?_;refine⟨⟨⟨fK cT cU (m9 hc).1,fK cT cU (yx ha),y1,n1,y2,n2⟩,trivial,λk=>absurd rfl k⟩,?_⟩;exact EE ..
theorem sL:zV false (.q c a y n s) m/\LP (qA m c a y n s) I0 61/\SU (qA m c a y n s)/\iN false (.q c a y n s) m=ev (qA m c a y n s) I0:=by
 have eq:iN false (.q c a y n s) m=ev (qA m c a y n s) I0:=by simp only[gM false _ (tC hq) m h.eg.gT λab=>h.cl,gf,kE];exact fU ..
 obtain si:=(O0 h hq).1.1;refine aaI h.T (λk=> ?_) λaw=>ah aw λt k e=> ?_
 ·obtain E:vT m:=⟨k.l,h.U.l⟩;exact⟨Ll E h.eg.sm hq,(Lp E h.eg.sm hq).2.2.2.1,si,eq⟩
 ·have C:∀{g:Nat} {b:Br},da g b->∀t u,fv t u (gf b m)<=2^g*3:=RN h.cl.1 h.cl.2 (by rw[e];exact aab _) h.U.len;obtain F:FE false m m 1 1:=⟨rfl,h.eg.gT,λab=>h.cl,h.eg.sm,(by decide),(by decide),1,1,by decide,by decide,.inl ⟨rfl,rfl⟩,.inl ⟨rfl,rfl⟩⟩;refine⟨Ia h.eg (λb hb t u ab ai=>aaa (C hb t u) (by decide)) (aab 3) hq F (aaa (C hq 1 1) (by decide)),yw _ (vX hq h.eg).fm (t:=1) (u:=1) (t':=1) (u':=1) (by decide) (by decide) (by decide) (by decide) (.inl ⟨rfl,rfl⟩) (.inl ⟨rfl,rfl⟩) ?_ (aab _),si,eq⟩;exact aaa (C hq 1 1) (by decide)
end
inductive At(p:Pl)(k:Nat)(o:O)(σ:St):Prop
 |mk(off:Off p k)(lt:k<σ.n)(f:σ.f k=o)
section
variable {p:Pl}{L L':List (Nm×Nat)}{τ ay:TT}{σ aq:St}{X:Nat->Prop}{k:Nat}{o:O}
theorem At.x(h:At p k o σ)(g:Gt p X L τ σ L' ay aq)(n:¬X k):At p k o aq:=⟨h.1,aak h.2 g.3,(g.4 k h.2 h.1 n).trans h.3⟩
theorem At.ext(h:At p k o σ)(x:Ext σ aq):At p k o aq:=⟨h.1,aak h.2 x.n,(x.f k h.2).trans h.3⟩
theorem At.set(h:At p k o σ){j:Nat}(n:k≠j)(o':O):At p k o (σ.set j o'):=⟨h.1,h.2,(if_neg n).trans h.3⟩
theorem EV.off{n:Nat}(P:EV p n)(h:n<=k):Off p k:=⟨.inr (aak (aaQ P.1.1 P.1.2) h),acM (aak P.2.2 h),acM (aak P.3.2 h)⟩
theorem At.new(P:EV p σ.n)(o:O):At p σ.n o (σ.new o):=⟨P.off (aab _),aap _,bY ..⟩
theorem LW.RP(H:LW p L τ σ)(P:EV p k)(o:O):LW p L τ (σ.set k o):=by obtain ne:∀{j:Nat},j<k->∀{x:O},σ.f j=x->(σ.set k o).f j=x:=λh ab e=>(if_neg (aaF h)).trans e;exact⟨⟨H.1.1.set (aaQ P.1.1 P.1.2) o,⟨ne P.1.2 H.1.2.1,ne P.4.2 H.1.2.2,H.1.2.3⟩,⟨ne P.2.2 H.1.3.1,ne P.3.2 H.1.3.2,H.1.3.3⟩,H.1.4⟩,H.2⟩
end
noncomputable def raw(m:Ab.Env):Sd->List Nm
 | .k l=>l
 | .p l=>m.T++l
 | .v t=>if t then m.T else m.U
structure lB(m:Ab.Env)(x:Sd):Prop where
 eq:aC (raw m x)=c9 m x
 len:(raw m x).length<=20
def Laid(p:Pl)(m:Ab.Env)(e D c:Nat)(b:Br):Prop:=∀d,D<=d->∀L τ σ r,LW p L τ σ->At p e (bZ m) σ->Cr (c+r) τ->Rg p L τ σ (Lt (gf b m)) r (af P d 66 [.loc p.wl,oC b,.loc e] σ)
theorem vZ(p:Pl){m:Ab.Env}(e:Nat){x:Sd}(R:lB m x):Laid p m e 8 41 (.sd x):=by
 intro d hd L τ σ r H A hb;obtain⟨k,rfl⟩:∃k,d=k+8:=⟨d -8,(acq hd).symm⟩;obtain z:=sF H k (raw m x) R.len hb;rw[R.eq]at z;refine z.to λe1=> ?_;cases x with
 |k l=>exact run [.r,.r,.c (e1:af P (k+7) 65 [.loc p.wl,cF l] σ=_),.r] (by kernel_rfl)
 |v b=>
  obtain h:=uu A.3 b;cases b
  ·exact run [.r,.r,.r,.v (h:bS σ (.loc e) (nV 24)=some (cF m.U)),.c (e1:af P (k+7) 65 [.loc p.wl,cF m.U] σ=_),.r] (by kernel_rfl)
  ·exact run [.r,.r,.r,.v (h:bS σ (.loc e) (nV 23)=some (cF m.T)),.c (e1:af P (k+7) 65 [.loc p.wl,cF m.T] σ=_),.r] (by kernel_rfl)
 |p l=>
  obtain hb:eP σ .add (cF m.T) (cF l)=some (cF (m.T++l)):=by show og _ (some (V.bI (m.T.map nV++l.map nV)))=_;rw[<-aaG];exact b7 (decide_eq_true (by rw[aae,aae,<-aah];exact aai R.len (by decide)))
  exact run [.r,.r,.r,.v (uu A.3 true:bS σ (.loc e) (nV 23)=some (cF m.T)),.v hb,.c (e1:af P (k+7) 65 [.loc p.wl,cF (m.T++l)] σ=_),.r] (by kernel_rfl)
abbrev O1(K:List (List Nat×Nat)):O:= .bV (K.map λq=>sV q.1) (K.map λq=>iV q.2)
theorem O2{σ:St}{kd:Nat}{K:List (List Nat×Nat)}(h:σ.f kd=O1 K)(hl:K.length<100){key:List Nat}(hn:key∉K.map (λx=>x.1))(t:Nat):cL σ (.loc kd) (sV key) (iV t)=some (σ.set kd (O1 (K++[(key,t)]))):=by
 show(match σ.f kd with | .lst vs=>_ | .bV ks vs=>_ |_=>_)=_;rw[h];obtain ss:(K.map λq=>sV q.1).all V.isStr=true:=by rw[abN];exact aas.mpr λab ai=>rfl
 refine(b7 (by rw[dX ss,aae,decide_eq_true (aaQ (adH hl) (aaq rfl))];rfl)).trans ?_;rw[mT (by simp only[aae,aae]) λk hk e=>hn (by refine ah (aal.mp hk) λq hq e'=> ?_;rw[<-e']at e;exact aal.mpr ⟨q,hq,V.str.inj e⟩),O1,aaG,aaG]
 rfl
noncomputable def cst:Br->Nat
 | .sd ab=>41
 | .q ab ai y n aD=>cst y+cst n+83
noncomputable def CI:Br->Nat
 | .sd ab=>8
 | .q ab ai y n aD=>max (CI y) (CI n)+2
def AL(m:Ab.Env):Br->Prop
 | .sd x=>lB m x
 | .q c a y n ab=>lB m c/\lB m a/\AL m y/\AL m n
theorem RQ:∀b,8<=CI b:=by
 intro v_;induction v_ with
 |sd ab=>exact aab _
 |q ab ai y n aD Rq SA=>exact aaa (Rq) (aaa (aaW _ _) (aao _ _))
theorem Laid.up{p:Pl}{m:Ab.Env}{e D D' c:Nat}{b:Br}(h:Laid p m e D c b)(k:D<=D'):Laid p m e D' c b:=λd hd=>h d (aaa k hd)
structure Jb where
 k:List Nat
 b:Br
 c:Nat
section
variable {p:Pl}{m:Ab.Env}{e D:Nat}{q:V}{d kd:Nat}(hd:D<=d)
inductive v3(p:Pl)(m:Ab.Env)(e D:Nat)(q:V)(j:Jb):Prop
 |mk(l:Laid p m e D j.c j.b)(i:∀σ,bS σ q (sV j.k)=some (oC j.b))
noncomputable abbrev RS(p:Pl)(q:V)(e kd:Nat)(x:Option V):En:=[some (.loc p.wl),some q,some (.loc e),some (.loc kd),x]
abbrev O3(p:Pl)(q:V)(e kd d:Nat)(vs:List V)(x:Option V)(σ:St):Res:=dk 4 (λr s=>dS P (af P d) (lb 67 0) r s) vs (RS p q e kd x) σ
inductive Ak(p:Pl)(m:Ab.Env)(e kd:Nat)(K:List (List Nat×Nat))(L:List (Nm×Nat))(τ:TT)(σ:St):Prop
 |mk(H:LW p L τ σ)(A:At p e (bZ m) σ)(P:EV p kd)(lt:kd<σ.n)(f:σ.f kd=O1 K)(ek:e≠kd)
include hd in
theorem qq{j:Jb}(J:v3 p m e D q j){K:List (List Nat×Nat)}{L:List (Nm×Nat)}{τ:TT}{σ:St}{r:Nat}{x:Option V}(I:Ak p m e kd K L τ σ)(hn:j.k∉K.map (λx=>x.1))(hl:K.length<100)(c:Cr (j.c+r) τ){G:Prop}
  (kk:∀t L' ay aq,Ak p m e kd (K++[(j.k,t)]) L' ay aq->Gt p (· =kd) L τ σ L' ay aq->ar ay (gf j.b m) t->Cr r ay->(∀vs,O3 p q e kd d (sV j.k::vs) x σ=O3 p q e kd d vs (some (sV j.k)) aq)->G):G:=by
 refine(J.1 d hd L τ σ r I.1 I.2 c).el λt L1 fF bD g k c1 e1=> ?_;obtain f1:bD.f kd=O1 K:=(g.4 kd I.4 (I.3.off (aab _)) id).trans I.5;refine kk t L1 fF (bD.set kd (O1 (K++[(j.k,t)]))) ⟨g.1.RP I.3 _,(I.2.x g id).set I.6 _,I.3,aak I.4 g.3,if_pos rfl,I.6⟩ ⟨g.1.RP I.3 _,g.2,g.3,λi h o n=>(if_neg n).trans (g.4 i h o id),g.5⟩ k c1 λvs=>aJ (eR [.v (J.2 σ),.c e1,.s (O2 f1 hl hn t)] (by kernel_rfl))
include hd in
theorem yI{j1 j2 j3 j4:Jb}(J1:v3 p m e D q j1)(J2:v3 p m e D q j2)(J3:v3 p m e D q j3)(J4:v3 p m e D q j4){L:List (Nm×Nat)}{τ:TT}{σ:St}{r:Nat}(I:Ak p m e kd [] L τ σ)(nd:[j1.k,j2.k,j3.k,j4.k].Nodup)(c:Cr (j1.c+(j2.c+(j3.c+(j4.c+r)))) τ){G:Prop}
  (kk:∀t1 t2 t3 t4 L' ay aq,Gt p (· =kd) L τ σ L' ay aq->Cr r ay->ar ay (gf j1.b m) t1->ar ay (gf j2.b m) t2->ar ay (gf j3.b m) t3->ar ay (gf j4.b m) t4->aq.f kd=O1 [(j1.k,t1),(j2.k,t2),(j3.k,t3),(j4.k,t4)]->O3 p q e kd d [sV j1.k,sV j2.k,sV j3.k,sV j4.k] none σ=some (.next,RS p q e kd (some (sV j4.k)),aq)->G):G:=by
 obtain⟨n1,nd⟩:=aaM.mp nd;obtain⟨n2,nd⟩:=aaM.mp nd;refine A2 (aaM.mp nd) λn3 ab=> ?_;refine qq hd (x:=none) J1 I adG (aaq rfl) c λt1 L1 fF bD I1 g1 k1 c1 e1=> ?_;refine qq hd (x:=some (sV j1.k)) J2 I1 (λh=>n1 (aag.mp h▸aac)) (by show 1<100;decide) c1 λt2 L2 jG dx I2 g2 k2 c2 e2=> ?_;refine qq hd (x:=some (sV j2.k)) J3 I2 (λh=>(aam.mp h).elim (λh=>n1 (h▸aaf _ aac)) λh=>n2 (aag.mp h▸aac)) (by show 2<100;decide) c2 λt3 L3 SM wu I3 g3 k3 c3 e3=> ?_;refine qq hd (x:=some (sV j3.k)) J4 I3 (λh=>(aam.mp h).elim (λh=>n1 (h▸aaf _ (aaf _ aac))) λh=>(aam.mp h).elim (λh=>n2 (h▸aaf _ aac)) λh=>n3 (aag.mp h▸aac)) (by show 3<100;decide) c3 λt4 L4 WV PK I4 g4 k4 c4 e4=> ?_;exact kk t1 t2 t3 t4 L4 WV PK (((g1.trans g2).trans g3).trans g4) c4 (k1.mono ((g2.2.trans g3.2).trans g4.2)) (k2.mono (g3.2.trans g4.2)) (k3.mono g4.2) k4 I4.5 ((e1 _).trans ((e2 _).trans ((e3 _).trans (e4 _))))
end
theorem v7{p:Pl}{m:Ab.Env}{e:Nat}{c a:Sd}{y n:Br}{s:Bool}(Rc:lB m c)(Ra:lB m a)(Ly:Laid p m e (CI y) (cst y) y)(Ln:Laid p m e (CI n) (cst n) n)(d:Nat)(hd:max (CI y) (CI n)<=d){L:List (Nm×Nat)}{τ:TT}{σ:St}(H:LW p L τ σ)(A:At p e (bZ m) σ){r:Nat}(hb:Cr (cst y+cst n+83+r) τ):Rg p L τ σ (La (qA m c a y n s)) r (af P (d+1) 67 [.loc p.wl,qV c a y n s,.loc e] σ):=by
 refine cps λab kk=> ?_;obtain d8:=aaa (RQ y) (aaa (aaW _ _) hd);obtain⟨d',rfl⟩:∃k,d=k+8:=⟨d -8,(acq d8).symm⟩;obtain jc:v3 p m e (d'+8) (qV c a y n s) ⟨[99,104,101,99,107],.sd c,41⟩:=⟨(vZ p e Rc).up d8,λab=>rfl⟩;obtain ja:v3 p m e (d'+8) (qV c a y n s) ⟨[97,115,107,101,100],.sd a,41⟩:=⟨(vZ p e Ra).up d8,λab=>rfl⟩;obtain jy:v3 p m e (d'+8) (qV c a y n s) ⟨[121,101,115],y,cst y⟩:=⟨Ly.up (aaa (aaW _ _) hd),λab=>rfl⟩;obtain jn:v3 p m e (d'+8) (qV c a y n s) ⟨[110,111],n,cst n⟩:=⟨Ln.up (aaa (abi _ _) hd),λab=>rfl⟩;obtain x0:=Ext.new σ (.bV [] []);obtain g0:=H.xt (X:=EW) x0;obtain I:Ak p m e σ.n [] L τ (σ.new (.bV [] [])):=⟨g0.1,A.ext x0,H.1.4,aap _,bY ..,aaF A.2⟩;have fin:∀{tc ta ty tn L1 fF bD},Gt p (· =σ.n) L τ (σ.new (.bV [] [])) L1 fF bD->Cr (1+r) fF->ar fF (gf (.sd c) m) tc->ar fF (gf (.sd a) m) ta->ar fF (gf y m) ty->ar fF (gf n m) tn->(∀{t s'},af P (d'+8) 74 [.loc p.l,bf tc ta ty tn s] bD=some (iV t,s')->af P (d'+9) 67 [.loc p.wl,qV c a y n s,.loc e] σ=some (iV t,s'))->Rg p L τ σ (La (qA m c a y n s)) r (af P (d'+9) 67 [.loc p.wl,qV c a y n s,.loc e] σ):=λ{tc ta ty tn L1 fF bD} g c1 k1 k2 k3 k4 run=>
  (gV g.1.1.1 (d'+7) (row:=bf tc ta ty tn s) (by cases s<;>rfl) c1).el λt jG dx p2 r2 c2 e2=> .mk (t:=t) ((g0.w.trans (g.trans (g.1.Mt p2))).cut λab h=>abD h.symm) (bH.mpr ⟨tc,ta,ty,tn,r2,k1.mono p2.2,k2.mono p2.2,k3.mono p2.2,k4.mono p2.2⟩) c2 (run e2)
 obtain w1:=g0.1.1.2.turned;revert w1;cases p.tr
 ·intro w1;refine yI (aab _) jc ja jy jn I (by show[[99,104,101,99,107],[97,115,107,101,100],[121,101,115],[110,111]].Nodup;decide) (r:=1+r) (hb.le (by simp+arith)) λtc ta ty tn L1 fF bD g c1 k1 k2 k3 k4 f e1=>kk (fin g c1 k1 k2 k3 k4 λe2=> ?_);obtain k:∀{key:List Nat} {v:V},bx [sV [99,104,101,99,107],sV [97,115,107,101,100],sV [121,101,115],sV [110,111]] [iV tc,iV ta,iV ty,iV tn] (sV key)=some v->bS bD (.loc σ.n) (sV key)=some v:=λhf=>dR f rfl hf;exact run [.r,.v w1,.r,.l e1,.v g.1.1.2.tab,.n (ql g.1.1.1),.v (k (key:=[99,104,101,99,107]) rfl),.v (k (key:=[97,115,107,101,100]) rfl),.v (k (key:=[121,101,115]) rfl),.v (k (key:=[110,111]) rfl),.r,.c e2,.r] (by kernel_rfl)
 ·intro w1;refine yI (aab _) jn jy ja jc I (by show[[110,111],[121,101,115],[97,115,107,101,100],[99,104,101,99,107]].Nodup;decide) (r:=1+r) (hb.le (by simp+arith)) λtn ty ta tc L1 fF bD g c1 k4 k3 k2 k1 f e1=>kk (fin g c1 k1 k2 k3 k4 λe2=> ?_);obtain k:∀{key:List Nat} {v:V},bx [sV [110,111],sV [121,101,115],sV [97,115,107,101,100],sV [99,104,101,99,107]] [iV tn,iV ty,iV ta,iV tc] (sV key)=some v->bS bD (.loc σ.n) (sV key)=some v:=λhf=>dR f rfl hf;exact run [.r,.v w1,.r,.l e1,.v g.1.1.2.tab,.n (ql g.1.1.1),.v (k (key:=[99,104,101,99,107]) rfl),.v (k (key:=[97,115,107,101,100]) rfl),.v (k (key:=[121,101,115]) rfl),.v (k (key:=[110,111]) rfl),.r,.c e2,.r] (by kernel_rfl)
theorem laid(p:Pl)(m:Ab.Env)(e:Nat)(b:Br):AL m b->Laid p m e (CI b) (cst b) b:=by
 induction b with
 |sd x=>exact vZ p e
 |q c a y n s Rq SA=>intro R d hd L τ σ r H A hb;refine A4 R λRc Ra Ry Rn=> ?_;obtain hd:max (CI y) (CI n)+2<=d:=hd;obtain⟨k,rfl⟩:∃k,d=k+2:=⟨d -2,by lia⟩;refine(v7 (s:=s) Rc Ra (Rq Ry) (SA Rn) k (by lia) H A hb).el λt L' ay aq g k1 c1 e1=> .mk (t:=t) g ?_ c1 (run [.r,.c e1,.r] (by kernel_rfl));exact k1
noncomputable def Pl.Ig(p:Pl)(ks vs:List V):Pl:={p with ks:=ks,vs:=vs}
inductive Wx(ks vs:List V):Prop
 |mk(len:ks.length=vs.length)(str:ks.all V.isStr=true)
theorem Ih{x y:V}(hx:V.isStr x=true)(ks:List V):∀vs:List V,Wx ks vs->Wx (putK ks vs x y).1 (putK ks vs x y).2/\∀z,bx (putK ks vs x y).1 (putK ks vs x y).2 z=if x=z then some y else bx ks vs z:=by
 obtain bt:∀{a b:V} {α:Type} {u v:α},(if V.beq a b=true then u else v)=if a=b then u else v:=by simp only[beq_iff,implies_true]
 induction ks with
 |nil=>
  intro vs h;cases vs with
  |cons ab ai=>cases h.1
  |nil=>exact⟨⟨rfl,by show(V.isStr x &&true)=true;rw[hx];rfl⟩,λz=>bt⟩
 |cons a ks ih=>
  intro vs h;cases vs with
  |nil=>cases h.1
  |cons v vs=>
   obtain h2:=abT.mp h.2;obtain i:=ih vs ⟨acm h.1,h2.2⟩;rw[show putK (a::ks) (v::vs) x y=if a=x then(a::ks,y::vs)else(a::(putK ks vs x y).1,v::(putK ks vs x y).2)from bt];by_cases e:a=x
   ·rw[if_pos e];refine⟨⟨h.1,h.2⟩,λz=> ?_⟩;show(if V.beq a z=true then some y else bx ks vs z)=if x=z then some y else if V.beq a z=true then some v else bx ks vs z;rw[bt,bt,e];by_cases k:x=z
    ·rw[if_pos k,if_pos k]
    ·rw[if_neg k,if_neg k,if_neg k]
   ·rw[if_neg e];refine⟨⟨congrArg (λx=>x+1) i.1.1,abT.mpr ⟨h2.1,i.1.2⟩⟩,λz=> ?_⟩;show(if V.beq a z=true then some v else bx (putK ks vs x y).1 (putK ks vs x y).2 z)=if x=z then some y else if V.beq a z=true then some v else bx ks vs z;rw[i.2,bt,bt];by_cases k:x=z
    ·rw[if_pos k,if_pos k,if_neg λq=>e (q.trans k.symm)]
    ·rw[if_neg k,if_neg k]
def Xk(x:List Nat):Prop:=x=[114,111,119]\/x=[84]\/x=[85]
section
variable {p:Pl}{L L':List (Nm×Nat)}{τ ay:TT}{σ aq:St}{ks vs:List V}
theorem LW.put(H:LW p L τ σ)(X:Wx p.ks p.vs)(hk:p.ks.length<=900){x:List Nat}(y:V)(hx:Xk x){q:Pl}(hq:q=p.Ig (putK p.ks p.vs (sV x) y).1 (putK p.ks p.vs (sV x) y).2):LW q L τ (σ.set p.wl (wO q))/\cL σ (.loc p.wl) (sV x) y=some (σ.set p.wl (wO q)):=by
 subst hq;obtain P:=H.1.4;obtain s:(Cz++(putK p.ks p.vs (sV x) y).1).all V.isStr=true:=by rw[ada,(Ih rfl _ _ X).1.2];rfl
 refine⟨⟨⟨H.1.1.set P.1.1 _,⟨if_pos rfl,(if_neg P.10).trans H.1.2.2,s⟩,⟨(if_neg P.6.symm).trans H.1.3.1,(if_neg P.7.symm).trans H.1.3.2,H.1.3.3⟩,⟨P.1,P.2,P.3,P.4,P.5,P.6,P.7,P.8,P.9,P.10⟩⟩,H.2⟩,?_⟩;show(match σ.f p.wl with | .lst vs=>_ | .bV ks vs=>_ |_=>_)=_;rw[H.1.2.1];refine(b7 (by simp only[dX H.1.2.3,decide_eq_true (show(Cz++p.ks).length+1<big by rw[aah];exact aai (abm (aav hk 5)) ((aaq rfl):5+900+1<big))];rfl)).trans ?_;rcases hx with e |e |e<;>subst e<;>rfl
structure Qz where
 c:Sd
 a:Sd
 y:Br
 n:Br
 s:Bool
 m:Ab.Env
 e:Nat
abbrev Qz.v(q:Qz):V:=qV q.c q.a q.y q.n q.s
inductive Kz(q:Qz)(z:List Nat)(τ:TT)(t:Nat):Prop
 |mk(r:z=[114,111,119]->au τ (qA I0 q.c q.a q.y q.n q.s) t)(T:z=[84]->ar τ (aR q.m.T) t)(U:z=[85]->ar τ (aR q.m.U) t)
def Fd(p:Pl)(q:Qz)(τ:TT)(z:List Nat):Prop:=∃t,bx p.ks p.vs (sV z)=some (iV t)/\Kz q z τ t
inductive Xi(p:Pl)(q:Qz)(L:List (Nm×Nat))(τ:TT)(j:Nat):Prop
 |mk(n:j<20->∃t,(vA j,t)∈L)(r:j=20->Fd p q τ [114,111,119])(k:j=21->Fd p q τ [84]/\Fd p q τ [85])
inductive CJ(p:Pl)(q:Qz)(done:List Nat)(L:List (Nm×Nat))(τ:TT)(σ:St):Prop
 |mk(lw:LW p L τ σ)(wx:Wx p.ks p.vs)(en:At p q.e (bZ q.m) σ)(ew:q.e≠p.wl)(f:∀j∈done,Xi p q L τ j)
variable {q:Qz}{done:List Nat}
theorem Fd.mono{z:List Nat}(h:Fd p q τ z)(le:τ.Le ay):Fd p q ay z:=ah h λt f k=>⟨t,f,λe=>au.mono le _ _ (k.1 e),λe=>(k.2 e).mono le,λe=>(k.3 e).mono le⟩
theorem CJ.gt(I:CJ p q done L τ σ)(g:Gt p EW L τ σ L' ay aq):CJ p q done L' ay aq:=
 ⟨g.1,I.2,I.3.x g id,I.4,λj hj=>have J:=I.5 j hj;⟨λh=>(J.1 h).imp λab k=>g.5 _ k,λe=>(J.2 e).mono g.2,λe=>(J.3 e).imp (·.mono g.2) (·.mono g.2)⟩⟩
theorem CJ.put(I:CJ p q done L τ σ)(hk:p.ks.length<=900){x:List Nat}{t:Nat}(hx:Xk x)(k:Kz q x τ t){G:Prop}
  (kk:∀ks vs aq,cL σ (.loc p.wl) (sV x) (iV t)=some aq->CJ (p.Ig ks vs) q done L τ aq->ks.length<=p.ks.length+1->Fd (p.Ig ks vs) q τ x->(∀z,Fd p q τ z->Fd (p.Ig ks vs) q τ z)->G):G:=by
 obtain X:=Ih (x:=sV x) (y:=iV t) rfl _ _ I.2;obtain S:=I.1.put I.2 hk (iV t) hx rfl;have keep:∀z,Fd p q τ z->Fd (p.Ig (putK p.ks p.vs (sV x) (iV t)).1 (putK p.ks p.vs (sV x) (iV t)).2) q τ z:=λz h=>ah h λu f m=>by
  by_cases e:sV x=sV z
  ·exact⟨t,(X.2 (sV z)).trans (if_pos e),(V.str.inj e:x=z)▸k⟩
  ·exact⟨u,(X.2 (sV z)).trans ((if_neg e).trans f),m⟩
 exact kk _ _ _ S.2 ⟨S.1,X.1,⟨⟨I.3.1.1,I.3.1.2,I.3.1.3⟩,I.3.2,(if_neg I.4).trans I.3.3⟩,I.4,λj hj=>have J:=I.5 j hj;⟨J.1,λe=>keep _ (J.2 e),λe=>(J.3 e).imp (keep _) (keep _)⟩⟩ (jQ I.2.1 _ _).1 ⟨t,(X.2 (sV x)).trans (if_pos rfl),k⟩ keep
inductive Bg(g:Nat)(p:Pl)(τ:TT):Prop
 |mk(c:Cr (1000*g+950000) τ)(k:p.ks.length+2*g<=900)
inductive Lq(q:Qz):Prop
 |mk(Rc:lB I0 q.c)(Ra:lB I0 q.a)(Ry:AL I0 q.y)(Rn:AL I0 q.n)(hd:max (CI q.y) (CI q.n)<=18)(hc:cst q.y+cst q.n+83<=1000)(cm:fk q.m)(lT:q.m.T.length<=20)(lU:q.m.U.length<=20)
abbrev tE(p:Pl)(q:Qz)(o x6 x7:Option V):En:=[some q.v,some (.loc q.e),o,some (.bool p.tr),some (.loc p.dd),some (.loc p.wl),x6,x7]
abbrev RT(p:Pl)(q:Qz)(d:Nat)(o:Option V)(js:List Nat)(x6 x7:Option V)(σ:St):Res:=dk 6 (λr s=>dS P (af P (d+20)) (lb 68 0) r s) (js.map iV) (tE p q o x6 x7) σ
abbrev RU(p:Pl)(q:Qz)(d:Nat)(o:Option V)(xs:List Nm)(x6 x7:Option V)(σ:St):Res:=dk 7 (λr s=>dS P (af P (d+20)) (lb 68 1) r s) (xs.map nV) (tE p q o x6 x7) σ
theorem Zu(O:Lq q)(I:CJ p q done L τ σ)(d:Nat)(o x7:Option V){j g:Nat}(hj:j<23)(b:Bg (g+1) p τ){G:Prop}
  (kk:∀ks vs L' ay aq,CJ (p.Ig ks vs) q (j::done) L' ay aq->Bg g (p.Ig ks vs) ay->dS P (af P (d+20)) (lb 68 0) (tE p q o (some (iV j)) x7) σ=some (.next,tE p q o (some (iV j)) x7,aq)->G):G:=by
 obtain H:=I.1;obtain bk:=b.2;obtain c0:∀{n:Nat},n<=1000->Cr (n+(1000*g+950000)) τ:=λh=>b.1.le (by lia);have add:∀ks vs {L' ay aq},CJ (p.Ig ks vs) q done L' ay aq->Xi (p.Ig ks vs) q L' ay j->Cr (1000*g+950000) ay->ks.length<=p.ks.length+2->dS P (af P (d+20)) (lb 68 0) (tE p q o (some (iV j)) x7) σ=some (.next,tE p q o (some (iV j)) x7,aq)->G:=λks vs {L' ay aq} I J c l e=>kk ks vs L' ay aq ⟨I.1,I.2,I.3,I.4,aaX.mpr ⟨J,I.5⟩⟩ ⟨c,by show ks.length+_<=_;lia⟩ e;by_cases IQ:j<20
 ·refine(AI H (d+14) (vA j) (c0 (aaq rfl))).el λt L' ay aq g m c e=> ?_;exact add p.ks p.vs (I.gt g) ⟨λab=>⟨t,m⟩,λe=>absurd IQ (by lia),λe=>absurd IQ (by lia)⟩ c (aao _ _) (eR [.b (congrArg some (decide_eq_true (by lia)):aS σ .lt (iV j) (.int 20)=some true),.v (xU σ j IQ),.c e] (by kernel_rfl))
 ·obtain Zv:j=20\/j=21\/j=22:=by lia
  rcases Zv with e |e |e<;>subst e
  ·obtain x:=(Ext.cw σ [nV 23]).trans (Ext.cw (cw σ [nV 23]) [nV 24]);refine(v7 (s:=q.s) O.1 O.2 (laid p I0 _ q.y O.3) (laid p I0 _ q.n O.4) (d+19) (by obtain this:=O.5;lia) (H.xt (X:=EW) (x.trans (Ext.new _ (bZ I0)))).1 (At.new (H.1.4.up x.n) _) (c0 O.6)).el λt L' ay aq g k c e=> ?_;refine((I.gt (H.xt (x.trans (Ext.new _ (bZ I0))))).gt g).put (by lia) (.inl rfl) ⟨λab=>k,(λq=>nomatch q),(λq=>nomatch q)⟩ λks vs dx st I4 l F ab=> ?_;exact add ks vs I4 ⟨λh=>absurd h (by decide),λab=>F,(λq=>nomatch q)⟩ c (acu l) (eR [.r,.r,.f (aP σ [nV 23]),.f (aP (cw σ [nV 23]) [nV 24]),.r,.c e,.s st] (by kernel_rfl))
  ·refine(sF H (d+13) q.m.T O.8 (r:=41+(1000*g+950000)) (Cr.as (c0 (aaq rfl)))).el λt1 L1 fF bD g1 k1 c1 e1=> ?_;refine(I.gt g1).put (x:=[84]) (t:=t1) (by lia) (.inr (.inl rfl)) ⟨(λq=>nomatch q),λab=>(O.7.T▸k1:ar _ _ _),(λq=>nomatch q)⟩ λZw vs1 dx s1 I2 l1 F1 ab=> ?_;refine(sF I2.1 (d+13) q.m.U O.9 c1).el λt2 L2 jG wu g2 k2 c2 e2=> ?_;refine(I2.gt g2).put (x:=[85]) (t:=t2) (by show Zw.length<=900;lia) (.inr (.inr rfl)) ⟨(λq=>nomatch q),(λq=>nomatch q),λab=>(O.7.U▸k2:ar _ _ _)⟩ λVd Vg PK s2 I4 l2 F2 K=> ?_;exact add Vd Vg I4 ⟨λh=>absurd h (by decide),(λq=>nomatch q),λab=>⟨K _ (F1.mono g2.2),F2⟩⟩ c2 (aaa l2 (abm l1)) (eR [.r,.r,.r,.v (uu I.3.3 true:bS σ (.loc q.e) (nV 23)=some (cF q.m.T)),.c (e1:af P (d+20) 65 [.loc p.wl,cF q.m.T] σ=_),.s s1,.v (uu I2.3.3 false:bS dx (.loc q.e) (nV 24)=some (cF q.m.U)),.c (e2:af P (d+20) 65 [.loc p.wl,cF q.m.U] dx=_),.s s2] (by kernel_rfl))
  ·refine(yu H.1.1 (d+18) 8 (c0 (by decide))).el λt ay aq z ab c e=> ?_;exact add p.ks p.vs (I.gt (H.Mt z)) ⟨λh=>absurd h (by decide),(λq=>nomatch q),(λq=>nomatch q)⟩ c (aao _ _) (eR [.r,.r,.r,.v H.1.2.tab,.c e] (by kernel_rfl))
theorem Vh(O:Lq q)(d:Nat)(o x7:Option V)(js:List Nat):∀(p:Pl) (done:List Nat) (L:List (Nm×Nat)) (τ:TT) (σ:St) (x6:Option V),(∀j∈js,j<23)->CJ p q done L τ σ->Bg js.length p τ->
  ∃ks vs L' ay aq y6,CJ (p.Ig ks vs) q (js.reverse++done) L' ay aq/\Cr 950000 ay/\RT p q d o js x6 x7 σ=some (.next,tE p q o y6 x7,aq):=by
 induction js with
 |nil=>intro p done L τ σ x6 dJ I b;exact PQ p.ks p.vs L τ σ x6 I b.1 rfl
 |cons j js ih=>intro p done L τ σ x6 hj I b;refine Zu O I d o x7 (hj j aac) b λks vs L1 fF bD I1 b1 e1=> ?_;refine PR (ih (p.Ig ks vs) (j::done) L1 fF bD (some (iV j)) (λi hi=>hj i (aaf _ hi)) I1 b1) λVd Vg L2 jG dx y6 I2 c2 e2=> ?_;exact PQ Vd Vg L2 jG dx y6 (by rw[ady,aaJ];exact I2) c2 ((aJ e1).trans e2)
theorem ends(d:Nat)(o x6:Option V){r:Nat}(xs:List Nm):∀(L:List (Nm×Nat)) (τ:TT) (σ:St) (x7:Option V),CJ p q done L τ σ->Cr (2*xs.length+r) τ->
  ∃L' ay aq y7,CJ p q done L' ay aq/\Cr r ay/\(∀q∈L,q∈L')/\(∀x∈xs,∃t,(x,t)∈L')/\RU p q d o xs x6 x7 σ=some (.next,tE p q o x6 y7,aq):=by
 induction xs with
 |nil=>intro L τ σ x7 I hb;exact CQ L τ σ x7 I (hb.le (aaj ..)) (λab h=>h) (aar _) rfl
 |cons x xs ih=>intro L τ σ x7 I hb;refine(AI I.1 (d+14) x (r:=2*xs.length+r) (hb.le (by simp only[aax];simp+arith))).el λt L1 fF bD g m c e=> ?_;refine jI (ih L1 fF bD (some (nV x)) (I.gt g) c) λL2 jG dx y7 I2 c2 s2 m2 e2=> ?_;exact CQ L2 jG dx y7 I2 c2 (λq h=>s2 q (g.5 q h)) (aaX.mpr ⟨⟨t,s2 _ m⟩,m2⟩) ((aJ (eR [.c e] (by kernel_rfl))).trans e2)
inductive Made(p:Pl)(q:Qz)(ord:List Nat)(L:List (Nm×Nat))(τ:TT)(σ:St):Prop
 |mk(i:CJ p q ord L τ σ)(all:∀x:Nm,∃t,(x,t)∈L)(Cy:Cr 900000 τ)
noncomputable def Ii(l n dd:Nat)(tr:Bool):Pl:=⟨n+2,l,n,n+1,dd,tr,[],[]⟩
def Xj(p:Pl)(σ:St):St:=((σ.new (.bV [] [])).new (.bV [] [])).new (wO p)
theorem EV.base{l n dd:Nat}(tr:Bool)(h:l+8<n)(hd:dd<l):EV (Ii l n dd tr) (n+3):=
 ⟨⟨aeQ 2 h,aap _⟩,⟨h,acs (aaq rfl)⟩,⟨aeQ 1 h,abq (aap _)⟩,⟨.inl (abq hd),by show dd<n+3;lia⟩,aaF (aap n),by show n+2≠n;simp+arith,by show n+2≠n+1;simp+arith,by show dd≠n;lia,by show dd≠n+1;lia,by show dd≠n+2;lia⟩
theorem Ij{bD dx:St}{dd E F:Nat}(tr:Bool)(hd:dd<bD.n)(x:Ext bD dx)(T:Tb bD.n ⟨gu,[],E,F⟩ dx)(hf:bD.f dd= .bV [sV [69],sV [70]] [iV E,iV F]):LW (Ii bD.n dx.n dd tr) [] ⟨gu,[],E,F⟩ (Xj (Ii bD.n dx.n dd tr) dx):=by obtain x2:=Ext.new (dx.new (.bV [] [])) (.bV [] []);obtain x3:=Ext.new ((dx.new (.bV [] [])).new (.bV [] [])) (wO (Ii bD.n dx.n dd tr));obtain xx:=((Ext.new dx (.bV [] [])).trans x2).trans x3;exact⟨⟨T.ext xx,⟨bY ..,(xx.f dd (aak hd x.n)).trans ((x.f dd hd).trans hf),rfl⟩,⟨((x2.trans x3).f dx.n (aap _)).trans (bY ..),(x3.f (dx.n+1) (aap _)).trans (bY ..),aar _⟩,.base tr T.7 hd⟩,aar _,abA,aab _⟩
theorem uF(O:Lq q)(tr:Bool)(he:q.e<σ.n)(hm:σ.f q.e=bZ q.m)(d:Nat)(ord:List Nat)(ho:∀j∈ord,j<23)(hl:ord.length=23)(IQ:∀j<20,j∈ord)(o:Option V)(E F:Nat)(ef:E≠F)(xs:List Nm)(hx:∀z:Nm,z.val<20\/z∈xs)(lx:xs.length=5){x:Option (V×St)}
  (run:∀{dx y6 y7 s1 s2},wI P (af P (d+20)) (σ.new (.bV [sV [69],sV [70]] [iV E,iV F])) 0 []=some (.loc (σ.n+1),dx)->RT (Ii (σ.n+1) dx.n σ.n tr) q d o ord none none (Xj (Ii (σ.n+1) dx.n σ.n tr) dx)=some (.next,tE (Ii (σ.n+1) dx.n σ.n tr) q o y6 none,s1)->RU (Ii (σ.n+1) dx.n σ.n tr) q d o xs y6 none s1=some (.next,tE (Ii (σ.n+1) dx.n σ.n tr) q o y6 y7,s2)->x=some (.loc (dx.n+2),s2)):
  ∃p L τ aq,Made p q ord.reverse L τ aq/\q.e<p.l/\x=some (.loc p.wl,aq):=by
 refine dw (Ey (d+18) (σ.new (.bV [sV [69],sV [70]] [iV E,iV F])) E F ef) λdx x T e0=> ?_;obtain lt:σ.n+1<dx.n:=aai (aao _ 8) T.7;refine PR (Vh O d o none ord (Ii (σ.n+1) dx.n σ.n tr) [] [] _ _ none ho ⟨(Ij tr (aap σ.n) x T (bY ..)),⟨rfl,rfl⟩,⟨⟨.inl (abq (abq he)),by show q.e≠dx.n;lia,by show q.e≠dx.n+1;lia⟩,by show q.e<dx.n+3;lia,((((Ext.new σ (.bV [sV [69],sV [70]] [iV E,iV F])).trans x).trans ((Ext.new dx (.bV [] [])).trans ((Ext.new _ (.bV [] [])).trans (Ext.new _ (wO (Ii (σ.n+1) dx.n σ.n tr)))))).f q.e he).trans hm⟩,by show q.e≠dx.n+2;lia,aar _⟩ (by rw[hl];exact⟨by show 16+_+2000<=1000000;decide,by show 0+2*23<=900;decide⟩)) λks vs L1 fF s1 y6 I1 c1 e1=> ?_;refine jI (ends d o y6 (r:=900000) xs L1 fF s1 none I1 (c1.le (by rw[lx];decide))) λL2 jG s2 y7 I2 c2 Zx m2 e2=> ?_;simp only[aaV]at I2;exact MJ _ L2 jG s2 ⟨I2,λz=>(hx z).elim (λh=>by obtain k:=(I2.5 z.val (acY.mpr (IQ _ h))).1 h;rw[(by decide:∀z:Nm,vA z.val=z) z]at k;exact k) (m2 z),c2⟩ (abq he) (run e0 e1 e2)
theorem EF(O:Lq q)(tr:Bool)(he:q.e<σ.n)(hm:σ.f q.e=bZ q.m)(d:Nat)(ord:List Nat)(ho:∀j∈ord,j<23)(hl:ord.length=23)(IQ:∀j<20,j∈ord):∃p L τ aq,Made p q ord.reverse L τ aq/\q.e<p.l/\af P (d+21) 68 [q.v,.loc q.e,.bI (ord.map iV),.bool tr] σ=some (.loc p.wl,aq):=by
 cases tr
 ·exact uF O false he hm d ord ho hl IQ (some (.bI (ord.map iV))) 1 4 (by decide) [23,24,20,21,22] (by decide) rfl λe0 e1 e2=>run [.r,.c e0,.r,.r,.r,.r,.l e1,.r,.l e2] (by kernel_rfl)
 ·exact uF O true he hm d ord ho hl IQ (some (.bI (ord.map iV))) 5 2 (by decide) [24,23,20,21,22] (by decide) rfl λe0 e1 e2=>run [.r,.c e0,.r,.r,.r,.r,.l e1,.r,.l e2] (by kernel_rfl)
end
theorem AM{a:Atom}:∀{l:List Atom},a∉l->l.Nodup->(rI a l).Nodup:=by
 intro v_;induction v_ with
 |nil=>intro dJ dJ;exact aaB _ _
 |cons b r ih=>
  intro h k;refine A2 (aaM.mp k) λk1 k2=> ?_;simp only[rI];split
  ·refine aaM.mpr ⟨λq=> ?_,ih (λq=>h (aaf _ q)) k2⟩;rcases rJ.mp q with e |m
   ·exact h (e▸aac)
   ·exact k1 m
  ·exact aaM.mpr ⟨h,k⟩
theorem yJ:∀{l:List Atom},l.Nodup->(gN l).Nodup:=by
 intro v_;induction v_ with
 |nil=>intro dJ;exact abA
 |cons a r ih=>intro h;refine A2 (aaM.mp h) λh1 h2=> ?_;exact AM (λq=>h1 (oB.mp q)) (ih h2)
theorem EH{l bs:List Atom}(hl:oh txt l)(nd:bs.Nodup)(h:∀b,b∈bs↔b∈l):gN bs=l:=by
 refine kA ?_ hl λb=>oB.trans (h b);refine List.Pairwise.imp₂ (λa b k ne=> ?_) (xP bs) (yJ nd);cases q:jD (txt a) (txt b)
 ·exact absurd (vg (rC q k)) ne
 ·rfl
section
variable {p:Pl}{L:List (Nm×Nat)}{τ:TT}
theorem Ik{σ:St}(H:LW p L τ σ){x:Nm}(hx:∃t,(x,t)∈L){t:Nat}(h:az τ x t)(d:Nat)(w:V):cX (af P d) σ .get 0 (.loc p.nz) [iV t,w]=some (nV x,σ):=by refine pE hx λu hu=> ?_;obtain M:=H.1.3;show om (σ.f p.nz).gP (λq=>og (bM (iV t::q.1)) (some ((bx q.1 q.2 (iV t)).getD w,σ)))=_;rw[M.2,gH H.1.1.8 h (M.3 _ hu)];refine(b7 (by unfold bM;simp only[abe,CA];rfl)).trans ?_;rw[yv (f:=λq=>iV q.2) (g:=λq=>nV q.1) (q:=(x,u)) (λa ha e=>congrArg nV (fj H.1.1.8 ((HS e:a.2=u)▸M.3 a ha) (M.3 _ hu))) hu];rfl
def ke(p:Pl)(L:List (Nm×Nat))(τ:TT)(A:Atom):Prop:=∀d,2*ht A+1<=d->∀σ t,LW p L τ σ->au τ A t->∃aq,Ext σ aq/\af P d 70 [.loc p.wl,iV t] σ=some (aV A,aq)
theorem EI(d:Nat)(t:V)(row:V):∀(z:List (Nat×Atom)) (σ:St),LW p L τ σ->(∀q∈z,au τ q.2 q.1/\ke p L τ q.2/\2*ht q.2+1<=d)->∃aq,Ext σ aq/\cB (λr s=>bR P (af P d) (ce 69 0) r s) (λr s=>il P (af P d) (cc 69 0) r s) [some (.loc p.wl),some t,some row] (z.map λq=>iV q.1) σ=some (z.map λq=>aV q.2,aq):=by
 intro v_;induction v_ with
 |nil=>intro σ dJ dJ;exact cq σ (Ext.refl σ) rfl
 |cons q z ih=>
  intro σ H h;refine A3 (h q aac) λh1 h2 h3=> ?_;refine ah (h2 d h3 σ q.1 H h1) λbD x1 e1=> ?_;refine ah (ih bD (H.e x1) λr hr=>h r (aaf _ hr)) λdx x2 e2=> ?_;refine cq dx (x1.trans x2) ?_;obtain k1:bR P (af P d) (ce 69 0) [some (.loc p.wl),some t,some row,some (iV q.1)] σ=some (aV q.2,bD):=by exact bU [.c e1] (by kernel_rfl)
  obtain k0:il P (af P d) (cc 69 0) [some (.loc p.wl),some t,some row,some (iV q.1)] σ=some (true,σ):=by kernel_rfl
  exact(aQ k0).trans ((aQ k1).trans (aQ e2))
theorem qr{l:List Atom}(hn:∀b∈l,ke p L τ b)(hs:oh txt l)(hc:∀b∈l,Cn b)(hl:l.length<=61)(d:Nat)(hd:2*m7 l+2<=d)(σ:St)(t:Nat)(H:LW p L τ σ)(ht:ar τ l t):∃aq,Ext σ aq/\af P d 69 [.loc p.wl,iV t] σ=some (cD l,aq):=by
 obtain⟨k,rfl⟩:∃k,d=k+1:=⟨d -1,by lia⟩;obtain w1:=H.1.2.tab;obtain a0:=H.1.1.a0
 match l,hn,hs,hc,hl,hd,ht with
 |[],ab,ai,aD,bO,fc,ht=>subst ht;obtain r:bS σ (.loc (p.l+1)) (.int 2)=some (dh never):=H.1.1.at (H.1.1.8.fst 2 _ rfl);refine cq _ (Ext.cw σ []) ?_;exact run [.v w1,.v a0,.v r,.r,.f (aP σ []),.r] (by kernel_rfl)
 |[b],hn,ab,ai,aD,hd,pQ=>
  have hb:=pQ;refine ah (kI hb σ) λv r1 k1=> ?_;obtain r:=H.1.1.at r1;obtain n2:aS σ .eq (iV t) (.int 2)=some false:=eq_int (decide_eq_false λe=>by obtain e:t=2:=aaO e;subst e;have:=je H.1.1.8 (As:=[b]) hb;cases this)
  obtain n6:aS σ .eq (.int (Rx b)) (.int 6)=some false:=eq_int (decide_eq_false (Cc b));obtain⟨bD,x1,e1⟩:=hn b aac k (by rw[m7]at hd;obtain this:=aaW (Wk.ht b) (m7 []);lia) σ t H hb;refine cq _ (x1.trans (Ext.cw bD [aV b])) ?_;exact run [.v w1,.v a0,.v r,.b n2,.v k1,.b n6,.c e1,.f (aP bD [aV b]),.r] (by kernel_rfl)
 |a::b::l,hn,hs,hc,hl,hd,pQ=>
  refine jH (fJ.mp pQ) λts r1 q2 q3 q4 q5=> ?_;obtain r:=H.1.1.at r1;have n2:aS σ .eq (iV t) (.int 2)=some false:=eq_int (decide_eq_false λe=>by have e:t=2:=aaO e;subst e;have:=je H.1.1.8 (As:=a::b::l) pQ;cases this)
  obtain hz:∃z:List (Nat×Atom),z.map (λx=>x.1)=ts/\∀q∈z,q.2∈a::b::l/\au τ q.2 q.1:=by
   obtain this:∀us:List Nat,(∀i∈us,∃c∈a::b::l,au τ c i)->∃z:List (Nat×Atom),z.map (λx=>x.1)=us/\∀q∈z,q.2∈a::b::l/\au τ q.2 q.1:=λus=>by
    induction us with
    |nil=>exactλab=>⟨[],rfl,aar _⟩
    |cons i us ih=>intro h;refine ah (ih λj hj=>h j (aaf _ hj)) λz z1 z2=> ?_;refine ah (h i aac) λc c1 c2=> ?_;exact⟨(i,c)::z,by simp only[aaH,z1],λq hq=>(aam.mp hq).elim (λe=>by rw[e];exact⟨c1,c2⟩) (z2 q)⟩
   exact this ts q4
  refine ah hz λz z1 z2=> ?_;obtain hm:∀c∈a::b::l,2*Wk.ht c+1<=k:=λc hc=>by obtain this:=Az hc;lia
  refine ah (EI (p:=p) (L:=L) (τ:=τ) k (iV t) (dU ts) z σ H λq hq=>⟨(z2 q hq).2,hn _ (z2 q hq).1,hm _ (z2 q hq).1⟩) λbD x1 e1=> ?_;obtain em:(z.map λq=>iV q.1)=ts.map iV:=by simp only[<-z1,aay];rfl
  obtain ea:(z.map λq=>aV q.2)=(z.map (λx=>x.2)).map aV:=by simp only[aay];rfl
  simp only[em,ea]at e1;obtain nd:(z.map (λx=>x.2)).Nodup:=by
   obtain n1:(z.map (λx=>x.1)).Nodup:=z1▸q2.imp λh e=>by lia
   obtain this:∀z:List (Nat×Atom),(∀q∈z,au τ q.2 q.1)->(z.map (λx=>x.1)).Nodup->(z.map (λx=>x.2)).Nodup:=λz=>by
    induction z with
    |nil=>exactλab ai=>abA
    |cons q z ih=>intro h n;refine A2 (aaM.mp n) λn1 n2=> ?_;refine aaM.mpr ⟨λm=>n1 ?_,ih (λr hr=>h r (aaf _ hr)) n2⟩;refine ah (aal.mp m) λr hr e=> ?_;obtain k1:=h r (aaf _ hr);simp only[e]at k1;simp only[i7 H.1.1.8 _ _ _ (h q aac) k1];exact aan hr
   exact this z (λq hq=>(z2 q hq).2) n1
  obtain same:∀c,c∈z.map (λx=>x.2)↔c∈a::b::l:=λc=>by
   constructor
   ·intro h;refine ah (aal.mp h) λq hq e=> ?_;exact e▸(z2 q hq).1
   ·intro h;refine ah (q5 c h) λi hi k1=> ?_;rw[<-z1]at hi;refine ah (aal.mp hi) λq hq e=> ?_;obtain k2:=(z2 q hq).2;simp only[e]at k2;simp only[mS H.1.1.8 c q.2 i (hc c h) (hc _ (z2 q hq).1) k1 k2];exact aan hq
  obtain so:=EH hs nd same;obtain lz:(z.map (λx=>x.2)).length<64:=by
   obtain this:=congrArg abw so;obtain k2:∀w:List Atom,(gN w).length=w.length:=λw=>by obtain this:=congrArg abw (oA w);rw[aae]at this;simp only[this,(q9 _).length_eq,aae]
   rw[k2]at this;lia
  obtain sv:iu bD (cD (z.map (λx=>x.2)))=some ((a::b::l).map aV):=by rw[um lz,so]
  obtain bs:sX bD .sorted (.bI ((z.map (λx=>x.2)).map aV))=some (.bI ((a::b::l).map aV),bD):=by show om (iu bD _) _=_;rw[show iu bD (.bI ((z.map (λx=>x.2)).map aV))=_ from sv];rfl
  obtain ya:some (decide ((ts.map iV).length<big))=some true:=gq (by obtain this:=congrArg abw z1;rw[aae]at this lz⊢;obtain this:(1000000:Nat)=big:=rfl;lia)
  refine cq bD x1 ?_;exact run [.v w1,.v a0,.v r,.b n2,.r,.r,.r,.r,.b ya,.m e1,.c bs,.r] (by kernel_rfl)
end
mutual
noncomputable def Len:Atom->Prop
 | .n ab=>True
 | .cond ab ai y n aD=>y.length<=61/\n.length<=61/\AN y/\AN n
noncomputable def AN:List Atom->Prop
 |[]=>True
 |a::r=>Len a/\AN r
end
theorem yK:∀{l:List Atom},AN l↔∀b∈l,Len b:=by
 intro v_;induction v_ with
 |nil=>simp[AN]
 |cons a r ih=>simp only[AN,ih];simp
theorem RV{t u:Nat}(ht:1<=t)(hu:1<=u)(c a:List Nm)(y n:List Atom)(s:Bool):∃t1 u1,1<=t1/\1<=u1/\fv t1 u1 y<=FF t u (.cond c a y n s)/\fv t1 u1 n<=FF t u (.cond c a y n s):=by
 simp only[FF];split
 ·refine⟨1,u,aab _,hu,?_⟩;split<;>exact⟨aM (aao _ _),aM (aaj _ _)⟩
 ·split
  ·refine⟨t,1,ht,aab _,?_⟩;split<;>exact⟨aM (aao _ _),aM (aaj _ _)⟩
  ·refine⟨t,u,ht,hu,?_⟩;split
   ·exact⟨aM (aao _ _),aM (aaj _ _)⟩
   ·obtain k:∀q,q<=(if s=true then max 1 c.length else 1)*q:=λq=>aaE _ (by split;exact gX _;exact aab _);exact⟨aaa HV (k _),aaa HW (k _)⟩
mutual
theorem Il:∀(A:Atom) {t u:Nat},1<=t->1<=u->FF t u A<=61->Len A
 | .n ab,ai,aD,bO,fc,ny=>trivial
 | .cond c a y n s,t,u,ht,hu,h=>by refine b8 (RV ht hu c a y n s) λt1 u1 h1 h2 h3 h4=> ?_;obtain k3:=aaa h3 h;obtain k4:=aaa h4 h;exact⟨aaa (fy t1 u1 y▸iO h1 h2 y) k3,aaa (fy t1 u1 n▸iO h1 h2 n) k4,v8 y h1 h2 k3,v8 n h1 h2 k4⟩
theorem v8:∀(l:List Atom) {t u:Nat},1<=t->1<=u->fv t u l<=61->AN l
 |[],ab,ai,aD,bO,fc=>trivial
 |a::r,t,u,ht,hu,h=>by exact⟨Il a ht hu (aaa (aao _ _) h),v8 r ht hu (aaa (aaj _ _) h)⟩
end
structure Rd(A:Atom):Prop where
 cn:Cn A
 ls:Ls A
 len:Len A
 wt:Wt A<=100000
section
variable {p:Pl}{L:List (Nm×Nat)}{τ:TT}(all:∀x:Nm,∃t,(x,t)∈L)
include all
theorem Im(x:Nm):ke p L τ (.n x):=by
 intro d hd σ t H ha;obtain⟨k,rfl⟩:∃k,d=k+1:=⟨d -1,by lia⟩;refine ah (kI (A:= .n x) (by simp only[au];exact ha) σ) λv r1 k1=> ?_;obtain k1:bS σ v (.int 0)=some (.int (wo x)):=k1;obtain Pz:∀x:Nm,wo x≠16:=by decide
 obtain ne:aS σ .ne (.int (wo x)) (.int 16)=some true:=congrArg (λb=>some (!b)) (decide_eq_false (Pz x));obtain pP:dA P σ .get (.loc p.nz)=some 0:=by show om (σ.f p.nz).gP _=_;rw[H.1.3.2];rfl
 refine⟨σ,Ext.refl σ,?_⟩;exact run [.v H.1.2.tab,.v H.1.1.a0,.v (H.1.1.at r1),.v k1,.b ne,.v H.1.2.names,.n pP,.c (Ik H (all x) ha k (sV [63])),.r] (by kernel_rfl)
omit all in
theorem kind_text{l:List Atom}{k t:Nat}{σ bD:St}(e:af P (k+1) 69 [.loc p.wl,iV t] σ=some (cD l,bD))(hw:tw l<big)(x1 x2:Option V):bR P (af P (k+1)) (ce 70 0) [some (.loc p.wl),x1,x2,none,some (iV t)] σ=some (sV (bj (l.map txt)),bD):=by exact bU [.c e,.c (BX k bD l hw)] (by kernel_rfl)
theorem O4{c a:List Nm}{y n:List Atom}{s:Bool}(iy:∀b∈y,ke p L τ b)(Zy:∀b∈n,ke p L τ b)(R:Rd (.cond c a y n s)):ke p L τ (.cond c a y n s):=by
 intro d hd σ t H ha;obtain hh:2*max (m7 y) (m7 n)+3<=d:=by simp only[ht]at hd;lia
 obtain hy:=aaW (m7 y) (m7 n);obtain hn:=abi (m7 y) (m7 n);obtain⟨k,rfl⟩:∃k,d=k+2:=⟨d -2,by lia⟩;refine jI (bH.mp ha) λtc ta ty tn r1 q1 q2 q3 q4=> ?_;obtain w1:=H.1.2.tab;obtain r:=H.1.1.at r1;obtain⟨c1,c2,c3,c4,c5,c6⟩:=(show _/\_/\_/\_/\_/\_ by obtain this:=R.cn;simp only[Cn]at this;exact this);obtain⟨l1,l2,l3,l4⟩:=(show _/\_/\_/\_ by obtain this:=R.ls;simp only[Ls]at this;exact this);obtain⟨b1,b2,b3,b4⟩:=(show _/\_/\_/\_ by obtain this:=R.len;simp only[Len]at this;exact this);have UO:∀{l:List Nm},oh txt (aR l)->wN l<=6->∀σ t,LW p L τ σ->ar τ (aR l) t->∃aq,Ext σ aq/\af P (k+1) 69 [.loc p.wl,iV t] σ=some (cD (aR l),aq):=λ{l} hs hl σ t H ht=>by
  refine qr (λb hb=> ?_) hs (λb hb=> ?_) ?_ (k+1) (by rw[yz];lia) σ t H ht
  ·obtain⟨x,_,e⟩:=aal.mp hb;subst e;exact Im all x
  ·obtain⟨x,_,e⟩:=aal.mp hb;subst e;trivial
  ·rw[aae];exact aaa (dZ l) (by lia)
 refine ah (UO c1 l1 σ tc H q1) λbD x1 e1=> ?_;refine ah (UO c2 l2 bD ta (H.e x1) q2) λdx x2 e2=> ?_;refine ah (qr iy c3 (dC.mp c5) b1 (k+1) (by lia) dx ty (H.e (x1.trans x2)) q3) λwu x3 e3=> ?_;refine ah (qr Zy c4 (dC.mp c6) b2 (k+1) (by lia) wu tn (H.e ((x1.trans x2).trans x3)) q4) λPK x4 e4=> ?_;obtain hw:=R.wt;obtain lt:=MA _ R.ls;rw[<-rM]at lt;simp only[aah,abv]at lt;obtain lj:(jn c a y n).length<=100000:=by lia
 obtain ww:=aaa (aaE _ (jX c)) (show kc c*_<=_ from hw);obtain bb:(1000000:Nat)=big:=rfl;obtain B7:∀{l:List Nm},wN l<=6->tw (aR l)<big:=λ{l} hl=>by obtain h1:=xR l;obtain h2:=dZ l;lia
 obtain Pw:=oS y l3;obtain Px:=oS n l4;obtain kc:∀(i:Nat) (s0:St),il P (af P (k+1)) (cc 70 0) [some (.loc p.wl),some (iV t),some (bf tc ta ty tn s),none,some (iV i)] s0=some (true,s0):=λi s0=>by kernel_rfl
 obtain lp:cB (λr s=>bR P (af P (k+1)) (ce 70 0) r s) (λr s=>il P (af P (k+1)) (cc 70 0) r s) [some (.loc p.wl),some (iV t),some (bf tc ta ty tn s),none] [iV tc,iV ta,iV ty,iV tn] σ=some ([sV (bj ((aR c).map txt)),sV (bj ((aR a).map txt)),sV (bj (y.map txt)),sV (bj (n.map txt))],PK):=
  (aQ (kc tc σ)).trans ((aQ (kind_text e1 (B7 l1) (some (iV t)) (some (bf tc ta ty tn s)))).trans (aQ ((aQ (kc ta bD)).trans ((aQ (kind_text e2 (B7 l2) (some (iV t)) (some (bf tc ta ty tn s)))).trans (aQ ((aQ (kc ty dx)).trans ((aQ (kind_text e3 (by lia) (some (iV t)) (some (bf tc ta ty tn s)))).trans (aQ ((aQ (kc tn wu)).trans ((aQ (kind_text e4 (by lia) (some (iV t)) (some (bf tc ta ty tn s)))).trans (aQ rfl)))))))))))
 refine xS (d:=k+1) (s:=PK) s (aaa lj (by decide)) λhj g1 g2 gi g3 g4=>⟨PK,((x1.trans x2).trans x3).trans x4,run [.v w1,.v H.1.1.a0,.v r,.r,.r,.r,.r,.r,.m lp,.r,.c hj,.v g1,.v g2,.r,.v gi,.v g3,.v g4,.r] (by kernel_rfl)⟩
mutual
theorem CK:∀A:Atom,Rd A->ke p L τ A
 | .n x,ab=>Im all x
 | .cond c a y n s,R=>by obtain ww:200+eU y+eU n<=100000:=aaa (aaE _ (jX c)) (show kc c*_<=_ from R.wt);exact O4 all (sM y (dC.mp R.cn.2.2.2.2.1) (gB.mp R.ls.2.2.1) (yK.mp R.len.2.2.1) (by lia)) (sM n (dC.mp R.cn.2.2.2.2.2) (gB.mp R.ls.2.2.2) (yK.mp R.len.2.2.2) (by lia)) R
theorem sM:∀l:List Atom,(∀b∈l,Cn b)->(∀b∈l,Ls b)->(∀b∈l,Len b)->eU l<=100000->∀b∈l,ke p L τ b
 |[],ab,ai,aD,bO,fc,h=>nomatch h
 |a::r,hc,hs,hl,hw,b,h=>by
  simp only[eU]at hw;rcases aam.mp h with e |k
  ·simp only[e];exact CK a ⟨hc a aac,hs a aac,hl a aac,by lia⟩
  ·exact sM r (λb hb=>hc b (aaf _ hb)) (λb hb=>hs b (aaf _ hb)) (λb hb=>hl b (aaf _ hb)) (by lia) b k
end
theorem Oa{l:List Atom}(hs:less l=l)(hR:∀b∈l,Rd b)(hl:l.length<=61)(d:Nat)(hd:2*m7 l+2<=d){σ:St}{t:Nat}(H:LW p L τ σ)(ht:ar τ l t):∃aq,Ext σ aq/\af P d 69 [.loc p.wl,iV t] σ=some (cD l,aq):=
 qr (λb hb=>CK all b (hR b hb)) (hs▸eH l) (λb hb=>(hR b hb).cn) hl d hd σ t H ht
end
theorem map_none{τ:TT}:de τ I0 []:=⟨abA,(aar _),λab=>rfl,λab=>rfl⟩
theorem O5{c a:List Nm}{y n:List Atom}{s:Bool}:200<=Wt (.cond c a y n s):=by exact aaa (by simp+arith:200<=200+eU y+eU n) (aaE _ (jX c))
section
variable {t0:Nm}{l h dp N:Nat}{τ:TT}{σ:St}{s:Sp}{q:Qn}{u:Dy}{r0 r hh:Nat}
theorem EJ(I:Inv l h dp s [] I0 q u τ σ)(K7:u.pa= -1)(d:Nat)(c:Cs r0 (1+r) τ u.v):Rs l h dp s τ σ (Done h s [] u.E [q.at] r0 r) (af P (d+10) 34 [.loc s.p] σ):=by refine(gV I.1.1 (d+6) (row:=q.row) (by cases q.s<;>rfl) (r:=r+r0) (abc ..▸c.1)).el λt fF bD p1 r1 c1 e1=> ?_;obtain pw:=I.1.pq p1 No;obtain Z:=I.3.mono p1.2;refine .fin (t:=t) (pw.w _) (I.2.ext I.1.3 pw.ext) (bH.mpr ⟨q.tc,q.ta,q.ty,q.tn,r1,Z.1,Z.2,Z.3,Z.4⟩) (c.rows c1 (aaj ..)) λAw=> ?_;obtain lay:af P (d+8) 31 [.loc h,q.row,.pG [] []] σ=some (iV t,bD):=run [.r,.r,.v I.1.gK,.n I.1.1.pP,.c e1,.r] (by kernel_rfl);obtain laid:af P (d+9) 33 [.loc s.p] σ=some (iV t,bD):=run [.v I.2.KI,.b (K7▸rfl:aS σ .lt (.int u.pa) (.int 0)=some true),.v I.2.sC,.v I.2.IK,.v (I.2.Cq:aE σ (.loc s.p) 16=some (.pG [] [])),.c lay,.r] (by kernel_rfl);exact run [.c laid,.s Aw] (by kernel_rfl)
theorem Io{c a:List Nm}{y n:List Atom}{sd:Bool}(W:OW (.cond c a y n sd))(SQ:nj t0 (.cond c a y n sd))(Zz:Cn (.cond c a y n sd))(ZA:Ls (.cond c a y n sd))(hN:1<=N):Ep t0 l h dp I0 [] N (hh+1) (.cond c a y n sd):=by
 intro d fuel hd hf τ σ st q u r0 r e K7 I Lm cr;obtain⟨qc,qa,qy,qn,qs,tc,ta,ty,tn⟩:=q;obtain⟨rfl,rfl,rfl,rfl,rfl⟩:qc=c/\qa=a/\qy=y/\qn=n/\qs=sd:=by cases e;exact⟨rfl,rfl,rfl,rfl,rfl⟩
 obtain⟨x,rfl⟩:=abj (aaa (aaj 11 (24*(hh+1)+9)) hd);obtain⟨f0,rfl⟩:=abj (aaa (aaj 1 hh) hf);have ee:=qo _ W;refine A3 W λOX h8 h9=>A7 OX λh1 h2 h3 h4 h5 h6 h7=> ?_;obtain G:=nh t0;obtain F:=Cy G ZA;have ea:subs I0 qa=qa:=by rw[m8,h5]
 have ec:subs I0 qc=qc:=by rw[m8,h4]
 have hs:(qs &&(subs I0 qc).length !=1)=false:=by
  rw[ec];cases qs with
  |false=>rfl
  |true=>rw[h2 rfl];rfl
 obtain X:Ends l h dp st [] I0 ⟨qc,qa,qy,qn,qs,tc,ta,ty,tn⟩ u r0 (1+(1+r)) (subs I0 qc) (subs I0 qa) (less (bC qy I0)) (less (bC qn I0)) (x+8) (λA τ σ=>A=[.cond qc qa qy qn qs]->Done h st [] u.E [.cond qc qa qy qn qs] r0 (1+r) τ σ):=by
  obtain no:∀{p:Prop},(isOpen (subs I0 qc) ||isOpen (subs I0 qa))=false->p:=λq=>by simp only[ea,ec,h3]at q;cases q
  refine⟨(λab ai aD bO e=>by cases e),λab dd qJ τ σ I c ai=> ?_,λq=>no q,λq=>no q,λq=>no q⟩;obtain⟨d',rfl⟩:=abj (aaa (by lia:10<=x+8) qJ);exact(EJ I K7 d' c).to (I.1.q0 _) (λz ab=>z) id
 refine(Cu X G.gT I (cr.le (by obtain this:=O5 (c:=qc) (a:=qa) (y:=qy) (n:=qn) (s:=qs);lia)) (.inl ⟨K7,rfl⟩) F h4 h5 hs (eM _ _) (aaa (gZ _) F.c1)).el λjG dx q2 k e2=> ?_;rw[cO,hs]at ee;exact(qo _ W)▸((k ee).lo q2.1 (abF.mpr ⟨Zz,SQ⟩) yo hN (x+11) f0).to q2 (aab _) (aab _) (vO _ _ I.2 e2)
end
theorem AO{t0:Nm}{l h dp hh:Nat}{τ:TT}{σ:St}(W:Wd l h dp τ σ){As:List Atom}(hw:∀b∈As,OW b)(ag:∀b∈As,AG t0 b)(ZC:∀b∈As,Wt b<=200000)(IM:dp+1+3*(hh+1)<=40){t:Nat}(k:ar τ As t)(d:Nat)(hd:24*(hh+1)+20<=d+3){r:Nat}(c:Cr (eU As+r) τ):
  ∃ay aq,Q l h dp No τ σ ay aq/\Cr r ay/\af P (d+9) 78 [.loc h,iV t] σ=some (iV t,aq):=by
 refine cps λab kk=> ?_;rcases Cv As with⟨c',a,y,n,s,e⟩ |nc
 ·subst e;obtain w:=hw _ aac;obtain A:=ag _ aac;refine(sE (Io (N:=1) w A.ok A.cn A.ls (aab _)) (by decide) W map_none k IM (ZC _ aac) d hd c).el λt' ay aq p1 k1 c1 e1=> ?_;rw[qo _ w]at k1;obtain rfl:=i7 p1.1.1.8 _ _ _ (au.mono p1.2 _ _ k) k1;exact kk<|jk ay aq p1 c1 e1
 ·exact kk<|jk τ σ (W.q0 _) (c.le (aaj ..)) (iC W (d+6) k nc)
theorem Vi(x:Nm):Rd (.n x):=⟨trivial,trivial,trivial,by simp only[Wt];split<;>decide⟩
theorem MB{A:Atom}{m:Ab.Env}{t0:Nm}(ag:AG t0 A)(hW:Wt A<=36600)(S:lu m){t u t' u':Nat}(ht:1<=t)(hu:1<=u)(pQ:1<=t')(o3:1<=u')(hT:iM aT m.T t t')(hU:iM aU m.U u u')(hF:FF t u A<=61):(∀b∈ev A m,Rd b)/\(ev A m).length<=61:=by have hS:=aaa (Oi A ag.fm ht hu hT hU) hF;refine⟨λb hb=>⟨yh _ _ ag.cn b hb,GQ _ ag.fm ag.ls S b hb,Il b pQ o3 (aaa (kF hb) hS),?_⟩,aaa (iO pQ o3 _) hS⟩;exact aaa (aaa (kF hb) (Oj _ ag.fm S)) (aaa hW (by decide))
section
variable {c a:Sd}{y n:Br}{s:Bool}(hq:da 3 (.q c a y n s)){m:Ab.Env}
include hq
theorem qt{t u:Nat}(F:FE true I0 m t u):(∀b∈ev (qA I0 c a y n s) m,Rd b)/\(ev (qA I0 c a y n s) m).length<=61:=by refine b8 F.put λt' u' h1 h2 h3 h4=> ?_;exact MB (vX hq (nh 0)) (OZ hq pB).1 F.sm F.bt.1 F.bu.1 h1 h2 h3 h4 (aaa (vW hq F.bt.2 F.bu.2) (by decide))
theorem AP(h:bz m):(∀b∈ev (qA m c a y n s) I0,Rd b)/\(ev (qA m c a y n s) I0).length<=61:=by
 refine aaI h.T (λk=> ?_) λaw=>ah aw λt k e=> ?_
 ·obtain E:vT m:=⟨k.l,h.U.l⟩;refine A4 (sL hq h) λab ai aD e=> ?_;refine ah (CF E hq) λns h1 h2=> ?_;rw[<-e,h2];exact⟨λb hb=>by refine ah (aal.mp hb) λx ab e=> ?_;subst e;exact Vi x,by simp only[aae];exact aaa h1.len (by decide)⟩
 ·obtain C:=RN h.cl.1 h.cl.2 (by rw[e];exact aab _) h.U.len hq 1 1;exact MB (vX hq h.eg) (OZ hq h.eg.sm).1 pB (aab 1) (aab 1) (aab 1) (aab 1) (.inl ⟨rfl,rfl⟩) (.inl ⟨rfl,rfl⟩) (aaa C (by decide))
end
theorem yL{l:Nat}{τ:TT}{σ:St}(T:Tb l τ σ)(d:Nat):∃aq,Ext σ aq/\Wd l σ.n 0 τ aq/\wI P (af P (d+1)) σ 2 [.loc l]=some (.loc σ.n,aq):=by obtain z0:=Bd.nil 2 σ;obtain z1:=z0.set 10 (.loc l);obtain z2:=z1.set 11 (.int 0);obtain z3:=z2.set 12 (.int 200);obtain z:=z3.set 13 (.int 40);exact iD _ z.1 ⟨T.ext z.1,z.2,T.7,aap σ.n⟩ ((eB (rfl:P.iT[2]? =some 77)).trans ((aQ (run [.s (z0.AE 10 (.loc l) rfl (by decide)),.s (z1.AE 11 (.int 0) rfl (by show 1<100;decide)),.s (z2.AE 12 (.int 200) rfl (by show 2<100;decide)),.s (z3.AE 13 (.int 40) rfl (by show 3<100;decide))] (by kernel_rfl):af P (d+1) 77 [.loc σ.n,.loc l] (σ.new (.ins 2 []))=some (V.none,_))).trans rfl))
inductive Rt(p:Pl)(h:Nat)(L:List (Nm×Nat))(τ:TT)(σ:St):Prop
 |mk(lw:LW p L τ σ)(wd:Wd p.l h 0 τ σ)
section
variable {p:Pl}{h:Nat}{L L':List (Nm×Nat)}{τ ay:TT}{σ aq:St}
theorem Rt.pw(R:Rt p h L τ σ)(q:Q p.l h 0 No τ σ ay aq):Gt p EW L τ σ L ay aq:=R.1.Mt ⟨q.1.1,q.2,q.ext,q.5⟩
theorem Rt.q(R:Rt p h L τ σ)(q:Q p.l h 0 No τ σ ay aq):Rt p h L ay aq:=⟨(R.pw q).1,q.1⟩
theorem Rt.x(R:Rt p h L τ σ)(x:Ext σ aq):Rt p h L τ aq:=⟨R.1.e x,R.2.ext x⟩
theorem Rt.gt(R:Rt p h L τ σ)(P:EV p h)(g:Gt p EW L τ σ L' ay aq):Rt p h L' ay aq:=⟨g.1,⟨g.1.1.1,(g.4 h R.2.lt (P.off (aab _)) id).trans R.2.2,R.2.3,aak R.2.lt g.3⟩⟩
end
theorem CL{p:Pl}{L:List (Nm×Nat)}{τ:TT}{σ:St}(H:LW p L τ σ){x:List Nat}{v:V}(hx:x=[114,111,119]\/x=[84]\/x=[85])(h:bx p.ks p.vs (sV x)=some v):bS σ (.loc p.wl) (sV x)=some v:=by refine dR H.1.2.1 (dX H.1.2.3) ?_;rcases hx with e |e |e<;>subst e<;>exact h
structure Src(p:Pl)(L:List (Nm×Nat))(c a:Sd)(y n:Br)(s:Bool)(m:Ab.Env)(tr tc ta ty tn:Nat)(tt pp:Bool->Nat)(τ:TT):Prop where
 fr:bx p.ks p.vs (sV [114,111,119])=some (iV tr)
 ft:∀f,bx p.ks p.vs (nV (tu f))=some (iV (tt f))
 rr:τ.R[tr]? =some (bf tc ta ty tn s)
 Z:pz τ (c9 I0 c) (c9 I0 a) (gf y I0) (gf n I0) tc ta ty tn
 tT:ar τ (aR m.T) (tt true)
 tU:ar τ (aR m.U) (tt false)
 nm:∀f,τ.nm[pp f]? =some (nV (tu f))
 md:∀f,∃t,(tu f,t)∈L/\τ.R[t]? =some (.tup [.int 10,iV (pp f)])
theorem Src.mono{p:Pl}{L L':List (Nm×Nat)}{c a:Sd}{y n:Br}{s:Bool}{m:Ab.Env}{tr tc ta ty tn:Nat}{tt pp:Bool->Nat}{τ ay:TT}(h:Src p L c a y n s m tr tc ta ty tn tt pp τ)(x:τ.Le ay)(sub:∀q∈L,q∈L'):Src p L' c a y n s m tr tc ta ty tn tt pp ay:=
 ⟨h.fr,h.ft,x.R _ _ h.rr,h.Z.mono x,h.tT.mono x,h.tU.mono x,λf=>x.nm _ _ (h.nm f),λf=>(h.md f).imp λab k=>⟨sub _ k.1,x.R _ _ k.2⟩⟩
theorem Made.src{p:Pl}{q:Qz}{ord:List Nat}{L:List (Nm×Nat)}{τ:TT}{σ:St}(M:Made p q ord L τ σ)(IQ:20∈ord)(ZD:21∈ord):∃tr tc ta ty tn tt pp,Src p L q.c q.a q.y q.n q.s q.m tr tc ta ty tn tt pp τ:=by
 refine cps λab kk=> ?_;refine ah ((M.1.5 20 IQ).2 rfl) λtr r1 r2=> ?_;refine A2 ((M.1.5 21 ZD).3 rfl) λFT FU=>ah FT λtT t1 t2=>ah FU λtU u1 u2=> ?_;refine jI (bH.mp (r2.1 rfl)) λtc ta ty tn q1 q2 q3 q4 q5=> ?_;have np:∀f,∃pf t,(tu f,t)∈L/\τ.R[t]? =some (.tup [.int 10,iV pf])/\τ.nm[pf]? =some (nV (tu f)):=λf=>by refine pE (M.2 (tu f)) λt ht=> ?_;refine dM (M.1.1.1.3.3 _ ht) λs7 pf k1 ab k3=> ?_;refine⟨pf,t,ht,?_,k3 (by cases f<;>rfl)⟩;rw[k1];cases f<;>rfl
 refine kk<|Tq tr tc ta ty tn (λf=>if f then tT else tU) (λf=>(np f).choose) ⟨r1,λf=> ?_,q1,⟨q2,q3,q4,q5⟩,t2.2 rfl,u2.3 rfl,λf=>dw (np f).choose_spec λab ai aD k=>k,λf=>dw (np f).choose_spec λt k1 k2 ab=>⟨t,k1,k2⟩⟩
 cases f
 ·exact u1
 ·exact t1
section
variable {p:Pl}{h:Nat}{L:List (Nm×Nat)}{c a:Sd}{y n:Br}{s:Bool}{m:Ab.Env}{tr tc ta ty tn:Nat}{tt pp:Bool->Nat}{τ:TT}{σ:St}
theorem Src.two(S:Src p L c a y n s m tr tc ta ty tn tt pp τ):de τ m [(pp true,tt true),(pp false,tt false)]:=by
 refine⟨?_,λq hq=> ?_,λk=>absurd (S.nm true) (k _ aac),λk=>absurd (S.nm false) (k _ (aaf _ aac))⟩
 ·show[pp true,pp false].Nodup;refine aaM.mpr ⟨λk=> ?_,aaB _ _⟩;obtain e:=aag.mp k;obtain h1:=S.nm true;rw[e,(S.nm false)]at h1;exact absurd (oR (aad h1)) (by decide)
 ·rcases aam.mp hq with e |k
  ·rw[e];exact .inl ⟨S.nm true,S.tT⟩
  ·rw[aag.mp k];exact .inr ⟨S.nm false,S.tU⟩
theorem Src.one(S:Src p L c a y n s m tr tc ta ty tn tt pp τ)(f:Bool):de τ (eV f m) [(pp f,tt f)]:=by
 obtain no:∀g,g≠f->¬∀q∈[(pp f,tt f)],τ.nm[q.1]?≠some (nV (tu f)):=λg ab k=>absurd (S.nm f) (k _ aac);cases f
 ·exact⟨aaB _ _,λq hq=>by rw[aag.mp hq];exact .inr ⟨S.nm false,S.tU⟩,λab=>rfl,λk=>(no true (by decide) k).elim⟩
 ·exact⟨aaB _ _,λq hq=>by rw[aag.mp hq];exact .inl ⟨S.nm true,S.tT⟩,λk=>(no false (by decide) k).elim,λab=>rfl⟩
theorem qu(R:Rt p h L τ σ)(ps:List (Nat×Nat)):fO p.l (σ.new (.bV (ps.map λq=>iV q.1) (ps.map λq=>iV q.2))) (.loc σ.n) ps:=by obtain h1:=R.2.3;obtain h2:=R.2.lt;exact .inr ⟨σ.n,rfl,aap _,by lia,by lia,bY ..⟩
theorem under(R:Rt p h L τ σ)(hq:da 3 (.q c a y n s)){t0:Nm}{m':Ab.Env}(E:EG t0 m')(lp:LP (qA I0 c a y n s) m' 61)(Z:pz τ (c9 I0 c) (c9 I0 a) (gf y I0) (gf n I0) tc ta ty tn){M:V}{ps:List (Nat×Nat)}(mv:fO p.l σ M ps)(ok:de τ m' ps)(hp:ps≠[])(d:Nat){r:Nat}(c0:Cr (36600+r) τ):qk p.l h 0 No τ σ (ev (qA I0 c a y n s) m') r (af P (d+114) 45 [.loc h,bf tc ta ty tn s,M] σ):=
 have W:=OZ hq pB
 l6 (q:=⟨c9 I0 c,c9 I0 a,gf y I0,gf n I0,s,tc,ta,ty,tn⟩) ((AD t0 3 (qA I0 c a y n s) W.2).2 (vX hq (nh t0)) p.l h 1 m' ps 61 E lp (.inl hp) (aaa W.1 (by decide))) (by decide) R.2 mv ok Z (by decide) (aaa W.1 (by decide)) (d+108) (aaj _ _) (c0.le (aat W.1 r))
theorem back(R:Rt p h L τ σ)(all:∀x:Nm,∃t,(x,t)∈L){l:List Atom}(hl:less l=l)(rd:(∀b∈l,Rd b)/\l.length<=61)(hh:m7 l<=3){t:Nat}(k:ar τ l t)(d:Nat):∃aq,Ext σ aq/\Rt p h L τ aq/\af P (d+114) 69 [.loc p.wl,iV t] σ=some (cD l,aq):=by refine ah (Oa all hl rd.1 rd.2 (d+114) (by lia) R.1 k) λaq x e=> ?_;exact iD aq x (R.x x) e
theorem as_str(l:List Atom):(l.map aV).all V.isStr=true:=by rw[abN];exact aas.mpr λab ai=>rfl
theorem Ip(l:List Atom):aS σ .eq (cD l) (cD l)=some true:=by show og ((l.map aV).all V.isStr &&(l.map aV).all V.isStr) (some (V.iS (l.map aV) (l.map aV)))=_;rw[as_str,(wK _ _).mpr rfl];rfl
theorem Iq(l:List Atom):aS σ .ne (cD l) (cD l)=some false:=by obtain this:=Ip (σ:=σ) l;show om (aS σ .eq (cD l) (cD l)) _=_;rw[this];rfl
end
section
variable {p:Pl}{L:List (Nm×Nat)}{c a:Sd}{y n:Br}{s:Bool}{m:Ab.Env}{tr tc ta ty tn:Nat}{tt pp:Bool->Nat}{τ:TT}{σ:St}{e:Nat}
abbrev O6(pp:Bool->Nat):O:= .bV [nV 23,nV 24] [iV (pp true),iV (pp false)]
theorem oU{k:Nat}(h:σ.f k=O6 pp)(f:Bool):bS σ (.loc k) (nV (tu f))=some (iV (pp f)):=by
 cases f
 ·exact dR h rfl rfl
 ·exact dR h rfl rfl
theorem oV{h:Nat}(R:Rt p h L τ σ)(S:Src p L c a y n s m tr tc ta ty tn tt pp τ)(f:Bool):bS σ (.loc p.wl) (nV (tu f))=some (iV (tt f)):=by
 obtain this:=S.ft f;cases f
 ·exact CL R.1 (.inr (.inr rfl)) this
 ·exact CL R.1 (.inr (.inl rfl)) this
abbrev ZE(p:Pl)(c a:Sd)(y n:Br)(s:Bool)(e:Nat)(f w:Bool)(h pd:Nat)(row:V)(x9 EK Ir RW:Option V):En:=[some (.loc p.wl),some (qV c a y n s),some (.loc e),some (nV (tu f)),some (.bool w),some (.loc p.l),some (.loc h),some row,some (.loc pd),x9,EK,Ir,RW]
theorem Src.le(S:Src p L c a y n s m tr tc ta ty tn tt pp τ){ay:TT}(x:τ.Le ay):Src p L c a y n s m tr tc ta ty tn tt pp ay:=S.mono x λab h=>h
theorem MC{l h:Nat}{τ:TT}{σ:St}(W:Wd l h 0 τ σ):aE σ (.loc h) 11=some (.int 0):=W.SI
theorem wb(hq:da 3 (.q c a y n s)){m':Ab.Env}(S:lu m'):m7 (ev (qA I0 c a y n s) m')<=3:=vV λb hb=>aaa (CH _ (vX hq (nh 0)).fm S b hb).ht (OZ hq pB).2
theorem Lr(hq:da 3 (.q c a y n s))(hm:bz m):m7 (ev (qA m c a y n s) I0)<=3:=vV λb hb=>aaa (CH _ (vX hq hm.eg).fm pB b hb).ht (OZ hq hm.eg.sm).2
theorem CM{i j:Nat}(h:i≠j)(v w:V):putK (putK [] [] (iV i) v).1 (putK [] [] (iV i) v).2 (iV j) w=([iV i,iV j],[v,w]):=by obtain ne:¬V.beq (iV i) (iV j)=true:=λq=>h (aaO (V.int.inj ((beq_iff _ _).mp q)));exact(if_neg ne).trans rfl
theorem Src.ne(S:Src p L c a y n s m tr tc ta ty tn tt pp τ):pp true≠pp false:=λe=>by obtain h1:=S.nm true;simp only[e,(S.nm false)]at h1;exact absurd (oR (aad h1)) (by decide)
variable (hq:da 3 (.q c a y n s))(hm:bz m)
include hq hm
theorem behind{h:Nat}(R:Rt p h L τ σ)(S:Src p L c a y n s m tr tc ta ty tn tt pp τ)(f:Bool){t:Nat}(k:ar τ (ev (qA I0 c a y n s) (eV f m)) t){r:Nat}(c0:Cr (36600+(1+r)) τ)(d:Nat):qk p.l h 0 No τ (σ.new (.bV [iV (pp (!f))] [iV (tt (!f))])) (ev (qA I0 c a y n s) m) r (af P (d+114) 80 [.loc h,iV t,.loc σ.n] (σ.new (.bV [iV (pp (!f))] [iV (tt (!f))]))):=by obtain Ag:=yH hq hm f;obtain E2:=hm.half (!f);obtain z:=su (D:=98) (C:=Wt) (λb hb=>(AD (tD m) 3 b (Ag.ht b hb)).1 (Ag.ag b hb) p.l h 0 (eV (!f) m) 61 E2 (Ag.lp b hb) (by decide) (aaa (aaa (kF hb) Ag.wt) (by decide))) (λb hb=>(Ag.ag b hb).cn) E2.gT Ag.bC Ag.len (d:=d+109) (aaj _ _) (R.x (Ext.new σ (.bV [iV (pp (!f))] [iV (tt (!f))]))).2 (qu R [(pp (!f),tt (!f))]) (S.one (!f)) (acg _ _) k (c0.le (aat Ag.wt _));simp only[Ag.eq]at z;exact z.to λe1=>run [.c e1,.r] (by kernel_rfl)
variable (hK:max (K y) (K n)<=100)(all:∀x:Nm,∃t,(x,t)∈L)
include hK all
theorem EL(H:LW p L τ σ)(A:At p e (bZ m) σ)(S:Src p L c a y n s m tr tc ta ty tn tt pp τ)(Cy:Cr 900000 τ)(f:Bool)(d:Nat):
  ∃aq,At p e (bZ m) aq/\af P (d+115) 71 [.loc p.wl,qV c a y n s,.loc e,nV (tu f),.bool false] σ=some (.bool true,aq):=by
 refine cps λab kk=> ?_;obtain bb:(1000000:Nat)=big:=rfl;refine dw (yL H.1.1 (d+113)) λbD x1 W1 e1=> ?_;generalize hh:σ.n=h at W1 e1;have R1:Rt p h L τ bD:=⟨H.e x1,W1⟩;obtain a0:=R1.2.1.a0;obtain w3:=R1.1.1.2.made;refine ah (S.md true) λi1 m1 q1=> ?_;refine ah (S.md false) λi2 m2 q2=> ?_;obtain x2:=Ext.new bD (O6 pp);obtain A2:=(A.ext x1).ext x2;refine A3 (vY hq hm.fe) λF1 F2 F3=> ?_;refine ah (jw true c a y n s (d+107) (aaa hK (by lia)) (bD.new (O6 pp)) e m A2.2 A2.3 F1) λwu x3 e3=> ?_;rw[F3]at e3;have R3:=(R1.x x2).x x3;obtain B3:=(At.new R1.1.1.4 (O6 pp)).ext x3;obtain x4:=Ext.new wu (.bV [iV (pp true),iV (pp false)] [iV (tt true),iV (tt false)]);obtain R4:=R3.x x4;refine(under R4 hq hm.eg F2 S.Z (qu R3 [(pp true,tt true),(pp false,tt false)]) S.two (acg _ _) d (r:=36600+(36600+(36600+(1+0)))) (Cy.le (by decide))).el λt5 PD Vj p5 k5 c5 e5=> ?_;obtain SY:=R4.pw p5;obtain e5:af P (d+114) 45 [.loc h,bf tc ta ty tn s,.loc wu.n] (wu.new (.bV (putK (putK [] [] (iV (pp true)) (iV (tt true))).1 (putK [] [] (iV (pp true)) (iV (tt true))).2 (iV (pp false)) (iV (tt false))).1 (putK (putK [] [] (iV (pp true)) (iV (tt true))).1 (putK [] [] (iV (pp true)) (iV (tt true))).2 (iV (pp false)) (iV (tt false))).2))=some (iV t5,Vj):=by rw[CM S.ne];exact e5
 obtain S5:=S.le p5.2;refine dw (back (R4.q p5) all (fU ..) (qt hq hm.fe) (wb hq hm.eg.sm) k5 d) λAQ x6 R6 e6=> ?_;have A6:=(((A2.ext x3).ext x4).x SY id).ext x6;have U8:bR P (af P (d+114)) (bo 71 1) (ZE p c a y n s e f false h bD.n (bf tc ta ty tn s) (some (cD (ev (qA I0 c a y n s) m))) none none none) AQ=some (nV (tu (!f)),AQ):=by cases f<;>kernel_rfl
 obtain f8:=aP (AQ.new (bZ m)) [nV (tu (!f))];obtain x8:=Ext.cw (AQ.new (bZ m)) [nV (tu (!f))];obtain C8:=(At.new R6.1.1.4 (bZ m)).ext x8;generalize hs8:cw (AQ.new (bZ m)) [nV (tu (!f))]=S4 at f8 x8 C8;obtain s9:=B0 C8.3 (!f) [tu (!f)];have eh:(if(!f)=true then{m with T:=[tu (!f)]}else{m with U:=[tu (!f)]}:Ab.Env)=eV f m:=by cases f<;>rfl
 simp only[eh]at s9;have x9:Ext AQ (S4.set AQ.n (bZ (eV f m))):=((Ext.new AQ (bZ m)).trans x8).set (aab _) _;obtain C9:At p AQ.n (bZ (eV f m)) (S4.set AQ.n (bZ (eV f m))):=⟨C8.1,C8.2,if_pos rfl⟩;obtain R9:=R6.x x9;obtain A9:=A6.ext x9;obtain B9:=(((B3.ext x4).x SY id).ext x6).ext x9;generalize hs9:S4.set AQ.n (bZ (eV f m))=Vk at s9 x9 C9 R9 A9 B9;obtain EK:=Ext.new Vk (.bV [iV (pp f)] [iV (tt f)]);obtain Vl:=R9.x EK;refine A3 (vY hq (hm.Xh f)) λG1 G2 G3=> ?_;refine(under Vl hq (hm.half f) G2 S5.Z (qu R9 [(pp f,tt f)]) (S5.one f) (acg _ _) d c5).el λXl ZF ZG Vm Vn ZH Vo=> ?_;obtain O7:=Vl.pw Vm;refine dw (back (Vl.q Vm) all (fU ..) (qt hq (hm.Xh f)) (wb hq (hm.half f).sm) Vn d) λVq RW ZI Og=> ?_;obtain Xm:=((C9.ext EK).x O7 id).ext RW;refine ah (jw true c a y n s (d+107) (aaa hK (by lia)) Vq AQ.n (eV f m) Xm.2 Xm.3 G1) λVt II Xn=> ?_;rw[G3]at Xn;have S6:=ZI.x II;obtain Ag:=yH hq hm f;refine dM (AO (t0:=tD m) (hh:=2) S6.2 Ag.w Ag.ag (λb hb=>aaa (aaa (kF hb) Ag.wt) (by decide)) (by decide) Vn (d+105) (aaj _ _) (r:=36600+(1+0)) (ZH.le (aat (by rw[lQ];exact Ag.wt) _))) λZJ Lu PC Vv ZK=> ?_;obtain RX:=S6.q PC;obtain RY:=S6.pw PC;obtain ZL:aS Lu .ne (iV Xl) (iV Xl)=some false:=congrArg (λb=>some (!b)) (decide_eq_true rfl);obtain Xo:=(S5.le Vm.2).le PC.2;refine(behind hq hm RX Xo f (Vn.mono PC.2) Vv d).el λt15 ZM ZN Xp ZO c15 ZP=> ?_;refine dw (back ((RX.x (Ext.new Lu _)).q Xp) all (fU ..) (qt hq hm.fe) (wb hq hm.eg.sm) ZO d) λRZ ZQ ZR ZS=> ?_;refine kk (cq RZ ((((((((A9.ext EK).x O7 id).ext RW).ext II).x RY id).ext (Ext.new Lu _)).x ((RX.x (Ext.new Lu _)).pw Xp) id).ext ZQ) ?_);exact run [.v H.1.2.tab,.c e1,.v a0,.v (CL R1.1 (.inl rfl) S.fr),.v (R1.2.1.at S.rr),.v a0,.v w3,.v (R1.1.1.3.get R1.1.1.1.8 m1),.v (R1.2.1.at q1),.r,.v a0,.v w3,.v (R1.1.1.3.get R1.1.1.1.8 m2),.v (R1.2.1.at q2),.r,.r,.c e3,.v (oU (pp:=pp) B3.3 true),.v (oV R3 S true),.v (oU (pp:=pp) B3.3 false),.v (oV R3 S false),.r,.c e5,.c e6,.b (Iq (σ:=AQ) (ev (qA I0 c a y n s) m)),.e U8,.c (xT A6.3),.f f8,.s s9,.v (oU (pp:=pp) B9.3 f),.v (oV R9 S5 f),.r,.c Vo,.c Og,.c Xn,.b (Iq (σ:=Vt) (ev (qA I0 c a y n s) (eV f m))),.n (S6.2.pP 2 (f:=78) rfl),.c ZK,.b ZL,.n (RX.2.pP 4 (f:=80) rfl),.v (oU (pp:=pp) (((((B9.ext EK).x O7 id).ext RW).ext II).x RY id).3 (!f)),.v (oV RX Xo (!f)),.r,.c ZP,.c ZS,.b (Ip (σ:=RZ) (ev (qA I0 c a y n s) m)),.v (MC ZR.2),.r,.r] (by kernel_rfl)
end
theorem ma{m:Ab.Env}(E:fk m)(lT:m.T.length<=3)(lU:m.U.length<=3){x:Sd}(h:fB x\/jZ x):lB m x:=by
 obtain pp:∀{l:List Nm},KindsOk 2 l->lB m (.p l):=λ{l} h=>⟨rfl,by show(m.T++l).length<=20;rw[aah];exact aaa (aaw lT h.len) (by decide)⟩
 match x,h with
 | .k l,.inl h=>exact⟨KindsOk.gT h,aaa (KindsOk.len h) (by decide)⟩
 | .k l,.inr (.inl h)=>exact⟨h.gT,aaa h.len (by decide)⟩
 | .k _,.inr (.inr (.inl rfl))=>exact⟨aO _,by show 1<=20;decide⟩
 | .k _,.inr (.inr (.inr rfl))=>exact⟨aO _,by show 1<=20;decide⟩
 | .p l,.inl h=>exact pp h
 | .p l,.inr h=>exact pp h
 | .v true,ab=>exact⟨E.T,aaa lT (by decide)⟩
 | .v false,ab=>exact⟨E.U,aaa lU (by decide)⟩
noncomputable def Cg:Nat->Nat
 |0=>41
 |g+1=>Cg g+Cg g+83
theorem R0:∀g,41<=Cg g:=by
 intro v_;induction v_ with
 |zero=>exact aab _
 |succ g ih=>exact aaa (ih) (aaa (aao _ _) (aao _ _))
theorem wc{m:Ab.Env}(E:fk m)(lT:m.T.length<=3)(lU:m.U.length<=3):∀{g:Nat} {b:Br},da g b->AL m b/\CI b<=8+2*g/\cst b<=Cg g/\K b<=4+4*g:=by
 have sd:∀{g:Nat} {x:Sd},fB x->AL m (.sd x)/\CI (.sd x)<=8+2*g/\cst (.sd x)<=Cg g/\K (.sd x)<=4+4*g:=λ{g x} h=>⟨ma E lT lU (.inl h),aao _ _,R0 g,aao _ _⟩;intro g b;induction g generalizing b with
 |zero=>cases b with
  |sd x=>exact sd
  |q c a y n s=>exactλh=>h.elim
 |succ g ih=>cases b with
  |sd x=>exact sd
  |q c a y n s=>intro h;refine A4 h λhc ha hy hn=> ?_;refine A4 (ih hy) λy1 y2 y3 y4=> ?_;refine A4 (ih hn) λn1 n2 n3 n4=> ?_;exact⟨⟨ma E lT lU (.inl (ji hc)),ma E lT lU (.inr ha),y1,n1⟩,aat (abb.mpr ⟨y2,n2⟩) 2,aat (aaw y3 n3) 83,aat (abb.mpr ⟨y4,n4⟩) 4⟩
section
variable {p:Pl}{L:List (Nm×Nat)}{c a:Sd}{y n:Br}{s:Bool}{m:Ab.Env}{tr tc ta ty tn:Nat}{tt pp:Bool->Nat}{τ:TT}{σ:St}{e:Nat}
variable (hq:da 3 (.q c a y n s))(hm:bz m)(all:∀x:Nm,∃t,(x,t)∈L)
include hq hm all
theorem yM(H:LW p L τ σ)(A:At p e (bZ m) σ)(S:Src p L c a y n s m tr tc ta ty tn tt pp τ)(Cy:Cr 900000 τ)(f:Bool)(d:Nat):
  ∃aq,At p e (bZ m) aq/\af P (d+115) 71 [.loc p.wl,qV c a y n s,.loc e,nV (tu f),.bool true] σ=some (.bool true,aq):=by
 refine cps λab kk=> ?_;obtain bb:(1000000:Nat)=big:=rfl;refine A2 (hm.put 1 1) λkd1 kd2=> ?_;have lT:=aaa (dZ _) (iP hm.eg.sm.T (.inl rfl));have lU:=aaa (dZ _) (iP hm.eg.sm.U (.inr rfl));obtain ZT:Cg 2=413:=rfl;refine A4 (wc (g:=2) hm.eg.gT lT lU hq.2.2.1) λRy dy cy ky=> ?_;refine A4 (wc (g:=2) hm.eg.gT lT lU hq.2.2.2) λRn dn cn kn=> ?_;have hK:max (K y) (K n)<=100:=abb.mpr ⟨by lia,by lia⟩;refine dw (yL H.1.1 (d+113)) λbD x1 W1 e1=> ?_;generalize hh:σ.n=h at W1 e1;obtain hP:=H.1.4;have R1:Rt p h L τ bD:=⟨H.e x1,W1⟩;obtain a0:=R1.2.1.a0;obtain w3:=R1.1.1.2.made;refine ah (S.md true) λi1 m1 q1=> ?_;refine ah (S.md false) λi2 m2 q2=> ?_;obtain x2:=Ext.new bD (O6 pp);obtain A2:=(A.ext x1).ext x2;refine A3 (vY hq hm.fe) λF1 F2 F3=> ?_;refine ah (jw true c a y n s (d+107) (aaa hK (by lia)) (bD.new (O6 pp)) e m A2.2 A2.3 F1) λwu x3 e3=> ?_;rw[F3]at e3;have R3:=(R1.x x2).x x3;obtain B3:=(At.new R1.1.1.4 (O6 pp)).ext x3;obtain x4:=Ext.new wu (.bV [iV (pp true),iV (pp false)] [iV (tt true),iV (tt false)]);obtain R4:=R3.x x4;refine(under R4 hq hm.eg F2 S.Z (qu R3 [(pp true,tt true),(pp false,tt false)]) S.two (acg _ _) d (r:=200000) (Cy.le (by decide))).el λt5 PD Vj p5 k5 c5 e5=> ?_;obtain R5:=R4.q p5;obtain SY:=R4.pw p5;obtain e5:af P (d+114) 45 [.loc h,bf tc ta ty tn s,.loc wu.n] (wu.new (.bV (putK (putK [] [] (iV (pp true)) (iV (tt true))).1 (putK [] [] (iV (pp true)) (iV (tt true))).2 (iV (pp false)) (iV (tt false))).1 (putK (putK [] [] (iV (pp true)) (iV (tt true))).1 (putK [] [] (iV (pp true)) (iV (tt true))).2 (iV (pp false)) (iV (tt false))).2))=some (iV t5,Vj):=by rw[CM S.ne];exact e5
 refine dw (back R5 all (fU ..) (qt hq hm.fe) (wb hq hm.eg.sm) k5 d) λAQ x6 R6 e6=> ?_;have A6:=(((A2.ext x3).ext x4).x SY id).ext x6;refine A4 (sL hq hm) λG1 G2 G3 G4=> ?_;refine(v7 (s:=s) (ma hm.eg.gT lT lU (.inl (ji hq.1))) (ma hm.eg.gT lT lU (.inr hq.2.1)) (laid p m e y Ry) (laid p m e n Rn) (d+113) (abb.mpr ⟨by lia,by lia⟩) R6.1 A6 (r:=100000) (c5.le (by lia))).el λt7 L7 τ7 σ7 g7 k7 c7 e7=> ?_;have R7:=R6.gt (hh▸hP) g7;obtain W:Wt (.cond (c9 m c) (c9 m a) (gf y m) (gf n m) s)<=36600/\ht (.cond (c9 m c) (c9 m a) (gf y m) (gf n m) s)<=3:=OZ hq hm.eg.sm;refine(sE ((AD (tD m) 3 (.cond (c9 m c) (c9 m a) (gf y m) (gf n m) s) W.2).2 (vX hq hm.eg) p.l h 1 I0 [] 61 (nh (tD m)) G2 (.inr ⟨rfl,G3⟩) (by lia)) (by decide) R7.2 map_none k7 (by decide) (by lia) (d+105) (aaj _ _) (r:=0) (c7.le (by lia))).el λt8 τ8 S4 p8 k8 c8 e8=> ?_;obtain R8:=R7.q p8;obtain ZU:=R7.pw p8;refine dw (back R8 (λx=>(all x).imp λab k=>g7.5 _ k) (fU ..) (AP hq hm) (Lr hq hm) k8 d) λVk x9 R9 e9=> ?_;have A9:=((A6.x g7 id).x ZU id).ext x9;refine ah (jw false c a y n s (d+107) (aaa hK (by lia)) Vk e m A9.2 A9.3 G1) λSa EK Mi=> ?_;rw[G4]at Mi;refine kk<|cq Sa (A9.ext EK) ?_
 exact run [.v H.1.2.tab,.c e1,.v a0,.v (CL R1.1 (.inl rfl) S.fr),.v (R1.2.1.at S.rr),.v a0,.v w3,.v (R1.1.1.3.get R1.1.1.1.8 m1),.v (R1.2.1.at q1),.r,.v a0,.v w3,.v (R1.1.1.3.get R1.1.1.1.8 m2),.v (R1.2.1.at q2),.r,.r,.c e3,.v (oU (pp:=pp) B3.3 true),.v (oV R3 S true),.v (oU (pp:=pp) B3.3 false),.v (oV R3 S false),.r,.c e5,.c e6,.b (Iq (σ:=AQ) (ev (qA I0 c a y n s) m)),.n (R6.2.pP 2 (f:=78) rfl),.c e7,.c e8,.c e9,.c Mi,.b (Ip (σ:=Sa) (ev (qA m c a y n s) I0)),.v (MC (R9.x EK).2),.r,.r] (by kernel_rfl)
end
theorem Se:∀st<22,∃k<23,(1+st)*k %23=1:=by decide
noncomputable def pR(a st:Nat):List Nat:=(aba 23).map λi=>(a+(1+st)*i) %23
theorem CN(a st:Nat):(pR a st).length=23:=by simp only[pR,aae,abp]
theorem It(a st:Nat):∀j∈pR a st,j<23:=λj hj=>by refine ah (aal.mp hj) λi ab e=> ?_;rw[<-e];exact aeu _ (by decide)
theorem CO{a st:Nat}(ha:a<23)(hs:st<22):∀j<23,j∈pR a st:=λj hj=>by
 refine ah (Se st hs) λk ab hk=> ?_;refine aal.mpr ⟨k*(j+23 -a) %23,acd.mpr (aeu _ (by decide)),?_⟩;obtain e:(1+st)*(k*(j+23 -a) %23) %23=(j+23 -a) %23:=by rw[aek,Nat.mod_mod,<-aek,<-Nat.mul_assoc,aek,hk,Nat.one_mul,Nat.mod_mod]
 rw[Nat.add_mod,e,<-Nat.add_mod];obtain this:a+(j+23 -a)=j+23:=by lia
 simp only[this,Nat.add_mod_right,Nat.mod_eq_of_lt hj]
noncomputable def AR(l:List Nat):List Nat:=(aba 23).map λi=>l.getD (22 -i) 0
theorem Iu{l:List Nat}(hl:l.length=23)(h:∀j<23,j∈l):∀j<23,j∈AR l:=λj hj=>by obtain⟨k,hk,e⟩:=List.mem_iff_getElem.mp (h j hj);refine aal.mpr ⟨22 -k,acd.mpr (by simp+arith),?_⟩;simp only[show 22 -(22 -k)=k by lia,aaR,aaP hk,e];rfl
theorem Lv{l:List Nat}(h:∀j∈l,j<23):∀j∈AR l,j<23:=λj hj=>by
 refine ah (aal.mp hj) λi ab e=> ?_;simp only[<-e,aaR];cases q:l[22 -i]? with
 |none=>exact(by decide:0<23)
 |some v=>exact h v (abk q)
theorem Iv(l:List Nat):(AR l).length=23:=by simp only[AR,aae,abp]
section
variable {c a:Sd}{y n:Br}{s:Bool}{m:Ab.Env}{e:Nat}(hq:da 3 (.q c a y n s))(hm:bz m)
include hq hm
theorem pD{σ:St}(he:e<σ.n)(hf:σ.f e=bZ m)(tr f w:Bool)(ord:List Nat)(ho:∀j∈ord,j<23)(hl:ord.length=23)(ha:∀j<23,j∈ord)(d:Nat):
  ∃bD wl dx,e<dx.n/\dx.f e=bZ m/\af P (d+115) 68 [qV c a y n s,.loc e,.bI (ord.map iV),.bool tr] σ=some (.loc wl,bD)/\af P (d+115) 71 [.loc wl,qV c a y n s,.loc e,nV (tu f),.bool w] bD=some (.bool true,dx):=by
 refine cps λab kk=> ?_;obtain lT:m.T.length<=3:=aaa (dZ _) (iP hm.eg.sm.T (.inl rfl));obtain lU:m.U.length<=3:=aaa (dZ _) (iP hm.eg.sm.U (.inr rfl));obtain ZT:Cg 2=413:=rfl;obtain c0:fk I0:=(nh 0).gT;obtain i1:I0.T.length<=3:=by decide
 obtain i2:I0.U.length<=3:=by decide
 refine A4 (wc (g:=2) c0 i1 i2 hq.2.2.1) λRy dy cy ky=> ?_;refine A4 (wc (g:=2) c0 i1 i2 hq.2.2.2) λRn dn cn kn=> ?_;obtain hK:max (K y) (K n)<=100:=abb.mpr ⟨by lia,by lia⟩;refine IT (EF (q:=⟨c,a,y,n,s,m,e⟩) ⟨ma c0 i1 i2 (.inl (ji hq.1)),ma c0 i1 i2 (.inr hq.2.1),Ry,Rn,abb.mpr ⟨by lia,by lia⟩,by show cst y+cst n+83<=1000;lia,hm.eg.gT,aaa lT (by decide),aaa lU (by decide)⟩ tr he hf (d+94) ord ho hl λj hj=>ha j (by lia)) λp L τ bD M ab e1=> ?_;refine Tr (M.src (acY.mpr (ha 20 (by decide))) (acY.mpr (ha 21 (by decide)))) λtr' tc ta ty tn tt pp S=> ?_;cases w
 ·refine ah (EL hq hm hK M.2 M.1.1 M.1.3 S M.3 f d) λdx A2 e2=> ?_;exact kk<|yU bD p.wl dx A2.2 A2.3 e1 e2
 ·refine ah (yM hq hm M.2 M.1.1 M.1.3 S M.3 f d) λdx A2 e2=> ?_;exact kk<|yU bD p.wl dx A2.2 A2.3 e1 e2
end
noncomputable def we:List Int:=[0,0,0,1,0,2,0,0,0,1,4,3,0,0,17,0,1,0,2,0,0,0,0,0,0]
theorem Iw(d:Nat)(ns:List Int)(hl:ns.length<=63)(σ:St):∃(k:List Int) (nums:List Int) (bD:St),0<nums.length/\nums.length<=40/\Ext σ bD/\pI σ (.bI (ns.map .int)) none (some 40) false=some (.bI ((ns.take 40).map .int))/\some (decide (((ns.take 40).map V.int).length<big))=some true/\cB (λr s=>bR P (af P d) (ce 72 0) r s) (λr s=>il P (af P d) (cc 72 0) r s) [some (.bI (ns.map .int)),none,none,none,none,none,none,none,none,none,none,none] ((ns.take 40).map V.int) σ=some (k.map .int,σ)/\
  hJ P (af P d) (fi 72 0) [some (.bI (ns.map .int)),some (.bI (k.map .int)),none,none,none,none,none,none,none,none,none,none] σ=some (.next,[some (.bI (ns.map .int)),some (.bI (nums.map .int)),none,none,none,none,none,none,none,none,none,none],bD):=by
 have sl:pI σ (.bI (ns.map .int)) none (some 40) false=some (.bI ((ns.take 40).map .int)):=by show some (V.bI ((ns.map V.int).take 40))=_;rw[<-List.map_take]
 obtain lp:cB (λr s=>bR P (af P d) (ce 72 0) r s) (λr s=>il P (af P d) (cc 72 0) r s) [some (.bI (ns.map .int)),none,none,none,none,none,none,none,none,none,none,none] ((ns.take 40).map V.int) σ=some (((ns.take 40)).map λx=>V.int (x %999983),σ):=
  fG (f:=V.int) (g:=λx=>V.int (x %999983)) (ns.take 40) (λab ai=>by kernel_rfl) λx ab=>by kernel_rfl
 have em:((ns.take 40).map λx=>V.int (x %999983))=((ns.take 40).map (· %999983)).map V.int:=by simp only[aay];rfl
 rw[em]at lp;generalize hk:(ns.take 40).map (· %999983)=k at lp;have kl:k.length<=40:=by simp only[<-hk,aae,acV];exact Nat.min_le_left _ _
 have ya:some (decide (((ns.take 40).map V.int).length<big))=some true:=gq (by simp only[aae,acV];lia);cases k with
 |nil=>have f:=aP σ (we.map .int);refine EY [] we (cw σ (we.map .int)) (by decide) (by decide) (Ext.cw ..) sl ya ⟨lp,?_⟩;exact GS [.r,.r,.f f] (by kernel_rfl)
 |cons x k=>have z:aS σ .eq (.int ((V.int x::k.map V.int).length:Nat)) (.int 0)=some false:=eq_int (decide_eq_false (by simp only[aax];lia));refine EY (x::k) (x::k) σ (abO _) kl (Ext.refl σ) sl ya ⟨lp,?_⟩;exact GS [.r,.b z] (by kernel_rfl)
section
variable {l:Nat}{nums:List Int}(h0:0<nums.length)(h1:nums.length<=1000)
include h0 h1
theorem O8(d:Nat){b:Nat}{σ:St}(h:D l nums (b+6) σ)(x0 x1 x3 x4 x5 x6 x7 x8 x9 EK Ir:Option V):∃(T:List Nm) (aq:St),(KindsOk 3 T\/∃t,cu t/\T=[t])/\D l nums b aq/\fL l σ aq/\bR P (af P (d+4)) (bo 72 0) [x0,x1,some (.loc l),x3,x4,x5,x6,x7,x8,x9,EK,Ir] σ=some (cF T,aq):=by
 refine cps λab kk=> ?_;refine b8 (dG h0 h1 (d+3) (b:=b+5) h (n:=8) (by decide)) λw s1 hw d1 y1 e1=> ?_;by_cases q:w=7
 ·have c1:aS s1 .eq (iV w) (.int 7)=some true:=eq_int (decide_eq_true (by lia));refine b8 (dG h0 h1 (d+3) (d1.less (show b+1<=b+5 by simp+arith)) (n:=3) (by decide)) λv s2 hv d2 y2 e2=> ?_;obtain Jh:v=0\/v=1\/v=2:=by lia
  rcases Jh with e |e |e<;>subst e
  ·have f:=aP s2 [nV 20];refine kk<|dI [20] _ (.inr ⟨20,.inl rfl,rfl⟩) (d2.ext (Ext.cw s2 [nV 20])) (y1.trans (y2.trans (Ext.cw s2 [nV 20]).x)) ?_
   exact bU [.c e1,.b c1,.c e2,.r,.f f] (by kernel_rfl)
  ·obtain f:=aP s2 [nV 21];refine kk<|dI [21] _ (.inr ⟨21,.inr (.inr rfl),rfl⟩) (d2.ext (Ext.cw s2 [nV 21])) (y1.trans (y2.trans (Ext.cw s2 [nV 21]).x)) ?_
   exact bU [.c e1,.b c1,.c e2,.r,.f f] (by kernel_rfl)
  ·obtain f:=aP s2 [nV 22];refine kk<|dI [22] _ (.inr ⟨22,.inr (.inl rfl),rfl⟩) (d2.ext (Ext.cw s2 [nV 22])) (y1.trans (y2.trans (Ext.cw s2 [nV 22]).x)) ?_
   exact bU [.c e1,.b c1,.c e2,.r,.f f] (by kernel_rfl)
 ·have c1:aS s1 .eq (iV w) (.int 7)=some false:=eq_int (decide_eq_false (by lia));refine b8 (gr h0 h1 d [2,1,3,0] 3 (by decide) (by decide) (by decide) (d1.less (show b+4<=b+5 by simp+arith))) λxs s2 k1 k2 k3 k4=> ?_;refine kk<|dI xs s2 (.inl k1) k2 (y1.trans k3) ?_
  exact bU [.c e1,.b c1,.c k4] (by kernel_rfl)
end
abbrev Xq(sc nm dl q f w st sp:Option V)(e:Nat)(ord:List Nat)(EK Ir:Option V):En:=[sc,nm,dl,some (.loc e),q,f,w,st,sp,some (.bI (ord.map iV)),EK,Ir]
section
variable {c a:Sd}{y n:Br}{s:Bool}{m:Ab.Env}{e:Nat}(hq:da 3 (.q c a y n s))(hm:bz m)
include hq hm
theorem yN{σ:St}(he:e<σ.n)(hf:σ.f e=bZ m)(f w:Bool)(ord:List Nat)(ho:∀j∈ord,j<23)(hl:ord.length=23)(ha:∀j<23,j∈ord)(d:Nat)(sc nm dl st sp Ir:Option V)(tr:Bool):
  ∃dx Vw,e<dx.n/\dx.f e=bZ m/\dS P (af P (d+115)) (lb 72 0) (Xq sc nm dl (some (qV c a y n s)) (some (nV (tu f))) (some (.bool w)) st sp e ord (some (.int (if tr then 1 else 0))) Ir) σ=some (.next,Xq sc nm dl (some (qV c a y n s)) (some (nV (tu f))) (some (.bool w)) st sp e ord (some (.int (if tr then 1 else 0))) Vw,dx):=by
 cases tr
 ·refine g9 (pD hq hm he hf false f w ord ho hl ha d) λbD wl dx g1 g2 e1 e2=> ?_;refine jk dx (some (.loc wl)) g1 g2 ?_;exact eR [.r,.r,.c e1,.c e2] (by kernel_rfl)
 ·refine g9 (pD hq hm he hf true f w (AR ord) (Lv ho) (Iv ord) (Iu hl ha) d) λbD wl dx g1 g2 e1 e2=> ?_;refine jk dx (some (.loc wl)) g1 g2 ?_;obtain el:∀i:Nat,i<23->bS σ (.bI (ord.map iV)) (.int (22 -(i:Int)))=some (iV (ord.getD (22 -i) 0)):=λi hi=>by
   show E7 (ord.map iV) (22 -(i:Int))=_;unfold E7;rw[if_pos (by lia),show((22:Int) -(i:Int)).toNat=22 -i by lia,abI,aaR,aaP (show 22 -i<ord.length by lia)];rfl
  obtain lp:cB (λr s=>bR P (af P (d+115)) (ce 72 2) r s) (λr s=>il P (af P (d+115)) (cc 72 2) r s) [sc,nm,dl,some (.loc e),some (qV c a y n s),some (nV (tu f)),some (.bool w),st,sp,some (.bI (ord.map iV)),some (.int 1),Ir] ((aba 23).map λ(i:Nat)=>V.int (i:Int)) σ=some ((aba 23).map λi=>iV (ord.getD (22 -i) 0),σ):=
   fG (f:=λ(i:Nat)=>V.int (i:Int)) (g:=λi=>iV (ord.getD (22 -i) 0)) (aba 23) (λab ai=>by kernel_rfl) λi hi=>by exact bU [.r,.v (el i (acd.mp hi))] (by kernel_rfl)
  have em:((aba 23).map λi=>iV (ord.getD (22 -i) 0))=(AR ord).map iV:=by simp only[AR];rfl
  have ya:some (decide (((aba 23).map λ(i:Nat)=>V.int (i:Int)).length<big))=some true:=gq (by decide);generalize hL:(aba 23).map (λ(i:Nat)=>V.int (i:Int))=LL at*
  exact eR [.r,.c (zX (s:=σ) 23),.i (oF (c:=23) (by decide)),.b ya,.m lp,.r,.c e1,.c e2] (by kernel_rfl)
end
theorem Iy{body:En->St->Res}{r0 r1 r2 r3 r4 r5 r6 r7 r8 r9 Ir y z:Option V}{s1 s2 s3:St}(h1:body [r0,r1,r2,r3,r4,r5,r6,r7,r8,r9,some (.int 0),Ir] s1=some (.next,[r0,r1,r2,r3,r4,r5,r6,r7,r8,r9,some (.int 0),y],s2))(h2:body [r0,r1,r2,r3,r4,r5,r6,r7,r8,r9,some (.int 1),y] s2=some (.next,[r0,r1,r2,r3,r4,r5,r6,r7,r8,r9,some (.int 1),z],s3)):
  dk 10 body [.int 0,.int 1] [r0,r1,r2,r3,r4,r5,r6,r7,r8,r9,none,Ir] s1=some (.next,[r0,r1,r2,r3,r4,r5,r6,r7,r8,r9,some (.int 1),z],s3):=(aJ h1).trans ((aJ h2).trans rfl)
set_option maxHeartbeats 2000000 in
theorem law(d:Nat)(ns:List Int)(hl:ns.length<=63)(σ:St):∃aq,af P (d+116) 72 [.bI (ns.map .int)] σ=some (.bool true,aq):=by
 refine cps λab kk=> ?_;refine MI (Iw (d+115) ns hl σ) λk nums bD h0 SW x1 e0 ZV e1 e2=> ?_;have h1:nums.length<=1000:=aaa SW (by decide);obtain d2:D bD.n nums (126+NQ 2+4+20) (bD.new (dO 0 nums)):=⟨0,by decide,bY ..,aap _⟩;refine b8 (O8 h0 h1 (d+111) (b:=20+NQ 2+4+20) (d2.less (by decide)) (some (.bI (ns.map .int))) (some (.bI (nums.map .int))) none none none none none none none none none) λT s4 hT d4 y4 e4=> ?_;have ne:bD.n≠s4.n:=by refine dw d4 λab ai aD q=> ?_;lia
 obtain l5:s4.n<(s4.new (.bV [nV 23] [cF T])).n:=aap _;refine b8 (gr h0 h1 (d+111) [1,2,0] 2 (by decide) (by decide) (by decide) (b:=NQ 2+20) ((d4.ext (Ext.new s4 (.bV [nV 23] [cF T]))).less (by decide))) λU s6 hU d6 y6 e6=> ?_;obtain f6:s6.f s4.n= .bV [nV 23] [cF T]:=(y6.f s4.n l5 ne.symm).trans (bY s4 (.bV [nV 23] [cF T]));obtain ZW:cL s6 (.loc s4.n) (nV 24) (cF U)=some (s6.set s4.n (bZ ⟨T,U⟩)):=by show(match s6.f s4.n with | .lst vs=>_ | .bV ks vs=>_ |_=>_)=_;rw[f6];rfl
 obtain l7:=aak l5 y6.n;obtain hm:bz ⟨T,U⟩:=⟨hT,hU⟩;obtain⟨q,s8,⟨c,a,y,n,sp,hq,ok,e8⟩,d8,y8⟩:=mQ h0 h1 2 2 (aab _) (d+107) 20 (s6.set s4.n (bZ ⟨T,U⟩)) ((d6.set ne (bZ ⟨T,U⟩)).less (by decide));subst hq;refine b8 (dG h0 h1 (d+114) (b:=19) d8 (n:=2) (by decide)) λv9 s9 b9 d9 y9 e9=> ?_;refine b8 (dG h0 h1 (d+114) (b:=18) d9 (n:=3) (by decide)) λv10 Ut b10 ZX ZY Mi=> ?_;refine b8 (dG h0 h1 (d+114) (b:=17) ZX (n:=23) (by decide)) λv11 s11 Xr ZZ Vw Vo=> ?_;refine b8 (dG h0 h1 (d+114) (b:=16) ZZ (n:=22) (by decide)) λkf sN Xu d12 Z0 Og=> ?_;obtain yy:=y8.trans (y9.trans (ZY.trans (Vw.trans Z0)));obtain Z2:sN.f s4.n=bZ ⟨T,U⟩:=(yy.f s4.n l7 ne.symm).trans (cz s6 s4.n (bZ ⟨T,U⟩));obtain Z3:s4.n<sN.n:=aak l7 yy.n;obtain⟨f,i9⟩:∃f,bS s9 (.tup [nV 23,nV 24]) (iV v9)=some (nV (tu f)):=by
  obtain hv:v9=0\/v9=1:=by lia
  rcases hv with q |q<;>subst q
  ·exact⟨true,rfl⟩
  ·exact⟨false,rfl⟩
 obtain Xv:aS Ut .eq (iV v10) (.int 2)=some (decide ((v10:Int)=2)):=rfl;generalize decide ((v10:Int)=2)=w at Xv;obtain Vx:eP sN .add (.int 1) (iV kf)=some (iV (1+kf)):=by show some (V.int (1+(kf:Int)))=some (V.int ((1+kf:Nat):Int));simp only[adN];rfl
 obtain it:=oF (c:=23) (by decide);obtain lp:cB (λr s=>bR P (af P (d+115)) (ce 72 1) r s) (λr s=>il P (af P (d+115)) (cc 72 1) r s) [some (.bI (ns.map .int)),some (.bI (nums.map .int)),some (.loc bD.n),some (.loc s4.n),some (qV c a y n sp),some (nV (tu f)),some (.bool w),some (iV v11),some (iV (1+kf)),none,none,none] ((aba 23).map λ(i:Nat)=>V.int (i:Int)) sN=some ((aba 23).map λi=>iV ((v11+(1+kf)*i) %23),sN):=
  fG (f:=λ(i:Nat)=>V.int (i:Int)) (g:=λi=>iV ((v11+(1+kf)*i) %23)) (aba 23) (λab ai=>by kernel_rfl) λi hi=>by
   obtain hi:=acd.mp hi;obtain m1:eP sN .mul (iV (1+kf)) (.int i)=some (iV ((1+kf)*i)):=by show om (og (decide (((1+kf:Nat):Int).natAbs<2^60) &&decide ((i:Int).natAbs<2^60)) (some (((1+kf:Nat):Int)*(i:Int)))) _=_;rw[decide_eq_true (by lia:((1+kf:Nat):Int).natAbs<2^60),decide_eq_true (by lia:(i:Int).natAbs<2^60)];rfl
   obtain a1:eP sN .add (iV v11) (iV ((1+kf)*i))=some (iV (v11+(1+kf)*i)):=by show some (V.int ((v11:Int)+((1+kf)*i:Nat)))=_;rw[<-adN]
   obtain o1:eP sN .mod (iV (v11+(1+kf)*i)) (.int 23)=some (iV ((v11+(1+kf)*i) %23)):=by rfl
   exact bU [.v m1,.v a1,.v o1] (by kernel_rfl)
 obtain em:((aba 23).map λi=>iV ((v11+(1+kf)*i) %23))=(pR v11 kf).map iV:=by simp only[pR,aay];rfl
 obtain ya:some (decide (((aba 23).map λ(i:Nat)=>V.int (i:Int)).length<big))=some true:=gq (by decide);refine dM (yN ok hm Z3 Z2 f w (pR v11 kf) (It v11 kf) (CN v11 kf) (CO Xr Xu) d (some (.bI (ns.map .int))) (some (.bI (nums.map .int))) (some (.loc bD.n)) (some (iV v11)) (some (iV (1+kf))) none false) λSv Vy Z4 IJ VA=> ?_;refine dM (yN ok hm Z4 IJ f w (pR v11 kf) (It v11 kf) (CN v11 kf) (CO Xr Xu) d (some (.bI (ns.map .int))) (some (.bI (nums.map .int))) (some (.loc bD.n)) (some (iV v11)) (some (iV (1+kf))) Vy true) λXw Z5 l14 WK VB=> ?_;obtain VA:dS P (af P (d+115)) (lb 72 0) [some (.bI (ns.map .int)),some (.bI (nums.map .int)),some (.loc bD.n),some (.loc s4.n),some (qV c a y n sp),some (nV (tu f)),some (.bool w),some (iV v11),some (iV (1+kf)),some (.bI ((pR v11 kf).map iV)),some (.int 0),none] sN=some (.next,[some (.bI (ns.map .int)),some (.bI (nums.map .int)),some (.loc bD.n),some (.loc s4.n),some (qV c a y n sp),some (nV (tu f)),some (.bool w),some (iV v11),some (iV (1+kf)),some (.bI ((pR v11 kf).map iV)),some (.int 0),Vy],Sv):=VA;obtain VB:dS P (af P (d+115)) (lb 72 0) [some (.bI (ns.map .int)),some (.bI (nums.map .int)),some (.loc bD.n),some (.loc s4.n),some (qV c a y n sp),some (nV (tu f)),some (.bool w),some (iV v11),some (iV (1+kf)),some (.bI ((pR v11 kf).map iV)),some (.int 1),Vy] Sv=some (.next,[some (.bI (ns.map .int)),some (.bI (nums.map .int)),some (.loc bD.n),some (.loc s4.n),some (qV c a y n sp),some (nV (tu f)),some (.bool w),some (iV v11),some (iV (1+kf)),some (.bI ((pR v11 kf).map iV)),some (.int 1),Z5],Xw):=VB;refine kk<|⟨Xw,?_⟩
 generalize hL:(aba 23).map (λ(i:Nat)=>V.int (i:Int))=LL at it ya lp;exact run [.v e0,.r,.b ZV,.m e1,.t e2,.e e4,.r,.c e6,.s ZW,.c e8,.c e9,.v i9,.c Mi,.b Xv,.c Vo,.c Og,.v Vx,.c (zX (s:=sN) 23),.i it,.b ya,.m lp,.r,.r,.l (Iy VA VB),.r] (by kernel_rfl)
end Own.Internal.Wk
end
end
theorem PySem.Challenge.cw_xm0525_01_holds : PySem.Challenge.rw_xm0525_01.Holds :=
 Own.Internal.Mp.law_holds fun ns h=>Own.Internal.Wk.law 0 ns h Own.Internal.Mp.σ0
