import PyProof.Rows.All
import Wide.All
import OpenK.AllK
import Open.FastLooks
import Open.FastRun
import Open.FastT9
import Open.Boot
import Open.Pieces
import PyProof.ExcBaseAll.Exception
import Lean
import PySem.Challenge.RW_xm0830_01
set_option Elab.async false
set_option maxHeartbeats 0
set_option maxRecDepth 1000000
set_option linter.all false
set_option compiler.extract_closed false
set_option bootstrap.genMatcherCode false
set_option genInjectivity false
set_option genSizeOf false
set_option genCtorIdx false
set_option tactic.hygienic false
noncomputable section
namespace RK.Internal
open Option renaming some->QA,none->QC
open Bool renaming true->QD,false->QE
open PySem renaming Expr->QF,Value->QG,Shared->QH,Stmt->QI,DictEntry->QJ,Addr->QK,ExceptHandler->QL,Heap->QM,Around->QN,BoolOp->QO,Builtin->QP,NameKind->QQ,Comprehension->QR,UnaryOp->QS,Operator->QT,Scope->QV,World->QW,Program->QX,GenState->QY,Arguments->QZ,OsState->Q0,ClassData->Q1,KeyKind->Q2,FuncBody->Q3,Flow->Q6,Params->Q7,OwnTail->Q8,Data->Q9,Result->RA,StrKeys->RC,Gives->RD,Model->RE,Slot->RG,Args->RH
abbrev aS:=@decide_eq_false
abbrev iF:=@decide_eq_true
abbrev By:=@congrArg
abbrev L4:=@if_neg
abbrev L6:=@if_pos
open Nat renaming le_of_ble_eq_true->aT,le_trans->bY,lt_of_lt_of_le->dO,sub_add_cancel->iS,le_refl->AS,add_le_add_left->BY,min_eq_left->IS,le_add_right->LX,le_antisymm->L2,zero_le->Mi,pos_of_ne_zero->Mk,min_le_right->Mm,lt_of_le_of_ne->Mx,max_le->MA,le_of_eq->MB,le_succ_of_le->ME,le_of_lt->MK,not_lt->MN,lt_or_ge->MT,lt_of_le_of_lt->MU,min_le_left->MW,max_eq_right->MZ,mod_lt->M6,div_lt_of_lt_mul->M7,succ_le_succ->M8,sub_le_iff_le_add'->Nd,shiftRight_eq_div_pow->Nk,exists_eq_add_of_le->Ny,add_comm->NA,le_max_left->NH,lt_irrefl->NQ,add_assoc->NT,le_succ->NX,le_add_left->N0,max_eq_left->N3,le_of_lt_succ->N4,le_of_succ_le->N5,le_max_right->N9,lt_of_succ_lt_succ->Oc,add_right_comm->Oe,two_pow_add_eq_or_of_lt->Oo,sub_le->Ot,lt_succ_self->Ox,lt_trans->Oz,ne_of_lt->OA,succ_add_eq_add_succ->OB,not_lt_zero->OE,pow_succ'->OH,lt_trichotomy->OM,lt_succ_of_le->OR,le_total->OZ,shiftLeft_eq->O7,min_eq_right->O8,add_le_add_right->Pb,mul_le_mul_left->Pg,sub_lt_sub_left->Pk,succ_eq_add_one->Po,zero_add->Pp,ne_of_gt->Pt,succ_le_of_lt->PG,mul_comm->PX,min_self->Qb,add_zero->Qd
open Option.some renaming inj->iN
open PySem renaming wpAny_bind->oF,wpAny_pure->LW,builtinLookup_eq_fast->L1,typeLookup_type->Mr,sizeLine_eq->My,wpAny_of_eq->Mz,wpAny_specialOf->MD,wpAny_newObj_type->M4,wpAny_isSubtype_exc->Ni,isSubtype_type->Nl,wpAny_loadPart_at->NC,wpAny_isInstance->NO,wpAny_Constant_str->NS,entryFor_of_tree->N8,bm_if_false->Om,wpAny_holding->Oq,wpAny_loadName_local->Ov,wpAny_execs_nil->OG,call_gives->OK,wpAny_truthy_bool->OL,wpAny_field->OO,wpAny_load->OP,wpAny_assign_Name->OQ,wpAny_Constant_bool->Pf,wpAny_Constant_int->Pw,wpAny_setField->Pz,getMethod_builtin->PD,plainId_quiet->PL,codeAny_builtin->PV,codeAny_of_tree->PW,wpAny_rule->PZ,bm_if_true->P1,wpAny_Name->P9
open Int renaming natCast_nonneg->oR,ofNat_lt->Mo,emod_nonneg->Mu,ofNat_le->MJ,emod_lt_of_pos->MM,max_eq_right->M9,not_lt->Nf,le_of_lt->Nm,toNat_of_nonneg->NI,fdiv_eq_ediv_of_nonneg->NL,max_eq_left->N1,eq_ofNat_of_zero_le->N6,natCast_add->Og,sub_eq_add_neg->OC,lt_of_lt_of_le->OD,sub_nonpos_of_le->Pa,natCast_mul->Pe,le_antisymm->Ph,min_eq_left->Pj,sub_zero->Pq,lt_trans->Pr,add_zero->PN,le_of_eq->PO,add_assoc->P5,not_le->P8,zero_add->Qa,le_trans->Qc,lt_toNat->Qe,toNat_lt->Qf
open List renaming mem_cons->tO,getElem?_eq_getElem->As,mem_append_right->DO,size_toArray->IF,mem_singleton->LS,length_append->LU,append_assoc->LV,length_take->LY,length_map->LZ,map_cons->L0,length_drop->L3,take_length->L5,getElem?_set_self->L7,mem_map->L8,all_eq_true->L9,lookup_cons->Ma,length_cons->Mb,map_append->Mc,eq_nil_of_length_eq_zero->Me,nodup_cons->Mf,perm_append_comm_assoc->Mg,zip_cons_cons->Mj,mem_map_of_mem->Ml,mem_append_left->Mp,mem_append->Mq,getElem?_eq_some_iff->Ms,getElem?_eq_none->Mt,not_mem_nil->Mw,append_nil->MC,prefix_refl->MG,perm_middle->MH,pairwise_iff_getElem->MI,getElem?_set_ne->ML,getElem?_take_of_lt->MO,mem_of_getElem?->MQ,mem_of_mem_take->MR,length_nil->MX,take_append_of_le_length->M0,length_pos_iff->M3,length_eq_zero_iff->M5,getElem?_append_right->Na,take_of_length_le->Nb,map_congr_left->Ng,nodup_append->Nh,getElem?_append_left->Nj,eq_nil_or_concat->Nn,pairwise_cons->Nq,mem_of_mem_drop->Nt,filter_cons_of_neg->Nu,filter_cons_of_pos->Nv,pairwise_singleton->Nw,map_map->Nz,drop_zero->NB,drop_eq_nil_of_le->NK,any_eq_true->NP,find?_eq_none->NR,set_set->NU,getElem?_drop->NV,drop_eq_getElem_cons->NW,getElem?_zip_eq_some->NY,getElem?_of_mem->NZ,take_take->Ob,prefix_append->Of,take_append_drop->Oi,getElem?_toArray->Oj,mem_reverse->Ow,cons_append->Oy,nil_append->OI,flatten_cons->OJ,ext_getElem?->ON,foldl_append->OT,getElem?_map->OU,cons_lt_cons_iff->OX,lookup_cons_self->OY,length_singleton->O0,drop_length->O9,filterMap_cons->Pm,drop_take->Py,drop_drop->PA,take_add_one->PF,drop_nil->PH,any_cons->PI,map_fst_zip->PM,filter_map->PY,mem_range->P2,map_take->P7
open PySem.W renaming typeIs_bytes->Md
open List.Perm renaming append_left->Mh,refl->Oa
open Option renaming isSome_iff_exists->Mv,map_eq_some_iff->MV,map_eq_none_iff->Od,map_some->PT
open PySem.Heap renaming lt_size->MF,get?_push_size->MP,get?_push_of_some->Nc,get?_update_other->NJ,get?_update_self->Ol,dictOf_iff->OF,size_push->P4
open PySem.F renaming excBase_Exception->MY,bm_called->Pn,sub_bytes_bytes->PC
open Bool renaming false_ne_true->Np,and_eq_true_iff->Nr,and_eq_true->NN,and_false->OV,or_false->PJ,eq_iff_iff->PR
open UInt8 renaming toNat_ofNat_of_lt->Nx
open PySem.W.Fast renaming te10110043849684766642->NF,te14364793385576792824->NG
open Array renaming getElem?_eq_some_iff->NM
open List.Sublist renaming append_left->N2
open Ne renaming symm->N7
open Exists renaming elim->Oh
open List.cons renaming inj->Ou
open PySem.W.FB renaming slot_bytes_getitem->OW
open PySem.Calls renaming Name_function_global->Pc
open Int.ofNat renaming inj->Pd
open PySem.Obj renaming data_mapFields->Pu
open PyProof.Rows renaming spliced_none->Px
open Classical renaming not_not->PB
open PySem.Sem renaming wp_mono->PK
open Nat.succ renaming inj->PU
open Prod.mk renaming injEq->P6
open PySem.W.KPc renaming turn->Qg
open PySem
@[elab_as_elim]theorem rwl {α:Sort _} {a b:α} {m:α->Prop} (h:a=b) (t:m b):m a:=h▸t
@[elab_as_elim]theorem rwr {α:Sort _} {a b:α} {m:α->Prop} (h:a=b) (t:m a):m b:=h▸t
open Lean in
local macro_rules |`(tactic|rw $s:rwRuleSeq)=>do
 let x:=(<- getRef).setKind `Lean.Parser.Tactic.rwSeq
 let q:=s.raw[1]
 let r:=q[0]
 if r.isMissing then Macro.throwUnsupported
 let n:=λ(k:Name) (a:Array Syntax)=>Syntax.node .none (`Lean.Parser++k) a
 let z:=mkAtom ""
 let m:=λ(a:Array Syntax)=>s.raw.setArg 1 (mkNullNode a)
 pure (mkNullNode #[n `Tactic.first #[z,mkNullNode #[mkNullNode #[z,n `Tactic.refine #[z,n `Term.app #[mkIdent (if r[0].isNone then `rwl else `rwr),mkNullNode #[r[1],n `Term.syntheticHole #[z,n `Term.hole #[z]]]]]],mkNullNode #[z,(x.setKind `Lean.Parser.Tactic.rewriteSeq).setArg 2 (m #[r])]]],x.setArg 2 (m (q.getArgs.extract 2 q.getNumArgs))])
section
open PySem.W
set_option Elab.async false
theorem fF {a b:Bool} (h:a=QD) (k:b=QD):(a&&b)=QD:=by rw[h,k];rfl
theorem LP:PySem.W.Fast.tw9446332074065402090 PySem.Challenge.rw_xm0830_01=QD:=by
 delta PySem.W.Fast.tw9446332074065402090
 refine fF (fF (fF (fF (fF (fF (fF (fF (fF (fF (fF (fF (fF (fF (fF (fF (fF (fF ?_ ?_) ?_) ?_) ?_) ?_) ?_) ?_) ?_) ?_) ?_) ?_) ?_) ?_) ?_) ?_) ?_) ?_) ?_
 all_goals decide+kernel
theorem ws:PySem.Challenge.rw_xm0830_01.wellSaid=QD:=(congrFun PySem.W.Fast.te9446332074065402090 _).trans LP
end
section
set_option tactic.hygienic true
theorem fX {T:Prop} {A:Type _} {x:A} (h:QC=QA x):T:=nomatch h
theorem me {p q r:Prop} {Q:Prop} (h:p/\q/\r) (k:p->q->r->Q):Q:=k h.1 h.2.1 h.2.2
theorem FE {p q r s:Prop} {Q:Prop} (h:p/\q/\r/\s) (k:p->q->r->s->Q):Q:=k h.1 h.2.1 h.2.2.1 h.2.2.2
theorem B9 {p q r s t:Prop} {Q:Prop} (h:p/\q/\r/\s/\t) (k:p->q->r->s->t->Q):Q:=k h.1 h.2.1 h.2.2.1 h.2.2.2.1 h.2.2.2.2
theorem D5 {p q r s t u:Prop} {Q:Prop} (h:p/\q/\r/\s/\t/\u) (k:p->q->r->s->t->u->Q):Q:=k h.1 h.2.1 h.2.2.1 h.2.2.2.1 h.2.2.2.2.1 h.2.2.2.2.2
theorem aU {A:Sort _} {p q:A->Prop} {Q:Prop} (h: ∃a,p a/\q a) (k: ∀a,p a->q a->Q):Q:=h.elim λa h=>k a h.1 h.2
theorem kE {A:Sort _} {p q r:A->Prop} {Q:Prop} (h: ∃a,p a/\q a/\r a) (k: ∀a,p a->q a->r a->Q):Q:=h.elim λa h=>k a h.1 h.2.1 h.2.2
theorem Ca {A:Sort _} {p q r s:A->Prop} {Q:Prop} (h: ∃a,p a/\q a/\r a/\s a) (k: ∀a,p a->q a->r a->s a->Q):Q:=h.elim λa h=>k a h.1 h.2.1 h.2.2.1 h.2.2.2
theorem FY {A:Sort _} {p q r s t:A->Prop} {Q:Prop} (h: ∃a,p a/\q a/\r a/\s a/\t a) (k: ∀a,p a->q a->r a->s a->t a->Q):Q:=h.elim λa h=>k a h.1 h.2.1 h.2.2.1 h.2.2.2.1 h.2.2.2.2
theorem oX {A:Sort _} {B:Sort _} {p:A->B->Prop} {Q:Prop} (h: ∃a,∃b,p a b) (k: ∀a b,p a b->Q):Q:=h.elim λa h=>h.elim λb h=>k a b h
theorem mf {A:Sort _} {B:Sort _} {p q:A->B->Prop} {Q:Prop} (h: ∃a,∃b,p a b/\q a b) (k: ∀a b,p a b->q a b->Q):Q:=h.elim λa h=>h.elim λb h=>k a b h.1 h.2
theorem dM {A:Sort _} {B:Sort _} {p q r:A->B->Prop} {Q:Prop} (h: ∃a,∃b,p a b/\q a b/\r a b) (k: ∀a b,p a b->q a b->r a b->Q):Q:=h.elim λa h=>h.elim λb h=>k a b h.1 h.2.1 h.2.2
theorem H4 {A:Sort _} {B:Sort _} {p q r s:A->B->Prop} {Q:Prop} (h: ∃a,∃b,p a b/\q a b/\r a b/\s a b) (k: ∀a b,p a b->q a b->r a b->s a b->Q):Q:=h.elim λa h=>h.elim λb h=>k a b h.1 h.2.1 h.2.2.1 h.2.2.2
theorem DT {A:Sort _} {B:Sort _} {p q r s t:A->B->Prop} {Q:Prop} (h: ∃a,∃b,p a b/\q a b/\r a b/\s a b/\t a b) (k: ∀a b,p a b->q a b->r a b->s a b->t a b->Q):Q:=h.elim λa h=>h.elim λb h=>k a b h.1 h.2.1 h.2.2.1 h.2.2.2.1 h.2.2.2.2
theorem IL {A:Sort _} {B:Sort _} {p q r s t u:A->B->Prop} {Q:Prop} (h: ∃a,∃b,p a b/\q a b/\r a b/\s a b/\t a b/\u a b) (k: ∀a b,p a b->q a b->r a b->s a b->t a b->u a b->Q):Q:=h.elim λa h=>h.elim λb h=>k a b h.1 h.2.1 h.2.2.1 h.2.2.2.1 h.2.2.2.2.1 h.2.2.2.2.2
theorem H5 {A:Sort _} {B:Sort _} {p q r s t u v:A->B->Prop} {Q:Prop} (h: ∃a,∃b,p a b/\q a b/\r a b/\s a b/\t a b/\u a b/\v a b) (k: ∀a b,p a b->q a b->r a b->s a b->t a b->u a b->v a b->Q):Q:=h.elim λa h=>h.elim λb h=>k a b h.1 h.2.1 h.2.2.1 h.2.2.2.1 h.2.2.2.2.1 h.2.2.2.2.2.1 h.2.2.2.2.2.2
theorem H6 {A:Sort _} {B:Sort _} {C:Sort _} {p q:A->B->C->Prop} {Q:Prop} (h: ∃a,∃b,∃c,p a b c/\q a b c) (k: ∀a b c,p a b c->q a b c->Q):Q:=h.elim λa h=>h.elim λb h=>h.elim λc h=>k a b c h.1 h.2
theorem FF {A:Sort _} {B:Sort _} {C:Sort _} {p q r:A->B->C->Prop} {Q:Prop} (h: ∃a,∃b,∃c,p a b c/\q a b c/\r a b c) (k: ∀a b c,p a b c->q a b c->r a b c->Q):Q:=h.elim λa h=>h.elim λb h=>h.elim λc h=>k a b c h.1 h.2.1 h.2.2
theorem mB {A:Sort _} {B:Sort _} {C:Sort _} {p q r s:A->B->C->Prop} {Q:Prop} (h: ∃a,∃b,∃c,p a b c/\q a b c/\r a b c/\s a b c) (k: ∀a b c,p a b c->q a b c->r a b c->s a b c->Q):Q:=h.elim λa h=>h.elim λb h=>h.elim λc h=>k a b c h.1 h.2.1 h.2.2.1 h.2.2.2
theorem FZ {A:Sort _} {B:Sort _} {C:Sort _} {p q r s t:A->B->C->Prop} {Q:Prop} (h: ∃a,∃b,∃c,p a b c/\q a b c/\r a b c/\s a b c/\t a b c) (k: ∀a b c,p a b c->q a b c->r a b c->s a b c->t a b c->Q):Q:=h.elim λa h=>h.elim λb h=>h.elim λc h=>k a b c h.1 h.2.1 h.2.2.1 h.2.2.2.1 h.2.2.2.2
theorem IM {A:Sort _} {B:Sort _} {C:Sort _} {p q r s t u:A->B->C->Prop} {Q:Prop} (h: ∃a,∃b,∃c,p a b c/\q a b c/\r a b c/\s a b c/\t a b c/\u a b c) (k: ∀a b c,p a b c->q a b c->r a b c->s a b c->t a b c->u a b c->Q):Q:=h.elim λa h=>h.elim λb h=>h.elim λc h=>k a b c h.1 h.2.1 h.2.2.1 h.2.2.2.1 h.2.2.2.2.1 h.2.2.2.2.2
theorem y5 {A:Sort _} {B:Sort _} {C:Sort _} {D:Sort _} {p q r s:A->B->C->D->Prop} {Q:Prop} (h: ∃a,∃b,∃c,∃d,p a b c d/\q a b c d/\r a b c d/\s a b c d) (k: ∀a b c d,p a b c d->q a b c d->r a b c d->s a b c d->Q):Q:=h.elim λa h=>h.elim λb h=>h.elim λc h=>h.elim λd h=>k a b c d h.1 h.2.1 h.2.2.1 h.2.2.2
theorem IP {A:Sort _} {B:Sort _} {C:Sort _} {D:Sort _} {p q r s t:A->B->C->D->Prop} {Q:Prop} (h: ∃a,∃b,∃c,∃d,p a b c d/\q a b c d/\r a b c d/\s a b c d/\t a b c d) (k: ∀a b c d,p a b c d->q a b c d->r a b c d->s a b c d->t a b c d->Q):Q:=h.elim λa h=>h.elim λb h=>h.elim λc h=>h.elim λd h=>k a b c d h.1 h.2.1 h.2.2.1 h.2.2.2.1 h.2.2.2.2
section
noncomputable def zn:List Nat->Nat->Nat
 |[],J=>0
 |x::r,i=>match i with
  |0=>x
  |j+1=>zn r j
noncomputable def zi:List Int->Nat->Int
 |[],J=>0
 |x::r,i=>match i with
  |0=>x
  |j+1=>zi r j
def H2 (k:Nat) (a b:Nat):Prop:=match k with
 |0=>a<=b
 |1=>a<b
 |2=>a=b
 |3=> ¬a<=b
 |4=> ¬a<b
 |_=> ¬a=b
def DR (k:Nat) (a b:Int):Prop:=match k with
 |0=>a<=b
 |1=>a<b
 |2=>a=b
 |3=> ¬a<=b
 |4=> ¬a<b
 |_=> ¬a=b
theorem IG (k:Nat) {a b:Nat}:H2 k a b↔DR k a b:=by
 rcases k with _|_|_|_|_|k
 ·exact MJ.symm
 ·exact Mo.symm
 ·exact Int.ofNat_inj.symm
 ·exact not_congr MJ.symm
 ·exact not_congr Mo.symm
 ·exact not_congr Int.ofNat_inj.symm
def zv (as:List Nat) (bs:List Int) (k:Nat):Int:=match k with
 |0=>1
 |k+1=>match Nat.ble 10 k with
  |false=>(zn as k:Int)
  |true=>zi bs (k-10)
theorem FC {k:Nat} (h:Nat.ble 10 k=QE):zv as bs (k+1)=zn as k:=by simp only[zv,h]
theorem H3 (i:Nat):zv as bs (i+10+1)=zi bs i:=by
 have:Nat.ble 10 (i+10)=QD:=Nat.ble_eq_true_of_le (N0 _ _)
 simp only[zv,this,Nat.add_sub_cancel]
noncomputable def zd (as:List Nat) (bs:List Int):List Nat->Nat->Int
 |[],J=>0
 |x::r,k=>x*zv as bs k+zd as bs r (k+1)
noncomputable def cJ:List Nat->List Nat->List Nat
 |[],m=>m
 |x::r,m=>match m with
  |[]=>x::r
  |y::t=>(x+y)::cJ r t
noncomputable def eM (n:Nat):List Nat->List Nat
 |[]=>[]
 |x::r=>(n*x)::eM n r
noncomputable def zu:Nat->List Nat
 |0=>[1]
 |i+1=>0::zu i
theorem IB {a b c d:Int}:a+b+(c+d)=a+c+(b+d):=by rw[P5,P5,Int.add_left_comm b]
theorem cK: ∀(l m:List Nat) (k:Nat),zd as bs (cJ l m) k=zd as bs l k+zd as bs m k:=by
 intro l
 induction l with
 |nil=>exact λm k=>(Qa _).symm
 |cons x r ih=>
  intro m k
  cases m with
  |nil=>exact(PN _).symm
  |cons y t=>
   show((x+y:Nat):Int)*zv as bs k+zd as bs (cJ r t) (k+1)=(x*zv as bs k+zd as bs r (k+1))+(y*zv as bs k+zd as bs t (k+1))
   rw[ih t,Og,Int.add_mul];exact IB
theorem gE (n:Nat): ∀(l:List Nat) (k:Nat),zd as bs (eM n l) k=n*zd as bs l k:=λl=>l.rec (λk=>(Int.mul_zero _).symm) λx r ih k=>by
  show((n*x:Nat):Int)*_+zd as bs (eM n r) _=n*(_+_)
  rw[ih,Int.mul_add,Pe,Int.mul_assoc]
theorem Fx: ∀(i k:Nat),zd as bs (zu i) k=zv as bs (k+i):=λl=>l.rec (λk=>by show(1:Int)*_+0=_;rw[Int.one_mul];exact PN _) λi ih k=>by
  show(0:Int)*_+zd as bs (zu i) (k+1)=_
  rw[Int.zero_mul,Qa,ih,Nat.succ_add];rfl
noncomputable def zz:List Nat->Bool
 |[]=>QD
 |x::r=>x==0&&zz r
noncomputable def zq:List Nat->List Nat->Bool
 |[],r=>zz r
 |x::l,r=>match r with
  |[]=>x==0&&zz l
  |y::r=>x==y&&zq l r
noncomputable def zg:Nat->List Nat->List Nat->Bool
 |0,l,r=>zq l r
 |n+1,l,r=>match l with
  |[]=>zz r
  |x::l=>match r with
   |[]=>zg n l []
   |y::r=>Nat.ble y x&&zg n l r
def zl (l r:List Nat):Bool:=match l with
 |[]=>QE
 |x::l=>match r with
  |[]=>Nat.ble 1 x&&zg 10 l []
  |y::r=>Nat.ble (y+1) x&&zg 10 l r
theorem y4: ∀{l:List Nat} (k:Nat),zz l=QD->zd as bs l k=0:=λ{l}=>l.rec (λJ J=>rfl) λx r ih k h=>by
  have h:=(NN _ _).mp h
  show(x:Int)*_+_=0
  rw[ih (k+1) h.2,eq_of_beq h.1,PN];exact Int.zero_mul _
theorem B5: ∀{l r:List Nat} (k:Nat),zq l r=QD->zd as bs l k=zd as bs r k:=by
 intro l
 induction l with
 |nil=>exact λk h=>(y4 k h).symm
 |cons x l ih=>
  intro r k h
  cases r with
  |nil=>exact y4 (l:=x::l) k h
  |cons y r=>
   have h:=(NN _ _).mp h
   show(x:Int)*_+_=y*_+_
   rw[ih (k+1) h.2,eq_of_beq h.1]
theorem B6 {k:Nat} (h:k<=10):0<=zv as bs k:=by
 cases k with
 |zero=>exact Int.zero_le_ofNat 1
 |succ k=>
  cases h':Nat.ble 10 k with
  |false=>rw[FC h'];exact oR _
  |true=>exact absurd (aT h') (Nat.not_le.mpr h)
theorem zk {n k:Nat} (h:n+1+k<=11):n+(k+1)<=11/\k<=10:=
 have h:=bY (MB (Oe n k 1)) h
 ⟨h,Nat.le_of_succ_le_succ (bY (N0 (k+1) n) h)⟩
theorem B4: ∀(n:Nat) {l r:List Nat} (k:Nat),n+k<=11->zg n l r=QD->zd as bs r k<=zd as bs l k:=by
 intro n
 induction n with
 |zero=>exact λk J h=>PO (B5 k h).symm
 |succ n ih=>
  intro l r k a h
  cases l with
  |nil=>exact PO (y4 k h)
  |cons x l=>
   cases r with
   |nil=>exact Int.add_nonneg (Int.mul_nonneg (oR _) (B6 (zk a).2)) (ih (l:=l) (r:=[]) (k+1) (zk a).1 h)
   |cons y r=>
    have h:=(NN _ _).mp h
    have ih:=ih (l:=l) (r:=r) (k+1) (zk a).1 h.2
    exact Int.add_le_add (Int.mul_le_mul_of_nonneg_right (MJ.mpr (aT h.1)) (B6 (zk a).2)) ih
theorem Fz {l r:List Nat} (h:zl l r=QD):zd as bs r 0<zd as bs l 0:=by
 unfold zl at h
 cases l with
 |nil=>cases h
 |cons x l=>
  cases r with
  |nil=>
   have h:=(NN _ _).mp h
   have ih:=B4 (as:=as) (bs:=bs) 10 1 (AS _) h.2
   exact Int.add_pos_of_pos_of_nonneg (Int.mul_pos (Mo.mpr (aT h.1)) Int.one_pos) ih
  |cons y r=>
   have h:=(NN _ _).mp h
   have ih:=B4 (as:=as) (bs:=bs) 10 1 (AS _) h.2
   exact Int.add_lt_add_of_lt_of_le (Int.mul_lt_mul_of_pos_right (Mo.mpr (aT h.1)) Int.one_pos) ih
structure ZN (as:List Nat) (bs:List Int) where
 x:Nat
 p:List Nat
 h:(x:Int)=zd as bs p 0
structure ZI (as:List Nat) (bs:List Int) where
 x:Int
 p:List Nat
 q:List Nat
 h:x=zd as bs p 0-zd as bs q 0
structure ZA (as:List Nat) (bs:List Int) (H:Prop) where
 l:List Nat
 r:List Nat
 e:Bool
 h:H->zd as bs l 0<=zd as bs r 0
 k:e=QD->H->zd as bs l 0=zd as bs r 0
structure ZR (H:Prop) where
 ok:Bool
 P:Prop
 h:ok=QD->H->P
theorem oU (n:Nat):(n:Int)=zd as bs [n] 0:=by
 show _=(n:Int)*1+0
 rw[Int.mul_one];exact(PN _).symm
theorem DQ:zd as bs [] 0=0:=rfl
def LR (i:Nat):ZN as bs:=match h:Nat.ble 10 i with
 |false=>⟨zn as i,zu (i+1),by rw[Fx,Pp,FC h]⟩
 |true=>⟨0,[],rfl⟩
def LQ (i:Nat):ZI as bs:=⟨zi bs i,zu (i+11),[],by rw[Fx,Pp,DQ,Pq];exact(H3 i).symm⟩
section
variable {x y p q:Int} (h:x-y=p-q)
include h
theorem z1 (k:x<=y):p<=q:=Int.le_of_sub_nonpos (h▸Pa k)
theorem z2 (k:x<y):p<q:=Int.lt_of_sub_neg (h▸Int.sub_neg_of_lt k)
theorem z3 (k:x=y):p=q:=Int.eq_of_sub_eq_zero (h▸Int.sub_eq_zero_of_eq k)
theorem z4 (k: ¬x<=y):q<p:=Int.lt_of_sub_pos (h▸Int.sub_pos_of_lt (P8.mp k))
theorem z5 (k: ¬x<y):q<=p:=Int.le_of_sub_nonneg (h▸Int.sub_nonneg_of_le (Nf.mp k))
end
theorem DX {l r u v:List Nat} (m:Nat) (h:zd as bs l 0<=zd as bs r 0) (k:zd as bs u 0<=zd as bs v 0):zd as bs (cJ l (eM m u)) 0<=zd as bs (cJ r (eM m v)) 0:=by
 rw[cK,cK,gE,gE]
 exact Int.add_le_add h (Int.mul_le_mul_of_nonneg_left k (oR _))
theorem ID {l r u v:List Nat} (m:Nat) (h:zd as bs l 0=zd as bs r 0) (k:zd as bs u 0=zd as bs v 0):zd as bs (cJ l (eM m u)) 0=zd as bs (cJ r (eM m v)) 0:=by
 rw[cK,cK,gE,gE,h,k]
theorem IE {u v:List Nat} (k:zd as bs u 0<zd as bs v 0):zd as bs (cJ u [1]) 0<=zd as bs v 0:=by
 rw[cK];exact k
theorem FX {P:Prop} (h:QE=QD):P:=Bool.noConfusion h
def zh {H:Prop} (A:ZA as bs H) (k m:Nat) (l r:List Nat) (x y:Int) (hx:x-y=zd as bs l 0-zd as bs r 0):ZA as bs (H/\DR k x y):=match k with
 |0=>⟨cJ A.l (eM m l),cJ A.r (eM m r),QE,λh=>DX m (A.h h.1) (z1 hx h.2),FX⟩
 |1=>⟨cJ A.l (eM m (cJ l [1])),cJ A.r (eM m r),QE,λh=>DX m (A.h h.1) (IE (z2 hx h.2)),FX⟩
 |2=>match Nat.ble 32 m with
  |false=>⟨cJ A.l (eM m l),cJ A.r (eM m r),A.e,λh=>DX m (A.h h.1) (PO (z3 hx h.2)),λe h=>ID m (A.k e h.1) (z3 hx h.2)⟩
  |true=>⟨cJ A.l (eM (m-32) r),cJ A.r (eM (m-32) l),A.e,λh=>DX _ (A.h h.1) (PO (z3 hx h.2).symm),λe h=>ID _ (A.k e h.1) (z3 hx h.2).symm⟩
 |3=>⟨cJ A.l (eM m (cJ r [1])),cJ A.r (eM m l),QE,λh=>DX m (A.h h.1) (IE (z4 hx h.2)),FX⟩
 |4=>⟨cJ A.l (eM m r),cJ A.r (eM m l),QE,λh=>DX m (A.h h.1) (z5 hx h.2),FX⟩
 |_=>⟨A.l,A.r,A.e,λh=>A.h h.1,λe h=>A.k e h.1⟩
noncomputable def zo (k:Nat):Nat:=match k with
 |0=>3
 |1=>4
 |2=>5
 |3=>0
 |4=>1
 |_=>2
theorem FA {k:Nat} {x y:Int} (h: ¬DR (zo k) x y):DR k x y:=by
 rcases k with _|_|_|_|_|k
 ·exact PB.mp h
 ·exact PB.mp h
 ·exact PB.mp h
 ·exact h
 ·exact h
 ·exact h
def zf {H:Prop} (A:ZA as bs H) (k m:Nat) (l r:List Nat) (x y:Int) (hx:x-y=zd as bs l 0-zd as bs r 0):{b:Bool//b=QD->H->DR k x y}:=match k with
 |2=>⟨A.e&&zq (cJ l A.r) (cJ r A.l),λo h=>by
   have o:=(NN _ _).mp o
   have h2:=B5 (as:=as) (bs:=bs) 0 o.2
   rw[cK,cK,A.k o.1 h] at h2
   exact Int.eq_of_sub_eq_zero (hx.trans (Int.sub_eq_zero_of_eq ((Int.add_left_inj _).mp h2)))⟩
 |k=>⟨zl (zh A (zo k) m l r x y hx).l (zh A (zo k) m l r x y hx).r,λo h=>FA λn=>absurd (Fz o) (Nf.mpr ((zh A (zo k) m l r x y hx).h ⟨h,n⟩))⟩
theorem IC {a b c d:Int}:a-b+(c-d)=a+c-(b+d):=by
 rw[OC,OC,OC,Int.neg_add];exact IB
theorem H0 {a b c d:Int}:a-b-(c-d)=a+d-(b+c):=(OC.trans (By (a-b+ ·) (Int.neg_sub c d))).trans IC
noncomputable def zx (as:List Nat) (bs:List Int):Nat->Nat->List (ZN as bs)->List (ZI as bs)->(H:Prop)->ZA as bs H->ZR H
 |0,J,J0,J1,J2,J3=>⟨QE,True,λJ J=>trivial⟩
 |f+1,c,s,t,H,A=>match c%64/16 with
  |0=>match Nat.ble 10 (c%64) with
   |false=>zx as bs f (c/64) (LR (c%64)::s) t H A
   |true=>zx as bs f (c/64) s (LQ (c%64-10)::t) H A
  |1=>match c%16 with
   |0=>zx as bs f (c/64/64/64^(c/64%64)) (⟨_,[c/64/64%64^(c/64%64)],oU _⟩::s) t H A
   |1=>zx as bs f (c/64/64/64^(c/64%64)) s (⟨Int.ofNat (c/64/64%64^(c/64%64)),[c/64/64%64^(c/64%64)],[],(oU _).trans (Pq _).symm⟩::t) H A
   |2=>match s with
    |b::a::s=>zx as bs f (c/64) (⟨a.x+b.x,cJ a.p b.p,by rw[cK,<- a.h,<- b.h];exact Og _ _⟩::s) t H A
    |_=>⟨QE,True,λJ J=>trivial⟩
   |3=>match t with
    |b::a::t=>zx as bs f (c/64) s (⟨a.x+b.x,cJ a.p b.p,cJ a.q b.q,by rw[cK,cK,a.h,b.h];exact IC⟩::t) H A
    |_=>⟨QE,True,λJ J=>trivial⟩
   |4=>match t with
    |b::a::t=>zx as bs f (c/64) s (⟨a.x-b.x,cJ a.p b.q,cJ a.q b.p,by rw[cK,cK,a.h,b.h];exact H0⟩::t) H A
    |_=>⟨QE,True,λJ J=>trivial⟩
   |5=>match s with
    |a::s=>zx as bs f (c/64) s (⟨a.x,a.p,[],a.h.trans (Pq _).symm⟩::t) H A
    |_=>⟨QE,True,λJ J=>trivial⟩
   |6=>match t with
    |a::t=>zx as bs f (c/64) s (⟨-a.x,a.q,a.p,by rw[a.h];exact Int.neg_sub _ _⟩::t) H A
    |_=>⟨QE,True,λJ J=>trivial⟩
   |7=>match t with
    |a::t=>zx as bs f (c/64/64) s (⟨a.x*(c/64%64:Nat),eM (c/64%64) a.p,eM (c/64%64) a.q,by rw[gE,gE,a.h,Int.mul_comm,Int.mul_sub]⟩::t) H A
    |_=>⟨QE,True,λJ J=>trivial⟩
   |8=>match s with
    |a::s=>zx as bs f (c/64/64) (⟨a.x*(c/64%64),eM (c/64%64) a.p,by rw[gE,<- a.h,Pe,Int.mul_comm]⟩::s) t H A
    |_=>⟨QE,True,λJ J=>trivial⟩
   |9=>match s with
    |a::s=>zx as bs f (c/64/64) (⟨(c/64%64)*a.x,eM (c/64%64) a.p,by rw[gE,<- a.h,Pe]⟩::s) t H A
    |_=>⟨QE,True,λJ J=>trivial⟩
   |10=>zx as bs f (c/64/64/4096) (⟨(c/64%64)^(c/64/64%4096),[(c/64%64)^(c/64/64%4096)],oU _⟩::s) t H A
   |11=>zx as bs f (c/64/64/4096) s (⟨Int.ofNat (c/64%64)^(c/64/64%4096),[(c/64%64)^(c/64/64%4096)],[],by rw[<- oU];exact((Int.natCast_pow _ _).symm).trans (Pq _).symm⟩::t) H A
   |_=>⟨QE,True,λJ J=>trivial⟩
  |2=>match s with
   |b::a::_=>match c/64/64 with
    |0=>
     let G:=zf A (c%16) (c/64%64) a.p b.p a.x b.x (by rw[a.h,b.h])
     ⟨G.1,H2 (c%16) a.x b.x,λo h=>(IG _).mpr (G.2 o h)⟩
    |_=>
     let G:=zx as bs f (c/64/64) [] [] _ (zh A (c%16) (c/64%64) a.p b.p a.x b.x (by rw[a.h,b.h]))
     ⟨G.ok,H2 (c%16) a.x b.x->G.P,λo h r=>G.h o ⟨h,(IG _).mp r⟩⟩
   |_=>⟨QE,True,λJ J=>trivial⟩
  |_=>match t with
   |b::a::_=>match c/64/64 with
    |0=>
     let G:=zf A (c%16) (c/64%64) (cJ a.p b.q) (cJ a.q b.p) a.x b.x (by rw[cK,cK,a.h,b.h];exact H0)
     ⟨G.1,DR (c%16) a.x b.x,G.2⟩
    |_=>
     let G:=zx as bs f (c/64/64) [] [] _ (zh A (c%16) (c/64%64) (cJ a.p b.q) (cJ a.q b.p) a.x b.x (by rw[cK,cK,a.h,b.h];exact H0))
     ⟨G.ok,DR (c%16) a.x b.x->G.P,λo h r=>G.h o ⟨h,r⟩⟩
   |_=>⟨QE,True,λJ J=>trivial⟩
end
def zp (as:List Nat) (bs:List Int) (c:Nat):ZR True:=zx as bs 80 c [] [] True ⟨[],[],QD,λJ=>Int.le_refl _,λJ J=>rfl⟩
theorem Hp {a b:Int} (h:a<=b) (k:a≠b):a<b:=Int.lt_iff_le_and_ne.mpr ⟨h,k⟩
theorem R0 (as:List Nat) (bs:List Int) (c:Nat) (h:(zp as bs c).ok=QD):(zp as bs c).P:=(zp as bs c).h h trivial
theorem IQ (c:Nat) (h:(zp [] [] c).ok=QD):(zp [] [] c).P:=R0 _ _ c h
theorem d3 {b0:Int} (c:Nat) (h:(zp [] [b0] c).ok=QD):(zp [] [b0] c).P:=R0 _ _ c h
theorem pj {b0 b1:Int} (c:Nat) (h:(zp [] [b0,b1] c).ok=QD):(zp [] [b0,b1] c).P:=R0 _ _ c h
theorem IT {b0 b1 b2:Int} (c:Nat) (h:(zp [] [b0,b1,b2] c).ok=QD):(zp [] [b0,b1,b2] c).P:=R0 _ _ c h
theorem aX {a0:Nat} (c:Nat) (h:(zp [a0] [] c).ok=QD):(zp [a0] [] c).P:=R0 _ _ c h
theorem mC {a0:Nat} {b0:Int} (c:Nat) (h:(zp [a0] [b0] c).ok=QD):(zp [a0] [b0] c).P:=R0 _ _ c h
theorem jt {a0:Nat} {b0 b1:Int} (c:Nat) (h:(zp [a0] [b0,b1] c).ok=QD):(zp [a0] [b0,b1] c).P:=R0 _ _ c h
theorem RW {a0 a1:Nat} (c:Nat) (h:(zp [a0,a1] [] c).ok=QD):(zp [a0,a1] [] c).P:=R0 _ _ c h
theorem q4 {a0 a1:Nat} {b0:Int} (c:Nat) (h:(zp [a0,a1] [b0] c).ok=QD):(zp [a0,a1] [b0] c).P:=R0 _ _ c h
theorem D6 {a0 a1:Nat} {b0 b1:Int} (c:Nat) (h:(zp [a0,a1] [b0,b1] c).ok=QD):(zp [a0,a1] [b0,b1] c).P:=R0 _ _ c h
theorem D7 {a0 a1:Nat} {b0 b1 b2:Int} (c:Nat) (h:(zp [a0,a1] [b0,b1,b2] c).ok=QD):(zp [a0,a1] [b0,b1,b2] c).P:=R0 _ _ c h
theorem IU {a0 a1:Nat} {b0 b1 b2 b3:Int} (c:Nat) (h:(zp [a0,a1] [b0,b1,b2,b3] c).ok=QD):(zp [a0,a1] [b0,b1,b2,b3] c).P:=R0 _ _ c h
theorem SD {a0 a1 a2:Nat} (c:Nat) (h:(zp [a0,a1,a2] [] c).ok=QD):(zp [a0,a1,a2] [] c).P:=R0 _ _ c h
theorem DU {a0 a1 a2:Nat} {b0:Int} (c:Nat) (h:(zp [a0,a1,a2] [b0] c).ok=QD):(zp [a0,a1,a2] [b0] c).P:=R0 _ _ c h
theorem IV {a0 a1 a2:Nat} {b0 b1 b2:Int} (c:Nat) (h:(zp [a0,a1,a2] [b0,b1,b2] c).ok=QD):(zp [a0,a1,a2] [b0,b1,b2] c).P:=R0 _ _ c h
theorem bQ {a0 a1 a2 a3:Nat} (c:Nat) (h:(zp [a0,a1,a2,a3] [] c).ok=QD):(zp [a0,a1,a2,a3] [] c).P:=R0 _ _ c h
theorem H7 {a0 a1 a2 a3:Nat} {b0:Int} (c:Nat) (h:(zp [a0,a1,a2,a3] [b0] c).ok=QD):(zp [a0,a1,a2,a3] [b0] c).P:=R0 _ _ c h
theorem iK {a0 a1 a2 a3 a4:Nat} (c:Nat) (h:(zp [a0,a1,a2,a3,a4] [] c).ok=QD):(zp [a0,a1,a2,a3,a4] [] c).P:=R0 _ _ c h
theorem IW {a0 a1 a2 a3 a4:Nat} {b0:Int} (c:Nat) (h:(zp [a0,a1,a2,a3,a4] [b0] c).ok=QD):(zp [a0,a1,a2,a3,a4] [b0] c).P:=R0 _ _ c h
theorem H8 {a0 a1 a2 a3 a4:Nat} {b0 b1 b2:Int} (c:Nat) (h:(zp [a0,a1,a2,a3,a4] [b0,b1,b2] c).ok=QD):(zp [a0,a1,a2,a3,a4] [b0,b1,b2] c).P:=R0 _ _ c h
theorem Up {a0 a1 a2 a3 a4 a5:Nat} (c:Nat) (h:(zp [a0,a1,a2,a3,a4,a5] [] c).ok=QD):(zp [a0,a1,a2,a3,a4,a5] [] c).P:=R0 _ _ c h
theorem H9 {a0 a1 a2 a3 a4 a5 a6:Nat} (c:Nat) (h:(zp [a0,a1,a2,a3,a4,a5,a6] [] c).ok=QD):(zp [a0,a1,a2,a3,a4,a5,a6] [] c).P:=R0 _ _ c h
theorem F3 {a0 a1 a2 a3 a4 a5 a6 a7:Nat} (c:Nat) (h:(zp [a0,a1,a2,a3,a4,a5,a6,a7] [] c).ok=QD):(zp [a0,a1,a2,a3,a4,a5,a6,a7] [] c).P:=R0 _ _ c h
end
section
set_option genCtorIdx true in
set_option genInjectivity true in
inductive V where
 |none
 |bool (b:Bool)
 |int (i:Int)
 |str (n:Nat)
 |RT (b:List UInt8)
 |tup (vs:List V)
 |list (vs:List V)
 |Sd (a b:Int)
 |U1 (c:Nat) (fs:List (Nat×V))
 |ref (i:Nat)
set_option genCtorIdx true in
inductive O where
 |inst (c:Nat) (fs:List (Nat×V))
 |dict (kvs:List (V×V))
 |list (vs:List V)
 |SH (b:List UInt8)
 |dead
abbrev H:=List O
abbrev Env:=List (Option V)
mutual
inductive BO where|add|sub|mul|fdiv|mod|band|bor|shl|shr
inductive CO where|eq|ne|lt|le|gt|ge|is|TL|isin
inductive BI where|len|min2|max2|UQ|VP|sorted|bytes|W0|list|tuple
end
mutual
inductive E where
 |none|tt|ff
 |int (i:Int)|str (n:Nat)|RT (b:List UInt8)
 |v (x:Nat)
 |g (g:Nat)
 |t (e:E) (f:Nat)
 |b (op:BO) (a b:E)
 |c (op:CO) (a b:E)
 |d (o1 o2:CO) (a b c:E)
 |not (e:E)
 |and (es:Es)
 |or (es:Es)
 |sub (e i:E)
 |l (e:E) (lo hi:E) -- E.none for a bound aB8 is not there
 |tup (es:Es)
 |list (frozen:Bool) (es:Es)
 |dict (ks vs:Es)
 |call (f:Nat) (args:Es)
 |new (c:Nat) (frozen:Bool) (args:Es)
 |m (e:E) (m:Nat) (args:Es)
 |append (e a:E)
 |extend (e a:E)
 |get (e a:E)
 |y (b:BI) (args:Es)
 |p (elt:E) (xs:List Nat) (iter:E) (cond:Es) -- cond:nil or one
inductive Es where
 |nil
 |cons (e:E) (es:Es)
end
theorem Es.ind {T:Es->Prop} (n:T .nil) (c: ∀e r,T r->T (.cons e r)): ∀es,T es
 | .nil=>n
 | .cons e r=>c e r (Es.ind n c r)
mutual
inductive S where
 |a (x:Nat) (e:E)
 |u (xs:List Nat) (e:E)
 |A (e:E) (f:Nat) (v:E)
 |C (e i v:E)
 |e (x:Nat) (op:BO) (e:E)
 |B (e:E) (f:Nat) (op:BO) (v:E)
 |D (e i:E) (op:BO) (v:E)
 |F (e i:E)
 |expr (e:E)
 |i (c:E) (a b:Ss)
 |w (c:E) (b:Ss)
 |f (xs:List Nat) (it:E) (b:Ss)
 |ret (e:E)
 |raise (c:Nat) (es:Es)
 |XD (b:Ss) (cs:List Nat) (h:Ss)
 |brk|cont|pass|k
 |freeze (x:Nat)
inductive Ss where
 |nil
 |cons (s:S) (r:Ss)
end
noncomputable abbrev aa:E:=.v 0
noncomputable abbrev RJ:E:=.v 1
noncomputable abbrev ah:E:=.v 2
noncomputable abbrev RN:E:=.v 3
noncomputable abbrev au:E:=.v 4
noncomputable abbrev aI:E:=.v 5
noncomputable abbrev bj:E:=.v 6
noncomputable abbrev a9:E:=.v 7
noncomputable abbrev aP:E:=.v 8
noncomputable abbrev aR:E:=.v 9
noncomputable abbrev aM:E:=.v 10
noncomputable abbrev aq:E:=.v 11
noncomputable abbrev dW:E:=.v 12
noncomputable abbrev iq:E:=.v 13
noncomputable abbrev bV:E:=.v 14
noncomputable abbrev bH:E:=.v 15
noncomputable abbrev eD:E:=.v 16
noncomputable abbrev k9:E:=.v 17
noncomputable abbrev jx:E:=.v 18
noncomputable abbrev bD:E:=.v 19
noncomputable abbrev dr:E:=.v 20
noncomputable abbrev wH:E:=.v 21
noncomputable def iV:List (Nat×V)->Nat->Option V
 |[],J=> .none
 |(k,v)::r,f=>if k=f then QA v else iV r f
noncomputable def VS:List (Nat×V)->Nat->V->List (Nat×V)
 |[],f,v=>[(f,v)]
 |(k,u)::r,f,v=>if k=f then(k,v)::r else(k,u)::VS r f v
open Classical in
noncomputable def T4 (kvs:List (V×V)) (k:V):Option V:=(kvs.find? λp=>p.1=k).map (·.2)
open Classical in
noncomputable def dput (kvs:List (V×V)) (k v:V):List (V×V):=
 if kvs.any (λp=>p.1=k) then kvs.map (λp=>if p.1=k then(p.1,v) else p) else kvs++[(k,v)]
open Classical in
noncomputable def ZL (kvs:List (V×V)) (k:V):List (V×V):=kvs.filter λp=> ¬(p.1=k)
noncomputable def kindOf:V->Nat
 | .str J=>1
 | .int J=>2
 | .RT J=>3
 |_=>0
def ir (kvs:List (V×V)) (k:V):Prop:=kindOf k≠0/\ ∀p∈kvs,kindOf p.1=kindOf k
def tQ:List V->Bool
 |[]=>QD
 |k::r=>kindOf k !=0&&r.all λj=>kindOf j==kindOf k
mutual
noncomputable def UK:V->V->Bool
 | .none,.none=>QD
 | .none,.int J=>QD
 | .int J,.none=>QD
 | .none,.RT J=>QD
 | .RT J,.none=>QD
 | .none,.tup J=>QD
 | .tup J,.none=>QD
 | .int J,.int J0=>QD
 | .bool J,.bool J0=>QD
 | .str J,.str J0=>QD
 | .RT J,.RT J0=>QD
 | .tup a,.tup b=>ew a b
 | .list a,.list b=>ew a b
 |J,J0=>QE
noncomputable def ew:List V->List V->Bool
 |a::r,b::t=>UK a b&&ew r t
 |J,J0=>QD
end
noncomputable def TN:V->Nat
 | .tup vs=>1+US vs
 | .list vs=>1+US vs
 |_=>0
where US:List V->Nat
 |[]=>0
 |v::r=>max (TN v) (US r)
noncomputable def TP (Z:H):V->Option (List V)
 | .list vs=>QA vs
 | .ref i=>match Z[i]? with
  |some (.list vs)=>QA vs
  |_=> .none
 |_=> .none
noncomputable def truth (Z:H):V->Option Bool
 | .bool b=>QA b
 | .list vs=>QA (!vs.isEmpty)
 | .ref i=>match Z[i]? with
  |some (.list vs)=>QA (!vs.isEmpty)
  |_=> .none
 |_=> .none
noncomputable def bS (Z:H) (r:Nat):Nat:=match Z[r]? with
 |some (.list J)=>1
 |some (.SH J)=>2
 |some (.dict J)=>3
 |_=>0
def V9 (Z:H) (v:V) (f:Nat):Option V:=match v with
 | .U1 J fs=>iV fs f
 | .ref i=>match Z[i]? with
  |some (.inst J fs)=>iV fs f
  |_=> .none
 |_=> .none
noncomputable def ZK (Z:H) (v:V):Option Nat:=match v with
 | .U1 c J=>QA c
 | .ref i=>match Z[i]? with
  |some (.inst c J)=>QA c
  |_=> .none
 |_=> .none
def Ed (i:Int):Prop:= -(2^100)<i/\i<2^100
def dm (Z:H) (op:BO) (a b:V) (Q:V->Prop):Prop:=match op with
 | .add=>match a,b with
  | .int i,.int j=>Q (.int (i+j))
  | .RT x,.RT y=>x.length+y.length<=1000000/\Q (.RT (x++y))
  |a,b=> ∃xs ys,TP Z a=QA xs/\TP Z b=QA ys/\xs.length+ys.length<=1000000/\Q (.list (xs++ys))
 | .sub=>match a,b with
  | .int i,.int j=>Q (.int (i-j))
  |J,J0=>False
 | .mul=>match a,b with
  | .int i,.int j=>Ed i/\Ed j/\Q (.int (i*j))
  | .RT x,.int j=>x≠[]/\x.length<=16/\0<=j/\j<=100000/\Q (.RT (List.replicate j.toNat x).flatten)
  |J,J0=>False
 | .fdiv=>match a,b with
  | .int i,.int j=>0<j/\j<1000000000/\Q (.int (i/j))
  |J,J0=>False
 | .mod=>match a,b with
  | .int i,.int j=>0<j/\Q (.int (i%j))
  |J,J0=>False
 | .band=>match a,b with
  | .int i,.int j=>0<=i/\0<=j/\Q (.int ((i.toNat&&&j.toNat:Nat)))
  |J,J0=>False
 | .bor=>match a,b with
  | .int i,.int j=>0<=i/\0<=j/\Q (.int ((i.toNat|||j.toNat:Nat)))
  |J,J0=>False
 | .shl=>match a,b with
  | .int i,.int j=>0<=i/\i<2^64/\0<=j/\j<100/\Q (.int ((i.toNat<<<j.toNat:Nat)))
  |J,J0=>False
 | .shr=>match a,b with
  | .int i,.int j=>0<=i/\0<=j/\j<100/\Q (.int ((i.toNat>>>j.toNat:Nat)))
  |J,J0=>False
def kG (op:BO) (a b:V) (Q:V->Prop):Prop:=match a,b with
 | .int i,.int j=>dm [] op (.int i) (.int j) Q
 |J,J0=>False
noncomputable def SW:List UInt8->List UInt8->Bool
 |[],[]=>QE
 |[],_::_=>QD
 |_::_,[]=>QE
 |a::r,b::t=>if a<b then QD else if b<a then QE else SW r t
open Classical in
def cP (Z:H) (op:CO) (a b:V) (Q:Bool->Prop):Prop:=match op with
 | .lt=>match a,b with
  | .int i,.int j=>Q (decide (i<j))
  | .RT x,.RT y=>Q (SW x y)
  |J,J0=>False
 | .le=>match a,b with
  | .int i,.int j=>Q (decide (i<=j))
  |J,J0=>False
 | .gt=>match a,b with
  | .int i,.int j=>Q (decide (j<i))
  |J,J0=>False
 | .ge=>match a,b with
  | .int i,.int j=>Q (decide (j<=i))
  | .RT x,.RT y=>Q (!SW x y)
  |J,J0=>False
 | .eq=>match a,b with
  | .int i,.int j=>Q (decide (i=j))
  |a,b=>UK a b=QD/\TN a<=20/\Q (decide (a=b))
 | .ne=>match a,b with
  | .int i,.int j=>Q (decide (i≠j))
  |a,b=>UK a b=QD/\TN a<=20/\Q (decide (a≠b))
 | .is=>match b with
  | .none=>Q (match a with| .none=>QD|_=>QE)
  |_=>False
 | .TL=>match b with
  | .none=>Q (match a with| .none=>QE|_=>QD)
  |_=>False
 | .isin=>match b with
  | .tup vs=>match a with
   | .int i=>(∀v∈vs,∃j,v=V.int j)/\vs.length<=8/\Q (decide (V.int i∈vs))
   |_=>False
  | .ref r=>match Z[r]? with
   |some (.dict kvs)=>ir kvs a/\Q (T4 kvs a).isSome
   |_=>False
  |_=>False
noncomputable def idx (n:Nat) (i:Int):Option Nat:=if 0<=i/\i<n then QA i.toNat else if i<0/\ -(n:Int)<=i then QA (i+n).toNat else .none
def lV (Z:H) (a i:V) (Q:V->Prop):Prop:=match a with
 | .tup vs=>match i with
  | .int k=> ∃j v,idx vs.length k=QA j/\vs[j]?=QA v/\Q v
  |_=>False
 | .list vs=>match i with
  | .int k=> ∃j v,idx vs.length k=QA j/\vs[j]?=QA v/\Q v
  |_=>False
 | .RT b=>match i with
  | .int k=> ∃j v,0<=k/\idx b.length k=QA j/\b[j]?=QA v/\Q (.int v.toNat)
  |_=>False
 | .ref r=>match Z[r]? with
  |some (.list vs)=>(match i with
   | .int k=> ∃j v,idx vs.length k=QA j/\vs[j]?=QA v/\Q v
   |_=>False)
  |some (.dict kvs)=>ir kvs i/\ ∃v,T4 kvs i=QA v/\Q v
  |_=>False
 |_=>False
noncomputable def bound (d:Nat):V->Option Nat
 | .none=>QA d
 | .int i=>if 0<=i/\i<2^60 then QA i.toNat else .none
 |_=> .none
def iG (Z:H) (a lo hi:V) (Q:V->Prop):Prop:=match a with
 | .RT b=> ∃l h,bound 0 lo=QA l/\bound b.length hi=QA h/\Q (.RT ((b.take h).drop l))
 |a=> ∃vs l h,TP Z a=QA vs/\bound 0 lo=QA l/\bound vs.length hi=QA h/\Q (.list ((vs.take h).drop l))
noncomputable def intsOf (vs:List V):Option (List Int):=match vs with
 |[]=>QA []
 | .int i::r=>(intsOf r).map (i:: ·)
 |_::_=> .none
noncomputable def eF (a b:Int):List Int:=(List.range (b-a).toNat).map λk=>a+(k:Nat)
def items (v:V):Option (List V):=match v with
 | .list vs=>QA vs
 | .RT b=>QA (b.map λx=>V.int x.toNat)
 | .Sd a b=>QA ((eF a b).map V.int)
 |_=> .none
noncomputable def XX (x:List UInt8):List (List UInt8)->List (List UInt8)
 |[]=>[x]
 |y::r=>if SW y x then y::XX x r else x::y::r
noncomputable def SM:List (List UInt8)->List (List UInt8)
 |[]=>[]
 |x::r=>XX x (SM r)
noncomputable def Qy (x:Int):List Int->List Int
 |[]=>[x]
 |y::r=>if y<x then y::Qy x r else x::y::r
noncomputable def WE:List Int->List Int
 |[]=>[]
 |x::r=>Qy x (WE r)
noncomputable def kJ (vs:List V):Option (List (List UInt8)):=match vs with
 |[]=>QA []
 | .RT b::r=>(kJ r).map (b:: ·)
 |_::_=> .none
def sW (Z:H) (b:BI) (vs:List V) (Q:V->H->Prop):Prop:=match b with
 | .len=>match vs with
  |[.RT b]=>Q (.int b.length) Z
  |[v]=> ∃xs,TP Z v=QA xs/\Q (.int xs.length) Z
  |_=>False
 | .min2=>match vs with
  |[.int i,.int j]=>Q (.int (min i j)) Z
  |_=>False
 | .max2=>match vs with
  |[.int i,.int j]=>Q (.int (max i j)) Z
  |_=>False
 | .UQ=>match vs with
  |[.int n]=>n<1000000/\ -1000000<n/\Q (.Sd 0 n) Z
  |_=>False
 | .VP=>match vs with
  |[.int a,.int n]=>n<1000000/\ -1000000<n/\a<1000000/\ -1000000<a/\Q (.Sd a n) Z
  |_=>False
 | .sorted=>match vs with
  |[.list xs]=> ∃is,intsOf xs=QA is/\is.length<60/\Q (.list ((WE is).map V.int)) Z
  |[.ref r]=> ∃kvs bs,Z[r]?=QA (.dict kvs)/\kJ (kvs.map (·.1))=QA bs/\bs.length<60/\(∀b∈bs,b.length<=1000)/\Q (.list ((SM bs).map V.RT)) Z
  |_=>False
 | .bytes=>match vs with
  |[.RT b]=>Q (.RT b) Z
  |[.list xs]=> ∃is,intsOf xs=QA is/\(∀i∈is,0<=i/\i<256)/\Q (.RT (is.map λi=>UInt8.ofNat i.toNat)) Z
  |[.ref r]=> ∃b,Z[r]?=QA (.SH b)/\Q (.RT b) Z
  |_=>False
 | .W0=>match vs with
  |[]=>Q (.ref Z.length) (Z++[.SH []])
  |_=>False
 | .list=>match vs with
  |[v]=> ∃xs,TP Z v=QA xs/\Q (.list xs) Z
  |_=>False
 | .tuple=>match vs with
  |[v]=> ∃xs,TP Z v=QA xs/\Q (.tup xs) Z
  |_=>False
structure Fn where
 np:Nat
 W7:List V
 nl:Nat
 body:Ss
structure gX where
 fns:Nat->Option Fn
 U0:Nat->Nat->Option Nat
 init:Nat->Option Nat
 glob:Nat->Option V
 sub:Nat->Nat->Bool
 at_:Nat->Nat->Bool
abbrev cw:=Nat->List V->(V->H->Prop)->(Nat->H->Prop)->H->Prop
def e9 (Y:Env) (x:Nat) (Q:V->Prop):Prop:=match Y[x]? with
 |some (QA v)=>Q v
 |_=>False
def jT (xs:List Nat) (v:V) (Y:Env) (Q:Env->Prop):Prop:=match xs with
 |[x]=>Q (Y.set x (QA v))
 |xs=>match v with
  | .tup vs=>vs.length=xs.length/\Q ((xs.zip vs).foldl (λY p=>Y.set p.1 (QA p.2)) Y)
  |_=>False
def iR (elt:Env->(V->H->Prop)->H->Prop) (cond:Env->(Bool->H->Prop)->H->Prop) (xs:List Nat) (Y:Env):List V->List V->(List V->H->Prop)->H->Prop
 |[],acc,Q,Z=>Q acc Z
 |v::r,acc,Q,Z=>jT xs v Y λVC=>cond VC (λb Z=>match b with
   |true=>elt VC (λu Z=>iR elt cond xs Y r (acc++[u]) Q Z) Z
   |false=>iR elt cond xs Y r acc Q Z) Z
section
variable (p:gX) (cl:cw)
mutual
def wE:E->Env->(V->H->Prop)->(Nat->H->Prop)->H->Prop
 | .none,J,Q,J0,Z=>Q .none Z
 | .tt,J,Q,J0,Z=>Q (.bool QD) Z
 | .ff,J,Q,J0,Z=>Q (.bool QE) Z
 | .int i,J,Q,J0,Z=>Q (.int i) Z
 | .str n,J,Q,J0,Z=>Q (.str n) Z
 | .RT b,J,Q,J0,Z=>Q (.RT b) Z
 | .v x,Y,Q,J,Z=>e9 Y x λv=>Q v Z
 | .g g,J,Q,J0,Z=> ∃v,p.glob g=QA v/\Q v Z
 | .t e f,Y,Q,X,Z=>wE e Y (λv Z=> ∃u,V9 Z v f=QA u/\Q u Z) X Z
 | .b op a b,Y,Q,X,Z=>wE a Y (λu Z=>wE b Y (λv Z=>dm Z op u v λr=>Q r Z) X Z) X Z
 | .c op a b,Y,Q,X,Z=>wE a Y (λu Z=>wE b Y (λv Z=>cP Z op u v λr=>Q (.bool r) Z) X Z) X Z
 | .d o1 o2 a b c,Y,Q,X,Z=>wE a Y (λu Z=>wE b Y (λv Z=>cP Z o1 u v λr=>match r with
   |true=>wE c Y (λx Z=>cP Z o2 v x λr=>Q (.bool r) Z) X Z
   |false=>Q (.bool QE) Z) X Z) X Z
 | .not e,Y,Q,X,Z=>wE e Y (λv Z=> ∃b,truth Z v=QA b/\Q (.bool (!b)) Z) X Z
 | .and es,Y,Q,X,Z=>mz es Y Q X Z
 | .or es,Y,Q,X,Z=>B3 es Y Q X Z
 | .sub e i,Y,Q,X,Z=>wE e Y (λu Z=>wE i Y (λv Z=>lV Z u v λr=>Q r Z) X Z) X Z
 | .l e lo hi,Y,Q,X,Z=>wE e Y (λu Z=>wE lo Y (λl Z=>wE hi Y (λh Z=>iG Z u l h λr=>Q r Z) X Z) X Z) X Z
 | .tup es,Y,Q,X,Z=>js es Y (λvs Z=>Q (.tup vs) Z) X Z
 | .list fr es,Y,Q,X,Z=>js es Y (λvs Z=>match fr with
   |true=>Q (.list vs) Z
   |false=>Q (.ref Z.length) (Z++[.list vs])) X Z
 | .dict ks vs,Y,Q,X,Z=>js ks Y (λks Z=>js vs Y (λvs Z=>tQ ks=QD/\ks.Nodup/\ks.length=vs.length/\Q (.ref Z.length) (Z++[.dict (ks.zip vs)])) X Z) X Z
 | .call f es,Y,Q,X,Z=>js es Y (λvs Z=>cl f vs Q X Z) X Z
 | .new c fr es,Y,Q,X,Z=> ∃f,p.init c=QA f/\js es Y (λvs Z=>cl f (.ref Z.length::vs) (λr RM=>r= .none/\match fr with
   |false=>Q (.ref Z.length) RM
   |true=> ∃fs,RM[Z.length]?=QA (.inst c fs)/\Q (.U1 c fs) (RM.set Z.length .dead)) (λJ J=>False) (Z++[.inst c []])) X Z
 | .m e m es,Y,Q,X,Z=>wE e Y (λv Z=> ∃c f,ZK Z v=QA c/\p.U0 c m=QA f/\js es Y (λvs Z=>cl f (v::vs) Q X Z) X Z) X Z
 | .append e a,Y,Q,X,Z=>wE e Y (λv Z=> ∃r k,v= .ref r/\bS Z r=k/\1<=k/\k<=2/\wE a Y (λu Z=>bS Z r=k/\match Z[r]? with
   |some (.list xs)=>xs.length<=1000000/\Q .none (Z.set r (.list (xs++[u])))
   |some (.SH b)=> ∃i,u= .int i/\0<=i/\i<256/\b.length<=1000000/\Q .none (Z.set r (.SH (b++[UInt8.ofNat i.toNat])))
   |_=>False) X Z) X Z
 | .extend e a,Y,Q,X,Z=>wE e Y (λv Z=> ∃r,v= .ref r/\bS Z r=2/\wE a Y (λu Z=> ∃b x,Z[r]?=QA (.SH b)/\u= .RT x/\b.length+x.length<=1000000/\Q .none (Z.set r (.SH (b++x)))) X Z) X Z
 | .get e a,Y,Q,X,Z=>wE e Y (λv Z=> ∃r,v= .ref r/\bS Z r=3/\wE a Y (λu Z=> ∃kvs,Z[r]?=QA (.dict kvs)/\ir kvs u/\Q ((T4 kvs u).getD .none) Z) X Z) X Z
 | .y b es,Y,Q,X,Z=>js es Y (λvs Z=>sW Z b vs Q) X Z
 | .p elt xs it cond,Y,Q,X,Z=>wE it Y (λv Z=> ∃vs,items v=QA vs/\
   iR (λY Q Z=>wE elt Y Q (λJ J=>False) Z) (λY Q Z=>jm cond Y Q (λJ J=>False) Z) xs Y vs [] (λr Z=>Q (.list r) Z) Z) X Z
def js:Es->Env->(List V->H->Prop)->(Nat->H->Prop)->H->Prop
 | .nil,J,Q,J0,Z=>Q [] Z
 | .cons e es,Y,Q,X,Z=>wE e Y (λv Z=>js es Y (λvs Z=>Q (v::vs) Z) X Z) X Z
def mz:Es->Env->(V->H->Prop)->(Nat->H->Prop)->H->Prop
 | .nil,J,Q,J0,Z=>Q (.bool QD) Z
 | .cons e es,Y,Q,X,Z=>wE e Y (λv Z=>match es with
   | .nil=>Q v Z
   | .cons J J0=> ∃b,truth Z v=QA b/\match b with
    |true=>mz es Y Q X Z
    |false=>Q v Z) X Z
def B3:Es->Env->(V->H->Prop)->(Nat->H->Prop)->H->Prop
 | .nil,J,Q,J0,Z=>Q (.bool QE) Z
 | .cons e es,Y,Q,X,Z=>wE e Y (λv Z=>match es with
   | .nil=>Q v Z
   | .cons J J0=> ∃b,truth Z v=QA b/\match b with
    |true=>Q v Z
    |false=>B3 es Y Q X Z) X Z
def jm:Es->Env->(Bool->H->Prop)->(Nat->H->Prop)->H->Prop
 | .nil,J,Q,J0,Z=>Q QD Z
 | .cons e J,Y,Q,X,Z=>wE e Y (λv Z=> ∃b,truth Z v=QA b/\Q b Z) X Z
end
def wT (e:E) (Y:Env) (Q:Bool->H->Prop) (X:Nat->H->Prop) (Z:H):Prop:=wE p cl e Y (λv Z=> ∃b,truth Z v=QA b/\Q b Z) X Z
def y7:Es->Env->(H->Prop)->(Nat->H->Prop)->H->Prop
 | .nil,J,Q,J0,Z=>Q Z
 | .cons e es,Y,Q,X,Z=>wE p cl e Y (λv Z=> ∃i,v=V.int i/\0<=i/\i<10000000000/\y7 es Y Q X Z) X Z
def TG (body:(Env->H->Prop)->(Env->H->Prop)->(Env->H->Prop)->Env->H->Prop) (xs:List Nat):List V->(Env->H->Prop)->Env->H->Prop
 |[],N,Y,Z=>N Y Z
 |v::r,N,Y,Z=>jT xs v Y λVC=>body (TG body xs r N) N (TG body xs r N) VC Z
def UA (test:(Bool->H->Prop)->Env->H->Prop) (body:(Env->H->Prop)->(Env->H->Prop)->(Env->H->Prop)->Env->H->Prop):Nat->(Env->H->Prop)->Env->H->Prop
 |0,J,J0,J1=>False
 |n+1,N,Y,Z=>test (λb Z=>match b with
   |true=>body (UA test body n N) N (UA test body n N) Y Z
   |false=>N Y Z) Y Z
mutual
def wS:S->(N:Env->H->Prop)->(R:V->H->Prop)->(B C:Env->H->Prop)->(X:Nat->Env->H->Prop)->Env->H->Prop
 | .a x e,N,J,J0,J1,X,Y,Z=>wE p cl e Y (λv Z=>N (Y.set x (QA v)) Z) (λc=>X c Y) Z
 | .u xs e,N,J,J0,J1,X,Y,Z=>wE p cl e Y (λv Z=>1<xs.length/\jT xs v Y λY=>N Y Z) (λc=>X c Y) Z
 | .A e f v,N,J,J0,J1,X,Y,Z=>wE p cl v Y (λu Z=>wE p cl e Y (λw Z=> ∃r c fs,w= .ref r/\Z[r]?=QA (.inst c fs)/\p.at_ c f=QD/\fs.length<=50/\N Y (Z.set r (.inst c (VS fs f u)))) (λc=>X c Y) Z) (λc=>X c Y) Z
 | .C e i v,N,J,J0,J1,X,Y,Z=>wE p cl v Y (λu Z=>wE p cl e Y (λw Z=>wE p cl i Y (λk Z=> ∃r kvs,w= .ref r/\Z[r]?=QA (.dict kvs)/\ir kvs k/\kvs.length<=1000000/\N Y (Z.set r (.dict (dput kvs k u)))) (λc=>X c Y) Z) (λc=>X c Y) Z) (λc=>X c Y) Z
 | .e x op e,N,J,J0,J1,X,Y,Z=>e9 Y x λu=>wE p cl e Y (λv Z=>kG op u v λr=>N (Y.set x (QA r)) Z) (λc=>X c Y) Z
 | .B e f op v,N,J,J0,J1,X,Y,Z=>wE p cl e Y (λw Z=> ∃u,V9 Z w f=QA u/\wE p cl v Y (λv Z=>kG op u v λx=> ∃r c fs,w= .ref r/\Z[r]?=QA (.inst c fs)/\p.at_ c f=QD/\fs.length<=50/\N Y (Z.set r (.inst c (VS fs f x)))) (λc=>X c Y) Z) (λc=>X c Y) Z
 | .D e i op v,N,J,J0,J1,X,Y,Z=>wE p cl e Y (λw Z=>wE p cl i Y (λk Z=>(∃r kvs,w= .ref r/\Z[r]?=QA (.dict kvs))/\lV Z w k λu=>wE p cl v Y (λv Z=>kG op u v λx=> ∃r kvs,w= .ref r/\Z[r]?=QA (.dict kvs)/\ir kvs k/\kvs.length<=1000000/\N Y (Z.set r (.dict (dput kvs k x)))) (λc=>X c Y) Z) (λc=>X c Y) Z) (λc=>X c Y) Z
 | .F e i,N,J,J0,J1,X,Y,Z=>wE p cl e Y (λw Z=>wE p cl i Y (λk Z=> ∃r kvs,w= .ref r/\Z[r]?=QA (.dict kvs)/\ir kvs k/\(T4 kvs k).isSome=QD/\kvs.length<=1000000/\N Y (Z.set r (.dict (ZL kvs k)))) (λc=>X c Y) Z) (λc=>X c Y) Z
 | .expr e,N,J,J0,J1,X,Y,Z=>wE p cl e Y (λJ Z=>N Y Z) (λc=>X c Y) Z
 | .i c a b,N,R,B,C,X,Y,Z=>wT p cl c Y (λt Z=>match t with
   |true=>a8 a N R B C X Y Z
   |false=>a8 b N R B C X Y Z) (λc=>X c Y) Z
 | .w c b,N,R,J,J0,J1,Y,Z=> ∃n,UA (λQ Y Z=>wT p cl c Y Q (λJ J=>False) Z) (λN' B' C' Y Z=>a8 b N' R B' C' (λJ J J=>False) Y Z) n N Y Z
 | .f xs it b,N,R,J,J0,X,Y,Z=>wE p cl it Y (λv Z=> ∃vs,items v=QA vs/\TG (λN' B' C' Y Z=>a8 b N' R B' C' (λJ J J=>False) Y Z) xs vs N Y Z) (λc=>X c Y) Z
 | .ret e,J,R,J0,J1,X,Y,Z=>wE p cl e Y R (λc=>X c Y) Z
 | .raise c es,J,J0,J1,J2,X,Y,Z=>y7 p cl es Y (λZ=>X c Y Z) (λc=>X c Y) Z
 | .XD b cs h,N,R,B,C,X,Y,Z=>a8 b N R B C (λc Y Z=>match cs.any (p.sub c) with
   |true=>a8 h N R B C X Y Z
   |false=>False) Y Z
 | .brk,J,J0,B,J1,J2,Y,Z=>B Y Z
 | .cont,J,J0,J1,C,J2,Y,Z=>C Y Z
 | .pass,N,J,J0,J1,J2,Y,Z=>N Y Z
 | .k,J,J0,J1,J2,J3,J4,J5=>False
 | .freeze x,N,J,J0,J1,J2,Y,Z=>e9 Y x λv=> ∃r vs,v= .ref r/\Z[r]?=QA (.list vs)/\N (Y.set x (QA (.list vs))) (Z.set r .dead)
def a8:Ss->(N:Env->H->Prop)->(R:V->H->Prop)->(B C:Env->H->Prop)->(X:Nat->Env->H->Prop)->Env->H->Prop
 | .nil,N,J,J0,J1,J2,Y,Z=>N Y Z
 | .cons s r,N,R,B,C,X,Y,Z=>wS s (λY Z=>a8 r N R B C X Y Z) R B C X Y Z
end
end
noncomputable def mL (fn:Fn) (vs:List V):Option Env:=
 if vs.length+fn.W7.length=fn.np then QA ((vs++fn.W7).map QA++List.replicate fn.nl .none) else .none
noncomputable def RL (p:gX):Nat->cw
 |0=>λJ J J J J=>False
 |d+1=>λf vs Q X Z=> ∃fn Y,p.fns f=QA fn/\mL fn vs=QA Y/\
   a8 p (RL p d) fn.body (λJ Z=>Q .none Z) Q (λJ J=>False) (λJ J=>False) (λc J Z=>X c Z) Y Z
end
section
noncomputable def es:List E->Es
 |[]=> .nil
 |e::r=> .cons e (es r)
noncomputable def ss:List S->Ss
 |[]=> .nil
 |s::r=> .cons s (ss r)
def b0:Ss:=ss [.i (.or (es [.c .lt aa (.int 0),.c .gt aa RJ])) (ss [.k]) .nil,
 .a 2 (.y .W0 .nil),
 .w (.c .ge aa (.int 128)) (ss [.expr (.append ah (.b .bor (.b .band aa (.int 127)) (.int 128))),
  .e 0 .shr (.int 7)]),
 .expr (.append ah aa),
 .ret (.y .bytes (es [ah]))]
def b1:Ss:=ss [.i (.c .lt RJ (.int 0)) (ss [.k]) .nil,
 .a 4 (.int 0),
 .a 5 (.int 0),
 .f [6] (.y .UQ (es [ah])) (ss [.i (.c .ge RJ (.y .len (es [aa]))) (ss [.k]) .nil,
  .a 7 (.sub aa RJ),
  .e 1 .add (.int 1),
  .e 4 .bor (.b .shl (.b .band a9 (.int 127)) aI),
  .i (.c .lt a9 (.int 128)) (ss [.i (.c .gt au RN) (ss [.k]) .nil,
   .ret (.tup (es [au,RJ]))]) .nil,
  .e 5 .add (.int 7)]),
 .k]
def b2:Ss:=ss [.i (.and (es [.c .ge aa (.int 0),.c .lt aa (.int 128)])) (ss [.k]) .nil,
 .ret (.call 0 (es [aa,.g 1]))]
def b3:Ss:=ss [.i (.and (es [.c .ge RJ (.int 0),.c .lt RJ (.y .len (es [aa])),.c .lt (.sub aa RJ) (.int 128)])) (ss [.k]) .nil,
 .ret (.call 1 (es [aa,RJ,.int 10,.g 1]))]
def b4:Ss:=ss [.i (.and (es [.c .ge aa (.int 0),.c .lt aa (.int 128)])) (ss [.ret (.y .bytes (es [.list QD (es [aa])]))]) .nil,
 .k]
def b5:Ss:=ss [.i (.and (es [.c .ge RJ (.int 0),.c .lt RJ (.y .len (es [aa])),.c .lt (.sub aa RJ) (.int 128)])) (ss [.ret (.tup (es [.sub aa RJ,.b .add RJ (.int 1)]))]) .nil,
 .k]
def b6:Ss:=ss [.i (.or (es [.c .lt aa (.int 0),.c .gt aa (.g 1)])) (ss [.k]) .nil,
 .a 1 (.int 1),
 .w (.c .ge aa (.int 128)) (ss [.e 0 .shr (.int 7),
  .e 1 .add (.int 1)]),
 .ret RJ]
def b7:Ss:=ss [.i (.or (es [.c .lt aa (.int 0),.c .gt aa (.g 0)])) (ss [.k]) .nil,
 .ret (.y .bytes (es [.list QD (es [.b .band aa (.int 255),.b .band (.b .shr aa (.int 8)) (.int 255),.b .band (.b .shr aa (.int 16)) (.int 255),.b .shr aa (.int 24)])]))]
def b8:Ss:=ss [.i (.or (es [.c .lt aa (.int 0),.c .gt aa (.g 1)])) (ss [.k]) .nil,
 .ret (.b .add (.call 7 (es [.b .band aa (.g 0)])) (.call 7 (es [.b .shr aa (.int 32)])))]
def b9:Ss:=ss [.u [2,1] (.call 5 (es [aa,RJ])),
 .i (.c .gt (.b .add RJ ah) (.y .len (es [aa]))) (ss [.k]) .nil,
 .ret (.tup (es [.y .bytes (es [.l aa RJ (.b .add RJ ah)]),.b .add RJ ah]))]
def IX:Ss:=ss [.i (.or (es [.c .lt ah (.int 0),.c .gt ah (.y .len (es [RJ]))])) (ss [.k]) .nil,
 .A aa 0 RJ,
 .A aa 1 ah]
def IY:Ss:=ss [.ret (.b .sub (.y .len (es [.t aa 0])) (.t aa 1))]
def IZ:Ss:=ss [.a 1 (.t aa 1),
 .i (.and (es [.c .lt RJ (.y .len (es [.t aa 0])),.c .lt (.sub (.t aa 0) RJ) (.int 128)])) (ss [.A aa 1 (.b .add RJ (.int 1)),
  .ret (.sub (.t aa 0) RJ)]) .nil,
 .u [2,1] (.call 3 (es [.t aa 0,RJ])),
 .A aa 1 RJ,
 .ret ah]
def I0:Ss:=ss [.u [1,2] (.call 9 (es [.t aa 0,.t aa 1])),
 .A aa 1 ah,
 .ret RJ]
def I2:Ss:=ss [.i (.c .ge (.t aa 1) (.y .len (es [.t aa 0]))) (ss [.k]) .nil,
 .a 1 (.sub (.t aa 0) (.t aa 1)),
 .i (.c .gt RJ (.int 1)) (ss [.k]) .nil,
 .B aa 1 .add (.int 1),
 .ret (.c .eq RJ (.int 1))]
def I7:Ss:=ss [.i (.c .lt (.t aa 1) (.y .len (es [.t aa 0]))) (ss [.raise 2 (es [.m aa 0 .nil])]) .nil]
def I8:Ss:=ss [.A aa 2 (.y .W0 .nil)]
def I9:Ss:=ss [.i (.and (es [.c .ge RJ (.int 0),.c .lt RJ (.int 128)])) (ss [.expr (.append (.t aa 2) RJ)]) (ss [.expr (.extend (.t aa 2) (.call 2 (es [RJ])))])]
def Ja:Ss:=ss [.expr (.extend (.t aa 2) (.call 4 (es [.y .len (es [RJ])]))),
 .expr (.extend (.t aa 2) RJ)]
def Jb:Ss:=ss [.i (.or (es [.c .lt RJ (.int 0),.c .gt RJ (.int 255)])) (ss [.k]) .nil,
 .expr (.append (.t aa 2) RJ)]
def Jc:Ss:=ss [.i RJ (ss [.expr (.append (.t aa 2) (.int 1))]) (ss [.expr (.append (.t aa 2) (.int 0))])]
def Jd:Ss:=ss [.ret (.y .bytes (es [.t aa 2]))]
def Je:Ss:=ss [.A aa 3 (.list QE .nil),
 .A aa 4 (.g 5)]
def Jf:Ss:=ss [.expr (.m aa 1 (es [.g 3,.y .bytes (es [RJ]),.y .bytes (es [ah])]))]
def Jg:Ss:=ss [.expr (.m aa 1 (es [.g 2,.y .bytes (es [RJ]),.RT []]))]
def Jh:Ss:=ss [.B aa 4 .add (.b .add (.b .add (.int 1) (.call 6 (es [.y .len (es [ah])]))) (.y .len (es [ah]))),
 .i (.c .eq RJ (.g 3)) (ss [.B aa 4 .add (.b .add (.call 6 (es [.y .len (es [RN])])) (.y .len (es [RN])))]) .nil,
 .expr (.append (.t aa 3) (.tup (es [RJ,ah,RN])))]
def Ji:Ss:=ss [.ret (.y .len (es [.t aa 3]))]
def Jj:Ss:=ss [.ret (.y .list (es [.t aa 3]))]
def Jk:Ss:=ss [.a 1 (.list QE .nil),
 .f [2] (.y .sorted (es [aa])) (ss [.i (.or (es [.not RJ,.c .ne (.sub RJ (.int (-1))) ah])) (ss [.expr (.append RJ ah)]) .nil]),
 .freeze 1,
 .ret RJ]
def Jl:Ss:=ss [.a 1 (.m aa 2 .nil),
 .i (.c .gt RJ (.m aa 0 .nil)) (ss [.k]) .nil,
 .ret RJ]
def Jm:Ss:=ss [.A aa 5 RJ,
 .A aa 6 ah,
 .A aa 7 RN,
 .A aa 0 au]
def Jn:Ss:=ss [.ret (.tup (es [.t aa 5,.t aa 6,.t aa 7,.t aa 0]))]
def Jo:Ss:=ss [.a 1 (.y .len (es [.t aa 0])),
 .a 2 (.b .add (.b .add (.call 6 (es [.t aa 5])) (.call 6 (es [.t aa 6]))) (.call 6 (es [.t aa 7]))),
 .ret (.b .add (.b .add ah (.call 6 (es [RJ]))) RJ)]
def Jp:Ss:=ss [.a 2 (.int 0),
 .a 3 (.list QE .nil),
 .f [4] aa (ss [.e 2 .add (.m au 3 .nil),
  .i (.and (es [RN,.c .gt ah RJ])) (ss [.brk]) .nil,
  .expr (.append RN au)]),
 .freeze 3,
 .ret RN]
def Jq:Ss:=ss [.A aa 5 RJ,
 .A aa 8 ah,
 .A aa 9 RN]
def Jr:Ss:=ss [.ret (.new 20 QD (es [.t aa 5,.t aa 8,.t aa 9]))]
def Js:Ss:=ss [.A aa 10 (.call 28 (es [RJ])),
 .A aa 11 (.call 28 (es [ah])),
 .A aa 12 (.call 28 (es [RN])),
 .A aa 13 (.call 28 (es [au])),
 .A aa 14 aI]
def Jt:Ss:=ss [.ret (.tup (es [.y .tuple (es [.t aa 10]),.y .tuple (es [.t aa 11]),.y .tuple (es [.t aa 12]),.y .tuple (es [.t aa 13]),.t aa 14]))]
def Ju:Ss:=ss [.expr (.m aa 2 (es [.y .len (es [RJ])])),
 .f [2] RJ (ss [.expr (.m aa 2 (es [ah]))])]
def Jv:Ss:=ss [.a 1 (.list QE .nil),
 .f [2] (.y .UQ (es [.call 29 (es [aa])])) (ss [.a 3 (.m aa 2 .nil),
  .i (.and (es [RJ,.c .le RN (.sub RJ (.int (-1)))])) (ss [.k]) .nil,
  .expr (.append RJ RN)]),
 .freeze 1,
 .ret RJ]
def Jw:Ss:=ss [.a 1 (.new 17 QE .nil),
 .expr (.call 38 (es [RJ,.t aa 10])),
 .expr (.call 38 (es [RJ,.t aa 11])),
 .expr (.call 38 (es [RJ,.t aa 12])),
 .expr (.call 38 (es [RJ,.t aa 13])),
 .expr (.m RJ 4 (es [.t aa 14])),
 .ret (.m RJ 5 .nil)]
def Jx:Ss:=ss [.a 1 (.new 16 QE (es [aa])),
 .a 2 (.call 39 (es [RJ])),
 .a 3 (.call 39 (es [RJ])),
 .a 4 (.call 39 (es [RJ])),
 .a 5 (.call 39 (es [RJ])),
 .a 6 (.m RJ 4 .nil),
 .expr (.m RJ 5 .nil),
 .ret (.new 21 QD (es [ah,RN,au,aI,bj]))]
def Jy:Ss:=ss [.A aa 6 RJ,
 .A aa 5 ah,
 .A aa 15 RN,
 .A aa 0 au]
def Jz:Ss:=ss [.A aa 7 RJ,
 .A aa 16 ah,
 .A aa 17 RN,
 .A aa 18 au,
 .A aa 19 aI,
 .A aa 20 bj]
def JA:Ss:=ss [.i (.or (es [.c .lt (.t aa 7) (.g 8),.c .gt (.t aa 7) (.g 13)])) (ss [.k]) .nil,
 .a 1 (.new 17 QE .nil),
 .XD (ss [.expr (.m RJ 2 (es [.t aa 7])),
  .expr (.m RJ 2 (es [.t aa 16])),
  .expr (.m RJ 2 (es [.t aa 17])),
  .expr (.m RJ 6 (es [.t aa 18])),
  .expr (.m RJ 6 (es [.t aa 19])),
  .expr (.call 45 (es [RJ,.t aa 20]))]) [4] (ss [.k]),
 .ret (.m RJ 5 .nil)]
def JB:Ss:=ss [.expr (.m aa 4 (es [.c .TL RJ .none])),
 .i (.c .TL RJ .none) (ss [.expr (.m aa 6 (es [RJ]))]) .nil]
def JC:Ss:=ss [.i (.m aa 4 .nil) (ss [.ret (.m aa 6 .nil)]) .nil,
 .ret (.none)]
def JD:Ss:=ss [.XD (ss [.a 1 (.new 16 QE (es [aa])),
  .a 2 (.m RJ 2 .nil),
  .a 3 (.m RJ 2 .nil),
  .a 4 (.m RJ 2 .nil),
  .a 5 (.m RJ 6 .nil),
  .a 6 (.m RJ 6 .nil),
  .a 7 (.call 46 (es [RJ])),
  .expr (.m RJ 5 .nil)]) [2] (ss [.raise 14 .nil]),
 .i (.c .gt ah (.g 13)) (ss [.k]) .nil,
 .ret (.new 23 QD (es [ah,RN,au,aI,bj,a9]))]
def JE:Ss:=ss [.a 2 (.new 17 QE .nil),
 .expr (.m ah 7 (es [aa])),
 .expr (.call 45 (es [ah,RJ])),
 .ret (.m ah 5 .nil)]
def JF:Ss:=ss [.ret (.b .add (.g 19) aa)]
def JG:Ss:=ss [.a 1 (.call 8 (es [aa])),
 .ret (.b .add (.g 21) (.y .bytes (es [.list QD (es [.sub RJ (.int 7),.sub RJ (.int 6),.sub RJ (.int 5),.sub RJ (.int 4),.sub RJ (.int 3),.sub RJ (.int 2),.sub RJ (.int 1),.sub RJ (.int 0)])])))]
def JH:Ss:=ss [.a 1 (.int 0),
 .f [2] (.l aa (.y .len (es [.g 21])) .none) (ss [.a 1 (.b .bor (.b .shl RJ (.int 8)) ah)]),
 .ret RJ]
def JI:Ss:=ss [.a 3 (.new 17 QE .nil),
 .expr (.m RN 2 (es [aa])),
 .expr (.m RN 4 (es [RJ])),
 .expr (.m RN 6 (es [ah])),
 .ret (.m RN 5 .nil)]
def JJ:Ss:=ss [.a 1 (.new 16 QE (es [aa])),
 .a 2 (.m RJ 2 .nil),
 .a 3 (.m RJ 4 .nil),
 .a 4 (.m RJ 6 .nil),
 .expr (.m RJ 5 .nil),
 .ret (.tup (es [ah,RN,au]))]
def JK:Ss:=ss [.A aa 21 RJ,
 .A aa 22 (.int 0),
 .A aa 5 (.int 0),
 .A aa 23 (.RT []),
 .A aa 24 (.int 0),
 .A aa 25 .ff]
def JL:Ss:=ss [.a 1 (.m (.t aa 21) 8 (es [.g 18])),
 .i (.c .is RJ .none) (ss [.k]) (ss [.a 5 (.new 16 QE (es [RJ])),
  .a 2 (.m aI 2 .nil),
  .a 3 (.m aI 2 .nil),
  .a 4 (.m aI 6 .nil),
  .expr (.m aI 5 .nil)]),
 .a 6 (.none),
 .i (.c .ne au (.RT [])) (ss [.a 6 (.call 41 (es [au]))]) .nil,
 .A aa 22 ah,
 .A aa 5 RN,
 .A aa 23 au,
 .A aa 24 (.y .min2 (es [.t aa 24,ah])),
 .expr (.m aa 9 .nil),
 .ret (.tup (es [ah,RN,bj]))]
def JM:Ss:=ss [.i (.m (.t aa 21) 10 .nil) (ss [.A aa 24 (.t aa 22)]) .nil]
def JN:Ss:=ss [.a 5 (.new 17 QE .nil),
 .expr (.m aI 2 (es [ah])),
 .expr (.m aI 2 (es [RN])),
 .expr (.m aI 6 (es [au])),
 .expr (.m RJ 11 (es [.g 18,.m aI 5 .nil]))]
def JO:Ss:=ss [.i (.c .TL (.m (.t aa 21) 8 (es [.g 18])) .none) (ss [.k]) .nil,
 .a 4 (.new 18 QE .nil),
 .a 5 (.call 40 (es [RN])),
 .expr (.m aa 12 (es [au,RJ,ah,aI])),
 .expr (.m (.t aa 21) 13 (es [au,.tt])),
 .A aa 22 RJ,
 .A aa 5 ah,
 .A aa 23 aI,
 .expr (.m aa 9 .nil)]
def JP:Ss:=ss [.i (.c .ne (.t RJ 6) (.b .add (.t aa 22) (.int 1))) (ss [.raise 15 (es [.t RJ 6,.t aa 22])]) .nil,
 .a 3 (.t aa 23),
 .i (.c .TL ah .none) (ss [.k]) .nil,
 .a 4 (.new 18 QE .nil),
 .a 5 (.none),
 .a 6 (.m aa 14 (es [RJ])),
 .i (.c .TL bj .none) (ss [.a 5 (.m aa 15 (es [bj,au]))]) .nil,
 .expr (.m aa 12 (es [au,.t RJ 6,.t RJ 5,RN])),
 .expr (.m (.t aa 21) 13 (es [au,.t aa 25])),
 .A aa 22 (.t RJ 6),
 .A aa 5 (.t RJ 5),
 .A aa 23 RN,
 .i (.t aa 25) (ss [.expr (.m aa 9 .nil)]) .nil,
 .ret aI]
def JQ:Ss:=ss [.i (.or (es [.c .eq (.t RJ 7) (.g 7),.c .eq (.y .len (es [.t RJ 0])) (.int 0)])) (ss [.ret (.none)]) .nil,
 .XD (ss [.ret (.call 47 (es [.t RJ 0]))]) [14] (ss [.ret (.none)])]
def JR:Ss:=ss [.u [3,4,5] (.m aa 16 (es [.t RJ 16])),
 .i (.c .eq (.t RJ 17) RN) (ss [.k]) .nil,
 .i (.c .lt (.t RJ 17) RN) (ss [.k]) .nil,
 .i (.and (es [.not au,.c .ne (.t RJ 7) (.g 12)])) (ss [.ret (.call 48 (es [.g 16,.none]))]) .nil,
 .a 5 (.m aa 17 (es [RJ,ah])),
 .a 6 (.call 52 (es [.t RJ 17,.c .ne (.t RJ 7) (.g 13),aI])),
 .expr (.m ah 11 (es [.call 50 (es [.t RJ 16]),bj])),
 .ret aI]
def JS:Ss:=ss [.a 3 (.t RJ 7),
 .i (.or (es [.c .eq RN (.g 8),.c .eq RN (.g 12),.c .eq RN (.g 13)])) (ss [.ret (.call 48 (es [.g 14,.none]))]) .nil,
 .a 4 (.call 49 (es [.t RJ 18])),
 .a 5 (.m (.t aa 21) 8 (es [au])),
 .i (.c .eq RN (.g 9)) (ss [.expr (.m ah 11 (es [au,.t RJ 19]))]) (ss [.i (.c .eq RN (.g 10)) (ss [.i (.c .TL aI .none) (ss [.expr (.m ah 18 (es [au]))]) .nil]) (ss [.i (.c .eq RN (.g 11)) (ss [.i (.not (.call 67 (es [aI,.t RJ 20]))) (ss [.ret (.call 48 (es [.g 15,aI]))]) .nil,
    .expr (.m ah 11 (es [au,.t RJ 19]))]) (ss [.i (.c .is aI .none) (ss [.expr (.m ah 11 (es [au,.t RJ 19]))]) (ss [.expr (.m ah 11 (es [au,.b .add aI (.t RJ 19)]))])])])]),
 .ret (.call 48 (es [.g 14,aI]))]
def JT:Ss:=ss [.a 2 (.m (.t aa 21) 8 (es [.call 50 (es [RJ])])),
 .i (.c .is ah .none) (ss [.ret (.tup (es [.int (-1),.ff,.RT []]))]) .nil,
 .ret (.call 53 (es [ah]))]
def JU:Ss:=ss [.a 1 (.list QE .nil),
 .f [2,3] (.m (.t aa 21) 19 (es [.g 19,.g 20,.none])) (ss [.expr (.append RJ (.tup (es [.l ah (.y .len (es [.g 19])) .none,RN])))]),
 .freeze 1,
 .ret RJ]
def JV:Ss:=ss [.a 1 (.list QE .nil),
 .f [2,3] (.m (.t aa 21) 19 (es [.g 21,.g 22,.none])) (ss [.u [4,5,6] (.call 53 (es [RN])),
  .expr (.append RJ (.tup (es [.call 51 (es [ah]),au,aI,bj])))]),
 .freeze 1,
 .ret RJ]
def JW:Ss:=ss [.ret (.tup (es [.t aa 22,.t aa 5,.t aa 23,.y .tuple (es [.m aa 20 .nil]),.y .tuple (es [.m aa 21 .nil])]))]
def JX:Ss:=ss [.i (.or (es [.c .is aa .none,.c .is RJ .none])) (ss [.ret (.and (es [.c .is aa .none,.c .is RJ .none]))]) .nil,
 .ret (.c .eq aa RJ)]
def JY:Ss:=ss [.A aa 26 (.dict .nil .nil),
 .A aa 27 (.list QE .nil),
 .A aa 28 (.int 0),
 .A aa 29 (.int 0)]
def JZ:Ss:=ss [.i (.c .eq (.m RJ 22 .nil) (.int 0)) (ss [.k]) .nil,
 .expr (.m aa 23 (es [.m RJ 24 .nil])),
 .i ah (ss [.expr (.m aa 25 .nil)]) .nil,
 .ret (.t aa 29)]
def J0:Ss:=ss [.f [2,3,4] RJ (ss [.i (.c .eq ah (.g 3)) (ss [.C (.t aa 26) RN au]) (ss [.i (.c .isin RN (.t aa 26)) (ss [.F (.t aa 26) RN]) .nil])]),
 .expr (.append (.t aa 27) RJ),
 .B aa 29 .add (.y .len (es [RJ]))]
def J1:Ss:=ss [.A aa 28 (.y .len (es [.t aa 27]))]
def J2:Ss:=ss [.ret (.c .eq (.t aa 28) (.y .len (es [.t aa 27])))]
def J3:Ss:=ss [.ret (.get (.t aa 26) RJ)]
def J5:Ss:=ss [.i (.c .TL RN .none) (ss [.k]) .nil,
 .a 4 (.list QE .nil),
 .f [5] (.y .sorted (es [.t aa 26])) (ss [.i (.and (es [.c .TL RJ .none,.c .lt aI RJ])) (ss [.cont]) .nil,
  .i (.and (es [.c .TL ah .none,.c .ge aI ah])) (ss [.cont]) .nil,
  .expr (.append au (.tup (es [aI,.sub (.t aa 26) aI])))]),
 .freeze 4,
 .ret au]
def J7:Ss:=ss [.a 2 (.b .add (.t aa 28) (.b .mod RJ (.b .add (.b .sub (.y .len (es [.t aa 27])) (.t aa 28)) (.int 1)))),
 .a 3 (.new 25 QE .nil),
 .f [4] (.l (.t aa 27) .none ah) (ss [.expr (.m RN 23 (es [au]))]),
 .expr (.m RN 25 .nil),
 .ret RN]
def J8:Ss:=ss [.a 2 (.int 0),
 .i (.c .gt (.y .len (es [.t RJ 10])) (.int 0)) (ss [.a 2 (.int 1)]) .nil,
 .A aa 30 (.new 20 QD (es [ah,.int 0,ah])),
 .A aa 15 RJ,
 .A aa 31 (.new 22 QD (es [ah,ah,RJ,.RT []])),
 .A aa 32 ah,
 .A aa 33 ah,
 .A aa 34 (.list QD .nil)]
def J9:Ss:=ss [.ret (.tup (es [.m (.t aa 30) 26 .nil,.t aa 15]))]
def Ka:Ss:=ss [.ret (.b .add (.t aa 32) (.int 1))]
def Kb:Ss:=ss [.ret (.b .add (.t aa 32) (.y .len (es [.t aa 34])))]
def Kc:Ss:=ss [.i (.c .le RJ (.t aa 32)) (ss [.k]) .nil,
 .i (.c .gt ah (.b .add (.m aa 27 .nil) (.int 1))) (ss [.k]) .nil,
 .i (.c .le ah RJ) (ss [.k]) .nil,
 .a 4 (.m aa 28 .nil),
 .ret (.call 33 (es [.l (.t aa 34) (.b .sub RJ au) (.b .sub ah au),RN]))]
def Kd:Ss:=ss [.i (.c .lt RJ (.t aa 32)) (ss [.k]) .nil,
 .i (.c .gt RJ (.m aa 27 .nil)) (ss [.k]) .nil,
 .i (.c .eq RJ (.t aa 32)) (ss [.ret (.t aa 33)]) .nil,
 .ret (.t (.sub (.t aa 34) (.b .sub RJ (.m aa 28 .nil))) 5)]
def Ke:Ss:=ss [.A aa 30 (.m RJ 26 .nil)]
def Kf:Ss:=ss [.i (.c .eq (.y .len (es [RJ])) (.int 0)) (ss [.ret (.none)]) .nil,
 .a 2 (.t (.sub RJ (.int 0)) 6),
 .f [3] (.y .UQ (es [.y .len (es [RJ])])) (ss [.i (.c .ne (.t (.sub RJ RN) 6) (.b .add ah RN)) (ss [.k]) .nil]),
 .a 4 (.m aa 28 .nil),
 .i (.c .lt (.b .sub (.b .add ah (.y .len (es [RJ]))) (.int 1)) au) (ss [.k]) .nil,
 .i (.c .gt ah (.b .add (.m aa 27 .nil) (.int 1))) (ss [.k]) .nil,
 .i (.c .lt ah au) (ss [.k]) .nil,
 .A aa 34 (.b .add (.l (.t aa 34) .none (.b .sub ah au)) RJ)]
def Kg:Ss:=ss [.i (.or (es [.c .le (.t RJ 6) (.t (.t aa 31) 6),.c .lt (.t RJ 6) (.t aa 32)])) (ss [.k]) .nil,
 .A aa 31 RJ,
 .A aa 15 (.t RJ 15),
 .A aa 32 (.t RJ 6),
 .A aa 33 (.t RJ 5),
 .A aa 34 (.list QD .nil)]
def Kh:Ss:=ss [.i (.c .le RJ (.t (.t aa 31) 6)) (ss [.k]) .nil,
 .i (.c .gt RJ (.m aa 27 .nil)) (ss [.k]) .nil,
 .a 4 (.m aa 29 (es [RJ])),
 .i (.c .TL ah .none) (ss [.k]) .nil,
 .A aa 31 (.new 22 QD (es [RJ,au,.t aa 15,RN])),
 .ret (.t aa 31)]
def Ki:Ss:=ss [.i (.c .le RJ (.t aa 32)) (ss [.k]) .nil,
 .i (.c .gt RJ (.m aa 27 .nil)) (ss [.k]) .nil,
 .a 2 (.m aa 29 (es [RJ])),
 .A aa 34 (.l (.t aa 34) (.b .sub RJ (.t aa 32)) .none),
 .A aa 32 RJ,
 .A aa 33 ah]
def Kj:Ss:=ss [.A aa 35 .none,
 .A aa 34 (.list QD .nil),
 .A aa 36 RJ]
def Kk:Ss:=ss [.i (.c .TL (.t aa 35) .none) (ss [.k]) .nil,
 .ret (.none)]
def Kl:Ss:=ss [.i (.c .gt (.y .len (es [.t aa 34])) (.int 0)) (ss [.ret (.b .sub (.b .add (.t aa 36) (.y .len (es [.t aa 34]))) (.int 1))]) .nil,
 .i (.c .TL (.t aa 35) .none) (ss [.k]) .nil,
 .ret (.none)]
def Km:Ss:=ss [.i (.c .lt RJ (.t aa 36)) (ss [.i (.and (es [.c .TL (.t aa 35) .none,.c .eq (.t (.t aa 35) 6) RJ])) (ss [.k]) .nil,
  .ret (.none)]) .nil,
 .i (.c .ge RJ (.b .add (.t aa 36) (.y .len (es [.t aa 34])))) (ss [.ret (.none)]) .nil,
 .ret (.t (.sub (.t aa 34) (.b .sub RJ (.t aa 36))) 5)]
def Kn:Ss:=ss [.i (.c .lt RJ (.t aa 36)) (ss [.k]) .nil,
 .a 3 (.m aa 30 (es [RJ])),
 .i (.or (es [.c .is RN .none,.c .ne RN ah])) (ss [.k]) .nil,
 .A aa 34 (.l (.t aa 34) (.b .sub (.b .add RJ (.int 1)) (.t aa 36)) .none),
 .A aa 36 (.b .add RJ (.int 1))]
def Ko:Ss:=ss [.i (.c .eq (.y .len (es [RJ])) (.int 0)) (ss [.k]) .nil,
 .a 2 (.t (.sub RJ (.int 0)) 6),
 .i (.c .eq ah (.b .add (.t aa 36) (.y .len (es [.t aa 34])))) (ss [.A aa 34 (.b .add (.t aa 34) RJ)]) (ss [.i (.c .le ah (.t aa 36)) (ss [.A aa 36 ah,
   .A aa 34 (.l RJ .none .none)]) (ss [.i (.c .lt ah (.b .add (.t aa 36) (.y .len (es [.t aa 34])))) (ss [.A aa 34 (.b .add (.m aa 31 (es [.t aa 36,ah])) RJ)]) (ss [.k])])])]
def Kp:Ss:=ss [.i (.c .gt RJ ah) (ss [.k]) .nil,
 .i (.or (es [.c .lt RJ (.t aa 36),.c .gt ah (.b .add (.t aa 36) (.y .len (es [.t aa 34])))])) (ss [.k]) .nil,
 .ret (.l (.t aa 34) (.b .sub RJ (.t aa 36)) (.b .sub ah (.t aa 36)))]
def Kq:Ss:=ss [.A aa 37 RJ,
 .A aa 38 ah,
 .a 3 (.m RJ 28 .nil),
 .A aa 39 (.new 27 QE (es [.b .add (.m RJ 27 .nil) (.int 1)])),
 .A aa 40 (.b .sub RN (.int 1)),
 .A aa 22 (.b .sub RN (.int 1))]
def Kr:Ss:=ss [.a 1 (.m (.t aa 39) 32 .nil),
 .i (.c .TL RJ .none) (ss [.k]) .nil,
 .ret (.m (.t aa 37) 28 .nil)]
def Ks:Ss:=ss [.a 1 (.m (.t aa 39) 33 .nil),
 .i (.c .TL RJ .none) (ss [.ret RJ]) .nil,
 .ret (.m (.t aa 37) 27 .nil)]
def Kt:Ss:=ss [.a 2 (.m (.t aa 39) 30 (es [RJ])),
 .i (.c .TL ah .none) (ss [.ret ah]) .nil,
 .i (.c .lt (.b .add RJ (.int 1)) (.m aa 28 .nil)) (ss [.k]) .nil,
 .i (.c .gt RJ (.m aa 27 .nil)) (ss [.raise 8 (es [RJ,.m aa 27 .nil])]) .nil,
 .ret (.m (.t aa 37) 29 (es [RJ]))]
def Ku:Ss:=ss [.XD (ss [.ret (.c .eq (.m aa 34 (es [RJ])) ah)]) [7,8] (ss [.ret (.ff)])]
def Kv:Ss:=ss [.i (.not (.m aa 35 (es [RJ,ah]))) (ss [.k]) .nil,
 .f [5] (.y .UQ (es [.y .len (es [au])])) (ss [.i (.c .ne (.t (.sub au aI) 6) (.b .add (.b .add RJ (.int 1)) aI)) (ss [.k]) .nil]),
 .a 6 (.b .add RJ (.y .len (es [au]))),
 .a 7 (.m aa 36 (es [au])),
 .i (.c .ne a9 (.int 0)) (ss [.i (.c .le a9 (.t aa 40)) (ss [.k]) .nil,
  .expr (.m aa 37 (es [.l au (.b .sub a9 (.b .add RJ (.int 1))) .none]))]) .nil,
 .expr (.m aa 38 (es [.y .min2 (es [RN,bj])])),
 .ret bj]
def Ge:Ss:=ss [.i (.c .eq (.y .len (es [RJ])) (.int 0)) (ss [.k]) .nil,
 .a 2 (.b .sub (.t (.sub RJ (.int 0)) 6) (.int 1)),
 .i (.c .lt ah (.t aa 40)) (ss [.k]) .nil,
 .i (.c .gt ah (.m aa 27 .nil)) (ss [.k]) .nil,
 .expr (.m (.t aa 39) 39 (es [RJ])),
 .ret (.m aa 27 .nil)]
def Gf:Ss:=ss [.f [2] RJ (ss [.i (.not (.m aa 35 (es [.t ah 6,.t ah 5]))) (ss [.ret (.t ah 6)]) .nil]),
 .k]
def Gg:Ss:=ss [.i (.c .le RJ (.t aa 40)) (ss [.ret (.none)]) .nil,
 .i (.c .gt RJ (.m aa 27 .nil)) (ss [.k]) .nil,
 .A aa 40 RJ]
def Gh:Ss:=ss [.i (.c .eq RJ (.int 0)) (ss [.k]) .nil,
 .i (.or (es [.c .gt RJ (.t aa 40),.c .lt RJ (.t aa 22)])) (ss [.k]) .nil,
 .A aa 22 RJ]
def Gi:Ss:=ss [.expr (.m (.t aa 39) 40 (es [RJ,ah]))]
def Gj:Ss:=ss [.ret (.l (.t (.t aa 39) 34) .none .none)]
def Gk:Ss:=ss [.ret (.and (es [.c .TL (.t (.t aa 39) 35) .none,.not (.m (.t (.t aa 39) 35) 41 .nil)]))]
def Gl:Ss:=ss [.ret (.y .max2 (es [.b .add (.t aa 22) (.int 1),.m aa 28 .nil]))]
def Gm:Ss:=ss [.i (.m aa 42 .nil) (ss [.k]) .nil,
 .ret (.c .gt (.b .add (.t aa 40) (.int 1)) (.m aa 43 .nil))]
def Gp:Ss:=ss [.i (.not (.m aa 44 .nil)) (ss [.ret (.list QD .nil)]) .nil,
 .ret (.m aa 45 (es [.m aa 43 .nil,.b .add (.t aa 40) (.int 1),.t aa 38]))]
def Gq:Ss:=ss [.i (.c .gt RJ ah) (ss [.k]) .nil,
 .i (.c .lt RJ (.m aa 28 .nil)) (ss [.k]) .nil,
 .i (.c .gt ah (.b .add (.m aa 27 .nil) (.int 1))) (ss [.k]) .nil,
 .i (.c .eq RJ ah) (ss [.k]) .nil,
 .a 4 (.t (.t aa 39) 36),
 .a 5 (.list QD .nil),
 .i (.c .lt RJ au) (ss [.a 6 (.y .min2 (es [ah,au])),
  .XD (ss [.a 5 (.m (.t aa 37) 46 (es [RJ,bj,RN]))]) [8] (ss [.k]),
  .i (.c .lt (.y .len (es [aI])) (.b .sub bj RJ)) (ss [.ret aI]) .nil]) .nil,
 .i (.c .gt ah au) (ss [.k]) .nil,
 .ret (.call 33 (es [aI,RN]))]
def Gr:Ss:=ss [.ret (.b .add (.sub aa (.b .mod RJ (.y .len (es [aa])))) (.b .mul (.int 7919) (.b .fdiv RJ (.y .len (es [aa])))))]
def Gs:Ss:=ss [.i (.c .eq (.b .mod aa (.int 4)) (.int 0)) (ss [.ret (.tup (es [.b .add (.int 300) (.b .mod (.b .fdiv aa (.int 4)) (.int 16000)),.b .add (.int 128) (.b .mod (.b .fdiv aa (.int 4)) (.int 300))]))]) .nil,
 .i (.c .eq (.b .mod aa (.int 4)) (.int 1)) (ss [.ret (.tup (es [.int 1,.int 1]))]) .nil,
 .i (.c .eq (.b .mod aa (.int 4)) (.int 2)) (ss [.ret (.tup (es [.b .add (.int 122) (.b .mod (.b .fdiv aa (.int 4)) (.int 8)),.b .add (.int 125) (.b .mod (.b .fdiv aa (.int 32)) (.int 4))]))]) .nil,
 .ret (.tup (es [.b .add (.int 16378) (.b .mod (.b .fdiv aa (.int 4)) (.int 8)),.int 2]))]
def Gu:Ss:=ss [.a 4 (.sub (.list QD (es [.int 4,.int 1,.int 3,.int 2,.int 4,.int 3,.int 1,.int 0,.int 6,.int 5,.int 7,.int 8])) (.b .mod RN (.int 12))),
 .i (.c .eq RJ (.b .add (.sub aa (.str 0)) (.int 1))) (ss [.a 4 (.int 5)]) .nil,
 .i (.c .eq au (.int 7)) (ss [.ret (.tup (es [ah,RJ,.RT [],.none]))]) .nil,
 .a 5 (.sub (.list QD (es [.RT [],.RT [107]])) (.b .mod (.b .fdiv RN (.int 12)) (.int 2))),
 .a 6 (.b .mul (.y .bytes (es [.list QD (es [.b .add (.int 97) (.b .mod (.b .fdiv RN (.int 24)) (.int 26))])])) (.b .mod (.b .fdiv RN (.int 5)) (.int 3))),
 .a 7 (.sub (.list QD (es [.none,.RT [],bj])) (.b .mod (.b .fdiv RN (.int 7)) (.int 3))),
 .i (.c .eq au (.int 8)) (ss [.ret (.tup (es [ah,RJ,.b .add (.m (.new 23 QD (es [.int 1,.sub aa (.str 1),RJ,aI,bj,a9])) 47 .nil) (.RT [0]),.none]))]) .nil,
 .a 8 (.m (.new 23 QD (es [au,.sub aa (.str 1),RJ,aI,bj,a9])) 47 .nil),
 .ret (.tup (es [ah,RJ,aP,.tup (es [au,RJ,aI,bj,a9])]))]
def Gv:Ss:=ss [.i (.c .is aa .none) (ss [.ret (.RT [0])]) .nil,
 .ret (.b .add (.y .bytes (es [.list QD (es [.int 1,.y .len (es [aa])])])) aa)]
def Gw:Ss:=ss [.a 1 (.list QE .nil),
 .a 2 (.dict .nil .nil),
 .a 3 (.none),
 .f [4,5,6,7] aa (ss [.a 8 (.none),
  .i (.c .TL a9 .none) (ss [.u [9,10,11,12,13] a9,
   .a 8 (.RT [2,0]),
   .i (.or (es [.c .eq aR (.int 5),.and (es [.c .TL RN .none,.sub RN (.int 1)])])) (ss [.a 14 (.int 0),
    .a 15 (.none),
    .i (.d .lt .lt (.int 0) aR (.int 5)) (ss [.a 15 (.get ah aq),
     .i (.and (es [.c .eq aR (.int 3),.c .ne bH iq])) (ss [.a 14 (.int 1)]) (ss [.i (.and (es [.c .eq aR (.int 4),.c .TL bH .none])) (ss [.C ah aq (.b .add bH dW)]) (ss [.i (.c .eq aR (.int 2)) (ss [.C ah aq .none]) (ss [.C ah aq dW])])])]) .nil,
    .a 8 (.b .add (.y .bytes (es [.list QD (es [bV])])) (.call 114 (es [bH]))),
    .a 3 (.tup (es [aM,.c .ne aR (.int 6),aP]))]) .nil]) .nil,
  .expr (.append RJ aP)]),
 .freeze 1,
 .ret (.tup (es [RJ,.p (.tup (es [eD,.sub ah eD])) [16] (.y .sorted (es [ah])) (es [.c .TL (.sub ah eD) .none]),RN]))]
def Gx:Ss:=ss [.a 1 (.int 1),
 .w (.c .gt aa (.int 127)) (ss [.a 0 (.b .fdiv aa (.int 128)),
  .e 1 .add (.int 1)]),
 .ret RJ]
def Gy:Ss:=ss [.a 1 (.l (.sub aa (.str 4)) (.b .sub (.sub aa (.str 2)) (.sub aa (.str 0))) (.b .sub (.sub aa (.str 3)) (.sub aa (.str 0)))),
 .a 2 (.sub aa (.str 5)),
 .a 3 (.list QE .nil),
 .f [4] RJ (ss [.e 2 .sub (.b .add (.b .add (.b .add (.call 116 (es [.sub au (.int 0)])) (.call 116 (es [.sub au (.int 1)]))) (.int 2)) (.y .len (es [.sub au (.int 2)]))),
  .i (.and (es [.c .gt (.y .len (es [RN])) (.int 0),.c .lt ah (.int 0)])) (ss [.brk]) .nil,
  .expr (.append RN (.tup (es [.sub au (.int 0),.sub au (.int 1),.int 0,.sub au (.int 2)])))]),
 .freeze 3,
 .ret RN]
def Gz:Ss:=ss [.a 1 (.int 0),
 .w (.and (es [.c .lt RJ (.y .len (es [.sub aa (.str 4)])),.c .lt RJ (.y .len (es [.sub aa (.str 6)])),.c .eq (.sub (.sub aa (.str 4)) RJ) (.sub (.sub aa (.str 6)) RJ)])) (ss [.e 1 .add (.int 1)]),
 .ret RJ]
def GA:Ss:=ss [.C aa (.str 3) (.y .max2 (es [.sub aa (.str 3),RJ])),
 .i (.c .gt (.b .sub (.sub aa (.str 3)) (.sub aa (.str 0))) (.y .len (es [.sub aa (.str 6)]))) (ss [.C aa (.str 6) (.l (.sub aa (.str 4)) .none (.b .sub (.sub aa (.str 3)) (.sub aa (.str 0))))]) .nil]
def GB:Ss:=ss [.a 3 (.call 118 (es [RJ])),
 .i (.c .lt RN (.y .len (es [.sub RJ (.str 6)]))) (ss [.a 4 (.l (.sub RJ (.str 6)) RN .none),
  .D RJ (.str 7) .add (.int 1)]) (ss [.a 3 (.y .max2 (es [RN,.b .sub (.y .len (es [.sub RJ (.str 4)])) (.b .mod ah (.int 3))])),
  .i (.c .lt RN (.y .len (es [.sub RJ (.str 4)]))) (ss [.D RJ (.str 7) .add (.int 1)]) .nil,
  .D RJ (.str 7) .add (.b .mod (.b .fdiv ah (.int 3)) (.int 2)),
  .a 4 (.list QE .nil),
  .f [5] (.y .UQ (es [.b .add (.int 1) (.b .mod (.b .fdiv ah (.int 6)) (.int 2))])) (ss [.expr (.append au (.call 113 (es [RJ,.b .add (.b .add (.b .add (.sub RJ (.str 0)) RN) aI) (.int 1),.sub RJ (.str 7),.b .add (.b .fdiv ah (.int 18)) (.b .mul (.int 5) aI)])))]),
  .freeze 4]),
 .a 6 (.sub RJ (.str 8)),
 .i (.c .gt RN (.int 0)) (ss [.a 6 (.sub (.sub (.sub RJ (.str 4)) (.b .sub RN (.int 1))) (.int 0))]) .nil,
 .a 7 (.b .add (.sub RJ (.str 0)) RN),
 .a 8 (.b .add (.sub RJ (.str 3)) (.b .mod (.b .fdiv ah (.int 2)) (.int 7))),
 .a 9 (.m aa 48 (es [a9,bj,aP,.p (.new 19 QD (es [.sub aM (.int 0),.sub aM (.int 1),.int 0,.sub aM (.int 2)])) [10] au .nil])),
 .C RJ (.str 4) (.b .add (.l (.sub RJ (.str 4)) .none RN) au),
 .expr (.call 119 (es [RJ,.y .min2 (es [aP,.b .add a9 (.y .len (es [au]))])])),
 .ret (.c .eq aR (.b .add a9 (.y .len (es [au]))))]
def GC:Ss:=ss [.a 4 (.m aa 49 .nil),
 .expr (.m RJ 37 (es [au])),
 .i (.c .gt (.y .len (es [au])) (.int 0)) (ss [.expr (.m aa 40 (es [.t (.sub au (.int (-1))) 6,.t (.sub au (.int (-1))) 5]))]) .nil,
 .C ah (.str 9) (.sub ah (.str 4)),
 .i RN (ss [.expr (.m RJ 50 (es [.new 20 QD (es [.sub ah (.str 7),.int 0,.sub ah (.str 3)])])),
  .C ah (.str 10) (.sub ah (.str 3))]) .nil]
def GD:Ss:=ss [.expr (.call 121 (es [aa,RJ,RN,au])),
 .a 5 (.m aa 51 .nil),
 .a 6 (.call 117 (es [RN])),
 .i (.or (es [.c .ne (.p (.m aR 52 .nil) [9] aI .nil) bj,.c .ne (.m aa 44 .nil) (.c .gt (.y .len (es [bj])) (.int 0))])) (ss [.k]) .nil,
 .f [7] aI (ss [.a 8 (.m ah 53 (es [a9,.none])),
  .i (.and (es [.c .isin (.t a9 6) (.sub RN (.str 11)),.c .ne (.sub (.sub RN (.str 11)) (.t a9 6)) aP])) (ss [.k]) .nil,
  .C (.sub RN (.str 11)) (.t a9 6) aP,
  .C RN (.str 2) (.t a9 6)]),
 .expr (.m aa 54 (es [.sub RN (.str 2)])),
 .i (.t ah 25) (ss [.C RN (.str 12) (.sub RN (.str 2))]) .nil,
 .ret (.tt)]
def GF:Ss:=ss [.expr (.call 121 (es [aa,RJ,ah,.tt])),
 .a 4 (.b .add (.b .add (.sub ah (.str 13)) (.int 1)) (.b .mod RN (.b .sub (.sub ah (.str 12)) (.sub ah (.str 13))))),
 .expr (.m RJ 55 (es [au,.none,.RT []])),
 .expr (.m RJ 56 (es [au])),
 .C ah (.str 13) au]
def GH:Ss:=ss [.u [2,3,4] (.m aa 57 .nil),
 .a 5 (.sub RJ (.str 8)),
 .i (.c .gt (.sub RJ (.str 2)) (.sub RJ (.str 0))) (ss [.a 5 (.sub (.sub (.sub RJ (.str 4)) (.b .sub (.b .sub (.sub RJ (.str 2)) (.sub RJ (.str 0))) (.int 1))) (.int 0))]) .nil,
 .i (.or (es [.c .is au .none,.c .ne (.m au 52 .nil) (.tup (es [.tup (es [.int 1,.int 2]),.tup (es [.int 9]),.tup .nil,.tup .nil,.ff]))])) (ss [.k]) .nil,
 .ret (.c .eq (.tup (es [ah,RN,.t aa 22,.t aa 5])) (.tup (es [.sub RJ (.str 2),aI,ah,RN])))]
def GI:Ss:=ss [.a 4 (.new 24 QE (es [.m (.t RJ 21) 58 (es [RN])])),
 .A au 25 (.t RJ 25),
 .C ah (.str 2) (.b .add (.sub ah (.str 12)) (.b .mod RN (.b .add (.b .sub (.sub ah (.str 2)) (.sub ah (.str 12))) (.int 1)))),
 .C ah (.str 12) (.sub ah (.str 2)),
 .C ah (.str 4) (.sub ah (.str 9)),
 .C ah (.str 3) (.y .max2 (es [.sub ah (.str 10),.sub ah (.str 2)])),
 .D ah (.str 7) .add (.int 1),
 .i (.or (es [.not (.call 124 (es [au,ah])),.not (.d .le .le (.sub ah (.str 13)) (.t au 22) (.m aa 27 .nil))])) (ss [.k]) .nil,
 .a 5 (.new 28 QE (es [aa,.sub ah (.str 5)])),
 .expr (.m aI 38 (es [.y .max2 (es [.t (.sub (.m aa 59 .nil) (.int 0)) 9,.t au 22])])),
 .expr (.m aI 54 (es [.t au 22])),
 .ret (.tup (es [au,aI]))]
def GJ:Ss:=ss [.a 2 (.RT []),
 .i (.c .gt (.y .len (es [.sub RJ (.str 4)])) (.int 0)) (ss [.a 2 (.sub (.sub (.sub RJ (.str 4)) (.int (-1))) (.int 2))]) .nil,
 .a 3 (.t (.t aa 21) 29),
 .a 4 (.int 0),
 .f [5] (.list QD (es [.sub RJ (.str 2),.b .add (.sub RJ (.str 2)) (.int 2)])) (ss [.XD (ss [.expr (.m aa 53 (es [.new 19 QD (es [.sub RJ (.str 7),aI,.int 0,ah]),.none]))]) [15] (ss [.e 4 .add (.int 1)])]),
 .ret (.and (es [.c .eq au (.int 2),.c .eq (.t (.t aa 21) 29) RN,.call 124 (es [aa,RJ])]))]
def GK:Ss:=ss [.i (.c .ne (.tup (es [.t aa 40,.t aa 22,.m aa 27 .nil])) (.tup (es [.sub ah (.str 3),.sub ah (.str 2),.b .add (.sub ah (.str 0)) (.y .len (es [.sub ah (.str 4)]))]))) (ss [.k]) .nil,
 .ret (.c .eq (.tup (es [.t RJ 22,.t RJ 24])) (.tup (es [.sub ah (.str 2),.sub ah (.str 12)])))]
def GL:Ss:=ss [.f [4] (.y .UQ (es [.b .add (.y .len (es [.sub RN (.str 6)])) (.int 1)])) (ss [.i (.not (.m aa 44 .nil)) (ss [.brk]) .nil,
  .i (.not (.call 122 (es [aa,RJ,ah,RN,.tt]))) (ss [.k]) .nil]),
 .ret (.and (es [.not (.m aa 44 .nil),.call 127 (es [aa,ah,RN])]))]
def GN:Ss:=ss [.u [3,4,5] (.call 115 (es [.sub ah (.str 6)])),
 .a 6 (.sub ah (.str 0)),
 .i (.c .ne (.p (.get (.sub ah (.str 11)) (.b .add (.b .add bj (.int 1)) aM)) [10] (.y .UQ (es [.y .len (es [RN])])) .nil) RN) (ss [.k]) .nil,
 .a 7 (.tup .nil),
 .i (.c .TL aI .none) (ss [.a 7 (.tup (es [.tup (es [.sub ah (.str 1),.sub aI (.int 0),.sub aI (.int 1),.sub aI (.int 2)])]))]) .nil,
 .a 8 (.RT [2,1,2,1,9,0,0,0]),
 .i (.c .ne (.m RJ 52 .nil) (.tup (es [.b .add bj (.y .len (es [RN])),.sub (.sub (.sub ah (.str 6)) (.int (-1))) (.int 0),aP,.y .tuple (es [au]),a9]))) (ss [.k]) .nil,
 .a 9 (.p (.tup (es [.sub aq (.int 0),.sub aq (.int 1),.int 0,.sub aq (.int 2)])) [11] (.l (.sub ah (.str 6)) (.b .sub (.sub ah (.str 13)) bj) .none) .nil),
 .ret (.c .eq (.p (.m dW 52 .nil) [12] (.t aa 34) .nil) aR)]
def GO:Ss:=ss [.a 1 (.p (.b .mod wH (.int 999983)) [21] (.l aa .none (.int 10)) .nil),
 .i (.c .eq (.y .len (es [RJ])) (.int 0)) (ss [.a 1 (.list QD (es [.int 0]))]) .nil,
 .a 2 (.call 111 (es [RJ,.int 0])),
 .u [3,4] (.call 112 (es [ah])),
 .a 5 (.sub (.list QD (es [.int 36,.int 0,.int 90,.int 20])) (.b .mod (.b .fdiv ah (.int 16)) (.int 4))),
 .a 6 (.sub (.list QD (es [.int 5,.int 300,.int 0x8000000000000000])) (.b .mod (.b .fdiv ah (.int 64)) (.int 3))),
 .a 7 (.new 21 QD (es [.list QD (es [.int 1,.int 2]),.list QD (es [.int 9]),.list QD .nil,.list QD .nil,.ff])),
 .a 8 (.new 26 QE (es [.new 21 QD (es [.list QD .nil,.list QD .nil,.list QD .nil,.list QD .nil,.ff])])),
 .i (.c .eq RN (.int 1)) (ss [.a 8 (.new 26 QE (es [a9]))]) (ss [.expr (.m aP 60 (es [.new 22 QD (es [RN,au,a9,.RT []])]))]),
 .a 9 (.new 28 QE (es [aP,aI])),
 .a 10 (.new 24 QE (es [.new 25 QE .nil])),
 .A aM 25 (.c .eq (.b .mod (.b .fdiv ah (.int 192)) (.int 5)) (.int 4)),
 .expr (.m aM 61 (es [RN,au,a9])),
 .a 11 (.dict (es [.str 0,.str 8,.str 5,.str 1,.str 4,.str 6,.str 9,.str 11,.str 3,.str 10,.str 2,.str 12,.str 13,.str 7]) (es [RN,au,aI,bj,.list QD .nil,.list QD .nil,.list QD .nil,.dict .nil .nil,RN,.t (.sub (.m aP 59 .nil) (.int 0)) 9,RN,RN,RN,au])),
 .f [12] (.y .VP (es [.int 1,.int 9])) (ss [.a 13 (.call 111 (es [RJ,dW])),
  .a 14 (.b .mod iq (.int 13)),
  .a 15 (.b .fdiv iq (.int 13)),
  .a 16 (.tt),
  .i (.and (es [.c .isin bV (.tup (es [.int 0,.int 2,.int 4])),.c .lt (.y .len (es [.sub aq (.str 4)])) (.int 5)])) (ss [.a 16 (.call 120 (es [aR,aq,bH]))]) (ss [.i (.c .eq bV (.int 6)) (ss [.a 17 (.call 118 (es [aq])),
    .i (.c .eq k9 (.y .len (es [.sub aq (.str 6)]))) (ss [.a 17 (.y .len (es [.sub aq (.str 4)]))]) .nil,
    .a 18 (.b .add (.sub aq (.str 3)) (.b .mod bH (.b .add (.b .sub (.b .add RN k9) (.sub aq (.str 3))) (.int 1)))),
    .expr (.m aR 38 (es [jx])),
    .expr (.call 119 (es [aq,jx]))]) (ss [.i (.c .eq bV (.int 5)) (ss [.expr (.call 121 (es [aR,aP,aq,.c .eq (.b .mod bH (.int 2)) (.int 0)]))]) (ss [.i (.and (es [.c .eq bV (.int 1),.c .gt (.sub aq (.str 12)) (.sub aq (.str 13))])) (ss [.expr (.call 123 (es [aR,aP,aq,bH]))]) (ss [.i (.c .isin bV (.tup (es [.int 1,.int 10]))) (ss [.expr (.m (.t aM 21) 25 .nil),
       .expr (.m aM 9 .nil),
       .C aq (.str 12) (.sub aq (.str 2))]) (ss [.i (.c .isin bV (.tup (es [.int 3,.int 9]))) (ss [.a 19 (.call 125 (es [aP,aM,aq,bH])),
        .i (.c .is bD .none) (ss [.k]) .nil,
        .u [10,9] bD]) (ss [.i (.c .eq bV (.int 11)) (ss [.a 16 (.call 126 (es [aM,aq]))]) (ss [.a 16 (.call 122 (es [aR,aP,aM,aq,.c .gt (.b .mod bH (.int 3)) (.int 0)]))])])])])])])]),
  .i (.or (es [.not eD,.not (.call 127 (es [aR,aM,aq]))])) (ss [.k]) .nil]),
 .a 20 (.call 111 (es [RJ,.int 9])),
 .i (.and (es [.c .lt (.call 118 (es [aq])) (.y .len (es [.sub aq (.str 6)])),.not (.call 120 (es [aR,aq,dr]))])) (ss [.k]) .nil,
 .i (.not (.call 120 (es [aR,aq,dr]))) (ss [.k]) .nil,
 .expr (.m aR 38 (es [.b .add RN (.y .len (es [.sub aq (.str 4)]))])),
 .expr (.call 119 (es [aq,.b .add RN (.y .len (es [.sub aq (.str 4)]))])),
 .i (.not (.call 128 (es [aR,aP,aM,aq]))) (ss [.k]) .nil,
 .a 19 (.call 125 (es [aP,aM,aq,.b .fdiv dr (.int 3)])),
 .i (.or (es [.c .is bD .none,.not (.call 127 (es [.sub bD (.int 1),.sub bD (.int 0),aq]))])) (ss [.k]) .nil,
 .u [10,9] bD,
 .ret (.and (es [.call 128 (es [aR,aP,aM,aq]),.call 129 (es [aP,aM,aq])]))]
def wQ:List Fn:=[
 ⟨2,[],1,b0⟩,
 ⟨4,[],4,b1⟩,
 ⟨1,[],0,b2⟩,
 ⟨2,[],0,b3⟩,
 ⟨1,[],0,b4⟩,
 ⟨2,[],0,b5⟩,
 ⟨1,[],1,b6⟩,
 ⟨1,[],0,b7⟩,
 ⟨1,[],0,b8⟩,
 ⟨2,[],1,b9⟩,
 ⟨3,[.int 0],0,IX⟩,
 ⟨1,[],0,IY⟩,
 ⟨1,[],2,IZ⟩,
 ⟨1,[],2,I0⟩,
 ⟨1,[],1,I2⟩,
 ⟨1,[],0,I7⟩,
 ⟨1,[],0,I8⟩,
 ⟨2,[],0,I9⟩,
 ⟨2,[],0,Ja⟩,
 ⟨2,[],0,Jb⟩,
 ⟨2,[],0,Jc⟩,
 ⟨1,[],0,Jd⟩,
 ⟨1,[],0,Je⟩,
 ⟨3,[],0,Jf⟩,
 ⟨2,[],0,Jg⟩,
 ⟨4,[],0,Jh⟩,
 ⟨1,[],0,Ji⟩,
 ⟨1,[],0,Jj⟩,
 ⟨1,[],2,Jk⟩,
 ⟨1,[],1,Jl⟩,
 ⟨5,[],0,Jm⟩,
 ⟨1,[],0,Jn⟩,
 ⟨1,[],2,Jo⟩,
 ⟨2,[],3,Jp⟩,
 ⟨4,[],0,Jq⟩,
 ⟨1,[],0,Jr⟩,
 ⟨6,[],0,Js⟩,
 ⟨1,[],0,Jt⟩,
 ⟨2,[],1,Ju⟩,
 ⟨1,[],3,Jv⟩,
 ⟨1,[],1,Jw⟩,
 ⟨1,[],6,Jx⟩,
 ⟨5,[],0,Jy⟩,
 ⟨7,[],0,Jz⟩,
 ⟨1,[],1,JA⟩,
 ⟨2,[],0,JB⟩,
 ⟨1,[],0,JC⟩,
 ⟨1,[],7,JD⟩,
 ⟨2,[],1,JE⟩,
 ⟨1,[],0,JF⟩,
 ⟨1,[],1,JG⟩,
 ⟨1,[],2,JH⟩,
 ⟨3,[],1,JI⟩,
 ⟨1,[],4,JJ⟩,
 ⟨2,[],0,JK⟩,
 ⟨1,[],6,JL⟩,
 ⟨1,[],0,JM⟩,
 ⟨5,[],1,JN⟩,
 ⟨4,[],2,JO⟩,
 ⟨3,[],4,JP⟩,
 ⟨2,[],0,JQ⟩,
 ⟨3,[],4,JR⟩,
 ⟨3,[],3,JS⟩,
 ⟨2,[],1,JT⟩,
 ⟨1,[],3,JU⟩,
 ⟨1,[],6,JV⟩,
 ⟨1,[],0,JW⟩,
 ⟨2,[],0,JX⟩,
 ⟨1,[],0,JY⟩,
 ⟨3,[],0,JZ⟩,
 ⟨2,[],3,J0⟩,
 ⟨1,[],0,J1⟩,
 ⟨1,[],0,J2⟩,
 ⟨2,[],0,J3⟩,
 ⟨4,[],2,J5⟩,
 ⟨2,[],3,J7⟩,
 ⟨2,[],1,J8⟩,
 ⟨1,[],0,J9⟩,
 ⟨1,[],0,Ka⟩,
 ⟨1,[],0,Kb⟩,
 ⟨4,[],1,Kc⟩,
 ⟨2,[],0,Kd⟩,
 ⟨2,[],0,Ke⟩,
 ⟨2,[],3,Kf⟩,
 ⟨2,[],0,Kg⟩,
 ⟨4,[],1,Kh⟩,
 ⟨2,[],1,Ki⟩,
 ⟨2,[],0,Kj⟩,
 ⟨1,[],0,Kk⟩,
 ⟨1,[],0,Kl⟩,
 ⟨2,[],0,Km⟩,
 ⟨3,[],1,Kn⟩,
 ⟨2,[],1,Ko⟩,
 ⟨3,[],0,Kp⟩,
 ⟨3,[],1,Kq⟩,
 ⟨1,[],1,Kr⟩,
 ⟨1,[],1,Ks⟩,
 ⟨2,[],1,Kt⟩,
 ⟨3,[],0,Ku⟩,
 ⟨5,[],3,Kv⟩,
 ⟨2,[],1,Ge⟩,
 ⟨2,[],1,Gf⟩,
 ⟨2,[],0,Gg⟩,
 ⟨2,[],0,Gh⟩,
 ⟨3,[],0,Gi⟩,
 ⟨1,[],0,Gj⟩,
 ⟨1,[],0,Gk⟩,
 ⟨1,[],0,Gl⟩,
 ⟨1,[],0,Gm⟩,
 ⟨1,[],0,Gp⟩,
 ⟨4,[],3,Gq⟩,
 ⟨2,[],0,Gr⟩,
 ⟨1,[],0,Gs⟩,
 ⟨4,[],5,Gu⟩,
 ⟨1,[],0,Gv⟩,
 ⟨1,[],16,Gw⟩,
 ⟨1,[],1,Gx⟩,
 ⟨1,[],4,Gy⟩,
 ⟨1,[],1,Gz⟩,
 ⟨2,[],0,GA⟩,
 ⟨3,[],8,GB⟩,
 ⟨4,[],1,GC⟩,
 ⟨5,[],5,GD⟩,
 ⟨4,[],1,GF⟩,
 ⟨2,[],4,GH⟩,
 ⟨4,[],2,GI⟩,
 ⟨2,[],4,GJ⟩,
 ⟨3,[],0,GK⟩,
 ⟨4,[],1,GL⟩,
 ⟨3,[],10,GN⟩,
 ⟨1,[],21,GO⟩]
noncomputable def xO:List (Nat×Nat×Nat):=[(16,0,11),(16,2,12),(16,6,13),(16,4,14),(16,5,15),(17,2,17),(17,6,18),(17,7,19),(17,4,20),(17,5,21),(18,11,23),(18,18,24),(18,1,25),(18,22,26),(18,24,27),(19,52,31),(19,3,32),(20,26,35),(21,52,37),(23,47,44),(24,57,55),(24,9,56),(24,12,57),(24,61,58),(24,53,59),(24,14,60),(24,15,61),(24,17,62),(24,16,63),(24,20,64),(24,21,65),(24,52,66),(25,13,69),(25,23,70),(25,25,71),(25,10,72),(25,8,73),(25,19,74),(25,58,75),(26,59,77),(26,28,78),(26,27,79),(26,46,80),(26,29,81),(26,50,82),(26,37,83),(26,60,84),(26,55,85),(26,56,86),(27,32,88),(27,33,89),(27,30,90),(27,40,91),(27,39,92),(27,31,93),(28,28,95),(28,27,96),(28,34,97),(28,35,98),(28,48,99),(28,37,100),(28,36,101),(28,38,102),(28,54,103),(28,40,104),(28,49,105),(28,42,106),(28,43,107),(28,44,108),(28,51,109),(28,45,110)]
noncomputable def xn:List (Nat×Nat):=[(16,10),(17,16),(18,22),(19,30),(20,34),(21,36),(22,42),(23,43),(24,54),(25,68),(26,76),(27,87),(28,94)]
noncomputable def tD:List V:=[.int 4294967295,.int 0xFFFFFFFFFFFFFFFF,.int 0,.int 1,.int 0xFFFFFFFFFFFFFF,.int 12,.int 0,.int 2,.int 0,.int 1,.int 2,.int 3,.int 5,.int 6,.int 0,.int 1,.int 2,.int 3,.RT [97],.RT [100],.RT [101],.RT [115],.RT [116]]
noncomputable def HQ:List (Nat×Nat):=[(1,0),(2,1),(3,2),(4,1),(5,1),(6,0),(7,6),(8,6),(9,6),(10,6),(11,6),(12,6),(13,0),(14,13),(15,13)]
noncomputable def p5:List (Nat×Nat)->Nat->Option Nat
 |[],J=> .none
 |(a,b)::r,k=>if a=k then QA b else p5 r k
noncomputable def tR:List (Nat×Nat×Nat)->Nat->Nat->Option Nat
 |[],J,J0=> .none
 |(a,b,c)::r,k,l=>if a=k/\b=l then QA c else tR r k l
noncomputable def attrL:List (Nat×List Nat):=[(16,[0,1]),(17,[2]),(18,[3,4]),(19,[0,5,6,7]),(20,[5,8,9]),(21,[10,11,12,13,14]),(22,[0,5,6,15]),(23,[7,16,17,18,19,20]),(24,[5,21,22,23,24,25]),(25,[26,27,28,29]),(26,[15,30,31,32,33,34]),(27,[34,35,36]),(28,[22,37,38,39,40])]
noncomputable def Wd:List Nat:=[0,1,2,3,4,5,6,7,8,9,28,29,33,38,39,40,41,45,46,47,48,49,50,51,52,53,67,111,112,113,114,115,116,117,118,119,120,121,122,123,124,125,126,127,128,129,130]
def D9 (c f:Nat):Bool:=attrL.any λp=>p.1==c&&p.2.contains f
def fns (n:Nat):Option Fn:=wQ[n]?
def E5 (c m:Nat):Option Nat:=tR xO c m
def ER (c:Nat):Option Nat:=p5 xn c
def EM (g:Nat):Option V:=tD[g]?
def Dt (c:Nat):Option Nat:=p5 HQ c
def HV (c d:Nat):Bool:=c==d||(match Dt c with|some p=>p==d||(match Dt p with|some q=>q==d||(match Dt q with|some r=>r==d| .none=>QE)| .none=>QE)| .none=>QE)
def P:gX:=⟨fns,E5,ER,EM,HV,D9⟩
end
section
theorem SP {T:Prop} (h:QE=QD):T:=Bool.noConfusion h
noncomputable def gt (i j:Nat) (e:j=i->Bool):Bool:=if h:j=i then e h else QE
theorem dy {i j:Nat} {e:j=i->Bool} (h:gt i j e=QD):j=i:=by
 unfold gt at h
 by_cases k:j=i
 ·exact k
 ·rw[dif_neg k] at h;exact SP h
def bB (g:Const->Nat->Pos->Bool) (x:QF):Bool:=gt 19 x.ctorIdx λh=>PySem.Expr.Constant.elim x h g
@[elab_as_elim]theorem dk {T:QF->Prop} {g:Const->Nat->Pos->Bool} (x:QF) (h:bB g x=QD) (k: ∀a0 a1 a2,g a0 a1 a2=QD->T (.Constant a0 a1 a2)):T x:=PySem.Expr.Constant.elim (motive_1:=λx=>bB g x=QD->T x) x (dy h) k h
def i7 (g:QS->QF->Pos->Bool) (x:QF):Bool:=gt 3 x.ctorIdx λh=>PySem.Expr.UnaryOp.elim x h g
@[elab_as_elim]theorem qR {T:QF->Prop} {g:QS->QF->Pos->Bool} (x:QF) (h:i7 g x=QD) (k: ∀a0 a1 a2,g a0 a1 a2=QD->T (.UnaryOp a0 a1 a2)):T x:=PySem.Expr.UnaryOp.elim (motive_1:=λx=>i7 g x=QD->T x) x (dy h) k h
def d1 (g:Str->Pos->Bool) (x:QF):Bool:=gt 23 x.ctorIdx λh=>PySem.Expr.Name.elim x h g
@[elab_as_elim]theorem gC {T:QF->Prop} {g:Str->Pos->Bool} (x:QF) (h:d1 g x=QD) (k: ∀a0 a1,g a0 a1=QD->T (.Name a0 a1)):T x:=PySem.Expr.Name.elim (motive_1:=λx=>d1 g x=QD->T x) x (dy h) k h
def bM (g:QF->Str->Pos->Bool) (x:QF):Bool:=gt 20 x.ctorIdx λh=>PySem.Expr.Attribute.elim x h g
@[elab_as_elim]theorem fP {T:QF->Prop} {g:QF->Str->Pos->Bool} (x:QF) (h:bM g x=QD) (k: ∀a0 a1 a2,g a0 a1 a2=QD->T (.Attribute a0 a1 a2)):T x:=PySem.Expr.Attribute.elim (motive_1:=λx=>bM g x=QD->T x) x (dy h) k h
def n4 (g:QF->QT->QF->Pos->Bool) (x:QF):Bool:=gt 2 x.ctorIdx λh=>PySem.Expr.BinOp.elim x h g
@[elab_as_elim]theorem sI {T:QF->Prop} {g:QF->QT->QF->Pos->Bool} (x:QF) (h:n4 g x=QD) (k: ∀a0 a1 a2 a3,g a0 a1 a2 a3=QD->T (.BinOp a0 a1 a2 a3)):T x:=PySem.Expr.BinOp.elim (motive_1:=λx=>n4 g x=QD->T x) x (dy h) k h
def i6 (g:QF->List CmpOp->List QF->Pos->Bool) (x:QF):Bool:=gt 15 x.ctorIdx λh=>PySem.Expr.Compare.elim x h g
@[elab_as_elim]theorem qO {T:QF->Prop} {g:QF->List CmpOp->List QF->Pos->Bool} (x:QF) (h:i6 g x=QD) (k: ∀a0 a1 a2 a3,g a0 a1 a2 a3=QD->T (.Compare a0 a1 a2 a3)):T x:=PySem.Expr.Compare.elim (motive_1:=λx=>i6 g x=QD->T x) x (dy h) k h
def kp (g:QO->List QF->Pos->Bool) (x:QF):Bool:=gt 0 x.ctorIdx λh=>PySem.Expr.BoolOp.elim x h g
@[elab_as_elim]theorem uf {T:QF->Prop} {g:QO->List QF->Pos->Bool} (x:QF) (h:kp g x=QD) (k: ∀a0 a1 a2,g a0 a1 a2=QD->T (.BoolOp a0 a1 a2)):T x:=PySem.Expr.BoolOp.elim (motive_1:=λx=>kp g x=QD->T x) x (dy h) k h
def cQ (g:QF->QF->Pos->Bool) (x:QF):Bool:=gt 21 x.ctorIdx λh=>PySem.Expr.Subscript.elim x h g
@[elab_as_elim]theorem eJ {T:QF->Prop} {g:QF->QF->Pos->Bool} (x:QF) (h:cQ g x=QD) (k: ∀a0 a1 a2,g a0 a1 a2=QD->T (.Subscript a0 a1 a2)):T x:=PySem.Expr.Subscript.elim (motive_1:=λx=>cQ g x=QD->T x) x (dy h) k h
def n5 (g:Option QF->Option QF->Option QF->Pos->Bool) (x:QF):Bool:=gt 26 x.ctorIdx λh=>PySem.Expr.Slice.elim x h g
@[elab_as_elim]theorem DF {T:QF->Prop} {g:Option QF->Option QF->Option QF->Pos->Bool} (x:QF) (h:n5 g x=QD) (k: ∀a0 a1 a2 a3,g a0 a1 a2 a3=QD->T (.Slice a0 a1 a2 a3)):T x:=PySem.Expr.Slice.elim (motive_1:=λx=>n5 g x=QD->T x) x (dy h) k h
def iz (g:List QF->Nat->Pos->Bool) (x:QF):Bool:=gt 25 x.ctorIdx λh=>PySem.Expr.Tuple.elim x h g
@[elab_as_elim]theorem l7 {T:QF->Prop} {g:List QF->Nat->Pos->Bool} (x:QF) (h:iz g x=QD) (k: ∀a0 a1 a2,g a0 a1 a2=QD->T (.Tuple a0 a1 a2)):T x:=PySem.Expr.Tuple.elim (motive_1:=λx=>iz g x=QD->T x) x (dy h) k h
def xM (g:List QF->Pos->Bool) (x:QF):Bool:=gt 24 x.ctorIdx λh=>PySem.Expr.List.elim x h g
@[elab_as_elim]theorem Ft {T:QF->Prop} {g:List QF->Pos->Bool} (x:QF) (h:xM g x=QD) (k: ∀a0 a1,g a0 a1=QD->T (.List a0 a1)):T x:=PySem.Expr.List.elim (motive_1:=λx=>xM g x=QD->T x) x (dy h) k h
def xK (g:List (Option QF)->List QF->Pos->Bool) (x:QF):Bool:=gt 6 x.ctorIdx λh=>PySem.Expr.Dict.elim x h g
@[elab_as_elim]theorem Fs {T:QF->Prop} {g:List (Option QF)->List QF->Pos->Bool} (x:QF) (h:xK g x=QD) (k: ∀a0 a1 a2,g a0 a1 a2=QD->T (.Dict a0 a1 a2)):T x:=PySem.Expr.Dict.elim (motive_1:=λx=>xK g x=QD->T x) x (dy h) k h
def dC (g:QF->List QF->List Keyword->Pos->Bool) (x:QF):Bool:=gt 16 x.ctorIdx λh=>PySem.Expr.Call.elim x h g
@[elab_as_elim]theorem B2 {T:QF->Prop} {g:QF->List QF->List Keyword->Pos->Bool} (x:QF) (h:dC g x=QD) (k: ∀a0 a1 a2 a3,g a0 a1 a2 a3=QD->T (.Call a0 a1 a2 a3)):T x:=PySem.Expr.Call.elim (motive_1:=λx=>dC g x=QD->T x) x (dy h) k h
def gR (g:QF->List QR->QV->Pos->Bool) (x:QF):Bool:=gt 8 x.ctorIdx λh=>PySem.Expr.ListComp.elim x h g
@[elab_as_elim]theorem vz {T:QF->Prop} {g:QF->List QR->QV->Pos->Bool} (x:QF) (h:gR g x=QD) (k: ∀a0 a1 a2 a3,g a0 a1 a2 a3=QD->T (.ListComp a0 a1 a2 a3)):T x:=PySem.Expr.ListComp.elim (motive_1:=λx=>gR g x=QD->T x) x (dy h) k h
def xN (g:QF->List QR->QV->Pos->Bool) (x:QF):Bool:=gt 9 x.ctorIdx λh=>PySem.Expr.SetComp.elim x h g
def uY (g:QF->QF->List QR->QV->Pos->Bool) (x:QF):Bool:=gt 10 x.ctorIdx λh=>PySem.Expr.DictComp.elim x h g
def iy (g:List QF->Pos->Bool) (x:QF):Bool:=gt 18 x.ctorIdx λh=>PySem.Expr.JoinedStr.elim x h g
@[elab_as_elim]theorem lZ {T:QF->Prop} {g:List QF->Pos->Bool} (x:QF) (h:iy g x=QD) (k: ∀a0 a1,g a0 a1=QD->T (.JoinedStr a0 a1)):T x:=PySem.Expr.JoinedStr.elim (motive_1:=λx=>iy g x=QD->T x) x (dy h) k h
def dX (g:QF->Int->Option QF->Pos->Bool) (x:QF):Bool:=gt 17 x.ctorIdx λh=>PySem.Expr.FormattedValue.elim x h g
@[elab_as_elim]theorem j7 {T:QF->Prop} {g:QF->Int->Option QF->Pos->Bool} (x:QF) (h:dX g x=QD) (k: ∀a0 a1 a2 a3,g a0 a1 a2 a3=QD->T (.FormattedValue a0 a1 a2 a3)):T x:=PySem.Expr.FormattedValue.elim (motive_1:=λx=>dX g x=QD->T x) x (dy h) k h
def fL (g:List QF->QF->Pos->Bool) (x:QI):Bool:=gt 5 x.ctorIdx λh=>PySem.Stmt.Assign.elim x h g
@[elab_as_elim]theorem Bl {T:QI->Prop} {g:List QF->QF->Pos->Bool} (x:QI) (h:fL g x=QD) (k: ∀a0 a1 a2,g a0 a1 a2=QD->T (.Assign a0 a1 a2)):T x:=PySem.Stmt.Assign.elim (motive_2:=λx=>fL g x=QD->T x) x (dy h) k h
def eE (g:QF->QT->QF->Pos->Bool) (x:QI):Bool:=gt 7 x.ctorIdx λh=>PySem.Stmt.AugAssign.elim x h g
@[elab_as_elim]theorem iH {T:QI->Prop} {g:QF->QT->QF->Pos->Bool} (x:QI) (h:eE g x=QD) (k: ∀a0 a1 a2 a3,g a0 a1 a2 a3=QD->T (.AugAssign a0 a1 a2 a3)):T x:=PySem.Stmt.AugAssign.elim (motive_2:=λx=>eE g x=QD->T x) x (dy h) k h
def n6 (g:List QF->Pos->Bool) (x:QI):Bool:=gt 4 x.ctorIdx λh=>PySem.Stmt.Delete.elim x h g
@[elab_as_elim]theorem Bm {T:QI->Prop} {g:List QF->Pos->Bool} (x:QI) (h:n6 g x=QD) (k: ∀a0 a1,g a0 a1=QD->T (.Delete a0 a1)):T x:=PySem.Stmt.Delete.elim (motive_2:=λx=>n6 g x=QD->T x) x (dy h) k h
def xP (g:QF->Pos->Bool) (x:QI):Bool:=gt 24 x.ctorIdx λh=>PySem.Stmt.Expr.elim x h g
@[elab_as_elim]theorem Fv {T:QI->Prop} {g:QF->Pos->Bool} (x:QI) (h:xP g x=QD) (k: ∀a0 a1,g a0 a1=QD->T (.Expr a0 a1)):T x:=PySem.Stmt.Expr.elim (motive_2:=λx=>xP g x=QD->T x) x (dy h) k h
def HN (g:QF->List QI->List QI->Pos->Bool) (x:QI):Bool:=gt 12 x.ctorIdx λh=>PySem.Stmt.If.elim x h g
@[elab_as_elim]theorem LO {T:QI->Prop} {g:QF->List QI->List QI->Pos->Bool} (x:QI) (h:HN g x=QD) (k: ∀a0 a1 a2 a3,g a0 a1 a2 a3=QD->T (.If a0 a1 a2 a3)):T x:=PySem.Stmt.If.elim (motive_2:=λx=>HN g x=QD->T x) x (dy h) k h
def rP (g:QF->List QI->List QI->Pos->Bool) (x:QI):Bool:=gt 11 x.ctorIdx λh=>PySem.Stmt.While.elim x h g
@[elab_as_elim]theorem DI {T:QI->Prop} {g:QF->List QI->List QI->Pos->Bool} (x:QI) (h:rP g x=QD) (k: ∀a0 a1 a2 a3,g a0 a1 a2 a3=QD->T (.While a0 a1 a2 a3)):T x:=PySem.Stmt.While.elim (motive_2:=λx=>rP g x=QD->T x) x (dy h) k h
def Dl (g:QF->QF->List QI->List QI->Pos->Bool) (x:QI):Bool:=gt 9 x.ctorIdx λh=>PySem.Stmt.For.elim x h g
@[elab_as_elim]theorem HW {T:QI->Prop} {g:QF->QF->List QI->List QI->Pos->Bool} (x:QI) (h:Dl g x=QD) (k: ∀a0 a1 a2 a3 a4,g a0 a1 a2 a3 a4=QD->T (.For a0 a1 a2 a3 a4)):T x:=PySem.Stmt.For.elim (motive_2:=λx=>Dl g x=QD->T x) x (dy h) k h
def n7 (g:Option QF->Pos->Bool) (x:QI):Bool:=gt 3 x.ctorIdx λh=>PySem.Stmt.Return.elim x h g
@[elab_as_elim]theorem Bn {T:QI->Prop} {g:Option QF->Pos->Bool} (x:QI) (h:n7 g x=QD) (k: ∀a0 a1,g a0 a1=QD->T (.Return a0 a1)):T x:=PySem.Stmt.Return.elim (motive_2:=λx=>n7 g x=QD->T x) x (dy h) k h
def jF (g:Option QF->Option QF->Pos->Bool) (x:QI):Bool:=gt 16 x.ctorIdx λh=>PySem.Stmt.Raise.elim x h g
@[elab_as_elim]theorem DH {T:QI->Prop} {g:Option QF->Option QF->Pos->Bool} (x:QI) (h:jF g x=QD) (k: ∀a0 a1 a2,g a0 a1 a2=QD->T (.Raise a0 a1 a2)):T x:=PySem.Stmt.Raise.elim (motive_2:=λx=>jF g x=QD->T x) x (dy h) k h
def Dm (g:List QI->List QL->List QI->List QI->Pos->Bool) (x:QI):Bool:=gt 17 x.ctorIdx λh=>PySem.Stmt.Try.elim x h g
@[elab_as_elim]theorem HX {T:QI->Prop} {g:List QI->List QL->List QI->List QI->Pos->Bool} (x:QI) (h:Dm g x=QD) (k: ∀a0 a1 a2 a3 a4,g a0 a1 a2 a3 a4=QD->T (.Try a0 a1 a2 a3 a4)):T x:=PySem.Stmt.Try.elim (motive_2:=λx=>Dm g x=QD->T x) x (dy h) k h
def rO (g:Pos->Bool) (x:QI):Bool:=gt 26 x.ctorIdx λh=>PySem.Stmt.Break.elim x h g
@[elab_as_elim]theorem DG {T:QI->Prop} {g:Pos->Bool} (x:QI) (h:rO g x=QD) (k: ∀a0,g a0=QD->T (.Break a0)):T x:=PySem.Stmt.Break.elim (motive_2:=λx=>rO g x=QD->T x) x (dy h) k h
def jE (g:Pos->Bool) (x:QI):Bool:=gt 27 x.ctorIdx λh=>PySem.Stmt.Continue.elim x h g
@[elab_as_elim]theorem vA {T:QI->Prop} {g:Pos->Bool} (x:QI) (h:jE g x=QD) (k: ∀a0,g a0=QD->T (.Continue a0)):T x:=PySem.Stmt.Continue.elim (motive_2:=λx=>jE g x=QD->T x) x (dy h) k h
def xQ (g:Pos->Bool) (x:QI):Bool:=gt 25 x.ctorIdx λh=>PySem.Stmt.Pass.elim x h g
@[elab_as_elim]theorem Fw {T:QI->Prop} {g:Pos->Bool} (x:QI) (h:xQ g x=QD) (k: ∀a0,g a0=QD->T (.Pass a0)):T x:=PySem.Stmt.Pass.elim (motive_2:=λx=>xQ g x=QD->T x) x (dy h) k h
end
section
structure Cx where
 vt:List (Str×Nat)
 sc:QV
structure sQ where
 fn:List Str
 cls:List Str
 attr:List Str
 U0:List Str
 glob:List Str
 str:List Str
noncomputable def gn (c:Cx) (n:Str):Bool:=c.sc.names.lookup n==QA .globalImplicit&&n !=("__debug__" :Str)
noncomputable def isVar (c:Cx) (n:Str) (x:Nat):Bool:=(match c.sc.names.lookup n with|some .local|some .cell|some .free=>QD|_=>QE)&&c.vt.lookup n==QA x&&n !=("__debug__" :Str)&&n !=("__classdict__" :Str)
noncomputable def rX:BO->QT
 | .add=> .Add| .sub=> .Sub| .mul=> .Mult| .fdiv=> .FloorDiv| .mod=> .Mod| .band=> .BitAnd| .bor=> .BitOr| .shl=> .LShift| .shr=> .RShift
noncomputable def Cw:CO->CmpOp
 | .eq=> .Eq| .ne=> .NotEq| .lt=> .Lt| .le=> .LtE| .gt=> .Gt| .ge=> .GtE| .is=> .Is| .TL=> .IsNot| .isin=> .In
def Y8 (op:BO) (o:QT):Bool:=o==rX op
def Qn (op:CO) (o:CmpOp):Bool:=o==Cw op
noncomputable def UM:BI->Str×Nat
 | .len=>("len",1)| .min2=>("min",2)| .max2=>("max",2)| .UQ=>("range",1)| .VP=>("range",2)
 | .sorted=>("sorted",1)| .bytes=>("bytes",1)| .W0=>("bytearray",0)| .list=>("list",1)| .tuple=>("tuple",1)
noncomputable def l1 {α:Type} (g:α->Bool):List α->Bool
 |[]=>QE
 |x::r=>g x&&r.isEmpty
def l2 {α:Type} (g:α->α->Bool):List α->Bool
 |[]=>QE
 |x::r=>l1 (g x) r
noncomputable def dY (b:Bool) (f:QF->Bool):Option QF->Bool
 |none=>b
 |some l=>f l
noncomputable def uU:E->Bool
 | .none=>QD
 |_=>QE
noncomputable def Eu (g:Nat->Bool):E->Bool
 | .str n=>g n
 |_=>QE
noncomputable def zA (g:Str->Bool):Const->Bool
 | .str t=>g t
 |_=>QE
noncomputable def tJ:Es->Bool
 | .nil=>QD
 | .cons J J0=>QE
noncomputable def FR (es:Es) (g:E->Es->Bool):Bool:=match es with
 | .nil=>QE
 | .cons e r=>g e r
def SF (x:QF):Bool:=!dC (λf as ks J=>d1 (λn J=>n==("super" :Str)) f&&as.isEmpty&&ks.isEmpty) x
def jz (x:QF):Bool:=gR (λJ J J J=>QD) x||xN (λJ J J J=>QD) x||uY (λJ J J J J=>QD) x
def W4 (c:Cx) (n:Str) (x:Nat):Bool:=isVar c n x&&(match c.sc.names.lookup n with|some .local|some .cell=>QD|_=>QE)
noncomputable def y9 (c:Cx):List QF->List Nat->Bool
 |[],vs=>vs.isEmpty
 |t::ts,vs=>match vs with
  |[]=>QE
  |v::r=>d1 (λn J=>W4 c n v) t&&y9 c ts r
def Zf (t:QF) (vs:List Nat) (c:Cx):Bool:=
 d1 (λn J=>l1 (W4 c n) vs) t||iz (λts J J=>y9 c ts vs&&decide (1<vs.length)) t
def pZ (x:QF):Bool:=iz (λJ J J=>QD) x
def xo (x:QF):Bool:=dC (λJ J J J=>QD) x
def isSlice (x:QF):Bool:=n5 (λJ J J J=>QD) x
noncomputable def ZO (k:Nat):Bool:=k==2||k==7||k==8||k==14||k==15
noncomputable def Vx (N:sQ):Es->List (Option QF)->Bool
 | .nil,xs=>xs.isEmpty
 | .cons e r,xs=>match xs with
  |x::t=>Eu (λn=>dY QE (bB λk J J=>(N.str[n]?).map Const.str==QA k) x) e&&Vx N r t
  |[]=>QE
section
variable (N:sQ)
mutual
noncomputable def SE:E->Cx->QF->Bool
 | .none,J,x=>bB (λk J J=>k== .none) x
 | .tt,J,x=>bB (λk J J=>k== .bool QD) x
 | .ff,J,x=>bB (λk J J=>k== .bool QE) x
 | .int i,J,x=>bB (λk J J=>k== .int i) x||i7 (λo y J=>o== .USub&&decide (i<0)&&bB (λk J J=>k== .int (-i)) y) x
 | .str n,J,x=>bB (λk J J=>(N.str[n]?).map Const.str==QA k) x
 | .RT b,J,x=>bB (λk J J=>k== .bytes b&&decide (b.length<=1000)) x
 | .v v,c,x=>d1 (λn J=>isVar c n v) x
 | .g g,c,x=>d1 (λn J=>gn c n&&N.glob[g]?==QA n) x
 | .t e f,c,x=>bM (λv n J=>N.attr[f]?==QA n&&SF v&&SE e c v) x
 | .b op a b,c,x=>n4 (λl o r J=>Y8 op o&&SE a c l&&SE b c r) x
 | .c op a b,c,x=>i6 (λl os rs J=>l1 (Qn op) os&&SE a c l&&l1 (SE b c) rs) x
 | .d o1 o2 a b d,c,x=>i6 (λl os rs J=>l2 (λp q=>Qn o1 p&&Qn o2 q) os&&SE a c l&&l2 (λr s=>SE b c r&&SE d c s) rs) x
 | .not e,c,x=>i7 (λo v J=>o== .Not&&SE e c v) x
 | .and es,c,x=>kp (λo vs J=>o== .And&&!vs.isEmpty&&TV es c vs) x
 | .or es,c,x=>kp (λo vs J=>o== .Or&&!vs.isEmpty&&TV es c vs) x
 | .sub e i,c,x=>cQ (λv s J=>!isSlice s&&SE e c v&&SE i c s) x
 | .l e lo hi,c,x=>cQ (λv s J=>n5 (λl h st J=>SE e c v&&dY (uU lo) (SE lo c) l&&dY (uU hi) (SE hi c) h&&st.isNone) s) x
 | .tup es,c,x=>iz (λvs J J=>decide (vs.length<=1000)&&TV es c vs) x
 | .list J es,c,x=>xM (λvs J=>decide (vs.length<=1000)&&TV es c vs) x
 | .dict ks vs,c,x=>xK (λxs ys J=>Vx N ks xs&&decide (xs.length<=15)&&xs.length==ys.length&&TV vs c ys) x
 | .call f es,c,x=>dC (λg as ks J=>ks.isEmpty&&d1 (λn J=>gn c n&&Wd.contains f&&N.fn[f]?==QA n&&TV es c as) g) x
 | .new k J es,c,x=>dC (λg as ks J=>ks.isEmpty&&d1 (λn J=>gn c n&&N.cls[k]?==QA n&&TV es c as) g) x
 | .m e m es,c,x=>dC (λg as ks pos=>ks.isEmpty&&bM (λv n apos=>N.U0[m]?==QA n&&decide (as.length<20)&&SF v&&apos.endLine==pos.line&&SE e c v&&TV es c as) g) x
 | .append e a,c,x=>dC (λg as ks pos=>ks.isEmpty&&bM (λv n apos=>n==("append" :Str)&&SF v&&apos.endLine==pos.line&&SE e c v&&l1 (SE a c) as) g) x
 | .extend e a,c,x=>dC (λg as ks pos=>ks.isEmpty&&bM (λv n apos=>n==("extend" :Str)&&SF v&&apos.endLine==pos.line&&SE e c v&&l1 (SE a c) as) g) x
 | .get e a,c,x=>dC (λg as ks pos=>ks.isEmpty&&bM (λv n apos=>n==("get" :Str)&&SF v&&apos.endLine==pos.line&&SE e c v&&l1 (SE a c) as) g) x
 | .y b es,c,x=>dC (λg as ks J=>ks.isEmpty&&d1 (λn J=>gn c n&&n==(UM b).1&&as.length==(UM b).2&&TV es c as) g) x
 | .p elt ks it cond,c,x=>gR (λy gs sc J=>l1 (λ(g:QR)=>g.is_async==0&&d1 (λt J=>l1 (λk=>
   (c.vt.all λp=>p.2 !=k||(sc.names.lookup p.1).isNone)&&SE it c g.iter&&SE elt ⟨(t,k)::c.vt,sc⟩ y&&TV cond ⟨(t,k)::c.vt,sc⟩ g.ifs&&decide (g.ifs.length<=1)&&(sc.names.all λx=>x.2 != .cell&&(x.2 != .free||c.sc.names.lookup x.1==QA .cell)&&(x.2 != .local||x.1==t||x.1==(".0" :Str))&&(x.2 != .local||sc.names.lookup x.1==QA .local))&&(c.vt.lookup (".0" :Str)).isNone&&t !=(".0" :Str)&&sc.names.lookup t==QA .local&&sc.kind== .function&&!sc.isGenerator&&!sc.isCoroutine) ks) g.target) gs) x
noncomputable def TV:Es->Cx->List QF->Bool
 | .nil,J,xs=>xs.isEmpty
 | .cons e r,c,xs=>match xs with|x::t=>SE e c x&&TV r c t|[]=>QE
end
noncomputable def tC (f:E->Cx->QF->Bool) (c:Cx):List QF->Es->Bool
 |[],es=>tJ es
 |x::r,es=>bB (λk J J=>zA (λt=>decide (t.length<=1000)) k&&tC f c r es) x||dX (λv cv sp J=>cv== -1&&sp.isNone&&FR es (λe Qp=>f e c v&&tC f c r Qp)) x
noncomputable def yz:S->Nat
 | .ret e=>match e with
  | .none=>1
  | .ff=>2
  |_=>0
 | .e J op e=>match op with
  | .add=>match e with
   | .int i=>if i=1 then 3 else 0
   |_=>0
  |_=>0
 | .raise k es=>match es with
  | .nil=>if k=14 then 4 else 0
  |_=>0
 | .k=>5
 |_=>0
def UX:Ss->Nat
 | .cons s r=>match r with
  | .nil=>yz s
  |_=>0
 | .nil=>0
def xp (x:QF):Bool:=bB (λk J J=>zA (λJ=>QD) k) x
def small (h:Ss) (ks:List Nat) (z:List QI):Bool:=match UX h with
 |0=>QE
 |4=>l1 (λk=>k==2) ks&&l1 (jF λe J J=>dY QE (dC λJ as J J=>l1 xp as) e) z
 |_=>QD
def AB (es:Es) (c:Cx) (m:QF):Bool:=
 iy (λvs J=>decide (2<=vs.length)&&decide (vs.length<=20)&&tC (SE N) c vs es) m||
 bB (λk J J=>zA (λt=>decide (t.length<=1000)) k&&tJ es) m||
 n4 (λl o r J=>bB (λk J J=>k== .str ("entry %d does not follow %d" :Str)) l&&o== .Mod&&iz (λts J J=>l2 (λx y=>FR es λa r=>FR r λb r'=>tJ r'&&SE N a c x&&SE N b c y) ts) r) m
def qe (k:Nat) (c:Cx):QF->Bool:=d1 λn J=>gn c n&&N.cls[k]?==QA n
def Cr (ks:List Nat) (c:Cx) (t:QF):Bool:=l1 (λk=>qe N k c t) ks||l2 (λk k'=>iz (λts J J=>l2 (λx y=>qe N k c x&&qe N k' c y) ts) t) ks
mutual
noncomputable def mc:S->Cx->QI->Bool
 | .a v e,c,x=>fL (λts y q=>l1 (d1 λn p=>W4 c n v&&SE N e c y&&p.line==q.line) ts) x
 | .u vs e,c,x=>fL (λts y J=>l1 (λt=>pZ t&&Zf t vs c&&!pZ y&&SE N e c y) ts) x
 | .A e f v,c,x=>fL (λts y J=>l1 (bM λo n J=>N.attr[f]?==QA n&&SE N v c y&&SE N e c o&&!jz y) ts) x
 | .C e i v,c,x=>fL (λts y J=>l1 (cQ λo k J=>!isSlice k&&SE N v c y&&SE N e c o&&SE N i c k&&!jz y) ts) x
 | .e v op e,c,x=>eE (λt o y J=>d1 (λn J=>W4 c n v&&Y8 op o&&SE N e c y) t) x
 | .B e f op v,c,x=>eE (λt p y J=>bM (λo n J=>N.attr[f]?==QA n&&Y8 op p&&SE N e c o&&SE N v c y) t) x
 | .D e i op v,c,x=>eE (λt p y J=>cQ (λo k J=>!isSlice k&&Y8 op p&&SE N e c o&&SE N i c k&&SE N v c y) t) x
 | .F e i,c,x=>n6 (λts J=>l1 (cQ λo k J=>!isSlice k&&SE N e c o&&SE N i c k) ts) x
 | .expr e,c,x=>xP (λy J=>SE N e c y&&xo y) x
 | .i e a b,c,x=>HN (λt y z J=>SE N e c t&&UY a c y&&UY b c z) x
 | .w e b,c,x=>rP (λt y z J=>SE N e c t&&UY b c y&&z.isEmpty) x
 | .f vs e b,c,x=>Dl (λt i y z J=>SE N e c i&&Zf t vs c&&UY b c y&&z.isEmpty) x
 | .ret e,c,x=>n7 (λy J=>dY (uU e) (SE N e c) y) x
 | .raise k es,c,x=>jF (λe z J=>z.isNone&&dY QE (dC λf as ks J=>ks.isEmpty&&d1 (λn J=>ZO k&&gn c n&&N.cls[k]?==QA n&&l1 (AB N es c) as) f) e) x
 | .XD b ks h,c,x=>Dm (λy hs el fi J=>el.isEmpty&&fi.isEmpty&&l1 (λ
   | .ExceptHandler t n z J=>n.isNone&&UY b c y&&UY h c z&&small h ks z&&(UX h==5||ks.all ZO)&&dY QE (Cr N ks c) t) hs) x
 | .brk,J,x=>rO (λJ=>QD) x
 | .cont,J,x=>jE (λJ=>QD) x
 | .pass,J,x=>xQ (λJ=>QD) x
 | .k,J,J0=>QD
 | .freeze J,J0,J1=>QE
noncomputable def UY:Ss->Cx->List QI->Bool
 | .nil,J,xs=>xs.isEmpty
 | .cons s r,c,xs=>match s with
  | .k=>QD
  | .freeze J=>UY r c xs
  |s=>match xs with
   |x::t=>mc s c x&&UY r c t
   |[]=>QE
end
end
end
section
noncomputable def nm:sQ:={
 fn:=((["write_groups","read_groups","put_varint","read_varint","put_varint32","read_varint32","varint_length","put_fixed32","put_fixed64","read_lengthed","__init__","left","varint","lengthed","flag","done","__init__","varint","lengthed","octet","flag","done","__init__","put","delete","take_op","count","ops","rising","take_count","__init__","row","size","limit_size","__init__","copy","__init__","row","put_ids","take_ids","encode_conf","decode_conf","__init__","__init__","encode","put_maybe","take_maybe","decode_command","make_reply","data_key","session_key","client_of","encode_session","decode_session","__init__","load","mark_durable","put_applied","begin","apply","command_of","do_command","do_effect","session_row","rows","sessions","row","same_maybe","__init__","write","take","sync","is_durable","get","scan","cut","__init__","initial_state","first_index","last_index","entries_between","term_at","set_hard","append","apply_snapshot","create_snapshot","compact","__init__","maybe_first","maybe_last","maybe_term","stable_to","truncate_and_append","part","__init__","first_index","last_index","term","match_term","maybe_append","append","find_conflict","commit_to","applied_to","stable_to","unstable_entries","pending_snapshot","first_unapplied","has_next","next_committed","slice","_law_draw","_law_begin","_law_row","_law_maybe","_law_replay","_law_size","_law_page","_law_agreed","_law_committed","_law_append","_law_store","_law_apply","_law_fold","_law_says","_law_anew","_law_gap","_law_agrees","_law_rest","_law_whole","law"]:List String).map Str.ofString)
 cls:=((["KeepError","StoreError","Corrupt","ShortOctets","BadOption","BatchRefused","RaftError","Compacted","Unavailable","SnapOutOfDate","SnapNotReady","LogGap","LogPanic","ServeError","BadCommand","AppliedGap","Cursor","Sink","WriteBatch","Entry","HardState","ConfState","Snapshot","Command","Machine","MemStore","MemoryStorage","Unstable","RaftLog"]:List String).map Str.ofString)
 attr:=((["data","at","parts","rows","weight","term","index","kind","vote","commit","voters","learners","outgoing","learners_next","auto_leave","conf","client","number","key","value","expect","store","applied","conf_octets","durable","sync_each","now","batches","kept","last","hard","snap","base_index","base_term","entries","snapshot","offset","storage","max_committed","unstable","committed"]:List String).map Str.ofString)
 U0:=((["left","take_op","varint","size","flag","done","lengthed","octet","get","mark_durable","is_durable","put","put_applied","write","command_of","do_command","session_row","do_effect","delete","scan","rows","sessions","count","take","ops","sync","copy","last_index","first_index","term_at","maybe_term","part","maybe_first","maybe_last","term","match_term","find_conflict","append","commit_to","truncate_and_append","stable_to","empty","pending_snapshot","first_unapplied","has_next","slice","entries_between","encode","maybe_append","unstable_entries","set_hard","next_committed","row","apply","applied_to","create_snapshot","compact","load","cut","initial_state","apply_snapshot","begin"]:List String).map Str.ofString)
 glob:=((["MAX_32","MAX_64","KIND_DELETE","KIND_VALUE","MAX_SEQ","BATCH_HEAD","NONE","ENTRY_CONF","CMD_NONE","CMD_PUT","CMD_DELETE","CMD_CAS","CMD_OPEN","CMD_CLOSE","REPLY_OK","REPLY_NO","REPLY_UNKNOWN","REPLY_STALE","APPLIED_KEY","DATA_HEAD","DATA_END","SESSION_HEAD","SESSION_END"]:List String).map Str.ofString)
 str:=((["first","client","applied","commit","now","most","ever","term","first_term","stored","hard","told","safe","base"]:List String).map Str.ofString)}
end
section
set_option tactic.hygienic true
theorem a2 {a b:Bool} (h:(a&&b)=QD):a=QD/\b=QD:=by
 cases a
 ·exact SP h
 ·exact⟨rfl,h⟩
theorem a3 {a b c:Bool} (h:(a&&b&&c)=QD):a=QD/\b=QD/\c=QD:=⟨(a2 (a2 h).1).1,(a2 (a2 h).1).2,(a2 h).2⟩
theorem a4 {a b c d:Bool} (h:(a&&b&&c&&d)=QD):a=QD/\b=QD/\c=QD/\d=QD:=⟨(a3 (a2 h).1).1,(a3 (a2 h).1).2.1,(a3 (a2 h).1).2.2,(a2 h).2⟩
theorem a5 {a b c d e:Bool} (h:(a&&b&&c&&d&&e)=QD):a=QD/\b=QD/\c=QD/\d=QD/\e=QD:=⟨(a4 (a2 h).1).1,(a4 (a2 h).1).2.1,(a4 (a2 h).1).2.2.1,(a4 (a2 h).1).2.2.2,(a2 h).2⟩
theorem a6 {a b c d e f:Bool} (h:(a&&b&&c&&d&&e&&f)=QD):a=QD/\b=QD/\c=QD/\d=QD/\e=QD/\f=QD:=⟨(a5 (a2 h).1).1,(a5 (a2 h).1).2.1,(a5 (a2 h).1).2.2.1,(a5 (a2 h).1).2.2.2.1,(a5 (a2 h).1).2.2.2.2,(a2 h).2⟩
theorem o2 {a b:Bool} {T:Prop} (h:(a||b)=QD) (k:a=QD->T) (k':b=QD->T):T:=by
 cases a
 ·exact k' h
 ·exact k rfl
theorem de [d:Decidable p] (h:decide p=QD):p:=of_decide_eq_true h
theorem nt {b:Bool} (h:(!b)=QD):b=QE:=by
 cases b
 ·rfl
 ·exact SP h
theorem nP (h:xs.isEmpty=QD):xs=[]:=List.isEmpty_iff.mp h
@[elab_as_elim]theorem u1 {α:Type} {T:List α->Prop} {g:α->Bool} (xs:List α) (h:l1 g xs=QD) (k: ∀x,g x=QD->T [x]):T xs:=
 @List.casesOn α (λxs=>l1 g xs=QD->T xs) xs (λh=>SP h) (λx r h=>nP (a2 h).2▸k x (a2 h).1) h
@[elab_as_elim]theorem u2 {α:Type} {T:List α->Prop} {g:α->α->Bool} (xs:List α) (h:l2 g xs=QD) (k: ∀x y,g x y=QD->T [x,y]):T xs:=
 @List.casesOn α (λxs=>l2 g xs=QD->T xs) xs (λh=>SP h) (λx r h=>u1 (T:=λr=>T (x::r)) r h λy h=>k x y h) h
@[elab_as_elim]theorem up {T:Option QF->Prop} {b:Bool} {f:QF->Bool} (o:Option QF) (h:dY b f o=QD) (k:b=QD->T QC) (k': ∀x,f x=QD->T (QA x)):T o:=
 @Option.casesOn QF (λo=>dY b f o=QD->T o) o k k' h
theorem tK (h:uU e=QD):e= .none:=by
 rcases e<;>first|rfl|exact SP h
theorem lB {e:Es} (h:tJ e=QD):e= .nil:=by
 rcases e<;>first|rfl|exact SP h
theorem zQ (h:Eu g e=QD): ∃n,e= .str n/\g n=QD:=by
 rcases e<;>first|exact SP h|exact⟨_,rfl,h⟩
theorem nF (h:zA g k=QD): ∃n,k= .str n/\g n=QD:=by
 rcases k<;>first|exact SP h|exact⟨_,rfl,h⟩
theorem rC {es:Es} {g:E->Es->Bool} (h:FR es g=QD): ∃e r,es= .cons e r/\g e r=QD:=by
 rcases es<;>first|exact SP h|exact⟨_,_,rfl,h⟩
theorem yO (h:(o.map Const.str==QA k)=QD): ∃s,o=QA s/\k= .str s:=by
 have h:=eq_of_beq h
 cases o with
 |none=>cases h
 |some s=>exact⟨s,rfl,(iN h).symm⟩
theorem jc (h:Y8 op o=QD):o=rX op:=eq_of_beq h
theorem gM {op:CO} (h:Qn op o=QD):o=Cw op:=eq_of_beq h
theorem i3 (h:isVar c n v=QD):(n==("__debug__" :Str))=QE/\(n==("__classdict__" :Str))=QE:=⟨nt (a4 h).2.2.1,nt (a4 h).2.2.2⟩
theorem dA (h:isVar c n x=QD):c.vt.lookup n=QA x:=eq_of_beq (a4 h).2.1
theorem WU (h:W4 c n x=QD):isVar c n x=QD/\(c.sc.names.lookup n=QA .local\/c.sc.names.lookup n=QA .cell):=by
 refine⟨(a2 h).1,?_⟩
 have h:=(a2 h).2
 revert h
 rcases c.sc.names.lookup n with _|k
 ·exact λh=>SP h
 ·rcases k<;>first|exact λJ=> .inl rfl|exact λJ=> .inr rfl|exact λh=>SP h
theorem bK (h:gn c n=QD):c.sc.names.lookup n=QA .globalImplicit/\(n==("__debug__" :Str))=QE:=⟨eq_of_beq (a2 h).1,nt (a2 h).2⟩
section
variable {T:QF->Prop} {es Qp:Es}
theorem jR (x:QF) (h:bB (λk J J=>k==k0) x=QD) (k: ∀t pos,T (.Constant k0 t pos)):T x:=
 dk x h λv t pos h=>eq_of_beq h▸k t pos
@[elab_as_elim]theorem Bg (x:QF) (h:bB (λk J J=>k==k0) x=QD) (k: ∀t pos,T (.Constant k0 t pos)):T x:=jR x h k
@[elab_as_elim]theorem tF (x:QF) (h:SE N .none c x=QD) (k: ∀t pos,T (.Constant .none t pos)):T x:=jR x h k
@[elab_as_elim]theorem EO (x:QF) (h:SE N .tt c x=QD) (k: ∀t pos,T (.Constant (.bool QD) t pos)):T x:=jR x h k
@[elab_as_elim]theorem BM (x:QF) (h:SE N .ff c x=QD) (k: ∀t pos,T (.Constant (.bool QE) t pos)):T x:=jR x h k
@[elab_as_elim]theorem CS (x:QF) (h:SE N (.str n) c x=QD) (k: ∀s t pos,N.str[n]?=QA s->T (.Constant (.str s) t pos)):T x:=
 dk x h λv t pos h=>aU (yO h) λs a b=>b▸k s t pos a
@[elab_as_elim]theorem CP {b:List UInt8} (x:QF) (h:SE N (.RT b) c x=QD) (k: ∀t pos,b.length<=1000->T (.Constant (.bytes b) t pos)):T x:=
 dk x h λv t pos h=>eq_of_beq (a2 h).1▸k t pos (de (a2 h).2)
@[elab_as_elim]theorem xe {i:Int} (x:QF) (h:SE N (.int i) c x=QD) (k: ∀t pos,T (.Constant (.int i) t pos)) (k': ∀t pos p',i<0->T (.UnaryOp .USub (.Constant (.int (-i)) t pos) p')):T x:=
 o2 h (λh=>jR x h k) λh=>qR x h λo y p' h=>eq_of_beq (a3 h).1▸jR (T:=λy=>T (.UnaryOp .USub y p')) y (a3 h).2.2 λt pos=>k' t pos p' (de (a3 h).2.1)
@[elab_as_elim]theorem CV (x:QF) (h:SE N (.v v) c x=QD) (k: ∀n pos,isVar c n v=QD->T (.Name n pos)):T x:=gC x h k
@[elab_as_elim]theorem Ah (x:QF) (h:SE N (.g g) c x=QD) (k: ∀n pos,c.sc.names.lookup n=QA .globalImplicit->(n==("__debug__" :Str))=QE->N.glob[g]?=QA n->T (.Name n pos)):T x:=
 gC x h λn pos h=>k n pos (bK (a2 h).1).1 (bK (a2 h).1).2 (eq_of_beq (a2 h).2)
@[elab_as_elim]theorem Ae (x:QF) (h:SE N (.t e f) c x=QD) (k: ∀v n pos,N.attr[f]?=QA n->SF v=QD->SE N e c v=QD->T (.Attribute v n pos)):T x:=
 fP x h λv n pos h=>k v n pos (eq_of_beq (a3 h).1) (a3 h).2.1 (a3 h).2.2
@[elab_as_elim]theorem CN (x:QF) (h:SE N (.b op e e') c x=QD) (k: ∀l o r pos,Y8 op o=QD->SE N e c l=QD->SE N e' c r=QD->T (.BinOp l o r pos)):T x:=
 sI x h λl o r pos h=>k l o r pos (a3 h).1 (a3 h).2.1 (a3 h).2.2
@[elab_as_elim]theorem xf (x:QF) (h:SE N (.not e) c x=QD) (k: ∀v pos,SE N e c v=QD->T (.UnaryOp .Not v pos)):T x:=
 qR x h λo v pos h=>eq_of_beq (a2 h).1▸k v pos (a2 h).2
@[elab_as_elim]theorem xd {op:CO} (x:QF) (h:SE N (.c op e e') c x=QD) (k: ∀l o r pos,Qn op o=QD->SE N e c l=QD->SE N e' c r=QD->T (.Compare l [o] [r] pos)):T x:=
 qO x h λl os a pos h=>u1 (T:=λos=>T (.Compare l os a pos)) os (a3 h).1 λo b=>u1 (T:=λa=>T (.Compare l [o] a pos)) a (a3 h).2.2 λr d=>k l o r pos b (a3 h).2.1 d
@[elab_as_elim]theorem tE {o1 o2:CO} (x:QF) (h:SE N (.d o1 o2 e e' d) c x=QD) (k: ∀l p q r s pos,Qn o1 p=QD->Qn o2 q=QD->SE N e c l=QD->SE N e' c r=QD->SE N d c s=QD->T (.Compare l [p,q] [r,s] pos)):T x:=
 qO x h λl os a pos h=>u2 (T:=λos=>T (.Compare l os a pos)) os (a3 h).1 λp q b=>u2 (T:=λa=>T (.Compare l [p,q] a pos)) a (a3 h).2.2 λr s f=>k l p q r s pos (a2 b).1 (a2 b).2 (a3 h).2.1 (a2 f).1 (a2 f).2
theorem tV {α:Type} {T:List α->Prop} (vs:List α) (h:(!vs.isEmpty)=QD) (k: ∀v r,T (v::r)):T vs:=
 @List.casesOn α (λvs=>(!vs.isEmpty)=QD->T vs) vs (λh=>SP h) (λv r J=>k v r) h
@[elab_as_elim]theorem xb (x:QF) (h:SE N (.and es) c x=QD) (k: ∀v vs pos,TV N es c (v::vs)=QD->T (.BoolOp .And (v::vs) pos)):T x:=
 uf x h λo vs pos h=>eq_of_beq (a3 h).1▸tV (T:=λvs=>TV N es c vs=QD->T (.BoolOp .And vs pos)) vs (a3 h).2.1 (λv r h=>k v r pos h) (a3 h).2.2
@[elab_as_elim]theorem BN (x:QF) (h:SE N (.or es) c x=QD) (k: ∀v vs pos,TV N es c (v::vs)=QD->T (.BoolOp .Or (v::vs) pos)):T x:=
 uf x h λo vs pos h=>eq_of_beq (a3 h).1▸tV (T:=λvs=>TV N es c vs=QD->T (.BoolOp .Or vs pos)) vs (a3 h).2.1 (λv r h=>k v r pos h) (a3 h).2.2
@[elab_as_elim]theorem CT (x:QF) (h:SE N (.sub e e') c x=QD) (k: ∀v s pos,isSlice s=QE->SE N e c v=QD->SE N e' c s=QD->T (.Subscript v s pos)):T x:=
 eJ x h λv s pos h=>k v s pos (nt (a3 h).1) (a3 h).2.1 (a3 h).2.2
abbrev rW (N:sQ) (e:E) (c:Cx) (l:Option QF):Bool:=dY (uU e) (SE N e c) l
theorem eU (h:o.isNone=QD):o=QC:=by
 rcases o with _|_
 ·rfl
 ·exact SP h
@[elab_as_elim]theorem xg (x:QF) (h:SE N (.l e e' d) c x=QD) (k: ∀v l r q pos,SE N e c v=QD->rW N e' c l=QD->rW N d c r=QD->T (.Subscript v (.Slice l r QC q) pos)):T x:=
 eJ x h λv s pos h=>DF (T:=λs=>T (.Subscript v s pos)) s h λl r st q h=>eU (a4 h).2.2.2▸k v l r q pos (a4 h).1 (a4 h).2.1 (a4 h).2.2.1
@[elab_as_elim]theorem CU (x:QF) (h:SE N (.tup es) c x=QD) (k: ∀vs q pos,vs.length<=1000->TV N es c vs=QD->T (.Tuple vs q pos)):T x:=
 l7 x h λvs q pos h=>k vs q pos (de (a2 h).1) (a2 h).2
@[elab_as_elim]theorem Ai {b:Bool} (x:QF) (h:SE N (.list b es) c x=QD) (k: ∀vs pos,vs.length<=1000->TV N es c vs=QD->T (.List vs pos)):T x:=
 Ft x h λvs pos h=>k vs pos (de (a2 h).1) (a2 h).2
@[elab_as_elim]theorem Ag (x:QF) (h:SE N (.dict es Qp) c x=QD) (k: ∀xs ys pos,Vx N es xs=QD->xs.length<=15->xs.length=ys.length->TV N Qp c ys=QD->T (.Dict xs ys pos)):T x:=
 Fs x h λxs ys pos h=>k xs ys pos (a4 h).1 (de (a4 h).2.1) (eq_of_beq (a4 h).2.2.1) (a4 h).2.2.2
theorem oQ {g:Str->List QF->Pos->Bool} (x:QF) (h:dC (λf as ks pos=>ks.isEmpty&&d1 (λn J=>g n as pos) f) x=QD) (k: ∀n np as pos,g n as pos=QD->T (.Call (.Name n np) as [] pos)):T x:=
 B2 x h λf as ks pos h=>nP (a2 h).1▸gC (T:=λf=>T (.Call f as [] pos)) f (a2 h).2 λn np h=>k n np as pos h
theorem yY {g:QF->Str->Pos->List QF->Pos->Bool} (x:QF) (h:dC (λf as ks pos=>ks.isEmpty&&bM (λv n np=>g v n np as pos) f) x=QD) (k: ∀v n np as pos,g v n np as pos=QD->T (.Call (.Attribute v n np) as [] pos)):T x:=
 B2 x h λf as ks pos h=>nP (a2 h).1▸fP (T:=λf=>T (.Call f as [] pos)) f (a2 h).2 λv n np h=>k v n np as pos h
@[elab_as_elim]theorem Af (x:QF) (h:SE N (.call f es) c x=QD) (k: ∀n np as pos,c.sc.names.lookup n=QA .globalImplicit->(n==("__debug__" :Str))=QE->Wd.contains f=QD->N.fn[f]?=QA n->TV N es c as=QD->T (.Call (.Name n np) as [] pos)):T x:=
 oQ x h λn np as pos h=>k n np as pos (bK (a4 h).1).1 (bK (a4 h).1).2 (a4 h).2.1 (eq_of_beq (a4 h).2.2.1) (a4 h).2.2.2
@[elab_as_elim]theorem CR {b:Bool} (x:QF) (h:SE N (.new f b es) c x=QD) (k: ∀n np as pos,c.sc.names.lookup n=QA .globalImplicit->(n==("__debug__" :Str))=QE->N.cls[f]?=QA n->TV N es c as=QD->T (.Call (.Name n np) as [] pos)):T x:=
 oQ x h λn np as pos h=>k n np as pos (bK (a3 h).1).1 (bK (a3 h).1).2 (eq_of_beq (a3 h).2.1) (a3 h).2.2
@[elab_as_elim]theorem EN {b:BI} (x:QF) (h:SE N (.y b es) c x=QD) (k: ∀np as pos,c.sc.names.lookup (UM b).1=QA .globalImplicit->as.length=(UM b).2->TV N es c as=QD->T (.Call (.Name (UM b).1 np) as [] pos)):T x:=
 oQ x h λn np as pos h=>(eq_of_beq (a4 h).2.1:n=(UM b).1)▸k np as pos ((eq_of_beq (a4 h).2.1:n=(UM b).1)▸(bK (a4 h).1).1) (eq_of_beq (a4 h).2.2.1) (a4 h).2.2.2
@[elab_as_elim]theorem Aj (x:QF) (h:SE N (.m e m es) c x=QD) (k: ∀v n apos as pos,N.U0[m]?=QA n->as.length<20->SF v=QD->(apos.endLine==pos.line)=QD->SE N e c v=QD->TV N es c as=QD->T (.Call (.Attribute v n apos) as [] pos)):T x:=
 yY x h λv n apos as pos h=>k v n apos as pos (eq_of_beq (a6 h).1) (de (a6 h).2.1) (a6 h).2.2.1 (a6 h).2.2.2.1 (a6 h).2.2.2.2.1 (a6 h).2.2.2.2.2
theorem sJ {s:Str} (x:QF) (h:dC (λg as ks pos=>ks.isEmpty&&bM (λv n apos=>n==s&&SF v&&apos.endLine==pos.line&&SE N e c v&&l1 (SE N e' c) as) g) x=QD) (k: ∀v apos y pos,SF v=QD->(apos.endLine==pos.line)=QD->SE N e c v=QD->SE N e' c y=QD->T (.Call (.Attribute v s apos) [y] [] pos)):T x:=
 yY (g:=λv n apos as pos=>n==s&&SF v&&apos.endLine==pos.line&&SE N e c v&&l1 (SE N e' c) as) x h λv n apos as pos h=>eq_of_beq (a5 h).1▸u1 (T:=λas=>T (.Call (.Attribute v n apos) as [] pos)) as (a5 h).2.2.2.2 λy a=>(eq_of_beq (a5 h).1:n=s)▸k v apos y pos (a5 h).2.1 (a5 h).2.2.1 (a5 h).2.2.2.1 a
@[elab_as_elim]theorem uQ (x:QF) (h:SE N (.append e e') c x=QD) (k: ∀v apos y pos,SF v=QD->(apos.endLine==pos.line)=QD->SE N e c v=QD->SE N e' c y=QD->T (.Call (.Attribute v ("append" :Str) apos) [y] [] pos)):T x:=sJ x h k
@[elab_as_elim]theorem uR (x:QF) (h:SE N (.extend e e') c x=QD) (k: ∀v apos y pos,SF v=QD->(apos.endLine==pos.line)=QD->SE N e c v=QD->SE N e' c y=QD->T (.Call (.Attribute v ("extend" :Str) apos) [y] [] pos)):T x:=sJ x h k
@[elab_as_elim]theorem CQ (x:QF) (h:SE N (.get e e') c x=QD) (k: ∀v apos y pos,SF v=QD->(apos.endLine==pos.line)=QD->SE N e c v=QD->SE N e' c y=QD->T (.Call (.Attribute v ("get" :Str) apos) [y] [] pos)):T x:=sJ x h k
theorem jG (h:TV N (.cons e es) c xs=QD): ∃x r,xs=x::r/\SE N e c x=QD/\TV N es c r=QD:=by
 rcases xs with _|⟨x,r⟩
 ·exact SP h
 ·exact⟨x,r,rfl,a2 h⟩
theorem gu (h:TV N .nil c xs=QD):xs=[]:=nP h
end
section
variable {T:QI->Prop} {es:Es}
theorem ug {g:QF->QF->Pos->Bool} (x:QI) (h:fL (λts y q=>l1 (λt=>g t y q) ts) x=QD) (k: ∀t y q,g t y q=QD->T (.Assign [t] y q)):T x:=
 Bl x h λts y q h=>u1 (T:=λts=>T (.Assign ts y q)) ts h λt h=>k t y q h
@[elab_as_elim]theorem mW (x:QI) (h:mc N (.a v e) c x=QD) (k: ∀n p y q,W4 c n v=QD->SE N e c y=QD->(p.line==q.line)=QD->T (.Assign [.Name n p] y q)):T x:=
 ug x h λt y q h=>gC (T:=λt=>T (.Assign [t] y q)) t h λn p h=>k n p y q (a3 h).1 (a3 h).2.1 (a3 h).2.2
@[elab_as_elim]theorem uS {vs:List Nat} (x:QI) (h:mc N (.u vs e) c x=QD) (k: ∀ts t q y pos,Zf (.Tuple ts t q) vs c=QD->pZ y=QE->SE N e c y=QD->T (.Assign [.Tuple ts t q] y pos)):T x:=
 ug (g:=λt y J=>pZ t&&Zf t vs c&&!pZ y&&SE N e c y) x h λt y pos h=>l7 (T:=λt=>Zf t vs c=QD->T (.Assign [t] y pos)) t (a4 h).1 (λts u q J h'=>k ts u q y pos h' (nt (a4 h).2.2.1) (a4 h).2.2.2) (a4 h).2.1
@[elab_as_elim]theorem rH (x:QI) (h:mc N (.A e f e') c x=QD) (k: ∀o n p y q,N.attr[f]?=QA n->SE N e' c y=QD->SE N e c o=QD->jz y=QE->T (.Assign [.Attribute o n p] y q)):T x:=
 ug x h λt y q h=>fP (T:=λt=>T (.Assign [t] y q)) t h λo n p h=>k o n p y q (eq_of_beq (a4 h).1) (a4 h).2.1 (a4 h).2.2.1 (nt (a4 h).2.2.2)
@[elab_as_elim]theorem rI (x:QI) (h:mc N (.C e e' d) c x=QD) (k: ∀o i p y q,isSlice i=QE->SE N d c y=QD->SE N e c o=QD->SE N e' c i=QD->jz y=QE->T (.Assign [.Subscript o i p] y q)):T x:=
 ug x h λt y q h=>eJ (T:=λt=>T (.Assign [t] y q)) t h λo i p h=>k o i p y q (nt (a5 h).1) (a5 h).2.1 (a5 h).2.2.1 (a5 h).2.2.2.1 (nt (a5 h).2.2.2.2)
@[elab_as_elim]theorem mX (x:QI) (h:mc N (.e v op e) c x=QD) (k: ∀n p o y q,W4 c n v=QD->Y8 op o=QD->SE N e c y=QD->T (.AugAssign (.Name n p) o y q)):T x:=
 iH x h λt o y q h=>gC (T:=λt=>T (.AugAssign t o y q)) t h λn p h=>k n p o y q (a3 h).1 (a3 h).2.1 (a3 h).2.2
@[elab_as_elim]theorem rD (x:QI) (h:mc N (.B e f op e') c x=QD) (k: ∀o n p t y q,N.attr[f]?=QA n->Y8 op t=QD->SE N e c o=QD->SE N e' c y=QD->T (.AugAssign (.Attribute o n p) t y q)):T x:=
 iH x h λt z y q h=>fP (T:=λt=>T (.AugAssign t z y q)) t h λo n p h=>k o n p z y q (eq_of_beq (a4 h).1) (a4 h).2.1 (a4 h).2.2.1 (a4 h).2.2.2
@[elab_as_elim]theorem rE (x:QI) (h:mc N (.D e e' op d) c x=QD) (k: ∀o i p t y q,isSlice i=QE->Y8 op t=QD->SE N e c o=QD->SE N e' c i=QD->SE N d c y=QD->T (.AugAssign (.Subscript o i p) t y q)):T x:=
 iH x h λt z y q h=>eJ (T:=λt=>T (.AugAssign t z y q)) t h λo i p h=>k o i p z y q (nt (a5 h).1) (a5 h).2.1 (a5 h).2.2.1 (a5 h).2.2.2.1 (a5 h).2.2.2.2
@[elab_as_elim]theorem rF (x:QI) (h:mc N (.F e e') c x=QD) (k: ∀o i p q,isSlice i=QE->SE N e c o=QD->SE N e' c i=QD->T (.Delete [.Subscript o i p] q)):T x:=
 Bm x h λa q h=>u1 (T:=λa=>T (.Delete a q)) a h λt h=>eJ (T:=λt=>T (.Delete [t] q)) t h λo i p h=>k o i p q (nt (a3 h).1) (a3 h).2.1 (a3 h).2.2
@[elab_as_elim]theorem Al (x:QI) (h:mc N (.expr e) c x=QD) (k: ∀y q,SE N e c y=QD->xo y=QD->T (.Expr y q)):T x:=
 Fv x h λy q h=>k y q (a2 h).1 (a2 h).2
@[elab_as_elim]theorem CY (x:QI) (h:mc N (.i e a b) c x=QD) (k: ∀t y z q,SE N e c t=QD->UY N a c y=QD->UY N b c z=QD->T (.If t y z q)):T x:=
 LO x h λt y z q h=>k t y z q (a3 h).1 (a3 h).2.1 (a3 h).2.2
@[elab_as_elim]theorem xh (x:QI) (h:mc N (.w e b) c x=QD) (k: ∀t y q,SE N e c t=QD->UY N b c y=QD->T (.While t y [] q)):T x:=
 DI x h λt y z q h=>nP (a3 h).2.2▸k t y q (a3 h).1 (a3 h).2.1
@[elab_as_elim]theorem CX (x:QI) (h:mc N (.f vs e b) c x=QD) (k: ∀t i y q,SE N e c i=QD->Zf t vs c=QD->UY N b c y=QD->T (.For t i y [] q)):T x:=
 HW x h λt i y z q h=>nP (a4 h).2.2.2▸k t i y q (a4 h).1 (a4 h).2.1 (a4 h).2.2.1
@[elab_as_elim]theorem rG (x:QI) (h:mc N (.ret e) c x=QD) (k: ∀y q,SE N e c y=QD->T (.Return (QA y) q)) (k': ∀q,e= .none->T (.Return QC q)):T x:=
 Bn x h λy q h=>up (T:=λy=>T (.Return y q)) y h (λh=>k' q (tK h)) λy h=>k y q h
@[elab_as_elim]theorem pV (x:QI) (h:mc N (.raise n es) c x=QD) (k: ∀s np m cp q,ZO n=QD->c.sc.names.lookup s=QA .globalImplicit->(s==("__debug__" :Str))=QE->N.cls[n]?=QA s->AB N es c m=QD->T (.Raise (QA (.Call (.Name s np) [m] [] cp)) QC q)):T x:=
 DH x h λe z q h=>eU (a2 h).1▸up (T:=λe=>T (.Raise e QC q)) e (a2 h).2 (λh=>SP h) λe h=>oQ (g:=λs as J=>ZO n&&gn c s&&N.cls[n]?==QA s&&l1 (AB N es c) as) (T:=λe=>T (.Raise (QA e) QC q)) e h λs np as cp h=>
  u1 (T:=λas=>T (.Raise (QA (.Call (.Name s np) as [] cp)) QC q)) as (a4 h).2.2.2 λm a=>k s np m cp q (a4 h).1 (bK (a4 h).2.1).1 (bK (a4 h).2.1).2 (eq_of_beq (a4 h).2.2.1) a
@[elab_as_elim]theorem CZ (x:QI) (h:mc N (.XD a ks b) c x=QD) (k: ∀y t z hp q,UY N a c y=QD->UY N b c z=QD->small b ks z=QD->(UX b==5||ks.all ZO)=QD->Cr N ks c t=QD->T (.Try y [.ExceptHandler (QA t) QC z hp] [] [] q)):T x:=
 HX x h λy d el fi q h=>nP (a3 h).1▸nP (a3 h).2.1▸u1 (T:=λd=>T (.Try y d [] [] q)) d (a3 h).2.2 λx h=>by
  cases x with|ExceptHandler t n z hp=>exact eU (a6 h).1▸up (T:=λt=>T (.Try y [.ExceptHandler t QC z hp] [] [] q)) t (a6 h).2.2.2.2.2 (λh=>SP h) λt e=>k y t z hp q (a6 h).2.1 (a6 h).2.2.1 (a6 h).2.2.2.1 (a6 h).2.2.2.2.1 e
@[elab_as_elim]theorem CW (x:QI) (h:mc N .brk c x=QD) (k: ∀q,T (.Break q)):T x:=DG x h λq J=>k q
@[elab_as_elim]theorem Ak (x:QI) (h:mc N .cont c x=QD) (k: ∀q,T (.Continue q)):T x:=vA x h λq J=>k q
@[elab_as_elim]theorem Am (x:QI) (h:mc N .pass c x=QD) (k: ∀q,T (.Pass q)):T x:=Fw x h λq J=>k q
theorem qh (h:UY N .nil c xs=QD):xs=[]:=nP h
noncomputable def jQ:S->Bool
 | .k=>QE
 | .freeze J=>QE
 |_=>QD
theorem nj (hs:jQ s=QD) (h:UY N (.cons s b) c xs=QD): ∃x t,xs=x::t/\mc N s c x=QD/\UY N b c t=QD:=by
 have a: ∀{g:QI->Bool} {d:List QI->Bool} {xs:List QI},(match xs with|x::t=>g x&&d t|[]=>QE)=QD-> ∃x t,xs=x::t/\g x=QD/\d t=QD:=λ{g d xs} h=>by
  rcases xs with _|⟨x,t⟩
  ·exact SP h
  ·exact⟨x,t,rfl,a2 h⟩
 rcases s<;>first|exact SP hs|exact a h
theorem jb (hs:jQ s=QD) (h:UY N (.cons s .nil) c xs=QD): ∃x,xs=[x]/\mc N s c x=QD:=by
 refine dM (nj hs h) λx t a b d=>?_;subst a
 cases qh d
 exact⟨x,rfl,b⟩
end
section
def SK (s:S):Nat->Prop
 |1=>s= .ret .none
 |2=>s= .ret .ff
 |3=> ∃v,s= .e v .add (.int 1)
 |4=>s= .raise 14 .nil
 |5=>s= .k
 |0=>True
 |_=>False
theorem qx (s:S):SK s (yz s):=by
 rcases s<;>try exact trivial
 ·rename_i v op e
  rcases op<;>try exact trivial
  rcases e<;>try exact trivial
  rename_i i
  by_cases a:i=1
  ·subst a;exact⟨v,rfl⟩
  ·show SK _ (if i=1 then 3 else 0)
   rw[L4 a];exact trivial
 ·rename_i e
  rcases e<;>first|exact trivial|exact rfl
 ·rename_i k es
  rcases es<;>try exact trivial
  by_cases b:k=14
  ·subst b;exact rfl
  ·show SK _ (if k=14 then 4 else 0)
   rw[L4 b];exact trivial
 ·exact rfl
theorem BL (e:UX h=n+1): ∃s,h= .cons s .nil/\yz s=n+1:=by
 rcases h with _|⟨s,_|⟨_,_⟩⟩
 ·cases e
 ·exact⟨s,rfl,e⟩
 ·cases e
end
end
section
open PySem.W PySem.Calls PyProof.Rows
structure Gt where
 prog:QX
 w:QW
 base:QM
 K:Frag
 cls:Nat->QK
 W9:Nat->QK
 os:Q0
 gens:Array QY
abbrev cy:=List (QK×Obj)
structure Ld where
 am:List QK
 fz:cy
structure Ld.le (a b:Ld):Prop where
 am:a.am<+:b.am
 fz: ∀p∈a.fz,p∈b.fz
theorem Ld.le.refl (a:Ld):a.le a:=⟨MG _,λJ h=>h⟩
theorem Ld.le.trans {a b c:Ld} (x:a.le b) (y:b.le c):a.le c:=⟨x.am.trans y.am,λp h=>y.fz p (x.fz p h)⟩
section
variable (G:Gt) (w:Ld)
class inductive WN (R:V->QG->Prop):List V->List QG->Prop
 |nil:WN R [] []
 |cons {v:V} {x:QG} {vs:List V} {xs:List QG}:R v x->WN R vs xs->WN R (v::vs) (x::xs)
class inductive ZG (R:V->QG->Prop):List (Nat×V)->List QJ->Prop
 |nil:ZG R [] []
 |cons {k:Nat} {s:Str} {t:Tok} {v:V} {x:QG} {fs:List (Nat×V)} {es:List QJ}:nm.attr[k]?=QA s->R v x->ZG R fs es->ZG R ((k,v)::fs) (⟨PyData.keyHash G.w.params s,.str s t,x⟩::es)
class inductive RO:V->QG->Prop
 |none:RO .none .none
 |bool (b:Bool):RO (.bool b) (.bool b)
 |int (i:Int) (t:Tok):RO (.int i) (.int i t)
 |str {n:Nat} {s:Str} (t:Tok):nm.str[n]?=QA s->RO (.str n) (.str s t)
 |RT (b:List UInt8) (t:Tok):b.length<=2000000->RO (.RT b) (.bytes b.toArray t)
 |tup {a:QK} {xs:List QG} {n:Nat} {vs:List V}:(a,({cls:= .type "tuple",data:= .seq xs.toArray n}:Obj))∈w.fz->WN RO vs xs->vs.length<=2000000->RO (.tup vs) (.ref a)
 |list {a:QK} {xs:List QG} {n:Nat} {vs:List V}:(a,listOf xs.toArray n)∈w.fz->WN RO vs xs->vs.length<=2000000->RO (.list vs) (.ref a)
 |Sd {a:QK} {lo hi:Int} {t u v:Tok}:(a,({cls:= .type "range",data:= .fields #[.int lo t,.int hi u,.int 1 v]}:Obj))∈w.fz->(-1000000<lo/\lo<1000000/\ -1000000<hi/\hi<1000000)->RO (.Sd lo hi) (.ref a)
 |U1 {a d:QK} {c n:Nat} {es:List QJ} {fs:List (Nat×V)}:(a,instObj (G.cls c) d)∈w.fz->(d,dictOf es n)∈w.fz->ZG G RO fs es->(∀q∈fs,P.at_ c q.1=QD)->RO (.U1 c fs) (.ref a)
 |ref {i:Nat} {a:QK}:w.am[i]?=QA a->RO (.ref i) (.ref a)
abbrev RP:=WN (RO G w)
abbrev d2:=ZG G (RO G w)
class inductive SI {K:Type} (R:V->K->Prop):List (V×V)->List K->Prop
 |nil:SI R [] []
 |cons {k v:V} {k':K} {r:List (V×V)} {ks:List K}:R k k'->SI R r ks->SI R ((k,v)::r) (k'::ks)
def Wi (v:V) (s:Str):Prop:= ∃n,v= .str n/\nm.str[n]?=QA s
def RI (v:V) (i:Int):Prop:=v= .int i
def RB (v:V) (b:List UInt8):Prop:=v= .RT b
def kz (kvs:List (V×V)) (o:Obj):Prop:= ∃xs,o.ExactDict/\RP G w (kvs.map (·.2)) xs/\(∀p∈kvs,∀n,p.1= .str n->(nm.str[n]?).isSome=QD)/\
 (∀ks,SI Wi kvs ks->o.IsDictOf (strKind G.prog G.w) (ks.zip xs))/\
 (∀ks,SI RI kvs ks->o.IsDictOf (intKind G.prog G.w) (ks.zip xs))/\
 (∀ks,SI RB kvs ks->o.IsDictOf (bytesKind G.prog G.w) (ks.zip xs))
inductive eN:O->QK->cy->Prop
 |inst {a d:QK} {c n:Nat} {fs:List (Nat×V)} {es:List QJ}:d2 G w fs es->(∀q∈fs,P.at_ c q.1=QD)->eN (.inst c fs) a [(a,instObj (G.cls c) d),(d,dictOf es n)]
 |dict {a:QK} {o:Obj} {kvs:List (V×V)}:kz G w kvs o->eN (.dict kvs) a [(a,o)]
 |list {a:QK} {n:Nat} {vs:List V} {xs:List QG}:RP G w vs xs->vs.length<=2000000->eN (.list vs) a [(a,listOf xs.toArray n)]
 |SH {a:QK} {b:List UInt8}:b.length<=2000000->eN (.SH b) a [(a,{cls:= .type "bytearray",data:= .bytearray b.toArray 0})]
 |dead {a:QK}:eN .dead a []
class inductive UB:H->List QK->List cy->Prop
 |nil:UB [] [] []
 |cons {o:O} {a:QK} {b:cy} {Z:H} {am:List QK} {bs:List cy}:eN G w o a b->UB Z am bs->UB (o::Z) (a::am) (b::bs)
end
theorem bE (h:l<+:l') {i:Nat} (e:l[i]?=QA a):l'[i]?=QA a:=by
 obtain⟨r,rfl⟩:=h
 rw[Nj (Ms.mp e).1]
 exact e
section
variable {w w':Ld} (le:w.le w')
include le
mutual
theorem RO.mono {v:V} {x:QG} (h:RO G w v x):RO G w' v x:=by
 cases h with
 |none=>exact .none
 |bool b=>exact .bool b
 |int i t=>exact .int i t
 |str t h=>exact .str t h
 |RT b t h=>exact .RT b t h
 |tup h r b=>exact .tup (le.fz _ h) (RP.mono r) b
 |list h r b=>exact .list (le.fz _ h) (RP.mono r) b
 |Sd h b=>exact .Sd (le.fz _ h) b
 |U1 a c r q=>exact .U1 (le.fz _ a) (le.fz _ c) (d2.mono r) q
 |ref h=>exact .ref (bE le.am h)
theorem RP.mono (h:RP G w vs xs):RP G w' vs xs:=by
 cases h with
 |nil=>exact .nil
 |cons h r=>exact .cons (RO.mono h) (RP.mono r)
theorem d2.mono {fs:List (Nat×V)} {es:List QJ} (h:d2 G w fs es):d2 G w' fs es:=by
 cases h with
 |nil=>exact .nil
 |cons a b r=>exact .cons a (RO.mono b) (d2.mono r)
end
theorem kz.mono (h:kz G w kvs o):kz G w' kvs o:=
 Oh h λxs h=>⟨xs,h.1,h.2.1.mono le,h.2.2⟩
theorem eN.mono (h:eN G w o a b):eN G w' o a b:=by
 cases h with
 |inst h q=>exact .inst (h.mono le) q
 |dict h=>exact .dict (h.mono le)
 |list h b=>exact .list (h.mono le) b
 |SH b=>exact .SH b
 |dead=>exact .dead
theorem UB.mono (h:UB G w Z am bs):UB G w' Z am bs:=by
 induction h with
 |nil=>exact .nil
 |cons a J ih=>exact .cons (a.mono le) ih
end
section
theorem nW (h:RP G w [] xs):xs=[]:=by cases h;rfl
theorem eT (h:RP G w (v::vs) xs): ∃x r,xs=x::r/\RO G w v x/\RP G w vs r:=by cases h;exact⟨_,_,rfl,‹_›,‹_›⟩
@[elab_as_elim]theorem RP.Qo {T:List QG->Prop} {xs:List QG} (h:RP G w [] xs) (k:T []):T xs:=nW h▸k
@[elab_as_elim]theorem RP.XY {T:List QG->Prop} {v:V} {vs:List V} {xs:List QG} (h:RP G w (v::vs) xs) (k: ∀x r,RO G w v x->RP G w vs r->T (x::r)):T xs:=by
 exact dM (eT h) λx r e a b=>(e▸k x r a b)
theorem RP.length (h:RP G w vs xs):vs.length=xs.length:=by
 induction vs generalizing xs with
 |nil=>exact RP.Qo h rfl
 |cons v vs ih=>exact RP.XY h λx r J h=>By (· +1) (ih h)
theorem RP.get (h:RP G w vs xs) {i:Nat} (e:vs[i]?=QA v): ∃x,xs[i]?=QA x/\RO G w v x:=by
 induction vs generalizing xs i with
 |nil=>cases e
 |cons u vs ih=>
  refine RP.XY h λx r a b=>?_
  rcases i with _|i
  ·exact⟨x,rfl,iN e▸a⟩
  ·exact ih b e
theorem RP.append (h:RP G w vs xs) (k:RP G w us ys):RP G w (vs++us) (xs++ys):=by
 induction vs generalizing xs with
 |nil=>exact RP.Qo h k
 |cons v vs ih=>exact RP.XY h λx r a b=> .cons a (ih b)
theorem RP.take (h:RP G w vs xs) (n:Nat):RP G w (vs.take n) (xs.take n):=by
 induction vs generalizing xs n with
 |nil=>exact RP.Qo h (by rw[List.take_nil,List.take_nil];exact .nil)
 |cons v vs ih=>
  refine RP.XY h λx r a b=>?_
  rcases n with _|n
  ·exact .nil
  ·exact .cons a (ih b n)
theorem RP.drop (h:RP G w vs xs) (n:Nat):RP G w (vs.drop n) (xs.drop n):=by
 induction vs generalizing xs n with
 |nil=>exact RP.Qo h (by rw[PH,PH];exact .nil)
 |cons v vs ih=>
  refine RP.XY h λx r b a=>?_
  rcases n with _|n
  ·exact .cons b a
  ·exact ih a n
end
noncomputable def fill (h:QM) (frs:cy):cy:=frs.map λq=>(q.1,(h.get? q.1).getD q.2)
structure St (G:Gt) (w:Ld) (mu:List cy) (pv frs:cy) (L:QK) (m:Str->Option QG) (Z:H) (h:QM):Prop where
 F:Fr G.base L h m
 N:News G.base L h (mu.flatten++(w.fz++(pv++fill h frs)))
 nd:((mu.flatten++(w.fz++(pv++fill h frs))).map (·.1)).Nodup
 os:UB G w Z w.am mu
 sl: ∀q∈frs,∃sl,h.get? q.1=QA {q.2 with slots:=sl}
theorem nQ (h1: ∀q∈frs,∃o,h.get? q.1=QA o) (h2: ∀q∈fill h frs,h'.get? q.1=QA q.2):fill h' frs=fill h frs/\ ∀q∈frs,h'.get? q.1=h.get? q.1:=by
 have key: ∀q∈frs,h'.get? q.1=h.get? q.1:=λq a=>by
  obtain⟨o,b⟩:=h1 q a
  have:=h2 _ (Ml (f:=λq:QK×Obj=>(q.1,(h.get? q.1).getD q.2)) a)
  rw[this,b];rfl
 exact⟨Ng λq a=>by rw[key q a],key⟩
theorem mV:(fill h frs).map (·.1)=frs.map (·.1):=by
 unfold fill;rw[Nz];rfl
theorem St.re (S:St G w mu pv frs L m Z h) (F':Fr G.base L' h' m') (N':News G.base L' h' (SA.flatten++(w'.fz++(pv'++fill h frs))))
  (nd:((SA.flatten++(w'.fz++(pv'++fill h frs))).map (·.1)).Nodup) (os:UB G w' RM w'.am SA):St G w' SA pv' frs L' m' RM h':=by
 obtain⟨e,key⟩:=nQ (h':=h') (frs:=frs) (h:=h) (λq a=>(S.sl q a).elim λsl e=>⟨_,e⟩) (λq a=>(N' q (by simp[a])).1)
 exact⟨F',by rw[e];exact N',by rw[e];exact nd,os,λq a=>by rw[key q a];exact S.sl q a⟩
theorem UB.length (h:UB G w Z am bs):am.length=Z.length/\bs.length=Z.length:=by
 induction h with
 |nil=>exact⟨rfl,rfl⟩
 |cons J J0 ih=>simp[ih.1,ih.2]
theorem UB.get (h:UB G w Z am bs): ∀{i:Nat} {o:O},Z[i]?=QA o-> ∃a b,am[i]?=QA a/\bs[i]?=QA b/\eN G w o a b:=by
 induction h with
 |nil=>intro i o e;simp at e
 |cons c J ih=>
  intro i o e
  cases i with
  |zero=>cases e;exact⟨_,_,rfl,rfl,c⟩
  |succ i=>exact ih (by simpa using e)
theorem UB.snoc (h:UB G w Z am bs) (x:eN G w o a b):UB G w (Z++[o]) (am++[a]) (bs++[b]):=by
 induction h with
 |nil=>exact .cons x .nil
 |cons c J ih=>exact .cons c ih
theorem UB.set (h:UB G w Z am bs): ∀{i:Nat} {a:QK} {o:O} {b:cy},am[i]?=QA a->eN G w o a b->UB G w (Z.set i o) am (bs.set i b):=by
 induction h with
 |nil=>intro i a o b e;simp at e
 |cons c d ih=>
  intro i a o b e x
  cases i with
  |zero=>cases e;exact .cons x d
  |succ i=>exact .cons c (ih (by exact e) x)
theorem qd {mu:List cy} {i:Nat} (e:mu[i]?=QA b) (hp:p∈b):p∈mu.flatten:=List.mem_flatten_of_mem (MQ e) hp
section
variable {mu:List cy}
theorem St.UW (_S:St G w mu pv frs L m Z h) (hp:p∈w.fz):p∈mu.flatten++(w.fz++(pv++fill h frs)):=DO _ (Mp _ hp)
theorem St.Zb {mu:List cy} {i:Nat} (e:mu[i]?=QA b) (hp:p∈b):p∈mu.flatten++r:=Mp _ (qd e hp)
theorem St.WH (_S:St G w mu pv frs L m Z h) {i:Nat} (e:mu[i]?=QA b) (hp:p∈b):p∈mu.flatten++(w.fz++(pv++fill h frs)):=Mp _ (qd e hp)
theorem St.UP (_S:St G w mu pv frs L m Z h) (hp:p∈pv):p∈mu.flatten++(w.fz++(pv++fill h frs)):=DO _ (DO _ (Mp _ hp))
theorem St.look (S:St G w mu pv frs L m Z h) {i:Nat} (ha:w.am[i]?=QA a) (ho:Z[i]?=QA o): ∃b,mu[i]?=QA b/\eN G w o a b:=by
 refine dM (S.os.get ho) λa' b c d e=>?_
 rw[ha] at c;cases c
 exact⟨b,d,e⟩
theorem St.Uy (S:St G w mu pv frs L m Z h) (F':Fr G.base L h' m) (N':News G.base L h' (e++(mu.flatten++(w.fz++(pv++fill h frs)))))
  (hf: ∀p∈e,∀q∈mu.flatten++(w.fz++(pv++fill h frs)),q.1≠p.1) (hn:(e.map (·.1)).Nodup):St G ⟨w.am,e++w.fz⟩ mu pv frs L m Z h':=by
 have g:w.le ⟨w.am,e++w.fz⟩:=⟨MG _,λp a=>DO _ a⟩
 have pm:(e++(mu.flatten++(w.fz++(pv++fill h frs)))).Perm (mu.flatten++((e++w.fz)++(pv++fill h frs))):=by
  rw[LV e]
  exact(Mg _ _ _)
 refine S.re F' (λp a=>N' p (pm.mem_iff.mpr a)) ?_ (S.os.mono g)
 refine(pm.map _).nodup_iff.mp ?_
 rw[Mc,Nh]
 refine⟨hn,S.nd,λx d y f q=>?_⟩
 subst q
 obtain⟨p,a,rfl⟩:=L8.mp d
 exact aU (L8.mp f) λq c b=>(hf p a q c b)
theorem St.Uz (S:St G w mu pv frs L m Z h) (F':Fr G.base L h' m) (N':News G.base L h' (e++(mu.flatten++(w.fz++(pv++fill h frs)))))
  (hf: ∀p∈e,∀q∈mu.flatten++(w.fz++(pv++fill h frs)),q.1≠p.1) (hn:(e.map (·.1)).Nodup) (ho:eN G ⟨w.am++[a],w.fz⟩ o a e):St G ⟨w.am++[a],w.fz⟩ (mu++[e]) pv frs L m (Z++[o]) h':=by
 have i:w.le ⟨w.am++[a],w.fz⟩:=⟨Of _ _,λp b=>b⟩
 have pm:(e++(mu.flatten++(w.fz++(pv++fill h frs)))).Perm ((mu++[e]).flatten++(w.fz++(pv++fill h frs))):=by
  rw[List.flatten_append,OJ,List.flatten_nil,MC,LV]
  exact(Mg _ _ _)
 refine S.re F' (λp b=>N' p (pm.mem_iff.mpr b)) ?_ ((S.os.mono i).snoc ho)
 refine(pm.map _).nodup_iff.mp ?_
 rw[Mc,Nh]
 refine⟨hn,S.nd,λx f y g q=>?_⟩
 subst q
 obtain⟨p,b,rfl⟩:=L8.mp f
 exact aU (L8.mp g) λq d c=>(hf p b q d c)
theorem lh (e:mu[i]?=QA b) (b':cy): ∃x y,mu.flatten=x++b++y/\(mu.set i b').flatten=x++b'++y:=by
 obtain⟨a,e⟩:=Ms.mp e
 refine⟨(mu.take i).flatten,(mu.drop (i+1)).flatten,?_,?_⟩
 ·conv=>lhs;rw[<- Oi i mu,NW a,e]
  simp
 ·rw[List.set_eq_take_append_cons_drop,L6 a]
  simp
theorem St.upd {h':QM} {i:Nat} (S:St G w mu pv frs L m Z h) (ha:w.am[i]?=QA a) (hb:mu[i]?=QA b) (hs:b=pre++(d,ob)::post)
  (hh:Heap.SameBut d h h') (hd:h'.get? d=QA ob') (ho:eN G w o' a (pre++(d,ob')::post)):St G w (mu.set i (pre++(d,ob')::post)) pv frs L m (Z.set i o') h':=by
 subst hs
 refine mf (lh hb (pre++(d,ob')::post)) λx y l n=>?_
 have g:(d,ob)∈mu.flatten++(w.fz++(pv++fill h frs)):=St.Zb hb (DO _ (.head _))
 have Z6:=S.N _ g
 have j:mu.flatten++(w.fz++(pv++fill h frs))=(x++pre)++(d,ob)::(post++y++(w.fz++(pv++fill h frs))):=by rw[l];simp
 have k:(mu.set i (pre++(d,ob')::post)).flatten++(w.fz++(pv++fill h frs))=(x++pre)++(d,ob')::(post++y++(w.fz++(pv++fill h frs))):=by rw[n];simp
 have c:=S.nd
 rw[j] at c
 have N:=S.N
 rw[j] at N
 refine S.re (Fr.update S.F S.N g hh) ?_ ?_ (S.os.set ha ho)
 ·rw[k]
  simp only[Mc,L0,Nh,Mf] at c
  refine News.setAt N (λp e q=>?_) (λp e q=>?_) hh hd
  ·have:=c.2.2 p.1 (by rw[<- Mc];exact Ml e) d (.head _)
   exact this q
  ·refine c.2.1.1 ?_
   have:=Ml (f:=(·.1)) e
   rw[q] at this
   simpa only[Mc] using this
 ·rw[k]
  simpa only[Mc,L0] using c
theorem St.fresh (S:St G w mu pv frs L m Z h) (ha:h.get? a=QC): ∀q∈mu.flatten++(w.fz++(pv++fill h frs)),q.1≠a:=λq b e=>by
 have:=(S.N q b).1
 rw[e,ha] at this;cases this
theorem St.freeze (S:St G w mu pv frs L m Z h) (ha:w.am[i]?=QA a) (hb:mu[i]?=QA b):St G ⟨w.am,b++w.fz⟩ (mu.set i []) pv frs L m (Z.set i .dead) h:=by
 have f:w.le ⟨w.am,b++w.fz⟩:=⟨MG _,λp c=>DO _ c⟩
 refine mf (lh hb []) λx y d e=>?_
 have pm:(mu.flatten++(w.fz++(pv++fill h frs))).Perm ((mu.set i []).flatten++((b++w.fz)++(pv++fill h frs))):=by
  rw[d,e]
  simp only[LV,MC]
  exact Mh x (Mg _ _ _)
 exact S.re S.F (λp c=>S.N p (pm.mem_iff.mpr c)) ((pm.map _).nodup_iff.mp S.nd) ((S.os.mono f).set ha .dead)
end
def Sm (G:Gt) (s:QH):Prop:=s.os=G.os/\s.gens=G.gens
def Sg (G:Gt) (w:Ld) (mu:List cy) (pv frs:cy) (L:QK) (m:Str->Option QG) (Z:H) (s:QH):Prop:=St G w mu pv frs L m Z s.heap/\Sm G s
section
theorem Sg.eq (S:Sg G w mu pv frs L m Z s) (e:(s'.heap,s'.os,s'.gens)=(s.heap,s.os,s.gens)):Sg G w mu pv frs L m Z s':=by
 obtain⟨h,_,d,t,_⟩:=s'
 cases e;exact S
theorem Sg.F (S:Sg G w mu pv frs L m Z s):Fr G.base L s.heap m:=S.1.F
theorem Sg.N (S:Sg G w mu pv frs L m Z s):News G.base L s.heap (mu.flatten++(w.fz++(pv++fill s.heap frs))):=S.1.N
theorem Sg.nd (S:Sg G w mu pv frs L m Z s):((mu.flatten++(w.fz++(pv++fill s.heap frs))).map (·.1)).Nodup:=S.1.nd
theorem Sg.os (S:Sg G w mu pv frs L m Z s):UB G w Z w.am mu:=S.1.os
theorem Sg.UW (S:Sg G w mu pv frs L m Z s) (hp:p∈w.fz):p∈mu.flatten++(w.fz++(pv++fill s.heap frs)):=S.1.UW hp
theorem Sg.WH (S:Sg G w mu pv frs L m Z s) {i:Nat} (e:mu[i]?=QA b) (hp:p∈b):p∈mu.flatten++(w.fz++(pv++fill s.heap frs)):=S.1.WH e hp
theorem Sg.UP (S:Sg G w mu pv frs L m Z s) (hp:p∈pv):p∈mu.flatten++(w.fz++(pv++fill s.heap frs)):=S.1.UP hp
theorem Sg.look (S:Sg G w mu pv frs L m Z s) {i:Nat} (ha:w.am[i]?=QA a) (ho:Z[i]?=QA o): ∃b,mu[i]?=QA b/\eN G w o a b:=S.1.look ha ho
theorem Sg.freeze (S:Sg G w mu pv frs L m Z s) (ha:w.am[i]?=QA a) (hb:mu[i]?=QA b):Sg G ⟨w.am,b++w.fz⟩ (mu.set i []) pv frs L m (Z.set i .dead) s:=⟨S.1.freeze ha hb,S.2⟩
end
noncomputable def vT:BI->QG
 | .len=> .builtin "len" | .min2=> .builtin "min" | .max2=> .builtin "max" | .UQ=> .type "range" | .VP=> .type "range"
 | .sorted=> .builtin "sorted" | .bytes=> .type "bytes" | .W0=> .type "bytearray" | .list=> .type "list" | .tuple=> .type "tuple"
end
section
set_option tactic.hygienic true
open PySem.W PySem.Calls PyProof.Rows
noncomputable abbrev pw:QX:=PySem.Challenge.pw_xm0830_01
theorem qN (t:Thread):(endAt 0 t).isSome=through t:=by
 obtain⟨c,code,pos,b⟩:=t
 cases b with
 |nil=>
  cases c<;>first|rfl|skip
  rename_i f
  cases f<;>rfl
 |cons a r=>
  cases c<;>first|rfl|skip
theorem my {tb:String->Option QP} {p:QX} {w:QW} {n0:Nat} {ann:Option QG}: ∀{n:Nat} {s s':QH} {t:Thread} {f:Q6} {c:Code} {q:Pos},segRun tb p w n0 ann 0 n s t=QA (f,s',c,q)->topRun tb p w n0 ann n s t=QA s':=by
 intro n
 induction n with
 |zero=>exact λh=>by cases h
 |succ n ih=>
  intro s s' t f c q h
  dsimp only[segRun] at h
  unfold topRun
  have e:=qN t
  cases a:endAt 0 t with
  |some x=>
   rw[a] at h e
   rw[<- e]
   cases h;rfl
  |none=>
   rw[a] at h e
   rw[<- e]
   dsimp only[Option.isSome]
   cases b:stepOk n0 ann t with
   |false=>rw[b] at h;cases h
   |true=>
    rw[b] at h
    cases d:step (denote tb) p w s t with
    |halt o g=>rw[d] at h;cases h
    |go g t2=>rw[d] at h;exact ih h
noncomputable def Cg (l:List Obj):BT:=(l.foldl (λ(s:BT×Nat) o=>(s.1.ins s.2 o,s.2+1)) (.nil,0)).1
noncomputable def Xn (w:QW) (os:Q0):SharedT:=⟨Cg (boot_heap w.params).objs.toList,11,(boot_heap w.params).life,Array.mk [],boot_drawn,boot_toks,os⟩
theorem F4 (P:Q7):absHeap (Cg (boot_heap P).objs.toList) 11 (boot_heap P).life=boot_heap P:=by kernel_rfl
noncomputable def look (P:Q7) (s:QH):Bool:=staticsOk (importedModules pw.main.body) (boot_heap P) s.heap&&namesBound pw s.heap&&gensDone s&&laidKept (boot_heap P) s.heap
theorem AK:opening pw=plainProg pw.main.scope.names:=by kernel_rfl
theorem wM (s:QH):fenceModules? pw s=QA s:=by kernel_rfl
theorem Fo (P:Q7) (ann:Option QG) (h:(boot_heap P).nsMap mainGlobals "__annotations__" =ann):((boot_heap P).isNs mainGlobals&&(Array.mk []:Array QY).size==0,(boot_heap P).objs.size,(boot_heap P).nsMap mainGlobals "__annotations__")=(QD,11,ann):=by
 rw[h]
 have e:((boot_heap P).isNs mainGlobals&&(Array.mk []:Array QY).size==0)=QD:=by kernel_rfl
 have a:(boot_heap P).objs.size=11:=by kernel_rfl
 rw[e,a]
theorem Ay {q:QX} {loose:List Str} {Xt:QH->Bool} {α:Type} {Yf:QH->α} {Ya:QW->α} {N:Nat} {g0:Bool} {ann:Option QG} {M:Nat} (aBD: ∀P,(boot_heap P).nsMap mainGlobals "__annotations__" =ann)
  (h: ∀w os,(segRunT treeTable pw w 11 ann 0 M (Xn w os) (topStub pw)).map (λr=>(look w.params r.2.1.abs,openSeen q loose (importedModules pw.main.body) Xt g0 r.2.1.abs,Yf r.2.1.abs))=QA (QD,openGood q loose,Ya w))
  (hN:Nat.ble 600 N=QD) (hM:Nat.ble M N=QD):LeftO pw q loose Xt Yf Ya N g0:=λw=>by
 obtain⟨⟨j,i,d,k,os⟩,e,b⟩:=MV.mp (boot_open AK hN wM w)
 obtain⟨rfl,rfl,rfl,rfl⟩:j=boot_heap w.params/\i=Array.mk []/\d=boot_drawn/\k=boot_toks:=by simpa using b
 obtain⟨⟨f,a,c,p'⟩,m,n⟩:=MV.mp (h w os)
 obtain⟨z1,z2,z3⟩:_/\_/\_:=by simpa only[P6] using Fo w.params ann (aBD _)
 obtain⟨l1,l2,l⟩:_/\_/\_:=by simpa only[P6] using n
 have r:=topRun_mono (N-M) _ _ _ _ (my (segRun_of m))
 rw[show M+(N-M)=N by have:=aT hM;exact SD 0x62092001062092040 rfl (iS (RW 6598143901760 rfl this))] at r
 have g:(Xn w os).abs=⟨boot_heap w.params,Array.mk [],boot_drawn,boot_toks,os⟩:=by
  show(⟨absHeap (Cg (boot_heap w.params).objs.toList) 11 (boot_heap w.params).life,Array.mk [],boot_drawn,boot_toks,os⟩:QH)=_
  rw[F4]
 rw[g] at r
 have t:topFrom treeTable pw w N ⟨boot_heap w.params,Array.mk [],boot_drawn,boot_toks,os⟩=QA a.abs:=by
  delta topFrom
  dsimp only
  rw[z1,z2,z3,r]
  show(match staticsOk (importedModules pw.main.body) (boot_heap w.params) a.abs.heap&&namesBound pw a.abs.heap&&gensDone a.abs&&laidKept (boot_heap w.params) a.abs.heap with|true=>_|false=>_)=_
  rw[show(staticsOk (importedModules pw.main.body) (boot_heap w.params) a.abs.heap&&namesBound pw a.abs.heap&&gensDone a.abs&&laidKept (boot_heap w.params) a.abs.heap)=QD from l1]
 delta openEnds
 rw[e]
 show(topFrom treeTable pw w N _).map _=_
 rw[t]
 exact By QA (Prod.ext l2 l)
end
section
set_option tactic.hygienic true
open PySem.W PySem.Calls PyProof.Rows
noncomputable def zM:List Nat:=[31,44,56,68,80,92,104,116,128,140,152,164,176,188,200,212,379,456,540,610,666,701,771,806,988,1065,1170,1254,1464]
noncomputable def LH:List Nat:=[30,43,55,67,79,91,103,115,127,139,151,163,175,187,199,211,378,455,539,609,665,700,770,805,987,1064,1169,1253,1463]
noncomputable def zW:List Nat:=[221,228,235,242,249,256,263,270,277,298,313,320,327,348,362,376,397,404,425,432,439,453,474,481,488,495,509,530,558,565,579,586,607,621,635,663,684,691,712,719,726,733,747,789,803,817,824,831,838,845,852,859,866,873,887,894,901,908,915,922,929,936,943,957,971,978,985,999,1013,1020,1027,1034,1041,1048,1055,1062,1083,1090,1097,1104,1111,1118,1132,1139,1146,1153,1160,1188,1195,1202,1209,1216,1237,1244,1272,1279,1286,1300,1314,1328,1335,1342,1363,1377,1384,1398,1405,1412,1419,1426,1454,1475,1482,1489,1496,1501,1508,1515,1522,1529,1534,1541,1546,1553,1560,1567,1574,1581,1588,1593,1598]
noncomputable def GU:List Nat:=[220,227,234,241,248,255,262,269,276,297,312,319,326,347,361,375,396,403,424,431,438,452,473,480,487,494,508,529,557,564,578,585,606,620,634,662,683,690,711,718,725,732,746,788,802,816,823,830,837,844,851,858,865,872,886,893,900,907,914,921,928,935,942,956,970,977,984,998,1012,1019,1026,1033,1040,1047,1054,1061,1082,1089,1096,1103,1110,1117,1131,1138,1145,1152,1159,1187,1194,1201,1208,1215,1236,1243,1271,1278,1285,1299,1313,1327,1334,1341,1362,1376,1383,1397,1404,1411,1418,1425,1453,1474,1481,1488,1495,1500,1507,1514,1521,1528,1533,1540,1545,1552,1559,1566,1573,1580,1587,1592,1597]
noncomputable def LN:List (List String):=[["n","most","out"],["data","at","octets","most","n","shift","turn","octet"],["n"],["data","at"],["n"],["data","at"],["n","count"],["n"],["n"],["data","at","count"],["self","data","at"],["self"],["self","at","n"],["self","b","at"],["self","n"],["self"],["self"],["self","n"],["self","b"],["self","n"],["self","b"],["self"],["self"],["self","key","value"],["self","key"],["self","kind","key","value"],["self"],["self"],["ids","out","nid"],["cursor","count"],["self","term","index","kind","data"],["self"],["self","length","head"],["entries","n","total","kept","entry"],["self","term","vote","commit"],["self"],["self","voters","learners","outgoing","learners_next","auto_leave"],["self"],["sink","ids","nid"],["cursor","out","_","nid"],["conf","sink"],["data","cursor","voters","learners","outgoing","learners_next","auto_leave"],["self","index","term","conf","data"],["self","kind","client","number","key","value","expect"],["self","sink"],["sink","octets"],["cursor"],["data","cursor","kind","client","number","key","value","expect"],["code","old","sink"],["key"],["client","low"],["key","client","octet"],["last","is_open","reply","sink"],["data","cursor","last","is_open","reply"],["self","store"],["self","data","index","term","conf_octets","cursor","conf"],["self"],["self","batch","index","term","conf_octets","sink"],["self","index","term","conf","batch","conf_octets"],["self","entry","conf","conf_octets","batch","reply","command"],["self","entry"],["self","command","batch","last","is_open","reply","row"],["self","command","batch","kind","place","old"],["self","client","data"],["self","found","place","value"],["self","found","place","data","last","is_open","reply"],["self"],["a","b"],["self"],["self","batch","sync"],["self","ops","kind","key","value"],["self"],["self"],["self","key"],["self","low","high","snap","found","key"],["self","pick","keep","other","ops"],["self","conf","begin"],["self"],["self"],["self"],["self","lo","hi","limit","first"],["self","i"],["self","hard"],["self","entries","start","k","first"],["self","snapshot"],["self","i","conf","data","term"],["self","i","term"],["self","offset"],["self"],["self"],["self","i"],["self","i","term","found"],["self","entries","after"],["self","lo","hi"],["self","storage","max_committed","first"],["self","i"],["self","i"],["self","i","known"],["self","i","t"],["self","index","log_term","committed","entries","k","newest","conflict"],["self","entries","before"],["self","entries","e"],["self","i"],["self","i"],["self","i","term"],["self"],["self"],["self"],["self"],["self"],["self","lo","hi","limit","offset","found","end"],["nums","i"],["s"],["book","index","term","z","kind","key","word","expect","data"],["word"],["rows","replies","now","seat","term","index","data","ask","reply","kind","number","key","word","expect","code","old",".16"],["number","size"],["book","rows","room","page","row"],["book","m"],["book","to"],["log","book","y","before","rows","j","log_term","index","commit","got",".10"],["log","storage","book","hard_too","waits"],["log","storage","machine","book","hard_too","page","want","entry","reply",".9"],["log","storage","book","y","upto"],["machine","book","index","term","conf","want"],["storage","machine","book","pick","fresh","log"],["machine","book","data","rows","told","index"],["log","machine","book"],["log","storage","machine","book","k"],["storage","machine","book","replies","rows","seat","first","seats","conf","kept",".10",".11",".12"],["script","nums","s","first","term","most","client","conf","storage","log","machine","book","i","x","way","y","right","held","to","both","d",".21"]]
def nL (c:Nat):QK:=zM.getD c 31
def W9 (f:Nat):QK:=zW.getD f 221
def Fu (f:Nat):List Str:=(LN.getD f []).map Str.ofString
abbrev GG (w:QW) (os:Q0) (gens:Array QY) (base:QM) (K:Frag):Gt:={prog:=PySem.Challenge.pw_xm0830_01,w,base,K,cls:=nL,W9,os,gens}
def D8 (d:QK):List QK:=[0,1,2,3,d]++zM++LH++zW++GU
noncomputable def BC (h:QM):QK:=match h.get? 313 with
 |some ⟨J,J0,.func F,J1⟩=>(match F.defaults with| .ref d=>d|_=>0)
 |_=>0
def eY (h:QM):Frag:=(D8 (BC h)).filterMap λa=>(h.get? a).map λo=>(a,o)
noncomputable def Fh (K:Frag) (a:QK) (g:Obj->Bool):Bool:=match K.lookup a with
 |some o=>g o
 |none=>QE
noncomputable def BA (g:FuncData->Bool):Q9->Bool
 | .func F=>g F
 |_=>QE
noncomputable def s9 (g:Array QG->Bool):Q9->Bool
 | .fields vs=>g vs
 |_=>QE
noncomputable def Ep (g:Array QG->Bool):Q9->Bool
 | .seq vs J=>g vs
 |_=>QE
noncomputable def Eo (g:Q1->Bool):Q9->Bool
 | .cls cd=>g cd
 |_=>QE
noncomputable def s8 (d:Q9):Option (Array QJ):=match d with
 | .dict es J=>QA es
 |_=>QC
noncomputable def Bi (g:QK->Bool):QG->Bool
 | .ref a=>g a
 |_=>QE
noncomputable def Bj (g:Str->Bool):QG->Bool
 | .str t J=>g t
 |_=>QE
noncomputable def Bh (g:Int->Bool):QG->Bool
 | .int t J=>g t
 |_=>QE
noncomputable def Fq (g:Array UInt8->Bool):QG->Bool
 | .bytes t J=>g t
 |_=>QE
noncomputable def oV (o:Option QG) (g:QG->Bool):Bool:=match o with
 |some v=>g v
 |none=>QE
def iT (K:Frag) (a:QK):Option (Array QJ):=(K.lookup a).bind λo=>s8 o.data
def BZ (K:Frag) (a:QK) (n:Str):Option QG:=(iT K a).bind λes=>nsFind es n
def AG (K:Frag) (a:QK) (n:Str):Bool:=match iT K a with
 |some es=>es.toList.all (λe=>Bj (λJ=>QD) e.key)&&nsFind es n==QC
 |none=>QE
def wd (K:Frag) (cd:QG) (q:Str):Bool:=Bi (λc=>Fh K c λo=>s9 (λvs=>oV (vs[1]?:Option QG) (Bj (· ==q))) o.data) cd
def Fy (W7:List V):Bool:=l1 (λv=>match v with| .int i=>i==0|_=>QE) W7
def BB (K:Frag) (W7:List V) (np:Nat) (dV:QG):Bool:=(W7.isEmpty&&dV== .none)||
 (Fy W7&&np==3&&Bi (λdt=>Fh K dt λo=>o.cls== .type "tuple" &&o.dict==QC&&o.slots.toList.isEmpty&&Ep (λa=>l1 (Bh (· ==0)) a.toList) o.data) dV)
noncomputable def HS (vs:List Str) (np:Nat) (sc:QV):Bool:=
 (vs.take np).all (λn=>sc.names.lookup n==QA .local||sc.names.lookup n==QA .cell)&&decide ((cellsFrom 0 sc.names []).map (·.1)).Nodup&&
 sc.names.all λx=>x.2 != .cell||((cellsFrom 0 sc.names []).map (·.1)).contains x.1
def BK (K:Frag) (a:QK) (fn:Fn):Bool:=Fh K a λo=>BA (λF=>F.globals==mainGlobals&&F.builtins==builtinsNs&&F.closure.isEmpty&&wd K F.code F.qualname&&BB K fn.W7 fn.np F.defaults) o.data
def wR (K:Frag):Bool:=wQ.zipIdx.all λp=>BK K (W9 p.2) p.1
def y6 (K:Frag) (f:Nat):Option (QZ×Q3×QV):=match K.lookup (W9 f) with
 |some ⟨J,J0,.func F,J1⟩=>QA (F.params,F.body,F.scope)
 |_=>QC
noncomputable def EI (s:QI):Option (QZ×Q3×QV):=if h:s.ctorIdx=0 then PySem.Stmt.FunctionDef.elim s h λJ a body J J J sc J J J=>QA (a,.stmts body,sc) else QC
noncomputable def Bb (q:Nat×Nat):Option (QZ×Q3×QV):=(PySem.Challenge.pw_xm0830_01.main.body[q.1]?).bind λs=>
 if q.2=0 then EI s else if h:s.ctorIdx=2 then PySem.Stmt.ClassDef.elim s h λJ J J b J J J J J J J=>(b[q.2-1]?).bind EI else QC
def LJ (fn:Fn) (vs:List Str) (p:QZ) (b:Q3) (sc:QV):Bool:=match b with
 | .stmts body=>p.posonlyargs.isEmpty&&p.vararg.isNone&&p.kwonlyargs.isEmpty&&p.kw_defaults.isEmpty&&p.kwarg.isNone&&
  (p.args.map (·.arg)==vs.take fn.np&&vs.length==fn.np+fn.nl&&decide vs.Nodup&&sc.kind== .function&&!sc.isCoroutine&&!sc.isGenerator)&&UY nm fn.body ⟨vs.zipIdx,sc⟩ body&&HS vs fn.np sc
 |_=>QE
def Iw (fn:Fn) (vs:List Str) (o:Option (QZ×Q3×QV)):Bool:=match o with
 |some q=>LJ fn vs q.1 q.2.1 q.2.2
 |none=>QE
noncomputable def B1:List (Nat×Nat):=[(21,0),(22,0),(23,0),(24,0),(25,0),(26,0),(27,0),(28,0),(29,0),(32,0),(33,1),(33,2),(33,3),(33,6),(33,8),(33,10),(34,1),(34,2),(34,5),(34,6),(34,7),(34,9),(40,1),(40,2),(40,3),(40,4),(40,6),(40,9),(45,0),(46,0),(47,1),(47,2),(47,5),(48,0),(49,1),(49,5),(50,1),(50,2),(51,0),(52,0),(53,0),(54,0),(55,1),(72,1),(72,3),(73,0),(74,0),(75,0),(76,0),(77,0),(78,0),(79,0),(80,0),(81,0),(82,1),(82,2),(82,3),(82,4),(82,5),(82,6),(82,7),(82,8),(82,9),(82,11),(82,13),(82,14),(82,15),(83,0),(84,1),(84,2),(84,3),(84,4),(84,5),(84,6),(84,7),(84,8),(86,1),(86,2),(86,3),(86,4),(86,5),(86,6),(86,8),(86,9),(86,10),(86,11),(86,12),(87,1),(87,2),(87,3),(87,4),(87,5),(87,8),(87,9),(88,1),(88,2),(88,3),(88,5),(88,7),(88,9),(88,10),(88,11),(88,14),(88,16),(88,17),(88,19),(88,20),(88,21),(88,22),(88,23),(88,27),(90,0),(91,0),(92,0),(93,0),(94,0),(95,0),(96,0),(97,0),(98,0),(99,0),(100,0),(101,0),(102,0),(103,0),(104,0),(105,0),(106,0),(107,0),(108,0),(109,0)]
def iB (p:(Fn×Nat×Nat)×Nat):Bool:=Iw p.1.1 (Fu p.2) (Bb p.1.2)
def gf:List ((Fn×Nat×Nat)×Nat):=(wQ.zip B1).zipIdx
noncomputable def Iy (K:Frag) (A:QK) (g:Q1->Bool):Bool:=match clsIn K A with
 |some cd=>g cd
 |none=>QE
noncomputable def sG (K:Frag):List QG->Bool
 |[]=>QE
 |v::tl=>(v::tl==[.type "Exception",.type "BaseException",.type "object"])||Bi (λA=>Iy K A λcd=>AG K cd.ns "__init__" &&sG K tl) v
noncomputable def GX:List Nat:=[2,7,8,14,15]
def BE (K:Frag) (k:Nat):Bool:=Fh K (nL k) λo=>Eo (λcd=>o.cls== .type "type" &&cd.mro.head?==QA (.ref (nL k))&&!cd.hasDel&&(o.slots.size==6&&o.slots[4]?==QA (QA (.builtin "Exception.__new__")))&&AG K cd.ns "__init__" &&sG K cd.mro.tail&&
   GX.all λj=>cd.mro.contains (.ref (nL j))==P.sub k j) o.data
def Bx (K:Frag) (c:Nat):Bool:=makesIn K (nL c)&&findIn K (.ref (nL c)) "__getattribute__" ==QA (QA (.builtin "object.__getattribute__"))&&findIn K (.ref (nL c)) "__getattr__" ==QA QC&&
 findIn K (.ref (nL c)) "__setattr__" ==QA (QA (.builtin "object.__setattr__"))&&plainOver K (nL c)&&(clsIn K (nL c)).any (·.hasDict)&&
 (nm.attr.zipIdx.all λp=>!P.at_ c p.2||findIn K (.ref (nL c)) p.1==QA QC)&&
 (xO.all λq=>q.1 !=c||(match nm.U0[q.2.1]? with|some s=>findIn K (.ref (nL c)) s==QA (QA (.ref (W9 q.2.2)))|none=>QD))&&
 (xn.all λq=>q.1 !=c||findIn K (.ref (nL c)) "__init__" ==QA (QA (.ref (W9 q.2))))
noncomputable def Kw:List BI:=[.len,.min2,.max2,.UQ,.VP,.sorted,.bytes,.W0,.list,.tuple]
def xa (v:V) (x:Option QG):Bool:=match v with
 | .int i=>oV x (Bh (i== ·))
 | .RT b=>oV x (Fq λa=>a.toList==b&&decide (b.length<=2000000))
 |_=>QE
noncomputable def AF (o:Obj):Bool:=match o.data with
 | .seq J J0=>o.cls== .type "tuple"
 |_=>QD
def t7 (K:Frag):Bool:=K.all (λp=>AF p.2)&&(K.lookup 1).isSome&&AG K 2 "sys.recursionlimit" &&(iT K 3).isSome&&(iT K 0).isSome&&
 (Wd.all λf=>match nm.fn[f]? with|some n=>decide (f<131)&&BZ K 3 n==QA (.ref (W9 f))|none=>QD)&&
 (nm.cls.zipIdx.all λp=>BZ K 3 p.1==QA (.ref (nL p.2)))&&
 (nm.glob.zipIdx.all λp=>match tD[p.2]? with|some v=>xa v (BZ K 3 p.1)|none=>QD)&&
 (zW.all λa=>keepIn K (.ref a)&&typeIn K (.ref a)==QA (.type "function"))&&(zM.all λa=>keepIn K (.ref a))&&
 (attrL.all λp=>Bx K p.1)&&(Kw.all λb=>BZ K 3 (UM b).1==QC&&BZ K 0 (UM b).1==QA (vT b))&&GX.all (BE K)
def DV (K:Frag):Bool:=wR K&&t7 K
end
section
set_option tactic.hygienic true
open PySem.W PySem.Calls PyProof.Rows
set_option Elab.async false
noncomputable def qv:QX:=view pw [109]
noncomputable def jC:List Str:=(pw.boundNames).filter λn=>n !=("law" :Str)&&!startupNames.contains n
noncomputable def Ab (t:BT) (n:Nat) (a:QK):Option Obj:=match (if a<n then QA ((t.get a).getD default) else QC) with
 |some ⟨J,J0,.freed,J1⟩=>QC
 |o=>o
theorem Ac (t:BT) (n:Nat) (life:Life) (a:QK):(absHeap t n life).get? a=Ab t n a:=by
 unfold Heap.get? Ab
 rw[absHeap_at]
 rfl
def Et (t:BT) (n:Nat):QK:=match Ab t n 313 with
 |some ⟨J,J0,.func F,J1⟩=>(match F.defaults with| .ref d=>d|_=>0)
 |_=>0
def lj (t:BT) (n:Nat):Frag:=(D8 (Et t n)).filterMap λa=>(Ab t n a).map λo=>(a,o)
theorem wW (t:BT) (n:Nat) (life:Life):eY (absHeap t n life)=lj t n:=by
 unfold eY lj BC Et
 simp only[Ac]
 all_goals rfl
theorem Df: ∀w os,(segRunT treeTable pw w 11 (QA (.ref 6)) 0 12000 (Xn w os) (topStub pw)).map (λr=>(look w.params r.2.1.abs,openSeen qv jC (importedModules pw.main.body) (λJ=>QD) QD r.2.1.abs))=QA (QD,openGood qv jC):=by
 intro w os
 rw[NF,NG,PySem.W.Fast.te4187177175401517315]
 kernel_rfl
theorem Dg: ∀w os,(segRunT treeTable pw w 11 (QA (.ref 6)) 0 12000 (Xn w os) (topStub pw)).map (λr=>t7 (lj r.2.1.tree r.2.1.n))=QA QD:=by
 intro w os
 rw[NF,NG]
 kernel_rfl
theorem E3: ∀w os,(segRunT treeTable pw w 11 (QA (.ref 6)) 0 12000 (Xn w os) (topStub pw)).map (λr=>(wR (lj r.2.1.tree r.2.1.n),wQ.zipIdx.map λp=>y6 (lj r.2.1.tree r.2.1.n) p.2))=QA (QD,B1.map Bb):=by
 intro w os
 rw[NF,NG]
 kernel_rfl
end
section
set_option tactic.hygienic true
open PySem.W PySem.Calls PyProof.Rows
theorem Hn {A B C D:Type} {a x:A} {b y:B} {c z:C} {d u:D} (h1:a=x) (h2:b=y) (h3:c=z) (h4:d=u):QA (a,b,c,d)=QA (x,y,z,u):=by rw[h1,h2,h3,h4]
theorem E2: ∀w os,(segRunT treeTable pw w 11 (QA (.ref 6)) 0 12000 (Xn w os) (topStub pw)).map (λr=>(look w.params r.2.1.abs,openSeen qv jC (importedModules pw.main.body) (λJ=>QD) QD r.2.1.abs,(DV (eY r.2.1.abs.heap),wQ.zipIdx.map λp=>y6 (eY r.2.1.abs.heap) p.2)))=QA (QD,openGood qv jC,QD,B1.map Bb):=λw os=>by
 refine aU (MV.mp (Df w os)) λr f c=>?_
 have b:=Dg w os
 have a:=E3 w os
 rw[f] at b a ⊢
 have b:=iN b
 have a:=iN a
 have d:eY r.2.1.abs.heap=lj r.2.1.tree r.2.1.n:=wW _ _ _
 have e:DV (lj r.2.1.tree r.2.1.n)=QD:=fF (By Prod.fst a) b
 exact Hn (By Prod.fst c) (By Prod.snd c) (by rw[d];exact e) (by rw[d];exact By Prod.snd a)
end
section
set_option tactic.hygienic true
open PySem.W PySem.Calls PyProof.Rows
noncomputable abbrev YK:OpenLaw:=PySem.Challenge.rw_xm0830_01
theorem zP: ∃d kwd,defOf qv YK.row.toRowW.name=QA (d,kwd)/\YK.row.toRowW.prog.theDef YK.row.toRowW.name=QA (d.params,d.body,d.scope)/\kwWritten? d.params.kwonlyargs d.params.kw_defaults=QA kwd:=by
 have e:(defOf qv YK.row.toRowW.name).map (λx=>(QA (x.1.params,x.1.body,x.1.scope),kwWritten? x.1.params.kwonlyargs x.1.params.kw_defaults,x.2))=QA (YK.row.toRowW.prog.theDef YK.row.toRowW.name,QA [],[]):=by kernel_rfl
 obtain⟨⟨d,kwd⟩,h,e⟩:=MV.mp e
 obtain⟨a,b,c⟩:_/\_/\_:=by simpa only[P6] using e
 exact⟨d,kwd,h,a.symm,by rw[b,c]⟩
theorem LK:(chainsOk qv&&opensWell YK.row.toRowW.prog&&(frees YK.row.toRowW&&YK.row.toRowW.within.isEmpty))=QD:=by kernel_rfl
theorem bare:YK.row.toRowW.prog.bare:=⟨rfl,rfl,rfl,rfl,rfl,by kernel_rfl⟩
theorem Fj:YK.row.toRowW.promised:=⟨[.list []],by decide+kernel,by decide+kernel⟩
end
section
open PySem.W PySem.Calls PyProof.Rows
section
theorem d4 (h:RO G w .none x):x= .none:=by cases h;rfl
theorem nV {b:Bool} (h:RO G w (.bool b) x):x= .bool b:=by cases h;rfl
theorem gq {i:Int} (h:RO G w (.int i) x): ∃t,x= .int i t:=by cases h;exact⟨_,rfl⟩
theorem xt (h:RO G w (.str n) x): ∃s t,nm.str[n]?=QA s/\x= .str s t:=by cases h;exact⟨_,_,‹_›,rfl⟩
theorem lD {b:List UInt8} (h:RO G w (.RT b) x): ∃t,b.length<=2000000/\x= .bytes b.toArray t:=by cases h;exact⟨_,‹_›,rfl⟩
theorem jA (h:RO G w (.tup vs) x): ∃a xs n,x= .ref a/\(a,({cls:= .type "tuple",data:= .seq xs.toArray n}:Obj))∈w.fz/\RP G w vs xs/\vs.length<=2000000:=by cases h;exact⟨_,_,_,rfl,‹_›,‹_›,‹_›⟩
theorem kj (h:RO G w (.list vs) x): ∃a xs n,x= .ref a/\(a,listOf xs.toArray n)∈w.fz/\RP G w vs xs/\vs.length<=2000000:=by cases h;exact⟨_,_,_,rfl,‹_›,‹_›,‹_›⟩
theorem nX (h:RO G w (.ref i) x): ∃a,w.am[i]?=QA a/\x= .ref a:=by cases h;exact⟨_,‹_›,rfl⟩
end
section
variable {T:QG->Prop}
@[elab_as_elim]theorem RO.Rc (h:RO G w .none x) (k:T .none):T x:=d4 h▸k
@[elab_as_elim]theorem RO.aAE {b:Bool} (h:RO G w (.bool b) x) (k:T (.bool b)):T x:=nV h▸k
@[elab_as_elim]theorem RO.UN {i:Int} (h:RO G w (.int i) x) (k: ∀t,T (.int i t)):T x:=Oh (gq h) λt e=>e▸k t
@[elab_as_elim]theorem RO.W8 {b:List UInt8} (h:RO G w (.RT b) x) (k: ∀t,b.length<=2000000->T (.bytes b.toArray t)):T x:=Oh (lD h) λt e=>e.2▸k t e.1
@[elab_as_elim]theorem RO.Xu (h:RO G w (.tup vs) x) (k: ∀a xs n,(a,({cls:= .type "tuple",data:= .seq xs.toArray n}:Obj))∈w.fz->RP G w vs xs->vs.length<=2000000->T (.ref a)):T x:=by
 exact mB (jA h) λa xs n e b c d=>(e▸k a xs n b c d)
@[elab_as_elim]theorem RO.eList (h:RO G w (.list vs) x) (k: ∀a xs n,(a,listOf xs.toArray n)∈w.fz->RP G w vs xs->vs.length<=2000000->T (.ref a)):T x:=by
 exact mB (kj h) λa xs n e b c d=>(e▸k a xs n b c d)
@[elab_as_elim]theorem RO.WA (h:RO G w (.ref i) x) (k: ∀a,w.am[i]?=QA a->T (.ref a)):T x:=Oh (nX h) λa e=>e.2▸k a e.1
theorem C3 (h:RO G w (.U1 c fs) x): ∃a d n es,x= .ref a/\(a,instObj (G.cls c) d)∈w.fz/\(d,dictOf es n)∈w.fz/\d2 G w fs es/\ ∀q∈fs,P.at_ c q.1=QD:=by cases h;exact⟨_,_,_,_,rfl,‹_›,‹_›,‹_›,‹_›⟩
end
section
theorem tH (h:eN G w (.list vs) a b): ∃n xs,b=[(a,listOf xs.toArray n)]/\RP G w vs xs/\vs.length<=2000000:=by cases h;exact⟨_,_,rfl,‹_›,‹_›⟩
theorem Aq (h:eN G w (.dict kvs) a b): ∃o,b=[(a,o)]/\kz G w kvs o:=by cases h;exact⟨_,rfl,‹_›⟩
theorem Ap (h:eN G w (.SH bs) a b):b=[(a,{cls:= .type "bytearray",data:= .bytearray bs.toArray 0})]/\bs.length<=2000000:=by cases h;exact⟨rfl,‹_›⟩
theorem Ar (h:eN G w (.inst c fs) a b): ∃d n es,b=[(a,instObj (G.cls c) d),(d,dictOf es n)]/\d2 G w fs es/\ ∀q∈fs,P.at_ c q.1=QD:=by cases h;exact⟨_,_,_,rfl,‹_›,‹_›⟩
end
section
variable {i:Nat}
theorem Sg.Qz (S:Sg G w mu pv frs L m Z s) (ha:w.am[i]?=QA a) (ho:Z[i]?=QA (.list vs)): ∃n xs,mu[i]?=QA [(a,listOf xs.toArray n)]/\(a,listOf xs.toArray n)∈mu.flatten++(w.fz++(pv++fill s.heap frs))/\s.heap.get? a=QA (listOf xs.toArray n)/\RP G w vs xs/\vs.length<=2000000:=by
 obtain⟨_,b,c⟩:=S.look ha ho
 refine dM (tH c) λn xs e r l=>?_
 rw[e] at b
 exact⟨n,xs,b,S.WH b (.head _),S.N.get (S.WH b (.head _)),r,l⟩
theorem Sg.WZ (S:Sg G w mu pv frs L m Z s) (ha:w.am[i]?=QA a) (ho:Z[i]?=QA (.dict kvs)): ∃o,mu[i]?=QA [(a,o)]/\(a,o)∈mu.flatten++(w.fz++(pv++fill s.heap frs))/\s.heap.get? a=QA o/\kz G w kvs o:=by
 obtain⟨_,b,c⟩:=S.look ha ho
 refine aU (Aq c) λo e r=>?_
 rw[e] at b
 exact⟨o,b,S.WH b (.head _),S.N.get (S.WH b (.head _)),r⟩
theorem Sg.ZH (S:Sg G w mu pv frs L m Z s) (ha:w.am[i]?=QA a) (ho:Z[i]?=QA (.SH bs)):mu[i]?=QA [(a,{cls:= .type "bytearray",data:= .bytearray bs.toArray 0})]/\s.heap.get? a=QA {cls:= .type "bytearray",data:= .bytearray bs.toArray 0}/\bs.length<=2000000:=by
 obtain⟨_,b,c⟩:=S.look ha ho
 obtain⟨e,l⟩:=Ap c
 rw[e] at b
 exact⟨b,S.N.get (S.WH b (.head _)),l⟩
theorem Sg.Tc (S:Sg G w mu pv frs L m Z s) (ha:w.am[i]?=QA a) (ho:Z[i]?=QA (.inst c fs)): ∃d n es,mu[i]?=QA [(a,instObj (G.cls c) d),(d,dictOf es n)]/\s.heap.get? a=QA (instObj (G.cls c) d)/\s.heap.get? d=QA (dictOf es n)/\d2 G w fs es/\ ∀q∈fs,P.at_ c q.1=QD:=by
 obtain⟨_,b,f⟩:=S.look ha ho
 refine FF (Ar f) λd n es e r l=>?_
 rw[e] at b
 exact⟨d,n,es,b,S.N.get (S.WH b (.head _)),S.N.get (S.WH b (.tail _ (.head _))),r,l⟩
theorem Sg.Ue (S:Sg G w mu pv frs L m Z s) (ha:w.am[i]?=QA a) (hb:mu[i]?=QA [(a,o)]) (hs:Heap.SameBut a s.heap h') (hd:h'.get? a=QA o') (ho:eN G w O' a [(a,o')]):
  Sg G w (mu.set i [(a,o')]) pv frs L m (Z.set i O') {s with heap:=h',drawn:=g,toks:=tk}:=
 ⟨S.1.upd (pre:=[]) (post:=[]) ha hb rfl hs hd ho,S.2⟩
end
theorem gQ:(bS Z r=1-> ∃vs,Z[r]?=QA (.list vs))/\(bS Z r=2-> ∃b,Z[r]?=QA (.SH b))/\(bS Z r=3-> ∃kvs,Z[r]?=QA (.dict kvs)):=by
 unfold bS
 rcases Z[r]? with _|_|_|_|_|_
 ·exact⟨(λh=>by cases h),(λh=>by cases h),(λh=>by cases h)⟩
 ·exact⟨(λh=>by cases h),(λh=>by cases h),(λh=>by cases h)⟩
 ·exact⟨(λh=>by cases h),(λh=>by cases h),λJ=>⟨_,rfl⟩⟩
 ·exact⟨λJ=>⟨_,rfl⟩,(λh=>by cases h),(λh=>by cases h)⟩
 ·exact⟨(λh=>by cases h),λJ=>⟨_,rfl⟩,(λh=>by cases h)⟩
 ·exact⟨(λh=>by cases h),(λh=>by cases h),(λh=>by cases h)⟩
section
variable {a:QK} {o o':Obj}
theorem tT:(A++(a,o')::B).map (·.1)=(A++(a,o)::B).map (·.1):=by rw[Mc,Mc];rfl
theorem xR (nd:((A++(a,o)::B).map (·.1)).Nodup):(∀q∈A,q.1≠a)/\(∀q∈B,q.1≠a):=by
 rw[Mc,Nh] at nd
 obtain⟨_,c,d⟩:=nd
 exact⟨λq b=>d _ (Ml b) _ (.head _),λq b e=>(Mf.mp c).1 (L8.mpr ⟨q,b,e⟩)⟩
theorem tU (h:q∈A++(a,o)::B) (ne:q.1≠a):q∈A++(a,o')::B:=by
 rcases Mq.mp h with h|h
 ·exact Mp _ h
 ·rcases tO.mp h with h|h
  ·exact absurd (By (·.1) h) ne
  ·exact DO _ (.tail _ h)
end
section
theorem nT {es:List QJ} (h:d2 G w [] es):es=[]:=by cases h;rfl
theorem iX {p:Nat×V} {fs:List (Nat×V)} {es:List QJ} (h:d2 G w (p::fs) es): ∃s t x Qp,es=⟨PyData.keyHash G.w.params s,.str s t,x⟩::Qp/\nm.attr[p.1]?=QA s/\RO G w p.2 x/\d2 G w fs Qp:=by
 cases h;exact⟨_,_,_,_,rfl,‹_›,‹_›,‹_›⟩
end
end
section
open PySem.W PySem.Calls PyProof.Rows
theorem n8 (n:Nat) (h: -(n:Int)<i/\i<n):i.natAbs<n:=by
 cases i with
 |ofNat m=>exact Mo.mp h.2
 |negSucc m=>exact Mo.mp (Int.neg_lt_neg_iff.mp (show -(n:Int)< -((m+1:Nat):Int) from h.1))
theorem lb (h:a<=b) (k:Nat.ble b c=QD):a<=c:=bY h (aT k)
theorem cX (h:QM):h.get? h.objs.size=Option.none:=by
 cases q:h.get? h.objs.size with
 |none=>rfl
 |some o=>exact absurd (MF q) (NQ _)
def hW (G:Gt) (pv frs:cy) (L:QK) (m:Str->Option QG) (w:Ld) (Q:V->H->Prop) (PQ:QG->QH->Prop):Prop:=
 ∀v RM val s' w' SA,Q v RM->w.le w'->Sg G w' SA pv frs L m RM s'->RO G w' v val->PQ val s'
theorem hW.mono (h:hW G pv frs L m w Q PQ) (le:w.le w'):hW G pv frs L m w' Q PQ:=
 λv a val d c b q l=>h v a val d c b q (le.trans l)
theorem mN (hi:0<=i) (hj:0<=j):Builtin.bitOr i j=((i.toNat|||j.toNat:Nat):Int):=by
 have a: ¬(0<=Builtin.bitNot i):=by skip;exact d3 0x1CD4041456280441C0A011 rfl hi
 have b: ¬(0<=Builtin.bitNot j):=by skip;exact d3 0x1CD4041456280441C0A011 rfl hj
 have e: ∀x:Int,Builtin.bitNot (Builtin.bitNot x)=x:=λx=>by skip;exact d3 0x7229404145650105158A rfl
 delta Builtin.bitOr Builtin.bitAnd
 rw[aS a,aS b]
 dsimp only
 rw[e,e,e]
theorem kI (hi:0<=i) (hj:0<=j):Builtin.bitAnd i j=((i.toNat&&&j.toNat:Nat):Int):=by
 delta Builtin.bitAnd
 rw[iF hi,iF hj]
theorem gG (h:a.natAbs<2^k):Builtin.Int.intBits a<=k:=by
 delta Builtin.Int.intBits
 split
 ·exact aX 25165840 rfl
 ·rename_i b
  have:=(Nat.log2_lt (by simpa using b)).mpr h
  exact RW 0x60052041400061040 rfl this
section
variable {s:QH}
theorem hW.int (P:hW G pv frs L m w Q PQ) (S:Sg G w mu pv frs L m Z s) (hs:(s'.heap,s'.os,s'.gens)=(s.heap,s.os,s.gens)) (q:Q (.int i) Z) (e:j=i):PQ (.int j t) s':=by
 subst e
 exact P _ _ _ _ _ _ q (.refl _) (S.eq hs) (.int _ _)
theorem vY (op:BO) (h:dm [] op (.int i) (.int j) (λr=>Q r Z)) (S:Sg G w mu pv frs L m Z s) (P:hW G pv frs L m w Q PQ):
  wpAny (model G.prog G.w) A (binaryOp (rX op) (.int i t) (.int j u)) PQ PE s:=by
 cases op with
 |add=>exact add_int (P.int S rfl h rfl)
 |sub=>exact sub_int (P.int S rfl h rfl)
 |mul=>
  refine me h λb c q=>(mul_int (P.int S rfl q rfl) (IntMulOk.of_bits (bY (gG (k:=100) ?_) (by decide)) (bY (gG (k:=100) ?_) (by decide))))
  ·exact n8 _ b
  ·exact n8 _ c
 |fdiv=>
  exact me h λb c q=>(floordiv_int (d3 0x75011281C4A011 rfl b) (P.int S rfl q (NL _ (d3 0x70280441C4A011 rfl b))) (.inl (PyProof.noPylong_small (n8 _ ⟨Pr (by decide) b,Pr c (by decide)⟩))))
 |mod=>
  obtain⟨b,q⟩:=h
  exact mod_int' (d3 0x75011281C4A011 rfl b) (P.int S rfl q (Int.fmod_eq_emod_of_nonneg _ (d3 0x70280441C4A011 rfl b)))
 |band=>
  exact me h λb c q=>(and_int (P.int S rfl q (kI b c)))
 |bor=>
  exact me h λb c q=>(or_int (P.int S rfl q (mN b c)))
 |shl=>
  refine B9 h λb c d e q=>(lshift_int_small d (d3 0x700F4240111281C4190244A rfl e) (n8 _ ⟨OD (by decide) b,c⟩) (P.int S rfl q ?_))
  obtain⟨a,rfl⟩:=N6 b
  rw[O7]
  exact rfl
 |shr=>
  refine FE h λb c d q=>(rshift_int c (P.int S rfl q ?_))
  obtain⟨a,rfl⟩:=N6 b
  rw[NL _ (Nm (Int.pow_pos (by decide))),Nk]
  exact rfl
theorem vL (op:BO) (h:dm [] op (.int i) (.int j) (λr=>Q r Z)) (S:Sg G w mu pv frs L m Z s) (P:hW G pv frs L m w Q PQ):
  wpAny (model G.prog G.w) A (inplaceOp (rX op) (.int i t) (.int j u)) PQ PE s:=by
 cases op with
 |add=>exact iadd_int (P.int S rfl h rfl)
 |sub=>exact isub_int (P.int S rfl h rfl)
 |mul=>
  refine me h λb c q=>(imul_int (P.int S rfl q rfl) (IntMulOk.of_bits (bY (gG (k:=100) ?_) (by decide)) (bY (gG (k:=100) ?_) (by decide))))
  ·exact n8 _ b
  ·exact n8 _ c
 |fdiv=>
  exact me h λb c q=>(ifloordiv_int (d3 0x75011281C4A011 rfl b) (P.int S rfl q (NL _ (d3 0x70280441C4A011 rfl b))) (.inl (PyProof.noPylong_small (n8 _ ⟨Pr (by decide) b,Pr c (by decide)⟩))))
 |mod=>
  obtain⟨b,q⟩:=h
  exact imod_int (d3 0x75011281C4A011 rfl b) (P.int S rfl q (Int.fmod_eq_emod_of_nonneg _ (d3 0x70280441C4A011 rfl b)))
 |band=>
  exact me h λb c q=>(iand_int (P.int S rfl q (kI b c)))
 |bor=>
  exact me h λb c q=>(ior_int (P.int S rfl q (mN b c)))
 |shl=>
  refine B9 h λb c d e q=>(ilshift_int_small d (d3 0x700F4240111281C4190244A rfl e) (n8 _ ⟨OD (by decide) b,c⟩) (P.int S rfl q ?_))
  obtain⟨a,rfl⟩:=N6 b
  rw[O7]
  exact rfl
 |shr=>
  refine FE h λb c d q=>(irshift_int c (P.int S rfl q ?_))
  obtain⟨a,rfl⟩:=N6 b
  rw[NL _ (Nm (Int.pow_pos (by decide))),Nk]
  exact rfl
theorem q6 (h:TP Z (.ref i)=QA vs):Z[i]?=QA (.list vs):=by
 have h:(match Z[i]? with
  |some (.list vs)=>QA vs
  |_=>QC)=QA vs:=h
 revert h
 rcases Z[i]? with _|_|_|_|_|_
 ·exact fX
 ·exact fX
 ·exact fX
 ·exact λh=>By (λvs=>QA (O.list vs)) (iN h)
 ·exact fX
 ·exact fX
theorem cF (S:Sg G w mu pv frs L m Z s) (h:TP Z v=QA vs) (r:RO G w v x):
  ∃a xs n,x= .ref a/\(a,listOf xs.toArray n)∈mu.flatten++(w.fz++(pv++fill s.heap frs))/\RP G w vs xs/\vs.length<=2000000:=by
 rcases v<;>try (cases h;done)
 ·refine mB (kj r) λa xs n e c d b=>?_
  rw[<- iN h]
  exact⟨a,xs,n,e,S.UW c,d,b⟩
 ·refine aU (nX r) λa f e=>?_
  obtain⟨n,xs,_,c,_,d,b⟩:=S.Qz f (q6 h)
  exact⟨a,xs,n,e,c,d,b⟩
theorem St.newList (S:St G w mu pv frs L m Z s.heap) (r:RP G w vs xs) (hb:vs.length<=2000000):
  ∃w',w.le w'/\St G w' mu pv frs L m Z (s.heap.push (listOf xs.toArray 0))/\RO G w' (.list vs) (.ref s.heap.objs.size):=by
 have b:w.le ⟨w.am,[(s.heap.objs.size,listOf xs.toArray 0)]++w.fz⟩:=⟨MG _,λp a=>DO _ a⟩
 refine⟨_,b,S.Uy (e:=[(s.heap.objs.size,listOf xs.toArray 0)]) (S.F.push _) (S.N.push S.F _) (λp a=>by rw[LS.mp a];exact S.fresh (cX _)) (by simp),.list (.head _) (r.mono b) hb⟩
theorem St.newTuple (S:St G w mu pv frs L m Z s.heap) (r:RP G w vs xs) (hb:vs.length<=2000000):
  ∃w',w.le w'/\St G w' mu pv frs L m Z (s.heap.push {cls:= .type "tuple",data:= .seq xs.toArray})/\RO G w' (.tup vs) (.ref s.heap.objs.size):=by
 have b:w.le ⟨w.am,[(s.heap.objs.size,({cls:= .type "tuple",data:= .seq xs.toArray}:Obj))]++w.fz⟩:=⟨MG _,λp a=>DO _ a⟩
 refine⟨_,b,S.Uy (e:=[(s.heap.objs.size,({cls:= .type "tuple",data:= .seq xs.toArray}:Obj))]) (S.F.push _) (S.N.push S.F _) (λp a=>by rw[LS.mp a];exact S.fresh (cX _)) (by simp),.tup (.head _) (r.mono b) hb⟩
theorem dz {f:Int->Int->Prop} {u v:V} (h:match u,v with
  | .int i,.int j=>f i j
  |J,J0=>False): ∃i j,u= .int i/\v= .int j/\f i j:=by
 rcases u<;>try exact h.elim
 rcases v<;>first|exact h.elim|exact⟨_,_,rfl,rfl,h⟩
theorem Va {Z:H} {u v:V} {Q:V->Prop} (h:dm Z .add u v Q):(∃i j,u= .int i/\v= .int j/\Q (.int (i+j)))\/(∃x y,u= .RT x/\v= .RT y/\x.length+y.length<=1000000/\Q (.RT (x++y)))\/
  ∃xs ys,TP Z u=QA xs/\TP Z v=QA ys/\xs.length+ys.length<=1000000/\Q (.list (xs++ys)):=by
 rcases u<;>try exact .inr (.inr h)
 ·rcases v<;>first|exact .inl ⟨_,_,rfl,rfl,h⟩|exact .inr (.inr h)
 ·rcases v<;>first|exact .inr (.inl ⟨_,_,rfl,rfl,h⟩)|exact .inr (.inr h)
theorem Vw {Z:H} {u v:V} {Q:V->Prop} (h:dm Z .mul u v Q):(∃i j,u= .int i/\v= .int j/\dm [] .mul (.int i) (.int j) Q)\/
  (∃x j,u= .RT x/\v= .int j/\x≠[]/\x.length<=16/\0<=j/\j<=100000/\Q (.RT (List.replicate j.toNat x).flatten)):=by
 rcases u<;>try exact h.elim
 ·rcases v<;>first|exact .inl ⟨_,_,rfl,rfl,h⟩|exact h.elim
 ·rcases v<;>first|exact .inr ⟨_,_,rfl,rfl,h⟩|exact h.elim
theorem ym {Z:H} {op:BO} {u v:V} {Q:V->Prop} (h:dm Z op u v Q) (ha:op≠ .add) (hm:op≠ .mul): ∃i j,u= .int i/\v= .int j/\dm [] op (.int i) (.int j) Q:=by
 rcases op with _|_|_|_|_|_|_|_|_
 ·exact absurd rfl ha
 ·exact dz (f:=λi j=>dm [] .sub (.int i) (.int j) Q) h
 ·exact absurd rfl hm
 ·exact dz (f:=λi j=>dm [] .fdiv (.int i) (.int j) Q) h
 ·exact dz (f:=λi j=>dm [] .mod (.int i) (.int j) Q) h
 ·exact dz (f:=λi j=>dm [] .band (.int i) (.int j) Q) h
 ·exact dz (f:=λi j=>dm [] .bor (.int i) (.int j) Q) h
 ·exact dz (f:=λi j=>dm [] .shl (.int i) (.int j) Q) h
 ·exact dz (f:=λi j=>dm [] .shr (.int i) (.int j) Q) h
theorem Dx {j:Int} {x:List α} (h2:x.length<=16) (h4:j<=100000):(List.replicate j.toNat x).flatten.length<=2000000:=by
 have e:(List.replicate j.toNat x).flatten.length=j.toNat*x.length:=by simp
 rw[e]
 exact bY (Nat.mul_le_mul (Int.toNat_le.mpr h4) h2) (by decide)
theorem ju (op:BO) (hu:u= .int i) (hv:v= .int j) (h:dm [] op (.int i) (.int j) (λr=>Q r Z)) (S:Sg G w mu pv frs L m Z s) (P:hW G pv frs L m w Q PQ) (ra:RO G w u a) (rb:RO G w v b):
  wpAny (model G.prog G.w) A (binaryOp (rX op) a b) PQ PE s:=by
 rw[hu] at ra
 rw[hv] at rb
 exact RO.UN ra λt=>RO.UN rb λt'=>vY op h S P
theorem zy (op:BO) (h:dm Z op u v (λr=>Q r Z)) (S:Sg G w mu pv frs L m Z s) (P:hW G pv frs L m w Q PQ) (ra:RO G w u a) (rb:RO G w v b):
  wpAny (model G.prog G.w) A (binaryOp (rX op) a b) PQ PE s:=by
 by_cases f:op= .add
 ·rw[f] at h ⊢
  rcases Va h with⟨i,j,c,d,q⟩|⟨x,y,c,d,hl,q⟩|⟨xs,ys,hx,hy,hl,q⟩
  ·exact ju .add c d q S P ra rb
  ·rw[c] at ra
   rw[d] at rb
   refine RO.W8 ra λt J=>RO.W8 rb λe J=>KBy.add_bytes (by rw[IF,IF];exact lb hl rfl) λe k=>?_
   rw[List.append_toArray]
   exact P _ _ _ _ _ _ q (.refl _) S (.RT _ _ (by rw[LU];exact lb hl rfl))
  ·obtain⟨a1,x1,n1,z,D,l,_⟩:=cF S hx ra
   obtain⟨a2,x2,n2,B,E,n,_⟩:=cF S hy rb
   rw[z,B]
   refine kE (S.1.newList (l.append n) (by rw[LU];exact lb hl rfl)) λw' C o p=>(_root_.PySem.P.add_list (S.N.get D) (S.N.get E) ?_ ?_)
   ·rw[List.append_toArray]
    exact P _ _ _ _ _ _ q C ⟨o,S.2⟩ p
   ·rw[My,IF,IF,<- l.length,<- n.length];exact lb hl rfl
 ·by_cases g:op= .mul
  ·rw[g] at h ⊢
   rcases Vw h with⟨i,j,c,d,q⟩|⟨x,j,c,d,h1,h2,h3,h4,q⟩
   ·exact ju .mul c d q S P ra rb
   ·rw[c] at ra
    rw[d] at rb
    exact RO.W8 ra λt J=>RO.UN rb λe=>bytes_mul_any h1 (d3 0x1C0A584000004441C0A011 rfl h3) (d3 0x1C0400000444A07061A80344A rfl h4) h2 λe k=>P _ _ _ _ _ _ q (.refl _) S (.RT _ _ (Dx h2 h4))
  ·exact dM (ym h f g) λi j c d q=>(ju op c d q S P ra rb)
end
end
section
open PySem.W PySem.Calls PyProof.Rows Builtin
theorem fg:RG "bytes" (cmpInfo .Lt).2.1 "bytes.__lt__" :=
 .of (owner:= "bytes") (n:= "__lt__") (by rw[Mr,L1];kernel_rfl) (by decide+kernel) (by decide+kernel) (by decide+kernel)
  (by first|exact .inl (by decide+kernel)|exact .inr (by decide+kernel)) (by rw[Nl];kernel_rfl)
theorem gk:entryFor table "bytes.__lt__" =QA Builtin.«bytes.__lt__»:=N8 (by kernel_rfl)
theorem hG (a b:QG):argsOk "bytes.__lt__" ⟨[a,b],[]⟩:=by
 delta argsOk;skip;kernel_rfl
theorem mx:RG "bytes" (cmpInfo .GtE).2.1 "bytes.__ge__" :=
 .of (owner:= "bytes") (n:= "__ge__") (by rw[Mr,L1];kernel_rfl) (by decide+kernel) (by decide+kernel) (by decide+kernel)
  (by first|exact .inl (by decide+kernel)|exact .inr (by decide+kernel)) (by rw[Nl];kernel_rfl)
theorem kZ:entryFor table "bytes.__ge__" =QA Builtin.«bytes.__ge__»:=N8 (by kernel_rfl)
theorem mh (a b:QG):argsOk "bytes.__ge__" ⟨[a,b],[]⟩:=by
 delta argsOk;skip;kernel_rfl
theorem lN: ∀a b:List UInt8,(Bytes.order a b== .lt)=SW a b:=by
 intro a
 induction a with
 |nil=>intro b;cases b<;>rfl
 |cons x a ih=>
  intro b
  cases b with
  |nil=>rfl
  |cons y b=>
  dsimp only[Bytes.order,SW]
  by_cases c:x<y
  ·simp[c]
  ·by_cases d:y<x
   ·simp[c,d]
   ·simp[c,d,ih b]
theorem x8 (a b:List UInt8):(Bytes.order a b != .lt)=!SW a b:=by rw[<- lN];rfl
theorem lr (b c:Array UInt8) (t u:Tok):RD («bytes.__lt__» ⟨[.bytes b t,.bytes c u],[]⟩) (.val (.bool (SW b.toList c.toList))):=by
 refine .of_wp λM A E s Q a=>?_
 show wpAny M A (isInstance (.bytes c u) (.type "bytes")>>=λr=>_) _ E s
 exact oF (NO (Md s c u) PC (LW ⟨_,rfl,by rw[<- lN] at a;exact a⟩))
theorem lq (b c:Array UInt8) (t u:Tok):RD («bytes.__ge__» ⟨[.bytes b t,.bytes c u],[]⟩) (.val (.bool (!SW b.toList c.toList))):=by
 refine .of_wp λM A E s Q a=>?_
 show wpAny M A (isInstance (.bytes c u) (.type "bytes")>>=λr=>_) _ E s
 exact oF (NO (Md s c u) PC (LW ⟨_,rfl,by rw[<- x8] at a;exact a⟩))
section
variable {E:QG->QH->Prop}
theorem xJ (h:Q (.bool (SW b.toList c.toList)) s):wpAny (model prog w) A (compareOp .Lt (.bytes b t) (.bytes c u)) Q E s:=
 compareOp_gives (op:= .Lt) (Md s b t) (Md s c u) fg gk (hG _ _) (lr b c t u) (λe=>by cases e) h
theorem w0 (h:Q (.bool (!SW b.toList c.toList)) s):wpAny (model prog w) A (compareOp .GtE (.bytes b t) (.bytes c u)) Q E s:=
 compareOp_gives (op:= .GtE) (Md s b t) (Md s c u) mx kZ (mh _ _) (lq b c t u) (λe=>by cases e) h
end
end
section
open PySem.W PySem.Calls PyProof.Rows Builtin SeqAt MeetsSeq
theorem fN:isSubtype (.type "NoneType") (.type "bytes")=pure QE:=by rw[Nl];kernel_rfl
theorem nf (a:Array UInt8) (t:Tok):RD (Builtin.«NoneType.__eq__» ⟨[.none,.bytes a t],[]⟩) (.val (Value.notImplemented)):=
 .of_wp λM A E s Q h=>by obtain⟨hp,g,d,tk,os⟩:=s;wp_walk;exact⟨_,rfl,h⟩
theorem mI (a:Array UInt8) (t:Tok):RD (Builtin.«bytes.__eq__» ⟨[.bytes a t,.none],[]⟩) (.val (Value.notImplemented)):=
 .of_wp λM A E s Q h=>by obtain⟨hp,g,d,tk,os⟩:=s;have f1:=fN;wp_walk;exact⟨_,rfl,h⟩
theorem ng (a:Array UInt8) (t:Tok):RD (Builtin.«NoneType.__ne__» ⟨[.none,.bytes a t],[]⟩) (.val (Value.notImplemented)):=
 .of_wp λM A E s Q h=>by obtain⟨hp,g,d,tk,os⟩:=s;wp_walk;exact⟨_,rfl,h⟩
theorem mJ (a:Array UInt8) (t:Tok):RD (Builtin.«bytes.__ne__» ⟨[.bytes a t,.none],[]⟩) (.val (Value.notImplemented)):=
 .of_wp λM A E s Q h=>by obtain⟨hp,g,d,tk,os⟩:=s;have f1:=fN;wp_walk;exact⟨_,rfl,h⟩
theorem gy:RG "bytes" (cmpInfo .Eq).2.2 "bytes.__eq__" :=
 .of (owner:= "bytes") (n:= "__eq__") (by rw[Mr,L1];kernel_rfl) (by decide+kernel) (by decide+kernel) (by decide+kernel)
  (by first|exact .inl (by decide+kernel)|exact .inr (by decide+kernel)) (by rw[Nl];kernel_rfl)
theorem gz:RG "bytes" (cmpInfo .NotEq).2.2 "bytes.__ne__" :=
 .of (owner:= "bytes") (n:= "__ne__") (by rw[Mr,L1];kernel_rfl) (by decide+kernel) (by decide+kernel) (by decide+kernel)
  (by first|exact .inl (by decide+kernel)|exact .inr (by decide+kernel)) (by rw[Nl];kernel_rfl)
section
variable (b:Array UInt8) (u:Tok)
theorem nv:RcAt A s .none (.bytes b u) QE:=λprog w E Q h=>
 rc_eq_decline_or (k:=QE) rfl (Md s b u) (by decide) F.sub_bytes_NoneType F.slot_NoneType_eq gy
  (λJ a=>OK F.slot_NoneType_eq rfl F.entry_NoneType_eq (F.args_NoneType_eq_2 _ _) (nf b u) a)
  (λJ a=>OK gy (Md s b u) FB.entry_bytes_eq (FB.args_bytes_eq_2 _ _) (mI b u) a)
  (λJ a=>Mz (rfl:isSame .none (.bytes b u)=pure QE) a) (.inl rfl) h
theorem nu:RcAt A s (.bytes b u) .none QE:=λprog w E Q h=>
 rc_eq_decline_or (k:=QE) (Md s b u) rfl (by decide) fN FB.slot_bytes_eq F.slot_NoneType_eq_refl
  (λJ a=>OK FB.slot_bytes_eq (Md s b u) FB.entry_bytes_eq (FB.args_bytes_eq_2 _ _) (mI b u) a)
  (λJ a=>OK F.slot_NoneType_eq_refl rfl F.entry_NoneType_eq (F.args_NoneType_eq_2 _ _) (nf b u) a)
  (λJ a=>Mz (rfl:isSame (.bytes b u) .none=pure QE) a) (.inl rfl) h
theorem qq:RcNeAt A s .none (.bytes b u) QD:=λprog w E Q h=>
 rc_ne_decline_or (k:=QE) rfl (Md s b u) (by decide) F.sub_bytes_NoneType F.slot_NoneType_ne gz
  (λJ a=>OK F.slot_NoneType_ne rfl F.entry_NoneType_ne (F.args_NoneType_ne_2 _ _) (ng b u) a)
  (λJ a=>OK gz (Md s b u) FB.entry_bytes_ne (FB.args_bytes_ne_2 _ _) (mJ b u) a)
  (λJ a=>Mz (rfl:isSame .none (.bytes b u)=pure QE) a) (.inl rfl) h
theorem qp:RcNeAt A s (.bytes b u) .none QD:=λprog w E Q h=>
 rc_ne_decline_or (k:=QE) (Md s b u) rfl (by decide) fN FB.slot_bytes_ne F.slot_NoneType_ne_refl
  (λJ a=>OK FB.slot_bytes_ne (Md s b u) FB.entry_bytes_ne (FB.args_bytes_ne_2 _ _) (mJ b u) a)
  (λJ a=>OK F.slot_NoneType_ne_refl rfl F.entry_NoneType_ne (F.args_NoneType_ne_2 _ _) (ng b u) a)
  (λJ a=>Mz (rfl:isSame (.bytes b u) .none=pure QE) a) (.inl rfl) h
theorem uM:EqAt A s .none (.bytes b u) QE:=λprog w E Q h=>by
 exact Oq (wpAny_ite_split (λa=>by cases eq_of_beq a) (λJ=>(oF (nv b u prog w E _ (OL h)))))
theorem uL:EqAt A s (.bytes b u) .none QE:=λprog w E Q h=>by
 exact Oq (wpAny_ite_split (λa=>by cases eq_of_beq a) (λJ=>(oF (nu b u prog w E _ (OL h)))))
end
end
section
open PySem.W PySem.Calls PyProof.Rows Builtin SeqAt MeetsSeq
class inductive Qj (R:V->V->Prop):List V->List V->Prop
 |nl (b:List V):Qj R [] b
 |nr (a:List V):Qj R a []
 |cons {a b:V} {r t:List V}:R a b->Qj R r t->Qj R (a::r) (b::t)
class inductive Cm:V->V->Prop
 |nn:Cm .none .none
 |ni (i:Int):Cm .none (.int i)
 |in_ (i:Int):Cm (.int i) .none
 |nb (x:List UInt8):Cm .none (.RT x)
 |bn (x:List UInt8):Cm (.RT x) .none
 |nt (xs:List V):Cm .none (.tup xs)
 |tn (xs:List V):Cm (.tup xs) .none
 |ii (i j:Int):Cm (.int i) (.int j)
 |bb (a b:Bool):Cm (.bool a) (.bool b)
 |ss (a b:Nat):Cm (.str a) (.str b)
 |yy (a b:List UInt8):Cm (.RT a) (.RT b)
 |tt {a b:List V}:Qj Cm a b->Cm (.tup a) (.tup b)
 |ll {a b:List V}:Qj Cm a b->Cm (.list a) (.list b)
abbrev IH:=Qj Cm
mutual
theorem Bz: ∀(u v:V),UK u v=QD->Cm u v
 | .none,v,h=>by cases v<;>first|constructor|exact SP h
 | .bool J,v,h=>by cases v<;>first|constructor|exact SP h
 | .int J,v,h=>by cases v<;>first|constructor|exact SP h
 | .str J,v,h=>by cases v<;>first|constructor|exact SP h
 | .RT J,v,h=>by cases v<;>first|constructor|exact SP h
 | .tup a,v,h=>by
  cases v<;>first|exact .tn _|exact .tt (rj a _ h)|exact SP h
 | .list a,v,h=>by
  cases v<;>first|exact .ll (rj a _ h)|exact SP h
 | .Sd J J0,v,h=>by cases v<;>exact SP h
 | .U1 J J0,v,h=>by cases v<;>exact SP h
 | .ref J,v,h=>by cases v<;>exact SP h
theorem rj: ∀(a b:List V),ew a b=QD->IH a b
 |[],b,J=> .nl b
 |_::_,[],_=> .nr _
 |u::r,v::t,h=> .cons (Bz u v (Nr.mp h).1) (rj r t (Nr.mp h).2)
end
section
variable {w:Ld}
theorem RP.T7 {h:QM} {xs:List QG} {n:Nat} (e:h.get? a=QA {cls:= .type "tuple",data:= .seq xs.toArray n}):h.IsTuple a xs.toArray:=⟨_,e,rfl,_,rfl⟩
theorem RP.isList {h:QM} {xs:List QG} {n:Nat} (e:h.get? a=QA (listOf xs.toArray n)):h.IsList a xs.toArray:=⟨_,e,rfl,_,rfl⟩
theorem rB (x y:List UInt8) (t u:Tok):EqAt A s (.bytes x.toArray t) (.bytes y.toArray u) (decide (x=y)):=λprog w E Q h=>eqBool_bytes (by exact h)
theorem ue {h:QM} (hf: ∀p∈w.fz,h.get? p.1=QA p.2) (m:(a,o)∈w.fz) (m':(a,o')∈w.fz):o=o':=by
 have:=hf _ m
 rw[hf _ m'] at this
 exact(iN this).symm
theorem rT {s:Str} {i j:Nat} (h:nm.str[i]?=QA s) (h':nm.str[j]?=QA s):i=j:=by
 have d:nm.str.Nodup:=by decide+kernel
 obtain⟨b,e⟩:=Ms.mp h
 obtain⟨c,a⟩:=Ms.mp h'
 rcases OM i j with q|q|q
 ·exact absurd (e.trans a.symm) (MI.mp d i j b c q)
 ·exact q
 ·exact absurd (a.trans e.symm) (MI.mp d j i c b q)
structure Q4 (A:QN) (s:QH) (u v:V) (x y:QG) (b:Bool):Prop where
 bi:b=QD↔u=v
 id:x=y->u=v
 eq:EqAt A s x y b
 rc:RcAt A s x y b
 ne:RcNeAt A s x y (!b)
structure Q5 (A:QN) (s:QH) (us vs:List V) (xs ys:List QG) (f:Nat->Bool):Prop where
 id:xs=ys->us=vs
 len:us.length=xs.length/\vs.length=ys.length
 fi: ∀j,j<us.length->j<vs.length->(f j=QD↔us[j]?=vs[j]?)
 eq: ∀j (h1:j<xs.length) (h2:j<ys.length),EqAt A s xs[j] ys[j] (f j)
theorem vF: ∀(us vs:List V) (f:Nat->Bool),(∀j,j<us.length->j<vs.length->(f j=QD↔us[j]?=vs[j]?))->(((List.range (min us.length vs.length)).all f&&us.length==vs.length)=QD↔us=vs):=by
 intro us vs f h
 rw[Nr,L9,beq_iff_eq]
 constructor
 ·rintro ⟨h1,h2⟩
  refine ON λj=>?_
  rcases MT j us.length with c|c
  ·exact(h j c (SD 0x61042061002062040 rfl h2 c)).mp (h1 j (P2.mpr (SD 0x61080862042061040 rfl c (IS (RW 6598143909952 rfl h2)))))
  ·rw[Mt c,Mt (by exact SD 0x60081060080862040 rfl h2 c)]
 ·rintro rfl
  refine⟨λj a=>?_,rfl⟩
  have:=P2.mp a
  exact(h j (SD 0x61080060081061040 rfl this (MW _ _)) (SD 0x61080060081061040 rfl this (MW _ _))).mpr rfl
def M1 (G:Gt) (w:Ld) (s:QH) (u v:V):Prop:= ∀(A:QN) (x y:QG),A.units+TN u<cLine->A.units<cLine->RO G w u x->RO G w v y-> ∃b,Q4 A s u v x y b
def M2 (G:Gt) (w:Ld) (s:QH) (us vs:List V):Prop:= ∀(A:QN) (xs ys:List QG),A.units+TN.US us<cLine->A.units<cLine->RP G w us xs->RP G w vs ys-> ∃f,Q5 A s us vs xs ys f
variable {s:QH} (hf: ∀p∈w.fz,s.heap.get? p.1=QA p.2)
theorem DW {u v:V} (h:u≠v):QE=QD↔u=v:=⟨λh=>SP h,λe=>(h e).elim⟩
theorem HA:M1 G w s .none .none:=λA x y J J r a=>by
 rw[d4 r,d4 a]
 exact⟨QD,⟨λJ=>rfl,λJ=>rfl⟩,λJ=>rfl,EqAt.same _,RcAt.none_none,RcNeAt.none_none⟩
theorem Hy (i:Int):M1 G w s .none (.int i):=λA x y J J r a=>by
 obtain⟨t,rfl⟩:=gq a
 rw[d4 r]
 exact⟨QE,DW (λe=>by cases e),(λe=>by cases e),EqAt.none_int _ _,RcAt.none_int _ _,RcNeAt.none_int _ _⟩
theorem Hv (i:Int):M1 G w s (.int i) .none:=λA x y J J r a=>by
 obtain⟨t,rfl⟩:=gq r
 rw[d4 a]
 exact⟨QE,DW (λe=>by cases e),(λe=>by cases e),EqAt.int_none _ _,RcAt.int_none _ _,RcNeAt.int_none _ _⟩
theorem Hx (b:List UInt8):M1 G w s .none (.RT b):=λA x y J J r a=>by
 obtain⟨t,_,rfl⟩:=lD a
 rw[d4 r]
 exact⟨QE,DW (λe=>by cases e),(λe=>by cases e),uM _ _,nv _ _,qq _ _⟩
theorem Ht (b:List UInt8):M1 G w s (.RT b) .none:=λA x y J J r a=>by
 obtain⟨t,_,rfl⟩:=lD r
 rw[d4 a]
 exact⟨QE,DW (λe=>by cases e),(λe=>by cases e),uL _ _,nu _ _,qp _ _⟩
theorem Hu (i j:Int):M1 G w s (.int i) (.int j):=λA x y J J r a=>by
 obtain⟨t,rfl⟩:=gq r
 obtain⟨t',rfl⟩:=gq a
 exact⟨i==j,⟨λe=>By _ (eq_of_beq e),λe=>beq_iff_eq.mpr (V.int.inj e)⟩,λe=>by injection e with e;rw[e],EqAt.int_int _ _ _ _,RcAt.int_int _ _ _ _,RcNeAt.int_int _ _ _ _⟩
theorem Hs (i j:Bool):M1 G w s (.bool i) (.bool j):=λA x y J J r a=>by
 rw[nV r,nV a]
 exact⟨i==j,⟨λe=>By _ (eq_of_beq e),λe=>beq_iff_eq.mpr (V.bool.inj e)⟩,λe=>by injection e with e;rw[e],EqAt.bool_bool _ _,RcAt.bool_bool _ _,RcNeAt.bool_bool _ _⟩
theorem HD (i j:Nat):M1 G w s (.str i) (.str j):=λA x y J J r c=>by
 refine mf (xt r) λd t e a=>?_;subst a
 refine mf (xt c) λf t' b a=>?_;subst a
 refine⟨d==f,⟨λq=>?_,λq=>?_⟩,λq=>?_,EqAt.str_str _ _ _ _,RcAt.str_str _ _ _ _,RcNeAt.str_str _ _ _ _⟩
 ·rw[<- eq_of_beq q] at b
  rw[rT e b]
 ·rw[<- V.str.inj q] at b
  exact beq_iff_eq.mpr (iN (e.symm.trans b))
 ·injection q with q _
  rw[<- q] at b
  rw[rT e b]
theorem HG (a b:List UInt8):M1 G w s (.RT a) (.RT b):=λA x y J J r d=>by
 obtain⟨t,_,rfl⟩:=lD r
 obtain⟨t',_,rfl⟩:=lD d
 have c:(a.toArray.toList==b.toArray.toList)=decide (a=b):=by rw[PR,beq_iff_eq,decide_eq_true_iff]
 refine⟨decide (a=b),⟨λe=>By _ (of_decide_eq_true e),λe=>iF (V.RT.inj e)⟩,λe=>?_,rB _ _ _ _,λprog w E Q h=>eq_bytes (prog:=prog) (w:=w) (by rw[c];exact h),λprog w E Q h=>ne_bytes (prog:=prog) (w:=w) ?_⟩
 ·injection e with e _
  exact By V.RT (By Array.toList e)
 ·show Q (.bool (!(a.toArray.toList==b.toArray.toList))) _
  rw[c];exact h
include hf
theorem HC (vs:List V):M1 G w s .none (.tup vs):=λA x y J b r c=>by
 obtain⟨a,xs,n,rfl,m,_,_⟩:=jA c
 rw[d4 r]
 exact⟨QE,DW (λe=>by cases e),(λe=>by cases e),EqAt.none_tuple (RP.T7 (hf _ m)) b,RcAt.none_tuple (RP.T7 (hf _ m)) b,RcNeAt.none_tuple (RP.T7 (hf _ m)) b⟩
theorem HE (vs:List V):M1 G w s (.tup vs) .none:=λA x y J b r c=>by
 obtain⟨a,xs,n,rfl,m,_,_⟩:=jA r
 rw[d4 c]
 exact⟨QE,DW (λe=>by cases e),(λe=>by cases e),EqAt.tuple_none (RP.T7 (hf _ m)) b,RcAt.tuple_none (RP.T7 (hf _ m)) b,RcNeAt.tuple_none (RP.T7 (hf _ m)) b⟩
theorem HF {us vs:List V} (c:M2 G w s us vs):M1 G w s (.tup us) (.tup vs):=λA x y d p r z=>by
 obtain⟨a,xs,n,rfl,m,B,_⟩:=jA r
 obtain⟨b,ys,n',rfl,h,v,_⟩:=jA z
 obtain⟨f,q⟩:=c A.in1 xs ys (by have d:A.units+(1+TN.US us)<cLine:=d;show A.units+1+_<_;exact SD 0x61092052041400061092481041400 rfl d) (by have d:A.units+(1+TN.US us)<cLine:=d;show A.units+1<_;exact SD 0x61092041400061092481041400 rfl d) B v
 have g:a=b->us=vs:=λe=>by
  rw[<- e] at h
  have e:=ue hf m h
  injection e with _ _ e _
  injection e with e _
  exact q.id (By Array.toList e)
 have o:=RcAt.tuples (A:=A) (RP.T7 (hf _ m)) (RP.T7 (hf _ h)) p (e:=f) λj k l=>q.eq j k l
 have u:=RcNeAt.tuples (A:=A) (RP.T7 (hf _ m)) (RP.T7 (hf _ h)) p (e:=f) λj k l=>q.eq j k l
 rw[IF,IF,<- q.len.1,<- q.len.2] at o u
 have t:=vF us vs f q.fi
 refine⟨_,t.trans ⟨By _,V.tup.inj⟩,λe=>By _ (g (by injection e)),?_,o,u⟩
 by_cases i:a=b
 ·rw[t.mpr (g i),i]
  exact EqAt.same _
 ·exact EqAt.of_refs i o
theorem Hw {us vs:List V} (c:M2 G w s us vs):M1 G w s (.list us) (.list vs):=λA x y d k r C=>by
 obtain⟨a,xs,n,rfl,m,D,_⟩:=kj r
 obtain⟨b,ys,n',rfl,g,z,_⟩:=kj C
 obtain⟨f,q⟩:=c A.in1 xs ys (by have d:A.units+(1+TN.US us)<cLine:=d;show A.units+1+_<_;exact SD 0x61092052041400061092481041400 rfl d) (by have d:A.units+(1+TN.US us)<cLine:=d;show A.units+1<_;exact SD 0x61092041400061092481041400 rfl d) D z
 have h:a=b->us=vs:=λe=>by
  rw[<- e] at g
  have e:=ue hf m g
  injection e with _ _ e _
  injection e with e _
  exact q.id (By Array.toList e)
 have u:=vF us vs f q.fi
 have B:RcAt A s (.ref a) (.ref b) ((List.range (min us.length vs.length)).all f&&us.length==vs.length)/\RcNeAt A s (.ref a) (.ref b) (!((List.range (min us.length vs.length)).all f&&us.length==vs.length)):=by
  have z1:xs.toArray.size=us.length:=q.len.1.symm
  have z2:ys.toArray.size=vs.length:=q.len.2.symm
  by_cases hsz:us.length=vs.length
  ·have i:=RcAt.lists (A:=A) (RP.isList (hf _ m)) (RP.isList (hf _ g)) (by rw[z1,z2];exact hsz) k (e:=f) λj p t=>q.eq j p t
   have l:=RcNeAt.lists (A:=A) (RP.isList (hf _ m)) (RP.isList (hf _ g)) (by rw[z1,z2];exact hsz) k (e:=f) λj p t=>q.eq j p t
   rw[z1] at i l
   rw[<- hsz,Qb,beq_self_eq_true,Bool.and_true]
   exact⟨i,l⟩
  ·have v:(xs.toArray.size !=ys.toArray.size)=QD:=by rw[z1,z2];exact bne_iff_ne.mpr hsz
   rw[beq_false_of_ne hsz,OV]
   exact⟨RcAt.lists_lengths (RP.isList (hf _ m)) (RP.isList (hf _ g)) v k,RcNeAt.lists_lengths (RP.isList (hf _ m)) (RP.isList (hf _ g)) v k⟩
 obtain⟨i,l⟩:=B
 refine⟨_,u.trans ⟨By _,V.list.inj⟩,λe=>By _ (h (by injection e)),?_,i,l⟩
 by_cases o:a=b
 ·rw[u.mpr (h o),o]
  exact EqAt.same _
 ·exact EqAt.of_refs o i
omit hf
theorem Hz (b:List V):M2 G w s [] b:=λA xs ys J J r c=>by
 have l:=r.length;have a:=c.length
 have:xs=[]:=Me l.symm
 subst this
 refine⟨λJ=>QD,λe=>?_,⟨l,a⟩,λj h=>absurd h (OE _),λj h=>absurd h (OE _)⟩
 rw[<- e] at a
 exact(Me a).symm
theorem HB (a:List V):M2 G w s a []:=λA xs ys J J r c=>by
 have l:=r.length;have b:=c.length
 have:ys=[]:=Me b.symm
 subst this
 refine⟨λJ=>QD,λe=>?_,⟨l,b⟩,λj J h=>absurd h (OE _),λj J h=>absurd h (OE _)⟩
 rw[e] at l
 exact Me l
theorem Dh (h:M1 G w s a b) (hs:M2 G w s r t):M2 G w s (a::r) (b::t):=λA xs ys d m u l=>by
 refine dM (eT u) λx xs g p v=>?_;subst g
 refine dM (eT l) λy ys g n o=>?_;subst g
 have d:A.units+max (TN a) (TN.US r)<cLine:=d
 obtain⟨b,q⟩:=h A _ _ (bQ 0x610920C0060043061092040 rfl d (NH _ _)) m p n
 obtain⟨f,c⟩:=hs A _ _ (bQ 0x610920C0060043061092040 rfl d (N9 _ _)) m v o
 refine⟨λj=>Nat.rec b (λj J=>f j) j,λe=>?_,⟨By (· +1) c.len.1,By (· +1) c.len.2⟩,λj=>?_,λj=>?_⟩
 ·injection e with e1 e2
  rw[q.id e1,c.id e2]
 ·exact Nat.rec (λJ J=>q.bi.trans ⟨By QA,iN⟩) (λj J i k=>c.fi j (Oc i) (Oc k)) j
 ·exact Nat.rec (λJ J=>q.eq) (λj J i k=>c.eq j (Oc i) (Oc k)) j
include hf
theorem Cv (c:Cm u v):M1 G w s u v:=
 Cm.rec (motive_1:=λu v J=>M1 G w s u v) (motive_2:=λa vs J=>M2 G w s a vs) HA Hy Hv Hx Ht (HC hf) (HE hf) Hu Hs HD HG (λJ=>HF hf) (λJ=>Hw hf) Hz HB (λJ J=>Dh) c
open Classical in
theorem nq (c:UK u v=QD) (hu:A.units+TN u<cLine) (r:RO G w u x) (r':RO G w v y):RcAt A s x y (decide (u=v))/\RcNeAt A s x y (decide (u≠v)):=by
 obtain⟨b,q⟩:=Cv hf (Bz u v c) A x y hu (MU (LX ..) hu) r r'
 have a:decide (u=v)=b:=by rw[PR,decide_eq_true_eq];exact q.bi.symm
 have d:decide (u≠v)=!b:=by rw[<- a,decide_not]
 rw[a,d]
 exact⟨q.rc,q.ne⟩
end
end
section
open PySem.W PySem.Calls PyProof.Rows Builtin SeqAt MeetsSeq
open Classical
structure jY {K:Type} (R:V->K->Prop) (n:Nat):Prop where
 inj: ∀{v v':V} {a a':K},R v a->R v' a'->(a=a'↔v=v')
 kind: ∀{v:V} {a:K},R v a->kindOf v=n
theorem Dc:jY Wi 1:=⟨λ{v v' a a'} x y=>by
 obtain⟨n,e,h⟩:=x
 obtain⟨n',b,h'⟩:=y
 subst e b
 refine⟨λq=>?_,λq=>?_⟩
 ·subst q;rw[rT h h']
 ·cases q;rw[h] at h';exact iN h',λh=>aU h λn e J=>by rw[e];rfl⟩
theorem FU:jY RI 2:=⟨λe a=>by rw[e,a];simp,λe=>by rw[e];rfl⟩
theorem FT:jY RB 3:=⟨λe a=>by rw[e,a];simp,λe=>by rw[e];rfl⟩
section
variable {K:Type} {R:V->K->Prop}
theorem SI.length (h:SI R kvs ks):ks.length=kvs.length:=by
 induction h with
 |nil=>rfl
 |cons J J0 ih=>simp[ih]
theorem SI.uniq (X:jY R n) (h:SI R kvs ks) (h':SI R kvs ls):ks=ls:=by
 induction h generalizing ls with
 |nil=>cases h';rfl
 |cons r J ih=>
  cases h' with
  |cons a h'=>rw[(X.inj r a).mpr rfl,ih h']
theorem SI.kinds (X:jY R n) (h:SI R kvs ks): ∀p∈kvs,kindOf p.1=n:=by
 induction h with
 |nil=>intro p a;cases a
 |cons r J ih=>
  intro p a
  rcases tO.mp a with rfl|a
  ·exact X.kind r
  ·exact ih p a
theorem j8 [DecidableEq K] (X:jY R n) (h:SI R kvs ks) (r:RP G w (kvs.map (·.2)) xs) (hk:R k k'):
  (ks.zip xs).any (λp=>decide (p.1=k'))=kvs.any (λp=>decide (p.1=k)):=by
 induction h generalizing xs with
 |nil=>rfl
 |cons a J ih=>
  cases r with
  |cons r b=>
   simp only[Mj,PI,ih b]
   congr 1
   exact decide_eq_decide.mpr (X.inj a hk)
theorem dT [DecidableEq K] (X:jY R n) (h:SI R kvs ks) (r:RP G w (kvs.map (·.2)) xs) (hk:R k k'):
  match T4 kvs k with
  |some v=> ∃x,valueAt (ks.zip xs) k'=QA x/\RO G w v x
  |Option.none=>valueAt (ks.zip xs) k'=Option.none:=by
 induction h generalizing xs with
 |nil=>rfl
 | @cons k1 v1 Vo J J0 h1 J1 ih=>
  cases r with
  |cons r b=>
   by_cases e:k1=k
   ·have a:Vo=k':=(X.inj h1 hk).mpr e
    simp only[T4,valueAt,Mj,List.find?_cons,e,a,decide_true,PT]
    exact⟨_,rfl,r⟩
   ·have a: ¬Vo=k':=λq=>e ((X.inj h1 hk).mp q)
    have:=ih b
    simp only[T4,valueAt,Mj,List.find?_cons,e,a,decide_false] at this ⊢
    exact this
theorem qc [DecidableEq K] (X:jY R n) (h:SI R kvs ks) (r:RP G w (kvs.map (·.2)) xs) (hk:R k k') (hv:RO G w v x):
  ∃xs',(ks.zip xs).map (λp=>if p.1=k' then(p.1,x) else p)=ks.zip xs'/\SI R (kvs.map λp=>if p.1=k then(p.1,v) else p) ks/\RP G w ((kvs.map λp=>if p.1=k then(p.1,v) else p).map (·.2)) xs':=by
 induction h generalizing xs with
 |nil=>exact⟨[],by exact rfl,.nil,.nil⟩
 | @cons k1 v1 Vo J J0 h1 J1 ih=>
  cases r with
  | @cons J y J0 ys r rs=>
   refine kE (ih rs) λxs' b c d=>?_
   by_cases e:k1=k
   ·have a:Vo=k':=(X.inj h1 hk).mpr e
    refine⟨x::xs',?_,?_,?_⟩
    ·rw[Mj,L0,b,L6 a,Mj]
    ·rw[L0,L6 e];exact .cons h1 c
    ·rw[L0,L6 e,L0];exact .cons hv d
   ·have a: ¬Vo=k':=λq=>e ((X.inj h1 hk).mp q)
    refine⟨y::xs',?_,?_,?_⟩
    ·rw[Mj,L0,b,L4 a,Mj]
    ·rw[L0,L4 e];exact .cons h1 c
    ·rw[L0,L4 e,L0];exact .cons r d
theorem SI.snoc (h:SI R kvs ks) (hk:R k k'):SI R (kvs++[(k,v)]) (ks++[k']):=by
 induction h with
 |nil=>exact .cons hk .nil
 |cons a J ih=>exact .cons a ih
theorem sF [DecidableEq K] (X:jY R n) (h:SI R kvs ks) (r:RP G w (kvs.map (·.2)) xs) (hk:R k k') (hv:RO G w v x):
  ∃Y5 xs',stored (ks.zip xs) k' x=Y5.zip xs'/\SI R (dput kvs k v) Y5/\RP G w ((dput kvs k v).map (·.2)) xs':=by
 delta stored dput
 rw[j8 X h r hk]
 by_cases e:kvs.any (λp=>decide (p.1=k))=QD
 ·rw[L6 e,L6 e]
  exact kE (qc X h r hk hv) λxs' a b c=>(⟨ks,xs',a,b,c⟩)
 ·rw[L4 e,L4 e]
  refine⟨ks++[k'],xs++[x],?_,h.snoc hk,?_⟩
  ·rw[List.zip_append (by rw[h.length,<- r.length,LZ])];rfl
  ·rw[Mc];exact r.append (.cons hv .nil)
theorem qV [DecidableEq K] (X:jY R n) (h:SI R kvs ks) (r:RP G w (kvs.map (·.2)) xs) (hk:R k k'):
  ∃Y5 xs',without (ks.zip xs) k'=Y5.zip xs'/\SI R (ZL kvs k) Y5/\RP G w ((ZL kvs k).map (·.2)) xs':=by
 induction h generalizing xs with
 |nil=>exact⟨[],[],rfl,.nil,.nil⟩
 | @cons k1 v1 Vo J J0 h1 J1 ih=>
  cases r with
  | @cons J y J0 ys r rs=>
   refine dM (ih rs) λY5 xs' b c d=>?_
   dsimp only[without] at b ⊢
   dsimp only[ZL] at c d ⊢
   by_cases e:k1=k
   ·have a:Vo=k':=(X.inj h1 hk).mpr e
    refine⟨Y5,xs',?_,?_,?_⟩
    ·rw[Mj,Nu (by simp[a]),b]
    ·rw[Nu (by simp[e])];exact c
    ·rw[Nu (by simp[e])];exact d
   ·have a: ¬Vo=k':=λq=>e ((X.inj h1 hk).mp q)
    refine⟨Vo::Y5,y::xs',?_,?_,?_⟩
    ·rw[Mj,Nv (by exact L6 a),b,Mj]
    ·rw[Nv (by exact L6 e)];exact .cons h1 c
    ·rw[Nv (by exact L6 e),L0];exact .cons r d
end
end
section
set_option tactic.hygienic true
open PySem.W PySem.Calls PyProof.Rows Builtin
open Classical
theorem nU {prog:QX} {w:QW} {K K':Type} [DecidableEq K] [DecidableEq K'] {knd:Q2 prog w K} {aBW:Q2 prog w K'} {o:Obj} (h:o.IsDictOf knd []):o.IsDictOf aBW []:=by
 refine DT h λes ep a b h3 c h5=>?_
 have:es= #[]:=by
  have:=c.length
  simpa using this
 subst this
 exact⟨#[],ep,a,b,(λe d=>by simp at d),.nil,.nil⟩
section
theorem ka {K:Type} [DecidableEq K] {R:V->K->Prop} {n:Nat} (X:jY R n) (knd:Q2 G.prog G.w K) {w':Ld} {WG:List (V×V)} {Y5:List K} {xs':List QG} {o':Obj}
  (hS: ∀v s,R v s-> ∀m,v= .str m->(nm.str[m]?).isSome=QD)
  (tS:n=1-> ∀ls,SI Wi WG ls->o'.IsDictOf (strKind G.prog G.w) (ls.zip xs')) (tI:n=2-> ∀ls,SI RI WG ls->o'.IsDictOf (intKind G.prog G.w) (ls.zip xs')) (tB:n=3-> ∀ls,SI RB WG ls->o'.IsDictOf (bytesKind G.prog G.w) (ls.zip xs'))
  (h1:SI R WG Y5) (h2:RP G w' (WG.map (·.2)) xs') (h3:o'.IsDictOf knd (Y5.zip xs')):kz G w' WG o':=by
 have c:o'.ExactDict:=h3.elim λJ h=>h.elim λJ h=>h.1
 refine⟨xs',c,h2,?_,?_,?_,?_⟩
 ·intro p b m e
  clear h2 h3 tS tI tB
  induction h1 with
  |nil=>cases b
  |cons r J ih=>
   rcases tO.mp b with rfl|b
   ·exact hS _ _ r m e
   ·exact ih b
 all_goals
  intro ls a
  cases WG with
  |nil=>
   cases a
   cases h1
   exact nU h3
  |cons p r=>
   have d:=h1.kinds X p (.head _)
   first
   |exact tS (d.symm.trans (a.kinds Dc p (.head _))) ls a
   |exact tI (d.symm.trans (a.kinds FU p (.head _))) ls a
   |exact tB (d.symm.trans (a.kinds FT p (.head _))) ls a
theorem Yz {kvs:List (V×V)}:(∀p∈kvs,kindOf p.1=1)->(∀p∈kvs,∀n,p.1= .str n->(nm.str[n]?).isSome=QD)-> ∃ks,SI Wi kvs ks:=by
 induction kvs with
 |nil=>exact λJ J=>⟨[],.nil⟩
 |cons q r ih=>
  intro h h'
  refine(ih (λp c=>h p (.tail _ c)) λp c=>h' p (.tail _ c)).elim λks e=>?_
  have k:=h q (.head _)
  have f:=h' q (.head _)
  rcases q with⟨a,b⟩
  rcases a<;>first|(cases k;done)|skip
  exact(Mv.mp (f _ rfl)).elim λx d=>⟨x::ks,.cons ⟨_,rfl,d⟩ e⟩
theorem Yy {kvs:List (V×V)}:(∀p∈kvs,kindOf p.1=2)-> ∃ks,SI RI kvs ks:=by
 induction kvs with
 |nil=>exact λJ=>⟨[],.nil⟩
 |cons q r ih=>
  intro h
  refine(ih λp c=>h p (.tail _ c)).elim λks e=>?_
  have k:=h q (.head _)
  rcases q with⟨a,b⟩
  rcases a<;>first|(cases k;done)|exact⟨_::ks,.cons rfl e⟩
theorem Yx {kvs:List (V×V)}:(∀p∈kvs,kindOf p.1=3)-> ∃ks,SI RB kvs ks:=by
 induction kvs with
 |nil=>exact λJ=>⟨[],.nil⟩
 |cons q r ih=>
  intro h
  refine(ih λp c=>h p (.tail _ c)).elim λks e=>?_
  have k:=h q (.head _)
  rcases q with⟨a,b⟩
  rcases a<;>first|(cases k;done)|exact⟨_::ks,.cons rfl e⟩
theorem kz.view (D:kz G w kvs o) (hk:ir kvs k) (r:RO G w k key) {T:Prop} (j: ∀(K:Type) (dec:DecidableEq K) (knd:Q2 G.prog G.w K) (R:V->K->Prop) (n:Nat) (ks:List K) (xs:List QG) (k':K),jY R n->SI R kvs ks->RP G w (kvs.map (·.2)) xs->R k k'->knd.is k' key=QD->o.IsDictOf knd (ks.zip xs)->
  (∀(w':Ld) (WG:List (V×V)) (Y5:List K) (xs':List QG) (o':Obj),SI R WG Y5->RP G w' (WG.map (·.2)) xs'->o'.IsDictOf knd (Y5.zip xs')->kz G w' WG o')->T):T:=by
 obtain⟨xs,_,p,B,y,x,u⟩:=D
 revert j
 obtain⟨z,hk⟩:=hk
 cases r<;>first|exact absurd rfl z|skip
 ·rename_i i t
  intro j;exact(Yy hk).elim λks d=>j _ inferInstance (intKind G.prog G.w) RI 2 ks xs i FU d p rfl (intKind_is _ _ _ _) (x ks d) λw' WG Y5 xs' o' a g c=>
   ka FU _ (λv s e m f=>by cases f.symm.trans e) (λe=>absurd e (by decide)) (λJ q l=>by rw[l.uniq FU a];exact c) (λe=>absurd e (by decide)) a g c
 ·rename_i n s t A
  intro j;exact(Yz hk B).elim λks d=>j _ inferInstance (strKind G.prog G.w) Wi 1 ks xs s Dc d p ⟨n,rfl,A⟩ (strKind_is _ _ _ _) (y ks d) λw' WG Y5 xs' o' a g c=>
   ka Dc _ (λv s e m f=>by refine aU e λn' e h=>?_;rw[V.str.inj (f.symm.trans e),h];rfl) (λJ q l=>by rw[l.uniq Dc a];exact c) (λe=>absurd e (by decide)) (λe=>absurd e (by decide)) a g c
 ·rename_i b t _
  intro j;exact(Yx hk).elim λks d=>j _ inferInstance (bytesKind G.prog G.w) RB 3 ks xs b FT d p rfl (by simp[bytesKind,isBytes]) (u ks d) λw' WG Y5 xs' o' a g c=>
   ka FT _ (λv s e m f=>by cases f.symm.trans e) (λe=>absurd e (by decide)) (λe=>absurd e (by decide)) (λJ q l=>by rw[l.uniq FT a];exact c) a g c
end
end
section
set_option tactic.hygienic true
open PySem.W PySem.Calls PyProof.Rows Builtin SeqAt
open Classical
theorem wg {α:Type} (xs:List α) (l h:Nat):(xs.drop (min l xs.length)).take (min h xs.length-min l xs.length)=(xs.take h).drop l:=by
 rw[Py,kmk_drop_min]
 by_cases e:l<=xs.length
 ·rw[IS e]
  by_cases a:h<=xs.length
  ·rw[IS a]
  ·rw[O8 (by exact RW 6597086949440 rfl a),Nb (by simp),Nb (by simp;exact bQ 0x604830818620120C2063040 rfl a (iS (SD 0x60080063042060040 rfl e a)))]
 ·rw[List.drop_of_length_le (by exact RW 6597086949440 rfl e)];simp
section
variable {E:QG->QH->Prop}
theorem fC {value slice:QF} {o i:QG} {T id:String} {Q:QG->QH->Prop} (hT:s.TypeIs o T)
  (hl:typeLookup (.type T) "__getitem__" =pure (QA (.builtin id))) (h:wpAny (model prog RX) A (getItem o i) Q E s)
  (hs: ∃ops,subscripted slice QE o i=operate ops (getItem o i)):
  wpAny (model prog RX) A (subscriptTail value slice o i) Q E s:=by
 obtain⟨ops,hs⟩:=hs
 refine oF ?_
 rw[getitemInPython_of_ne hT.not_modules]
 refine oF (MD hT hl ?_)
 have a:wpAny (model prog RX) A (subscripted slice QE o i) (λr b=>wpAny (model prog RX) A (letTemporaryGo value o r>>=λJ=>pure r) Q E b) E s:=by
  rw[hs]
  exact wpAny_operate' (wpAny_mono h (λr b c=>oF (wpAny_letTemporaryGo (LW c))) λJ J x=>x)
 first
  |exact LW (oF a)
  |exact oF (LW (oF a))
  |exact oF a
theorem gW (h:isSlice slice=QE) (o i:QG): ∃ops,subscripted slice QE o i=operate ops (getItem o i):=by
 refine⟨[o,i],?_⟩
 cases slice<;>first|rfl|cases h
end
section
theorem Sg.Qq (S:Sg G w mu pv frs L m Z s): ∀p∈w.fz,s.heap.get? p.1=QA p.2:=λJ a=>S.N.get (S.UW a)
theorem Sg.low (S:Sg G w mu pv frs L m Z s) (hp:p∈mu.flatten++(w.fz++(pv++fill s.heap frs))) (hm:(G.base.get? sysModules).isSome=QD):(p.1==sysModules)=QE:=by
 refine beq_eq_false_iff_ne.mpr λe=>?_
 have:=(S.N p hp).2.2
 rw[e] at this
 rw[this] at hm
 cases hm
theorem zj: ∀{vs:List V} {xs:List QG},(∀v∈vs,∃j,v=V.int j)->RP G w vs xs->(∀y∈xs,∃j u,y= .int j u)/\ ∀i:Int,xs.any (λy=>match y with| .int j J=>j==i|_=>QE)=decide (V.int i∈vs):=by
 intro vs
 induction vs with
 |nil=>exact λJ r=>RP.Qo r ⟨λy a=>(Mw a).elim,λi=>rfl⟩
 |cons v vs ih=>
  intro xs h r
  refine RP.XY r λx xs r f=>?_
  obtain⟨b,c⟩:=ih (λv d=>h v (.tail _ d)) f
  obtain⟨j,e⟩:=h _ (.head _)
  rw[e] at r
  refine RO.UN r λt=>⟨λy a=>?_,λi=>?_⟩
  ·rcases tO.mp a with e|a
   ·exact⟨_,_,e⟩
   ·exact b y a
  ·rw[PI,c,e]
   rw[PR]
   simp only[Bool.or_eq_true,beq_iff_eq,decide_eq_true_eq,tO,V.int.injEq]
   exact or_congr ⟨Eq.symm,Eq.symm⟩ Iff.rfl
theorem Tu {op:CO} (Ry:op= .lt\/op= .ge) {u v:V} {Q:Bool->Prop} (h:cP Z op u v Q):(∃i j,u= .int i/\v= .int j/\cP [] op (.int i) (.int j) Q)\/ ∃x y,u= .RT x/\v= .RT y/\cP [] op (.RT x) (.RT y) Q:=by
 rcases Ry with e|e<;>(
  rw[e] at h ⊢
  rcases u<;>try exact h.elim
  ·rcases v<;>first|exact h.elim|exact .inl ⟨_,_,rfl,rfl,h⟩
  ·rcases v<;>first|exact h.elim|exact .inr ⟨_,_,rfl,rfl,h⟩)
noncomputable def FG (o:CO):Bool:=CO.casesOn o QD QE QD QD QD QD QD QE QD
theorem wG {op:CO} (Ry:op= .eq\/op= .ne) {u v:V} {Q:Bool->Prop} (h:cP Z op u v Q):UK u v=QD/\TN u<=20/\((op= .eq/\Q (decide (u=v)))\/(op= .ne/\Q (decide (u≠v)))):=by
 have b: ∀i j:Int,decide (V.int i=V.int j)=decide (i=j):=λi j=>decide_eq_decide.mpr ⟨V.int.inj,By _⟩
 have a: ∀i j:Int,decide (V.int i≠V.int j)=decide (i≠j):=λi j=>decide_eq_decide.mpr ⟨λh e=>h (By _ e),λh e=>h (V.int.inj e)⟩
 rcases Ry with e|e
 ·rw[e] at h ⊢
  rcases u<;>try exact⟨h.1,h.2.1,.inl ⟨rfl,h.2.2⟩⟩
  rcases v<;>try exact⟨h.1,h.2.1,.inl ⟨rfl,h.2.2⟩⟩
  exact⟨rfl,Mi _,.inl ⟨rfl,by rw[b];exact h⟩⟩
 ·rw[e] at h ⊢
  rcases u<;>try exact⟨h.1,h.2.1,.inr ⟨rfl,h.2.2⟩⟩
  rcases v<;>try exact⟨h.1,h.2.1,.inr ⟨rfl,h.2.2⟩⟩
  exact⟨rfl,Mi _,.inr ⟨rfl,by rw[a];exact h⟩⟩
theorem xq {op:CO} (Ry:op= .is\/op= .TL) {u v:V} {Q:Bool->Prop} (h:cP Z op u v Q):v= .none/\((op= .is/\Q (match (generalizing:=false) u with| .none=>QD|_=>QE))\/(op= .TL/\Q (match (generalizing:=false) u with| .none=>QE|_=>QD))):=by
 rcases Ry with e|e<;>(
  rw[e] at h ⊢
  rcases v<;>try exact h.elim)
 ·exact⟨rfl,.inl ⟨rfl,h⟩⟩
 ·exact⟨rfl,.inr ⟨rfl,h⟩⟩
theorem Yv {u v:V} {Q:Bool->Prop} (h:cP Z .isin u v Q):(∃vs i,v= .tup vs/\u= .int i/\(∀v∈vs,∃j,v=V.int j)/\Q (decide (V.int i∈vs)))\/ ∃r kvs,v= .ref r/\Z[r]?=QA (.dict kvs)/\ir kvs u/\Q (T4 kvs u).isSome:=by
 rcases v<;>try exact h.elim
 ·rcases u<;>first|exact h.elim|exact .inl ⟨_,_,rfl,rfl,h.1,h.2.2⟩
 ·rename_i r
  have h:(match Z[r]? with
   |some (.dict kvs)=>ir kvs u/\Q (T4 kvs u).isSome
   |_=>False):=h
  obtain⟨o,a⟩: ∃o,Z[r]?=o:=⟨_,rfl⟩
  rw[a] at h
  rcases o with _|_|_|_|_|_<;>first|exact h.elim|exact .inr ⟨_,_,rfl,a,h.1,h.2⟩
theorem nc (r:RO G w u x):(x==Value.none)=(match (generalizing:=false) u with| .none=>QD|_=>QE):=by
 rcases r<;>rfl
theorem Er (hu:n+60<cLine) (h:TN u<=20):n+TN u<cLine:=SD 0x61052080060501402061052F01400 rfl hu h
theorem gL (op:CO) (hm:(G.base.get? sysModules).isSome=QD) (hu:A.units+60<cLine) (h:cP Z op u v (λr=>Q (.bool r) Z)) (S:Sg G w mu pv frs L m Z s) (P:hW G pv frs L m w Q PQ) (ra:RO G w u a) (rb:RO G w v b):
  wpAny (model G.prog G.w) A (compareOp (Cw op) a b) PQ PE s:=by
 have g: ∀{r r':Bool} {s':QH},Q (.bool r) Z->(s'.heap,s'.os,s'.gens)=(s.heap,s.os,s.gens)->r'=r->PQ (.bool r') s':=λq I e=>by
  subst e
  exact P _ _ _ _ _ _ q (.refl _) (S.eq I) (.bool _)
 rcases op with _|_|_|_|_|_|_|_|_
 ·refine me (wG (.inl rfl) h) λc d q=>?_
  rcases q with⟨_,q⟩|⟨e,_⟩
  ·exact(nq S.Qq c (Er hu d) ra rb).1 G.prog G.w PE PQ (g q rfl rfl)
  ·exact SP (By FG e).symm
 ·refine me (wG (.inr rfl) h) λc d q=>?_
  rcases q with⟨e,_⟩|⟨_,q⟩
  ·exact SP (By FG e)
  ·exact(nq S.Qq c (Er hu d) ra rb).2 G.prog G.w PE PQ (g q rfl rfl)
 ·rcases Tu (.inl rfl) h with⟨i,j,p,k,q⟩|⟨x,y,p,k,q⟩
  ·rw[p] at ra;rw[k] at rb
   exact RO.UN ra λJ=>RO.UN rb λJ=>lt_int (g q rfl rfl)
  ·rw[p] at ra;rw[k] at rb
   exact RO.W8 ra λJ J=>RO.W8 rb λJ J=>xJ (g q rfl rfl)
 ·refine dM (dz (f:=λi j=>Q (.bool (decide (i<=j))) Z) h) λi j p k q=>?_
  rw[p] at ra;rw[k] at rb
  exact RO.UN ra λJ=>RO.UN rb λJ=>le_int (g q rfl rfl)
 ·refine dM (dz (f:=λi j=>Q (.bool (decide (j<i))) Z) h) λi j p k q=>?_
  rw[p] at ra;rw[k] at rb
  exact RO.UN ra λJ=>RO.UN rb λJ=>gt_int (g q rfl rfl)
 ·rcases Tu (.inr rfl) h with⟨i,j,p,k,q⟩|⟨x,y,p,k,q⟩
  ·rw[p] at ra;rw[k] at rb
   exact RO.UN ra λJ=>RO.UN rb λJ=>ge_int (g q rfl rfl)
  ·rw[p] at ra;rw[k] at rb
   exact RO.W8 ra λJ J=>RO.W8 rb λJ J=>w0 (g q rfl rfl)
 ·obtain⟨k,q⟩:=xq (.inl rfl) h
  rw[k] at rb
  refine RO.Rc rb ?_
  rcases q with⟨_,q⟩|⟨e,_⟩
  ·exact is_none (g q rfl (nc ra))
  ·exact SP (By FG e).symm
 ·obtain⟨k,q⟩:=xq (.inr rfl) h
  rw[k] at rb
  refine RO.Rc rb ?_
  rcases q with⟨e,_⟩|⟨_,q⟩
  ·exact SP (By FG e)
  ·exact isNot_none (g q rfl ((By Bool.not (nc ra)).trans (by rcases u<;>rfl)))
 ·rcases Yv h with⟨vs,i,k,p,h1,q⟩|⟨r,kvs,k,ho,hk,q⟩
  ·rw[p] at ra;rw[k] at rb
   refine RO.UN ra λJ=>RO.Xu rb λl xs n hm T J=>?_
   obtain⟨N,O⟩:=zj h1 T
   refine in_tupleAt (λy=>match y with| .int j J=>j==i|_=>QE) (RP.T7 (S.Qq _ hm)) (λy M=>?_) (g q rfl ?_)
   ·refine oX (N y (Array.mem_def.mp M)) λj u e=>?_
    rw[e]
    exact EqAt.int_int _ _ _ _
   ·rw[<- O,List.any_toArray]
  ·rw[k] at rb
   refine RO.WA rb λa H=>?_
   obtain⟨o,_,t,_,D⟩:=S.WZ H ho
   refine D.view hk ra λK dec knd R n Yw Zp k1 U F B z E C X9=>?_
   have e:=dT U F B z
   refine kda_in S.N t C (S.low t hm) E (T4 kvs u).isSome ?_ (g q rfl rfl)
   revert e
   rcases T4 kvs u with _|v
   ·exact λe=>by rw[e];rfl
   ·exact λh=>aU h λx e J=>by rw[e];rfl
end
end
section
set_option tactic.hygienic true
open PySem.W PySem.Calls PyProof.Rows Builtin SeqAt
open Classical
theorem XO (h:idx n k=QA j):(0<=k/\k<n/\k.toNat=j)\/(k<0/\ -(n:Int)<=k/\(k+n).toNat=j):=by
 have h:(if 0<=k/\k<n then QA k.toNat else if k<0/\ -(n:Int)<=k then QA (k+n).toNat else QC)=QA j:=h
 by_cases c:0<=k/\k<n
 ·rw[L6 c] at h;exact .inl ⟨c.1,c.2,iN h⟩
 ·rw[L4 c] at h
  by_cases c:k<0/\ -(n:Int)<=k
  ·rw[L6 c] at h;exact .inr ⟨c.1,c.2,iN h⟩
  ·rw[L4 c] at h;cases h
theorem xk (h:idx n k=QA j): -(n:Int)<=k/\k<n:=by
 rcases XO h with⟨a,b,_⟩|⟨a,b,_⟩
 ·exact⟨Qc (Int.neg_nonpos_of_nonneg (oR n)) a,b⟩
 ·exact⟨b,OD a (oR n)⟩
theorem Ao (h:idx n k=QA j):seqIndex? k n=QA j:=by
 have c: ∀i:Int,0<=i->i<n->i.toNat=j->(if(decide (0<=i)&&decide (i<n))=QD then QA i.toNat else QC)=QA j:=λi a b e=>by
  rw[iF a,iF b,e];rfl
 unfold seqIndex?
 rcases XO h with⟨a,b,e⟩|⟨a,b,e⟩
 ·rw[L4 (Nf.mpr a)]
  exact c k a b e
 ·rw[L6 a]
  exact c (k+n) (mC 0x704D500A011070296540 rfl b) (mC 0x1C55013540281C4044A rfl a) e
section
variable {G:Gt}
theorem mq {l:QK} {xs:List QG} {k:Int} {t:Tok} {j:Nat} {x:QG} {Q:QG->QH->Prop} (hl:s.heap.IsList l xs.toArray) (hn:xs.length<=2000000) (hj:idx xs.length k=QA j) (hx:xs[j]?=QA x) (h:Q x s):
  wpAny (model G.prog G.w) A (getItem (.ref l) (.int k t)) Q PE s:=by
 rcases XO hj with⟨a,b,e⟩|⟨a,b,e⟩
 ·exact wpAny_getItem_list hl a (mC 0x1C40FC26CA071540281807A12004400 rfl hn b) (by rw[e,Oj];exact hx) h
 ·exact wpAny_getItem_list_neg hl a (by rw[IF];exact b) (mC 0x1C0A580FC26C1C0A595001807A12004400 rfl hn b) (by rw[IF,e,Oj];exact hx) h
theorem iY {f:Int->Prop} {v:V} (h:match v with
  | .int k=>f k
  |_=>False): ∃k,v= .int k/\f k:=by
 rcases v<;>first|exact h.elim|exact⟨_,rfl,h⟩
theorem Uc {r:Nat} {v:V} {Q:V->Prop} (h:lV Z (.ref r) v Q):(∃vs k j x,Z[r]?=QA (.list vs)/\v= .int k/\idx vs.length k=QA j/\vs[j]?=QA x/\Q x)\/ ∃kvs x,Z[r]?=QA (.dict kvs)/\ir kvs v/\T4 kvs v=QA x/\Q x:=by
 obtain⟨o,a⟩: ∃o,Z[r]?=o:=⟨_,rfl⟩
 have h:(match (generalizing:=false) o with
  |some (.list vs)=>(match (generalizing:=false) v with
   | .int k=> ∃j v,idx vs.length k=QA j/\vs[j]?=QA v/\Q v
   |_=>False)
  |some (.dict kvs)=>ir kvs v/\ ∃x,T4 kvs v=QA x/\Q x
  |_=>False):=a▸h
 rcases o with _|_|kvs|vs|_|_<;>try exact h.elim
 ·exact .inr ⟨kvs,h.2.choose,a,h.1,h.2.choose_spec⟩
 ·obtain⟨k,e,j,x,h⟩:=iY h
  exact .inl ⟨vs,k,j,x,a,e,h⟩
theorem m3 (hs:isSlice slice=QE) {xs:List QG} {vs:List V} {k:Int} {j:Nat} {n:Nat} (S:Sg G w mu pv frs L m Z s) (P:hW G pv frs L m w Q PQ) (hg:s.heap.get? l=QA (listOf xs.toArray n)) (rs:RP G w vs xs) (hn:vs.length<=2000000) (hj:idx vs.length k=QA j) (hc:vs[j]?=QA x) (q:Q x Z):
  wpAny (model G.prog G.w) A (subscriptTail value slice (.ref l) (.int k t)) PQ PE s:=by
 refine aU (rs.get hc) λy b c=>?_
 have a:=RP.isList hg
 rw[rs.length] at hn hj
 exact fC (Heap.IsList.typeIs a) slot_list_getitem.lookup (mq a hn hj b (P _ _ _ _ _ _ q (.refl _) S c)) (gW hs _ _)
theorem Bc {value slice:QF} (hs:isSlice slice=QE) {u v:V} {a b:QG} (h:lV Z u v (λr=>Q r Z)) (S:Sg G w mu pv frs L m Z s) (P:hW G pv frs L m w Q PQ) (ra:RO G w u a) (rb:RO G w v b):
  wpAny (model G.prog G.w) A (subscriptTail value slice a b) PQ PE s:=by
 rcases u<;>try exact h.elim
 · -- octets
  rename_i x
  obtain⟨k,i,j,c,C,d,o,q⟩:=iY (f:=λk=> ∃j v,0<=k/\idx x.length k=QA j/\x[j]?=QA v/\Q (.int v.toNat) Z) h
  rw[i] at rb
  refine RO.UN rb λt=>RO.W8 ra λt' g=>(fC (Md _ _ _) OW.lookup (getItem_bytes (lb g rfl) C (xk d).2 ?_) (gW hs _ _))
  rcases XO d with⟨_,_,e⟩|⟨h1,_,_⟩
  ·rw[show x.getD k.toNat 0=c by rw[e,List.getD_eq_getElem?_getD,o];rfl]
   exact P _ _ _ _ _ _ q (.refl _) S (.int _ _)
  ·exact absurd C (P8.mpr h1)
 · -- a tuple
  rename_i vs
  obtain⟨k,i,j,c,d,o,q⟩:=iY (f:=λk=> ∃j v,idx vs.length k=QA j/\vs[j]?=QA v/\Q v Z) h
  rw[i] at rb
  refine RO.UN rb λt=>RO.Xu ra λl xs n B p g=>(aU (p.get o) λy W Y=>?_)
  have F:=RP.T7 (S.Qq _ B)
  rw[p.length] at d g
  have z:=xk d
  exact fC (IsTup.typeIs F) slot_tuple_getitem.lookup (getItem_tuple F (mC 0x1C0A580FC26C1C0A595001807A12004400 rfl g z.1) (mC 0x1C40FC26CA071540281807A12004400 rfl g z.2) (Ao (j:=j) (by rw[IF];exact d)) (by rw[Oj];exact W) (P _ _ _ _ _ _ q (.refl _) S Y)) (gW hs _ _)
 · -- a list aB8 is a value
  rename_i vs
  obtain⟨k,i,j,c,d,o,q⟩:=iY (f:=λk=> ∃j v,idx vs.length k=QA j/\vs[j]?=QA v/\Q v Z) h
  rw[i] at rb
  exact RO.UN rb λt=>RO.eList ra λl xs n B p g=>m3 hs S P (S.Qq _ B) p g d o q
 · -- a aBg object
  refine RO.WA ra λa H=>?_
  rcases Uc h with⟨vs,k,j,x,ho,i,d,o,q⟩|⟨kvs,x,ho,z,hv,q⟩
  ·rw[i] at rb
   obtain⟨n,xs,_,_,U,p,g⟩:=S.Qz H ho
   exact RO.UN rb λt=>m3 hs S P U p g d o q
  ·obtain⟨od,_,I,_,D⟩:=S.WZ H ho
   refine D.view z rb λK dec knd R n Yw Zp k1 wX T M J O N X9=>?_
   have e:=dT wX T M J
   rw[hv] at e
   refine aU e λx e X=>?_
   have E:=kda_dict S.N I N
   exact fC E.typeIs slot_dict_getitem.lookup (wpAny_getItem_of O E.mapOf e (P _ _ _ _ _ _ q (.refl _) S X)) (gW hs _ _)
theorem Si (h:truth Z v=QA r):v= .bool r\/ ∃vs,TP Z v=QA vs/\r=!vs.isEmpty:=by
 rcases v<;>try (cases h;done)
 ·exact .inl (By _ (iN h))
 ·exact .inr ⟨_,rfl,(iN h).symm⟩
 ·rename_i i
  obtain⟨o,a⟩: ∃o,Z[i]?=o:=⟨_,rfl⟩
  have h:(match (generalizing:=false) o with
   |some (.list vs)=>QA (!vs.isEmpty)
   |_=>QC)=QA r:=a▸h
  refine .inr ?_
  show ∃vs,(match (generalizing:=false) Z[i]? with
   |some (.list vs)=>QA vs
   |_=>QC)=QA vs/\_
  rw[a]
  rcases o with _|_|_|vs|_|_<;>try (cases h;done)
  exact⟨vs,rfl,(iN h).symm⟩
theorem dR (h:truth Z v=QA r) (S:Sg G w mu pv frs L m Z s) (rx:RO G w v x)
  (P: ∀s':QH,Sg G w mu pv frs L m Z s'->QB r s'):wpAny (model G.prog G.w) A (truthy x) QB PE s:=by
 rcases Si h with e|⟨vs,e,c⟩
 ·rw[e] at rx
  exact RO.aAE rx (OL (P _ S))
 ·refine mB (cF S e rx) λa xs n ex d b f=>?_
  rw[ex]
  refine wpAny_truthy_list (RP.isList (S.N.get d)) (by rw[IF,<- b.length];exact aX 0x1C40FC26D5001807A12004400 rfl f) ?_
  have e:xs.toArray.isEmpty=vs.isEmpty:=by
   rw[List.isEmpty_toArray]
   rcases b<;>rfl
  rw[e,<- c]
  exact P _ S
end
end
section
set_option tactic.hygienic true
open PySem.W PySem.Calls PyProof.Rows Builtin SeqAt
open Classical
section
variable {s:QH}
theorem St.push (S:St G w mu pv frs L m Z s.heap) (o:Obj):St G w mu pv frs L m Z (s.heap.push o):=
 S.re (S.F.push o) (S.N.grown λJ J e=>Nc _ e) S.nd S.os
theorem kr (h:bound d v=QA n) (r:RO G w v x): ∃o,IsPart x o/\(o=QC/\n=d\/o=QA (n:Int)):=by
 rcases v<;>try (cases h;done)
 ·exact RO.Rc r ⟨_,.none,.inl ⟨rfl,(iN h).symm⟩⟩
 ·rename_i i
  have h:(if 0<=i/\i<2^60 then QA i.toNat else QC)=QA n:=h
  by_cases c:0<=i/\i<2^60
  ·rw[L6 c] at h
   exact RO.UN r λt=>⟨_,.int _ _,.inr (by rw[<- iN h,NI c.1])⟩
  ·rw[L4 c] at h;cases h
theorem wk {o:Option Int} {n k:Nat} (h:o=QC/\n=0\/o=QA (n:Int)):o.elim 0 (clipAt k)=min n k:=by
 rcases h with⟨rfl,rfl⟩|rfl
 ·exact rfl
 ·exact clipAt_nat _ _
theorem wi {o:Option Int} {n k:Nat} (h:o=QC/\n=k\/o=QA (n:Int)):o.elim k (clipAt k)=min n k:=by
 rcases h with⟨rfl,rfl⟩|rfl
 ·simp
 ·exact clipAt_nat _ _
theorem Sf {u lo hi:V} {Q:V->Prop} (h:iG Z u lo hi Q):(∃b l h,u= .RT b/\bound 0 lo=QA l/\bound b.length hi=QA h/\Q (.RT ((b.take h).drop l)))\/ ∃vs l h,TP Z u=QA vs/\bound 0 lo=QA l/\bound vs.length hi=QA h/\Q (.list ((vs.take h).drop l)):=by
 rcases u<;>try exact .inr h
 exact .inl ⟨_,h.choose,h.choose_spec.choose,rfl,h.choose_spec.choose_spec⟩
theorem wj (xs:List α) (l h:Nat):((xs.take h).drop l).length<=xs.length:=by
 rw[L3,LY]
 exact bY (Ot _ _) (Mm _ _)
theorem vj {value lx hx:Option QF} {vx:QF} {p:Pos} {u lo hi:V} {a x y:QG} {sl:QK} (h:iG Z u lo hi (λr=>Q r Z)) (S:Sg G w mu pv frs L m Z s) (P:hW G pv frs L m w Q PQ) (ra:RO G w u a)
  (rl:RO G w lo x) (rh:RO G w hi y) (ZY:s.heap.IsSliceOf sl x y .none):wpAny (model G.prog G.w) A (subscriptTail vx (.Slice lx hx QC p) a (.ref sl)) PQ PE s:=by
 rcases Sf h with⟨b,l,h,eu,e2,e3,q⟩|⟨vs,l,h,c,e2,e3,q⟩
 ·refine aU (kr e2 rl) λz i cl=>(aU (kr e3 rh) λv g f=>?_)
  rw[eu] at ra
  refine RO.W8 ra λt d=>(fC (Md _ _ _) OW.lookup (getItem_meets (Md _ _ _) (by decide) OW FB.entry_bytes_getitem (FB.args_bytes_getitem_2 _ _) (KBc.meets_slice2 b.toArray t _ i g)
   ⟨ZY,bY (KBc.size_picked_le _ z v) (by rw[My,IF];exact lb d rfl),λt' k=>?_⟩) ⟨_,rfl⟩)
  have e:b.toArray.size=b.length:=IF
  have c:b.toArray.toList=b:=rfl
  rw[KBc.picked_eq,e,wk cl,wi f,c,wg]
  exact P _ _ _ _ _ _ q (.refl _) S (.RT _ _ (bY (wj b l h) d))
 ·refine mB (cF S c ra) λb xs n D E j d=>?_
  rw[D]
  refine aU (kr e2 rl) λz i cl=>(aU (kr e3 rh) λv g f=>?_)
  have o:=RP.isList (S.N.get E)
  have e:xs.toArray.size=vs.length:=IF.trans j.length.symm
  refine fC (Heap.IsList.typeIs o) slot_list_getitem.lookup (wpAny_getItem_list_slice o ZY i g .none (by decide) ?_ (by rw[My,e];exact lb d rfl)) ⟨_,rfl⟩
  rw[slicePick_plain,e,wk cl,wi f,j.length]
  refine kE (S.1.newList ((j.take h).drop l) (bY (wj vs l h) d)) λw' F B C=>?_
  have c:xs.toArray.toList=xs:=rfl
  rw[c,wg xs l h]
  exact P _ _ _ _ _ _ q F ⟨B,S.2⟩ C
end
end
section
set_option tactic.hygienic true
open PySem.W PySem.Calls PyProof.Rows Builtin SeqAt
open Classical
structure Cl (G:Gt) (c:Nat):Prop where
 makes:makesIn G.K (G.cls c)=QD
 ga:findIn G.K (.ref (G.cls c)) "__getattribute__" =QA (QA (.builtin "object.__getattribute__"))
 gt:findIn G.K (.ref (G.cls c)) "__getattr__" =QA QC
 sa:findIn G.K (.ref (G.cls c)) "__setattr__" =QA (QA (.builtin "object.__setattr__"))
 plain:plainOver G.K (G.cls c)=QD
 dict:(clsIn G.K (G.cls c)).any (·.hasDict)=QD
 free: ∀f s,P.at_ c f=QD->nm.attr[f]?=QA s->findIn G.K (.ref (G.cls c)) s=QA QC
 U0: ∀m s f,nm.U0[m]?=QA s->P.U0 c m=QA f->findIn G.K (.ref (G.cls c)) s=QA (QA (.ref (G.W9 f)))
 init: ∀f,P.init c=QA f->findIn G.K (.ref (G.cls c)) "__init__" =QA (QA (.ref (G.W9 f)))
structure Gd (G:Gt):Prop where
 X:G.K.In G.base
 nolimit:G.base.NoLimit
 mods:(G.base.get? sysModules).isSome=QD
 cl: ∀c f,P.at_ c f=QD->Cl G c
 fnT: ∀f,f<131->typeIn G.K (.ref (G.W9 f))=QA (.type "function")
theorem vK {s:Str} {i j:Nat} (h:nm.attr[i]?=QA s) (h':nm.attr[j]?=QA s):i=j:=by
 have d:nm.attr.Nodup:=by decide+kernel
 obtain⟨b,e⟩:=Ms.mp h
 obtain⟨c,a⟩:=Ms.mp h'
 rcases OM i j with q|q|q
 ·exact absurd (e.trans a.symm) (MI.mp d i j b c q)
 ·exact q
 ·exact absurd (a.trans e.symm) (MI.mp d j i c b q)
section
theorem tL {s s':Str} {k:Nat} (h:nm.attr[k]?=QA s') (h':nm.attr[k]?=QA s):(Value.str s' t).isStr s=QD:=beq_iff_eq.mpr (iN (h.symm.trans h'))
theorem p3 {s s':Str} {k f:Nat} (e: ¬k=f) (h:nm.attr[k]?=QA s') (h':nm.attr[f]?=QA s): ¬(Value.str s' t).isStr s=QD:=λq=>e (vK h ((eq_of_beq q:s'=s)▸h'))
theorem d2.find {s:Str} {fs:List (Nat×V)} {es:List QJ} (F:d2 G w fs es) {f:Nat} (h:iV fs f=QA u) (hs:nm.attr[f]?=QA s): ∃e,es.find? (·.key.isStr s)=QA e/\RO G w u e.val:=by
 induction fs generalizing es with
 |nil=>cases h
 |cons p fs ih=>
  obtain⟨k,v⟩:=p
  refine y5 (iX F) λs' t' x Qp b a i r=>?_
  rw[b]
  have h:(if k=f then QA v else iV fs f)=QA u:=h
  by_cases e:k=f
  ·rw[L6 e] at h
   rw[e] at a
   exact⟨_,List.find?_cons_of_pos (p:=λe:QJ=>e.key.isStr s) (tL a hs),iN h▸i⟩
  ·rw[L4 e] at h
   exact aU (ih r h) λc d g=>(⟨c,(List.find?_cons_of_neg (p:=λe:QJ=>e.key.isStr s) (p3 e a hs)).trans d,g⟩)
theorem d2.noRef {fs:List (Nat×V)} {es:List QJ} (F:d2 G w fs es):es.any (·.refKey)=QE:=by
 induction fs generalizing es with
 |nil=>rw[nT F];rfl
 |cons p fs ih=>
  refine y5 (iX F) λs' t' x Qp a hk hv r=>?_
  rw[a,PI,ih r];rfl
theorem d2.names {s:Str} {fs:List (Nat×V)} {es:List QJ} (F:d2 G w fs es) (h: ∀q∈fs,nm.attr[q.1]?≠QA s):es.any (·.key.isStr s)=QE:=by
 induction fs generalizing es with
 |nil=>rw[nT F];rfl
 |cons p fs ih=>
  refine y5 (iX F) λs' t' x Qp a b hv r=>?_
  rw[a,PI,ih r λq c=>h q (.tail _ c),PJ]
  exact beq_eq_false_iff_ne.mpr λe=>h p (.head _) (e▸b)
theorem d2.length {fs:List (Nat×V)} {es:List QJ} (F:d2 G w fs es):es.length=fs.length:=by
 induction fs generalizing es with
 |nil=>rw[nT F];rfl
 |cons p fs ih=>
  refine y5 (iX F) λs' t' x Qp a hk hv r=>?_
  rw[a];exact By (· +1) (ih r)
theorem d2.put {fs:List (Nat×V)} {es:List QJ} (F:d2 G w fs es) {f:Nat} {u:V} {s:Str} {x:QG} {t:Tok} (hs:nm.attr[f]?=QA s) (hu:RO G w u x):
  d2 G w (VS fs f u) (putL s (PyData.keyHash G.w.params s) (.str s t) x es):=by
 induction fs generalizing es with
 |nil=>rw[nT F];exact .cons hs hu .nil
 |cons p fs ih=>
  obtain⟨k,v⟩:=p
  refine y5 (iX F) λs' t' x' Qp b a c r=>?_
  rw[b]
  dsimp only[VS,putL]
  by_cases e:k=f
  ·rw[e] at a
   rw[L6 e,L6 (tL a hs),e]
   exact .cons a hu r
  ·rw[L4 e,L4 (p3 e a hs)]
   exact .cons a c (ih r)
theorem Aa: ∀{fs:List (Nat×V)},(∀q∈fs,P.at_ c q.1=QD)->P.at_ c f=QD-> ∀q∈VS fs f u,P.at_ c q.1=QD:=λ{l}=>l.rec (λJ h q a=>LS.mp a▸h) λd fs ih b h q a=>by
  obtain⟨k,v⟩:=d
  have a:q∈(if k=f then(k,u)::fs else(k,v)::VS fs f u):=a
  by_cases e:k=f
  ·rw[L6 e] at a
   exact(tO.mp a).elim (λe=>e▸b (k,v) (.head _)) λa=>b q (.tail _ a)
  ·rw[L4 e] at a
   exact(tO.mp a).elim (λe=>e▸b (k,v) (.head _)) λa=>ih (λq a=>b q (.tail _ a)) h q a
theorem wV: ∀l:List (Nat×V),(VS l f u).length<=l.length+1:=λb=>b.rec (AS _) λa l ih=>by
  obtain⟨k,v⟩:=a
  show(if k=f then(k,u)::l else(k,v)::VS l f u).length<=_
  by_cases e:k=f
  ·rw[L6 e];exact NX _
  ·rw[L4 e];exact M8 (ih)
theorem wN: ∀{fs:List (Nat×V)},iV fs f=QA u-> ∃q∈fs,q.1=f:=λ{l}=>l.rec fX λa fs ih h=>by
  obtain⟨k,v⟩:=a
  have h:(if k=f then QA v else iV fs f)=QA u:=h
  by_cases e:k=f
  ·exact⟨_,.head _,e⟩
  ·rw[L4 e] at h
   exact aU (ih h) λq b c=>(⟨q,.tail _ b,c⟩)
theorem jB {es:List QJ} {n:Nat}:lookIn name (dictOf es n)=(match (es.find? (λe:QJ=>e.key.isStr name):Option QJ) with|some e=>QA (QA e.val)|none=>if es.any (λe:QJ=>e.refKey) then QC else QA QC):=rfl
theorem p6 {es:List QJ} {n:Nat} {e:QJ} (h:es.find? (·.key.isStr name)=QA e):lookIn name (dictOf es n)=QA (QA e.val):=by
 rw[jB,h]
theorem p8 {es:List QJ} {n:Nat} (h:es.any (·.refKey)=QE):(lookIn name (dictOf es n)).isSome=QD:=by
 rw[jB,h]
 rcases es.find? (λe:QJ=>e.key.isStr name) with _|_<;>rfl
theorem p7 {es:List QJ} {n:Nat} (h:es.any (·.refKey)=QE) (h':es.any (·.key.isStr name)=QE):lookIn name (dictOf es n)=QA QC:=by
 rw[jB,h,NR.mpr λx a=>List.any_eq_false.mp h' x a]
 rfl
theorem RO.handed (r:RO G w v x):handedIn x=QD:=by rcases r<;>rfl
end
section
theorem wb (h:ZK Z (.ref i)=QA c): ∃fs,Z[i]?=QA (.inst c fs):=by
 have h:(match (generalizing:=false) Z[i]? with
  |some (.inst c J)=>QA c
  |_=>QC)=QA c:=h
 revert h
 rcases Z[i]? with _|_|_|_|_|_
 ·exact fX
 ·exact λh=>⟨_,By (λc=>QA (O.inst c _)) (iN h)⟩
 ·exact fX
 ·exact fX
 ·exact fX
 ·exact fX
theorem tG (S:Sg G w mu pv frs L m Z s) (rx:RO G w v x) (hc:ZK Z v=QA c):
  ∃a d fs es n,x= .ref a/\InstAt s.heap a (instObj (G.cls c) d) (G.cls c) (QA (dictOf es n))/\d2 G w fs es/\(∀q∈fs,P.at_ c q.1=QD)/\(∀f,V9 Z v f=iV fs f):=by
 rcases v<;>try (cases hc;done)
 ·rename_i o fs
  rw[<- (iN hc:o=c)]
  exact IP (C3 rx) λa d n es e b g j h=>(⟨a,d,fs,es,n,e,⟨S.Qq _ b,rfl,rfl,S.Qq _ g⟩,j,h,λf=>rfl⟩)
 ·rename_i i
  refine aU (nX rx) λa h e=>?_
  obtain⟨fs,k⟩:=wb hc
  obtain⟨d,n,es,_,b,g,j,l⟩:=S.Tc h k
  exact⟨a,d,fs,es,n,e,⟨b,rfl,rfl,g⟩,j,l,λf=>by
   show(match (generalizing:=false) Z[i]? with
    |some (.inst J fs)=>iV fs f
    |_=>QC)=_
   rw[k]⟩
theorem vJ (h:V9 Z v f=QA u): ∃c,ZK Z v=QA c:=by
 rcases v<;>try (cases h;done)
 ·exact⟨_,rfl⟩
 ·rename_i i
  have h:(match (generalizing:=false) Z[i]? with
   |some (.inst J a)=>iV a f
   |_=>QC)=QA u:=h
  show ∃c,(match (generalizing:=false) Z[i]? with
   |some (.inst c J)=>QA c
   |_=>QC)=QA c
  revert h
  rcases Z[i]? with _|_|_|_|_|_
  ·exact fX
  ·exact λJ=>⟨_,rfl⟩
  ·exact fX
  ·exact fX
  ·exact fX
  ·exact fX
theorem sV (Γ:Gd G) {f:Nat} (hn:nm.attr[f]?=QA name) (h:V9 Z v f=QA u) (q:Q u Z) (S:Sg G w mu pv frs L m Z s) (P':hW G pv frs L m w Q PQ) (rx:RO G w v x):
  wpAny (model G.prog G.w) A (getAttr x name ex) PQ PE s:=by
 obtain⟨c,p⟩:=vJ h
 obtain⟨a,d,fs,es,n,rfl,I,t,o,y⟩:=tG S rx p
 rw[y] at h
 refine aU (t.find h hn) λe r l=>(aU (wN h) λz j k=>?_)
 have b:P.at_ c f=QD:=k▸o z j
 have C:=Γ.cl c f b
 have X:=Γ.X.keeps S.F.keep
 refine aU (any_some C.dict) λcd i g=>(get_value X I C.ga ?_ l.handed (P' _ _ _ _ _ _ q (.refl _) S l))
 delta findObj
 rw[i,Option.bind_some,C.free f name b hn,Option.bind_some]
 dsimp only
 delta _root_.PySem.W.ownOf
 rw[g,L6 rfl]
 dsimp only
 rw[p6 r]
 rfl
theorem yw (Γ:Gd G) (hn:nm.attr[f]?=QA name) (ho:Z[r]?=QA (.inst c fs)) (Xx:P.at_ c f=QD) (hl:fs.length<=50)
  (S:Sg G w mu pv frs L m Z s) (ha:w.am[r]?=QA a) (ru:RO G w u x)
  (h: ∀s' SA,Sg G w SA pv frs L m (Z.set r (.inst c (VS fs f u))) s'->QU () s'):wpAny (model G.prog G.w) A (setAttr (.ref a) name x) QU PE s:=by
 have C:=Γ.cl c f Xx
 have X:=Γ.X.keeps S.F.keep
 refine FZ (S.Tc ha ho) λd n es D z B g v=>?_
 have I:InstAt s.heap a (instObj (G.cls c) d) (G.cls c) (QA (dictOf es n)):=⟨z,rfl,rfl,B⟩
 refine set_plain X I C.sa ?_
 have p:InstAt ({s with toks:=s.toks+1}:QH).heap a (instObj (G.cls c) d) (G.cls c) (QA (dictOf es n)):=I
 obtain⟨od',b⟩: ∃o,o=dictOf (putL name (PyData.keyHash G.w.params name) (.str name (s.toks+1)) x es) (putN name es n):=⟨_,rfl⟩
 refine mf (lh D [(a,instObj (G.cls c) d),(d,od')]) λx1 k y j=>?_
 have e: ∀o:Obj,x1++[(a,instObj (G.cls c) d),(d,o)]++k++(w.fz++(pv++fill s.heap frs))=(x1++[(a,instObj (G.cls c) d)])++(d,o)::(k++(w.fz++(pv++fill s.heap frs))):=λo=>by
  rw[LV,LV,LV];rfl
 have i:=S.nd
 have N:=S.N
 rw[y,e] at i N
 obtain⟨E,F⟩:=xR i
 refine osa_dict (s:={s with toks:=s.toks+1}) S.F N X p rfl C.plain ?_ C.dict ?_ E F (od':=od') (by rw[b,putName_dict]) (by rw[b]) ?_ λh' l q=>?_
 ·delta takerIn
  rw[C.free f name Xx hn]
  rfl
 ·exact p8 g.noRef
 ·show(putL _ _ _ _ _).length<=_
  rw[(g.put (t:=s.toks+1) hn ru).length]
  exact bY (wV fs) (lb (M8 hl) rfl)
 ·refine h _ _ ⟨S.1.re l (by rw[j,e];exact q) ?_ (S.os.set ha (by rw[b];exact .inst (g.put hn ru) (Aa v Xx))),S.2⟩
  rw[j,e]
  exact tT (o:=dictOf es n)▸i
end
end
section
set_option tactic.hygienic true
open PySem.W PySem.Calls PyProof.Rows
open Classical
section
variable {E:QG->QH->Prop}
theorem pn (hp:SF o=QD):attributeBase o attr env whole=whole:=by
 rcases o<;>try rfl
 rename_i f as b p
 rcases f<;>try rfl
 rename_i n q
 rcases as with _|⟨_,_⟩<;>try rfl
 rcases b with _|⟨_,_⟩<;>try rfl
 have a:(!((n==("super" :Str))&&QD&&QD))=QD:=hp
 have a:(n !=("super" :Str))=QD:=by
  revert a
  show _->(!(n==("super" :Str)))=QD
  cases(n==("super" :Str))<;>exact id
 show(if(n !=("super" :Str)||_||_||_)=QD then _ else _)=_
 rw[a]
 rfl
noncomputable def SS:List QF->Bool
 |[]=>QD
 | .Starred .. ::_=>QE
 |_::r=>SS r
theorem bP (h:SS (x::r)=QD):starEach (x::r) env=(QE,eval x env)::starEach r env/\SS r=QD:=by
 rcases x<;>first|exact⟨rfl,h⟩|exact SP h
theorem kH: ∀{xs:List QF},SS xs=QD->(backTo pos (starEach xs env)).any (·.1)=QE:=λ{l}=>l.rec (λJ=>rfl) λJ J ih h=>by rw[(bP h).1];exact ih (bP (env:=env) h).2
theorem vS: ∀{xs:List QF},SS xs=QD->(backTo pos (starEach xs env)).all (!·.1)=QD:=λ{l}=>l.rec (λJ=>rfl) λJ J ih h=>by rw[(bP h).1];exact ih (bP (env:=env) h).2
end
section
theorem Tv:SE N e c (.Starred v p)=QE:=by
 rcases e<;>rfl
theorem Y7:SE N e c (.Set vs k p)=QE:=by
 rcases e<;>rfl
theorem cY (h:SE N e c x=QD):SS (x::r)=SS r:=by
 rcases x<;>first|rfl|exact SP (Tv.symm.trans h)
theorem fM (h:SE N e c x=QD):behindInMarks op x=QE:=by
 rcases x<;>first|rfl|exact SP (Y7.symm.trans h)
theorem iC: ∀{es:Es} {c:Cx} {xs:List QF},TV N es c xs=QD->SS xs=QD:=by
 intro es
 induction es using Es.ind with
 |n=>
  intro c xs h
  cases xs with
  |nil=>rfl
  |cons=>exact SP h
 |c e r ih=>
  intro c xs h
  cases xs with
  |nil=>exact SP h
  |cons x xs=>exact(cY (a2 h).1).trans (ih (a2 h).2)
end
end
section
open PySem.W PySem.Calls PyProof.Rows
def F2 (h:QM) (e:QK):Prop:= ∃oe vs,h.get? e=QA oe/\oe.data= .fields vs/\vs[2]?=QA .none
structure YX (h0 h:QM) (e:QK) (cls:QG):Prop where
 keeps: ∀b o,h0.get? b=QA o->h.get? b=QA o
 new:h0.get? e=QC
 there: ∃t oe vs,h.get? e=QA oe/\oe.cls=cls/\oe.data= .fields vs/\vs[0]?=QA (.ref t)/\vs[1]?=QA .none/\h0.get? t=QC
theorem YX.of (x:Heap.MadeExcOf h0 h e cls vs):YX h0 h e cls/\F2 h e:=by
 obtain⟨t,a,b,_⟩:=x.there
 exact⟨⟨x.keeps,x.new,t,_,_,a,rfl,rfl,rfl,rfl,b⟩,_,_,a,rfl,rfl⟩
section
variable {E:QG->QH->Prop} {L e:QK}
theorem wF (WM:A.frames=QA (env::outer)) (hl:s.heap.FunFrames base (env::outer)) (hf:env.frame=QA L)
  (he:s.heap.get? e=QA oe) (hkb:base.StaysIn s.heap) (hen:base.get? e=QC) (hd:oe.data= .fields vs) (hsz:1<vs.size) (h0:vs[0]?=QA a0)
  (h: ∀h',Heap.NotedW base (env::outer) e oe.cls a0 (rawInt L) s.heap h'->(∃Xj Ui,h'.get? e=QA Xj/\Xj.data= .fields Ui/\Ui[2]?=vs[2]?)->Q () {s with heap:=h'}):
  wpAny M A (do let a <- frameOf env;let pl <- entryPlaceOf L aAk;let b <- EntryCells.newEntry head a .none (rawInt L) .none pl;setField (.ref e) 1 b) Q E s:=by
 have t:e∉(env::outer).filterMap (·.frame):=λw=>by
  obtain⟨_,o,p,i⟩:=hl.mem w
  rw[he] at p;injection p with p;subst p;exact i vs hd
 refine oF (wpAny_frameOf_fun WM hl hf λd g=>oF (wpAny_entryPlaceOf λpl C=>?_))
 refine oF (M4 ?_ (C.sizeOk5 _ _ _ _ _))
 have k:d.get? e=QA oe:=(g.2.1 e t).trans he
 have n:base.StaysIn d:=λb o r=>(g.2.1 b λw=>by rw[(hl.mem w).1] at r;cases r).trans (hkb b o r)
 generalize z:({cls:= .type "traceback",dict:=QC,data:= .fields ([head,.ref L,.none,rawInt L,.none]++(if pl.isEmpty then List.replicate 6 Value.none else pl)).toArray}:Obj)=tb
 have l:=Nc (h:=d) tb k
 have y:d.objs.size≠e:=Pt (MF k)
 have j:=Pu hd (·.setIfInBounds 1 (Value.ref d.objs.size))
 have m:=Ol (Obj.mapFields (·.setIfInBounds 1 (Value.ref d.objs.size))) l (Obj.isFreed_of_fields j)
 have f: ∀b o,b≠e->d.get? b=QA o->((d.push tb).update e (Obj.mapFields (·.setIfInBounds 1 (Value.ref d.objs.size)))).get? b=QA o:=λb o v c=>by
  rw[NJ _ _ (N7 v)]
  exact Nc _ c
 have nr: ∀b o,s.heap.get? b=QA o->(∀vs,o.data≠ .fields vs)->b≠e:=λb o c i q=>by
  rw[q,he] at c;injection c with c;subst c;exact i vs hd
 have u:(d.push tb).get? d.objs.size=QA tb:=MP d (by subst z;rfl)
 refine Pz l hd hsz (h _ ⟨λb o c=>f b o (λq=>by rw[q,hen] at c;cases c) (n b o c),hl.of_keeps λb o c i=>?_,?_,λb o c i=>?_⟩ ?_)
 ·obtain⟨B,x⟩:=g.2.2 b o c
  exact⟨_,f b _ (nr b o c i) x,rfl⟩
 ·exact⟨_,_,d.objs.size,tb,_,m,⟨Obj.cls_mapFields _ _,by rw[Array.getElem?_setIfInBounds_ne (by decide)];exact h0⟩,j,by simp[hsz],n.fresh,y,(NJ _ _ (N7 y)).trans u,(by subst z;rfl),by exact rfl⟩
 ·obtain⟨B,x⟩:=g.2.2 b o c
  exact⟨B,f b _ (nr b o c i) x⟩
 ·exact⟨_,_,m,j,by rw[Array.getElem?_setIfInBounds_ne (by decide)]⟩
theorem p9 (WM:A.frames=QA (env::outer)) (hf:env.frame=QA L) (hkb:base.StaysIn s.heap) (hl:s.heap.FunFrames base (env::outer)) (he:s.heap.get? e=QA oe) (hen:base.get? e=QC)
  (hd:oe.data= .fields vs) (h1:vs[1]?=QA .none) (h0:vs[0]?=QA a0)
  (hQ: ∀h',Heap.HeldW base (env::outer) e oe.cls a0 L h'->s.heap.UpToSlots h'->(F2 s.heap e->F2 h' e)->Q () {s with heap:=h'}):wpAny M A (noteFrame (.ref e) env) Q E s:=by
 delta noteFrame
 simp only[hf]
 refine oF (OO (x:= .none) he hd h1 ?_)
 refine wF (a0:=a0) WM hl hf he hkb hen hd (NM.mp h1).1 h0 λh' f a=>?_
 refine FE f λg i j k=>(dM a λc b d a2 a3=>(hQ h' ⟨g,hen,i,j⟩ k λh=>dM h λoe2 vs2 b1 b2 b3=>⟨c,b,d,a2,?_⟩))
 rw[he] at b1
 injection b1 with b1
 subst b1
 rw[hd] at b2
 injection b2 with b2
 subst b2
 rw[a3,b3]
theorem uX (WM:A.frames=QA (env::outer)) (hf:env.frame=QA L) (Vj:Heap.FlyingW base (env::outer) e cls a0 s.heap)
  (hQ: ∀h',Heap.HeldW base (env::outer) e cls a0 L h'->s.heap.UpToSlots h'->(F2 s.heap e->F2 h' e)->Q () {s with heap:=h'}):wpAny M A (noteFrame (.ref e) env) Q E s:=by
 obtain⟨y,m,z,oe,vs,T,oT,I,k,⟨r,B⟩,j,n,l,v,i,g,p⟩:=Vj
 subst r
 delta noteFrame
 simp only[hf]
 refine oF (OO k j n ?_)
 refine oF (OO i g p ?_)
 refine oF (Pz i g (NM.mp p).1 ?_)
 have a: ∀b,b≠T->(s.heap.update T (Obj.mapFields (·.setIfInBounds 3 Value.none))).get? b=s.heap.get? b:=λb c=>NJ _ _ (N7 c)
 have nr: ∀b o,s.heap.get? b=QA o->(∀vs,o.data≠ .fields vs)->b≠T:=λb o c d q=>by
  rw[q,i] at c;injection c with c;subst c;exact d I g
 refine wF (a0:=a0) WM (z.of_keeps λb o c d=>⟨o,(a b (nr b o c d)).trans c,rfl⟩) hf ((a e (N7 v)).trans k)
  (λb o f=>(a b λq=>by rw[q,l] at f;cases f).trans (y b o f)) m j (NM.mp n).1 B λh' C t=>?_
 refine FE C λD F G H=>(dM t λw u x a2 a3=>(hQ h' ⟨D,m,F,G⟩ (λb o c d=>H b o ((a b (nr b o c d)).trans c) d) λh=>dM h λoe2 vs2 b1 b2 b3=>⟨w,u,x,a2,?_⟩))
 rw[k] at b1
 injection b1 with b1
 subst b1
 rw[j] at b2
 injection b2 with b2
 subst b2
 rw[a3,b3]
theorem zV (f:Option QK) (hh:base.StaysIn s.heap/\base.get? e=QC/\s.heap.FunFrames base l/\s.heap.TracedAtW base e cls a0 fl)
  (hQ: ∀h',(base.StaysIn h'/\base.get? e=QC/\h'.FunFrames base l/\h'.TracedAtW base e cls a0 (f.elim .none λa=>rawInt a))->s.heap.UpToSlots h'->(F2 s.heap e->F2 h' e)->Q () {s with heap:=h'}):wpAny M A (setFlight (.ref e) f) Q E s:=by
 obtain⟨B,C,D,H,vs,T,oT,v,u,w,t,r,i,m,p,j,F⟩:=hh
 have g:3<v.size:=(NM.mp F).1
 have c: ∀b,b≠T->(s.heap.update T (Obj.mapFields (·.setIfInBounds 3 (f.elim Value.none λf=>rawInt f)))).get? b=s.heap.get? b:=
  λb d=>NJ _ _ (N7 d)
 have nr: ∀b o,s.heap.get? b=QA o->(∀vs,o.data≠ .fields vs)->b≠T:=λb o d n q=>by
  rw[q,p] at d;injection d with d;subst d;exact n v j
 refine oF (OO u t r ?_)
 refine Pz p j g (hQ _ ⟨λb o k=>(c b λq=>by rw[q,i] at k;cases k).trans (B b o k),C,D.of_keeps λb o d n=>⟨o,(c b (nr b o d n)).trans d,rfl⟩,?_⟩
  (λb o d G=>⟨o.slots,(c b (nr b o d G)).trans d⟩) λh=>dM h λy x z a2 a3=>⟨y,x,(c e (N7 m)).trans z,a2,a3⟩)
 exact⟨H,vs,T,_,_,(c e (N7 m)).trans u,w,t,r,i,m,Ol _ p (Obj.isFreed_of_fields (Pu j _)),Pu j _,by simp[g]⟩
end
end
section
open PySem.W PySem.Calls PyProof.Rows
noncomputable def held (v:QG):{f:Code×Pos->Bool//Builtin.Bytes.exported v=(do return (<- stack).any f)}:=⟨_,rfl⟩
def Tame (c:Code):Prop:= ∀v p,(held v).1 (c,p)=QE
def nA (l:List (Code×Pos)):Prop:= ∀x∈l,Tame x.1
theorem yT (args:RH):Tame (.builtin "bytearray.append" args):=λv p=>by
 obtain⟨_|⟨a,r⟩,kw⟩:=args
 ·rfl
 ·exact OV _
theorem yU (args:RH):Tame (.builtin "bytearray.extend" args):=λv p=>by
 obtain⟨_|⟨a,r⟩,kw⟩:=args
 ·rfl
 ·exact OV _
theorem yV (args:RH):Tame (.builtin "bytearray.__init__" args):=λv p=>by
 obtain⟨_|⟨a,r⟩,kw⟩:=args
 ·rfl
 ·exact OV _
theorem uc (args:RH):Tame (.builtin "type.__call__" args):=λv p=>by
 obtain⟨_|⟨a,r⟩,kw⟩:=args
 ·rfl
 ·exact OV _
def RU {α:Type} (M:RE) (A:QN) (t:Sem α) (Q:α->QH->Prop) (E:QG->QH->Prop) (s:QH):Prop:=
 ∀Γ p,Γ.In A->Tame Γ.code->nA Γ.below->Sem.wp M Γ t (λa J s'=>Q a s') (λe J s'=>E e s') p s
def bo (M:RE) (A:QN) (c:Code) (R:RA->QH->Prop) (s:QH):Prop:=
 ∀Γ p,Γ.code=c->Γ.Below A->nA Γ.below->wpCode M Γ R p s
section
variable {E:QG->QH->Prop}
theorem lift (h:wpAny M A t Q E s):RU M A t Q E s:=λb p a J J=>h b p a
theorem bR (h:RU M A t Q E s) (hQ: ∀a s,Q a s->Q' a s) (hE: ∀e s,E e s->E' e s):RU M A t Q' E' s:=
 λc p b d f=>PK M c t (λa J s=>hQ a s) (λe J s=>hE e s) p s (h c p b d f)
theorem ar (h:RU M A m (λa s'=>RU M A (f a) Q E s') E s):RU M A (m>>=f) Q E s:=λc p b d e=>by
 rw[Sem.wp_bind']
 exact PK M c m (λa g s' h'=>h' c g b d e) (λJ J J x=>x) p s (h c p b d e)
theorem az (h:Q a s):RU M A (pure a) Q E s:=lift (LW h)
theorem zE (h:Q () s):RU M A (standAt pos) Q E s:=lift (wpAny_standAt h)
theorem bO (h:RU M A m Q E s):RU M A (holding vs m) Q E s:=λd p a b c=>by rw[Sem.wp_holding];exact h d p a b c
theorem gg (h:RU M A m Q E s):RU M A (operate vs m) Q E s:=λd p a b c=>by rw[Sem.wp_operate];exact h d p a b c
theorem Cp (h:RU M A m Q E s):RU M A (m.keep vs) Q E s:=λd p a b c=>by rw[Sem.wp_keep];exact h d p a b c
theorem dE (h:Q () s):RU M A (release vs keep) Q E s:=lift (wpAny_release' h)
theorem cG (e:m=pure a) (h:Q a s):RU M A m Q E s:=lift (Mz e h)
theorem iP (h:RU M A m Q (λe s'=>RU M A (k e) (λJ VA=>E e VA) E s') s):RU M A (m.onRaise k) Q E s:=λb p a c d=>by
 rw[Sem.wp_onRaise]
 exact PK M b m (λJ J J x=>x) (λe f s' h'=>h' b f a c d) p s (h b p a c d)
theorem mO {m:Sem α} (h:RU M A m (λa=>Q (.ok a)) (λe=>Q (.error e)) s):RU M A m.attempt Q E s:=λf p b c d=>by
 rw[Sem.wp_attempt];exact h f p b c d
theorem dF (h:bo M A c R s) (hR: ∀r s,R r s->R' r s):bo M A c R' s:=λe p d a b=>wpCode_mono hR (h e p d a b)
theorem W2 {Γ:Ctx} (h1:Tame Γ.code) (h2:nA Γ.below):nA (Γ.enter c h p).below:=λx a=>by
 rcases tO.mp a with rfl|a
 ·exact h1
 ·exact h2 x a
theorem HO:(QC:Option QG)≠QA byPass:=nofun
theorem Wk (hc:bo M (A.mark h) c (λr s'=>match r with| .ok f=>Q f s'| .error e=>E e s') s) (hnb:h≠QA byPass):RU M A (run c h) Q E s:=
 λΓ p a b d=>by rw[Sem.wp_run];exact hc _ p rfl (a.enter c h p hnb) (W2 b d)
theorem ri (hc:bo M A c (λr s'=>match r with| .ok (.ret v)=>Q v s'| .ok J=>False| .error e=>E e s') s):RU M A (runValue c) Q E s:=
 λΓ p a b d=>by rw[Sem.wp_runValue];exact hc _ p rfl (a.enter c QC p (by intro x;cases x)) (W2 b d)
theorem ic (hc:bo M A (.call f ⟨pos,kw⟩) (λr s'=>match r with| .ok (.ret v)=>Q v s'| .ok J=>False| .error e=>E e s') s):RU M A (call f pos kw) Q E s:=ri hc
theorem bJ (hb:Tame c) (h:RU M (A.under c) (M.den c) (λfin s'=>match fin with| .done f=>R (.ok f) s'| .again c'=>c'.quiet=QD/\bo M A c' R s') (λe s'=>R (.error e) s') s):bo M A c R s:=λd p b a g=>by
 rw[wpCode_iff_wp,b]
 refine PK M d _ (λfin i s' h'=>?_) (λJ J J x=>x) p s (h d p (b▸a.in) (by rw[b];exact hb) g)
 cases fin with
 |done f=>exact h'
 |again c'=>exact⟨h'.1,h'.2 (d.goto c') i rfl (a.goto c') g⟩
theorem ij (hb:Tame c) (hq:c.quiet=QD) (I:Nat->QH->Prop)
  (turn: ∀n s,I n s->RU M (A.under c) (M.den c) (λfin s'=>match fin with| .done f=>R (.ok f) s'| .again c'=>(c'=c/\ ∃m,m<n/\I m s')\/(c'.quiet=QD/\bo M A c' R s')) (λe s'=>R (.error e) s') s)
  (n:Nat) (h:I n s):bo M A c R s:=by
 induction n using Nat.strongRecOn generalizing s with
 |ind n ih=>
  refine bJ hb (bR (turn n s h) (λfin s' a=>?_) λJ J x=>x)
  cases fin with
  |done f=>exact a
  |again c'=>
   rcases a with⟨rfl,m,hm,hI⟩|a
   ·exact⟨hq,ih m hm hI⟩
   ·exact a
theorem gI (h:RU M A m Q (notedBy M A env E) s):RU M A (m.onRaise λx=>do noteFrame x env;theTreesLotGoes x) Q E s:=
 iP (bR h (λJ J q=>q) λJ J a=>ar (bR (lift a) (λJ J e=>lift (wpAny_theTreesLotGoes e)) λJ J e=>e))
theorem iQ (hc:bo M (A.mark h) c (λr s'=>match r with| .ok f=>Q f s'| .error e=>cameBackBy M A env E e s') s) (hnb:h≠QA byPass):
  RU M A (runOwn c env h) Q E s:=by
 exact iP (Wk (dF hc λr s' a=>by cases r with|ok f=>exact a|error e=>exact lift a) hnb)
end
end
section
set_option tactic.hygienic true
open PySem.W PySem.Calls PyProof.Rows
section
variable {E:QG->QH->Prop}
theorem aD {m:Sem α} {f:α->Sem β} {P:α->QH->Prop} {Q:β->QH->Prop} (h:RU M A m P E s) (k: ∀a s',P a s'->RU M A (f a) Q E s'):RU M A (m>>=f) Q E s:=ar (bR h k λJ J x=>x)
theorem aL {vs:List QG} {m:Sem α} {f:α->Sem β} {P:α->QH->Prop} {Q:β->QH->Prop} (h:RU M A m P E s) (k: ∀a s',P a s'->RU M A (f a) Q E s'):RU M A (holding vs m>>=f) Q E s:=ar (bO (bR h k λJ J x=>x))
theorem aF (h:RU M A (f ()) Q E s):RU M A (standAt pos>>=f) Q E s:=ar (zE h)
theorem sY (h:RU M A (eval l env) (λa s1=>RU M A (eval r env) (λb s2=>RU M A (binaryOp op a b) Q E s2) E s1) E s):RU M A (eval (.BinOp l op r pos) env) Q E s:=by
 skip;exact aD h λa s1 c=>aL c λb s2 d=>aF (gg d)
theorem uA (h:RU M A (eval x env) (λv s1=>RU M A (unaryOp op v) Q E s1) E s):RU M A (eval (.UnaryOp op x pos) env) Q E s:=by
 skip;exact aD h λv s1 a=>aF (bO a)
theorem El (h:RU M A (truthy v) (λb s1=>Q (.bool (!b)) s1) E s):RU M A (unaryOp .Not v) Q E s:=by
 exact bO (aD h λb s1 a=>az a)
theorem q9 (h:RU M A (eval l env) (λa s1=>RU M A (eval r env) (λb s2=>RU M A (compareOp op a b) Q E s2) E s1) E s) (hm:behindInMarks op r=QE):
  RU M A (eval (.Compare l [op] [r] pos) env) Q E s:=by
 rw[eval_Compare1,markedBehindIn_of_false hm];exact aD h λa s1 c=>aL c λb s2 d=>aF (gg d)
theorem iM (h:RU M A (eval l env) (λa s1=>RU M A (eval r env) (λb s2=>RU M A (compareOp op a b) (λc s3=>RU M A (truthy c) Q E s3) E s2) E s1) E s) (hm:behindInMarks op r=QE):
  RU M A (PySem.isTrue (.Compare l [op] [r] pos) env wh) Q E s:=by
 rw[isTrue_Compare1,markedBehindIn_of_false hm];exact aD h λa s1 d=>aL d λb s2 e=>aF (ar (gg (bR e (λJ J f=>bO f) λJ J x=>x)))
theorem nK (h:RU M A (PySem.isTrue x env (eval x env)) (λb s1=>Q (!b) s1) E s):RU M A (PySem.isTrue (.UnaryOp .Not x pos) env wh) Q E s:=by
 skip;exact aD h λb s1 a=>az a
theorem kQ (h:RU M A wh (λv s1=>RU M A (truthy v) Q E s1) E s) (he:PySem.isTrue e env wh=(do let v <- wh;standAt e.pos;holding [v] (truthy v))):RU M A (PySem.isTrue e env wh) Q E s:=by
 rw[he];exact aD h λv s1 a=>aF (bO a)
theorem nH (h:RU M A r (λb s1=>RU M A (compareOp op a b) Q E s1) E s):RU M A (compareChain pos a [op] [r]) Q E s:=by
 exact aL h λb s1 c=>aF (gg c)
theorem nI
  (h:RU M A r (λb s1=>RU M A (compareOp op a b) (λc s2=>RU M A (truthy c) (λt s3=>if t then RU M A (compareChain pos b (Zh::ops) (r'::rs)) Q E s3 else Q c s3) E s2) E s1) E s):RU M A (compareChain pos a (op::Zh::ops) (r::r'::rs)) Q E s:=by
 skip
 ·refine aL h λb s1 h1=>aF (aL h1 λc s2 h2=>ar (dE (aL h2 λt s3 h3=>?_)))
  cases t with
  |false=>exact az h3
  |true=>exact h3
 all_goals (intros;simp_all)
theorem pB (h:RU M A r (λb s1=>RU M A (compareOp op a b) (λc s2=>RU M A (truthy c) Q E s2) E s1) E s):RU M A (testChain pos a [op] [r]) Q E s:=by
 exact aL h λb s1 d=>aF (ar (gg (bR d (λc s2 e=>bO e) λJ J x=>x)))
theorem pC
  (h:RU M A r (λb s1=>RU M A (compareOp op a b) (λc s2=>RU M A (truthy c) (λt s3=>if t then RU M A (testChain pos b (Zh::ops) (r'::rs)) Q E s3 else Q QE s3) E s2) E s1) E s):RU M A (testChain pos a (op::Zh::ops) (r::r'::rs)) Q E s:=by
 skip
 ·refine aL h λb s1 h1=>aF (aL h1 λc s2 h2=>ar (dE (aL h2 λt s3 h3=>?_)))
  cases t with
  |false=>exact az h3
  |true=>exact h3
 all_goals (intros;simp_all)
theorem zB
  (h:RU M A (eval l env) (λa s1=>RU M A (compareChain pos a (Vz::Wa::ops) (eval r1 env::eval r2 env::evalEach rs env)) Q E s1) E s) (hm:lastMarks (Vz::Wa::ops) (r1::r2::rs)=QE):
  RU M A (eval (.Compare l (Vz::Wa::ops) (r1::r2::rs) pos) env) Q E s:=by
 refine aD (f:=λa=>compareChain pos a (Vz::Wa::ops) (markedEach (Vz::Wa::ops) (r1::r2::rs) (evalEach (r1::r2::rs) env))) h λa s1 h1=>?_
 rw[markedEach_of_false _ _ _ hm];exact h1
theorem kP
  (h:RU M A (eval l env) (λa s1=>RU M A (testChain pos a (Vz::Wa::ops) (eval r1 env::eval r2 env::evalEach rs env)) Q E s1) E s) (hm:lastMarks (Vz::Wa::ops) (r1::r2::rs)=QE):
  RU M A (PySem.isTrue (.Compare l (Vz::Wa::ops) (r1::r2::rs) pos) env wh) Q E s:=by
 refine aD (f:=λa=>testChain pos a (Vz::Wa::ops) (markedEach (Vz::Wa::ops) (r1::r2::rs) (evalEach (r1::r2::rs) env))) h λa s1 h1=>?_
 rw[markedEach_of_false _ _ _ hm];exact h1
theorem jU (h:RU M A (eval value env) (λo s1=>RU M A (eval slice env) (λi s2=>RU M A (subscriptTail value slice o i) Q E s2) E s1) E s):RU M A (eval (.Subscript value slice pos) env) Q E s:=by
 skip;exact aD h λo s1 a=>aL a λi s2 b=>aF b
theorem nG (h:RU M A (spliced (backTo pos (starEach elts env))) (λvs s1=>RU M A (newTuple vs) Q E s1) E s):RU M A (eval (.Tuple elts k pos) env) Q E s:=
 aF (f:=λJ=>do newTuple (<- spliced (backTo pos (starEach elts env)))) (ar h)
theorem Ck (h:RU M A (spliced (backTo pos (starEach elts env))) (λvs s1=>RU M A (newList vs) Q E s1) E s):RU M A (eval (.List elts pos) env) Q E s:=
 aF (f:=λJ=>do newList (<- spliced (backTo pos (starEach elts env)))) (ar h)
theorem mP (h:RU M A x (λv s1=>RU M A (spliced rest) (λvs s2=>Q (v::vs) s2) E s1) E s):RU M A (spliced ((QE,x)::rest)) Q E s:=by
 refine aD h λv s1 a=>?_
 dsimp only[Bool.false_eq_true,if_false]
 exact ar (az (aL a λvs s2 b=>az b))
theorem ig (h:RU M A (eval e env) (λv s1=>RU M A (spliced (backTo pos (starEach rest env))) (λvs s2=>Q (v::vs) s2) E s1) E s)
  (he:starEach (e::rest) env=(QE,eval e env)::starEach rest env):RU M A (spliced (backTo pos (starEach (e::rest) env))) Q E s:=by
 rw[he];exact mP h
theorem Eh (h:RU M A (eval e1 env) (λv s1=>RU M A (truthy v) (λc s2=>if c then RU M A (eval (.BoolOp .And (e2::rest) pos) env) Q E s2 else Q v s2) E s1) E s):
  RU M A (eval (.BoolOp .And (e1::e2::rest) pos) env) Q E s:=by
 refine aD (f:=λv=>do
  standAt pos
  let c <- holding [v] (truthy v)
  match BoolOp.And,c with
  | .And,QE| .Or,QD=>pure v
  |J,J0=>boolOp pos .And (eval e2 env::evalEach rest env)) h λv s1 b=>aF (aL b λc s2 a=>?_)
 cases c with
 |false=>exact az a
 |true=>exact a
theorem GR (h:RU M A (eval e1 env) (λv s1=>RU M A (truthy v) (λc s2=>if c then Q v s2 else RU M A (eval (.BoolOp .Or (e2::rest) pos) env) Q E s2) E s1) E s):
  RU M A (eval (.BoolOp .Or (e1::e2::rest) pos) env) Q E s:=by
 refine aD (f:=λv=>do
  standAt pos
  let c <- holding [v] (truthy v)
  match BoolOp.Or,c with
  | .And,QE| .Or,QD=>pure v
  |J,J0=>boolOp pos .Or (eval e2 env::evalEach rest env)) h λv s1 b=>aF (aL b λc s2 a=>?_)
 cases c with
 |false=>exact a
 |true=>exact az a
theorem v8 (h:RU M A (PySem.isTrue x env (eval x env)) (λc s'=>if c then RU M A (PySem.isTrue (.BoolOp .And rest pos) env wh) Q E s' else Q QE s') E s):
  RU M A (PySem.isTrue (.BoolOp .And (x::rest) pos) env wh) Q E s:=by
 refine aD (f:=λc=>match BoolOp.And,c with
  | .And,QE=>pure QE
  | .Or,QD=>pure QD
  |J,J0=>allTrue .And rest env) h λc s' h'=>?_
 cases c with
 |false=>exact az h'
 |true=>exact h'
theorem Bw (h:RU M A (PySem.isTrue x env (eval x env)) (λc s'=>if c then Q QD s' else RU M A (PySem.isTrue (.BoolOp .Or rest pos) env wh) Q E s') E s):
  RU M A (PySem.isTrue (.BoolOp .Or (x::rest) pos) env wh) Q E s:=by
 refine aD (f:=λc=>match BoolOp.Or,c with
  | .And,QE=>pure QE
  | .Or,QD=>pure QD
  |J,J0=>allTrue .Or rest env) h λc s' h'=>?_
 cases c with
 |false=>exact h'
 |true=>exact az h'
theorem fH (h:RU M A (spliced ((QE,x)::rest)) (λvs s'=>Q ⟨vs,[]⟩ s') E s):RU M A (evalArgs f QD ((QE,x)::rest) []) Q E s:=by
 exact aD (m:=spliced ((QE,x)::rest)) h λvs s' h'=>bO (ar (az (ar (az (az h')))))
theorem fG (h:RU M A (eval (.Name x np) env) (λf s1=>RU M A (callWith pos f [] (backTo pos (starEach args env)) []) Q E s1) E s):RU M A (eval (.Call (.Name x np) args [] pos) env) Q E s:=
 ar (f:=λf=>callWith pos f [] (backTo pos (starEach args env)) (backToKw pos (keywordEach [] env))) h
theorem zC {lower upper step:Option QF} {p:Pos} {Q:QG->QH->Prop}
  (h:RU M A (evalPart lower env) (λl s1=>RU M A (evalPart upper env) (λu s2=>RU M A (evalPart step env) (λst s3=>Q (.ref s3.heap.objs.size) {s3 with heap:=s3.heap.push {cls:= .type "slice",data:= .fields #[l,u,st]}}) E s2) E s1) E s):
  RU M A (eval (.Slice lower upper step p) env) Q E s:=by
 exact aD h λl s1 a=>aL a λu s2 b=>aL b λst s3 c=>lift (M4 c)
theorem zF (h:RU M A k (λkv s1=>RU M A v (λvv s2=>RU M A (evalPairs rest) (λvs s3=>Q ((kv,vv)::vs) s3) E s2) E s1) E s):RU M A (evalPairs ((k,v)::rest)) Q E s:=by
 skip;exact aD h λkv s1 a=>aL a λvv s2 b=>aL b λvs s3 c=>az c
theorem jv {value:QF} {pos:Pos} {Q:QG->QH->Prop} (h:RU M A (eval value env) (λv s1=>RU M A (formatField v Str.empty) Q E s1) E s):RU M A (eval (.FormattedValue value (-1) QC pos) env) Q E s:=
 aD (f:=λv=>do standAt pos;formatted pos (<- holding [v] (converted (-1) v)) QC) h λv s1 a=>aF (aL (P:=λc b=>RU M A (formatField c Str.empty) Q E b) (az a) λJ J z=>z)
theorem zG {out:Str}
  (h:RU M A x (λv s1=>match v with| .str y J=>(out++y).length<=sizeLine/\RU M A (joinParts (out++y) rest) Q E s1|_=>False) E s):RU M A (joinParts out (x::rest)) Q E s:=by
 refine aD h λv s1 a=>?_
 cases v<;>first|exact a.elim|skip
 rename_i y t
 have b: ¬(out.length+y.length>sizeLine):=by rw[<- strLen_append];exact MN.mpr a.1
 refine ar (az ?_)
 show RU M A (if out.length+y.length>sizeLine then _ else _) Q E s1
 rw[L4 b]
 first|exact a.2|exact ar (az a.2)
theorem gH {st:QI} {rest:List QI} {Q:Q6->QH->Prop} (h:RU M A (exec st env) (λf s'=>match f with| .next=>RU M A (execs rest env) Q E s'|f=>Q f s') E s):RU M A (execs (st::rest) env) Q E s:=by
 refine aD h λf s' h'=>?_
 cases f<;>first|exact h'|exact az h'
theorem GP (h:RU M A (PySem.isTrue t env (eval t env)) (λb s2=>if b then RU M A (execs y env) Q E s2 else RU M A (execs z env) Q E s2) E s):RU M A (exec (.If t y z pos) env) Q E s:=by
 refine aF (aD h λb s2 a=>?_)
 cases b<;>exact a
theorem kL (h:RU M A (eval e env) (λv=>Q (.ret v)) E s):RU M A (exec (.Return (QA e) pos) env) Q E s:=by
 skip;exact aF (aD h λv s' h'=>az h')
theorem hH {pos' pos:Pos} (h:RU M A (eval value env) (λv s1=>RU M A (storeName env x v) (λJ=>Q .next) E s1) E s) (hs:swapsWith value (QA (.Name x pos')) pos.line env=pure QE):
  RU M A (exec (.Assign [.Name x pos'] value pos) env) Q E s:=by
 rw[exec_Assign_Name env x pos' value pos hs]
 refine aF (aD h λv s1 d=>aF (aD (P:=λJ=>Q .next) (λf p c a b=>by rw[Sem.wp_bindName];exact d f p c a b) λJ s2 e=>az e))
theorem fj {x:Str} {pos' pos:Pos} {op:QT} {value:QF} {Q:Q6->QH->Prop}
  (h:RU M A (loadName env x) (λold s1=>RU M A (eval value env) (λv s2=>RU M A (inplaceOp op old v) (λr s3=>RU M A (storeName env x r) (λJ=>Q .next) E s3) E s2) E s1) E s):RU M A (exec (.AugAssign (.Name x pos') op value pos) env) Q E s:=by
 refine aF (aD h λold s1 d=>aL d λv s2 e=>aF (ar (gg (bR e (λr s3 f=>aF (aD (P:=λJ=>Q .next) (λi p c a b=>by rw[Sem.wp_bindName];exact f i p c a b) λJ s4 g=>az g)) λJ J x=>x))))
theorem ib {pos' pos:Pos}
  (h:RU M A (eval value env) (λv s1=>RU M A (eval o env) (λov s2=>RU M A (eval i env) (λiv s3=>RU M A (setItem ov iv v) (λJ=>Q .next) E s3) E s2) E s1) E s) (hs:swapsWith value (QA (.Subscript o i pos')) pos.line env=pure QE):
  RU M A (exec (.Assign [.Subscript o i pos'] value pos) env) Q E s:=by
 rw[exec_Assign_Subscript o i pos' value pos hs]
 refine aF (aD h λv s1 b=>aD (P:=λJ=>Q .next) ?_ λJ s2 a=>az a)
 exact aL b λov s2 a=>aL a λiv s3 c=>aF (aL c λJ s4 d=>dE d)
theorem ia {pos' pos:Pos}
  (h:RU M A (eval value env) (λv s1=>RU M A (eval o env) (λov s2=>RU M A (setAttr ov attr v) (λJ=>Q .next) E s2) E s1) E s) (hs:swapsWith value (QA (.Attribute o attr pos')) pos.line env=pure QE):
  RU M A (exec (.Assign [.Attribute o attr pos'] value pos) env) Q E s:=by
 rw[plainObj_exec_Assign_Attribute o attr pos' value pos hs]
 refine aF (aD h λv s1 b=>aD (P:=λJ=>Q .next) ?_ λJ s2 a=>az a)
 exact aL b λov s2 a=>aF (aL a λJ s3 c=>dE c)
theorem fT {WY pos:Pos}
  (h:RU M A (eval o env) (λov s1=>RU M A (getAttr ov attr QD) (λold s2=>RU M A (eval value env) (λv s3=>RU M A (inplaceOp op old v) (λnew s4=>RU M A (setAttr ov attr new) (λJ=>Q .next) E s4) E s3) E s2) E s1) E s):
  RU M A (exec (.AugAssign (.Attribute o attr WY) op value pos) env) Q E s:=by
 refine aF (f:=λJ=>do
   let ov <- eval o env
   let new <- holding [ov] do
    standAt WY.atName
    let old <- getAttr ov attr QD
    let v <- holding [old] (eval value env)
    standAt pos
    operate [old,v] (inplaceOp op old v)
   standAt WY.atName
   holding [new,ov] (setAttr ov attr new)
   release [new,ov] []
   pure Flow.next) (aD h λov s1 a=>?_)
 exact aL (P:=λnew s4=>RU M A (setAttr ov attr new) (λJ=>Q .next) E s4) (aF (aD a λold s2 b=>aL b λv s3 c=>aF (gg c))) λnew s4 d=>aF (aL d λJ s5 e=>ar (dE (az e)))
theorem fU {o i value:QF} {WY pos:Pos} {op:QT} {Q:Q6->QH->Prop}
  (h:RU M A (eval o env) (λov s1=>RU M A (eval i env) (λiv s2=>RU M A (getItem ov iv) (λold s3=>RU M A (eval value env) (λv s4=>RU M A (inplaceOp op old v) (λnew s5=>RU M A (setItem ov iv new) (λJ=>Q .next) E s5) E s4) E s3) E s2) E s1) E s)
  (hi: ∀ov iv new,augStore i ov iv new=(do holding [new,ov,iv] (setItem ov iv new);release [new,ov,iv] [];pure .next)):RU M A (exec (.AugAssign (.Subscript o i WY) op value pos) env) Q E s:=by
 refine aF (f:=λJ=>do
   let ov <- eval o env
   let iv <- holding [ov] (eval i env)
   let new <- holding [ov,iv] do
    standAt WY
    let old <- getItem ov iv
    let v <- holding [old] (eval value env)
    standAt pos
    operate [old,v] (inplaceOp op old v)
   standAt WY
   augStore i ov iv new) (aD h λov s1 a=>aL a λiv s2 b=>?_)
 refine aL (P:=λnew s5=>RU M A (setItem ov iv new) (λJ=>Q .next) E s5) (aF (aD b λold s3 c=>aL c λv s4 d=>aF (gg d))) λnew s5 e=>aF ?_
 rw[hi]
 exact aL e λJ Zk g=>ar (dE (az g))
theorem v7 {o i:QF} {pos' pos:Pos} {Q:Q6->QH->Prop} (h:RU M A (eval o env) (λov s1=>RU M A (eval i env) (λiv s2=>RU M A (delItem ov iv) (λJ=>Q .next) E s2) E s1) E s):RU M A (exec (.Delete [.Subscript o i pos'] pos) env) Q E s:=by
 refine aF (aD (P:=λJ=>Q .next) ?_ λJ s1 a=>az a)
 refine aD (P:=λJ=>Q .next) (aD h λov s1 a=>aL a λiv s2 b=>aF (aL b λJ s3 c=>dE c)) λJ s4 d=>lift (wpAny_deleteEach_nil d)
theorem kK {k:Nat} {WY pos:Pos} (h:RU M A (eval value env) (λv s1=>RU M A (assign (.Tuple elts k WY) env v) (λJ=>Q .next) E s1) E s)
  (hs:swapsWithSole [.Tuple elts k WY] value pos.line env=pure QE) (hw:swappedStores [.Tuple elts k WY] value env=pure QC):RU M A (exec (.Assign [.Tuple elts k WY] value pos) env) Q E s:=by
 rw[exec_Assign,hs]
 refine aF (ar (az ?_))
 refine aD h λv s1 a=>?_
 rw[hw]
 exact ar (az (aD (m:=assignAll v [assign (.Tuple elts k WY) env]) (P:=λJ=>Q .next) a λJ s2 b=>az b))
theorem zD (h:bo M A (.whileLoop t y z env) (λr s'=>match r with| .ok f=>Q f s'| .error e=>cameBackBy M A env E e s') s):RU M A (exec (.While t y z pos) env) Q E s:=by
 skip;exact aF (iQ h HO)
theorem Ef
  (h:RU M A (eval i env) (λx s1=>RU M A (pyIter x) (λit s2=>bo M A (.forLoop t it y z env) (λr s'=>match r with| .ok f=>Q f s'| .error e=>cameBackBy M A env E e s') s2) E s1) E s) (hs: ∀x,foldedSetIterable i env x=pure x):
  RU M A (exec (.For t i y z pos) env) Q E s:=by
 exact aF (aD h λx s1 h1=>ar (cG (hs x) (aF (aL h1 λit s2 h2=>iQ h2 HO))))
theorem Eg
  (h:RU M A (execs y env) (λf s1=>match f with| .next=>RU M A (execs [] env) Q E s1|f=>Q f s1) (λe s1=>RU M A (noteFrame e env) (λJ s2=>RU M A (setFlight e QC) (λJ s3=>RU M A (handleBy e env (h0::hs)) Q E s3) E s2) E s1) s):
  RU M A (exec (.Try y (h0::hs) [] [] pos) env) Q E s:=by
 refine aF ?_
 delta tryStmt
 refine ar (mO (bR h (λf s1 h1=>?_) λe s1 h1=>aD h1 λJ J h2=>ar h2))
 cases f<;>first|exact h1|exact az h1
end
end
section
open PySem.W PySem.Calls PyProof.Rows
section
variable {E:QG->QH->Prop}
theorem kM (hp:SF o=QD) (h:RU (model prog RX) A wh Q E s):RU (model prog RX) A (attributeBase o attr env wh) Q E s:=by
 rw[pn hp];exact h
theorem Cn (hp:SF value=QD) (h:RU (model prog RX) A (eval value env) (λo s1=>RU (model prog RX) A (getAttr o attr QD) Q E s1) E s):
  RU (model prog RX) A (eval (.Attribute value attr pos) env) Q E s:=by
 rw[arm_eval_Attribute]
 exact aD (kM hp h) λo s1 a=>aF (aL a λr s2 b=>ar (lift (wpAny_letTemporaryGo (az b))))
theorem iO (hp:SF o=QD) (ha:SS args=QD) (hn:args.length<30) (hl:(apos.endLine==pos.line)=QD)
  (h:RU (model prog RX) A (eval o env) (λov s1=> ∀pl,RU (model prog RX) A (getMethod ov name pl) (λfx s2=>RU (model prog RX) A (callWith pos fx.1 fx.2 (backTo pos (starEach args env)) []) Q E s2) E s1) E s):
  RU (model prog RX) A (eval (.Call (.Attribute o name apos) args [] pos) env) Q E s:=by
 show RU (model prog RX) A (do
  let ov <- attributeBase o name env (eval o env)
  standAt apos.atName
  methodCall o name apos pos env ov (args.length+0) (backTo pos (starEach args env)) (backToKw pos (keywordEach [] env))) Q E s
 refine aD (kM hp h) λov s1 b=>aF ?_
 have a:methodCallForm (args.length+0) (backTo pos (starEach args env)) (backToKw pos (keywordEach [] env))=QD:=by
  show((backTo pos (starEach args env)).all (!·.1)&&QD&&decide (args.length+0+0<30))=QD
  rw[vS ha]
  exact iF hn
 delta methodCall
 rw[a]
 delta calleeOf methodCallPos
 rw[hl]
 exact aL (b _) λfx s2 c=>ar (az c)
theorem kN {P:QM->Prop} {f:QG} {first:List QG} {pos:Pos} {args:List (Bool×Sem QG)} {Q:QG->QH->Prop} (Qv:(args.any (·.1)||([]:List (Option Str×Sem QG)).any (·.1.isNone))=QE)
  (hk: ∀h,P h-> ∃k,(k=Keeper.frame\/k=Keeper.machine\/k=Keeper.boundFrame)/\Looks (model prog RX) h (keeperOf f) k)
  (h:RU (model prog RX) A (evalArgs f QD args []) (λa s1=>P s1.heap/\RU (model prog RX) A (call f (first++a.pos) a.kw) Q E s1) E s):RU (model prog RX) A (callWith pos f first args []) Q E s:=by
 refine aL h λa s1 d=>aF (aU (hk _ d.1) λk e L=>?_)
 rw[Qv]
 refine ar (lift (L.here ?_))
 have b: ∀{t:Sem QG},RU (model prog RX) A t Q E s1->RU (model prog RX) A (t>>=λr=>holding [r] point>>=λJ=>pure r) Q E s1:=
  λi=>aD i λr s2 g=>ar (bO (lift (wpAny_point (az g))))
 have c (mk:QG):RU (model prog RX) A (callMarked mk f (first++a.pos) a.kw) Q E s1:=by unfold callMarked;exact Cp d.2
 rcases e with rfl|rfl|rfl<;>dsimp only<;>first|exact b d.2|(split<;>first|exact b d.2|exact b (c _))
theorem rf (h:RU (model prog RX) A (eval e env) (λJ=>Q .next) E s) (hi:interactive env=QE) (hs:swapsWith e QC pos.line env=pure QE):RU (model prog RX) A (exec (.Expr e pos) env) Q E s:=by
 rw[exec_Expr env e pos hi hs]
 exact aF (aD h λv s' h'=>lift (wpAny_dropValue h'))
theorem zH (h:RU (model prog RX) A (PySem.isTrue c env (eval c env)) Q E s):
  RU (model prog RX) A (forIn [c] QD λc r=>if r=QD then do let ok <- PySem.isTrue c env (eval c env);pure (ForInStep.yield ok) else pure (ForInStep.yield r)) Q E s:=by
 simp only[List.forIn_cons,List.forIn_nil,if_true]
 exact ar (aD h λb s' a=>az (az a))
theorem rp (h:RU (model prog RX) (A.deeper env) (execs body env) (λf s'=>R (.ok (.ret (match f with| .ret v=>v|_=> .none))) s')
   (λe s'=>RU (model prog RX) (A.deeper env) (leaving env e) (λJ VA=>R (.error e) VA) (λe' VA=>R (.error e') VA) s') s):bo (model prog RX) A (.func body env) R s:=by
 refine bJ (λJ J=>rfl) ?_
 show RU _ (A.deeper env) (do point;match <- (execs body env).onRaise (leaving env) with| .ret v=>ret v|_=>ret .none) _ _ s
 refine ar (lift (wpAny_point (ar (iP (bR h (λf s' h'=>?_) λJ J x=>x)))))
 cases f<;>exact az h'
theorem rm (aAZ:A.depth<recursionLimit) (ho:s.heap.get? a=QA o) (hd:o.data= .func fd) (hco:fd.scope.isCoroutine=QE) (aBM:fd.scope.isGenerator=QE) (aAI:fd.body= .stmts body) (hcd:s.heap.CodeRec fd.code fd.qualname)
  (h:RU (model prog RX) A.in1 (bindArgs fd args) (λbinds s1=>RU (model prog RX) A.in1 (newFunctionEnv fd.scope fd.globals fd.closure binds (fd.qualname++ ".<locals>.") (QA a) fd.code QC fd.builtins)
    (λenv s2=>s2.heap.NoLimit/\bo (model prog RX) A (.func body env) R s2) (λe s'=>R (.error e) s') s1) (λe s'=>R (.error e) s') s):bo (model prog RX) A (.call (.ref a) args) R s:=by
 refine bJ (λJ J=>rfl) ?_
 show RU _ A.in1 (callAny (.ref a) args) _ _ s
 refine ar (lift (OP ho (y5 hcd λc oc vs tq f i b j=>?_)))
 rw[hd]
 delta callFunction
 dsimp only
 rw[hco,aBM,aAI,f]
 rw[f] at h
 exact ar (m:=field (.ref c) 1) (lift (OO i b j (ar (az (aD h λbinds s1 g=>aD g λenv s2 d=>ar (lift (wpAny_enterFrame d.1 aAZ (az ⟨rfl,d.2⟩))))))))
theorem pF (h:RU (model prog RX) A (execs stmts env) (λf s'=>R (.ok f) s') (notedBy (model prog RX) A env λe s'=>R (.error e) s') s):bo (model prog RX) A (.block stmts env) R s:=by
 refine bJ (λJ J=>rfl) ?_
 show RU _ _ (do return Fin.done (<- (execs stmts env).onRaise (λx=>do noteFrame x env;theTreesLotGoes x))) _ _ s
 exact aD (gI h) λf s' h'=>az h'
theorem pG (I:Nat->QH->Prop)
  (turn: ∀n s,I n s->RU (model prog RX) A (PySem.isTrue test env (eval test env)) (λb s2=>
    if b then RU (model prog RX) A (execs body env) (λf s3=>match f with
      | .next| .cont=> ∃m,m<n/\I m s3
      | .brk=>R (.ok .next) s3
      | .ret v=>R (.ok (.ret v)) s3) (notedBy (model prog RX) A env λe s'=>R (.error e) s') s2
    else RU (model prog RX) A (execs orelse env) (λf s3=>R (.ok f) s3) (notedBy (model prog RX) A env λe s'=>R (.error e) s') s2)
    (notedBy (model prog RX) A env λe s'=>R (.error e) s') s)
  (n:Nat) (h:I n s):bo (model prog RX) A (.whileLoop test body orelse env) R s:=by
 refine ij (λJ J=>rfl) rfl I (λn s d=>?_) n h
 show RU _ A ((whileTurn test body orelse env).onRaise (λx=>do noteFrame x env;theTreesLotGoes x)) _ _ s
 refine gI ?_
 refine aD (turn n s d) λb s2 c=>?_
 cases b with
 |false=>exact aD c λf s3 a=>az a
 |true=>
  refine aD c λf s3 a=>?_
  cases f<;>first|exact az (.inl ⟨rfl,a⟩)|exact az a
theorem uE (I:Nat->QH->Prop)
  (turn: ∀n s,I n s->RU (model prog RX) A (pyNext it) (λr s1=>match r with
   |none=>RU (model prog RX) A (execs orelse env) (λf s3=>R (.ok f) s3) (notedBy (model prog RX) A env λe s'=>R (.error e) s') s1
   |some v=>RU (model prog RX) A (letOwnedTupleGo target it v) (λJ Z3=>RU (model prog RX) A (assign target env v) (λJ s2=>RU (model prog RX) A (execs body env) (λf s3=>match f with
      | .next| .cont=> ∃m,m<n/\I m s3
      | .brk=>R (.ok .next) s3
      | .ret v=>R (.ok (.ret v)) s3) (notedBy (model prog RX) A env λe s'=>R (.error e) s') s2) (notedBy (model prog RX) A env λe s'=>R (.error e) s') Z3) (notedBy (model prog RX) A env λe s'=>R (.error e) s') s1) (notedBy (model prog RX) A env λe s'=>R (.error e) s') s)
  (n:Nat) (h:I n s):bo (model prog RX) A (.forLoop target it body orelse env) R s:=by
 refine ij (λJ J=>rfl) rfl I (λn s g=>?_) n h
 show RU _ A ((forTurn target it body orelse env).onRaise (λx=>do noteFrame x env;theTreesLotGoes x)) _ _ s
 refine gI ?_
 refine aF (ar (iP (bR (turn n s g) (λr s1 a=>?_) λJ J h'=>zE h')))
 cases r with
 |none=>exact az (.inr ⟨rfl,pF a⟩)
 |some v=>
  refine aD a λJ Z3 c=>aD c λJ s2 d=>aD d λf s3 b=>?_
  cases f<;>first|exact az (.inl ⟨rfl,b⟩)|exact az b
theorem gY
  (h:RU (model prog RX) A (eval t env) (λc s1=>RU (model prog RX) A (excMatches e c) (λb s2=>R (.ok (if b then .brk else .next)) s2) (notedBy (model prog RX) A env λx s2=>R (.error x) s2) s1) (notedBy (model prog RX) A env λx s1=>R (.error x) s1) s):
  bo (model prog RX) A (.handlers e [.ExceptHandler (QA t) QC [] pos] env) R s:=by
 refine bJ (λJ J=>rfl) ?_
 show RU _ A (do return Fin.done (<- (handleWith e env [.ExceptHandler (QA t) QC [] pos]).onRaise (λx=>do noteFrame x env;theTreesLotGoes x))) _ _ s
 refine aD (gI (Q:=λf s2=>R (.ok f) s2) ?_) λf s2 h2=>az h2
 exact aF (aD h λc s1 W3=>aF (aD W3 λb s2 h2=>az h2))
theorem gi
  (h:RU (model prog RX) A (setFlight e QC) (λJ s1=>RU (model prog RX) A (execs (b0'::body) env) (λf s2=>R (.ok f) s2) (notedBy (model prog RX) A env λx s2=>R (.error x) s2) s1) (notedBy (model prog RX) A env λx s1=>R (.error x) s1) s):
  bo (model prog RX) A (.handlers e [.ExceptHandler QC QC (b0'::body) pos] env) R s:=by
 refine bJ (λJ J=>rfl) ?_
 show RU _ A (do return Fin.done (<- (handleWith e env [.ExceptHandler QC QC (b0'::body) pos]).onRaise (λx=>do noteFrame x env;theTreesLotGoes x))) _ _ s
 refine aD (gI (Q:=λf s2=>R (.ok f) s2) ?_) λf s2 h2=>az h2
 exact aF (aD h λJ s1 W3=>W3)
theorem rg
  (h:bo (model prog RX) (A.mark (QA e)) (.handlers e [.ExceptHandler (QA t) QC [] pos] env) (λr s1=>match r with
   | .ok .brk=>bo (model prog RX) (A.mark (QA e)) (.handlers e [.ExceptHandler QC QC body pos] env) (λr s2=>match r with
     | .ok f=>Q f s2
     | .error x=>cameBackBy (model prog RX) A env E x s2) s1
   | .ok J=>RU (model prog RX) A (handleBy e env rest) Q E s1
   | .error x=>cameBackBy (model prog RX) A env E x s1) s) (hnb:e≠byPass):RU (model prog RX) A (handleBy e env (.ExceptHandler (QA t) QC body pos::rest)) Q E s:=by
 rw[handleBy]
 have aAS:(QA e:Option QG)≠QA byPass:=λx=>hnb (iN x)
 refine ar (bO (iQ (dF h (λr s1 W3=>?_)) aAS))
 cases r with
 |error x=>exact W3
 |ok f=>
  cases f with
  |brk=>
   refine ar (az ?_)
   dsimp only[Bool.not_true,Bool.false_eq_true,if_false]
   refine ar (bO (iQ (dF W3 (λr s2 h2=>?_)) aAS))
   cases r with
   |error x=>exact h2
   |ok f=>exact az h2
  |_=>
   refine ar (az ?_)
   dsimp only[Bool.not_false,if_true]
   exact W3
theorem jZ
  (h0:bo (model prog RX) A (.compLoop (.ListComp elt (⟨target,iter,ifs,0⟩::rest) scope pos) 0 it acc env) R s)
  (h:RU (model prog RX) A (pyIter it) (λit' s'=>bo (model prog RX) A (.compLoop (.ListComp elt (⟨target,iter,ifs,0⟩::rest) scope pos) 0 it' acc env) R s') (notedBy (model prog RX) A env λx s'=>R (.error x) s') s):
  bo (model prog RX) A (.compStart (.ListComp elt (⟨target,iter,ifs,0⟩::rest) scope pos) 0 it acc env) R s:=by
 refine bJ (λJ J=>rfl) ?_
 show RU _ A ((compStart (.ListComp elt (⟨target,iter,ifs,0⟩::rest) scope pos) 0 it acc env).onRaise (λx=>do noteFrame x env;standAt theWindowsPlace)) _ _ s
 refine iP (E:=λe s'=>R (.error e) s') (bR (E:=notedBy (model prog RX) A env λx s'=>R (.error x) s') (Q:=λfin s'=>match fin with| .done f=>R (.ok f) s'| .again c'=>c'.quiet=QD/\bo (model prog RX) A c' R s') ?_ (λJ J q=>q) λJ J hx=>aD (lift hx) λJ J h'=>zE h')
 show RU _ _ (ask>>=_) _ _ s
 refine ar (lift (wpAny_askSetting ?_))
 dsimp only
 split
 ·exact az ⟨rfl,h0⟩
 ·refine ar (lift (PZ ?_))
  show RU _ _ (standAt iter.pos>>=_) _ _ s
  exact aF (aD h λit' s' h'=>az ⟨rfl,h'⟩)
theorem kT (I:Nat->QH->Prop)
  (turn: ∀n s,I n s->RU (model prog RX) A (pyNext it) (λr s1=>match r with
   |none=>R (.ok .next) s1
   |some v=>RU (model prog RX) A (assign target env v) (λJ s2=>
     RU (model prog RX) A (forIn ifs QD λc r=>if r=QD then do let ok <- PySem.isTrue c env (eval c env);pure (ForInStep.yield ok) else pure (ForInStep.yield r)) (λok s3=>
      if ok=QD then RU (model prog RX) A (eval elt env) (λx s4=>
       RU (model prog RX) A (call (.builtin "list.append") [acc,x]) (λJ s5=> ∃m,m<n/\I m s5) (notedBy (model prog RX) A env λe s'=>R (.error e) s') s4) (notedBy (model prog RX) A env λe s'=>R (.error e) s') s3
      else ∃m,m<n/\I m s3) (notedBy (model prog RX) A env λe s'=>R (.error e) s') s2) (notedBy (model prog RX) A env λe s'=>R (.error e) s') s1) (notedBy (model prog RX) A env λe s'=>R (.error e) s') s)
  (n:Nat) (h:I n s) (ht: ∀v,letOwnedTupleGo target it v=pure ()):
  bo (model prog RX) A (.compLoop (.ListComp elt [⟨target,iter,ifs,0⟩] scope pos) 0 it acc env) R s:=by
 refine ij (λJ J=>rfl) rfl I (λn s i=>?_) n h
 show RU _ A ((compTurn (.ListComp elt [⟨target,iter,ifs,0⟩] scope pos) 0 it acc env).onRaise (λx=>do noteFrame x env;theTreesLotGoes x)) _ _ s
 refine gI ?_
 rw[compTurn_list]
 refine aF (aD (turn n s i) λr s1 a=>?_)
 cases r with
 |none=>exact az a
 |some v=>
  refine ar (cG (ht v) (aD a λJ s2 d=>aD d λok s3 b=>?_))
  cases ok with
  |false=>exact az (.inl ⟨rfl,b⟩)
  |true=>exact ar (aD b λx s4 f=>aD f λJ s5 g=>az (az (.inl ⟨rfl,g⟩)))
def we (M:RE) (A:QN) (E:QG->QH->Prop) (use:Option (QG->Sem Unit)) (Q:QG->QH->Prop) (acc:QG) (C:QK) (r:RA) (s':QH):Prop:=
 match r,use with
 | .ok J,QC=> ∃m,s'.heap.Ns C m/\ ∀h',Heap.SameBut C s'.heap h'->Q acc {s' with heap:=h'}
 | .ok J,QA u=>RU M A (u acc) (λJ VA=> ∃m,VA.heap.Ns C m/\ ∀h',Heap.SameBut C VA.heap h'->Q .none {VA with heap:=h'}) E s'
 | .error J,J0=>False
theorem v5
  (RZ:clausesOf e=g::gs) (hs: ∀x,foldedSetIterable g.iter env x=pure x) (ZV:closureFor scope env=pure cl) (UX:scope.kind= .function) (Yk: ∀x∈scope.names,x.2= .local->scope.names.lookup x.1=QA .local)
  (h:RU (model prog RX) A first (λx s1=>RU (model prog RX) A (pyIter x) (λit s2=>RU (model prog RX) A Zd (λacc s3=>RU (model prog RX) A (newFunctionEnv scope env.globals cl [] env.qual QC .none (QA env)) (λcenv s4=>
    bo (model prog RX) A (.compStart e 0 it acc {cenv with scope:=relabel scope env}) (we (model prog RX) A E use Q acc cenv.locals) s4) E s3) E s2) E s1) E s):
  RU (model prog RX) A (comprehension e scope env pos Zd QE first use) Q E s:=by
 delta comprehension
 rw[ZV,RZ]
 have vars: ∀(cenv:PySem.Env) (x:Str×QQ),x∈(scope.names.filter λx=>(x.2== .local||x.2== .cell)&&x.1 !=(".0" :Str))->x.2= .local->Env.kindOf {cenv with scope:=relabel scope env} x.1=QA .local:=
  λcenv x hx hl=>lookup_relabel_local (Yk x (List.mem_filter.mp hx).1 hl)
 refine aD h λx s1 W3=>aF (ar (cG (hs x) (aL W3 λit s2 h2=>?_)))
 have si: ∀{α:Type} {c:Prop} [Decidable c] {pos:Pos} {k:PUnit->Sem α} {Q:α->QH->Prop},RU (model prog RX) A (k ()) Q E s2->RU (model prog RX) A (if c then(standAt pos>>=k) else k ()) Q E s2:=by
  intro α c _ pos k Q h
  split
  ·exact aF h
  ·exact h
 refine si (aD h2 λacc s3 h3=>ar (az (aD h3 λcenv s4 h4=>?_)))
 dsimp only
 refine bO (ar (mO (bO (Wk (dF h4 λr s' hr=>?_) HO))))
 cases r with
 |error x=>exact(show False by cases use<;>exact hr).elim
 |ok f=>
  cases use with
  |none=>
   exact aU hr λm hn hr=>(ar (bO (lift (wpAny_comp_letGo (cenv:={cenv with scope:=relabel scope env}) UX _ s' m (λx hx hl=>vars cenv x (Ow.mp hx) hl) hn λh' m' J YS=>az (hr h' YS)))))
  |some u=>
   refine ar (lift (PZ (aL hr λJ VA Sq=>(aU Sq λm hn Sq=>(ar (lift (wpAny_comp_letGo (cenv:={cenv with scope:=relabel scope env}) UX _ VA m (λx hx hl=>?_) hn λh' m' J YS=>az (Sq h' YS))))))))
   refine vars cenv x ?_ hl
   rcases Mq.mp hx with h1|h1
   ·exact Ow.mp (Nt h1)
   ·exact Ow.mp (MR h1)
end
end
section
open PySem.W PySem.Calls PyProof.Rows
section
variable {os:Q0}
theorem eX {id:String} {args:RH} {b:QP} {s:QH} (Yb:Tame (.builtin id args)) (hb:entryFor table id=QA b)
  (h:RU (model prog RX) (A.under (.builtin id args)) (b args) (λfin s'=>match fin with| .done f=>R (.ok f) s'| .again c'=>c'.quiet=QD/\bo (model prog RX) A c' R s') (λe s'=>R (.error e) s') s):bo (model prog RX) A (.builtin id args) R s:=by
 refine bJ Yb ?_
 show RU _ _ (match entryFor table id with|some b=>b args|none=>unsupported ((withoutEnding? id "#data").getD id)) _ _ s
 rw[hb];exact h
theorem jV {id:String} {args:RH} {s:QH} (hq:(Code.builtin id args).quiet=QD) (h:RU (model prog RX) A.in1 (checkBuiltinCall id args) (λJ Z3=>bo (model prog RX) A (.builtin id args) R Z3) (λe s'=>R (.error e) s') s):bo (model prog RX) A (.call (.builtin id) args) R s:=by
 refine bJ (λJ J=>rfl) ?_
 exact aD h λJ Z3 a=>az ⟨hq,a⟩
theorem Be (R3:Makes (model prog RX) hh C) (Li:Looks (model prog RX) hh (typeLookup (.ref C) "__init__") (QA (.ref fI))) (bf: ∀self,Looks (model prog RX) hh (bindSpecial (.ref fI) self) (.ref fI,[self]))
  (hq:bo (model prog RX) (A.under (.builtin "type.__call__" ⟨.ref C::rest,kw⟩)) (.call (.ref fI) ⟨.ref (hh.objs.size+1)::rest,kw⟩) (InitBack (hh.objs.size+1) R) ⟨(hh.push emptyDict).push (instObj C hh.objs.size),g,d,t,os⟩):
  bo (model prog RX) A (.builtin "type.__call__" ⟨.ref C::rest,kw⟩) R ⟨hh,g,d,t,os⟩:=by
 have h:=R3
 obtain⟨⟨oc,od,i,sl,l,e1,e2,j⟩,a,base,self,top,call,typ⟩:=R3
 refine eX (uc _) entry_typeCall ?_
 delta Builtin.«type.__call__»
 have f:Looks (model prog RX) hh (mroOf (.ref C)) i.mro:=((Looks.ld (part:=QC) l).andThen .now).andThen .now
 have UC:(Value.ref C==Value.type "type")=QE:=rfl
 refine ar (lift (f.at ?_))
 rw[j]
 refine ar (lift (a.at ?_))
 refine ar (az (ar (bO (lift (wpAny_call (new_K h Li (.inl rfl) ?_))))))
 have k: ∀b o,hh.get? b=QA o->((hh.push emptyDict).push (instObj C hh.objs.size)).get? b=QA o:=λb o e=>Nc _ (Nc _ e)
 have m:((hh.push emptyDict).push (instObj C hh.objs.size)).get? (hh.objs.size+1)=QA (instObj C hh.objs.size):=by
  have:=MP (hh.push emptyDict) (o:=instObj C hh.objs.size) rfl
  rwa [P4] at this
 have c:Looks (model prog RX) ((hh.push emptyDict).push (instObj C hh.objs.size)) (typeOf (.ref (hh.objs.size+1))) (.ref C):=(Looks.ld m).andThen .now
 have p:=self.keeps k
 have n:=Li.keeps k
 have b1:=(bf (.ref (hh.objs.size+1))).keeps k
 refine ar (lift ((c.andThen p:Looks _ _ (isInstance (.ref (hh.objs.size+1)) (.ref C)) QD).at (ar (bO ?_))))
 refine ar (lift ((c.andThen n:Looks _ _ (specialOf (.ref (hh.objs.size+1)) "__init__") (QA (.ref fI))).at ?_))
 refine bO (ar (lift (b1.at ?_)))
 refine ar (ic (dF hq λr s' z=>?_))
 rcases r with e|(v|_|_|_)<;>first|exact z|exact z.elim|skip
 obtain⟨rfl,z⟩:=z
 exact az (az z)
end
theorem Di {s:QH} {K:Frag} (F:Fr Y0 L s.heap m) (N:News Y0 L s.heap news) (X:K.In s.heap) (hm:makesIn K C=QD)
  (hi:findIn K (.ref C) "__init__" =QA (QA (.ref fI))) (hf:typeIn K (.ref fI)=QA (.type "function"))
  (h: ∀x dx h',Fr Y0 L h' m->News Y0 L h' ((x,instObj C dx)::(dx,emptyDict)::news)->(∀p∈news,p.1<dx)->dx<x->
   bo (model prog RX) (A.under (.builtin "type.__call__" ⟨.ref C::rest,kw⟩)) (.call (.ref fI) ⟨.ref x::rest,kw⟩) (InitBack x R) {s with heap:=h'}):
  bo (model prog RX) A (.call (.ref C) ⟨rest,kw⟩) R s:=by
 obtain⟨e,g,d,t,os⟩:=s
 have j:Makes (model prog RX) e C:=makes_of X hm
 have i:=(N.push F emptyDict).push (F.push _) (instObj C e.objs.size)
 rw[P4] at i
 have n:=h _ e.objs.size _ ((F.push _).push _) i (λp l=>MF (N p l).1) (Ox _)
 have c:=Be (g:=g) (d:=d) (t:=t) (os:=os) j (looks_findIn (M:=model prog RX) X hi) (λb=>bind_fn (M:=model prog RX) X b hf) n
 obtain⟨⟨oc,od,cd,sl,k,e1,e2,e4⟩,made,base,b,top,call,f⟩:=j
 refine bJ (λJ J=>rfl) ?_
 refine ar (lift (OP k ?_))
 refine ar (lift (call.at ?_))
 dsimp only
 rw[tc_bind]
 refine ar (az (ar (az (az (a:=Fin.again (.call (.builtin "type.__call__") ⟨.ref C::rest,kw⟩)) ⟨rfl,?_⟩))))
 exact jV (Code.quiet_builtin _ (by decide+kernel)) (lift (check_slot tc_kind tc_split f (tc_args _ _ _) c))
theorem Cj {K:Type} {prog:QX} {RX:QW} {A:QN} {E:QG->QH->Prop} {s:QH} {env:PySem.Env} [DecidableEq K] {knd:Q2 prog RX K} {keys:List (Option QF)} {values:List QF} {pos:Pos} {pairs:List (Sem QG×Sem QG)} {Q:QG->QH->Prop}
  (Yq:(evalEachOpt keys env).zip ((evalEach values env).map λv=>do let x <- v;standAt pos;pure x)=pairs.map λp=>(QA p.1,p.2)) (h0:pairs≠[]) (hlen:pairs.length<=15)
  (h:RU (model prog RX) A (evalPairs pairs) (λvs Z3=>vs.length<=15/\ ∃kvs,Carries knd vs kvs/\Z3.heap.DictOf knd s.heap.objs.size []/\
   ∀h',h'.DictOf knd s.heap.objs.size (merged [] kvs)->Heap.SameBut s.heap.objs.size Z3.heap h'->Q (.ref s.heap.objs.size) {Z3 with heap:=h',toks:=Z3.toks+vs.length}) E {s with heap:=s.heap.push {cls:= .type "dict",data:= .dict #[]}}):
  RU (model prog RX) A (eval (.Dict keys values pos) env) Q E s:=by
 rw[arm_eval_Dict,Yq,dictDisplay_pairs pairs h0 (aX 0x614414000603C1400 rfl hlen)]
 refine aF (aD (P:=λd b=>Q (.ref d) b) ?_ λd b h'=>az h')
 refine ar (lift (wpAny_alloc (ar (bO ?_))))
 rw[L6 hlen]
 refine aD h λvs Z3 i=>?_
 obtain⟨c,kvs,a,k,j⟩:=i
 have hsz:([]:List (K×QG)).length+kvs.length<=sizeLine:=by
  have e:=a.length
  rw[My,MX];exact RW 0x18010000001504810100620010603C1400 rfl c e
 exact bO (ar (lift (wpAny_storeAll (knd:=knd) vs kvs [] Z3 _ a k hsz λh' f g=>az (az (j h' f g)))))
end
section
open PySem.W PySem.Calls PyProof.Rows
open Classical
structure Pl where
 A:QN
 env:PySem.Env
 YD:PySem.Env
 outer:List PySem.Env
 L:QK
 m:Str->Option QG
 keep:cy
 cells:cy
 rest:cy
 frs:cy
noncomputable def Pl.pv (p:Pl):cy:=p.keep++(p.cells++p.rest)
structure Pl.At (p:Pl) (dep:Nat):Prop where
 frames:p.A.frames=QA (p.YD::p.outer)
 frame:p.YD.frame=QA p.L
 XZ:p.YD.scope.kind= .function
 frs:TI.Frs p.outer p.frs
 depth:p.A.depth+dep<=600
 units:p.A.units+5*dep+200<=cLine
 hand:p.A.handled=QC
theorem Pl.At.unit {p:Pl} {n:Nat} (h:p.At n):p.A.units+60<cLine:=dO (dO (Nat.add_lt_add_left (by decide:60<200) _) (Pb (LX _ _) _)) h.units
structure Pl.En (p:Pl) (c:Cx):Prop where
 ki: ∀n,c.sc.names.lookup n=QA .globalImplicit->p.env.kindOf n=QA .globalImplicit
 Xs: ∀n,c.sc.names.lookup n=QA .cell->p.env.kindOf n=QA .cell/\ ∃a,p.env.cells.lookup n=QA a
 kind:p.env.scope.kind= .function
 glob:p.env.globals=mainGlobals
 bi:p.env.builtins=builtinsNs
def Reads (p:Pl) (n:Str) (val:QG):Prop:=
 (p.env.kindOf n=QA .local/\p.env.locals=p.L/\p.m n=QA val)\/
 (p.env.kindOf n=QA .local/\ ∃(o:Obj) (es:Array QJ) (ep:Nat) (mm:Str->Option QG),(p.env.locals,o)∈p.pv/\o.data= .dict es ep/\RC es/\(∀name,nsFind es name=mm name)/\mm n=QA val)\/
 ((p.env.kindOf n=QA .cell\/p.env.kindOf n=QA .free)/\ ∃(c:QK) (o:Obj),p.env.cells.lookup n=QA c/\(c,o)∈p.pv/\o.data= .cell (QA val))
def dU (G:Gt) (p:Pl) (c:Cx) (w:Ld) (Y:Env):Prop:=
 ∀n x v,isVar c n x=QD->Y[x]?=QA (QA v)-> ∃val,RO G w v val/\Reads p n val
theorem dU.mono (h:dU G p c w Y) (le:w.le w'):dU G p c w' Y:=
 λn x v a b=>aU (h n x v a b) λval r z=>⟨val,r.mono le,z⟩
structure Rz (G:Gt) (l:List PySem.Env) (w:Ld) (mu:List cy) (pv fr:cy) (Z:H) (k:Nat) (e:QK) (h:QM) (fl:QG:= .none):Prop where
 heap: ∃B t,G.base.StaysIn B/\(∀q∈mu.flatten++(w.fz++pv),B.get? q.1=QA q.2/\G.base.get? q.1=QC)/\(B.StaysIn h/\B.get? e=QC/\h.FunFrames B l/\h.TracedAtW B e (.ref (G.cls k)) (.ref t) fl)/\B.get? t=QC
 up: ∀q∈fr,G.base.get? q.1=QC/\ ∃sl,h.get? q.1=QA {q.2 with slots:=sl}
 nd:((mu.flatten++(w.fz++(pv++fr))).map (·.1)).Nodup
 os:UB G w Z w.am mu
 f2:k≠14->F2 h e
 ek:ZO k=QD
def SV (L:QK) (m:Str->Option QG) (q:QK×Obj):Prop:=q.1=L/\ ∃es ep,q.2.data= .dict es ep/\RC es/\ ∀name,nsFind es name=m name
def l8 (G:Gt) (p:Pl) (w:Ld) (X:Nat->H->Prop) (PE:QG->QH->Prop):Prop:=
 ∀k RM e s' w' SA fo,X k RM->w.le w'->SV p.L p.m fo->Rz G (p.YD::p.outer) w' SA p.pv (fo::p.frs) RM k e s'.heap/\Sm G s'->PE (.ref e) s'
theorem l8.mono (h:l8 G p w X PE) (le:w.le w'):l8 G p w' X PE:=
 λk a e f c b d x l=>h k a e f c b d x (le.trans l)
abbrev cT (G:Gt) (p:Pl) (w:Ld) (Q:V->H->Prop) (PQ:QG->QH->Prop):Prop:=hW G p.pv p.frs p.L p.m w Q PQ
abbrev VR (G:Gt) (p:Pl) (w:Ld) (mu:List cy) (Z:H) (h:QM):Prop:=St G w mu p.pv p.frs p.L p.m Z h
abbrev TQ (G:Gt) (p:Pl) (w:Ld) (mu:List cy) (Z:H) (s:QH):Prop:=Sg G w mu p.pv p.frs p.L p.m Z s
def T9 (G:Gt) (cl:cw) (dep:Nat):Prop:=
 ∀f vs Q X Z,cl f vs Q X Z-> ∀(p:Pl) (w:Ld) (mu:List cy) (s:QH) (xs:List QG) (R:RA->QH->Prop),p.At (4*dep+3)->TQ G p w mu Z s->RP G w vs xs->
  cT G p w Q (λv s'=>R (.ok (.ret v)) s')->l8 G p w X (λe s'=>R (.error e) s')->bo (model G.prog G.w) p.A (.call (.ref (G.W9 f)) ⟨xs,[]⟩) R s
structure XC where
 nm:Str
 q:Str
 N:QK
 bs:List QG
 bm:List QG
 hd:Bool
 sn:List Str
 sub:List QG
 ab:Bool
 col:Option Bool
 dd:Option QK
 k0:Option QG
 k1:Option QG
 k2:Option QG
 k3:Option QG
 k5:Option QG
 m:Str->Option QG
noncomputable abbrev XC.obj (x:XC) (C:QK):Obj:=excClassObj x.nm x.q C x.N x.bs x.bm x.hd x.sn x.sub x.ab x.col x.dd x.k0 x.k1 x.k2 x.k3 x.k5 "Exception.__new__"
noncomputable abbrev tu:List QG:=[.type "Exception",.type "BaseException",.type "object"]
def D0 (G:Gt) (k:Nat):Prop:= ∃x:XC,G.base.get? (G.cls k)=QA (x.obj (G.cls k))/\G.base.Ns x.N x.m/\x.m "__init__" =QC/\Q8 G.base tu x.bm/\
 ∀j,ZO j=QD->(Value.ref (G.cls k)::x.bm).contains (.ref (G.cls j))=P.sub k j
structure Gn (G:Gt) (mg mb:Str->Option QG):Prop where
 d:Gd G
 g:G.base.Ns mainGlobals mg
 b:G.base.Ns builtinsNs mb
 fn: ∀f n,Wd.contains f=QD->nm.fn[f]?=QA n->f<131/\mg n=QA (.ref (G.W9 f))
 cls: ∀c n,nm.cls[c]?=QA n->mg n=QA (.ref (G.cls c))
 gl: ∀g n v,P.glob g=QA v->nm.glob[g]?=QA n-> ∃val,mg n=QA val/\ ∀w,RO G w v val
 kf: ∀f,f<131->keepIn G.K (.ref (G.W9 f))=QD
 kc: ∀c,keepIn G.K (.ref (G.cls c))=QD
 ml: ∀c m f,P.U0 c m=QA f->f<131
 ms: ∀c m f n f',P.U0 c m=QA f->nm.U0[m]?=QA n->P.at_ c f'=QD->nm.attr[f']?≠QA n
 ci: ∀c f,P.init c=QA f->Cl G c/\f<131
 ma: ∀c m f,P.U0 c m=QA f-> ∃f',P.at_ c f'=QD
 bi: ∀b:BI,mg (UM b).1=QC/\mb (UM b).1=QA (vT b)
 ex: ∀k,ZO k=QD->D0 G k
theorem Gn.exc {G:Gt} {mg mb:Str->Option QG} (Γ:Gn G mg mb) {k:Nat} (h:ZO k=QD) {T:Prop} (j: ∀x:XC,G.base.get? (G.cls k)=QA (x.obj (G.cls k))->G.base.Ns x.N x.m->x.m "__init__" =QC->Q8 G.base tu x.bm->
  (∀j,ZO j=QD->(Value.ref (G.cls k)::x.bm).contains (.ref (G.cls j))=P.sub k j)->T):T:=FY (Γ.ex k h) j
section
variable {mg mb:Str->Option QG} (Γ:Gn G mg mb) (RZ:T9 G cl dep)
include Γ RZ
theorem yj (En:p.En c) (S:TQ G p w mu Z s)
  (h1:(n==("__debug__" :Str))=QE) (h2:(n==("__classdict__" :Str))=QE) (h:Reads p n val) (q:PQ val s):wpAny (model G.prog G.w) p.A (eval (.Name n pos) p.env) PQ PE s:=by
 rcases h with⟨a,hl,hm⟩|⟨a,o,es,ep,mm,hm,hd,hs,hf,hv⟩|⟨a,c',o,hc,hm,hd⟩
 ·exact P9 (Ov En.kind a (by rw[hl];exact S.F.ns) hm q) h1
 ·exact P9 (Ov En.kind a ⟨o,es,ep,S.N.get (S.UP hm),hd,hs,hf⟩ hv q) h1
 ·rcases a with a|a
  ·exact P9 (wpAny_loadName_cell En.kind a hc ⟨o,S.N.get (S.UP hm),hd⟩ q) h1
  ·exact P9 (wpAny_loadName_free En.kind a hc ⟨o,S.N.get (S.UP hm),hd⟩ q h2) h1
def R6 (G:Gt) (cl:cw) (dep:Nat) (e:E):Prop:= ∀(c:Cx) (x:QF),SE nm e c x=QD-> ∀(p:Pl) (Y:Env) (Q:V->H->Prop) (X:Nat->H->Prop) (Z:H) (w:Ld) (mu:List cy) (s:QH) (PQ PE:QG->QH->Prop),
 p.At (4*dep+4)->p.En c->dU G p c w Y->wE P cl e Y Q X Z->TQ G p w mu Z s->cT G p w Q PQ->l8 G p w X PE->RU (model G.prog G.w) p.A (eval x p.env) PQ PE s
def Bu (G:Gt) (p:Pl) (w:Ld) (n:Nat) (Q:List V->H->Prop) (PQ:List QG->QH->Prop):Prop:=
 ∀vs RM xs s' w' SA,Q vs RM->w.le w'->TQ G p w' SA RM s'->RP G w' vs xs->vs.length=n->PQ xs s'
def f5 (G:Gt) (cl:cw) (dep:Nat) (es:Es):Prop:= ∀(c:Cx) (xs:List QF),TV nm es c xs=QD-> ∀(p:Pl) (Y:Env) (Q:List V->H->Prop) (X:Nat->H->Prop) (Z:H) (w:Ld) (mu:List cy) (s:QH) (PQ:List QG->QH->Prop) (PE:QG->QH->Prop) (pos:Pos),
 p.At (4*dep+4)->p.En c->dU G p c w Y->js P cl es Y Q X Z->TQ G p w mu Z s->Bu G p w xs.length Q PQ->l8 G p w X PE->RU (model G.prog G.w) p.A (spliced (backTo pos (starEach xs p.env))) PQ PE s
def vE (G:Gt) (p:Pl) (w:Ld) (Q:V->Bool->H->Prop) (PQ:Bool->QH->Prop):Prop:=
 ∀v b RM s' w' SA,truth RM v=QA b->Q v b RM->w.le w'->TQ G p w' SA RM s'->PQ b s'
def fE (G:Gt) (cl:cw) (dep:Nat) (e:E):Prop:= ∀(c:Cx) (x:QF),SE nm e c x=QD-> ∀(p:Pl) (Y:Env) (Q:V->Bool->H->Prop) (X:Nat->H->Prop) (Z:H) (w:Ld) (mu:List cy) (s:QH) (PQ:Bool->QH->Prop) (PE:QG->QH->Prop),
 p.At (4*dep+4)->p.En c->dU G p c w Y->wE P cl e Y (λv Z=> ∃b,truth Z v=QA b/\Q v b Z) X Z->TQ G p w mu Z s->vE G p w Q PQ->l8 G p w X PE->RU (model G.prog G.w) p.A (isTrue x p.env (eval x p.env)) PQ PE s
def kC (G:Gt) (cl:cw) (dep:Nat) (es:Es):Prop:= ∀(c:Cx) (xs:List QF),TV nm es c xs=QD->xs≠[]-> ∀(p:Pl) (Y:Env) (Q:V->H->Prop) (X:Nat->H->Prop) (Z:H) (w:Ld) (mu:List cy) (s:QH) (PQ PE:QG->QH->Prop) (pos:Pos),
 p.At (4*dep+4)->p.En c->dU G p c w Y->mz P cl es Y Q X Z->TQ G p w mu Z s->cT G p w Q PQ->l8 G p w X PE->RU (model G.prog G.w) p.A (eval (.BoolOp .And xs pos) p.env) PQ PE s
def pd (G:Gt) (cl:cw) (dep:Nat) (es:Es):Prop:= ∀(c:Cx) (xs:List QF),TV nm es c xs=QD->xs≠[]-> ∀(p:Pl) (Y:Env) (Q:V->H->Prop) (X:Nat->H->Prop) (Z:H) (w:Ld) (mu:List cy) (s:QH) (PQ PE:QG->QH->Prop) (pos:Pos),
 p.At (4*dep+4)->p.En c->dU G p c w Y->B3 P cl es Y Q X Z->TQ G p w mu Z s->cT G p w Q PQ->l8 G p w X PE->RU (model G.prog G.w) p.A (eval (.BoolOp .Or xs pos) p.env) PQ PE s
def iJ (G:Gt) (cl:cw) (dep:Nat) (es:Es):Prop:= ∀(c:Cx) (xs:List QF),TV nm es c xs=QD-> ∀(p:Pl) (Y:Env) (Q:V->Bool->H->Prop) (X:Nat->H->Prop) (Z:H) (w:Ld) (mu:List cy) (s:QH) (PQ:Bool->QH->Prop) (PE:QG->QH->Prop) (pos:Pos) (wh:Sem QG),
 p.At (4*dep+4)->p.En c->dU G p c w Y->mz P cl es Y (λv Z=> ∃b,truth Z v=QA b/\Q v b Z) X Z->TQ G p w mu Z s->vE G p w Q PQ->l8 G p w X PE->RU (model G.prog G.w) p.A (isTrue (.BoolOp .And xs pos) p.env wh) PQ PE s
def kD (G:Gt) (cl:cw) (dep:Nat) (es:Es):Prop:= ∀(c:Cx) (xs:List QF),TV nm es c xs=QD-> ∀(p:Pl) (Y:Env) (Q:V->Bool->H->Prop) (X:Nat->H->Prop) (Z:H) (w:Ld) (mu:List cy) (s:QH) (PQ:Bool->QH->Prop) (PE:QG->QH->Prop) (pos:Pos) (wh:Sem QG),
 p.At (4*dep+4)->p.En c->dU G p c w Y->B3 P cl es Y (λv Z=> ∃b,truth Z v=QA b/\Q v b Z) X Z->TQ G p w mu Z s->vE G p w Q PQ->l8 G p w X PE->RU (model G.prog G.w) p.A (isTrue (.BoolOp .Or xs pos) p.env wh) PQ PE s
omit Γ RZ in
theorem jy (h:e9 Y x Q): ∃v,Y[x]?=QA (QA v)/\Q v:=by
 unfold e9 at h
 revert h
 rcases Y[x]? with _|_|v
 ·exact False.elim
 ·exact False.elim
 ·exact λh=>⟨v,rfl,h⟩
theorem A9 (i:Nat):R6 G cl dep (.v i):=by
 intro c x a p Y Q X Z w mu s PQ PE At b e h S d hX
 exact CV x a λn pos a=>(aU (jy h) λv f h=>(aU (e _ _ _ a f) λval r g=>(lift (yj Γ RZ b S (i3 a).1 (i3 a).2 g (d _ _ _ _ _ _ h (.refl _) S r)))))
theorem eH:R6 G cl dep .none/\R6 G cl dep .tt/\R6 G cl dep .ff/\(∀n,R6 G cl dep (.str n))/\(∀b,R6 G cl dep (.RT b)):=by
 refine⟨?_,?_,?_,λn=>?_,λb=>?_⟩<;>intro c x e p Y Q X Z w mu s PQ PE At En Vs h S d hX
 ·exact tF x e λt a=>lift (wpAny_Constant_none (d _ _ _ _ _ _ h (.refl _) S .none))
 ·exact EO x e λt a=>lift (Pf (d _ _ _ _ _ _ h (.refl _) S (.bool _)))
 ·exact BM x e λt a=>lift (Pf (d _ _ _ _ _ _ h (.refl _) S (.bool _)))
 ·exact CS x e λs t a g=>lift (NS (d _ _ _ _ _ _ h (.refl _) S (.str _ g)))
 ·exact CP x e λt a f=>lift (Constant_bytes (d _ _ _ _ _ _ h (.refl _) S (.RT _ _ (bY f (by decide)))))
theorem A4 (i:Int):R6 G cl dep (.int i):=by
 intro c x d p Y Q X Z w mu s PQ PE At En Vs h S b hX
 exact xe x d (λt a=>lift (Pw (b _ _ _ _ _ _ h (.refl _) S (.int _ _)))) λt a p' hi=>(lift (wpAny_UnaryOp (Pw (neg_int (by rw[Int.neg_neg];exact b _ _ _ _ _ _ h (.refl _) S (.int _ _))))))
omit RZ in
theorem fq (En:p.En c) (S:TQ G p w mu Z s) (hk:c.sc.names.lookup n=QA .globalImplicit) (hd:(n==("__debug__" :Str))=QE) (h1:mg n=QA val) (q:PQ val s):
  wpAny (model G.prog G.w) A (eval (.Name n pos) p.env) PQ PE s:=
 Pc En.kind (En.ki _ hk) (loadGlobal_global (En.glob.symm▸Γ.g.keeps S.F.keep) h1 q) hd
theorem yH (g:Nat):R6 G cl dep (.g g):=by
 intro c x l p Y Q X Z w mu s PQ PE At a Vs h S b hX
 exact Ah x l λn pos i f j=>(aU h λv k q=>(aU (Γ.gl g n v k j) λval d e=>(lift (fq Γ a S i f d (b _ _ _ _ _ _ q (.refl _) S (e w))))))
theorem yD (ih:R6 G cl dep e):R6 G cl dep (.t e f):=by
 intro c x a p Y Q X Z w mu s PQ PE b d j h S g k
 refine Ae x a λv n pos l m a=>(Cn m (ih c _ a p Y _ X Z w mu s _ PE b d j h S (λv RM val s' w' SA q y i r=>?_) k))
 exact aU q λu o q=>(lift (sV Γ.d l o q i (g.mono y) r))
theorem A0 (YU:R6 G cl dep a) (Y4:R6 G cl dep b):R6 G cl dep (.b op a b):=by
 intro c x C p Y Q X Z w mu s PQ PE e f i h S k j
 refine CN x C λl o r pos B z A=>?_
 rw[jc B]
 refine sY (YU c _ z p Y _ X Z w mu s _ PE e f i h S (λu m a F H t q d n D=>?_) j)
 refine Y4 c _ A p Y _ X m H t F _ PE e f (i.mono d) q n (λv SY b VA W6 WI q g y E=>?_) (j.mono d)
 exact lift (zy op q y (k.mono (d.trans g)) (D.mono g) E)
theorem A2 {op:CO} {a b:E} (YU:R6 G cl dep a) (Y4:R6 G cl dep b):R6 G cl dep (.c op a b):=by
 intro c x C p Y Q X Z w mu s PQ PE d f i h S m k
 refine xd x C λl o r pos B A j=>?_
 rw[gM B]
 refine q9 (YU c _ A p Y _ X Z w mu s _ PE d f i h S (λu n a H I y q e t D=>?_) k) (fM j)
 refine Y4 c _ j p Y _ X n I y H _ PE d f (i.mono e) q t (λv SY b VA W6 WI q g z F=>?_) (k.mono e)
 exact lift (gL op Γ.d.mods d.unit q z (m.mono (e.trans g)) (D.mono g) F)
theorem A7 (YU:R6 G cl dep a) (Y4:R6 G cl dep b):R6 G cl dep (.sub a b):=by
 intro c x A p Y Q X Z w mu s PQ PE e f i h S l j
 refine CT x A λv k pos z t y=>(jU (YU c _ t p Y _ X Z w mu s _ PE e f i h S (λu m a k D o q d n B=>?_) j))
 refine Y4 c _ y p Y _ X m D o k _ PE e f (i.mono d) q n (λv SY b VA W6 WI q g r C=>?_) (j.mono d)
 exact lift (Bc z q r (l.mono (d.trans g)) (B.mono g) C)
theorem vk:f5 G cl dep .nil:=by
 intro c xs b p Y Q X Z w mu s PQ PE pos At En Vs h S a hX
 rcases xs with _|⟨x,r⟩
 ·exact lift (Px (a _ _ _ _ _ _ h (.refl _) S .nil rfl))
 ·exact SP b
theorem sg {e:E} {es:Es} (ih:R6 G cl dep e) (YH:f5 G cl dep es):f5 G cl dep (.cons e es):=by
 intro c xs b p Y Q X Z w mu s PQ PE d f g k h S n m
 rcases xs with _|⟨x,r⟩
 ·exact SP b
 ·have l:=(a2 b).1
  have i:=(a2 b).2
  refine ig (ih c x l p Y _ X Z w mu s _ PE f g k h S (λv o val C D u q a t B=>?_) m) (bP ((cY l).trans (iC i))).1
  refine YH c r i p Y _ X o D u C _ PE d f g (k.mono a) q t (λvs SY vals VA W6 WI q j y A z=>?_) (m.mono a)
  exact n _ _ _ _ _ _ q (a.trans j) y (.cons (B.mono j) A) (By (· +1) z)
omit Γ RZ in
theorem oy (rs:RP G w vs xs) (h:vs.length<=2000000):xs.toArray.size<=sizeLine:=by
 rw[My,IF,<- rs.length];exact bY h (by decide)
theorem A8 {es:Es} (ih:f5 G cl dep es):R6 G cl dep (.tup es):=by
 intro c x a p Y Q X Z w mu s PQ PE f g l h S i n
 refine CU x a λvs q pos m a=>(nG (ih c _ a p Y _ X Z w mu s _ PE _ f g l h S (λvs RM xs s' w' SA q r b e o=>?_) n))
 have d:vs.length<=2000000:=bY (o▸m) (by decide)
 exact kE (b.1.newTuple e d) λw2 j k t=>(lift (M4 (i _ _ _ _ _ _ q (r.trans j) ⟨k,b.2⟩ t) (oy e d)))
omit Γ RZ in
theorem kn (h:l.length=n):(l++[x])[n]?=QA x:=h▸List.getElem?_concat_length
theorem yI {fr:Bool} {es:Es} (ih:f5 G cl dep es):R6 G cl dep (.list fr es):=by
 intro c x j p Y Q X Z w mu s PQ PE r t u h S m y
 refine Ai x j λvs pos v j=>(Ck (ih c _ j p Y _ X Z w mu s _ PE _ r t u h S (λvs RM xs k l SA q n b g z=>?_) y))
 have f:vs.length<=2000000:=bY (z▸v) (by decide)
 rcases fr with _|_
 ·have d:l.le ⟨l.am++[k.heap.objs.size],l.fz⟩:=⟨Of _ _,λp A=>A⟩
  have i:=b.1.Uz (e:=[(k.heap.objs.size,listOf xs.toArray 0)]) (o:= .list vs) (a:=k.heap.objs.size) (b.F.push _) (b.N.push b.F _) (λq B=>(LS.mp B)▸b.1.fresh (cX _)) (Nw _ _) (.list (g.mono d) f)
  exact lift (M4 (m _ _ _ _ _ _ q (n.trans d) ⟨i,b.2⟩ (.ref (kn b.os.length.1))) (oy g f))
 ·exact kE (b.1.newList g f) λw2 d i C=>(lift (M4 (m _ _ _ _ _ _ q (n.trans d) ⟨i,b.2⟩ C) (oy g f)))
theorem A6 (ih:R6 G cl dep e):R6 G cl dep (.not e):=by
 intro c x a p Y Q X Z w mu s PQ PE d f k h S g l
 refine xf x a λv pos a=>(uA (ih c _ a p Y _ X Z w mu s _ PE d f k h S (λv RM val s' w' SA q n i r=>?_) l))
 exact aU q λb m q=>(El (lift (dR m i r λVA j=>g _ _ _ _ _ _ q n j (.bool _))))
theorem qF {lo:E} (ihl:R6 G cl dep lo) {c:Cx} {p:Pl} {Y:Env} {X:Nat->H->Prop} {PE:QG->QH->Prop} (At:p.At (4*dep+4)) (En:p.En c) (l:Option QF) (okl:rW nm lo c l=QD)
  {Q:V->H->Prop} {Z:H} {w:Ld} {mu:List cy} {s:QH} {PQ:QG->QH->Prop} (Vs:dU G p c w Y) (h:wE P cl lo Y Q X Z) (S:TQ G p w mu Z s) (P':cT G p w Q PQ) (hX:l8 G p w X PE):RU (model G.prog G.w) p.A (evalPart l p.env) PQ PE s:=by
 rcases l with _|l
 ·have e:=tK okl
  rw[e] at h
  exact lift (LW (P' _ _ _ _ _ _ h (.refl _) S .none))
 ·exact ihl c l okl p Y Q X Z w mu s PQ PE At En Vs h S P' hX
theorem vq {e lo hi:E} (ih:R6 G cl dep e) (ihl:R6 G cl dep lo) (Yt:R6 G cl dep hi):R6 G cl dep (.l e lo hi):=by
 intro c x H p Y Q X Z w mu s PQ PE f g j h S t k
 refine xg x H λv l h' pos' pos D n m=>(jU (ih c _ D p Y _ X Z w mu s _ PE f g j h S (λu RM a s' w' SA q b z I=>?_) k))
 refine zC (qF Γ RZ ihl f g l n (j.mono b) q z (λx R8 M s1 U2 VX q d A J=>?_) (k.mono b))
 refine qF Γ RZ Yt f g h' m (j.mono (b.trans d)) q A (λy B N r L F q i o K=>?_) (k.mono (b.trans d))
 refine lift (LW (a:=Value.none) ?_)
 have C:Sg G L F p.pv p.frs p.L p.m B ({r with heap:=r.heap.push {cls:= .type "slice",data:= .fields #[M,N,.none]}}:QH):=⟨St.push o.1 _,o.2⟩
 exact lift (vj (value:=QC) q C (t.mono (b.trans (d.trans i))) (I.mono (d.trans i)) (J.mono i) K (Heap.IsSliceOf.new ..))
end
end
section
set_option tactic.hygienic true
open PySem.W PySem.Calls PyProof.Rows
open Classical
section
variable {mg mb:Str->Option QG} (Γ:Gn G mg mb) (RZ:T9 G cl dep)
include Γ RZ
theorem qz {e:E} {es:Es} (ih:R6 G cl dep e) (YH:kC G cl dep es):kC G cl dep (.cons e es):=by
 intro c xs F _ p Y Q X Z w mu s m PE l d f j h S g k
 refine dM (jG F) λx r C o i=>?_;subst C
 cases es with
 |nil=>
  obtain rfl:=gu i
  exact(show RU (model G.prog G.w) p.A (eval x p.env) m PE s from ih c x o p Y _ X Z w mu s _ PE d f j h S g k)
 |cons e2 es2=>
  obtain⟨x2,r2,rfl,_,_⟩:=jG i
  refine Eh (ih c x o p Y _ X Z w mu s _ PE d f j h S (λv u val s' H A q a y t=>?_) k)
  refine aU q λb D q=>(lift (dR D y t λB n=>?_))
  cases b with
  |true=>exact YH c _ i (by(intro z;cases z)) p Y Q X u H A B m PE l d f (j.mono a) q n (g.mono a) (k.mono a)
  |false=>exact g _ _ _ _ _ _ q a n t
theorem sj {e:E} {es:Es} (ih:R6 G cl dep e) (YH:pd G cl dep es):pd G cl dep (.cons e es):=by
 intro c xs F _ p Y Q X Z w mu s m PE l d f j h S g k
 refine dM (jG F) λx r C o i=>?_;subst C
 cases es with
 |nil=>
  obtain rfl:=gu i
  exact(show RU (model G.prog G.w) p.A (eval x p.env) m PE s from ih c x o p Y _ X Z w mu s _ PE d f j h S g k)
 |cons e2 es2=>
  obtain⟨x2,r2,rfl,_,_⟩:=jG i
  refine GR (ih c x o p Y _ X Z w mu s _ PE d f j h S (λv u val s' H A q a y t=>?_) k)
  refine aU q λb D q=>(lift (dR D y t λB n=>?_))
  cases b with
  |false=>exact YH c _ i (by(intro z;cases z)) p Y Q X u H A B m PE l d f (j.mono a) q n (g.mono a) (k.mono a)
  |true=>exact g _ _ _ _ _ _ q a n t
theorem sf:kC G cl dep .nil:=λc xs b a=>absurd (gu b) a
theorem vm:pd G cl dep .nil:=λc xs b a=>absurd (gu b) a
theorem qC:iJ G cl dep .nil:=by
 intro c xs f p Y Q X Z w mu s PQ PE pos wh At En Vs h S a hX
 obtain rfl:=gu f
 refine aU h λb d q=>?_
 have e:=iN d
 rw[<- e] at q
 exact lift (isTrue_and_nil (a _ _ _ _ _ _ rfl q (.refl _) S))
theorem sv:kD G cl dep .nil:=by
 intro c xs f p Y Q X Z w mu s PQ PE pos wh At En Vs h S a hX
 obtain rfl:=gu f
 refine aU h λb d q=>?_
 have e:=iN d
 rw[<- e] at q
 exact lift (isTrue_or_nil (a _ _ _ _ _ _ rfl q (.refl _) S))
theorem oA {e:E} {es:Es} (ih:fE G cl dep e) (YH:iJ G cl dep es):iJ G cl dep (.cons e es):=by
 intro c xs J p Y Q X Z w mu s B PE n K i j k h S g m
 refine dM (jG J) λx r F y u=>?_;subst F
 cases es with
 |nil=>
  obtain rfl:=gu u
  refine v8 (ih c x y p Y Q X Z w mu s _ PE i j k h S (λv b o z A t a q d f=>?_) m)
  cases b with
  |true=>exact lift (isTrue_and_nil (g _ _ _ _ _ _ a q d f))
  |false=>exact g _ _ _ _ _ _ a q d f
 |cons I l=>
  refine v8 (ih c x y p Y (λv b Z=>match b with
    |true=>mz P cl (.cons I l) Y (λv Z=> ∃b,truth Z v=QA b/\Q v b Z) X Z
    |false=> ∃b,truth Z v=QA b/\Q v b Z) X Z w mu s _ PE i j k h S (λv b o z A t a q d f=>?_) m)
  cases b with
  |true=>exact YH c r u p Y Q X o A t z B PE n K i j (k.mono d) q f (λv b R8 Z3 U2 VX a q D C=>g _ _ _ _ _ _ a q (d.trans D) C) (m.mono d)
  |false=>
   refine aU q λb' H q=>?_
   have e:=iN (a.symm.trans H)
   rw[<- e] at q
   exact g _ _ _ _ _ _ a q d f
theorem qD {e:E} {es:Es} (ih:fE G cl dep e) (YH:kD G cl dep es):kD G cl dep (.cons e es):=by
 intro c xs J p Y Q X Z w mu s B PE n K i j k h S g m
 refine dM (jG J) λx r F y u=>?_;subst F
 cases es with
 |nil=>
  obtain rfl:=gu u
  refine Bw (ih c x y p Y Q X Z w mu s _ PE i j k h S (λv b o z A t a q d f=>?_) m)
  cases b with
  |false=>exact lift (isTrue_or_nil (g _ _ _ _ _ _ a q d f))
  |true=>exact g _ _ _ _ _ _ a q d f
 |cons I l=>
  refine Bw (ih c x y p Y (λv b Z=>match b with
    |true=> ∃b,truth Z v=QA b/\Q v b Z
    |false=>B3 P cl (.cons I l) Y (λv Z=> ∃b,truth Z v=QA b/\Q v b Z) X Z) X Z w mu s _ PE i j k h S (λv b o z A t a q d f=>?_) m)
  cases b with
  |false=>exact YH c r u p Y Q X o A t z B PE n K i j (k.mono d) q f (λv b R8 Z3 U2 VX a q D C=>g _ _ _ _ _ _ a q (d.trans D) C) (m.mono d)
  |true=>
   refine aU q λb' H q=>?_
   have e:=iN (a.symm.trans H)
   rw[<- e] at q
   exact g _ _ _ _ _ _ a q d f
theorem AZ {es:Es} (ih:kC G cl dep es):R6 G cl dep (.and es):=by
 intro c x a p Y Q X Z w mu s g PE b d i h S f j
 exact xb x a λv vs pos a=>(ih c _ a (λe=>by cases e) p Y Q X Z w mu s g PE _ b d i h S f j)
theorem DB {es:Es} (ih:pd G cl dep es):R6 G cl dep (.or es):=by
 intro c x a p Y Q X Z w mu s g PE b d i h S f j
 exact BN x a λv vs pos a=>(ih c _ a (λe=>by cases e) p Y Q X Z w mu s g PE _ b d i h S f j)
theorem yA {es:Es} (ih:iJ G cl dep es):fE G cl dep (.and es):=by
 intro c x a p Y Q X Z w mu s f PE b d g h S e i
 exact xb x a λv vs pos a=>(ih c _ a p Y Q X Z w mu s f PE _ _ b d g h S e i)
theorem AY {es:Es} (ih:kD G cl dep es):fE G cl dep (.or es):=by
 intro c x a p Y Q X Z w mu s f PE b d g h S e i
 exact BN x a λv vs pos a=>(ih c _ a p Y Q X Z w mu s f PE _ _ b d g h S e i)
theorem yC (ih:fE G cl dep e):fE G cl dep (.not e):=by
 intro c x d p Y Q X Z w mu s PQ PE f g k h S i m
 refine xf x d λv pos d=>(nK (ih c _ d p Y (λu b Z=> ∃a,truth Z (.bool (!b))=QA a/\Q (.bool (!b)) a Z) X Z w mu s _ PE f g k h S (λv b RM s' w' SA hb q n j=>?_) m))
 refine aU q λa l q=>?_
 have e:=iN l
 rw[<- e] at q
 exact i _ _ _ _ _ _ rfl q n j
theorem yB (YU:R6 G cl dep a) (Y4:R6 G cl dep b):fE G cl dep (.c op a b):=by
 intro c x I p Y Q X Z w mu s PQ PE d f i h S n k
 refine xd x I λl o r pos H E j=>?_
 rw[gM H]
 refine iM (YU c _ E p Y _ X Z w mu s _ PE d f i h S (λu t a L M A q e y J=>?_) k) (fM j)
 refine Y4 c _ j p Y _ X t M A L _ PE d f (i.mono e) q y (λv SY b VA W6 WI q g D K=>?_) (k.mono e)
 refine lift (gL (Q:=λv Z=> ∃b,truth Z v=QA b/\Q v b Z) op Γ.d.mods d.unit q D (λv R8 val Z3 U2 VX q B z F=>?_) (J.mono g) K)
 exact aU q λb m q=>(lift (dR m z F λs2 C=>n _ _ _ _ _ _ m q (e.trans (g.trans B)) C))
theorem sx (ih:R6 G cl dep e) (he: ∀c x,SE nm e c x=QD-> ∀(env:PySem.Env) (wh:Sem QG),isTrue x env wh=(do let v <- wh;standAt x.pos;holding [v] (truthy v))):fE G cl dep e:=by
 intro c x d p Y Q X Z w mu s PQ PE f g l h S i m
 refine kQ (ih c x d p Y _ X Z w mu s _ PE f g l h S (λv RM val s' w' SA q n j r=>?_) m) (he c x d _ _)
 exact aU q λb a q=>(lift (dR a j r λVA k=>i _ _ _ _ _ _ a q n k))
theorem yF {o1 o2:CO} {a b d:E} (YU:R6 G cl dep a) (Y4:R6 G cl dep b) (ihd:R6 G cl dep d):R6 G cl dep (.d o1 o2 a b d):=by
 intro c x ok p Y Q X Z w mu s PQ PE f i j h S o k
 refine tE x ok λl p1 q1 r1 s1 pos K m V W e=>?_
 rw[gM K,gM m]
 have F:=f.unit
 refine zB (YU c _ V p Y _ X Z w mu s _ PE f i j h S (λu J a s' w' N q n L ru=>?_) k) (fM e)
 refine nI (Y4 c _ W p Y _ X J w' N s' _ PE f i (j.mono n) q L (λv SY b VA W6 WI q C R H=>?_) (k.mono n))
 refine lift (gL (Q:=λr Z=>match r with
   | .bool QD=>wE P cl d Y (λx Z=>cP Z o2 v x λr=>Q (.bool r) Z) X Z
   | .bool QE=>Q (.bool QE) Z
   |_=>False) o1 Γ.d.mods F (cast (by congr 1;funext r;cases r<;>rfl) q) R (λr I val Z3 O U q z M D=>?_) (ru.mono C) H)
 cases r<;>first|exact q.elim|skip
 rename_i t
 refine lift (dR (r:=t) rfl M D λs2 A=>?_)
 have g:=n.trans (C.trans z)
 cases t with
 |true=>
  refine nH (ihd c _ e p Y _ X I O U s2 _ PE f i (j.mono g) q A (λy SX yv s3 w3 Vv q B T ry=>?_) (k.mono g))
  exact lift (gL o2 Γ.d.mods F q T (o.mono (g.trans B)) (H.mono (z.trans B)) ry)
 |false=>exact o _ _ _ _ _ _ q g A D
theorem vp {o1 o2:CO} {a b d:E} (YU:R6 G cl dep a) (Y4:R6 G cl dep b) (ihd:R6 G cl dep d):fE G cl dep (.d o1 o2 a b d):=by
 intro c x ok p Y Q X Z w mu s PQ PE g j k h S A m
 refine tE x ok λl p1 q1 r1 s1 pos L n XS YV f=>?_
 rw[gM L,gM n]
 have H:=g.unit
 refine kP (YU c _ XS p Y _ X Z w mu s _ PE g j k h S (λu K a s' w' O q o M ru=>?_) m) (fM f)
 refine pC (Y4 c _ YV p Y _ X K w' O s' _ PE g j (k.mono o) q M (λv SY b VA W6 WI q F U I=>?_) (m.mono o))
 refine lift (gL (Q:=λr Z=>match r with
   | .bool QD=>wE P cl d Y (λx Z=>cP Z o2 v x λr=> ∃b,truth Z (.bool r)=QA b/\Q (.bool r) b Z) X Z
   | .bool QE=> ∃b,truth Z (.bool QE)=QA b/\Q (.bool QE) b Z
   |_=>False) o1 Γ.d.mods H (cast (by congr 1;funext r;cases r<;>rfl) q) U (λr J val Z3 T W q B N Xk=>?_) (ru.mono F) I)
 cases r<;>first|exact q.elim|skip
 rename_i t
 refine lift (dR (r:=t) rfl N Xk λs2 C=>?_)
 have i:=o.trans (F.trans B)
 cases t with
 |true=>
  refine pB (ihd c _ f p Y _ X J T W s2 _ PE g j (k.mono i) q C (λy SX yv s3 w3 Vv q D V ry=>?_) (m.mono i))
  refine lift (gL (Q:=λv Z=> ∃b,truth Z v=QA b/\Q v b Z) o2 Γ.d.mods H q V (λv T6 val s4 w4 mu4 q R XU z=>?_) (I.mono (B.trans D)) ry)
  exact aU q λb e q=>(lift (dR e XU z λs5 YY=>A _ _ _ _ _ _ e q (i.trans (D.trans R)) YY))
 |false=>
  refine aU q λb e q=>?_
  have:b=QE:=by cases e;rfl
  subst this
  exact A _ _ _ _ _ _ e q i C
end
end
section
open PySem.W PySem.Calls PyProof.Rows
open Classical
def sP (G:Gt) (f:QG):Prop:= ∀h,G.K.In h-> ∃k,(k=Keeper.frame\/k=Keeper.machine\/k=Keeper.boundFrame)/\Looks (model G.prog G.w) h (keeperOf f) k
theorem UE (G:Gt) (i:String):sP G (.builtin i):=λJ J=>⟨.machine,.inr (.inl rfl),.now⟩
theorem Sa (G:Gt) (i:String):sP G (.type i):=λJ J=>⟨.machine,.inr (.inl rfl),.now⟩
section
variable {mg mb:Str->Option QG} (Γ:Gn G mg mb) (RZ:T9 G cl dep)
include Γ RZ
theorem gJ {es:Es} (ih:f5 G cl dep es) {c:Cx} {xs:List QF} (ok:TV nm es c xs=QD) {p:Pl} {Y:Env} {Q:List V->H->Prop} {X:Nat->H->Prop} {Z:H} {w:Ld} {mu:List cy} {s:QH} {PQ PE:QG->QH->Prop} {pos:Pos} {f:QG} {first:List QG}
  (hk:sP G f) (At:p.At (4*dep+4)) (En:p.En c) (Vs:dU G p c w Y) (h:js P cl es Y Q X Z) (S:TQ G p w mu Z s) (hX:l8 G p w X PE)
  (P':Bu G p w xs.length Q (λvs s'=>RU (model G.prog G.w) p.A (call f (first++vs)) PQ PE s')):
  RU (model G.prog G.w) p.A (callWith pos f first (backTo pos (starEach xs p.env)) []) PQ PE s:=by
 have b:=iC ok
 have d:=ih c xs ok p Y Q X Z w mu s (λvs s'=>G.K.In s'.heap/\RU (model G.prog G.w) p.A (call f (first++vs)) PQ PE s') PE pos At En Vs h S (λvs RM vals s' w' SA q i a j g=>⟨Γ.d.X.keeps a.F.keep,P' _ _ _ _ _ _ q i a j g⟩) hX
 refine kN (by rw[kH b];rfl) hk ?_
 rcases xs with _|⟨x,r⟩
 ·rcases es with _|⟨e,es⟩
  ·exact lift (evalArgs_nil3 ⟨Γ.d.X.keeps S.F.keep,P' _ _ _ _ _ _ h (.refl _) S .nil rfl⟩)
  ·exact SP ok
 ·rw[(bP b).1] at d ⊢
  exact fH d
theorem fJ (ih:R6 G cl dep a) (ok:SE nm a c x=QD)
  (hk:sP G f) (At:p.At (4*dep+4)) (En:p.En c) (Vs:dU G p c w Y) (h:wE P cl a Y Q X Z) (S:TQ G p w mu Z s) (hX:l8 G p w X PE)
  (P':cT G p w Q (λv s'=>RU (model G.prog G.w) p.A (call f (first++[v])) PQ PE s')):
  RU (model G.prog G.w) p.A (callWith pos f first (backTo pos (starEach [x] p.env)) []) PQ PE s:=by
 have d:SS [x]=QD:=cY ok
 refine kN (by rw[kH d];rfl) hk ?_
 rw[(bP d).1]
 refine fH (mP (ih c x ok p Y Q X Z w mu s _ PE At En Vs h S (λv RM val s' w' SA q e b r=>?_) hX))
 exact lift (spliced_nil ⟨Γ.d.X.keeps b.F.keep,P' _ _ _ _ _ _ q e b r⟩)
omit Γ RZ in
theorem Pl.At.le {p:Pl} {m n:Nat} (h:p.At n) (l:m<=n):p.At m:=⟨h.frames,h.frame,h.XZ,h.frs,bY (BY l _) h.depth,bY (Pb (BY (Pg 5 l) _) _) h.units,h.hand⟩
theorem yE {f:Nat} {es:Es} (ih:f5 G cl dep es):R6 G cl dep (.call f es):=by
 intro c x a p Y Q X Z w mu s PQ PE b d y h S k e
 exact Af x a λn np as pos A z i g a=>(fG (lift (fq Γ d S A z (Γ.fn f n i g).2 (gJ Γ RZ ih a (keeps_K (Γ.kf f (Γ.fn f n i g).1)) b d y h S e (λvs l xs C D t q j m B hl=>(ic (RZ f vs Q X l q p D t C xs _ (b.le (NX _)) m B (λv R8 val s1 U2 VX q u o r=>k _ _ _ _ _ _ q (j.trans u) o r) (e.mono j))))))))
theorem yJ {e:E} {m:Nat} {es:Es} (XQ:R6 G cl dep e) (ih:f5 G cl dep es):R6 G cl dep (.m e m es):=by
 intro c x i p Y Q X Z w mu s PQ PE j z A h S K u
 ·refine Aj x i λo n apos as pos H F hp R V i=>(iO hp (iC i) (Oz F (by decide)) R (XQ c _ V p Y _ X Z w mu s _ PE j z A h S (λv RM val s' w' SA q g l J=>?_) u))
  intro pl
  refine dM q λk f hc b q=>?_
  obtain⟨a,d,fs,ens,ep,rfl,I,B,L,hg⟩:=tG l J hc
  have D:=Γ.ml k m f b
  obtain⟨f',y⟩:=Γ.ma k m f b
  have C:=Γ.d.cl k f' y
  have W:=Γ.d.X.keeps l.F.keep
  refine lift (method_fn W I C.ga C.gt (C.U0 m n f H b) (Γ.d.fnT f D) ?_ ?_)
  ·unfold shadowIn
   dsimp only
   rw[p7 B.noRef (B.names λq hq=>Γ.ms k m f n q.1 b H (L q hq))]
   rfl
  ·refine gJ Γ RZ ih i (keeps_K (Γ.kf f D)) j z (A.mono g) q l (u.mono g) (λvs M xs s1 P U q t N rs F=>(ic (RZ f (v::vs) Q X M q p P U s1 (.ref a::xs) _ (j.le (NX _)) N (.cons (J.mono t) rs) (λv SG val s2 w2 ZE q O T r=>K _ _ _ _ _ _ q (g.trans (t.trans O)) T r) (u.mono (g.trans t)))))
theorem CM {p:Pl} {w:Ld} {r:Nat} (S:TQ G p w mu Z s) (ha:w.am[r]?=QA d) (ho:Z[r]?=QA (.dict kvs)) (hk:ir kvs u) (ru:RO G w u x)
  (q:Q ((T4 kvs u).getD .none) Z) (P':cT G p w Q PQ):wpAny (model G.prog G.w) p.A (call (.builtin "dict.get") [.ref d,x]) PQ PE s:=by
 obtain⟨o,_,a,_,D⟩:=S.WZ ha ho
 refine D.view hk ru λK dec knd R n Yw Zp k1 k i c b g f X9=>?_
 have e:=dT k i c b
 refine kdg_get1 S.N a f (S.low a Γ.d.mods) g _ rfl ?_
 revert e q
 rcases T4 kvs u with _|v
 ·exact λq e=>by rw[e];exact P' _ _ _ _ _ _ q (.refl _) S .none
 ·exact λq h=>aU h λy e j=>by rw[e];exact P' _ _ _ _ _ _ q (.refl _) S j
theorem A3 {e a:E} (XQ:R6 G cl dep e) (YU:R6 G cl dep a):R6 G cl dep (.get e a):=by
 intro c x M p Y Q X Z w mu s PQ PE j k t h S F A
 refine CQ x M λo apos y pos K I J z=>(iO K (cY z) (by show 1<30;decide) I (XQ c _ J p Y _ X Z w mu s _ PE j k t h S (λv RM val s' w' SA q i l D=>?_) A))
 intro pl
 refine kE q λr L f q=>?_
 rw[L] at D
 refine RO.WA D λd B=>?_
 obtain⟨kvs,g⟩:=gQ.2.2 f
 obtain⟨C,_,_,n,_,b,_⟩:=l.WZ B g
 exact lift (PD ⟨C,n,b.1⟩ PySem.F.plainAttrs_dict PySem.F.slot_dict_get PySem.F.type_dict_get (λa e=>Value.ref.inj e▸⟨C,n,b.2.1⟩) (fJ Γ RZ YU z (UE G _) j k (t.mono i) q l (A.mono i) (λu R8 x s1 U2 VX q m H N=>(kE q λkvs g f q=>(lift (CM Γ RZ H (bE m.am B) g f N q (F.mono (i.trans m))))))))
omit Γ RZ in
theorem xS {x dx:QK} {o o':Obj} {l:cy} (l1: ∀q∈l,q.1<dx) (l2:dx<x): ∀p∈[(x,o),(dx,o')],∀q∈l,q.1≠p.1:=λp a q b e=>by
 have h:=l1 q b
 rcases tO.mp a with rfl|a
 ·exact NQ _ (Oz (MU (MB e.symm) h) l2)
 ·cases LS.mp a
  exact NQ _ (MU (MB e.symm) h)
omit Γ RZ in
theorem AE {x dx:QK} {o o':Obj} (l2:dx<x):([(x,o),(dx,o')].map (·.1)).Nodup:=Mf.mpr ⟨λh=>Pt l2 (LS.mp h),Nw _ _⟩
omit Γ RZ in
theorem Pl.At.under {p:Pl} {n:Nat} (h:p.At (n+1)):({p with A:=p.A.under (.builtin "type.__call__" ⟨.ref a::xs,[]⟩)}:Pl).At n:=⟨h.frames,h.frame,h.XZ,h.frs,by
 show p.A.depth+1+n<=600
 rw[NT,NA 1];exact h.depth,by
 have b:=h.units
 show p.A.units+1+5*n+200<=cLine
 refine bY (Pb ?_ 200) b
 rw[NT,NA 1];exact BY (show 5*n+1<=5*(n+1) from BY (by decide) _) _,h.hand⟩
theorem A5 {k:Nat} {fr:Bool} {es:Es} (ih:f5 G cl dep es):R6 G cl dep (.new k fr es):=by
 intro c x D p Y Q X Z w mu s K PE F H Vs h S I hX
 ·refine CR x D λn np as pos hk hd hn D=>(aU h λf O h=>(fG (lift (fq Γ H S hk hd (Γ.cls k n hn) (gJ Γ RZ ih D (keeps_K (Γ.kc k)) F H Vs h S hX (λvs j xs i b SA q R g rs hl=>?_))))))
  have C:=Γ.ci k f O
  have X':=Γ.d.X.keeps g.F.keep
  refine ic (Di g.F g.N X' C.1.makes (C.1.init f O) (Γ.d.fnT f C.2) λx N h' U V l1 l2=>?_)
  have m:b.le ⟨b.am++[x],b.fz⟩:=⟨Of _ _,λp B=>B⟩
  have S1:=g.1.Uz (e:=[(x,instObj (G.cls k) N),(N,emptyDict)]) (o:= .inst k []) (a:=x) U V (xS l1 l2) (AE l2) (.inst .nil λJ h=>(Mw h).elim)
  have P:RO G ⟨b.am++[x],b.fz⟩ (.ref j.length) (.ref x):= .ref (kn g.os.length.1)
  refine dF (RZ f (.ref j.length::vs) _ _ (j++[.inst k []]) q {p with A:=p.A.under (.builtin "type.__call__" ⟨.ref (G.cls k)::xs,[]⟩)} ⟨b.am++[x],b.fz⟩ _ {i with heap:=h'} (.ref x::xs) (λr L=>InitBack x (λr i=>match r with| .ok (.ret v)=>K v i| .ok J=>False| .error e=>PE e i) r L) ?_ ⟨S1,g.2⟩ (.cons P (rs.mono m)) (λv SG val s2 E ZE q l t r=>?_) (λk j e i b SA fo x=>x.elim)) λr L z=>z
  ·exact F.under
  ·obtain⟨hv,q⟩:=q
   rw[hv] at r
   refine RO.Rc r ⟨rfl,?_⟩
   refine(RO.WA (T:=λz=>z= .ref x->K z s2) (P.mono l) λa y e=>?_) rfl
   rcases fr with _|_
   ·exact I _ _ _ _ _ _ q (R.trans (m.trans l)) t (.ref y)
   ·refine aU q λfs ho q=>?_
    obtain⟨d,n,u,hb,_,_,WM,W⟩:=t.Tc y ho
    have M:E.le ⟨E.am,[(a,instObj (G.cls k) d),(d,dictOf u n)]++E.fz⟩:=⟨MG _,λp B=>DO _ B⟩
    exact I _ _ _ _ _ _ q (R.trans (m.trans (l.trans M))) (t.freeze y hb) (.U1 (Mp _ (.head _)) (Mp _ (.tail _ (.head _))) (WM.mono M) W)
end
end
section
open PySem.W PySem.Calls PyProof.Rows
open Classical
noncomputable abbrev br (b:List UInt8):Obj:={cls:= .type "bytearray",data:= .bytearray b.toArray 0}
structure hV (G:Gt):Prop where
 aAa: ∀(A:QN) (E:QG->QH->Prop) (s:QH) (Q:QG×List QG->QH->Prop) (pl:Sem Bool) (a:QK) (b:List UInt8),s.heap.get? a=QA (br b)->Q (.builtin "bytearray.append",[.ref a]) s->
  RU (model G.prog G.w) A (getMethod (.ref a) "append" pl) Q E s
 aAb: ∀(A:QN) (E:QG->QH->Prop) (s:QH) (Q:QG×List QG->QH->Prop) (pl:Sem Bool) (a:QK) (b:List UInt8),s.heap.get? a=QA (br b)->Q (.builtin "bytearray.extend",[.ref a]) s->
  RU (model G.prog G.w) A (getMethod (.ref a) "extend" pl) Q E s
 app: ∀(A:QN) (E:QG->QH->Prop) (s:QH) (Q:QG->QH->Prop) (a:QK) (b:List UInt8) (i:Int) (t:Tok),s.heap.get? a=QA (br b)->b.length<=1000000->0<=i->i<256->
  (∀h' tk,Heap.SameBut a s.heap h'->h'.get? a=QA (br (b++[UInt8.ofNat i.toNat]))->Q .none {s with heap:=h',toks:=tk})->RU (model G.prog G.w) A (call (.builtin "bytearray.append") [.ref a,.int i t]) Q E s
 ext: ∀(A:QN) (E:QG->QH->Prop) (s:QH) (Q:QG->QH->Prop) (a:QK) (b x:List UInt8) (t:Tok),s.heap.get? a=QA (br b)->b.length+x.length<=1000000->
  (∀h' tk,Heap.SameBut a s.heap h'->h'.get? a=QA (br (b++x))->Q .none {s with heap:=h',toks:=tk})->RU (model G.prog G.w) A (call (.builtin "bytearray.extend") [.ref a,.bytes x.toArray t]) Q E s
 make: ∀(A:QN) (E:QG->QH->Prop) (s:QH) (Q:QG->QH->Prop),(∀tk,Q (.ref s.heap.objs.size) {s with heap:=s.heap.push (br []),toks:=tk})->RU (model G.prog G.w) A (call (.type "bytearray") []) Q E s
 RT: ∀(A:QN) (E:QG->QH->Prop) (s:QH) (Q:QG->QH->Prop) (a:QK) (b:List UInt8),s.heap.get? a=QA (br b)->b.length<=2000000->(∀t tk,Q (.bytes b.toArray t) {s with toks:=tk})->RU (model G.prog G.w) A (call (.type "bytes") [.ref a]) Q E s
 bb: ∀(A:QN) (E:QG->QH->Prop) (s:QH) (Q:QG->QH->Prop) (b:List UInt8) (t:Tok),(∀t tk,Q (.bytes b.toArray t) {s with toks:=tk})->RU (model G.prog G.w) A (call (.type "bytes") [.bytes b.toArray t]) Q E s
section
variable {mg mb:Str->Option QG} (Γ:Gn G mg mb) (B:hV G) (RZ:T9 G cl dep)
include Γ B RZ
theorem vI (S:TQ G p w mu Z s) (ha:w.am[r]?=QA d) (ho:Z[r]?=QA (.list vs)) (hl:vs.length<=1000000) (ru:RO G w u x)
  (q:Q .none (Z.set r (.list (vs++[u])))) (P':cT G p w Q PQ):wpAny (model G.prog G.w) p.A (call (.builtin "list.append") [.ref d,x]) PQ PE s:=by
 obtain⟨n,xs,c,_,e,b,_⟩:=S.Qz ha ho
 refine append_at e (λh' f a=>?_) (by rw[My,IF,<- b.length];exact lb hl rfl)
 rw[List.push_toArray] at a
 exact P' _ _ _ _ _ _ q (.refl _) (S.Ue ha c f a (.list (b.append (.cons ru .nil)) (by rw[LU];exact lb (M8 hl) rfl))) .none
theorem sA (XQ:R6 G cl dep e) (YU:R6 G cl dep a):R6 G cl dep (.append e a):=by
 intro c x ok p Y Q X Z w mu s PQ PE C D E h S N J
 refine uQ x ok λo apos y pos hp W VZ F=>(iO hp (cY F) (by show 1<30;decide) W (XQ c _ VZ p Y _ X Z w mu s _ PE C D E h S (λv RM val s' w' SA q f l T=>?_) J))
 intro pl
 refine DT q λr k hv P b L q=>?_
 rw[hv] at T
 refine RO.WA T λd z=>?_
 have I:k=1\/k=2:=(MT 1 k).elim (λh=> .inr (L2 L h)) λh=> .inl (L2 h b)
 rcases I with b|b
 ·obtain⟨us,M⟩:=gQ.1 (P.trans b)
  obtain⟨n,xs,_,_,hg,_,_⟩:=l.Qz z M
  refine lift (getMethod_list_append hg rfl rfl (fJ Γ RZ YU F (UE G _) C D (E.mono f) q l (J.mono f) (λu U x s1 V VX q j m A=>?_)))
  obtain⟨H,q⟩:=q
  obtain⟨vs,g⟩:=gQ.1 (H.trans b)
  rw[g] at q
  exact lift (vI Γ B RZ m (bE j.am z) g q.1 A q.2 (N.mono (f.trans j)))
 ·obtain⟨us,M⟩:=gQ.2.1 (P.trans b)
  refine B.aAa _ _ _ _ _ _ _ (l.ZH z M).2.1 (fJ Γ RZ YU F (UE G _) C D (E.mono f) q l (J.mono f) (λu U x s1 V VX q j m A=>?_))
  obtain⟨H,q⟩:=q
  obtain⟨vs,g⟩:=gQ.2.1 (H.trans b)
  rw[g] at q
  refine FY q λi hu h0 h1 R q=>?_
  rw[hu] at A
  have O:=bE j.am z
  obtain⟨Xy,K,_⟩:=m.ZH O g
  exact RO.UN A λt=>B.app _ _ _ _ _ _ _ _ K R h0 h1 λh' tk hs Z9=>(N _ _ _ _ _ _ q (f.trans j) (m.Ue O Xy hs Z9 (.SH (by rw[LU];exact lb (M8 R) rfl))) .none)
theorem sC (XQ:R6 G cl dep e) (YU:R6 G cl dep a):R6 G cl dep (.extend e a):=by
 intro c x W p Y Q X Z w mu s PQ PE g i m h S H A
 refine uR x W λo apos y pos R K L z=>(iO R (cY z) (by show 1<30;decide) K (XQ c _ L p Y _ X Z w mu s _ PE g i m h S (λv RM val s' w' SA q f j F=>?_) A))
 intro pl
 refine kE q λr V O q=>?_
 rw[V] at F
 refine RO.WA F λd C=>?_
 obtain⟨us,P⟩:=gQ.2.1 O
 refine B.aAb _ _ _ _ _ _ _ (j.ZH C P).2.1 (fJ Γ RZ YU z (UE G _) g i (m.mono f) q j (A.mono f) (λu R8 x s1 U2 VX q l k E=>(H4 q λvs y I U D q=>?_)))
 rw[U] at E
 have n:=bE l.am C
 obtain⟨M,b,_⟩:=k.ZH n I
 exact RO.W8 E λt J=>B.ext _ _ _ _ _ _ _ _ b D λh' tk T N=>(H _ _ _ _ _ _ q (f.trans l) (k.Ue n M T N (.SH (by rw[LU];exact lb D rfl))) .none)
end
end
section
open PySem.W PySem.Calls PyProof.Rows
open Classical
noncomputable def Pl.add (p:Pl) (b:cy):Pl:={p with rest:=b++p.rest}
theorem Pl.XW (p:Pl) (b:cy):(p.add b).pv.Perm (b++p.pv):=by
 delta Pl.pv Pl.add
 dsimp only
 rw[<- LV,<- LV p.keep]
 exact Mg _ _ _
theorem Pl.XJ {p:Pl} (h:q∈p.pv):q∈(p.add b).pv:=(p.XW b).mem_iff.mpr (DO _ h)
theorem Pl.XK {p:Pl} (h:q∈b):q∈(p.add b).pv:=(p.XW b).mem_iff.mpr (Mp _ h)
theorem Pl.At.add {p:Pl} {n:Nat} (a:p.At n) (b:cy):(p.add b).At n:=⟨a.frames,a.frame,a.XZ,a.frs,a.depth,a.units,a.hand⟩
theorem Pl.En.add {p:Pl} (a:p.En c) (b:cy):(p.add b).En c:=⟨a.ki,a.Xs,a.kind,a.glob,a.bi⟩
section
theorem dU.add {p:Pl} {w:Ld} (h:dU G p c w Y) (b:cy):dU G (p.add b) c w Y:=λn x v k i=>by
 refine aU (h n x v k i) λval r l=>(⟨val,r,?_⟩)
 rcases l with a|⟨a,o,es,ep,j,e,d⟩|⟨a,f,o,g,e,d⟩
 ·exact .inl a
 ·exact .inr (.inl ⟨a,o,es,ep,j,Pl.XJ e,d⟩)
 ·exact .inr (.inr ⟨a,f,o,g,Pl.XJ e,d⟩)
theorem cC {p:Pl} (b:cy) (w:Ld) (mu:List cy) (r:cy):(mu.flatten++(w.fz++((p.add b).pv++r))).Perm (b++(mu.flatten++(w.fz++(p.pv++r)))):=by
 have a:((p.add b).pv++r).Perm (b++(p.pv++r)):=by
  rw[<- LV];exact(p.XW b).append_right r
 have c:(w.fz++((p.add b).pv++r)).Perm (b++(w.fz++(p.pv++r))):=(Mh _ a).trans (Mg _ _ _)
 exact(Mh _ c).trans (Mg _ _ _)
theorem Rz.drop {p:Pl} {k:Nat} (R:Rz G l w mu (p.add b).pv fr Z k e h):Rz G l w mu p.pv fr Z k e h:=by
 obtain⟨⟨B,t,d,f,g⟩,i,j,m,n,o⟩:=R
 refine⟨⟨B,t,d,λq c=>f q ?_,g⟩,i,?_,m,n,o⟩
 ·simp only[Mq] at c ⊢
  rcases c with a|a|a
  ·exact .inl a
  ·exact .inr (.inl a)
  ·exact .inr (.inr (Pl.XJ a))
 ·have pm:=(cC (p:=p) b w mu fr).map (·.1)
  have:=pm.nodup_iff.mp j
  rw[Mc,Nh] at this
  exact this.2.1
theorem l8.add (h:l8 G p w X PE) (b:cy):l8 G (p.add b) w X PE:=
 λk a e i j c d x g f R=>h k a e i j c d x g f ⟨Rz.drop R.1,R.2⟩
theorem St.Ru {p:Pl} {h:QM} (S:VR G p w mu Z h) (o:Obj) (hf:o.isFreed=QE):VR G (p.add [(h.objs.size,o)]) w mu Z (h.push o):=by
 have pm:=cC (p:=p) [(h.objs.size,o)] w mu (fill h p.frs)
 refine S.re (pv':=(p.add [(h.objs.size,o)]).pv) (S.F.push _) (λq a=>S.N.push S.F o hf q ((pm.mem_iff).mp a)) ((pm.map (·.1)).nodup_iff.mpr ?_) S.os
 rw[List.singleton_append,L0,Mf]
 refine⟨λb=>?_,S.nd⟩
 exact aU (L8.mp b) λq a e=>(S.fresh (cX _) q a e)
theorem St.give {p:Pl} {w:Ld} {mu:List cy} {h h':QM} (S:VR G (p.add [(d,o)]) w mu Z h) (hs:Heap.SameBut d h h') (hd:h'.get? d=QA o') (hO:eN G ⟨w.am++[d],w.fz⟩ O' d [(d,o')]):
  VR G p ⟨w.am++[d],w.fz⟩ (mu++[[(d,o')]]) (Z++[O']) h':=by
 have pm:=cC (p:=p) [(d,o)] w mu (fill h p.frs)
 have i:(d,o)∈mu.flatten++(w.fz++((p.add [(d,o)]).pv++fill h p.frs)):=pm.mem_iff.mpr (.head _)
 have c:=(pm.map (·.1)).nodup_iff.mp S.nd
 rw[List.singleton_append,L0,Mf] at c
 have k: ∀q∈mu.flatten++(w.fz++(p.pv++fill h p.frs)),q.1≠d:=λq a e=>c.1 (by
  have:=Ml (f:=λz:QK×Obj=>z.1) a
  rw[e] at this;exact this)
 have g:News G.base p.L h' (mu.flatten++(w.fz++(p.pv++fill h p.frs))):=λq a=>by
  have:=S.N q (pm.mem_iff.mpr (.tail _ a))
  exact⟨(hs.2 q.1 (k q a)).trans this.1,this.2⟩
 have b:VR G p w mu Z h':=S.re (Fr.update S.F S.N i hs) g c.2 S.os
 have l:=S.N _ i
 obtain⟨m,_⟩:=nQ (h':=h') (frs:=p.frs) (h:=h) (λq a=>(S.sl q a).elim λsl e=>⟨_,e⟩) (λq a=>(g q (by simp[a])).1)
 refine b.Uz (e:=[(d,o')]) b.F (λq a=>?_) (λq a r j=>?_) (by simp) hO
 ·rcases tO.mp a with rfl|a
  ·exact⟨hd,l.2⟩
  ·exact b.N q a
 ·rw[LS.mp a];rw[m] at j;exact k r j
end
class inductive Wh (G:Gt) (w:Ld):List Nat->List V->List (QG×QG)->Prop
 |nil:Wh G w [] [] []
 |cons {n:Nat} {v:V} {s:Str} {t:Tok} {x:QG} {ns:List Nat} {vs:List V} {ps:List (QG×QG)}:nm.str[n]?=QA s->RO G w v x->Wh G w ns vs ps->Wh G w (n::ns) (v::vs) ((.str s t,x)::ps)
theorem Wh.Vd (h:Wh G w ns vs ps): ∃ss xs,RP G w vs xs/\Carries (strKind G.prog G.w) ps (ss.zip xs)/\ss.length=ns.length/\ns.length=vs.length/\SI Wi ((ns.map V.str).zip vs) ss:=by
 induction h with
 |nil=>exact⟨[],[],.nil,trivial,rfl,rfl,.nil⟩
 | @cons n v s t x ns vs ps hn hv J ih=>
  exact DT ih λss xs a b c d e=>(⟨s::ss,x::xs,.cons hv a,⟨strKind_is _ _ _ _,rfl,b⟩,by simp[c],by simp[d],.cons ⟨n,rfl,hn⟩ e⟩)
def qZ:List Nat->List (Option QF)->Prop
 |[],[]=>True
 |n::ns,x::t=>(∃s p q,x=QA (Expr.Constant (.str s) p q)/\nm.str[n]?=QA s)/\qZ ns t
 |J,J0=>False
theorem qZ.len: ∀{ns:List Nat} {xs:List (Option QF)},qZ ns xs->ns.length=xs.length:=by
 intro ns
 induction ns with
 |nil=>intro xs h;cases xs with
  |nil=>rfl
  |cons=>cases h
 |cons n ns ih=>intro xs h;cases xs with
  |nil=>cases h
  |cons x xs=>exact By (· +1) (ih h.2)
theorem qZ.all: ∀{ns:List Nat} {xs:List (Option QF)},qZ ns xs->xs.all (·.isSome)=QD:=by
 intro ns
 induction ns with
 |nil=>intro xs h;cases xs with
  |nil=>rfl
  |cons=>cases h
 |cons n ns ih=>intro xs h;cases xs with
  |nil=>cases h
  |cons x xs=>obtain⟨_,_,_,e,_⟩:=h.1;rw[e,List.all_cons];exact ih h.2
theorem u0: ∀{ks:Es} {xs:List (Option QF)},Vx nm ks xs=QD-> ∃ns:List Nat,qZ ns xs/\ ∀(cl:cw) Y Q X Z,js P cl ks Y Q X Z->Q (ns.map V.str) Z:=by
 intro ks
 induction ks using Es.ind with
 |n=>exact λh=>⟨[],by rw[nP h];trivial,λJ J J J J h=>h⟩
 |c k r ih=>
  intro xs h
  cases xs with
  |nil=>exact SP h
  |cons x t=>
  refine aU (ih (a2 h).2) λns a b=>(aU (zQ (a2 h).1) λn e h=>?_)
  rw[e]
  refine⟨n::ns,⟨?_,a⟩,λcl Y Q X Z h=>b cl Y (λvs Z=>Q (V.str n::vs) Z) X Z h⟩
  refine up x h (λh=>SP h) λx h=>dk x h λk p q h=>(aU (yO h) λs a b=>?_)
  rw[b]
  exact⟨s,p,q,rfl,a⟩
section
variable {mg mb:Str->Option QG} (Γ:Gn G mg mb) (RZ:T9 G cl dep)
def pf (G:Gt) (cl:cw) (dep:Nat) (es:Es):Prop:= ∀(c:Cx) (ns:List Nat) (xs:List (Option QF)) (ys:List QF),TV nm es c ys=QD->qZ ns xs->xs.length=ys.length->
 ∀(p:Pl) (Y:Env) (Q:List V->H->Prop) (X:Nat->H->Prop) (Z:H) (w:Ld) (mu:List cy) (s:QH) (PQ:List (QG×QG)->QH->Prop) (PE:QG->QH->Prop) (pos:Pos),
 p.At (4*dep+4)->p.En c->dU G p c w Y->js P cl es Y Q X Z->TQ G p w mu Z s->(∀vs RM prs s' w' SA,Q vs RM->w.le w'->TQ G p w' SA RM s'->Wh G w' ns vs prs->PQ prs s')->l8 G p w X PE->RU (model G.prog G.w) p.A (evalPairs (pairTrees xs ys p.env pos)) PQ PE s
include Γ RZ
theorem vn:pf G cl dep .nil:=by
 intro c ns xs ys e a b p Y Q X Z w mu s PQ PE pos At En Vs h S d hX
 rw[nP e] at b ⊢
 rw[M5.mp b] at a ⊢
 rcases ns with _|_
 ·exact lift (evalPairs_nil (d _ _ _ _ _ _ h (.refl _) S .nil))
 ·exact a.elim
omit Γ RZ in
omit Γ RZ in
theorem Wh.len (h:Wh G w ns vs ps):ps.length=ns.length:=by
 induction h with
 |nil=>rfl
 |cons a b J ih=>simp[ih]
theorem so {e:E} {es:Es} (ih:R6 G cl dep e) (YH:pf G cl dep es):pf G cl dep (.cons e es):=by
 intro c ns xs ys g d o p Y Q X Z w mu s PQ PE i j k m h S t r
 rcases ys with _|⟨y,ys⟩
 ·exact SP g
 ·rcases xs with _|⟨x,xs⟩
  ·cases o
  ·rcases ns with _|⟨n,ns⟩
   ·exact d.elim
   ·obtain⟨⟨str,a,b,C,D⟩,d⟩:=d
    rw[C]
    refine zF (lift (NS (ar (ih c y (a2 g).1 p Y _ X Z w mu _ _ PE j k m h S (λv u val I J A q f z H=>aF (az ?_)) r))))
    refine YH c ns xs ys (a2 g).2 d (PU o) p Y _ X u J A I _ PE i j k (m.mono f) q z (λvs SY prs VA W6 WI q l B F=>?_) (r.mono f)
    exact t _ _ _ _ _ _ q (f.trans l) B (.cons D (H.mono l) F)
omit Γ RZ in
omit Γ RZ in
theorem Dd (h:SI R kvs ls) (s:Str):s∈ls-> ∃z∈kvs,R z.1 s:=by
 induction h with
 |nil=>exact λh=>absurd h Mw
 |cons a J ih=>exact λh=>(tO.mp h).elim (λe=>⟨_,.head _,e▸a⟩) λh=>aU (ih h) λz b q=>⟨z,.tail _ b,q⟩
omit Γ RZ in
theorem xC (h:SI Wi kvs ls):(kvs.map (·.1)).Nodup->ls.Nodup:=by
 induction h with
 |nil=>exact λJ=>List.nodup_nil
 |cons a r ih=>exact λb=>Mf.mpr ⟨λc=>aU (Dd r _ c) λJ d q=>(Mf.mp b).1 (L8.mpr ⟨_,d,((Dc.inj a q).mp rfl).symm⟩),ih (Mf.mp b).2⟩
omit Γ RZ in
theorem kY:({cls:= .type "dict",data:= .dict #[]}:Obj).IsDictOf (strKind prog w) []:=⟨#[],0,⟨rfl,rfl,rfl⟩,rfl,λJ a=>by simp at a,.nil,.nil⟩
theorem mT {ns:List Nat} {vs:List V} {p:Pl} {Z:H} {s:QH} {o o':Obj} {h':QM} {ss:List Str} {tk:Nat}
  (hq:tQ (ns.map V.str)=QD/\(ns.map V.str).Nodup/\(ns.map V.str).length=vs.length/\Q (.ref Z.length) (Z++[.dict ((ns.map V.str).zip vs)])) (S:TQ G (p.add [(d,o)]) w mu Z s) (hs:Heap.SameBut d s.heap h') (hd:h'.get? d=QA o') (hD:o'.IsDictOf (strKind G.prog G.w) (ss.zip vals))
  (rv:RP G w vs vals) (hr:SI Wi ((ns.map V.str).zip vs) ss) (P':cT G p w Q PQ):PQ (.ref d) {s with heap:=h',toks:=tk}:=by
 obtain⟨_,_,a,q⟩:=hq
 have b:w.le ⟨w.am++[d],w.fz⟩:=⟨Of _ _,λp i=>i⟩
 have c:kz G ⟨w.am++[d],w.fz⟩ ((ns.map V.str).zip vs) o':=ka Dc (strKind G.prog G.w) (xs':=vals) (λv s h m f=>aU h λn' e h=>by rw[V.str.inj (f.symm.trans e),h];rfl)
  (λJ ls g=>by rw[g.uniq Dc hr];exact hD) (λe=>absurd e (by decide)) (λe=>absurd e (by decide)) hr (by rw[List.map_snd_zip (MB a.symm)];exact rv.mono b) hD
 exact P' _ _ _ _ _ _ q b ⟨S.1.give hs hd (.dict c),S.2⟩ (.ref (kn S.os.length.1))
theorem yG {ks vs:Es} (YH:pf G cl dep vs):R6 G cl dep (.dict ks vs):=by
 intro c x M p Y Q X Z w mu s PQ PE v y z h S k H
 refine Ag x M λxs ys a A d b i=>(aU (u0 A) λns f K=>?_)
 have h:=K _ _ _ _ _ h
 have l:TQ G (p.add [(s.heap.objs.size,{cls:= .type "dict",data:= .dict #[]})]) w mu Z {s with heap:=s.heap.push {cls:= .type "dict",data:= .dict #[]}}:=⟨St.Ru S.1 _ rfl,S.2⟩
 by_cases n:xs=[]
 ·rw[n] at f b ⊢
  rw[M5.mp b.symm] at i ⊢
  rcases ns with _|_
  ·rcases vs with _|_
   ·exact lift (wpAny_Dict_empty (mT Γ RZ (Q:=Q) (ns:=[]) (vs:=[]) (s:={s with heap:=s.heap.push {cls:= .type "dict",data:= .dict #[]}}) (tk:=s.toks) h l (.refl _ _) (MP _ rfl) (ss:=[]) (vals:=[]) kY .nil .nil k))
   ·exact SP i
  ·exact f.elim
 ·have j:=f.all
  refine Cj (knd:=strKind G.prog G.w) (zip_pairTrees xs ys p.env a j b) (λe=>?_) (by rw[pairTrees_length _ _ _ _ j b];exact d) ?_
  ·have:=pairTrees_length xs ys p.env a j b
   rw[e] at this
   exact n (M5.mp this.symm)
  refine YH c ns xs ys i f b (p.add _) Y _ X Z w mu {s with heap:=s.heap.push {cls:= .type "dict",data:= .dict #[]}} _ PE a (v.add _) (y.add _) (z.add _) h l (λvs RM prs s' w' SA q L g u=>?_) (H.add _)
  refine DT u.Vd λss vals o E F r t=>(⟨by rw[u.len,f.len];exact lb d rfl,_,E,OF.mpr ⟨_,g.N.get (g.UP (Pl.XK (.head _))),kY⟩,λh' I J=>?_⟩)
  refine aU (OF.mp I) λo' B m=>?_
  have C:=PM (MB (F.trans (r.trans o.length)))
  have D:((ns.map V.str).zip vs).map (·.1)=ns.map V.str:=PM (MB ((LZ _).trans r))
  rw[merged_nil_of_nodup _ (C.symm▸xC t (D.symm▸q.2.1))] at m
  exact mT Γ RZ (Q:=Q) q g J B m o t (k.mono L)
end
end
section
open PySem.W PySem.Calls PyProof.Rows Builtin
theorem fh: ∀a b:List UInt8,SW a b=decide (a.map (·.toNat)<b.map (·.toNat)):=by
 intro a
 induction a with
 |nil=>intro b;cases b<;>exact rfl
 |cons x a ih=>
  intro b
  cases b with
  |nil=>exact rfl
  |cons y b=>
  dsimp only[SW]
  rw[ih b,L0,L0]
  by_cases c:x<y
  ·have:x.toNat<y.toNat:=c
   simp[c,OX,this]
  ·by_cases d:y<x
   ·have e: ¬x.toNat<y.toNat:=c
    have f:y.toNat<x.toNat:=d
    have g: ¬x.toNat=y.toNat:=RW 6940684324928 rfl f
    simp[c,d,OX,e,g]
   ·have e: ¬x.toNat<y.toNat:=c
    have f: ¬y.toNat<x.toNat:=d
    have g:x.toNat=y.toNat:=L2 (RW 6597086953536 rfl f) (RW 6597086953536 rfl e)
    have h:x=y:=UInt8.toNat_inj.mp g
    subst h
    simp[c,OX]
theorem AD: ∀{a b:List UInt8},a.map (·.toNat)=b.map (·.toNat)->a=b:=by
 intro a
 induction a with
 |nil=>intro b h;cases b with
  |nil=>rfl
  |cons=>cases h
 |cons x a ih=>
  intro b h
  cases b with
  |nil=>cases h
  |cons y b=>rw[UInt8.toNat_inj.mp (Ou h).1,ih (Ou h).2]
@[reducible] def pz:PyProof.Rows.KeyKind:={strKind.toKeyOrd with
 keyOf:=λv=>match v with| .bytes b J=>QA (b.toList.map (·.toNat))|_=>QC
 dflt:=([]:List Nat)}
section
variable {E:QG->QH->Prop}
theorem qi (h:Q (SW a.toList b.toList) s):wpAny (model prog w) A (oneLt' QD (.bytes a t) (.bytes b u)) Q E s:=by
 rw[oneLt'_eq]
 dsimp only[if_true]
 refine oF (wpAny_cRoomFor_byValue rfl (oF (wpAny_callSpecialIfBound?_slot (Md s a t) fg (wpAny_call_entry fg (Md s a t) gk ?_ (hG _ _)))))
 show wpAny _ _ (isInstance (.bytes b u) (.type "bytes")>>=λr=>_) _ _ s
 refine oF (NO (Md s b u) PC ?_)
 rw[<- lN] at h
 exact LW ⟨_,rfl,OL h⟩
end
theorem q8:pz.OneLt:=by
 intro prog w A E s x y a b Q c d h
 cases x<;>simp only[pz,reduceCtorEq,Option.some.injEq] at c
 cases y<;>simp only[pz,reduceCtorEq,Option.some.injEq] at d
 subst c d
 refine qi ?_
 rw[fh];exact h
class inductive SJ:List QG->List (List UInt8)->Prop
 |nil:SJ [] []
 |cons {vs:List QG} {bs:List (List UInt8)} (b:List UInt8) (t:Tok):SJ vs bs->SJ (.bytes b.toArray t::vs) (b::bs)
noncomputable def sX:QG->List UInt8
 | .bytes b J=>b.toList
 |_=>[]
theorem SJ.all (h:SJ vs bs) (v:QG):v∈vs-> ∃x t,v= .bytes x t:=by
 induction h with
 |nil=>exact λh=>absurd h Mw
 |cons b t J ih=>exact λa=>(tO.mp a).elim (λe=>⟨_,t,e⟩) ih
theorem SJ.aB1 (h:SJ vs bs):vs.map sX=bs:=by
 induction h with
 |nil=>rfl
 |cons b t J ih=>exact By (List.cons _) ih
theorem nE: ∀(vs:List QG),(∀v∈vs,∃x t,v= .bytes x t)->SJ vs (vs.map sX):=λl=>l.rec (λJ=> .nil) λv vs ih h=>by
  obtain⟨x,t,rfl⟩:=h v (List.mem_cons_self ..)
  exact SJ.cons x.toList t (ih λu a=>h u (List.mem_cons_of_mem _ a))
theorem jD (h:SJ vs bs):vs.mapM firstOfTuple'=pure (vs.map λJ=>QC):=by
 induction h with
 |nil=>rfl
 |cons b t J ih=>rw[List.mapM_cons,show firstOfTuple' (.bytes b.toArray t)=pure QC from rfl,ih];exact rfl
theorem i8: ∀{vs:List QG} {bs:List (List UInt8)},SJ vs bs->vs.mapM typeOf=pure (vs.map λJ=>Value.type "bytes"):=by
 intro vs bs h
 induction h with
 |nil=>rfl
 |cons x t h ih=>
  rw[List.mapM_cons,ih]
  show(pure (Value.type "bytes")>>=λb=>pure _>>=λbs=>pure (b::bs))=_
  exact rfl
theorem mr (hS:SJ (v1::v2::vs) bs):keyKind' (v1::v2::vs).toArray=pure oneType':=by
 rw[keyKind'_eq,List.mapM_toArray,jD hS]
 simp only[map_pure,pure_bind]
 rw[L4 (by simp),L4 (by exact Np)]
 rw[oneTypeOnly'_eq,List.mapM_toArray,i8 hS]
 simp only[map_pure,pure_bind]
 have a:((List.map (λJ=>Value.type "bytes") (v1::v2::vs)).toArray.all λx=>x==Value.type "bytes")=QD:=by
  simp only[List.all_toArray,List.all_map,L9]
  intro _ _
  rfl
 have b:(List.map (λJ=>Value.type "bytes") (v1::v2::vs)).toArray[0]?=QA (Value.type "bytes"):=by exact rfl
 rw[b]
 simp only[a,if_true,pure_bind,Option.isSome_some]
theorem YO (x:List UInt8): ∀l,(XX x l).Perm (x::l):=λl=>l.rec (Oa _) λy r ih=>by
  dsimp only[XX]
  cases SW y x
  ·exact Oa _
  ·exact((ih).cons y).trans (List.Perm.swap x y r)
theorem hZ: ∀l,(SM l).Perm l:=λl=>l.rec (Oa _) λx r ih=>(YO x _).trans ((ih).cons x)
noncomputable def rQ (l:List UInt8):List Nat:=l.map (·.toNat)
abbrev Rv (a b:List UInt8):Prop:=SW b a=QE
theorem um (h1:Rv a b) (h2:Rv b c):Rv a c:=by
 unfold Rv at*
 rw[fh] at*
 exact KeyOrd.kle_trans (O:=strKind.toKeyOrd) (a:=rQ a) (b:=rQ b) (c:=rQ c) h1 h2
theorem Ce (h:SW a b=QD):Rv a b:=by
 delta Rv
 rw[fh] at*
 exact KeyOrd.klt_asymm (O:=strKind.toKeyOrd) (a:=rQ a) (b:=rQ b) h
theorem vO (h1:Rv a b) (h2:Rv b a):a=b:=by
 unfold Rv at*
 rw[fh] at*
 exact AD (KeyOrd.kle_antisymm (O:=strKind.toKeyOrd) (a:=rQ a) (b:=rQ b) h1 h2)
theorem pq (x:List UInt8): ∀l,l.Pairwise Rv->(XX x l).Pairwise Rv:=λl=>l.rec (λJ=>Nw _ _) λy r ih h=>by
  have b:=Nq.mp h
  dsimp only[XX]
  cases q:SW y x with
  |false=>
   refine Nq.mpr ⟨λz a=>?_,h⟩
   rcases tO.mp a with rfl|a
   ·exact q
   ·exact um q (b.1 z a)
  |true=>
   refine Nq.mpr ⟨λz a=>?_,ih b.2⟩
   rcases tO.mp ((YO x r).mem_iff.mp a) with rfl|a
   ·exact Ce q
   ·exact b.1 z a
theorem nD: ∀l,(SM l).Pairwise Rv:=λl=>l.rec (List.Pairwise.nil) λx r ih=>pq x _ (ih)
theorem YT (x:Int): ∀l,(Qy x l).Perm (x::l):=λl=>l.rec (Oa _) λy r ih=>by
  dsimp only[Qy]
  split
  ·exact((ih).cons y).trans (List.Perm.swap x y r)
  ·exact Oa _
theorem lu: ∀l,(WE l).Perm l:=λl=>l.rec (Oa _) λx r ih=>(YT x _).trans ((ih).cons x)
theorem pU (x:Int): ∀l:List Int,l.Pairwise (· <= ·)->(Qy x l).Pairwise (· <= ·):=λl=>l.rec (λJ=>Nw _ _) λy r ih h=>by
  have b:=Nq.mp h
  dsimp only[Qy]
  split
  ·rename_i q
   refine Nq.mpr ⟨λz a=>?_,ih b.2⟩
   rcases tO.mp ((YT x r).mem_iff.mp a) with rfl|a
   ·exact pj 7708560790218 rfl q
   ·exact b.1 z a
  ·rename_i q
   refine Nq.mpr ⟨λz a=>?_,h⟩
   rcases tO.mp a with rfl|a
   ·exact pj 7707503837898 rfl q
   ·have:=b.1 z a;exact IT 0x7030B07030A0742CA rfl q this
theorem nS: ∀l:List Int,(WE l).Pairwise (· <= ·):=λl=>l.rec (List.Pairwise.nil) λx r ih=>pU x _ (ih)
theorem xi (hp:l'.Perm l) (hs:l'.Pairwise (· <= ·)):l'=WE l:=
 List.Perm.eq_of_pairwise (λa b J J c d=>Ph (pj 7708560786122 rfl c) (pj 7708560786122 rfl d)) hs (nS l) (hp.trans (lu l).symm)
theorem vP (hp:l'.Perm l) (hs:l'.Pairwise Rv):l'=SM l:=
 List.Perm.eq_of_pairwise (λa b J J c d=>vO c d) hs (nD l) (hp.trans (hZ l).symm)
theorem jP (hS:SJ vs bs) (hp:xs.Perm (pairsOf vs)) (hs:SortedToK pz xs (pairsOf vs).size):SJ (xs.map (·.2)).toList (SM bs):=by
 have g:xs.toList.Perm (vs.zip vs):=by rw[<- pairsOf_toList];exact Array.perm_iff_toList_perm.mp hp
 have c: ∀p,p∈xs.toList->p.1=p.2/\p.1∈vs:=λp a=>mem_zip_self (g.mem_iff.mp a)
 have e:(xs.map (·.2)).toList=xs.toList.map (·.1):=by
  rw[Array.toList_map];exact Ng λp a=>(c p a).1.symm
 rw[e]
 have b:=nE (xs.toList.map (·.1)) (by
  intro v n
  obtain⟨p,a,rfl⟩:=L8.mp n
  exact hS.all _ (c p a).2)
 have:(xs.toList.map (·.1)).map sX=SM bs:=by
  refine vP ?_ ?_
  ·have b:=(g.map (·.1)).map sX
   rwa [PM (AS _),hS.aB1] at b
  ·rw[Nz,MI]
   intro i j l m h
   have k:i<xs.size:=by simpa using l
   have d:j<xs.size:=by simpa using m
   have b:=hs i j (MK h) (by rw[<- hp.size_eq];exact d)
   refine oX (hS.all _ (c xs[i] (by simp)).2) λx t ex=>(oX (hS.all _ (c xs[j] (by simp)).2) λy u f=>?_)
   have o:KK pz xs i=x.toList.map (·.toNat):=by delta KK;rw[getElem?_pos xs i k];show((pz.keyOf xs[i].1).getD [])=_;rw[ex];rfl
   have q:KK pz xs j=y.toList.map (·.toNat):=by delta KK;rw[getElem?_pos xs j d];show((pz.keyOf xs[j].1).getD [])=_;rw[f];rfl
   rw[o,q] at b
   simp only[List.getElem_map,Array.getElem_toList,Function.comp_apply]
   rw[ex,f]
   show SW y.toList x.toList=QE
   rw[fh];exact b
 rw[this] at b
 exact b
end
section
set_option tactic.hygienic true
open PySem.W PySem.Calls PyProof.Rows Builtin
open Classical
section
variable {G:Gt}
theorem mY (h:intsOf (v::r)=QA is): ∃i Xf,v= .int i/\is=i::Xf/\intsOf r=QA Xf:=by
 rcases v<;>try (cases h;done)
 exact aU (MV.mp h) λXf a b=>(⟨_,Xf,rfl,b.symm,a⟩)
theorem lz (r:RP G w vs xs) (h:intsOf vs=QA is):IntsAre xs is:=by
 induction vs generalizing xs is with
 |nil=>rw[<- iN h,nW r];exact .nil
 |cons v vs ih=>
  refine dM (mY h) λi Xf b a h'=>(dM (eT r) λx xs ex r c=>?_)
  rw[b] at r
  obtain⟨t,e⟩:=gq r
  rw[a,ex,e]
  exact .cons _ _ (ih c h')
theorem u9 (h:IntsAre xs is):RP G w (is.map V.int) xs:=by
 induction h with
 |nil=>exact .nil
 |cons i t J ih=>exact .cons (.int _ _) ih
theorem r8 (h:SJ xs bs):(∀b∈bs,b.length<=2000000)->RP G w (bs.map V.RT) xs:=by
 induction h with
 |nil=>exact λJ=> .nil
 |cons b t J ih=>exact λa=> .cons (.RT _ _ (a b (.head _))) (ih λb c=>a b (.tail _ c))
theorem lA (h:intsOf vs=QA is):is.length=vs.length:=by
 induction vs generalizing is with
 |nil=>rw[<- iN h];rfl
 |cons v vs ih=>
  refine dM (mY h) λi Xf ev a h'=>?_
  rw[a]
  exact By (· +1) (ih h')
theorem St.YZ (S:VR G p w mu Z h) (F':Fr G.base p.L h' p.m) (N':News G.base p.L h' ((D,listOf xs.toArray n)::(mu.flatten++(w.fz++(p.pv++fill h p.frs)))))
  (UC: ∀q∈mu.flatten++(w.fz++(p.pv++fill h p.frs)),q.1≠D) (r:RP G w vs xs) (hb:vs.length<=2000000): ∃w',w.le w'/\VR G p w' mu Z h'/\RO G w' (.list vs) (.ref D):=by
 have a:w.le ⟨w.am,[(D,listOf xs.toArray n)]++w.fz⟩:=⟨MG _,λp b=>DO _ b⟩
 exact⟨_,a,S.Uy (e:=[(D,listOf xs.toArray n)]) F' N' (λq c r d=>by rw[LS.mp c];exact UC r d) (by simp),.list (.head _) (r.mono a) hb⟩
theorem St.kept (S:VR G p w mu Z h) (hk: ∀b o,h.get? b=QA o->h'.get? b=QA o):VR G p w mu Z h':=
 S.re (S.F.keeps hk) (λq a=>⟨hk _ _ (S.N q a).1,(S.N q a).2⟩) S.nd S.os
theorem fv {h:QM} {xs:List QG} {n:Nat} (e:h.get? a=QA (listOf xs.toArray n)):h.IsList a xs.toArray:=⟨_,e,rfl,n,rfl⟩
theorem qt (r:RP G w [v] xs): ∃x,xs=[x]/\RO G w v x:=by
 exact dM (eT r) λx r' e a b=>(⟨x,e.trans (By _ (nW b)),a⟩)
theorem yk (r:RP G w [v,u] xs): ∃x y,xs=[x,y]/\RO G w v x/\RO G w u y:=by
 exact dM (eT r) λx r' e b c=>(aU (qt c) λy a d=>(⟨x,y,e.trans (By _ a),b,d⟩))
theorem uy (h:kJ (v::r)=QA bs): ∃b bs',v= .RT b/\bs=b::bs'/\kJ r=QA bs':=by
 rcases v<;>try (cases h;done)
 exact aU (MV.mp h) λa c d=>(⟨_,a,rfl,d.symm,c⟩)
theorem xB: ∀{kvs:List (V×V)} {bs:List (List UInt8)},kJ (kvs.map (·.1))=QA bs->SI RB kvs bs/\bs.length=kvs.length:=by
 intro kvs
 induction kvs with
 |nil=>intro bs h;rw[<- iN h];exact⟨.nil,rfl⟩
 |cons x r a=>
  intro bs h
  obtain⟨k,v⟩:=x
  refine dM (uy h) λb bs' d c h'=>?_
  have ih:=a h'
  rw[c]
  exact⟨.cons d ih.1,By (· +1) ih.2⟩
theorem Cf {n:Nat} (S:TQ G p w mu Z s) (r:RO G w v x) (h:(∃b,v= .RT b/\n=b.length)\/ ∃us,TP Z v=QA us/\n=us.length) (q: ∀t tk,PQ (.int n t) {s with toks:=tk}):
  wpAny (model G.prog G.w) p.A (call (.builtin "len") [x]) PQ PE s:=by
 rcases h with⟨b,ev,en⟩|⟨us,ha,en⟩
 ·rw[ev] at r
  exact RO.W8 r λt d=>len_bytes (by rw[IF];exact aX 0x18100000000001D0001807A12004400 rfl d) (by rw[IF,<- en];exact q _ _)
 ·refine mB (cF S ha r) λa ys n ex e c f=>?_
  rw[ex]
  exact call_len_list (fv (S.N.get e)) (by rw[IF,<- c.length];exact aX 0x1C40FC26D5001807A12004400 rfl f) (by rw[IF,<- c.length,<- en];exact q _ _)
theorem zw (S:TQ G p w mu Z s) (r:RO G w v x) (ha:TP Z v=QA us) (h:Q (.list us) Z) (P':cT G p w Q PQ):wpAny (model G.prog G.w) p.A (call (.type "list") [x]) PQ PE s:=by
 refine mB (cF S ha r) λa ys n ex m d f=>?_
 rw[ex]
 have o:=S.N.get m
 refine call_list_seq (hsz:=by rw[My,IF,<- d.length];exact lb f rfl) a (.inl rfl) o rfl rfl λh' k c l=>?_
 have g:=St.kept S.1 c
 obtain⟨w',t,i,j⟩:=S.1.YZ (D:=s.heap.objs.size) (n:=k) g.F (λq b=>(tO.mp b).elim (λe=>by rw[e];exact⟨l,Pt S.F.ns.lt,none_at_size S.F⟩) λb=>⟨c _ _ (S.N q b).1,(S.N q b).2⟩) (S.1.fresh (cX _)) d f
 exact P' _ _ _ _ _ _ h t ⟨i,S.2⟩ j
theorem vX {v:V} {x:QG} {us:List V} (S:TQ G p w mu Z s) (r:RO G w v x) (ha:TP Z v=QA us) (h:Q (.tup us) Z) (P':cT G p w Q PQ):wpAny (model G.prog G.w) p.A (call (.type "tuple") [x]) PQ PE s:=by
 refine mB (cF S ha r) λa ys n ex i b c=>?_
 rw[ex]
 refine call_tuple_list (fv (S.N.get i)) (λh' g=>?_) (by rw[My,IF,<- b.length];exact lb c rfl)
 have d:=St.kept S.1 g
 exact kE (St.newTuple (s:={s with heap:=h'}) d b c) λw' j e f=>(P' _ _ _ _ _ _ h j ⟨e,S.2⟩ f)
theorem vW {is:List Int} (S:TQ G p w mu Z s) (r:RO G w (.list l) x) (hi:intsOf l=QA is) (hl:is.length<60) (h:Q (.list ((WE is).map V.int)) Z) (P':cT G p w Q PQ):
  wpAny (model G.prog G.w) p.A (call (.builtin "sorted") [x]) PQ PE s:=by
 refine mB (cF (Z:=Z) S rfl r) λa ys n ex o f hz=>?_
 rw[ex]
 have m:=lz f hi
 have c:=lA hi
 have d:=f.length
 refine sorted_N S.F S.N (fv (S.N.get o)) m (SD 0x1841002402862081862040061F01400 rfl hl c d) λh' Ui ns' e g i b t v=>?_
 rw[xi t v] at b
 exact kE (S.1.YZ g i (λq u e=>absurd (MF (e▸(S.N q u).1)) (MN.mpr (NX _))) (u9 b) (by rw[LZ,(lu is).length_eq];exact aX 0x1807A12004400061F01400 rfl hl)) λw' y j k=>(P' _ _ _ _ _ _ h y ⟨j,S.2⟩ k)
theorem ux: ∀{vs:List QG} {bs:List (List UInt8)},vs.length=bs.length->(∀(j:Nat) (v:QG),vs[j]?=QA v-> ∃t b,v=Value.bytes b t/\bs[j]?=QA b.toList)->SJ vs bs:=by
 intro vs
 induction vs with
 |nil=>intro bs a c;cases bs with
  |nil=>exact .nil
  |cons=>cases a
 |cons v vs ih=>
  intro bs a c
  cases bs with
  |nil=>cases a
  |cons b bs=>
  refine mf (c 0 v rfl) λt d f e=>?_
  have:=SJ.cons d.toList t (ih (PU a) λj v g=>c (j+1) v g)
  rw[f,iN e]
  exact this
theorem pY (h:(bytesKind G.prog G.w).is k v=QD): ∃b t,v= .bytes b t/\b.toList=k:=by
 rcases v<;>first|exact SP h|exact⟨_,_,rfl,eq_of_beq h⟩
theorem vV (hand:p.A.handled=QC) (Wy:(G.base.get? sysModules).isSome=QD) (S:TQ G p w mu Z s) (rx:RO G w (.ref r) x) (ho:Z[r]?=QA (.dict kvs)) (hb:kJ (kvs.map (·.1))=QA bs) (hl:bs.length<60)
  (h:Q (.list ((SM bs).map V.RT)) Z) (P':cT G p w Q PQ) (Yd: ∀b∈bs,b.length<=2000000):wpAny (model G.prog G.w) p.A (call (.builtin "sorted") [x]) PQ PE s:=by
 refine RO.WA rx λd X=>?_
 obtain⟨od,_,J,K,xs,_,hv,_,_,_,P⟩:=S.WZ X ho
 obtain⟨I,N⟩:=xB hb
 have U:s.heap.DictOf (bytesKind G.prog G.w) d (bs.zip xs):=OF.mpr ⟨_,K,P bs I⟩
 obtain⟨ep,H⟩:=U.dictAt
 have g:(bs.zip xs).length=bs.length:=by
  rw[List.length_zip,<- hv.length,LZ,N,Qb]
 refine kdu_sorted (kdl_dict (knd:=bytesKind G.prog G.w) (kvs:=bs.zip xs) (ep:=ep) (S.low J Wy)) hand S.F S.N H (by rw[g,My];exact lb (MK hl) rfl) λB h' tk vs u i l1 A F=>?_
 rw[g] at A
 have E:SJ vs bs:=ux A λj v hj=>by
  exact mf (F j v hj) λk y hk hi=>(mf (pY hi) λb t T D=>(⟨t,b,T,by rw[D];exact(NY.mp hk).1⟩))
 have f:h'.get? B=QA (seqObj "list" vs.toArray 0):=(i _ (.head _)).1
 have hBs:B<h'.objs.size:=MF f
 refine wpAny_call_entry slot_list_sort ⟨_,f,rfl⟩ entry_list_sort (list_sort_treeK q8 (n:=0) f (λq c=>?_) (λv1 v2 rest e=>mr (by rw[<- e];exact E)) (by rw[A];exact Oz hl (by decide)) λl hp hs=>⟨_,rfl,?_⟩) (args_list_sort _)
 ·rw[pairsOf_toList] at c
  exact oX (E.all _ (mem_zip_self c).2) λy t e=>(⟨y.toList.map (·.toNat),by rw[e]⟩)
 have C:=jP E hp hs
 obtain⟨e,Y⟩:=sortedHeap_at (vs:=vs) (out:=(arrOf l).map (·.2)) f
 have a: ∀b o,b≠B->h'.get? b=QA o->(sortedHeap h' B vs ((arrOf l).map (·.2))).get? b=QA o:=λb o m hb=>by
  rw[sortedHeap_old m (MF hb)];exact hb
 have m: ∀q∈mu.flatten++(w.fz++(p.pv++fill s.heap p.frs)),q.1≠B:=λq c=>OA (l1 q c)
 have z:Fr G.base p.L (sortedHeap h' B vs ((arrOf l).map (·.2))) p.m:=by
  exact H6 u.ns λoL O a2 W a3=>(⟨⟨oL,O,a2,a _ _ (λe=>(i _ (.head _)).2.1 e.symm) W,a3⟩,λb o e=>a b o (λD=>absurd ((show G.base.get? B=QC from(i _ (.head _)).2.2).symm.trans (D▸e:G.base.get? B=QA o)) fX) (u.keep b o e),u.above⟩)
 obtain⟨w',le,L,M⟩:=St.YZ (vs:=(SM bs).map V.RT) (xs:=((arrOf l).map (·.2)).toList) (n:=e) S.1 z (λq c=>(tO.mp c).elim (λR=>by
   rw[R]
   exact⟨by show _=QA (seqObj "list" (((arrOf l).map (·.2)).toList.toArray) e);rw[Array.toArray_toList];exact Y,(i _ (.head _)).2⟩) λc=>⟨a _ _ (m q c) (i q (.tail _ c)).1,(i q (.tail _ c)).2⟩) m (r8 C λb hb=>Yd b ((hZ bs).mem_iff.mp hb)) (by rw[LZ,(hZ bs).length_eq];exact aX 0x1807A12004400061F01400 rfl hl)
 exact P' _ _ _ _ _ _ h le ⟨L,S.2⟩ M
theorem mK (hand:p.A.handled=QC) (S:TQ G p w mu Z s) (r1:RO G w (.int i) x) (r2:RO G w (.int j) y) (P':cT G p w Q PQ):
  (Q (.int (min i j)) Z->wpAny (model G.prog G.w) p.A (call (.builtin "min") [x,y]) PQ PE s)/\(Q (.int (max i j)) Z->wpAny (model G.prog G.w) p.A (call (.builtin "max") [x,y]) PQ PE s):=by
 refine RO.UN r1 λt1=>RO.UN r2 λt2=>⟨λh=>min_two_ints hand λh' tk a=>?_,λh=>max_two_ints hand λh' tk a=>?_⟩
 ·by_cases c:j<i
  ·rw[L6 c]
   rw[Int.min_eq_right (Nm c)] at h
   exact P' _ _ _ {s with heap:=h',toks:=tk} _ _ h (.refl _) ⟨St.kept S.1 a,S.2⟩ (.int _ _)
  ·rw[L4 c]
   rw[Pj (Nf.mp c)] at h
   exact P' _ _ _ {s with heap:=h',toks:=tk} _ _ h (.refl _) ⟨St.kept S.1 a,S.2⟩ (.int _ _)
 ·by_cases c:j>i
  ·rw[L6 c]
   rw[M9 (Nm c)] at h
   exact P' _ _ _ {s with heap:=h',toks:=tk} _ _ h (.refl _) ⟨St.kept S.1 a,S.2⟩ (.int _ _)
  ·rw[L4 c]
   rw[N1 (Nf.mp c)] at h
   exact P' _ _ _ {s with heap:=h',toks:=tk} _ _ h (.refl _) ⟨St.kept S.1 a,S.2⟩ (.int _ _)
theorem St.Z1 (S:VR G p w mu Z h) (t u v:Tok) (hz: -1000000<a/\a<1000000/\ -1000000<b/\b<1000000): ∃w',w.le w'/\VR G p w' mu Z (h.push {cls:= .type "range",data:= .fields #[.int a t,.int b u,.int 1 v]})/\RO G w' (.Sd a b) (.ref h.objs.size):=by
 have f:w.le ⟨w.am,[(h.objs.size,({cls:= .type "range",data:= .fields #[.int a t,.int b u,.int 1 v]}:Obj))]++w.fz⟩:=⟨MG _,λp c=>DO _ c⟩
 exact⟨_,f,S.Uy (e:=[(h.objs.size,_)]) (S.F.push _) (S.N.push S.F _) (λq d=>by rw[LS.mp d];exact S.fresh (cX _)) (by simp),.Sd (.head _) hz⟩
theorem vU (B:hV G) (hand:p.A.handled=QC) {v:V} {x:QG} (S:TQ G p w mu Z s) (r:RO G w v x) (P':cT G p w Q PQ) (h:sW Z .bytes [v] Q):RU (model G.prog G.w) p.A (call (.type "bytes") [x]) PQ PE s:=by
 rcases v<;>try exact h.elim
 ·exact RO.W8 r λt l=>B.bb _ _ _ _ _ _ λt' tk=>P' _ _ _ {s with toks:=tk} _ _ h (.refl _) S (.RT _ _ l)
 ·refine kE h λis g z q=>(mB (cF (Z:=Z) S rfl r) λa ys n ex u c f=>?_)
  rw[ex]
  have e:byteArr is=(is.map λi=>UInt8.ofNat i.toNat).toArray:=rfl
  refine lift (call_bytes_ints (fv (S.N.get u)) (lz c g) z (by rw[My,<- c.length];exact lb f rfl) hand λh' t k o=>?_)
  rw[e]
  exact P' _ _ _ {s with heap:=h',toks:=k} _ _ q (.refl _) ⟨St.kept S.1 o,S.2⟩ (.RT _ _ (by rw[LZ,lA g];exact f))
 ·refine aU h λb y q=>(RO.WA r λd j=>?_)
  obtain⟨_,m,f⟩:=S.ZH j y
  exact B.RT _ _ _ _ _ _ m f λt tk=>P' _ _ _ {s with toks:=tk} _ _ q (.refl _) S (.RT _ _ f)
theorem zr (B:hV G) (S:TQ G p w mu Z s) (P':cT G p w Q PQ) (h:Q (.ref Z.length) (Z++[.SH []])):RU (model G.prog G.w) p.A (call (.type "bytearray") []) PQ PE s:=by
 refine B.make _ _ _ _ λtk=>?_
 have f:w.le ⟨w.am++[s.heap.objs.size],w.fz⟩:=⟨Of _ _,λp c=>c⟩
 have b:=S.1.Uz (e:=[(s.heap.objs.size,br [])]) (o:= .SH []) (a:=s.heap.objs.size) (S.F.push _) (S.N.push S.F _) (λq d=>LS.mp d▸S.1.fresh (cX _)) (Nw _ _) (.SH (Mi _))
 exact P' _ _ _ {s with heap:=s.heap.push (br []),toks:=tk} _ _ h f ⟨b,S.2⟩ (.ref (kn S.os.length.1))
theorem oP (hb:b= .min2\/b= .max2\/b= .VP) (h:sW Z b [v,u] Q): ∃i j,v= .int i/\u= .int j/\sW Z b [.int i,.int j] Q:=by
 rcases v
 case int i=>
  rcases u
  case int j=>exact⟨i,j,rfl,rfl,h⟩
  all_goals rcases hb with e|e|e<;>(rw[e] at h;exact h.elim)
 all_goals rcases hb with e|e|e<;>(rw[e] at h;exact h.elim)
theorem AJ (h:sW Z .UQ [v] Q): ∃n,v= .int n/\n<1000000/\ -1000000<n/\Q (.Sd 0 n) Z:=by
 rcases v<;>first|exact h.elim|exact⟨_,rfl,h⟩
theorem Az (h:sW Z .len [v] Q): ∃n:Nat,((∃b,v= .RT b/\n=b.length)\/ ∃us,TP Z v=QA us/\n=us.length)/\Q (.int n) Z:=by
 rcases v<;>first|exact⟨_,.inl ⟨_,rfl,rfl⟩,h⟩|exact⟨_,.inr ⟨_,h.choose_spec.1,rfl⟩,h.choose_spec.2⟩
theorem Ub (h:sW Z .sorted [v] Q):(∃l is,v= .list l/\intsOf l=QA is/\is.length<60/\Q (.list ((WE is).map V.int)) Z)\/
  ∃r kvs bs,v= .ref r/\Z[r]?=QA (.dict kvs)/\kJ (kvs.map (·.1))=QA bs/\bs.length<60/\(∀b∈bs,b.length<=1000)/\Q (.list ((SM bs).map V.RT)) Z:=by
 rcases v<;>try exact h.elim
 ·obtain⟨is,h⟩:=h
  exact .inl ⟨_,is,rfl,h⟩
 ·exact oX h λkvs bs h=>(.inr ⟨_,kvs,bs,rfl,h⟩)
theorem Ec (B:hV G) (b:BI) (hand:p.A.handled=QC) (Wy:(G.base.get? sysModules).isSome=QD) (h:sW Z b vs Q) (S:TQ G p w mu Z s) (rs:RP G w vs xs) (P':cT G p w Q PQ) (hn:vs.length=(UM b).2):
  RU (model G.prog G.w) p.A (call (vT b) xs) PQ PE s:=by
 have f:vs.length=1-> ∃v x,vs=[v]/\xs=[x]/\RO G w v x:=λe=>by
  obtain⟨v,d⟩:=List.length_eq_one_iff.mp e
  rw[d] at rs
  exact aU (qt rs) λx a b=>(⟨v,x,d,a,b⟩)
 have m:vs.length=2-> ∃v x u y,vs=[v,u]/\xs=[x,y]/\RO G w v x/\RO G w u y:=λe=>by
  obtain⟨v,u,d⟩: ∃v u,vs=[v,u]:=by
   rcases vs with _|⟨v,_|⟨u,_|⟨_,_⟩⟩⟩
   ·cases e
   ·cases e
   ·exact⟨v,u,rfl⟩
   ·cases e
  rw[d] at rs
  exact dM (yk rs) λx y a b c=>(⟨v,x,u,y,d,a,b,c⟩)
 rcases b with _|_|_|_|_|_|_|_|_|_
 ·refine dM (f hn) λv x d ex r=>?_
  rw[d] at h
  rw[ex]
  exact aU (Az h) λn hn q=>(lift (Cf S r hn λt tk=>P' _ _ _ {s with toks:=tk} _ _ q (.refl _) S (.int _ _)))
 ·refine y5 (m hn) λv x u y d ex g k=>?_
  rw[d] at h
  rw[ex]
  refine dM (oP (.inl rfl) h) λi j o z q=>?_
  rw[o] at g
  rw[z] at k
  exact lift ((mK hand S g k P').1 q)
 ·refine y5 (m hn) λv x u y d ex g k=>?_
  rw[d] at h
  rw[ex]
  refine dM (oP (.inr (.inl rfl)) h) λi j o z q=>?_
  rw[o] at g
  rw[z] at k
  exact lift ((mK hand S g k P').2 q)
 ·refine dM (f hn) λv x d ex r=>?_
  rw[d] at h
  rw[ex]
  refine Ca (AJ h) λn e D E q=>?_
  rw[e] at r
  refine RO.UN r λt=>lift (call_range_1 ?_)
  obtain⟨M,I,A,C⟩:=S.1.Z1 (a:=0) (b:=n) _ _ _ ⟨by decide,by decide,E,D⟩
  exact P' _ _ _ _ _ _ q I ⟨A,S.2⟩ C
 ·refine y5 (m hn) λv x u y d ex g k=>?_
  rw[d] at h
  rw[ex]
  refine H5 (oP (.inr (.inr rfl)) h) λa n o z D E J K q=>?_
  rw[o] at g
  rw[z] at k
  refine RO.UN g λt=>RO.UN k λt'=>lift (call_range_2 ?_)
  obtain⟨M,I,A,C⟩:=S.1.Z1 (a:=a) (b:=n) _ _ _ ⟨K,J,E,D⟩
  exact P' _ _ _ _ _ _ q I ⟨A,S.2⟩ C
 ·refine dM (f hn) λv x d ex r=>?_
  rw[d] at h
  rw[ex]
  rcases Ub h with⟨l,is,e,hi,hl,q⟩|⟨i,kvs,bs,e,ho,H,hl,Yd,q⟩
  ·rw[e] at r
   exact lift (vW S r hi hl q P')
  ·rw[e] at r
   exact lift (vV hand Wy S r ho H hl q P' λb H=>lb (Yd b H) rfl)
 ·refine dM (f hn) λv x d ex r=>?_
  rw[d] at h
  rw[ex]
  exact vU B hand S r P' h
 ·rw[M5.mp hn] at h rs
  exact RP.Qo rs (zr B S P' h)
 ·refine dM (f hn) λv x d ex r=>?_
  rw[d] at h
  rw[ex]
  exact aU h λL F q=>(lift (zw S r F q P'))
 ·refine dM (f hn) λv x d ex r=>?_
  rw[d] at h
  rw[ex]
  exact aU h λL F q=>(lift (vX S r F q P'))
end
section
variable {mg mb:Str->Option QG} (Γ:Gn G mg mb) (B:hV G) (RZ:T9 G cl dep)
include Γ B RZ
theorem DA {b:BI} {es:Es} (ih:f5 G cl dep es):R6 G cl dep (.y b es):=by
 intro c x f p Y Q X Z w mu s PQ PE g a k h S i m
 refine EN x f λnp as pos o l f=>?_
 obtain⟨d,e⟩:=Γ.bi b
 have n:((UM b).1==("__debug__" :Str))=QE:=by rcases b<;>rfl
 refine fG (lift (Pc a.kind (a.ki _ o) (loadGlobal_builtin (by rw[a.glob];exact Γ.g.keeps S.F.keep) d (by rw[a.bi];exact Γ.b.keeps S.F.keep) e ?_) n))
 exact gJ Γ RZ ih f (by rcases b<;>first|exact UE G _|exact Sa G _) g a k h S m (λvs RM xs s' w' SA q t j u r=>(Ec B b g.hand Γ.d.mods q j u (i.mono t) (r.trans l)))
end
end
section
set_option tactic.hygienic true
open PySem.W PySem.Calls PyProof.Rows
open Classical
section
theorem Pl.V8 (p:Pl) (b b':cy):(p.add b).add b'=p.add (b'++b):=by
 unfold Pl.add
 simp
theorem St.X6 {p:Pl} {b b':cy} (S:VR G (p.add b) w mu Z h) (e:b.Perm b'):VR G (p.add b') w mu Z h:=by
 have c:=cC (p:=p) b w mu (fill h p.frs)
 have d:=cC (p:=p) b' w mu (fill h p.frs)
 have pm:=c.trans ((e.append_right _).trans d.symm)
 exact S.re (pv':=(p.add b').pv) S.F (λq a=>S.N q (pm.mem_iff.mpr a)) ((pm.map (·.1)).nodup_iff.mp S.nd) S.os
theorem St.Rb (S:VR G (p.add b) w mu Z h):VR G p w mu Z h:=by
 have pm:=cC (p:=p) b w mu (fill h p.frs)
 have a:=(pm.map (·.1)).nodup_iff.mp S.nd
 rw[Mc,Nh] at a
 exact S.re (pv':=p.pv) S.F (λq c=>S.N q (pm.mem_iff.mpr (DO _ c))) a.2.1 S.os
theorem St.Wb {p:Pl} {w:Ld} {mu:List cy} {h h':QM} (S:VR G (p.add ((d,o)::b)) w mu Z h) (hk: ∀a x,a≠d->h.get? a=QA x->h'.get? a=QA x) (hd:h'.get? d=QA o'):VR G (p.add ((d,o')::b)) w mu Z h':=by
 have j:=cC (p:=p) ((d,o)::b) w mu (fill h p.frs)
 have m:=cC (p:=p) ((d,o')::b) w mu (fill h p.frs)
 have r:(d,o)∈mu.flatten++(w.fz++((p.add ((d,o)::b)).pv++fill h p.frs)):=j.mem_iff.mpr (.head _)
 have g:=S.N _ r
 have l:=(j.map (·.1)).nodup_iff.mp S.nd
 have k:=l
 rw[Oy,L0,Mf] at k
 have y: ∀q∈b++(mu.flatten++(w.fz++(p.pv++fill h p.frs))),q.1≠d:=λq i e=>k.1 (by
  have:=Ml (f:=λz:QK×Obj=>z.1) i
  rw[e] at this;exact this)
 refine mB S.F.ns λA es ep t n v u=>(S.re (pv':=(p.add ((d,o')::b)).pv) ⟨⟨A,es,ep,hk _ _ (λe=>g.2.1 e.symm) t,n,v,u⟩,λa x e=>hk a x (λs=>?_) (S.F.keep a x e),S.F.above⟩ (λq i=>?_) ((m.map (·.1)).nodup_iff.mpr l) S.os)
 ·subst s
  have:=g.2.2
  rw[show G.base.get? a=QC from this] at e;cases e
 ·rcases tO.mp (m.mem_iff.mp i) with rfl|c
  ·exact⟨hd,g.2⟩
  ·have:=S.N q (j.mem_iff.mpr (.tail _ c))
   exact⟨hk _ _ (y q c) this.1,this.2⟩
theorem St.ZP {p:Pl} {w:Ld} {h:QM} {q:QK×Obj} (S:VR G (p.add b) w mu Z h) (hq:q∈b):h.get? q.1=QA q.2:=(S.N q (S.UP (Pl.XK hq))).1
structure Src (G:Gt) (A:QN) (w:Ld) (vs:List V) (I:QK) (fp:List QK) (St:Nat->QM->Prop):Prop where
 W:Walks G.prog G.w A I fp [I] vs.length (λi v=> ∃u,vs[i]?=QA u/\ ∀w',w.le w'->RO G w' u v) St
 fp: ∀b∈fp,b=I\/ ∃o,(b,o)∈w.fz
 live: ∀i h,St i h-> ∃o T vs,h.get? I=QA o/\o.cls= .type T/\(T= "list_iterator" \/T= "range_iterator" \/T= "bytes_iterator")/\o.data= .fields vs
variable {p:Pl}
theorem lC {v:V} {x:QG} {vs:List V} {Q:QG->QH->Prop} {E:QG->QH->Prop} (hand:p.A.handled=QC) (hi:items v=QA vs) (r:RO G w v x) (S:TQ G p w mu Z s)
  (h: ∀I fp St oI h',Src G p.A w vs I fp St->TQ G (p.add [(I,oI)]) w mu Z {s with heap:=h'}->St 0 h'->vs.length<=2000000->Q (.ref I) {s with heap:=h'}):wpAny (model G.prog G.w) p.A (pyIter x) Q E s:=by
 cases v<;>first|exact fX hi|replace hi:=iN (show QA _=QA vs from hi)
 ·rename_i b
  subst hi
  cases r with
  |RT J t k=>
   refine KBw.pyIter_bytes ?_
   have m:=St.Ru S.1 {cls:= .type "bytes_iterator",data:= .fields #[.bytes b.toArray t,.int 0 0]} rfl
   have W:=KBw.walks (prog:=G.prog) (w:=G.w) hand s.heap.objs.size b.toArray t
   have j:(b.map λx=>V.int x.toNat).length=b.toArray.size:=by exact LZ _
   refine h _ [s.heap.objs.size] _ _ _ ⟨⟨W.sub,W.frame,λi s Q E hi d A=>W.item i s Q E (by rw[<- j];exact hi) d λv h' tk q=>A v h' tk ?_,λs Q E d=>W.done s Q E (by rw[<- j];exact d),W.self⟩,λb k=> .inl (LS.mp k),λi h d=>kE d λo e a b=>⟨o,_,_,e,a,.inr (.inr rfl),b⟩⟩ ⟨m,S.2⟩ ⟨_,MP _ rfl,rfl,rfl⟩ (by simp;exact aX 0x601E8480110001807A12004400 rfl k)
   obtain⟨c,u,D,rfl⟩:=q
   exact⟨.int c.toNat,by simp at D;simp[D],λH C=> .int _ _⟩
 ·rename_i l
  subst hi
  cases r with
  | @list a xs n J hm hr hz=>
   have B:=S.N.get (S.UW hm)
   have j:s.heap.IsList a xs.toArray:=fv B
   have K:=MF B
   refine wpAny_pyIter_list j ?_
   have m:=St.Ru S.1 {cls:= .type "list_iterator",data:= .fields #[.ref a,.int 0 0]} rfl
   have W:=Walks.list (prog:=G.prog) (w:=G.w) hand s.heap.objs.size a (OA K) xs.toArray
   have F:l.length=xs.toArray.size:=by rw[(RP.length hr),IF]
   refine h _ [s.heap.objs.size,a] _ _ _ ⟨⟨W.sub,W.frame,λi s Q E g d A=>W.item i s Q E (by rw[<- F];exact g) d λv h' tk q=>A v h' tk ?_,λs Q E d=>W.done s Q E (by rw[<- F];exact d),W.self⟩,λb k=>?_,λi h d=>kE d.1 λo e a b=>⟨o,_,_,e,a,.inl rfl,b⟩⟩ ⟨m,S.2⟩ ⟨⟨_,MP _ rfl,rfl,rfl⟩,j.push _⟩ hz
   ·have M:xs[i]?=QA v:=by simpa using q
    have z:i<l.length:=g
    refine aU (RP.get hr (As z)) λy e N=>?_
    rw[M] at e;cases e
    exact⟨_,As z,λH C=>N.mono C⟩
   ·rcases tO.mp k with rfl|k
    ·exact .inl rfl
    ·rw[LS.mp k];exact .inr ⟨_,hm⟩
 ·rename_i f g
  subst hi
  cases r with
  | @Sd a J J0 t u v hm hz=>
   have B:=S.N.get (S.UW hm)
   have L:Builtin.Range.rangeSize f g 1=(((g-f).toNat:Nat):Int):=by rw[rangeSize_one];split;exact(NI (Int.sub_nonneg_of_le (Nm ‹_›))).symm;exact(By Int.ofNat (Int.toNat_of_nonpos (Pa (Nf.mp ‹_›)))).symm
   refine wpAny_pyIter_range (a:=f) (b:=g) (c:=1) B (small_one (d3 0x7029603E09B0712960F4240111 rfl hz.1) (d3 0x7103E09B281C43D0900444A rfl hz.2.1) (d3 0x7029603E09B0712960F4240111 rfl hz.2.2.1) (d3 0x7103E09B281C43D0900444A rfl hz.2.2.2)) ?_
   have m:=St.Ru S.1 {cls:= .type "range_iterator",data:= .fields #[rawInt f,rawInt (Builtin.Range.rangeSize f g 1),rawInt 1]} rfl
   have W:=LCg.range_walks (prog:=G.prog) (w:=G.w) (I:=s.heap.objs.size) hand f (g-f).toNat
   have j:((eF f g).map V.int).length=(g-f).toNat:=by simp[eF]
   refine h _ [s.heap.objs.size] (λi h=>IsRangeIter h s.heap.objs.size (f+(i:Nat)*1) (((g-f).toNat:Int)-(i:Nat)) 1) _ _ ⟨⟨W.sub,W.frame,λi s Q E hi d A=>W.item i s Q E (by rw[<- j];exact hi) d λv h' tk q=>A v h' tk ?_,λs Q E d=>W.done s Q E (by rw[j] at d;exact d),W.self⟩,λb k=> .inl (LS.mp k),λi h d=>⟨_,_,_,d,rfl,.inr (.inl rfl),rfl⟩⟩ ⟨m,S.2⟩ (by show IsRangeIter _ _ _ _ _;rw[L];simpa using MP _ rfl) (by rw[j];exact Int.toNat_le.mpr (Qc (Int.sub_le_sub (Nm hz.2.2.2) (Nm hz.1)) (by decide)))
   obtain⟨t,rfl⟩:=q
   rw[j] at hi
   exact⟨.int (f+(i:Nat)),by simp[eF,hi],λH C=> .int _ _⟩
section
variable {St:Nat->QM->Prop}
theorem qK (C:Src G A RX vs I fp St) {i:Nat} {oI:Obj} {b:cy} (hi:i<vs.length) (le:RX.le w) (S:TQ G (p.add ((I,oI)::b)) w mu Z s) (st:St i s.heap) {Q:Option QG->QH->Prop} {E:QG->QH->Prop}
  (h: ∀u x oI' h' tk,vs[i]?=QA u->RO G w u x->TQ G (p.add ((I,oI')::b)) w mu Z {s with heap:=h',toks:=tk}->St (i+1) h'->Q (QA x) {s with heap:=h',toks:=tk}):wpAny (model G.prog G.w) A (pyNext (.ref I)) Q E s:=by
 refine C.W.item i s _ _ hi st λx h' tk d c g=>(aU d λu j r=>?_)
 obtain⟨oI',_,_,e,_⟩:=C.live _ _ c
 exact h u x oI' h' tk j (r _ le) ⟨S.1.Wb (λa y f=>g a y (by simpa using f)) e,S.2⟩ c
theorem qJ (C:Src G A RX vs I fp St) {oI:Obj} {b:cy} (S:TQ G (p.add ((I,oI)::b)) w mu Z s) (st:St vs.length s.heap) {Q:Option QG->QH->Prop} {E:QG->QH->Prop}
  (h: ∀h' tk,TQ G (p.add b) w mu Z {s with heap:=h',toks:=tk}->Q QC {s with heap:=h',toks:=tk}):wpAny (model G.prog G.w) A (pyNext (.ref I)) Q E s:=by
 refine C.W.done s _ _ st λh' tk g=>h h' tk ⟨?_,S.2⟩
 have d:VR G ((p.add b).add [(I,oI)]) w mu Z s.heap:=by rw[Pl.V8];exact S.1
 have l:=cC (p:=p.add b) [(I,oI)] w mu (fill s.heap p.frs)
 have k:=(l.map (·.1)).nodup_iff.mp d.nd
 rw[Oy,L0,Mf] at k
 have i:=d.N _ (l.mem_iff.mpr (.head _))
 have c:VR G (p.add b) w mu Z s.heap:=d.Rb
 refine mB c.F.ns λu es ep o m t r=>(c.re (pv':=(p.add b).pv) ⟨⟨u,es,ep,g _ _ (by simpa using λe=>i.2.1 e.symm) o,m,t,r⟩,λa x e=>g a x (by
  simp only[LS]
  intro n
  subst n
  have:=i.2.2
  rw[show G.base.get? a=QC from this] at e;cases e) (c.F.keep a x e),c.F.above⟩ (λq j=>?_) c.nd c.os)
 have:=c.N q j
 refine⟨g _ _ ?_ this.1,this.2⟩
 simp only[LS]
 intro e
 exact k.1 (by
  have:=Ml (f:=λz:QK×Obj=>z.1) j
  rw[e] at this;exact this)
theorem d8 (C:Src G A RX vs I fp St) {p2:Pl} {i:Nat} {h h':QM} (le:RX.le w) (T8:w.le w2) (st:St i h) (S:VR G (p.add ((I,oI)::b)) w mu Z h) (UH:VR G (p2.add ((I,oI)::b2')) w2 ZE SG h'):St i h':=by
 refine C.W.frame _ _ _ st λa f o e=>?_
 rcases C.fp a f with rfl|⟨o',d⟩
 ·have c:=S.ZP (.head _)
  rw[show h.get? a=QA oI from c] at e;cases e
  exact UH.ZP (.head _)
 ·have c:=S.N.get (S.UW (le.fz _ d))
  rw[c] at e;cases e
  exact UH.N.get (UH.UW ((le.trans T8).fz _ d))
end
end
end
section
open PySem.W PySem.Calls PyProof.Rows
open Classical
noncomputable abbrev Pl.up (p:Pl) (m:Str->Option QG) (c:cy):Pl:={p with m:=m,cells:=c}
def TR (p p':Pl):Prop:= ∃m' UZ,p'=(p.up m' UZ)
theorem TR.refl (p:Pl):TR p p:=⟨p.m,p.cells,rfl⟩
theorem TR.trans (x:TR a b) (y:TR b c):TR a c:=by
 obtain⟨m1,c1,rfl⟩:=x
 obtain⟨e,d,rfl⟩:=y
 exact⟨e,d,rfl⟩
theorem TR.A (h:TR p p'):p'.A=p.A:=oX h λJ J e=>e▸rfl
theorem TR.E (h:TR p p'):p'.env=p.env:=oX h λJ J e=>e▸rfl
theorem TR.L (h:TR p p'):p'.L=p.L:=oX h λJ J e=>e▸rfl
theorem TR.at (h:TR p p') (a:p.At n):p'.At n:=by
 obtain⟨m1,c1,rfl⟩:=h
 exact⟨a.frames,a.frame,a.XZ,a.frs,a.depth,a.units,a.hand⟩
theorem TR.en (h:TR p p') (a:p.En c):p'.En c:=by
 obtain⟨m1,c1,rfl⟩:=h
 exact⟨a.ki,a.Xs,a.kind,a.glob,a.bi⟩
structure gF (G:Gt) (p:Pl) (c:Cx) (w:Ld) (Y:Env):Prop where
 env:p.env=p.YD
 locs:p.env.locals=p.L
 vars:dU G p c w Y
 one: ∀n n' x,c.vt.lookup n=QA x->c.vt.lookup n'=QA x->n=n'
 cell: ∀n,c.sc.names.lookup n=QA .cell-> ∃a o v0,p.env.cells.lookup n=QA a/\(a,o)∈p.cells/\o.data= .cell v0
 YI: ∀n n' a,p.env.cells.lookup n=QA a->p.env.cells.lookup n'=QA a->n=n'
 sc:p.env.scope=c.sc
theorem gF.mono (h:gF G p c w Y) (le:w.le w'):gF G p c w' Y:=⟨h.env,h.locs,h.vars.mono le,h.one,h.cell,h.YI,h.sc⟩
def o7 (G:Gt) (p:Pl) (w:Ld) (Z:H) (k:Nat) (ev:QG) (s':QH):Prop:=
 ∃e,ev= .ref e/\((∃mu h,VR G p w mu Z h/\YX h s'.heap e (.ref (G.cls k))/\(k≠14->F2 s'.heap e)/\ZO k=QD)\/
  ∃mu fo fl,SV p.L p.m fo/\Rz G (p.YD::p.outer) w mu p.pv (fo::p.frs) Z k e s'.heap fl/\(fl= .none\/fl=rawInt p.L))
@[elab_as_elim]theorem o7.cases {G:Gt} {p:Pl} {w:Ld} {Z:H} {k:Nat} {ev:QG} {s':QH} (h:o7 G p w Z k ev s') {T:QG->Prop} (a: ∀e mu h,VR G p w mu Z h->YX h s'.heap e (.ref (G.cls k))->(k≠14->F2 s'.heap e)->ZO k=QD->T (.ref e))
  (b: ∀e mu fo,SV p.L p.m fo->Rz G (p.YD::p.outer) w mu p.pv (fo::p.frs) Z k e s'.heap->T (.ref e)) (c: ∀e mu fo,SV p.L p.m fo->Rz G (p.YD::p.outer) w mu p.pv (fo::p.frs) Z k e s'.heap (rawInt p.L)->T (.ref e)):T ev:=by
 obtain⟨e,rfl,⟨mu,h,x⟩|⟨mu,fo,fl,f,R,rfl|rfl⟩⟩:=h
 ·exact a e mu h x.1 x.2.1 x.2.2.1 x.2.2.2
 ·exact b e mu fo f R
 ·exact c e mu fo f R
structure kB (G:Gt) (p:Pl) (c:Cx) (w:Ld) (N:Env->H->Prop) (R:V->H->Prop) (B C:Env->H->Prop) (PQ:Q6->QH->Prop):Prop where
 next: ∀VC RM s' p' w' SA,N VC RM->w.le w'->TR p p'->gF G p' c w' VC->TQ G p' w' SA RM s'->PQ .next s'
 ret: ∀v RM val s' p' w' SA,R v RM->w.le w'->TR p p'->TQ G p' w' SA RM s'->RO G w' v val->PQ (.ret val) s'
 brk: ∀VC RM s' p' w' SA,B VC RM->w.le w'->TR p p'->gF G p' c w' VC->TQ G p' w' SA RM s'->PQ .brk s'
 cont: ∀VC RM s' p' w' SA,C VC RM->w.le w'->TR p p'->gF G p' c w' VC->TQ G p' w' SA RM s'->PQ .cont s'
theorem kB.mono (h:kB G p c w N R B C PQ) (le:w.le w') (sm:TR p p'):kB G p' c w' N R B C PQ:=
 ⟨λg b f q e d a l z=>h.next g b f q e d a (le.trans l) (sm.trans z),λv b val f q e d a l z=>h.ret v b val f q e d a (le.trans l) (sm.trans z),
  λg b f q e d a l z=>h.brk g b f q e d a (le.trans l) (sm.trans z),λg b f q e d a l z=>h.cont g b f q e d a (le.trans l) (sm.trans z)⟩
def XF (G:Gt) (p:Pl) (c:Cx) (w:Ld) (X:Nat->Env->H->Prop) (PE:QG->QH->Prop):Prop:=
 ∀k VC RM ev s' p' w',X k VC RM->w.le w'->TR p p'->gF G p' c w' VC->o7 G p' w' RM k ev s'/\Sm G s'->PE ev s'
theorem XF.mono (h:XF G p c w X PE) (le:w.le w') (sm:TR p p'):XF G p' c w' X PE:=
 λk d b f g q e a l z=>h k d b f g q e a (le.trans l) (sm.trans z)
theorem XF.expr (h:XF G p c w X PE) (o:gF G p c w Y):l8 G p w (λk=>X k Y) PE:=
 λk d e j l f g x b i a=>h k Y d _ j p l x b (.refl p) (o.mono b) ⟨⟨e,rfl,.inr ⟨f,g,_,i,a.1,.inl rfl⟩⟩,a.2⟩
def d9 (G:Gt) (cl:cw) (dep:Nat) (st:S):Prop:= ∀(c:Cx) (x:QI),mc nm st c x=QD-> ∀(p:Pl) (Y:Env) (N:Env->H->Prop) (R:V->H->Prop) (B C:Env->H->Prop) (X:Nat->Env->H->Prop) (Z:H) (w:Ld) (mu:List cy) (s:QH) (PQ:Q6->QH->Prop) (PE:QG->QH->Prop),
 p.At (4*dep+4)->p.En c->gF G p c w Y->wS P cl st N R B C X Y Z->TQ G p w mu Z s->kB G p c w N R B C PQ->XF G p c w X PE->RU (model G.prog G.w) p.A (exec x p.env) PQ PE s
def eP (G:Gt) (cl:cw) (dep:Nat) (ss:Ss):Prop:= ∀(c:Cx) (xs:List QI),UY nm ss c xs=QD-> ∀(p:Pl) (Y:Env) (N:Env->H->Prop) (R:V->H->Prop) (B C:Env->H->Prop) (X:Nat->Env->H->Prop) (Z:H) (w:Ld) (mu:List cy) (s:QH) (PQ:Q6->QH->Prop) (PE:QG->QH->Prop),
 p.At (4*dep+4)->p.En c->gF G p c w Y->a8 P cl ss N R B C X Y Z->TQ G p w mu Z s->kB G p c w N R B C PQ->XF G p c w X PE->RU (model G.prog G.w) p.A (execs xs p.env) PQ PE s
section
variable {mg mb:Str->Option QG} (Γ:Gn G mg mb) (Bo:hV G) (RZ:T9 G cl dep)
include Γ Bo RZ
theorem gA:d9 G cl dep .brk/\d9 G cl dep .cont/\d9 G cl dep .pass/\d9 G cl dep .k:=by
 refine⟨?_,?_,?_,?_⟩<;>intro c x b p Y N R B C X Z w mu s PQ PE At En O h S a hX
 ·exact CW x b λq=>(lift (wpAny_Break (a.brk _ _ _ p _ _ h (.refl _) (.refl _) O S)))
 ·exact Ak x b λq=>(lift (wpAny_Continue (a.cont _ _ _ p _ _ h (.refl _) (.refl _) O S)))
 ·exact Am x b λq=>(lift (wpAny_Pass (a.next _ _ _ p _ _ h (.refl _) (.refl _) O S)))
 ·exact h.elim
theorem yM (ih:R6 G cl dep e):d9 G cl dep (.ret e):=by
 intro c x a p Y N R B C X Z w mu s PQ PE d f O h S b i
 refine rG x a (λy q a=>?_) λq e=>?_
 ·exact kL (ih c _ a p Y R _ Z w mu s _ PE d f O.vars h S (λv RM val s' w' SA q j g r=>b.ret _ _ _ _ p _ _ q j (.refl _) g r) (i.expr O))
 ·rw[e] at h
  exact lift (wpAny_Return_none (b.ret _ _ _ _ p _ _ h (.refl _) (.refl _) S .none))
theorem yL (ih:fE G cl dep e) (YU:eP G cl dep a) (Y4:eP G cl dep b):d9 G cl dep (.i e a b):=by
 intro c x F p Y N R B C X Z w mu s m PE f g O h S l j
 ·refine CY x F λt y z pos E D k=>(GP (ih c _ E p Y (λJ t Z=>match t with
   |true=>a8 P cl a N R B C X Y Z
   |false=>a8 P cl b N R B C X Y Z) _ Z w mu s _ PE f g O.vars h S (λv t n u A r ht q d o=>?_) (j.expr O)))
  rcases t with _|_
  rotate_left
  ·exact YU c _ D p Y N R B C X n A r u m PE f g (O.mono d) q o (l.mono d (.refl p)) (j.mono d (.refl p))
  ·exact Y4 c _ k p Y N R B C X n A r u m PE f g (O.mono d) q o (l.mono d (.refl p)) (j.mono d (.refl p))
theorem oj (h:jz v=QE):swapsWith v t l env=pure QE:=by
 rcases v<;>first|rfl|exact SP h.symm
theorem vr (ih:R6 G cl dep e):d9 G cl dep (.expr e):=by
 intro c x a p Y N R B C X Z w mu s PQ PE f b O h S g j
 ·refine Al x a λy pos a k=>(rf (ih c _ a p Y _ _ Z w mu s _ PE f b O.vars h S (λv RM val s' w' SA q d i r=>g.next _ _ _ p _ _ q d (.refl _) (O.mono d) i) (j.expr O)) ?_ (oj Γ Bo RZ ?_))
  ·delta interactive
   rw[b.kind];rfl
  ·revert k
   rcases y<;>first|exact λJ=>rfl|exact λh=>SP h
theorem vo:eP G cl dep .nil:=by
 intro c xs b p Y N R B C X Z w mu s PQ PE At En O h S a hX
 rw[qh b]
 exact lift (OG (a.next _ _ _ p _ _ h (.refl _) (.refl _) O S))
theorem su {st:S} {r:Ss} (Ri:jQ st=QD) (ih:d9 G cl dep st) (YH:eP G cl dep r):eP G cl dep (.cons st r):=by
 intro c xs E p Y N R B C X Z w mu s z PE o u O h S i y
 refine dM (nj Ri E) λx t e D A=>?_
 rw[e]
 refine gH (ih c x D p Y _ R B C X Z w mu s _ PE o u O h S ⟨?_,?_,?_,?_⟩ y)
 ·intro n j l f m k q b a g d
  have:=YH c t A f n N R B C X j m k l z PE (a.at o) (a.en u) g q d (i.mono b a) (y.mono b a)
  obtain⟨m',c',rfl⟩:=a
  exact this
 ·exact λv j val l f m k q b a d r=>i.ret _ _ _ _ f _ _ q b a d r
 ·exact λn j l f m k q b a g d=>i.brk _ _ _ f _ _ q b a g d
 ·exact λn j l f m k q b a g d=>i.cont _ _ _ f _ _ q b a g d
theorem oH (XQ:R6 G cl dep e) (Yu:R6 G cl dep v):d9 G cl dep (.A e f v):=by
 intro c x U p Y N R B C X Z w mu s PQ PE i j O h S m L
 ·refine rH x U λo n pos' y pos Q K J g=>?_
  have l:=L.expr O
  refine ia (Yu c _ K p Y _ _ Z w mu s _ PE i j O.vars h S (λu z uv W E I q b D V=>?_) l) (oj Γ Bo RZ g)
  refine XQ c _ J p Y _ _ z E I W _ PE i j (O.mono b).vars q D (λwv SG ov s2 w2 ZE q d F rw=>?_) (l.mono b)
  refine FZ q λr k fs e T t P q=>?_
  rw[e] at rw
  exact RO.WA rw λa M=>lift (yw Γ.d Q T t P F M (V.mono d) λs3 Vv H=>m.next _ _ _ p _ _ q (b.trans d) (.refl _) (O.mono (b.trans d)) H)
omit Γ Bo RZ in
theorem qW {w:Ld} {kvs:List (V×V)} {K:Type} {ks:List K} {xs:List QG} (v:RP G w (kvs.map (·.2)) xs) (hl:kvs.length<=1000000):(ks.zip xs).length<=16777216:=by
 rw[List.length_zip]
 refine bY (Mm _ _) ?_
 rw[<- v.length,LZ]
 exact lb hl rfl
theorem lU (S:TQ G p w mu Z s) (ha:w.am[r]?=QA a) (ho:Z[r]?=QA (.dict kvs)) (hk:ir kvs k) (hl:kvs.length<=1000000)
  (rk:RO G w k key) (ru:RO G w u x) (h: ∀s' SA,TQ G p w SA (Z.set r (.dict (dput kvs k u))) s'->QU () s'):wpAny (model G.prog G.w) p.A (setItem (.ref a) key x) QU PE s:=by
 obtain⟨od,t,d,_,D⟩:=S.WZ ha ho
 refine D.view hk rk λK dec knd R n Yw Zp k1 z j b e g f i=>(dM (sF z j b e ru) λY5 xs' m o q=>(wpAny_setItem_pairs g (kda_dict S.N d f) (λh' v y=>?_) (qW b hl)))
 refine aU (OF.mp v) λo' l c=>?_
 rw[m] at c
 exact h _ _ (S.Ue ha t y l (.dict (i w _ _ _ _ o q c)))
theorem rq (S:TQ G p w mu Z s) (ha:w.am[r]?=QA a) (ho:Z[r]?=QA (.dict kvs)) (hk:ir kvs k) (hl:kvs.length<=1000000) (ZW:(T4 kvs k).isSome=QD)
  (rk:RO G w k key) (h: ∀s' SA,TQ G p w SA (Z.set r (.dict (ZL kvs k))) s'->QU () s'):wpAny (model G.prog G.w) p.A (delItem (.ref a) key) QU PE s:=by
 obtain⟨od,E,q,_,D⟩:=S.WZ ha ho
 refine D.view hk rk λK dec knd R n l m H o j c g u t y=>(dM (qV o j c g) λY5 xs' A B C=>?_)
 have b:=kda_dict S.N q t
 have d:(valueAt (l.zip m) H).isSome=QD:=by
  have e:=dT o j c g
  revert e ZW
  rcases T4 kvs k with _|v
  ·exact λh=>SP h
  ·exact λJ h=>aU h λx e J=>by rw[e];rfl
 refine Oq (oF (wpAny_sequenceKey b.typeIs (by decide) (oF (wpAny_callSpecial?_slot (name:=Str.ofString "__delitem__") b.typeIs PySem.F.slot_dict_delitem
  (call_meetsIn PySem.F.slot_dict_delitem b.typeIs PySem.F.entry_dict_delitem (PySem.F.args_dict_delitem_2 _ _) (meets_dict_delitem_pairs knd a u) ⟨l.zip m,b,by rw[My];exact qW c hl,d,λh' f F=>?_⟩)))))
 refine aU (OF.mp f) λo' z i=>?_
 rw[A] at i
 exact(LW (h _ _ (S.Ue ha E F z (.dict (y w _ _ _ _ B C i)))))
theorem oJ (XQ:R6 G cl dep e) (Ut:R6 G cl dep i) (Yu:R6 G cl dep v):d9 G cl dep (.C e i v):=by
 intro c x W p Y N R B C X Z w mu s PQ PE g j O h S n P
 ·refine rI x W λo k pos' y pos hs K J t m=>?_
  have l:=P.expr O
  refine ib (Yu c _ K p Y _ _ Z w mu s _ PE g j O.vars h S (λu z uv s1 E I q b A ru=>?_) l) (oj Γ Bo RZ m)
  refine XQ c _ J p Y _ _ z E I s1 _ PE g j (O.mono b).vars q A (λwv D ov s2 w2 M q d F rw=>?_) (l.mono b)
  refine Ut c _ t p Y _ _ D w2 M s2 _ PE g j (O.mono (b.trans d)).vars q F (λkv SX aA8 s3 w3 Vv q f H rk=>?_) (l.mono (b.trans d))
  refine DT q λr kvs e V T U q=>?_
  rw[e] at rw
  exact RO.WA rw λa Q=>lift (lU Γ Bo RZ H (bE f.am Q) V T U rk (ru.mono (d.trans f)) λs4 mu4 L=>n.next _ _ _ p _ _ q (b.trans (d.trans f)) (.refl _) (O.mono (b.trans (d.trans f))) L)
theorem oG (XQ:R6 G cl dep e) (Ut:R6 G cl dep i):d9 G cl dep (.F e i):=by
 intro c x K p Y N R B C X Z w mu s PQ PE f g O h S l D
 ·refine rF x K λo k pos' pos hs v m=>?_
  have j:=D.expr O
  refine v7 (XQ c _ v p Y _ _ Z w mu s _ PE f g O.vars h S (λwv n ov M P z q b t rw=>?_) j)
  refine Ut c _ m p Y _ _ n P z M _ PE f g (O.mono b).vars q t (λkv SX aA8 s3 w3 Vv q d u L=>?_) (j.mono b)
  refine IL q λr kvs e J H A I q=>?_
  rw[e] at rw
  exact RO.WA rw λa E=>lift (rq Γ Bo RZ u (bE d.am E) J H I A L λs4 mu4 y=>(l.next _ _ _ p _ _ q (b.trans d) (.refl _) (O.mono (b.trans d)) y))
theorem j9 (op:BO) (h:kG op u v (λr=>Q r Z)) (S:TQ G p w mu Z s) (P':cT G p w Q PQ) (ra:RO G w u a) (rb:RO G w v b):
  wpAny (model G.prog G.w) p.A (inplaceOp (rX op) a b) PQ PE s:=by
 revert h ra rb
 rcases u<;>try exact λh=>h.elim
 rcases v<;>first
  |exact λh=>h.elim
  |exact λh ra rb=>RO.UN ra λt=>RO.UN rb λt'=>vL op h S P'
theorem oD (XQ:R6 G cl dep e) (Yu:R6 G cl dep v):d9 G cl dep (.B e f op v):=by
 intro c x ok p Y N R B C X Z w mu s PQ PE l m O h S D W
 ·refine rD x ok λo n pos' Zh y pos z F L M=>?_
  rw[jc F]
  have t:=W.expr O
  refine fT (XQ c _ L p Y _ _ Z w mu s _ PE l m O.vars h S (λA R8 ov s1 U2 VX q g H rw=>?_) t)
  refine aU q λu hu q=>(lift (sV (Q:=λu Z=>wE P cl v Y (λv Z=>kG op u v λx=> ∃r c b,A= .ref r/\Z[r]?=QA (.inst c b)/\P.at_ c f=QD/\b.length<=50/\N Y (Z.set r (.inst c (VS b f x)))) (λc=>X c Y) Z) Γ.d z hu q H (λu I uv s2 w2 V q d J ru=>?_) rw))
  refine Yu c _ M p Y _ _ I w2 V s2 _ PE l m (O.mono (g.trans d)).vars q J (λv SX vv s3 w3 Vv q i K rv=>?_) (t.mono (g.trans d))
  refine lift (j9 Γ Bo RZ (Q:=λx Z=> ∃r c b,A= .ref r/\Z[r]?=QA (.inst c b)/\P.at_ c f=QD/\b.length<=50/\N Y (Z.set r (.inst c (VS b f x)))) op q K (λx T6 xv s4 w4 mu4 q j T rx=>?_) (ru.mono i) rv)
  refine FZ q λr k b e ho E hl q=>?_
  rw[e] at rw
  exact RO.WA rw λa ha=>lift (yw Γ.d z ho E hl T (bE (d.trans (i.trans j)).am ha) rx λs5 mu5 U=>D.next _ _ _ p _ _ q (g.trans (d.trans (i.trans j))) (.refl _) (O.mono (g.trans (d.trans (i.trans j)))) U)
theorem vw (h:lV Z u v (λr=>Q r Z)) (hd: ∃r kvs,u= .ref r/\Z[r]?=QA (.dict kvs)) (S:TQ G p w mu Z s) (P':cT G p w Q PQ) (ra:RO G w u a) (rb:RO G w v b):
  wpAny (model G.prog G.w) p.A (getItem a b) PQ PE s:=by
 refine mf hd λr kvs e c=>?_
 rw[e] at h ra
 have h:(match Z[r]? with
  |some (.list vs)=>(match (generalizing:=false) v with
   | .int k=> ∃j v,idx vs.length k=QA j/\vs[j]?=QA v/\Q v Z
   |_=>False)
  |some (.dict kvs)=>ir kvs v/\ ∃x,T4 kvs v=QA x/\Q x Z
  |_=>False):=h
 rw[c] at h
 obtain⟨t,v',y,q⟩:=h
 refine RO.WA ra λa o=>?_
 obtain⟨od,hb,d,_,D⟩:=S.WZ o c
 refine D.view t rb λK dec knd R n Yw Zp k1 A m g f l i X9=>?_
 have e:=dT A m g f
 rw[y] at e
 exact aU e λx e z=>(wpAny_getItem_of l (kda_dict S.N d i).mapOf e (P' _ _ _ _ _ _ q (.refl _) S z))
theorem oE (XQ:R6 G cl dep e) (Ut:R6 G cl dep i) (Yu:R6 G cl dep v):d9 G cl dep (.D e i op v):=by
 intro c x ok p Y N R B C X Z w mu s PQ PE l m O h S H hX
 ·refine rE x ok λo k pos' Zh y pos hs L VZ I Vy=>?_
  rw[jc L]
  have z:=hX.expr O
  refine fU (XQ c _ VZ p Y _ _ Z w mu s _ PE l m O.vars h S (λF K ov s1 U VX q b M rw=>?_) z) (by intro ov iv new;revert hs;rcases k<;>first|exact λJ=>rfl|exact λh=>SP h.symm)
  refine Ut c _ I p Y _ _ K U VX s1 _ PE l m (O.mono b).vars q M (λj SG aA8 s2 w2 ZE q t V E=>?_) (z.mono b)
  obtain⟨hd,q⟩:=q
  have d:=b.trans t
  refine lift (vw Γ Bo RZ (Q:=λu Z=>wE P cl v Y (λv Z=>kG op u v λx=> ∃r kvs,F= .ref r/\Z[r]?=QA (.dict kvs)/\ir kvs j/\kvs.length<=1000000/\N Y (Z.set r (.dict (dput kvs j x)))) (λc=>X c Y) Z) q hd V (λu T uv s3 w3 Vv q g W ru=>?_) (rw.mono t) E)
  refine Yu c _ Vy p Y _ _ T w3 Vv s3 _ PE l m (O.mono (d.trans g)).vars q W (λv T6 vv s4 w4 mu4 q n XU rv=>?_) (z.mono (d.trans g))
  refine lift (j9 Γ Bo RZ (Q:=λx Z=> ∃r kvs,F= .ref r/\Z[r]?=QA (.dict kvs)/\ir kvs j/\kvs.length<=1000000/\N Y (Z.set r (.dict (dput kvs j x)))) op q XU (λx WL xv s5 w5 mu5 q f YY rx=>?_) (ru.mono n) rv)
  refine DT q λr kvs e ho hk hl q=>?_
  rw[e] at rw
  have A:=t.trans (g.trans (n.trans f))
  exact RO.WA rw λa ha=>lift (lU Γ Bo RZ YY (bE A.am ha) ho hk hl (E.mono (g.trans (n.trans f))) rx λZk mu6 Z4=>H.next _ _ _ p _ _ q (b.trans A) (.refl _) (O.mono (b.trans A)) Z4)
end
end
section
open PySem.W PySem.Calls PyProof.Rows
open Classical
section
theorem YW {Y:Env} {x x':Nat} (h:(Y.set x (QA v))[x']?=QA (QA v')):(x'=x/\v'=v)\/(x'≠x/\Y[x']?=QA (QA v')):=by
 by_cases e:x=x'
 ·rw[<- e,List.getElem?_set_self'] at h
  revert h
  rcases Y[x]? with _|y
  ·exact λh=>fX h
  ·exact λh=> .inl ⟨e.symm,(iN (iN h)).symm⟩
 ·exact .inr ⟨N7 e,(ML e).symm.trans h⟩
theorem dH {p:Pl} {c:Cx} {x:Nat} {Y:Env}
  (En:p.En c) (O:gF G p c w Y) (S:TQ G p w mu Z s) (ok:W4 c n x=QD) (r:RO G w v val)
  (h: ∀s' p',TR p p'->gF G p' c w (Y.set x (QA v))->TQ G p' w mu Z s'->QU () s'):wpAny (model G.prog G.w) p.A (storeName p.env n val) QU PE s:=by
 obtain⟨ok,hk⟩:=WU ok
 have Q:=dA ok
 have UX:p.env.kindOf n=c.sc.names.lookup n:=by unfold PySem.Env.kindOf;rw[O.sc]
 have g: ∀p':Pl,Reads p' n val->(∀d i,d≠n->Reads p d i->Reads p' d i)->dU G p' c w (Y.set x (QA v)):=λp' z E d x' v' f m=>by
  rcases YW m with⟨l,e2⟩|⟨A,m⟩
  ·rw[l] at f
   rw[O.one _ _ _ (dA f) Q,e2]
   exact⟨val,r,z⟩
  ·exact aU (O.vars d x' v' f m) λi r' t=>(⟨i,r',E d i (λe=>A (iN ((dA f).symm.trans (e▸Q)))) t⟩)
 rcases hk with u|u
 · -- a local
  rw[u] at UX
  refine wpAny_storeName_local UX (by rw[O.locs];exact S.F.ns) (λh' V k=>?_) (by rw[En.kind];rfl)
  rw[O.locs] at V k
  refine h _ (p.up (λy=>if y=n then QA val else p.m y) p.cells) ⟨_,p.cells,rfl⟩ ⟨O.env,O.locs,g _ (.inl ⟨UX,O.locs,L6 rfl⟩) λd i j t=>?_,O.one,O.cell,O.YI,O.sc⟩ ⟨S.1.re (S.F.set V k) (S.N.set k) S.nd S.os,S.2⟩
  rcases t with⟨C,a2,a3⟩|a
  ·exact .inl ⟨C,a2,(L4 j).trans a3⟩
  ·exact .inr a
 · -- a cell
  rw[u] at UX
  refine FF (O.cell n u) λa o v0 F U hd=>(oX (List.append_of_mem U) λpre post L=>?_)
  have K:=S.UP (mu:=mu) (w:=w) (DO _ (Mp _ U))
  have M:=S.N (a,o) K
  refine wpAny_storeName_cell En.kind UX F ⟨o,M.1,hd⟩ λh' m k=>(aU m λo' X P=>?_)
  have D: ∀o',p.keep++((pre++(a,o')::post)++p.rest)=(p.keep++pre)++(a,o')::(post++p.rest):=λo'=>by rw[LV,Oy,<- LV]
  have l: ∀o',mu.flatten++(w.fz++(p.keep++((pre++(a,o')::post)++p.rest)++fill s.heap p.frs))=(mu.flatten++(w.fz++(p.keep++pre)))++(a,o')::(post++p.rest++fill s.heap p.frs):=λo'=>by
   rw[D,LV (p.keep++pre),Oy,<- LV w.fz,<- LV]
  have ep:p.pv=p.keep++((pre++(a,o)::post)++p.rest):=by rw[<- L];rfl
  have I:=S.nd
  have N:=S.N
  rw[ep,l] at I N
  obtain⟨n1,n2⟩:=xR I
  have J: ∀q,q∈p.pv->q.1≠a->q∈(p.up p.m (pre++(a,o')::post)).pv:=λq W A=>by
   rw[ep,D] at W
   show q∈p.keep++((pre++(a,o')::post)++p.rest)
   rw[D]
   exact tU W A
  have R:(a,o')∈pre++(a,o')::post:=DO _ (.head _)
  refine h _ (p.up p.m (pre++(a,o')::post)) ⟨p.m,_,rfl⟩ ⟨O.env,O.locs,g _ (.inr (.inr ⟨.inl UX,a,o',F,DO _ (Mp _ R),P⟩)) λd i j t=>?_,O.one,λd H=>?_,O.YI,O.sc⟩ ⟨S.1.re (pv':=(p.up p.m (pre++(a,o')::post)).pv) (Fr.update S.F S.N K k) ?_ ?_ S.os,S.2⟩
  ·rcases t with C|⟨b1,b,es,ep,mm,b2,b3⟩|⟨b1,T,b,b2,b3,b4⟩
   ·exact .inl C
   ·exact .inr (.inl ⟨b1,b,es,ep,mm,J _ b2 (λe=>M.2.1 (e.symm.trans O.locs)),b3⟩)
   ·exact .inr (.inr ⟨b1,T,b,b2,J _ b3 (λe=>j (O.YI _ _ _ b2 (by rw[show T=a from e];exact F))),b4⟩)
  ·refine FF (O.cell d H) λB b v2 z E h3=>?_
   by_cases e:B=a
   ·exact⟨B,o',_,z,by rw[e];exact R,P⟩
   ·exact⟨B,b,v2,z,tU (L▸E) e,h3⟩
  ·show News _ _ _ (mu.flatten++(w.fz++(p.keep++((pre++(a,o')::post)++p.rest)++fill s.heap p.frs)))
   rw[l]
   exact News.setAt N n1 n2 k X
  ·show((mu.flatten++(w.fz++(p.keep++((pre++(a,o')::post)++p.rest)++fill s.heap p.frs))).map (·.1)).Nodup
   rw[l]
   exact tT (o:=o)▸I
end
noncomputable def kh:E->Bool
 | .p .. =>QD
 |_=>QE
theorem VY (he:kh e=QE):(∀a b d p,SE nm e c (.ListComp a b d p)=QE)/\(∀a b d p,SE nm e c (.SetComp a b d p)=QE)/\ ∀k a b d p,SE nm e c (.DictComp k a b d p)=QE:=by
 rcases e<;>first|exact SP he.symm|exact⟨λJ J J J=>rfl,λJ J J J=>rfl,λJ J J J J=>rfl⟩
theorem qg (he:kh e=QE) (h:SE nm e c x=QD):jz x=QE:=by
 rcases x<;>first|rfl|exact SP (((VY he).1 _ _ _ _).symm.trans h)|exact SP (((VY he).2.1 _ _ _ _).symm.trans h)|exact SP (((VY he).2.2 _ _ _ _ _).symm.trans h)
section
variable {mg mb:Str->Option QG} (Γ:Gn G mg mb) (Bo:hV G) (RZ:T9 G cl dep)
include Γ Bo RZ
theorem qG (he:kh e=QE) (ih:R6 G cl dep e):d9 G cl dep (.a v e):=by
 intro c x t p Y N R B C X Z w mu s PQ PE g b O h S j o
 refine mW x t λn np y pos m d J=>(hH (ih c _ d p Y _ _ Z w mu s _ PE g b O.vars h S (λu RM val s' w' SA q f k r=>?_) (o.expr O)) (oj Γ Bo RZ (qg he d)))
 exact lift (dH b (O.mono f) k m r λVA z A i l=>j.next _ _ _ z _ _ q f A i l)
theorem qr (En:p.En c) (O:gF G p c w Y) (S:TQ G p w mu Z s) (ok:isVar c n x=QD)
  (h:e9 Y x Q) (q: ∀v val,Q v->RO G w v val->PQ val s):wpAny (model G.prog G.w) p.A (loadName p.env n) PQ PE s:=by
 refine aU (jy h) λv b h=>(aU (O.vars _ _ _ ok b) λval r d=>?_)
 rcases d with⟨a,hl,hm⟩|⟨a,o,es,ep,mm,hm,hd,hs,hf,b⟩|⟨a,c',o,hc,hm,hd⟩
 ·exact Ov En.kind a (by rw[hl];exact S.F.ns) hm (q _ _ h r)
 ·exact Ov En.kind a ⟨o,es,ep,S.N.get (S.UP hm),hd,hs,hf⟩ b (q _ _ h r)
 ·rcases a with a|a
  ·exact wpAny_loadName_cell En.kind a hc ⟨o,S.N.get (S.UP hm),hd⟩ (q _ _ h r)
  ·exact wpAny_loadName_free En.kind a hc ⟨o,S.N.get (S.UP hm),hd⟩ (q _ _ h r) (i3 ok).2
theorem qH (ih:R6 G cl dep e):d9 G cl dep (.e v op e):=by
 intro c x D p Y N R B C X Z w mu s PQ PE g a O h S j A
 refine mX x D λn np Zh y pos d k t=>?_
 rw[jc k]
 refine fj (lift (qr Γ Bo RZ a O S (WU d).1 h λu val q r=>(ih c _ t p Y _ _ Z w mu s _ PE g a O.vars q S (λy RM yv s' w' SA q b l F=>?_) (A.expr O))))
 refine lift (j9 Γ Bo RZ (Q:=λr Z=>N (Y.set v (QA r)) Z) op q l (λz SY zv VA W6 WI q f m H=>?_) (r.mono b) F)
 exact lift (dH a (O.mono (b.trans f)) m d H λs3 E I i o=>j.next _ _ _ E _ _ q (b.trans f) I i o)
end
end
section
open PySem.W PySem.Calls PyProof.Rows
open Classical
theorem xW {M:RE} {A:QN} {t:QF} {I:QK} {v:QG} {T:String} {o:Obj} {s:QH} {Q:Unit->QH->Prop} {E:QG->QH->Prop} (ho:s.heap.get? I=QA o) (hc:o.cls= .type T)
  (hT:T= "list_iterator" \/T= "range_iterator" \/T= "bytes_iterator") (q:Q () s):wpAny M A (letOwnedTupleGo t (.ref I) v) Q E s:=by
 have a:["enumerate","zip","dict_itemiterator","dict_reverseitemiterator","odict_iterator","itertools.zip_longest","itertools.pairwise"].contains T=QE:=by
  rcases hT with rfl|rfl|rfl<;>decide
 rcases t<;>try exact LW q
 all_goals
  rcases v<;>try exact LW q
  refine oF (OP ho ?_)
  rw[hc]
  generalize o.data=dd
  rcases dd<;>try exact LW q
  show wpAny _ _ (if((_:Bool)&&_)=QD then _ else _) _ _ _
  rw[a]
  exact LW q
section
theorem rA: ∀{ts:List QF} {vs:List Nat},y9 c ts vs=QD->assignEach ts env=(ts.map λt=>(QE,assign t env))/\ts.length=vs.length:=by
 intro ts
 induction ts with
 |nil=>exact λh=>⟨rfl,by rw[nP h];rfl⟩
 |cons t ts a=>
  intro vs h
  cases vs with
  |nil=>exact SP h
  |cons v vs=>
  have ih:=a (a2 h).2
  refine⟨?_,By (· +1) ih.2⟩
  rw[L0,<- ih.1]
  exact gC t (a2 h).1 λn p J=>rfl
theorem qL: ∀{ts:List QF} {vs:List Nat} {us:List V} {xs:List QG} {p:Pl} {w:Ld} {mu:List cy} {Z:H} {s:QH} {Y:Env},us.length=vs.length->
  y9 c ts vs=QD->p.En c->gF G p c w Y->TQ G p w mu Z s->RP G w us xs->
  (∀s' p',TR p p'->gF G p' c w ((vs.zip us).foldl (λY p=>Y.set p.1 (QA p.2)) Y)->TQ G p' w mu Z s'->QU () s')->
  wpAny (model G.prog G.w) p.A (assignInOrder (ts.map λt=>assign t p.env) xs) QU PE s:=by
 intro ts
 induction ts with
 |nil=>
  intro vs us xs p w mu Z s Y a b d O S r h
  rw[nP b] at h a
  rw[M5.mp a] at r
  exact RP.Qo r (LW (h s p (.refl p) O S))
 |cons t ts ih=>
  intro vs us xs p w mu Z s Y a b d O S r h
  rcases vs with _|⟨v,vs⟩
  ·exact SP b
  ·rcases us with _|⟨u,us⟩
   ·cases a
   ·refine RP.XY r λx xs r y=>gC t (a2 b).1 λn np q=>(oF (Oq (OQ (dH d O S q r λs' p' z k l=>?_))))
    obtain⟨g,f,rfl⟩:=z
    exact ih (p:=(p.up g f)) (PU a) (a2 b).2 (TR.en ⟨g,f,rfl⟩ d) k l y λo i j e m=>h o i (TR.trans ⟨g,f,rfl⟩ j) e m
theorem uj {α β:Type} {f:α->β} (ts:List α):(ts.map λt=>(QE,f t)).findIdx? (·.1)=QC:=List.findIdx?_eq_none_iff.mpr λJ a=>(L8.mp a).elim λJ h=>h.2▸rfl
theorem ur (h1:1<vs.length) (hb:jT vs v Y N): ∃us,v= .tup us/\us.length=vs.length/\N ((vs.zip us).foldl (λY p=>Y.set p.1 (QA p.2)) Y):=by
 rcases vs with _|⟨a,_|⟨b,r⟩⟩
 ·exact absurd h1 (by decide)
 ·exact absurd h1 (by show ¬1<1;decide)
 ·rcases v<;>first|exact hb.elim|exact⟨_,rfl,hb⟩
theorem mF {vs:List Nat} {p:Pl} (hand:p.A.handled=QC) (ok:Zf t vs c=QD) (En:p.En c) (O:gF G p c w Y) (S:TQ G p w mu Z s) (r:RO G w v x)
  (hb:jT vs v Y N) (h: ∀s' p' VC,N VC->TR p p'->gF G p' c w VC->TQ G p' w mu Z s'->QU () s'):wpAny (model G.prog G.w) p.A (assign t p.env x) QU PE s:=by
 refine o2 ok (λok=>?_) λok=>?_
 ·refine gC t ok λn np ok=>?_
  revert hb
  exact u1 vs ok λv' ok hb=>(OQ (dH En O S ok r λs' p' g f k=>h s' p' _ hb g f k))
 ·refine l7 t ok λz J J ok=>(kE (ur (de (a2 ok).2) hb) λus e i q=>?_)
  rw[e] at r
  refine RO.Xu r λa xs n y j hz=>?_
  have l:=S.N.get (S.UW y)
  have d:=rA (env:=p.env) (a2 ok).1
  refine assign_Tuple_tuple (items:=xs.toArray) hand ⟨_,l,rfl,n,rfl⟩ ?_ ?_ λh' u=>?_
  ·rw[d.1,LZ,IF,<- j.length,d.2,i]
  ·rw[d.1];exact uj z
  ·rw[d.1,Nz]
   exact qL (s:={s with heap:=h'}) i (a2 ok).1 En O ⟨S.1.kept (h':=h') λb o e=>u b o (OA (MF e)) e,S.2⟩ j λs' p' g f m=>h s' p' _ q g f m
end
end
section
open PySem.W PySem.Calls PyProof.Rows
open Classical
def sR (b:cy):Prop:= ∀z∈b,(∀es ep,z.2.data≠ .dict es ep)/\ ∀v,z.2.data≠ .cell v
section
theorem gF.add (O:gF G p c w Y) (b:cy):gF G (p.add b) c w Y:=⟨O.env,O.locs,O.vars.add b,O.one,O.cell,O.YI,O.sc⟩
theorem gF.drop (O:gF G (p.add b) c w Y) (hb:sR b):gF G p c w Y:=by
 refine⟨O.env,O.locs,λn x v k i=>?_,O.one,O.cell,O.YI,O.sc⟩
 refine aU (O.vars n x v k i) λval r l=>(⟨val,r,?_⟩)
 have pm:=p.XW b
 rcases l with a|⟨a,o,es,ep,j,d,e,h⟩|⟨a,f,o,g,d,e⟩
 ·exact .inl a
 ·rcases Mq.mp (pm.mem_iff.mp d) with d|d
  ·exact absurd e ((hb _ d).1 es ep)
  ·exact .inr (.inl ⟨a,o,es,ep,j,d,e,h⟩)
 ·rcases Mq.mp (pm.mem_iff.mp d) with d|d
  ·exact absurd e ((hb _ d).2 _)
  ·exact .inr (.inr ⟨a,f,o,g,d,e⟩)
theorem TR.Z2 {p p':Pl} {b:cy} (h:TR (p.add b) p'): ∃q,TR p q/\p'=q.add b:=by
 refine oX h λc a d=>?_;subst d
 exact⟨(p.up c a),⟨c,a,rfl⟩,rfl⟩
end
section
theorem EK {cl:cw} {xs:List Nat} {b:Ss} {R:V->H->Prop} {N:Env->H->Prop} {vs:List V} {Y:Env} {Z:H} (h:TG (λN' B' C' Y Z=>a8 P cl b N' R B' C' (λJ J J=>False) Y Z) xs vs N Y Z) {T:Prop}
  (k: ∀F:List V->Env->H->Prop,F vs Y Z->(∀Y Z,F [] Y Z->N Y Z)->(∀u r Y Z,F (u::r) Y Z->jT xs u Y λVC=>a8 P cl b (F r) R N (F r) (λJ J J=>False) VC Z)->T):T:=
 k (λvs=>TG (λN' B' C' Y Z=>a8 P cl b N' R B' C' (λJ J J=>False) Y Z) xs vs N) h (λJ J h=>h) λJ J J J h=>h
def Rq (G:Gt) (p:Pl) (c:Cx) (U2:Ld) (I:QK) (vs:List V) (St:Nat->QM->Prop) (F:List V->Env->H->Prop) (n:Nat) (s:QH):Prop:=
 ∀T:Prop,(∀i Y Z q w' SA oI,n=vs.length+1-i->i<=vs.length->TR p q->U2.le w'->gF G q c w' Y->TQ G (q.add [(I,oI)]) w' SA Z s->St i s.heap->F (vs.drop i) Y Z->T)->T
def sN (PQ:Q6->QH->Prop) (A:QH->Prop) (f:Q6) (s:QH):Prop:=match f with
 | .next| .cont=>A s
 | .brk=>PQ .next s
 | .ret v=>PQ (.ret v) s
end
section
variable {mg mb:Str->Option QG} (Γ:Gn G mg mb) (Bo:hV G) (RZ:T9 G cl dep)
include Γ Bo RZ
theorem qI (ih:R6 G cl dep e):d9 G cl dep (.u xs e):=by
 intro c x z p Y N R B C X Z w mu s PQ PE a b O h S g t
 refine uS x z λts k q y pos n v m=>(kK (ih c _ m p Y _ _ Z w mu s _ PE a b O.vars h S (λu i val s' w' SA q d j r=>?_) (t.expr O)) (by rcases y<;>rfl) (by revert v;rcases y<;>first|exact λJ=>rfl|exact λh=>SP h.symm))
 exact lift (mF (N:=λY=>N Y i) a.hand n b (O.mono d) j r q.2 λVA A VC o D f l=>g.next _ _ _ A _ _ o d D f l)
theorem yK {xs:List Nat} {it:E} {b:Ss} (ih:R6 G cl dep it) (Y4:eP G cl dep b):d9 G cl dep (.f xs it b):=by
 intro c x ok p Y N R B C X Z w mu s PQ PE At En O h S P' hX
 refine CX x ok λt i y pos Qh YB YV=>(Ef (ih c _ Qh p Y _ _ Z w mu s _ PE At En O.vars h S (λv R8 val s1 U VX q TM S1 r=>?_) (hX.expr O)) (by
  intro z
  rcases i<;>first|rfl|exact SP (Y7.symm.trans Qh)))
 refine aU q λvs hi q=>(lift (lC At.hand hi r S1 λI fp St oI h' Sc UH st hlen=>(EK q λF F0 F1 F2=>uE (Rq G p c U I vs St F) (λn s3 hI=>?_) (vs.length+1) λT k=>k 0 Y R8 p U VX oI rfl (Mi _) (.refl p) (.refl _) (O.mono TM) UH st F0)))
 generalize notedBy (model G.prog G.w) p.A p.env (λe s'=>cameBackBy (model G.prog G.w) p.A p.env PE e s')=Un
 refine hI _ λi ρ3 SX l w3 Vv oI3 en hi3 D W O3 V3 st3 L=>?_
 have eA:l.A=p.A:=D.A
 by_cases V:i<vs.length
 ·refine lift (qK Sc V W V3 st3 λu x j h4 tk hu ru XU st4=>?_)
  have hd:vs.drop i=u::vs.drop (i+1):=(NW V).trans (By (· ::_) (iN ((As V).symm.trans hu)))
  rw[hd] at L
  refine mB (Sc.live _ _ st4) λRk T fs e5 hc5 hT hf5=>?_
  have e4:=XU.1.ZP (.head _)
  cases iN (e4.symm.trans e5)
  refine lift (xW (s:={s3 with heap:=h4,toks:=tk}) e4 hc5 hT ?_)
  have:=mF (N:=λVC=>a8 P cl b (F (vs.drop (i+1))) R N (F (vs.drop (i+1))) (λJ J J=>False) VC SX)
   (s:={s3 with heap:=h4,toks:=tk}) (p:=l.add [(I,j)]) (QU:=λJ s5=>RU (model G.prog G.w) p.A (execs y p.env) (sN PQ λs=> ∃m,m<n/\Rq G p c U I vs St F m s) Un s5) (PE:=Un)
   (eA.symm▸At.hand) YB ((D.en En).add _) (O3.add _) XU ru (F2 _ _ _ _ L) λs5 p5' ρ5 q5a sm5 O5 YY=>?_
  ·have this:wpAny (model G.prog G.w) l.A (assign t l.env x) (λJ s5=>RU (model G.prog G.w) p.A (execs y p.env) (sN PQ λs=> ∃m,m<n/\Rq G p c U I vs St F m s) Un s5) Un _:=this
   rw[eA,D.E] at this
   exact lift this
  ·have pl:sR [(I,j)]:=λz hz=>by
    rw[LS.mp hz]
    exact⟨λes ep e=>(by cases hf5.symm.trans e),λv e=>(by cases hf5.symm.trans e)⟩
   refine aU sm5.Z2 λM aB5 VN=>?_;subst VN
   have st5:St (i+1) s5.heap:=d8 Sc W (.refl _) st4 XU.1 YY.1
   have hm:vs.length+1-(i+1)<n:=en▸Pk (Nat.lt_succ_of_lt V) (Ox i)
   have Zl:=D.trans aB5
   have d: ∀K XI Zk a w6 g,F (vs.drop (i+1)) K XI->w3.le w6->TR (M.add [(I,j)]) a->gF G a c w6 K->TQ G a w6 g XI Zk-> ∃m,m<n/\Rq G p c U I vs St F m Zk:=λK XI Zk a w6 g A Zz H O6 Q=>by
    refine aU H.Z2 λo Ua VN=>?_;subst VN
    exact⟨_,hm,λT k=>k (i+1) K XI o w6 g j rfl V (Zl.trans Ua) (W.trans Zz) (O6.drop pl) Q (d8 Sc W Zz st5 YY.1 Q.1) A⟩
   have run:=Y4 c y YV (M.add [(I,j)]) ρ5 (F (vs.drop (i+1))) R N (F (vs.drop (i+1))) (λJ J J=>False) SX w3 Vv s5 (sN PQ λs=> ∃m,m<n/\Rq G p c U I vs St F m s) Un
    ((Zl.at At).add _) ((Zl.en En).add _) O5 q5a YY ⟨?_,?_,?_,?_⟩ (λJ J J J J J J x=>x.elim)
   ·have run:RU (model G.prog G.w) M.A (execs y M.env) (sN PQ λs=> ∃m,m<n/\Rq G p c U I vs St F m s) Un s5:=run
    rw[Zl.A,Zl.E] at run
    exact run
   ·exact d
   ·intro v6 XI aBh Zk a w6 g A Zz H Q r6'
    refine aU H.Z2 λo Ua VN=>?_;subst VN
    exact P'.ret _ _ _ _ o _ _ A (TM.trans (W.trans Zz)) (Zl.trans Ua) ⟨Q.1.Rb,Q.2⟩ r6'
   ·intro K XI Zk a w6 g A Zz H O6 Q
    refine aU H.Z2 λo Ua VN=>?_;subst VN
    exact P'.next _ _ _ o _ _ A (TM.trans (W.trans Zz)) (Zl.trans Ua) (O6.drop pl) ⟨Q.1.Rb,Q.2⟩
   ·exact d
 ·refine lift (qJ Sc (b:=[]) V3 (L2 hi3 (MN.mp V)▸st3) λh4 tk XU=>?_)
  rw[L2 hi3 (MN.mp V),O9] at L
  exact lift (OG (P'.next _ _ {s3 with heap:=h4,toks:=tk} l _ _ (F1 _ _ L) (TM.trans W) D O3 XU))
end
end
section
open PySem.W PySem.Calls PyProof.Rows
theorem sL: ∀{names:List Str} {xs:List QG},names.length=xs.length->n∈names->((names.zip xs).lookup n).isSome=QD:=by
 intro names
 induction names with
 |nil=>exact λJ h=>(Mw h).elim
 |cons a r ih=>
  intro xs h b
  cases xs with
  |nil=>cases h
  |cons x t=>
  rw[Mj,Ma]
  by_cases e:n=a
  ·rw[show(n==a)=QD by simpa using e];rfl
  ·rw[show(n==a)=QE by simpa using e]
   refine ih (by simpa using h) ?_
   rcases tO.mp b with q|q
   ·exact absurd q e
   ·exact q
theorem y3: ∀{names:List Str} {xs:List QG},names.Nodup->names.length=xs.length->names.filterMap (λn=>((names.zip xs).lookup n).map (n,·))=names.zip xs:=by
 intro names xs i b
 have key: ∀(a:List Str) (x:List QG) (c:List (Str×QG)),a.length=x.length->(∀n v,(n,v)∈a.zip x->c.lookup n=QA v)->a.filterMap (λn=>(c.lookup n).map (n,·))=a.zip x:=by
  intro a
  induction a with
  |nil=>intro x c _ _;rfl
  |cons n r ih=>
   intro x c b h
   cases x with
   |nil=>simp at b
   |cons v t=>
    rw[Mj,Pm,h n v (by simp)]
    simp only[PT]
    rw[ih t c (by simpa using b) λn v d=>h n v (by rw[Mj];exact .tail _ d)]
 refine key names xs _ b ?_
 clear key
 induction names generalizing xs with
 |nil=>intro n v h;simp at h
 |cons a r ih=>
  intro n v d
  cases xs with
  |nil=>simp at b
  |cons y t=>
   rw[Mj] at d ⊢
   rw[Ma]
   have f:=Mf.mp i
   rcases tO.mp d with q|q
   ·cases q;simp
   ·have:n∈r:=(List.of_mem_zip q).1
    have g:n≠a:=λe=>f.1 (e▸this)
    rw[show(n==a)=QE by simpa using g]
    exact ih f.2 (by simpa using b) n v q
theorem uu {ds:List QF} (hp:fd.params=⟨[],as,QC,[],[],QC,ds⟩) (nd:(as.map (·.arg)).Nodup) (hl:as.length=xs.length) (hd:fd.defaults= .none):
  bindArgs fd ⟨xs,[]⟩=pure ((as.map (·.arg)).zip xs):=by
 have a:(as.map (·.arg)).length=xs.length:=by simpa using hl
 have e:=y3 nd a
 have g: ¬((decide (xs.length>(as.map (·.arg)).length)&&QD)=QD):=by rw[a,aS (NQ _)];exact Np
 have d:((as.map (·.arg)).filter λn=>(((as.map (·.arg)).zip xs).lookup n).isNone)=[]:=by
  rw[List.filter_eq_nil_iff]
  intro n c
  have:=sL a c
  cases q:((as.map (·.arg)).zip xs).lookup n with
  |none=>rw[q] at this;cases this
  |some v=>exact Np
 have b: ¬((!(((as.map (·.arg)).take ((as.map (·.arg)).length-(List.drop (0-(as.map (·.arg)).length) ([]:List QG)).length)).filter λn=>(((as.map (·.arg)).zip xs).lookup n).isNone).isEmpty)=QD):=by
  rw[PH];show ¬((!((List.take (as.map (·.arg)).length (as.map (·.arg))).filter _).isEmpty)=QD);rw[L5,d];exact Np
 obtain⟨nm,qn,pa,bd,sc,gl,cl,df,kd,dc,pm,an,cd,ct,bi⟩:=fd
 cases hp;cases hd
 refine(L4 g).trans ((L4 b).trans ?_)
 rw[show(none.getD (#[]:Array QG)).toList=[] from rfl,PH,List.zip_nil_right]
 exact By (λl=>(pure l:Sem (List (Str×QG)))) ((By (List.filterMap _) (MC _)).trans e)
end
section
open PySem.W PySem.Calls PyProof.Rows
section
theorem St.enter (S:St G w mu pv frs L m Z h)
  (hn:h0.Ns h.objs.size m0) (hk: ∀b o,h.get? b=QA o->h0.get? b=QA o):
  ∃oL,h.get? L=QA oL/\St G w mu pv ((L,oL)::frs) h.objs.size m0 Z h0:=by
 obtain⟨k,key⟩:=nQ (h':=h0) (frs:=frs) (h:=h) (λq c=>(S.sl q c).elim λsl e=>⟨_,e⟩) (λq c=>hk _ _ (S.N q (by simp[c])).1)
 refine mB S.F.ns λoL es ep d hd hs hf=>?_
 have f:G.base.get? L=QC:=by
  cases q:G.base.get? L with
  |none=>rfl
  |some o=>exact absurd (dO (MF q) S.F.above) (NQ _)
 have j:fill h0 ((L,oL)::frs)=(L,oL)::fill h frs:=by
  show(L,(h0.get? L).getD oL)::fill h0 frs=_
  rw[hk _ _ d,k];rfl
 refine⟨oL,d,⟨hn,λb o e=>hk b o (S.F.keep b o e),MK (MU S.F.above (MF d))⟩,?_,?_,S.os,λq c=>?_⟩
 rotate_left 2
 ·rcases tO.mp c with rfl|c
  ·exact⟨oL.slots,hk _ _ d⟩
  ·rw[key q c];exact S.sl q c
 all_goals rw[j]
 ·intro q c
  have g:q∈mu.flatten++(w.fz++(pv++fill h frs))\/q=(L,oL):=by
   simp only[Mq,tO] at c ⊢
   rcases c with a|a|a|a|a
   ·exact .inl (.inl a)
   ·exact .inl (.inr (.inl a))
   ·exact .inl (.inr (.inr (.inl a)))
   ·exact .inr a
   ·exact .inl (.inr (.inr (.inr a)))
  rcases g with a|rfl
  ·exact⟨hk _ _ (S.N q a).1,OA (MF (S.N q a).1),(S.N q a).2.2⟩
  ·exact⟨hk _ _ d,OA (MF d),f⟩
 ·have pm:(mu.flatten++(w.fz++(pv++(L,oL)::fill h frs))).Perm ((L,oL)::(mu.flatten++(w.fz++(pv++fill h frs)))):=by
   have i:(pv++(L,oL)::fill h frs).Perm ((L,oL)::(pv++fill h frs)):=MH
   have a2:(w.fz++(pv++(L,oL)::fill h frs)).Perm ((L,oL)::(w.fz++(pv++fill h frs))):=(Mh _ i).trans MH
   exact(Mh _ a2).trans MH
  refine(pm.map _).nodup_iff.mpr ?_
  rw[L0,Mf]
  refine⟨λq=>?_,S.nd⟩
  exact aU (L8.mp q) λz l e=>((S.N z l).2.1 e)
theorem St.back (S:St G w mu pv frs L m Z h) (V4:SV L m fo)
  (S':St G w' SA (own++pv) (fo::frs) L' m' RM h'):St G w' SA pv frs L m RM h':=by
 obtain⟨rfl,es,ep,p,s,r⟩:=V4
 obtain⟨n,j⟩:=S'.sl fo (.head _)
 have l:fill h' (fo::frs)=(fo.1,{fo.2 with slots:=n})::fill h' frs:=by
  show(fo.1,(h'.get? fo.1).getD fo.2)::fill h' frs=_
  rw[j];rfl
 have N:=S'.N
 have d:=S'.nd
 rw[l] at N d
 generalize g:((fo.1,{fo.2 with slots:=n}):QK×Obj)=Wl at N d l
 have i:Wl.1=fo.1:=by rw[<- g]
 have c:(SA.flatten++(w'.fz++(pv++fill h' frs))).Sublist (SA.flatten++(w'.fz++((own++pv)++Wl::fill h' frs))):=by
  refine N2 (N2 ?_ _) _
  exact List.Sublist.append (List.sublist_append_right _ _) (List.sublist_cons_self _ _)
 have t: ∀q∈SA.flatten++(w'.fz++(pv++fill h' frs)),q.1≠fo.1:=by
  intro q b e
  have pm:(SA.flatten++(w'.fz++((own++pv)++Wl::fill h' frs))).Perm (Wl::(SA.flatten++(w'.fz++((own++pv)++fill h' frs)))):=by
   have o:((own++pv)++Wl::fill h' frs).Perm (Wl::((own++pv)++fill h' frs)):=MH
   have a2:(w'.fz++((own++pv)++Wl::fill h' frs)).Perm (Wl::(w'.fz++((own++pv)++fill h' frs))):=(Mh _ o).trans MH
   exact(Mh _ a2).trans MH
  have k:=(pm.map (·.1)).nodup_iff.mp d
  rw[L0,Mf] at k
  refine k.1 ?_
  rw[i,<- e]
  refine Ml (f:=λq:QK×Obj=>q.1) ?_
  simp only[Mq] at b ⊢
  rcases b with a|a|a|a
  ·exact .inl a
  ·exact .inr (.inl a)
  ·exact .inr (.inr (.inl (.inr a)))
  ·exact .inr (.inr (.inr a))
 exact⟨⟨⟨_,es,ep,j,p,s,r⟩,S'.F.keep,S.F.above⟩,λq b=>⟨(N q (c.subset b)).1,t q b,(N q (c.subset b)).2.2⟩,(c.map _).nodup d,S'.os,λq b=>S'.sl q (.tail _ b)⟩
end
end
section
open PySem.W PySem.Calls PyProof.Rows
def dK (fr:cy):Prop:= ∀q∈fr,∃es ep,q.2.data= .dict es ep
theorem dw: ∀{l:List PySem.Env} {fr:cy},TI.Frs l fr->dK fr:=by
 intro l
 induction l with
 |nil=>intro fr h q a;cases fr with
  |nil=>cases a
  |cons=>exact h.elim
 |cons env l ih=>
  intro fr h q a
  cases fr with
  |nil=>exact h.elim
  |cons p fr=>
  rcases tO.mp a with rfl|a
  ·exact h.2.2.1
  ·exact ih h.2.2.2 q a
theorem dK.cons (h:SV L m fo) (d:dK fr):dK (fo::fr):=λq a=>by
 rcases tO.mp a with rfl|a
 ·obtain⟨_,es,ep,b,_⟩:=h;exact⟨es,ep,b⟩
 ·exact d q a
section
variable {G:Gt} {L e:QK}
theorem lY {h h':QM} (d:dK fr) (up: ∀q∈fr,G.base.get? q.1=QC/\ ∃sl,h.get? q.1=QA {q.2 with slots:=sl}) (x:h.UpToSlots h'): ∀q∈fr,G.base.get? q.1=QC/\ ∃sl,h'.get? q.1=QA {q.2 with slots:=sl}:=λq b=>by
 obtain⟨u1,sl,u2⟩:=up q b
 refine oX (d q b) λes ep e=>?_
 obtain⟨a,f⟩:=x q.1 _ u2 (by intro vs c;rw[show({q.2 with slots:=sl}:Obj).data=q.2.data from rfl,e] at c;cases c)
 exact⟨u1,a,f⟩
theorem Rz.Ti (f:Option QK) (R:Rz G l w mu pv fr Z k e s.heap fl) (d:dK fr) (h: ∀h',Rz G l w mu pv fr Z k e h' (f.elim .none λa=>rawInt a)->QU () {s with heap:=h'}):wpAny M A (setFlight (.ref e) f) QU PE s:=by
 obtain⟨⟨B,t,j,c,b,m⟩,up,n,os,i,g⟩:=R
 exact zV f b λh' x1 o p=>h h' ⟨⟨B,t,j,c,x1,m⟩,lY d up o,n,os,λz=>p (i z),g⟩
theorem Rz.lands (R:Rz G l w mu pv fr Z k e s.heap fl) (d:dK fr) (h: ∀h',Rz G l w mu pv fr Z k e h'->QU () {s with heap:=h'}):wpAny M A (setFlight (.ref e) QC) QU PE s:=R.Ti QC d h
theorem Rz.keeps (R:Rz G l w mu pv fr Z k e h fl) (hk: ∀b o,h.get? b=QA o->h'.get? b=QA o):Rz G l w mu pv fr Z k e h' fl:=by
 obtain⟨⟨B,t,C,i,⟨n,p,r,f,vs,T,H,K,s,u,v,x,y,A,c,d⟩,E⟩,up,F,os,m,j⟩:=R
 exact⟨⟨B,t,C,i,⟨λb o q=>hk _ _ (n b o q),p,r.of_keeps λb o D J=>⟨o,hk _ _ D,rfl⟩,f,vs,T,H,K,hk _ _ s,u,v,x,y,A,hk _ _ c,d⟩,E⟩,λq g=>⟨(up q g).1,(up q g).2.elim λI u2=>⟨I,hk _ _ u2⟩⟩,F,os,
  λz=>mf (m z) λf vs a b=>⟨f,vs,hk _ _ a,b⟩,j⟩
theorem Rz.Xh (WM:A.frames=QA (env::outer)) (hf:env.frame=QA L) (R:Rz G (env::outer) w mu pv fr Z k e s.heap) (d:dK fr) (h: ∀h',Rz G (env::outer) w mu pv fr Z k e h' (rawInt L)->QU () {s with heap:=h'}):
  wpAny M A (noteFrame (.ref e) env) QU PE s:=by
 obtain⟨⟨B,t,g,b,a,i⟩,up,j,os,f,c⟩:=R
 exact uX WM hf a λh' x1 l m=>h h' ⟨⟨B,t,g,b,x1,i⟩,lY d up l,j,os,λz=>m (f z),c⟩
theorem Rz.again (hf:env.frame=QA L) (R:Rz G l w mu pv fr Z k e s.heap (rawInt L)) (h:QU () s):wpAny M A (noteFrame (.ref e) env) QU PE s:=by
 obtain⟨⟨B,t,hB,ZW,a,ht⟩,up,nd,os,f2,ek⟩:=R
 exact wpAny_noteFrame_againW hf a.2.2.2 h
theorem Rz.out (R:Rz G (env::outer) w mu (own++pv) (fo::fr) Z k e h):Rz G outer w mu pv fr Z k e h:=by
 obtain⟨⟨B,t,n,d,⟨i,j,⟨_,_,l⟩,m⟩,o⟩,up,p,os,g,f⟩:=R
 refine⟨⟨B,t,n,λq b=>d q ?_,⟨i,j,l,m⟩,o⟩,λq b=>up q (.tail _ b),?_,os,g,f⟩
 ·simp only[Mq] at b ⊢
  rcases b with a|a|a
  ·exact .inl a
  ·exact .inr (.inl a)
  ·exact .inr (.inr (.inr a))
 ·have c:(mu.flatten++(w.fz++(pv++fr))).Sublist (mu.flatten++(w.fz++((own++pv)++fo::fr))):=by
   refine N2 (N2 ?_ _) _
   exact List.Sublist.append (List.sublist_append_right _ _) (List.sublist_cons_self _ _)
  exact(c.map _).nodup p
theorem iw {M:RE} {Y0:QM} (WM:A.frames=QA (env::outer)) (hf:env.frame=QA L) (hk:env.scope.kind= .function) (Us:TI.Frs outer fr) (S:St G w mu pv fr L m Z Y0) (hx:YX Y0 s.heap e (.ref (G.cls k))) (f2:k≠14->F2 s.heap e) (ek:ZO k=QD)
  (h: ∀h' fo,SV L m fo->Rz G (env::outer) w mu pv (fo::fr) Z k e h' (rawInt L)->QU () {s with heap:=h'}):wpAny M A (noteFrame (.ref e) env) QU PE s:=by
 refine mB (id S.F.ns) λg es ep y x N K=>(IM hx.there λt oe vs he Y hd W X ht=>?_)
 have R:G.base.get? L=QC:=by
  cases q:G.base.get? L with
  |none=>rfl
  |some o=>exact absurd (dO (MF q) S.F.above) (NQ _)
 have v: ∀{b},Y0.get? b=QC->(hideAll Y0 (L::fr.map (·.1))).get? b=QC:=λ{b} T=>by
  cases q:(hideAll Y0 (L::fr.map (·.1))).get? b with
  |none=>rfl
  |some o=>rw[of_hideAll _ q] at T;cases T
 have I: ∀q∈fr,∃o,(q.1,o)∈fill Y0 fr:=λq c=>⟨_,Ml (f:=λq:QK×Obj=>(q.1,(Y0.get? q.1).getD q.2)) c⟩
 have u: ∀q∈fr,q.1≠L/\G.base.get? q.1=QC:=λq c=>by
  obtain⟨o,ho⟩:=I q c
  have:=S.N (q.1,o) (by simp[ho])
  exact⟨this.2.1,this.2.2⟩
 have V: ∀(l:List PySem.Env) (d:cy),TI.Frs l d->(∀q∈d,q∈fr)->s.heap.FunFrames (hideAll Y0 (L::fr.map (·.1))) l:=by
  intro l
  induction l with
  |nil=>intro d _ _;trivial
  |cons aBe l ih=>
   intro d p Q
   cases d with
   |nil=>exact p.elim
   |cons q r=>
    obtain⟨F,a2,⟨Qp,ep',a3⟩,a4⟩:=p
    have c:q∈fr:=Q q (.head _)
    obtain⟨O,E⟩:=S.sl q c
    refine⟨F,⟨q.1,_,a2,hideAll_none _ (.tail _ (Ml c)),hx.keeps _ _ E,λvs i=>by rw[show({q.2 with slots:=O}:Obj).data=q.2.data from rfl,a3] at i;cases i⟩,ih r a4 λz B=>Q z (.tail _ B)⟩
 have H:s.heap.FunFrames (hideAll Y0 (L::fr.map (·.1))) (env::outer):=
  ⟨by rw[hk];decide,⟨L,g,hf,hideAll_none _ (.head _),hx.keeps _ _ y,λvs i=>by rw[x] at i;cases i⟩,V outer fr Us λJ z=>z⟩
 have P:SV L m (L,g):=⟨rfl,es,ep,x,N,K⟩
 have n: ∀q∈mu.flatten++(w.fz++pv),q∈mu.flatten++(w.fz++(pv++fill Y0 fr)):=λq c=>by
  simp only[Mq] at c ⊢
  rcases c with a|a|a
  ·exact .inl a
  ·exact .inr (.inl a)
  ·exact .inr (.inr (.inl a))
 have D:=S.nd
 have C:((mu.flatten++(w.fz++(pv++fill Y0 fr))).map (·.1))=(mu.flatten++(w.fz++(pv++fr))).map (·.1):=by
  simp only[Mc,mV]
 refine p9 (a0:= .ref t) (base:=hideAll Y0 (L::fr.map (·.1))) WM hf (λb o q=>hx.keeps _ _ (of_hideAll _ q)) H he (v hx.new) hd X W λh' x1 x2 x3=>h h' (L,g) P ⟨⟨_,t,λb o q=>hideAll_get _ (S.F.keep b o q) (λj=>?_),λq c=>⟨hideAll_get _ (S.N q (n q c)).1 (λj=>?_),(S.N q (n q c)).2.2⟩,by rw[<- Y];exact x1,v ht⟩,?_,?_,S.os,λz=>x3 (f2 z),ek⟩
 ·rcases tO.mp j with rfl|j
  ·rw[R] at q;cases q
  ·obtain⟨z,B,rfl⟩:=L8.mp j
   rw[(u z B).2] at q;cases q
 ·rcases tO.mp j with i|j
  ·exact(S.N q (n q c)).2.1 i
  ·rw[C] at D
   have U:mu.flatten++(w.fz++(pv++fr))=(mu.flatten++(w.fz++pv))++fr:=by simp
   rw[U,Mc,Nh] at D
   exact D.2.2 q.1 (Ml (f:=λq:QK×Obj=>q.1) c) q.1 j rfl
 ·refine lY (h:=s.heap) (dK.cons P (dw Us)) (λq c=>?_) x2
  rcases tO.mp c with rfl|c
  ·exact⟨R,g.slots,hx.keeps _ _ y⟩
  ·obtain⟨O,E⟩:=S.sl q c
   exact⟨(u q c).2,O,hx.keeps _ _ E⟩
 ·have pm:(mu.flatten++(w.fz++(pv++(L,g)::fr))).Perm ((L,g)::(mu.flatten++(w.fz++(pv++fr)))):=by
   have F:(pv++(L,g)::fr).Perm ((L,g)::(pv++fr)):=MH
   have a2:(w.fz++(pv++(L,g)::fr)).Perm ((L,g)::(w.fz++(pv++fr))):=(Mh _ F).trans MH
   exact(Mh _ a2).trans MH
  refine(pm.map _).nodup_iff.mpr ?_
  rw[L0,Mf,<- C]
  refine⟨λq=>?_,D⟩
  exact aU (L8.mp q) λz B e=>((S.N z B).2.1 e)
theorem xH (WM:A.frames=QA (env::outer)) (hf:env.frame=QA L) (Us:TI.Frs outer fr) (V4:SV L m fo) (R:Rz G (env::outer) w mu (own++pv) (fo::fr) Z k e s.heap)
  (h: ∀h',Rz G outer w mu pv fr Z k e h'->QU () {s with heap:=h'}):wpAny M A (leaving env (.ref e)) QU PE s:=by
 exact oF (R.Xh WM hf (dK.cons V4 (dw Us)) λc a=>Rz.lands (s:={s with heap:=c}) a (dK.cons V4 (dw Us)) λd b=>h d b.out)
theorem rM (hf:env.frame=QA L) (Us:TI.Frs outer fr) (V4:SV L m fo) (R:Rz G (env::outer) w mu (own++pv) (fo::fr) Z k e s.heap (rawInt L))
  (h: ∀h',Rz G outer w mu pv fr Z k e h'->QU () {s with heap:=h'}):wpAny M A (leaving env (.ref e)) QU PE s:=by
 exact oF (R.again hf (R.lands (dK.cons V4 (dw Us)) λb a=>h b a.out))
theorem rN (WM:A.frames=QA (env::outer)) (hf:env.frame=QA L) (hk:env.scope.kind= .function) (Us:TI.Frs outer fr) (S:St G w mu (own++pv) fr L m Z Y0) (hx:YX Y0 s.heap e (.ref (G.cls k))) (f2:k≠14->F2 s.heap e) (ek:ZO k=QD)
  (h: ∀h',Rz G outer w mu pv fr Z k e h'->QU () {s with heap:=h'}):wpAny M A (leaving env (.ref e)) QU PE s:=by
 exact oF (iw WM hf hk Us S hx f2 ek λc fo d a=>Rz.lands (s:={s with heap:=c}) a (dK.cons d (dw Us)) λf b=>h f b.out)
theorem Rz.st (R:Rz G l w mu pv (fo::fr) Z k e h fl) (V4:SV L m fo) (ha:G.base.objs.size<=L):St G w mu pv fr L m Z h:=by
 obtain⟨⟨B,t,u,n,⟨p,_⟩,ht⟩,up,D,os,f2,ek⟩:=R
 obtain⟨rfl,es,ep,x,A,y⟩:=V4
 obtain⟨bL,sl,v⟩:=up fo (.head _)
 have i:((mu.flatten++(w.fz++(pv++fill h fr))).map (·.1))=(mu.flatten++(w.fz++(pv++fr))).map (·.1):=by
  simp only[Mc,mV]
 have pm:(mu.flatten++(w.fz++(pv++fo::fr))).Perm (fo::(mu.flatten++(w.fz++(pv++fr)))):=by
  have r:(pv++fo::fr).Perm (fo::(pv++fr)):=MH
  have a2:(w.fz++(pv++fo::fr)).Perm (fo::(w.fz++(pv++fr))):=(Mh _ r).trans MH
  exact(Mh _ a2).trans MH
 have c:=(pm.map (·.1)).nodup_iff.mp D
 rw[L0,Mf,<- i] at c
 refine⟨⟨⟨_,es,ep,v,x,A,y⟩,λb o q=>p _ _ (u _ _ q),ha⟩,λq g=>?_,c.2,os,λq g=>(up q (.tail _ g)).2⟩
 have j:q.1≠fo.1:=λs=>c.1 (by rw[<- s];exact Ml (f:=λq:QK×Obj=>q.1) g)
 have d:q∈mu.flatten++(w.fz++pv)\/q∈fill h fr:=by
  simp only[Mq] at g ⊢
  rcases g with a|a|a|a
  ·exact .inl (.inl a)
  ·exact .inl (.inr (.inl a))
  ·exact .inl (.inr (.inr a))
  ·exact .inr a
 rcases d with d|d
 ·exact⟨p _ _ (n q d).1,j,(n q d).2⟩
 ·obtain⟨z,C,rfl⟩:=L8.mp d
  obtain⟨u1,sl',u2⟩:=up z (.tail _ C)
  exact⟨by show h.get? z.1=QA ((h.get? z.1).getD z.2);rw[u2];rfl,j,u1⟩
end
end
section
open PySem.W PySem.Calls PyProof.Rows
open Classical
structure FnAt (G:Gt) (f:Nat) (fn:Fn) (as:List Arg) (ds:List QF) (body:List QI) (sc:QV) (vs:List Str):Prop where
 at_: ∀T:Prop,(∀(fo:Obj) (name qual:Str) (dV kV doc pm cdv ct:QG) (an:Option QK),G.base.get? (G.W9 f)=QA fo->fo.data= .func (fnX name qual ⟨[],as,QC,[],[],QC,ds⟩ body sc [] dV kV doc pm an cdv ct)->G.base.CodeRec cdv qual->
  ((fn.W7=[]/\dV= .none)\/ ∃dt t n,dV= .ref dt/\fn.W7=[.int 0]/\fn.np=3/\G.base.get? dt=QA ({cls:= .type "tuple",data:= .seq #[.int 0 t] n}:Obj))->T)->T
 names:as.map (·.arg)=vs.take fn.np
 len:vs.length=fn.np+fn.nl
 nd:vs.Nodup
 kind:sc.kind= .function
 nco:sc.isCoroutine=QE
 ngen:sc.isGenerator=QE
 ok:UY nm fn.body ⟨vs.zipIdx,sc⟩ body=QD
 loc: ∀n∈vs.take fn.np,sc.names.lookup n=QA .local\/sc.names.lookup n=QA .cell
 cells:((cellsFrom 0 sc.names []).map (·.1)).Nodup
 cellAt: ∀n,sc.names.lookup n=QA .cell->n∈(cellsFrom 0 sc.names []).map (·.1)
theorem fb {vs:List Str} {x:Nat}: ∀{k:Nat},(vs.zipIdx k).lookup n=QA x->k<=x/\vs[x-k]?=QA n:=by
 induction vs with
 |nil=>intro k h;simp at h
 |cons a r ih=>
  intro k h
  rw[List.zipIdx_cons,Ma] at h
  by_cases e:n=a
  ·rw[show(n==a)=QD by simpa using e] at h
   cases h
   exact⟨AS _,by simp[e]⟩
  ·rw[show(n==a)=QE by simpa using e] at h
   obtain⟨b,c⟩:=ih h
   refine⟨RW 0x60040060052041400 rfl b,?_⟩
   rw[show x-k=(x-(k+1))+1 by exact bQ 0x624810500C0862092481050043062092040 rfl (iS (RW 0x60040060052041400 rfl b)) (iS (RW 0x60052041400060052041400 rfl b))]
   exact c
theorem ix: ∀{l:List (Str×QQ)},l.lookup n=QA k->(n,k)∈l:=λ{l}=>l.rec (λh=>by cases h) λc r ih h=>by
  obtain⟨a,b⟩:=c
  rw[Ma] at h
  by_cases e:n=a
  ·rw[show(n==a)=QD by simpa using e] at h
   cases h;subst e;exact .head _
  ·rw[show(n==a)=QE by simpa using e] at h
   exact .tail _ (ih h)
theorem r9 {names:List Str} {xs:List QG} (nd:names.Nodup) (hl:names.length=xs.length) {x:Nat} (hn:names[x]?=QA n) (hv:xs[x]?=QA v):(names.zip xs).reverse.lookup n=QA v:=by
 have g:(n,v)∈(names.zip xs).reverse:=by
  rw[Ow]
  refine MQ (i:=x) ?_
  rw[NY]
  exact⟨hn,hv⟩
 have c: ∀f,(n,f)∈(names.zip xs).reverse->f=v:=λf h'=>by
  rw[Ow] at h'
  obtain⟨y,o⟩:=List.mem_iff_getElem?.mp h'
  rw[NY] at o
  obtain⟨s,m⟩:=o
  obtain⟨d,j⟩:=Ms.mp s
  obtain⟨h,k⟩:=Ms.mp hn
  have:y=x:=by
   rcases OM y x with q|q|q
   ·exact absurd (j.trans k.symm) (MI.mp nd y x d h q)
   ·exact q
   ·exact absurd (k.trans j.symm) (MI.mp nd x y h d q)
  subst this
  rw[hv] at m
  exact(iN m).symm
 clear hn hv nd hl
 generalize (names.zip xs).reverse=l at g c
 induction l with
 |nil=>cases g
 |cons p r ih=>
  obtain⟨a,b⟩:=p
  rw[Ma]
  by_cases e:n=a
  ·rw[show(n==a)=QD by simpa using e]
   subst e
   rw[c b (.head _)]
  ·rw[show(n==a)=QE by simpa using e]
   refine ih ?_ λf h'=>c f (.tail _ h')
   rcases tO.mp g with q|q
   ·cases q;exact absurd rfl e
   ·exact q
theorem i5 {cs:List (Str×QK)} (h:n∈cs.map (·.1)): ∃a,cs.lookup n=QA a:=by
 induction cs with
 |nil=>cases h
 |cons q r ih=>
  obtain⟨m,b⟩:=q
  rw[Ma]
  by_cases e:n=m
  ·rw[show(n==m)=QD by simpa using e];exact⟨_,rfl⟩
  ·rw[show(n==m)=QE by simpa using e]
   rcases tO.mp h with q|q
   ·exact absurd q e
   ·exact ih q
theorem v3 {K:Str->Option QQ} {n:Str} (hk:K n=QA .local): ∀(bs:List (Str×QG)) (m:Str->Option QG),bindL K bs m n=(bs.reverse.lookup n).or (m n):=λl=>l.rec (λm=>rfl) λb r ih m=>by
  obtain⟨a,v⟩:=b
  unfold bindL
  rw[ih,List.reverse_cons,List.lookup_append]
  by_cases e:a=n
  ·subst e;rw[L6 hk]
   cases r.reverse.lookup a<;>simp
  ·have:(n==a)=QE:=by simpa using N7 e
   split
   ·dsimp only
    rw[L4 (N7 e)]
    cases r.reverse.lookup n<;>simp[Ma,this]
   ·cases r.reverse.lookup n<;>simp[Ma,this]
theorem vZ {K:Str->Option QQ} {n:Str} (hk:K n≠QA .local): ∀(bs:List (Str×QG)) (m:Str->Option QG),bindC K bs m n=(bs.reverse.lookup n).or (m n):=λl=>l.rec (λm=>rfl) λb r ih m=>by
  obtain⟨a,v⟩:=b
  unfold bindC
  rw[ih,List.reverse_cons,List.lookup_append]
  by_cases e:a=n
  ·subst e;rw[L4 hk]
   cases r.reverse.lookup a<;>simp
  ·have:(n==a)=QE:=by simpa using N7 e
   split
   ·cases r.reverse.lookup n<;>simp[Ma,this]
   ·dsimp only
    rw[L4 (N7 e)]
    cases r.reverse.lookup n<;>simp[Ma,this]
theorem Eb {α β γ:Type} {x y:Sem α} (h:x=y) (k:α->Sem β) (k':β->Sem γ):((x>>=k)>>=k')=((y>>=k)>>=k'):=by rw[h]
theorem E4 {l:List α} (h:l.length=2): ∃a b,l=[a,b]:=by
 cases l with
 |nil=>cases h
 |cons a l=>cases l with
  |nil=>cases h
  |cons b l=>cases l with
   |nil=>exact⟨a,b,rfl⟩
   |cons=>cases h
theorem Hr {l:List α} (h:l.length=3): ∃a b c,l=[a,b,c]:=by
 cases l with
 |nil=>cases h
 |cons a l=>exact oX (E4 (PU h)) λb c h=>⟨a,b,c,h▸rfl⟩
theorem uw {ds:List QF} {s:QH} {as:List Arg} {n:Nat} {xs:List QG} (h3:as.length=3) (h4:xs.length=2) (nd:(as.map (·.arg)).Nodup)
  (hd:s.heap.get? dt=QA ({cls:= .type "tuple",data:= .seq #[.int 0 t] n}:Obj)):BindsTo s (fnX name qual ⟨[],as,QC,[],[],QC,ds⟩ body sc [] (.ref dt) kV doc pm an cdv ct) ⟨xs,[]⟩ ((as.map (·.arg)).zip (xs++[.int 0 t])):=by
 obtain⟨a,b,c,rfl⟩:=Hr h3
 obtain⟨x1,d,rfl⟩:=E4 h4
 simp only[L0,List.map_nil,Mf,tO,Mw,or_false,not_or] at nd
 obtain⟨⟨m,o⟩,h3,_⟩:=nd
 have f:(b.arg==a.arg)=QE:=by simpa using N7 m
 have g:(c.arg==a.arg)=QE:=by simpa using N7 o
 have h:(c.arg==b.arg)=QE:=by simpa using N7 h3
 have l1: ∀r:List (Str×QG),List.lookup a.arg ((a.arg,x1)::r)=QA x1:=λr=>OY
 have l2: ∀r:List (Str×QG),List.lookup b.arg ((a.arg,x1)::(b.arg,d)::r)=QA d:=λr=>by rw[Ma,f];exact OY
 have e: ∀r:List (Str×QG),List.lookup c.arg ((a.arg,x1)::(b.arg,d)::r)=List.lookup c.arg r:=λr=>by rw[Ma,g];show List.lookup c.arg ((b.arg,d)::r)=_;rw[Ma,h]
 have i: ¬((!([a.arg,b.arg].filter λn=>(([(a.arg,x1),(b.arg,d)]).lookup n).isNone).isEmpty)=QD):=by
  rw[Nu (by rw[l1];exact Np),Nu (by rw[l2];exact Np)];exact Np
 have j:(List.lookup c.arg [(a.arg,x1),(b.arg,d)]).isNone=QD:=by rw[e];rfl
 have k:[a.arg,b.arg,c.arg].filterMap (λn=>(([(a.arg,x1),(b.arg,d),(c.arg,.int 0 t)]:List (Str×QG)).lookup n).map (n,·))=[(a.arg,x1),(b.arg,d),(c.arg,.int 0 t)]:=by
  simp only[Pm,l1,l2,e,OY,PT,List.filterMap_nil]
 exact BindsTo.of_defaults rfl hd rfl rfl ((L4 i).trans ((Eb (L6 j) _ _).trans (By (λl=>(pure l:Sem (List (Str×QG)))) k)))
section
variable {mg mb:Str->Option QG} (Γ:Gn G mg mb)
include Γ
omit Γ in
theorem St.aAq (S:St G w mu pv frs L m Z h) (hb: ∀q∈b,h.get? q.1=QA q.2/\q.1≠L/\G.base.get? q.1=QC) (hd: ∀q∈b,∀r∈mu.flatten++(w.fz++(pv++fill h frs)),r.1≠q.1) (nd:(b.map (·.1)).Nodup):
  St G w mu (b++pv) frs L m Z h:=by
 have pm:(b++(mu.flatten++(w.fz++(pv++fill h frs)))).Perm (mu.flatten++(w.fz++((b++pv)++fill h frs))):=by
  rw[LV b]
  exact(Mg _ _ _).trans (Mh _ (Mg _ _ _))
 refine S.re (pv':=b++pv) S.F (λq a=>?_) ((pm.map (·.1)).nodup_iff.mp ?_) S.os
 ·rcases Mq.mp (pm.mem_iff.mpr a) with a|a
  ·exact hb q a
  ·exact S.N q a
 ·rw[Mc,Nh]
  refine⟨nd,S.nd,λx f y g e=>?_⟩
  subst e
  refine aU (L8.mp f) λq a c=>?_;subst c
  exact aU (L8.mp g) λr d e=>(hd q a r d e)
omit Γ in
theorem xU {ds:List QF} {f:Nat} {fn:Fn} {sc:QV} {vs:List Str} (F:FnAt G f fn as ds body sc vs) {args:List V} {xs:List QG} {p:Pl} (rs:RP G w args xs) (hlen:args.length=fn.np) (hnl:(vs.take fn.np).length=xs.length)
  (hsc:p.env.scope=sc) (hL:p.env.locals=p.L) (hm:p.m=bindL p.env.kindOf ((vs.take fn.np).zip xs) λJ=>QC)
  (hc: ∀n a,p.env.cells.lookup n=QA a-> ∃o,(a,o)∈p.pv/\o.data= .cell (bindC p.env.kindOf ((vs.take fn.np).zip xs) (λJ=>QC) n)) (hca: ∀n,sc.names.lookup n=QA .cell-> ∃a,p.env.cells.lookup n=QA a):
  dU G p ⟨vs.zipIdx,sc⟩ w (args.map QA++List.replicate fn.nl .none):=by
 intro n x v y b
 have s:=fb (dA y)
 have i:args[x]?=QA v:=by
  by_cases e:x<args.length
  ·rw[Nj (by simpa using e)] at b
   simpa using b
  ·rw[Na (by simpa using e)] at b
   rw[List.getElem?_replicate] at b
   split at b<;>simp at b
 refine aU (rs.get i) λval l r=>?_
 have u:x<fn.np:=by rw[<- hlen];exact(Ms.mp i).1
 have k:(vs.take fn.np)[x]?=QA n:=by rw[MO u];exact s.2
 have d:(vs.take fn.np).Nodup:=(List.take_sublist _ _).nodup F.nd
 have g:=r9 d hnl k l
 have c: ∀m,p.env.kindOf m=sc.names.lookup m:=λm=>by delta Env.kindOf;rw[hsc]
 refine⟨val,r,?_⟩
 rcases F.loc n (MQ k) with h|h
 ·refine .inl ⟨(c n).trans h,hL,?_⟩
  rw[hm,v3 ((c n).trans h),g];rfl
 ·obtain⟨a,j⟩:=hca n h
  refine aU (hc n a j) λo t q=>(.inr (.inr ⟨.inl ((c n).trans h),a,o,j,t,?_⟩))
  rw[q,vZ (by rw[c n,h];decide),g];rfl
omit Γ in
theorem mM (h:mL fn args=QA Y):args.length+fn.W7.length=fn.np/\Y=(args++fn.W7).map QA++List.replicate fn.nl .none:=by
 delta mL at h
 split at h
 ·rename_i c
  exact⟨c,(iN h).symm⟩
 ·cases h
omit Γ in
theorem FnAt.binds {ds:List QF} {dV kV doc pm cdv ct:QG} (F:FnAt G f fn as ds body sc vs) (hlen:args.length+fn.W7.length=fn.np)
  (Ye:(fn.W7=[]/\dV= .none)\/ ∃dt t n,dV= .ref dt/\fn.W7=[.int 0]/\fn.np=3/\G.base.get? dt=QA ({cls:= .type "tuple",data:= .seq #[.int 0 t] n}:Obj)) (rs:RP G w args xs) (hk: ∀b o,G.base.get? b=QA o->s.heap.get? b=QA o):
  ∃ys,RP G w (args++fn.W7) ys/\BindsTo s (fnX name qual ⟨[],as,QC,[],[],QC,ds⟩ body sc [] dV kV doc pm an cdv ct) ⟨xs,[]⟩ ((vs.take fn.np).zip ys):=by
 have c:=rs.length
 have a:(as.map (·.arg)).Nodup:=F.names.symm▸(List.take_sublist _ _).nodup F.nd
 have d:as.length=fn.np:=by
  have:=By List.length F.names
  rw[LZ,LY,F.len] at this
  exact SD 0x62080062081062040 rfl this (IS (RW 1615335424 rfl))
 rw[<- F.names]
 rcases Ye with⟨h1,e⟩|⟨dt,t,n,e,h1,h3,hdt⟩
 ·rw[h1] at hlen ⊢
  rw[e]
  exact⟨xs,by rw[MC];exact rs,BindsTo.of_eq (uu rfl a (by rw[d,<- hlen,<- c];exact rfl) rfl)⟩
 ·rw[h1] at hlen ⊢
  have g:xs.length=2:=by dsimp at hlen;exact SD 0x620814010620920414000620C1402862040 rfl c h3 hlen
  rw[e]
  exact⟨xs++[.int 0 t],rs.append (.cons (.int _ _) .nil),uw (RW 0x620C14000620C1401062040 rfl d h3) g a (hk _ _ hdt)⟩
structure D3 (G:Gt) (A:QN) (Tw:List PySem.Env) (frs:cy) (pv:cy) (w:Ld) (mu:List cy) (Z:H) (s:QH):Prop where
 keep: ∀b o,G.base.get? b=QA o->s.heap.get? b=QA o
 low:G.base.objs.size<=s.heap.objs.size
 old: ∀r∈mu.flatten++(w.fz++(pv++frs)),r.1<s.heap.objs.size
 st: ∀(h0:QM) (m0:Str->Option QG),h0.Ns s.heap.objs.size m0->(∀b o,s.heap.get? b=QA o->h0.get? b=QA o)->St G w mu pv frs s.heap.objs.size m0 Z h0
 sm:Sm G s
 frames:A.frames=QA Tw
 frs:TI.Frs Tw frs
 hand:A.handled=QC
theorem mQ {ds:List QF} {d f:Nat} {fn:Fn} (F:FnAt G f fn as ds body sc vs) (hb:eP G (RL P d) d fn.body) {X:Nat->H->Prop} (Rf:mL fn args=QA Y) (hw:a8 P (RL P d) fn.body (λJ Z=>Q .none Z) Q (λJ J=>False) (λJ J=>False) (λc J Z=>X c Z) Y Z) (I:D3 G A Tw frs pv w mu Z s) (aAM:A.depth+4*d+7<=600) (hun:A.units+3+5*(4*d+4)+200<=cLine) (rs:RP G w args xs)
  (P': ∀v RM val s' w' SA own m',Q v RM->w.le w'->Sg G w' SA (own++pv) frs s.heap.objs.size m' RM s'->RO G w' v val->R (.ok (.ret val)) s')
  (hX: ∀k RM e s' w' SA,X k RM->w.le w'->Rz G Tw w' SA pv frs RM k e s'.heap/\Sm G s'->R (.error (.ref e)) s'):bo (model G.prog G.w) A (.call (.ref (G.W9 f)) ⟨xs,[]⟩) R s:=by
 refine F.at_ _ λfo name qual dV kV doc pm cdv ct an V4 Qu hcd Ye=>?_
 have t:=(mM Rf).1
 rw[(mM Rf).2] at hw
 refine aU (F.binds (name:=name) (qual:=qual) (kV:=kV) (doc:=doc) (pm:=pm) (cdv:=cdv) (ct:=ct) (an:=an) t Ye rs I.keep) λys Xl hbt=>?_
 have Ww:(args++fn.W7).length=fn.np:=by rw[LU];exact t
 have hnl:(vs.take fn.np).length=ys.length:=by rw[LY,F.len,<- Xl.length,Ww];exact RW 6735582863424 rfl (IS (RW 1615335424 rfl))
 have Qt: ∀n,((cellsFrom n sc.names []).map (·.1))=(cellsFrom 0 sc.names []).map (·.1):=λn=>cellsFrom_names sc.names n 0 [] [] rfl
 refine rm (by show A.depth<1000;exact RW 0x613E80900018096024121C1412119040 rfl aAM) (I.keep _ _ V4) Qu F.nco F.ngen rfl (hcd.keeps I.keep) (lift (hbt _ _ _ _ (lift (wpAny_newFunctionEnv_cells F.kind (λy hy=>?_) λenv K g x=>?_))))
 ·rcases F.loc _ (List.of_mem_zip hy).1 with h|h
  ·exact .inl h
  ·refine .inr ⟨h,?_⟩
   have:=F.cellAt _ h
   rw[<- Qt (s.heap.objs.size+1)] at this
   obtain⟨a,ha⟩:=i5 this
   exact Mv.mpr ⟨a,ha⟩
 have hNL:g.heap.NoLimit:=(Γ.d.nolimit.keeps I.keep).keeps x.toInCall.keep
 refine⟨hNL,rp ?_⟩
 have Y2:env.locals=s.heap.objs.size:=by rw[K];rfl
 have S:env.scope=sc:=by rw[K];rfl
 have U:env.cells=cellsFrom (s.heap.objs.size+1) sc.names []:=by rw[K];rfl
 have aBL:env.frame=QA s.heap.objs.size:=by rw[K];rfl
 have S1:=I.st _ _ (by rw[<- Y2];exact x.toInCall.ns) x.toInCall.keep
 let b:cy:=env.cells.map λq=>(q.2,(g.heap.get? q.2).getD default)
 have ZU: ∀q∈env.cells,∃o,g.heap.get? q.2=QA o/\o.data= .cell (bindC env.kindOf ((vs.take fn.np).zip ys) (λJ=>QC) q.1):=λq p=>by
  have hl:env.cells.lookup q.1=QA q.2:=lookup_of_mem_nodup (by rw[U,Qt];exact F.cells) p
  exact x.cell _ _ hl
 have l: ∀q∈b,s.heap.objs.size<q.1/\g.heap.get? q.1=QA q.2:=λq p=>by
  refine aU (L8.mp p) λz M j=>?_;subst j
  obtain⟨o,D,_⟩:=ZU z M
  refine⟨by have:=x.above z.1 z.2 M;rw[Y2] at this;exact this,?_⟩
  show g.heap.get? z.2=QA ((g.heap.get? z.2).getD default)
  rw[D];rfl
 have UH:Sg G w mu (b++pv) frs s.heap.objs.size (bindL env.kindOf ((vs.take fn.np).zip ys) λJ=>QC) Z g:=by
  refine⟨S1.aAq (λq p=>⟨(l q p).2,Pt (l q p).1,?_⟩) (λq p r hr e=>?_) ?_,let ⟨_,_,e⟩:=x.toInCall.same;e▸I.sm⟩
  ·exact Heap.get?_none_of_le (bY I.low (MK (l q p).1))
  ·have UU:r.1<s.heap.objs.size:=by
    have W: ∃z∈mu.flatten++(w.fz++(pv++frs)),r.1=z.1:=by
     simp only[Mq] at hr ⊢
     rcases hr with a|a|a|a
     ·exact⟨r,.inl a,rfl⟩
     ·exact⟨r,.inr (.inl a),rfl⟩
     ·exact⟨r,.inr (.inr (.inl a)),rfl⟩
     ·refine aU (L8.mp a) λz M j=>?_;subst j
      exact⟨z,.inr (.inr (.inr M)),rfl⟩
    refine aU W λz M e=>?_
    rw[e];exact I.old z M
   rw[e] at UU
   exact NQ _ (Oz (l q p).1 UU)
  ·have:=x.apart
   show((env.cells.map λq=>(q.2,(g.heap.get? q.2).getD default)).map (·.1)).Nodup
   rw[Nz]
   exact List.pairwise_map.mpr this
 let p1:Pl:={A:=A.deeper env,env:=env,YD:=env,outer:=Tw,L:=s.heap.objs.size,m:=bindL env.kindOf ((vs.take fn.np).zip ys) λJ=>QC,keep:=[],cells:=b,rest:=pv,frs:=frs}
 have i:p1.At (4*d+4):=⟨Around.frames_deeper I.frames,aBL,by show env.scope.kind=_;rw[S];exact F.kind,I.frs,by
  show A.depth+1+_<=_;exact RW 0x602580904921014046414810500018096024121C1412119040 rfl aAM,by show A.units+3+_+_<=_;exact SD 0x600920C80904856521014046414830500018024832024121594840501190520C1400 rfl hun,I.hand⟩
 have hK: ∀n,env.kindOf n=sc.names.lookup n:=λn=>by delta Env.kindOf;rw[S]
 have B: ∀n,sc.names.lookup n=QA .cell-> ∃a,env.cells.lookup n=QA a:=λn C=>by
  have:=F.cellAt _ C
  rw[<- Qt (s.heap.objs.size+1),<- U] at this
  exact i5 this
 have T: ∀n a,env.cells.lookup n=QA a-> ∃o,(a,o)∈b/\o.data= .cell (bindC env.kindOf ((vs.take fn.np).zip ys) (λJ=>QC) n):=λn a C=>by
  have hm:=mem_of_lookup C
  refine aU (ZU _ hm) λo D V=>(⟨o,L8.mpr ⟨(n,a),hm,?_⟩,V⟩)
  show(a,(g.heap.get? a).getD default)=(a,o)
  rw[show g.heap.get? a=QA o from D];rfl
 have En1:p1.En ⟨vs.zipIdx,sc⟩:=⟨λn h=>(hK n).trans h,λn h=>⟨(hK n).trans h,B n h⟩,by show env.scope.kind=_;rw[S];exact F.kind,by show env.globals=_;rw[K];rfl,by show env.builtins=_;rw[K];rfl⟩
 have O1:gF G p1 ⟨vs.zipIdx,sc⟩ w ((args++fn.W7).map QA++List.replicate fn.nl .none):=by
  refine⟨rfl,Y2,xU F Xl Ww hnl S Y2 rfl (λn a C=>?_) B,λn n' y h1 h2=>?_,λn C=>?_,λn n' a h1 h2=>?_,S⟩
  ·exact aU (T n a C) λo D V=>(⟨o,by show(a,o)∈[]++(b++pv);exact DO _ (Mp _ D),V⟩)
  ·have a:=(fb h1).2
   have b:=(fb h2).2
   rw[a] at b
   exact iN b
  ·obtain⟨a,ha⟩:=B n C
   exact aU (T n a ha) λo D V=>(⟨a,o,_,ha,D,V⟩)
  ·exact name_of_addr x.apart (mem_of_lookup h1) (mem_of_lookup h2)
 have aAm:TQ G p1 w mu Z g:=UH
 have run:=hb ⟨vs.zipIdx,sc⟩ body F.ok p1 _ _ _ _ _ _ Z w mu g
  (λf s'=>R (.ok (.ret (match f with| .ret v=>v|_=> .none))) s')
  (λe s'=>RU (model G.prog G.w) (A.deeper env) (leaving env e) (λJ VA=>R (.error e) VA) (λe' VA=>R (.error e') VA) s') i En1 O1 hw aAm ⟨?_,?_,?_,?_⟩ ?_
 ·exact run
 ·intro VC RM s' p' w' SA q E sm O' O
  refine oX sm λm' u j=>?_;subst j
  exact P' .none RM .none s' w' SA u m' q E O .none
 ·intro v RM val s' p' w' SA q E sm O r
  refine oX sm λm' u j=>?_;subst j
  exact P' v RM val s' w' SA u m' q E O r
 ·exact λJ J J J J J q=>q.elim
 ·exact λJ J J J J J q=>q.elim
 ·intro k VC RM ev s' p' w' x E sm O' fl
  refine oX sm λm' u j=>?_;subst j
  refine o7.cases fl.1 (λe SA h O hx f2 ek=>?_) (λe SA fo2 Sl Rr=>?_) λe SA fo2 Sl Rr=>?_
  ·exact lift (rN (own:=u) i.frames i.frame i.XZ i.frs O hx f2 ek λh' N=>hX k RM e {s' with heap:=h'} w' SA x E ⟨N,fl.2⟩)
  ·exact lift (xH (own:=u) i.frames i.frame i.frs Sl Rr λh' N=>hX k RM e {s' with heap:=h'} w' SA x E ⟨N,fl.2⟩)
  ·exact lift (rM (own:=u) i.frame i.frs Sl Rr λh' N=>hX k RM e {s' with heap:=h'} w' SA x E ⟨N,fl.2⟩)
theorem v9 {ds:List QF} (F:FnAt G f fn as ds body sc vs) (hb:eP G (RL P d) d fn.body) (Rf:mL fn args=QA Y) (hw:a8 P (RL P d) fn.body (λJ Z=>Q .none Z) Q (λJ J=>False) (λJ J=>False) (λc J Z=>X c Z) Y Z) (At:p.At (4*(d+1)+3)) (S:TQ G p w mu Z s) (rs:RP G w args xs)
  (P':cT G p w Q (λv s'=>R (.ok (.ret v)) s')) (hX:l8 G p w X (λe s'=>R (.error e) s')):bo (model G.prog G.w) p.A (.call (.ref (G.W9 f)) ⟨xs,[]⟩) R s:=by
 refine mB S.F.ns λn es ep E z L H=>?_
 have j: ∀(g:QM) (m:Str->Option QG),g.Ns s.heap.objs.size m->(∀b o,s.heap.get? b=QA o->g.get? b=QA o)->St G w mu p.pv ((p.L,n)::p.frs) s.heap.objs.size m Z g:=λg m K I=>by
  refine aU (S.1.enter K I) λo e C=>?_
  rw[E] at e;cases e;exact C
 have y:SV p.L p.m (p.L,n):=⟨rfl,es,ep,z,L,H⟩
 refine mQ Γ F hb Rf hw ⟨S.F.keep,bY S.F.above (MK S.F.ns.lt),λr A=>?_,j,S.2,At.frames,⟨by rw[At.XZ];decide,At.frame,⟨es,ep,z⟩,At.frs⟩,At.hand⟩ (by have:=At.depth;exact RW 0x60258090487050484641001809602412483050119481050040 rfl this) (by have:=At.units;exact SD 0x600920C8090485652101404641483050001802483202412159483050119481050040 rfl this) rs
  (λv h val s' t i own m' q l u r=>P' v h val s' t i q l ⟨S.1.back y (own:=own) u.1,u.2⟩ r) (λk h e s' t i x l B=>hX k h e s' t i (p.L,n) x l y B)
 simp only[Mq,tO] at A
 rcases A with a|a|a|rfl|a
 ·exact MF (S.N r (Mp _ a)).1
 ·exact MF (S.N r (S.UW a)).1
 ·exact MF (S.N r (S.UP a)).1
 ·exact S.F.ns.lt
 ·obtain⟨sl,D⟩:=S.1.sl r a
  exact MF D
end
end
section
open PySem.W PySem.Calls PyProof.Rows
open Classical
section
variable {mg mb:Str->Option QG} (Γ:Gn G mg mb) (Bo:hV G) (RZ:T9 G cl dep)
include Γ Bo RZ
theorem oz (YH:eP G cl dep r):eP G cl dep (.cons (.freeze x) r):=by
 intro c xs M p Y N R B C X Z w mu s z PE t u O h S y F
 obtain⟨v,K,i,vs,e,H,q⟩:=jy (Y:=Y) (x:=x) h
 refine dM (S.os.get H) λa b m n J=>(dM (tH J) λk xs' D T L=>?_)
 rw[D] at n
 have d:w.le ⟨w.am,[(a,listOf xs'.toArray k)]++w.fz⟩:=⟨MG _,λp I=>DO _ I⟩
 refine YH c xs M p _ N R B C X _ _ _ s z PE t u ⟨O.env,O.locs,λn' x' v' f g=>?_,O.one,O.cell,O.YI,O.sc⟩ q (S.freeze m n) (y.mono d (.refl p)) (F.mono d (.refl p))
 rcases YW g with⟨e1,e2⟩|⟨UC,g⟩
 ·rw[e1] at f
  refine aU (O.vars _ _ _ f K) λval o Q=>?_
  rw[e] at o
  refine aU (nX o) λa' j E=>?_
  cases iN (m.symm.trans j)
  rw[e2]
  exact⟨val,E▸ .list (.head _) (T.mono d) L,Q⟩
 ·exact aU (O.vars _ _ _ f g) λA P l=>(⟨A,P.mono d,l⟩)
end
end
section
open PySem.W PySem.Calls PyProof.Rows
open Classical
section
theorem HY {cl:cw} {e:E} {b:Ss} {R:V->H->Prop} {N:Env->H->Prop} {n:Nat} {Y:Env} {Z:H} (h:UA (λQ Y Z=>wT P cl e Y Q (λJ J=>False) Z) (λN' B' C' Y Z=>a8 P cl b N' R B' C' (λJ J J=>False) Y Z) n N Y Z) {T:Prop}
  (k: ∀F:Nat->Env->H->Prop,F n Y Z->(∀Y Z,¬F 0 Y Z)->(∀k Y Z,F (k+1) Y Z->wT P cl e Y (λt Z=>match t with
    |true=>a8 P cl b (F k) R N (F k) (λJ J J=>False) Y Z
    |false=>N Y Z) (λJ J=>False) Z)->T):T:=k (λk=>UA (λQ Y Z=>wT P cl e Y Q (λJ J=>False) Z) (λN' B' C' Y Z=>a8 P cl b N' R B' C' (λJ J J=>False) Y Z) k N) h (λJ J h=>h) λJ J J h=>h
def WhI (G:Gt) (p:Pl) (c:Cx) (w:Ld) (F:Nat->Env->H->Prop) (k:Nat) (s:QH):Prop:= ∀T:Prop,(∀Y Z m' UZ w' SA,w.le w'->gF G (p.up m' UZ) c w' Y->TQ G (p.up m' UZ) w' SA Z s->F k Y Z->T)->T
end
section
variable {mg mb:Str->Option QG} (Γ:Gn G mg mb) (Bo:hV G) (RZ:T9 G cl dep)
include Γ Bo RZ
theorem sE {e:E} {b:Ss} (ih:fE G cl dep e) (Y4:eP G cl dep b):d9 G cl dep (.w e b):=by
 intro c x ok p Y N R B C X Z w mu s PQ PE V W O h S U hX
 refine xh x ok λt y pos XR V5=>(h.elim λn h=>HY h λF F0 F1 F2=>zD (pG (WhI G p c w F) (λk s hI=>hI _ λY Z A z w' SA L M S' hw=>?_) n λT k=>k Y Z p.m p.cells w mu (.refl _) O S F0))
 have i:TR p (p.up A z):=⟨A,z,rfl⟩
 rcases k with _|k
 ·exact absurd hw (F1 _ _)
 ·refine ih c t XR (p.up A z) Y (λJ t Z=>match t with
    |true=>a8 P cl b (F k) R N (F k) (λJ J J=>False) Y Z
    |false=>N Y Z) (λJ J=>False) Z w' SA s _ _ (i.at V) (i.en W) M.vars (F2 _ _ _ hw) S' (λv t R8 s1 U2 VX ht q u S1=>?_) (λJ J J J J J J x=>x.elim)
  rcases t with _|_
  ·exact lift (OG (U.next _ _ _ (p.up A z) _ _ q (L.trans u) i (M.mono u) S1))
  ·have a: ∀f o K g l I,F k f o->U2.le l->TR (p.up A z) g->gF G g c l f->TQ G g l I o K-> ∃m,m<k+1/\WhI G p c w F m K:=λf o K g l I q D d Q H=>by
    refine oX d λm2 c2 e2=>⟨k,Ox _,λT j=>j f o m2 c2 l I (L.trans (u.trans D)) (e2▸Q) (e2▸H) q⟩
   exact Y4 c y V5 (p.up A z) Y _ R _ _ _ R8 U2 VX s1 _ _ (i.at V) (i.en W) (M.mono u) q S1
    ⟨a,λv2 o val K g l I q D d H r=>U.ret _ _ _ _ g _ _ q (L.trans (u.trans D)) (i.trans d) H r,
     λf o K g l I q D d Q H=>U.next _ _ _ g _ _ q (L.trans (u.trans D)) (i.trans d) Q H,a⟩ (λJ J J J J J J x=>x.elim)
end
end
section
open PySem.W PySem.Calls PyProof.Rows
open Classical
def vB (R:E->Prop):Es->Prop
 | .nil=>True
 | .cons e r=>R e/\vB R r
def D4 (G:Gt) (p:Pl) (w:Ld) (Q:H->Prop) (s':QH):Prop:= ∃w' SA RM,w.le w'/\TQ G p w' SA RM s'/\Q RM
section
variable {E:QG->QH->Prop} {X:XC}
theorem pA (X0:X.bm.contains (.type "BaseException")=QD)
  (h:RU (model prog w) A x (λv s1=> ∃e t,v= .ref e/\s1.heap.get? C=QA (X.obj C)/\
   s1.heap.get? e=QA {cls:= .ref C,data:= .fields #[.ref t,.none,.none,.none,.bool QE,.none]}/\wpAny (model prog w) A (raiseNew (.ref e):Sem Q6) Q E s1) E s):RU (model prog w) A (raiseStmt env (QA x) QC) Q E s:=by
 have Vg:(Value.ref C::X.bm).contains (.type "BaseException")=QD:=by rw[List.contains_cons,X0,Bool.or_true]
 refine aD h λv s1 c=>lift (H4 c λe t b a i f=>?_)
 rw[b]
 obtain⟨hp,g,d,tk,os⟩:=s1
 repeat (first|with_reducible refine NC i ?_|with_reducible refine NC a ?_|(with_reducible refine Ni a ?_;rw[Vg])|wp_step)
 exact f
theorem s6
  (X0:X.bm.contains (.type "BaseException")=QD) (Qv:(backTo Tf (starEach args env)).any (·.1)=QE) (hni:X.m "__init__" =QC)
  (h:RU (model prog w) A (eval (.Name x np) env) (λf s1=>f= .ref C/\RU (model prog w) A (evalArgs (.ref C) QD (backTo Tf (starEach args env)) [])
   (λa s2=>a.kw=[]/\a.pos.length<=sizeLine/\s2.heap.get? C=QA (X.obj C)/\s2.heap.Ns X.N X.m/\Q8 s2.heap tu X.bm/\
    ∀h' e,Heap.MadeExcOf s2.heap h' e (.ref C) a.pos->wpAny (model prog w) A (raiseNew (.ref e):Sem Q6) Q E {s2 with heap:=h'}) E s1) E s):
  RU (model prog w) A (exec (.Raise (QA (.Call (.Name x np) args [] Tf)) QC pos) env) Q E s:=by
 rw[arm_exec_Raise]
 refine aF (pA (C:=C) (X:=X) X0
  (aD (fG (bR h (λf s1 h1=>?_) λJ J x=>x)) λv s3 h3=>aF (az h3)))
 obtain⟨ef,h1⟩:=h1
 rw[ef]
 refine aL h1 λa s2 h2=>aF ?_
 obtain⟨apos,akw⟩:=a
 refine D5 h2 λhkw hlen hC hn T h2=>?_
 cases(show akw=[] from hkw)
 obtain⟨hp,g,d,tk,os⟩:=s2
 rw[Qv]
 refine ar (lift (wpAny_keeperOf_exc hC (ar (lift (wpAny_call_exc_subT (hrest:=hlen) MY T hC hn hni λh' e hm=>ar (bO (lift (wpAny_point (az ?_)))))))))
 obtain⟨t,ht,_,_⟩:=hm.there
 exact⟨e,t,rfl,hm.keeps _ _ hC,ht,h2 h' e hm⟩
end
section
variable {mg mb:Str->Option QG} (Γ:Gn G mg mb)
include Γ
omit Γ in
theorem uI {i:Int} (h0:0<=i) (h1:i<10000000000):i.natAbs.log2<1920/\(Str.ofString (toString i)).length<=1000:=by
 refine⟨?_,?_⟩
 ·by_cases a:i.natAbs=0
  ·rw[a];decide
  ·exact dO ((Nat.log2_lt a).mpr (n8 (2^40) ⟨OD (by decide) h0,Pr h1 (by decide)⟩)) (by decide)
 ·have:=toString_length_le h0 (k:=10) (by decide) (d3 0x7100A29B281C49502F9000644A rfl h1)
  exact bY this (by decide)
omit Γ in
theorem room (h:a+1000*(n+1)<=m) (hb:b<=1000):a+b+1000*n<=m:=bY (bY (MB (Oe a b _)) (BY hb _)) h
theorem ya {p:Pl} {X:Nat->H->Prop} (At:p.At (4*dep+4)) (En:p.En c): ∀(vs:List QF) (es:Es) (out:Str) (w:Ld) (mu:List cy) (Z:H) (s:QH),
  vB (R6 G cl dep) es->tC (SE nm) c vs es=QD->dU G p c w Y->y7 P cl es Y Q X Z->TQ G p w mu Z s->out.length+1000*vs.length<=100000->l8 G p w X PE->
  RU (model G.prog G.w) p.A (joinParts out (evalEach vs p.env)) (λJ s'=>D4 G p w Q s') PE s:=by
 intro vs
 induction vs with
 |nil=>
  intro es out w mu Z s ih a d h S m f
  rw[lB a] at h
  exact lift (joinParts_nilE (joinParts_nil ⟨w,mu,Z,.refl _,S,h⟩ (by rw[My];exact lb m rfl)))
 |cons x r b=>
  intro es out w mu Z s ih a d h S m f
  have small: ∀{t:Str},t.length<=1000->(out++t).length<=sizeLine/\(out++t).length+1000*r.length<=100000:=λ{t} g=>by
   have:=room m g
   rw[strLen_append,My]
   exact⟨lb (bY (LX _ _) this) rfl,this⟩
  refine zG (x:=eval x p.env) (rest:=evalEach r p.env) (o2 a (λa=>dk x a λk J J a=>?_) λa=>j7 x a λv cv sp J a=>?_)
  ·refine aU (nF (a2 a).1) λt e g=>?_
   rw[e]
   exact lift (NS ⟨(small (de g)).1,b _ _ w mu Z _ ih (a2 a).2 d h S (small (de g)).2 f⟩)
  ·rw[eq_of_beq (a3 a).1,eU (a3 a).2.1]
   refine mf (rC (a3 a).2.2) λe es F o=>?_
   rw[F] at ih h
   refine jv (ih.1 c _ (a2 o).1 p Y _ X Z w mu s _ PE At En d h S (λv y val s' M B q n A u=>?_) f)
   refine Ca q λi I K L q=>?_
   rw[I] at u
   refine RO.UN u λt=>?_
   have j:=uI K L
   exact lift (formatField_int_small j.1 ⟨(small j.2).1,bR (b _ _ M B y _ ih.2 (a2 o).2 (d.mono n) q A (small j.2).2 (f.mono n)) (λJ VA h=>H6 h λD E C l z=>⟨D,E,C,n.trans l,z⟩) λJ J z=>z⟩)
omit Γ in
theorem HL (N:News Y0 L s.heap news) (hb:(a,({cls:= .type "tuple",data:= .seq #[.int i ti,.int j tj] n}:Obj))∈news)
  (i0:0<=i) (i1:i<10000000000) (j0:0<=j) (j1:j<10000000000) (h: ∀v k,Q v {s with toks:=k}):wpAny (model G.prog G.w) A (binaryOp .Mod (.str ("entry %d does not follow %d" :Str) t) (.ref a)) Q PE s:=by
 refine' KPt.mod_tuple ?d ?aBZ ?aBX ?aB0 ?_
 case d=>exact N
 case aBZ=>exact hb
 case aBX=>kpt_eq
 case aB0=>
  apply KPt.meets_tup
  intro _ _ _ _ _ _ g _
  obtain⟨e,f,b,d,c⟩:=g
  rw[KPt.entry_is_r]
  refine oF (NO (T:= "tuple") ⟨e,f,b⟩ KPt.sub_tt (oF (KPt.asStr_ref f c (oF (KPt.fills_ref ⟨e,f,b⟩ ?_)))))
  intro _
  refine oF (wpAny_seqItems f c (oF (LW (oF ?_))))
  rw[KPc.range_list]
  refine KPc.start ?_
  intro _ _
  refine Qg ?_;kpc_check
  refine LW ?_
  kpt_piece
  refine Qg ?_;kpc_check
  refine oF (Oq ?_)
  kpt_conv
  refine LW ?_;refine LW ?_;kpt_piece
  refine Qg ?_;kpc_check
  refine LW ?_
  kpt_piece
  refine Qg ?_;kpc_check
  refine oF (Oq ?_)
  kpt_conv
  refine LW ?_;refine LW ?_;kpt_piece
  refine Qg ?_;kpc_check
  kpc_close
 exact λt' k=>h _ _
theorem Dj {w:Ld} (i0:0<=i) (i1:i<10000000000) (j0:0<=j) (j1:j<10000000000) (S:TQ G p w mu Z s) (r:RO G w (.tup [.int i,.int j]) (.ref a))
  (h: ∀v k,Q v {s with toks:=k}):wpAny (model G.prog G.w) p.A (binaryOp .Mod (.str ("entry %d does not follow %d" :Str) t) (.ref a)) Q PE s:=by
 obtain⟨a',xs,n,e,c,b,_⟩:=jA r
 cases e
 obtain⟨x,xs,rfl,d,b⟩:=eT b
 obtain⟨y,xs,rfl,f,b⟩:=eT b
 cases nW b
 obtain⟨_,rfl⟩:=gq d
 obtain⟨_,rfl⟩:=gq f
 exact HL S.N (S.UW c) i0 i1 j0 j1 λt' k=>h _ _
theorem Dk {X:Nat->H->Prop} {w:Ld} (At:p.At (4*dep+4)) (En:p.En c)
  (ok:AB nm ms c m=QD) (ih:vB (R6 G cl dep) ms) (Vs:dU G p c w Y) (h:y7 P cl ms Y Q X Z) (S:TQ G p w mu Z s) (hX:l8 G p w X PE):
  RU (model G.prog G.w) p.A (eval m p.env) (λJ s'=>D4 G p w Q s') PE s:=by
 refine o2 ok (λok=>o2 ok (λok=>?_) λok=>?_) λok=>?_
 ·refine lZ m ok λvs g ok=>?_
  have F:=de (a3 ok).1
  have run:=ya Γ At En vs ms Str.empty w mu Z s ih (a3 ok).2.2 Vs h S (bY (Pg 1000 (de (a3 ok).2.1)|>(BY · _)) (by decide)) hX
  rcases vs with _|⟨v1,_|⟨v2,r⟩⟩
  ·exact absurd F (by decide)
  ·exact absurd F (by show ¬2<=1;decide)
  ·exact run
 ·refine dk m ok λk J J ok=>?_
  obtain⟨t,e,_⟩:=nF (a2 ok).1
  rw[e]
  rw[lB (a2 ok).2] at h
  exact lift (NS ⟨w,mu,Z,.refl _,S,h⟩)
 ·refine sI m ok λl o r g ok=>?_
  rw[eq_of_beq (a3 ok).2.1]
  refine Bg l (a3 ok).1 λJ J=>(l7 r (a3 ok).2.2 λts J J ok=>u2 ts ok λx y ok=>(mf (rC ok) λa r T ok=>(mf (rC ok) λb r' U ok=>?_)))
  have V:=lB (a3 ok).1
  rw[T,U,V] at ih h
  have D:=(a3 ok).2.1
  have E:=(a3 ok).2.2
  have I:=cY (r:=[]) E
  refine sY (lift (NS (nG (ig (ih.1 c _ D p Y _ X Z w mu _ _ PE At En Vs h S (λu M val s' w' O q f N K=>?_) hX) (bP ((cY D).trans I)).1))))
  refine Ca q λi W i0 i1 q=>(ig (ih.2.1 c _ E p Y _ X M w' O s' _ PE At En (Vs.mono f) q N (λv z XE VA W6 C q B d L=>?_) (hX.mono f)) (bP I).1)
  refine Ca q λj ev j0 j1 q=>?_
  rw[W] at K
  rw[ev] at L
  refine lift (Px (kE (d.1.newTuple (.cons (K.mono B) (.cons L .nil)) (by show 2<=2000000;decide)) λw2 R A n=>(lift (M4 ?_ (by show 2<=sizeLine;rw[My];decide)))))
  exact lift (Dj Γ (p:=p) (mu:=C) (Z:=z) i0 i1 j0 j1 (S:=⟨A,d.2⟩) n λt' k=>⟨w2,C,z,f.trans (B.trans R),⟨A,d.2⟩,q⟩)
theorem sD (ih:vB (R6 G cl dep) ms):d9 G cl dep (.raise k ms):=by
 intro c x a p Y N R B C X Z w mu s PQ PE g i O h S P' j
 refine pV x a λn np m A pos o I H K a=>(Γ.exc o λP D E f T J=>?_)
 have t:SS [m]=QD:=o2 a (λa=>o2 a (λa=>lZ m a λJ J J=>rfl) λa=>dk m a λJ J J J=>rfl) λa=>sI m a λJ J J J J=>rfl
 have d:=(bP (env:=p.env) t).1
 refine s6 (C:=G.cls k) (X:=P) (T.hasType MY.hasBase) (kH t) f (lift (fq Γ i S I H (Γ.cls k n K) ⟨rfl,?_⟩))
 rw[d]
 refine fH ?_
 show RU _ _ (spliced (backTo A ((QE,eval m p.env)::starEach [] p.env))) _ _ _
 rw[<- d]
 refine ig (bR (Dk Γ g i a ih O.vars h S (j.expr O)) (λv L F=>?_) λJ J z=>z) d
 refine FF F λM y u r b q=>(lift (Px ⟨rfl,by show 1<=sizeLine;rw[My];decide,b.F.keep _ _ D,E.keeps b.F.keep,T.keeps b.F.keep,λh' e l=>?_⟩))
 exact wpAny_raiseNew_none g.hand (j k Y u _ _ p M q r (.refl p) (O.mono r) ⟨⟨e,rfl,.inl ⟨y,L.heap,b.1,(YX.of l).1,λJ=>(YX.of l).2,o⟩⟩,b.2⟩)
end
end
section
open PySem.W PySem.Calls PyProof.Rows
open Classical
theorem mi:entryFor table "proto.unchain" =QA Builtin.«proto.unchain»:=N8 (by kernel_rfl)
section
variable {E:QG->QH->Prop}
theorem jK (hh:A.handled=QA (.ref e0)) (UC:e0≠e) (f2:F2 s.heap e0) (he:s.heap.get? e=QA oe) (hd:oe.data= .fields vs) (hz:2<vs.size)
  (h:E (.ref e) {s with heap:=s.heap.update e (Obj.mapFields (·.setIfInBounds 2 (.ref e0)))}):wpAny (model prog w) A (raiseNew (.ref e):Sem α) Q E s:=by
 refine oF (wpAny_handled ?_)
 rw[hh]
 dsimp only
 have f:(Value.ref e0 !=Value.ref e)=QD:=by simpa using UC
 rw[L6 f]
 refine dM f2 λo0 vs0 b c d=>(oF (Oq (wpAny_runValue (PV mi ?_))))
 refine oF (OO b c d ?_)
 refine oF (LW (LW ?_))
 refine oF ?_
 exact Pz (a:=e) (i:=2) he hd hz (wpAny_throw h)
end
section
variable {E:QG->QH->Prop}
theorem w1 {h:QM} (ha:h.get? a=QA o) (hb:h.get? b=QC):a≠b:=λq=>fX (hb.symm.trans (q▸ha))
theorem r7 {sh:QH} (es:sh.heap=h') (hh:A.handled=QA (.ref e0)) (f2:F2 hp e0) (hm:Heap.MadeExcOf hp h' e (.ref C) xs)
  (h: ∀h',YX hp h' e (.ref C)->E (.ref e) {sh with heap:=h'}):wpAny (model prog w) A (raiseNew (.ref e):Sem Q6) Q E sh:=by
 obtain⟨t,a,c,_⟩:=hm.there
 refine dM f2 λi d f a2 a3=>?_
 have a:=es▸a
 refine jK hh (w1 f hm.new) ⟨i,d,es▸hm.keeps _ _ f,a2,a3⟩ a rfl (by show 2<6;decide) (h _ ⟨λb o g=>?_,hm.new,t,_,_,Ol _ a rfl,rfl,rfl,rfl,rfl,c⟩)
 rw[NJ _ _ (N7 (w1 g hm.new)),es]
 exact hm.keeps _ _ g
end
end
section
open PySem.W PySem.Calls PyProof.Rows
open Classical
section
variable {E:QG->QH->Prop} {X X2 X3:XC}
theorem Vg (h:X.bm.contains (.type "BaseException")=QD):(Value.ref C::X.bm).contains (.type "BaseException")=QD:=by rw[List.contains_cons,h,Bool.or_true]
theorem wJ {h:QM} {g:Array QY} {d:Drawn} {t:Nat} {os:Q0} {e:QK} {oe:Obj} {Q:Bool->QH->Prop}
  (hC:h.get? C=QA (X.obj C)) (hD:h.get? Tb=QA (X2.obj Tb))
  (he:h.get? e=QA oe) (Qs:oe.cls= .ref C) (X0:X2.bm.contains (.type "BaseException")=QD)
  (hq:Q ((Value.ref C::X.bm).contains (.ref Tb)) ⟨h,g,d,t,os⟩):wpAny M A (excMatches (.ref e) (.ref Tb)) Q E ⟨h,g,d,t,os⟩:=by
 have Vg:=Vg (C:=Tb) X0
 have f:=tc_notTuple
 generalize a:(Value.ref C::X.bm).contains (.ref Tb)=b at hq
 repeat (first|(with_reducible refine NC he ?_;rw[Qs])|with_reducible refine NC hD ?_|(with_reducible refine Ni hD ?_;rw[Vg])|(with_reducible refine Ni hC ?_;rw[a])|wp_step)
 cases b<;>(wp_walk;exact hq)
theorem zT {h:QM} {g:Array QY} {d:Drawn} {t:Nat} {os:Q0} {e tup:QK} {oe:Obj} {Q:Bool->QH->Prop} (ht:IsTup h tup #[.ref Tb,.ref C3'])
  (hC:h.get? C=QA (X.obj C)) (hD:h.get? Tb=QA (X2.obj Tb)) (Rd:h.get? C3'=QA (X3.obj C3'))
  (he:h.get? e=QA oe) (Qs:oe.cls= .ref C) (X0:X2.bm.contains (.type "BaseException")=QD) (Yc:X3.bm.contains (.type "BaseException")=QD)
  (hq:Q ((Value.ref C::X.bm).contains (.ref Tb)||(Value.ref C::X.bm).contains (.ref C3')) ⟨h,g,d,t,os⟩):wpAny M A (excMatches (.ref e) (.ref tup)) Q E ⟨h,g,d,t,os⟩:=by
 have a:=Vg (C:=C3') Yc
 have Vg:=Vg (C:=Tb) X0
 obtain⟨o,i,j,n,k⟩:=ht
 generalize f:(Value.ref C::X.bm).contains (.ref Tb)=b at hq
 generalize c:(Value.ref C::X.bm).contains (.ref C3')=b' at hq
 refine oF (NO ⟨o,i,j⟩ isSubtype_tuple_tuple ?_)
 dsimp only
 rw[L6 rfl]
 refine oF (wpAny_seqItems i k ?_)
 dsimp only[Option.getD_some,Option.getD]
 repeat (first|(with_reducible refine NC he ?_;rw[Qs])|with_reducible refine NC hD ?_|with_reducible refine NC Rd ?_|(with_reducible refine Ni hD ?_;rw[Vg])|(with_reducible refine Ni Rd ?_;rw[a])|(with_reducible refine Ni hC ?_;first|rewrite[f]|rewrite[c])|wp_step)
 cases b
 ·wp_walk
  repeat (first|(with_reducible refine Ni hC ?_;first|rewrite[f]|rewrite[c])|wp_step)
  cases b'<;>(wp_walk;exact hq)
 ·wp_walk;exact hq
end
theorem Rz.there (R:Rz G l w mu pv fr Z k e h fl): ∃o,h.get? e=QA o/\o.cls= .ref (G.cls k):=
 R.heap.elim λJ h=>h.elim λJ h=>h.2.2.1.2.2.2.there
theorem Rz.trace {G:Gt} {l:List PySem.Env} {w:Ld} {mu:List cy} {pv fr:cy} {Z:H} {k:Nat} {e:QK} {h:QM} {fl:QG} (R:Rz G l w mu pv fr Z k e h fl) {Q:Prop} (j: ∀oe vs T,h.get? e=QA oe->oe.data= .fields vs->vs[1]?=QA (.ref T)->Q):Q:=
 R.heap.elim λJ h=>h.elim λJ h=>h.2.2.1.2.2.2.elim λoe h=>h.elim λvs h=>h.elim λT h=>h.elim λJ h=>h.elim λJ h=>j oe vs T h.1 h.2.2.1 h.2.2.2.1
noncomputable def Pl.with (p:Pl) (A:QN):Pl:={p with A:=A}
section
variable {mg mb:Str->Option QG} (Γ:Gn G mg mb) (Bo:hV G) (RZ:T9 G cl dep)
include Γ Bo RZ
omit Γ Bo RZ in
theorem qy (hs:small h ks z=QD): ∃st,h= .cons st .nil/\(st= .ret .none\/st= .ret .ff\/(∃v,st= .e v .add (.int 1))\/(st= .raise 14 .nil/\ks=[2]/\l1 (jF λe J J=>dY QE (dC λJ as J J=>l1 xp as) e) z=QD)\/st= .k):=by
 obtain⟨n,e⟩: ∃n,UX h=n:=⟨_,rfl⟩
 have hs:(match UX h with
  |0=>QE
  |4=>l1 (λk=>k==2) ks&&l1 (jF λe J J=>dY QE (dC λJ as J J=>l1 xp as) e) z
  |_=>QD)=QD:=hs
 rw[e] at hs
 rcases n with _|n
 ·exact SP hs
 ·refine aU (BL e) λst b c=>?_
  have a:=c▸qx st
  refine⟨st,b,?_⟩
  rcases n with _|_|_|_|_|n
  ·exact .inl a
  ·exact .inr (.inl a)
  ·exact .inr (.inr (.inl a))
  ·exact .inr (.inr (.inr (.inl ⟨a,u1 ks (a2 hs).1 λk d=>By (λk=>[k]) (eq_of_beq d),(a2 hs).2⟩)))
  ·exact .inr (.inr (.inr (.inr a)))
  ·exact False.elim a
theorem yQ {h:Ss} {ks:List Nat} {z:List QI} {c:Cx} {p:Pl} {e0:QK} {Y:Env} {N:Env->H->Prop} {R:V->H->Prop} {B C:Env->H->Prop} {X:Nat->Env->H->Prop} {Z:H} {w:Ld} {mu:List cy} {s:QH} {PQ:Q6->QH->Prop} {PE:QG->QH->Prop}
  (hs:small h ks z=QD) (ok:UY nm h c z=QD) (At:p.At (4*dep+4)) (En:p.En c) (O:gF G p c w Y) (hw:a8 P cl h N R B C X Y Z) (S:TQ G p w mu Z s) (P':kB G p c w N R B C PQ) (hX:XF G p c w X PE) (f2:ks=[2]->F2 s.heap e0):
  RU (model G.prog G.w) (p.A.mark (QA (.ref e0))) (execs z p.env) PQ (notedBy (model G.prog G.w) (p.A.mark (QA (.ref e0))) p.env (cameBackBy (model G.prog G.w) p.A p.env PE)) s:=by
 have d:(p.with (p.A.mark (QA (.ref e0)))).En c:=⟨En.ki,En.Xs,En.kind,En.glob,En.bi⟩
 have j:gF G (p.with (p.A.mark (QA (.ref e0)))) c w Y:=⟨O.env,O.locs,O.vars,O.one,O.cell,O.YI,O.sc⟩
 refine aU (qy hs) λst eh hs=>?_
 rw[eh] at ok hw
 rcases hs with e|e|⟨v,e⟩|⟨e,e2,I⟩|e
 ·rw[e] at ok hw
  refine aU (jb rfl ok) λx b ok=>?_
  rw[b]
  refine rG x ok (λy q ok=>?_) λq J=>?_
  ·exact gH (kL (tF y ok λJ J=>lift (wpAny_Constant_none (P'.ret _ _ _ _ p _ _ hw (.refl _) (.refl _) S .none))))
  ·exact gH (lift (wpAny_Return_none (P'.ret _ _ _ _ p _ _ hw (.refl _) (.refl _) S .none)))
 ·rw[e] at ok hw
  refine aU (jb rfl ok) λx b ok=>?_
  rw[b]
  refine rG x ok (λy q ok=>?_) λq e=>SP (By uU e)
  exact gH (kL (BM y ok λJ J=>lift (Pf (P'.ret _ _ _ _ p _ _ hw (.refl _) (.refl _) S (.bool _)))))
 ·rw[e] at ok hw
  refine aU (jb rfl ok) λx b ok=>?_
  rw[b]
  refine mX x ok λn np Zh y i o W VZ=>?_
  rw[jc W]
  refine gH (fj (lift (qr Γ Bo RZ (p:=p.with (p.A.mark (QA (.ref e0)))) d j S (WU o).1 hw λu val q r=>(xe y VZ (λJ J=>?_) λJ J J h=>absurd h (by decide)))))
  refine lift (Pw (lift (j9 Γ Bo RZ (p:=p.with (p.A.mark (QA (.ref e0)))) (Q:=λr Z=>N (Y.set v (QA r)) Z) .add q S (λz SY zv VA W6 WI q E UT rz=>?_) r (.int _ _))))
  refine lift (dH (p:=p.with (p.A.mark (QA (.ref e0)))) d (j.mono E) UT o rz λs3 p' sm a A=>(oX sm λM F e=>?_))
  rw[e] at a A
  exact lift (OG (P'.next _ _ _ (p.up M F) _ _ q E ⟨M,F,rfl⟩ ⟨a.env,a.locs,a.vars,a.one,a.cell,a.YI,a.sc⟩ A))
 ·rw[e] at ok hw
  have hw:X 14 Y Z:=hw
  refine aU (jb rfl ok) λx b ok=>?_
  rw[b] at I ⊢
  revert I
  refine pV x ok λn np m Tf i L hk hd hn J tx=>(Γ.exc L λxc hC hN g T J=>(dk m (a2 (a2 tx).1).1 λk kk aBf XN=>(aU (nF XN) λt ek J=>?_)))
  rw[ek]
  refine gH (s6 (C:=G.cls 14) (X:=xc) (T.hasType MY.hasBase) rfl g (lift (fq Γ En S hk hd (Γ.cls 14 n hn) ⟨rfl,?_⟩)))
  refine fH (ig (lift (NS (lift (Px ⟨rfl,by show 1<=sizeLine;rw[My];decide,S.F.keep _ _ hC,hN.keeps S.F.keep,T.keeps S.F.keep,λh' e f=>?_⟩)))) rfl)
  refine r7 rfl rfl (f2 e2) f λh' f=>?_
  have fr:(p.A.mark (QA (.ref e0))).frames=QA (p.env::p.outer):=O.env.symm▸At.frames
  have K:p.env.frame=QA p.L:=O.env.symm▸At.frame
  refine iw (k:=14) fr K En.kind At.frs S.1 f (λz=>absurd rfl z) L λh1 fo D l=>?_
  refine l.trace λoe vs T1 g4 g6 g7=>(oF (OO g4 g6 g7 ?_))
  dsimp only
  rw[L4 (show ¬((Value.ref T1==Value.none)=QD) from nofun),K]
  exact Rz.Ti (s:={s with heap:=h1,toks:=_}) (QA p.L) l (dK.cons D (dw At.frs)) λh2 U=>(hX 14 Y Z _ _ p w hw (.refl _) (.refl p) O ⟨⟨e,rfl,.inr ⟨mu,fo,rawInt p.L,D,O.env▸U,.inr rfl⟩⟩,S.2⟩)
 ·rw[e] at hw
  exact hw.elim
omit Γ Bo RZ in
theorem yP (hs:small h ks z=QD) (ok:UY nm h c z=QD) (Ri:h≠ .cons .k .nil): ∃z0 r,z=z0::r:=by
 rcases z with _|⟨a,b⟩
 ·refine aU (qy hs) λst d hs=>?_
  rw[d] at ok Ri
  rcases hs with e|e|⟨v,e⟩|⟨e,_⟩|e
  ·rw[e] at ok;exact SP ok
  ·rw[e] at ok;exact SP ok
  ·rw[e] at ok;exact SP ok
  ·rw[e] at ok;exact SP ok
  ·exact absurd (e▸rfl) Ri
 ·exact⟨a,b,rfl⟩
omit Γ Bo RZ in
theorem lM (h:qe nm k c x=QD): ∀r,SS r=QD->SS (x::r)=QD:=gC x h λJ J J J h=>h
theorem uB {B C:Env->H->Prop} {X:Nat->Env->H->Prop}
  (YB:Cr nm ks c t=QD) (hs:small h ks z=QD) (ok:UY nm h c z=QD) (Ri:h≠ .cons .k .nil) (hc:ks.any (P.sub k)=QD) (Sp:ks.all ZO=QD)
  (At:p.At (4*dep+4)) (En:p.En c) (O:gF G p c w Y) (hw:a8 P cl h N R B C X Y Z) (V4:SV p.L p.m fo) (ha:G.base.objs.size<=p.L) (Rr:Rz G (p.YD::p.outer) w mu p.pv (fo::p.frs) Z k e s.heap) (om:Sm G s) (P':kB G p c w N R B C PQ) (hX:XF G p c w X PE):
  RU (model G.prog G.w) p.A (handleBy (.ref e) p.env [.ExceptHandler (QA t) QC z hp]) PQ PE s:=by
 have S:=Rr.st V4 ha
 refine oX (yP hs ok Ri) λz0 r ez=>?_
 rw[ez] at hs ok ⊢
 refine Γ.exc Rr.ek λxc M J J T v=>?_
 have I: ∀(a:QH),(∀b o,s.heap.get? b=QA o->a.heap.get? b=QA o)->Sm G a->bo (model G.prog G.w) (p.A.mark (QA (.ref e))) (.handlers (.ref e) [.ExceptHandler QC QC (z0::r) hp] p.env) (λr V=>match r with
     | .ok f=>PQ f V
     | .error x=>cameBackBy (model G.prog G.w) p.A p.env PE x V) a:=by
  intro a g D
  exact gi (lift (Rz.lands (Rr.keeps g) (dK.cons V4 (dw At.frs)) λh2 F=>(yQ Γ Bo RZ hs ok At En O hw ⟨F.st V4 ha,D⟩ P' hX (λq=>F.f2 (λq'=>by rw[q,q'] at hc;exact SP hc)))))
 refine aU Rr.there λo0 l L=>?_
 have name: ∀{j:Nat} {t:QF} {a:QH} {Q:QG->QH->Prop} {E:QG->QH->Prop},qe nm j c t=QD->a.heap=s.heap->Q (.ref (G.cls j)) a->RU (model G.prog G.w) (p.A.mark (QA (.ref e))) (eval t p.env) Q E a:=λ{j t a Q E} ok hh q=>
  gC t ok λn np h=>lift (Pc En.kind (En.ki _ (bK (a2 h).1).1) (loadGlobal_global (by rw[En.glob,hh];exact Γ.g.keeps S.F.keep) (Γ.cls j n (eq_of_beq (a2 h).2)) q) (bK (a2 h).1).2)
 refine rg (gY ?_) (λq=>nomatch q)
 revert Sp hc
 refine o2 YB (λYB=>u1 ks YB λj YB=>?_) λYB=>u2 ks YB λj m YB=>?_
 ·intro hc Sp
  have i:=(a2 Sp).1
  refine Γ.exc i λx2 d J J u J=>(name YB rfl (lift (wJ (h:=s.heap) (S.F.keep _ _ M) (S.F.keep _ _ d) l L (u.hasType MY.hasBase) ?_)))
  rw[v j i,show P.sub k j=QD from(PJ _).symm.trans hc]
  exact I s (λJ J z=>z) om
 ·refine l7 t YB λts J J YB=>u2 ts YB λx y YB=>?_
  intro hc Sp
  have i:=(a2 Sp).1
  have K:=(a2 (a2 Sp).2).1
  refine Γ.exc i λx2 d J J u J=>(Γ.exc K λx3 A J J W J=>?_)
  have px:=lM (a2 YB).1
  have U:=lM (a2 YB).2
  refine nG (ig (name (a2 YB).1 rfl (ig (name (a2 YB).2 rfl (lift (Px (lift (M4 ?_ (by show 2<=sizeLine;rw[My];decide)))))) (bP (U [] rfl)).1)) (bP (px [y] (U [] rfl))).1)
  have g: ∀b o,s.heap.get? b=QA o->(s.heap.push ({cls:= .type "tuple",data:= .seq #[.ref (G.cls j),.ref (G.cls m)]}:Obj)).get? b=QA o:=λJ J z=>Nc _ z
  refine lift (zT (h:=s.heap.push ({cls:= .type "tuple",data:= .seq #[.ref (G.cls j),.ref (G.cls m)]}:Obj)) ⟨_,MP _ rfl,rfl,_,rfl⟩ (g _ _ (S.F.keep _ _ M)) (g _ _ (S.F.keep _ _ d)) (g _ _ (S.F.keep _ _ A)) (g _ _ l) L (u.hasType MY.hasBase) (W.hasType MY.hasBase) ?_)
  rw[v j i,v m K,show(P.sub k j||P.sub k m)=QD from(By (P.sub k j|| ·) (PJ _)).symm.trans hc]
  exact I _ g om
theorem yN (Y4:eP G cl dep b):d9 G cl dep (.XD b ks h):=by
 intro c x ok p Y N R B C X Z w mu s PQ PE At L O hw S o hX
 refine CZ x ok λy t z hp pos YV W V Sp YB=>?_
 have hL:=S.F.above
 refine Eg (Y4 c _ YV p Y N R B C _ Z w mu s _ _ At L O hw S ⟨λQ A v a w' d q K f g M=>lift (OG (o.next Q A v a w' d q K f g M)),o.ret,o.brk,o.cont⟩ ?_)
 intro k Q A ev v a w' x K f g H
 have om:=H.2
 have H:=H.1
 have I:ks.any (P.sub k)=QD/\a8 P cl h N R B C X Q A:=by
  revert x
  rcases ks.any (P.sub k) with _|_
  ·exact λx=>x.elim
  ·exact λx=>⟨rfl,x⟩
 have m:=I.2
 have I:=I.1
 have Ri:h≠ .cons .k .nil:=λq=>by rw[q] at m;exact m
 have T:ks.all ZO=QD:=o2 Sp (λq=>by
  have e:=eq_of_beq q
  refine aU (BL e) λst e1 e2=>?_
  have sk:SK st (4+1):=e2▸qx st
  exact absurd ((show st= .k from sk)▸e1) Ri) id
 have n:=f.at At
 have eL:a.L=p.L:=f.L
 rw[<- f.A,<- f.E]
 have fr:a.A.frames=QA (a.env::a.outer):=g.env.symm▸n.frames
 have U:a.env.frame=QA a.L:=g.env.symm▸n.frame
 have j: ∀(d:List cy) (e:QK) (u:QK×Obj) (i:QM),SV a.L a.m u->Rz G (a.env::a.outer) w' d a.pv (u::a.frs) A k e i (rawInt a.L)->
   RU (model G.prog G.w) a.A (setFlight (.ref e) QC) (λJ s3=>RU (model G.prog G.w) a.A (handleBy (.ref e) a.env [.ExceptHandler (QA t) QC z hp]) PQ PE s3) PE {v with heap:=i}:=λd e u i F r=>
  lift (Rz.lands (s:={v with heap:=i}) r (dK.cons F (dw n.frs)) λh2 R2=>
   uB Γ Bo RZ YB V W Ri I T n (f.en L) g m F (eL▸hL) (g.env▸R2) om (o.mono K f) (hX.mono K f))
 refine o7.cases H (λe d h0 M hx f2 ek=>?_) (λe d l E D=>?_) λe d l E D=>?_
 ·exact lift (iw fr U (f.en L).kind n.frs M hx f2 ek λi u F r=>j d e u i F r)
 ·exact lift (Rz.Xh fr U (by rw[g.env];exact D) (dK.cons E (dw n.frs)) λi r=>j d e l i E r)
 ·exact lift (Rz.again U D (j d e l v.heap E (by rw[g.env];exact D)))
end
end
section
open PySem.W PySem.Calls PyProof.Rows
open Classical
theorem zL (f:Str×QQ->List (Str×QK)->Sem (ForInStep (List (Str×QK)))) (hf: ∀n k c,f (n,k) c=if(k==NameKind.free)=QD then(do let a <- cellOf env n;pure (.yield ((n,a)::c))) else pure (.yield c)): ∀(names:List (Str×QQ)) (cs:List (Str×QK)),(∀x∈names,x.2= .free-> ∃a,env.cells.lookup x.1=QA a)->(∀n a,cs.lookup n=QA a->env.cells.lookup n=QA a)->
   ∃cl,forIn names cs f=pure cl/\(∀n a,cl.lookup n=QA a->env.cells.lookup n=QA a)/\(∀n a,cs.lookup n=QA a->cl.lookup n=QA a)/\ ∀x∈names,x.2= .free->(cl.lookup x.1).isSome=QD:=λl=>l.rec (λcs J h=>⟨cs,rfl,h,λJ J e=>e,λJ d=>nomatch d⟩) λv r ih cs t h=>by
  obtain⟨n,k⟩:=v
  rw[List.forIn_cons,hf]
  by_cases j:k= .free
  ·obtain⟨a,s⟩:=t (n,k) (.head _) j
   have h': ∀m b,((n,a)::cs).lookup m=QA b->env.cells.lookup m=QA b:=λm b e=>by
    rw[Ma] at e
    split at e
    ·rename_i o
     cases e
     rw[eq_of_beq o];exact s
    ·exact h m b e
   refine Ca (ih ((n,a)::cs) (λx d=>t x (.tail _ d)) h') λcl e p g q=>(⟨cl,?_,p,λm b u=>?_,λx d i=>?_⟩)
   ·subst j
    simp only[cellOf,s,beq_self_eq_true,if_true,pure_bind]
    exact e
   ·by_cases o:m=n
    ·subst o
     have:=h m b u
     rw[s] at this
     cases this
     exact g m _ (by simp)
    ·exact g m b (by rw[Ma,show(m==n)=QE from by simpa using o];exact u)
   ·rcases tO.mp d with rfl|d
    ·rw[g n a (by simp)];rfl
    ·exact q x d i
  ·refine Ca (ih cs (λx d=>t x (.tail _ d)) h) λcl e p g q=>(⟨cl,?_,p,g,λx d i=>?_⟩)
   ·rw[L4 (by simpa using j),pure_bind]
    exact e
   ·rcases tO.mp d with rfl|d
    ·exact absurd i j
    ·exact q x d i
theorem s7 (h: ∀x∈sc.names,x.2= .free-> ∃a,env.cells.lookup x.1=QA a):
  ∃cl,closureFor sc env=pure cl/\ ∀x∈sc.names,x.2= .free->cl.lookup x.1=env.cells.lookup x.1:=by
 obtain⟨cl,e,d,_,f⟩:=zL (env:=env) (λx c=>if(x.2==NameKind.free)=QD then(do let a <- cellOf env x.1;pure (.yield ((x.1,a)::c))) else pure (.yield c)) (λn k c=>rfl) sc.names [] h (λn a e=>by simp at e)
 refine⟨cl,?_,λx i g=>?_⟩
 ·rw[<- e]
  unfold closureFor
  (rw[bind_pure])
 ·obtain⟨a,b⟩:=Mv.mp (f x i g)
  rw[b,d _ _ b]
theorem qa (g:Str->QQ->QQ): ∀(names:List (Str×QQ)) (n:Str),(names.map λx=>(x.1,g x.1 x.2)).lookup n=(names.lookup n).map (g n):=λl=>l.rec (λn=>rfl) λa r ih n=>by
  obtain⟨m,k⟩:=a
  rw[L0,Ma,Ma]
  by_cases h:n=m
  ·subst h;simp
  ·have b:(n==m)=QE:=by simpa using h
   simp only[b]
   exact ih n
noncomputable def Fl (env:PySem.Env) (n:Str) (k:QQ):QQ:=if(k==NameKind.free&&env.scope.kind== .function&&env.kindOf n==QA .cell) then NameKind.cell else k
theorem fK (sc:QV) (env:PySem.Env) (n:Str):(relabel sc env).names.lookup n=(sc.names.lookup n).map (Fl env n):=by
 rw[<- qa]
 unfold relabel
 congr 1
 refine Ng λx hx=>?_
 obtain⟨m,k⟩:=x
 dsimp only[Fl]
 split<;>rfl
def Pl.Xe (p:Pl) (b:cy) (env:PySem.Env):Pl:={p.add b with env:=env}
theorem qb: ∀{l:List (Str×Nat)},l.lookup n=QA x->(n,x)∈l:=λ{l}=>l.rec nofun λc r ih e=>by
  obtain⟨a,b⟩:=c
  by_cases h:n=a
  ·rw[Ma,h,beq_self_eq_true] at e
   rw[h,<- iN e];exact .head _
  ·rw[Ma,beq_eq_false_iff_ne.mpr h] at e
   exact .tail _ (ih e)
structure nB (c:Cx) (sc:QV) (t:Str) (k:Nat):Prop where
 other: ∀q∈c.vt,q.2=k->sc.names.lookup q.1=QC
 cell: ∀x∈sc.names,x.2≠ .cell
 free: ∀x∈sc.names,x.2= .free->c.sc.names.lookup x.1=QA .cell
 loc: ∀x∈sc.names,x.2= .local->x.1=t\/x.1=(".0" :Str)
 locs: ∀x∈sc.names,x.2= .local->sc.names.lookup x.1=QA .local
 no0:c.vt.lookup (".0" :Str)=QC
 t0:t≠(".0" :Str)
 tl:sc.names.lookup t=QA .local
 kind:sc.kind= .function
section
variable {p:Pl}
theorem C2 (K:nB c sc t k) (En:p.En c):(p.Xe b (compEnvC sc cl C p.env)).En ⟨(t,k)::c.vt,sc⟩ where
 ki n hn:=by
  show(relabel sc p.env).names.lookup n=_
  rw[fK,hn];rfl
 Xs n hn:=absurd rfl (K.cell _ (ix hn))
 kind:=K.kind
 glob:=En.glob
 bi:=En.bi
theorem xl (At:p.At n):(p.Xe b e).At n:=⟨At.frames,At.frame,At.XZ,At.frs,At.depth,At.units,At.hand⟩
theorem xm (K:nB c sc t k) (En:p.En c) (RZ: ∀x∈sc.names,x.2= .free->cl.lookup x.1=p.env.cells.lookup x.1) {w:Ld} {Y:Env} (Vr:dU G p c w Y) {v:V} {val:QG} (r:RO G w v val) {o:Obj} {es:Array QJ} {ep:Nat} {mm:Str->Option QG}
  (hC:(C,o)∈b) (hd:o.data= .dict es ep) (hs:RC es) (hf: ∀name,nsFind es name=mm name) (hm:mm t=QA val):dU G (p.Xe b (compEnvC sc cl C p.env)) ⟨(t,k)::c.vt,sc⟩ w (Y.set k (QA v)):=by
 intro n x A z u
 have g:=i3 z
 have d:=dA z
 have f:=(a4 z).1
 have d:(match n==t with|true=>QA k|false=>c.vt.lookup n)=QA x:=d
 by_cases l:n=t
 ·rw[l,beq_self_eq_true] at d
  rw[<- iN d,List.getElem?_set_self'] at u
  have E:A=v:=by
   revert u
   rcases Y[k]? with _|_
   ·exact λh=>nomatch h
   ·exact λh=>(iN (iN h)).symm
  rw[E]
  refine⟨val,r,.inr (.inl ⟨?_,o,es,ep,mm,(show(C,o)∈(p.add b).pv from Pl.XK hC),hd,hs,hf,l.symm▸hm⟩)⟩
  show(relabel sc p.env).names.lookup n=_
  rw[fK,l,K.tl];rfl
 ·rw[beq_eq_false_iff_ne.mpr l] at d
  have d:c.vt.lookup n=QA x:=d
  obtain⟨kd,s⟩: ∃kd,sc.names.lookup n=QA kd:=by
   have f:(match sc.names.lookup n with|some .local|some .cell|some .free=>QD|_=>QE)=QD:=f
   revert f
   rcases sc.names.lookup n with _|kd
   ·exact λh=>SP h
   ·exact λJ=>⟨kd,rfl⟩
  have f:(match sc.names.lookup n with|some .local|some .cell|some .free=>QD|_=>QE)=QD:=f
  rw[s] at f
  have F:x≠k:=λe=>nomatch (K.other (n,x) (qb d) e).symm.trans s
  have y:Y[x]?=QA (QA A):=(ML (N7 F)).symm.trans u
  have m:=ix s
  rcases kd with _|_|_|_|_
  ·rcases K.loc _ m rfl with e|e
   ·exact absurd e l
   ·rw[show n=(".0" :Str) from e,K.no0] at d;cases d
  ·exact absurd rfl (K.cell _ m)
  ·have i:=K.free _ m rfl
   obtain⟨j,a,ha⟩:=En.Xs n i
   have B:isVar c n x=QD:=by
    show((match c.sc.names.lookup n with|some .local|some .cell|some .free=>QD|_=>QE)&&c.vt.lookup n==QA x&&!(n==("__debug__" :Str))&&!(n==("__classdict__" :Str)))=QD
    rw[show c.sc.names.lookup n=QA .cell from i,d,g.1,g.2,beq_self_eq_true];rfl
   refine aU (Vr n x A B y) λD H I=>(⟨D,H,.inr (.inr ?_)⟩)
   rcases I with⟨q,_⟩|⟨q,_⟩|⟨_,c',o',hc,ho,WS⟩
   ·exact nomatch j.symm.trans q
   ·exact nomatch j.symm.trans q
   ·refine⟨?_,c',o',(RZ _ m rfl).trans hc,Pl.XJ ho,WS⟩
    show(relabel sc p.env).names.lookup n=_\/(relabel sc p.env).names.lookup n=_
    rw[fK,s]
    show QA (if _ then NameKind.cell else NameKind.free)=_\/QA (if _ then NameKind.cell else NameKind.free)=_
    split
    ·exact .inl rfl
    ·exact .inr rfl
  ·exact SP f
  ·exact SP f
end
section
theorem Cy {cl:cw} {elt:E} {cond:Es} {k:Nat} {Y:Env} {vs:List V} {Q:List V->H->Prop} {Z:H} (h:iR (λY Q Z=>wE P cl elt Y Q (λJ J=>False) Z) (λY Q Z=>jm P cl cond Y Q (λJ J=>False) Z) [k] Y vs [] Q Z) {T:Prop}
  (j: ∀F:List V->List V->H->Prop,F vs [] Z->(∀acc Z,F [] acc Z->Q acc Z)->(∀u r acc Z,F (u::r) acc Z->jm P cl cond (Y.set k (QA u)) (λb Z=>match b with
   |true=>wE P cl elt (Y.set k (QA u)) (λu Z=>F r (acc++[u]) Z) (λJ J=>False) Z
   |false=>F r acc Z) (λJ J=>False) Z)->T):T:=
 j (λr acc=>iR (λY Q Z=>wE P cl elt Y Q (λJ J=>False) Z) (λY Q Z=>jm P cl cond Y Q (λJ J=>False) Z) [k] Y r acc Q) h (λJ J h=>h) λJ J J J h=>h
def CompI (G:Gt) (p:Pl) (I D C:QK) (U2:Ld) (vs:List V) (Uo:Nat->QM->Prop) (F:List V->List V->H->Prop) (n:Nat) (s:QH):Prop:=
 ∀T:Prop,(∀j acc ys nn Z w mu oI oC (m':Str->Option QG) es ep,n=vs.length+1-j->j<=vs.length->U2.le w->TQ G (p.add [(I,oI),(D,listOf ys.toArray nn),(C,oC)]) w mu Z s->Uo j s.heap->RP G w acc ys->acc.length<=j->
  oC.data= .dict es ep->RC es->(∀name,nsFind es name=m' name)->F (vs.drop j) acc Z->T)->T
end
section
variable {mg mb:Str->Option QG} (Γ:Gn G mg mb)
include Γ
theorem mS {elt:E} {cond:Es} (XQ:R6 G cl dep elt) (Zy: ∀e r,cond= .cons e r->fE G cl dep e) {c:Cx} {sc:QV} {t:Str} {k:Nat} {tp pos:Pos} {y i:QF} {ifs:List QF} (K:nB c sc t k) (oky:SE nm elt ⟨(t,k)::c.vt,sc⟩ y=QD) (Zg:TV nm cond ⟨(t,k)::c.vt,sc⟩ ifs=QD) (Tp:ifs.length<=1)
  {Ur:List (Str×QK)} {p:Pl} {Y:Env} (At:p.At (4*dep+4)) (En:p.En c) (RZ: ∀x∈sc.names,x.2= .free->Ur.lookup x.1=p.env.cells.lookup x.1) {U2:Ld} (Vr:dU G p c U2 Y)
  {vs:List V} {I:QK} {fp:List QK} {Uo:Nat->QM->Prop} (Sc:Src G p.A U2 vs I fp Uo) (hlen:vs.length<=2000000) {Q:List V->H->Prop} {VX:List cy} {R8:H} {oI:Obj} {s:QH} (S:TQ G (p.add [(I,oI)]) U2 VX R8 s) (st:Uo 0 s.heap)
  (h:iR (λY Q Z=>wE P cl elt Y Q (λJ J=>False) Z) (λY Q Z=>jm P cl cond Y Q (λJ J=>False) Z) [k] Y vs [] Q R8) {RR:QG->QK->RA->QH->Prop} {PE:QG->QH->Prop}
  (hRR: ∀D C s' n rs ys RM w' SA oC m',Q rs RM->U2.le w'->TQ G (p.add [(C,oC),(D,listOf ys.toArray n)]) w' SA RM s'->s'.heap.Ns C m'->RP G w' rs ys->rs.length<=2000000->RR (.ref D) C (.ok .next) s'):
  RU (model G.prog G.w) p.A (newList []) (λacc s3=>RU (model G.prog G.w) p.A (newFunctionEnv sc p.env.globals Ur [] p.env.qual QC .none (QA p.env)) (λcenv s4=>
   bo (model G.prog G.w) p.A (.compStart (.ListComp y [⟨.Name t tp,i,ifs,0⟩] sc pos) 0 (.ref I) acc {cenv with scope:=relabel sc p.env}) (RR acc cenv.locals) s4) PE s3) PE s:=by
 refine lift (M4 (lift (wpAny_newFunctionEnv K.cell (by intro y hy;simp at hy) (λh1 Yl Yp=>?_) K.kind)))
 dsimp only at Yl Yp ⊢
 have S1:=St.Ru (p:=p.add [(I,oI)]) S.1 (listOf #[] 0) rfl
 have UH:=St.Ru (p:=(p.add [(I,oI)]).add [(s.heap.objs.size,listOf #[] 0)]) S1 {cls:= .type "dict",data:= .dict #[]} rfl
 generalize hD:s.heap.objs.size=D at S1 UH Yl Yp ⊢
 obtain⟨C,hC⟩: ∃C,C=(s.heap.push (listOf #[] 0)).objs.size:=⟨_,rfl⟩
 refine mB Yl λoC es0 ep0 hoC hdC hsC hfC=>?_
 have V3:VR G (p.add [(I,oI),(D,listOf #[] 0),(C,oC)]) U2 VX R8 h1:=by
  have:=St.Wb (p:=(p.add [(I,oI)]).add [(D,listOf #[] 0)]) (b:=[]) UH (h':=h1) (o':=oC) (λa x ha e=>Yp.extBut a x ha e) hoC
  rw[Pl.V8,Pl.V8] at this
  refine St.X6 this ?_
  rw[hC]
  exact(List.Perm.swap _ _ _).trans ((List.Perm.cons _ (List.Perm.swap _ _ _)).trans (List.Perm.swap _ _ _))|>.trans (Oa _)
 have aAf:Uo 0 h1:=d8 Sc (.refl _) (.refl _) st S.1 V3
 refine Cy h λF F0 F1 F2=>?_
 have M: ∀s3:QH,s3.heap=h1->Sm G s3->bo (model G.prog G.w) p.A (.compLoop (.ListComp y [⟨.Name t tp,i,ifs,0⟩] sc pos) 0 (.ref I) (.ref D) (compEnvC sc Ur C p.env)) (RR (.ref D) C) s3:=by
  intro s3 hs3 om
  refine kT (CompI G p I D C U2 vs Uo F) (λn s4 hI=>?_) (vs.length+1)
   (λT k=>k 0 [] [] 0 R8 U2 VX oI oC _ es0 ep0 rfl (Mi _) (.refl _) ⟨hs3.symm▸V3,om⟩ (hs3.symm▸aAf) .nil (AS _) hdC hsC hfC F0) (λJ=>rfl)
  generalize notedBy (model G.prog G.w) p.A (compEnvC sc Ur C p.env) (λe s'=>RR (.ref D) C (.error e) s')=Un
  refine hI _ λj acc ys nn Z w mu oI oC m' es ep en hj L XU st4 ra Rw hd hs hf q=>?_
  have inD: ∀{a b c:QK×Obj},b∈[a,b,c]:= .tail _ (.head _)
  have Xe: ∀{a b c:QK×Obj},c∈[a,b,c]:= .tail _ (.tail _ (.head _))
  by_cases O:j<vs.length
  ·refine lift (qK Sc O L XU st4 λu x d h5 tk hu ru z st5=>?_)
   rw[show vs.drop j=u::vs.drop (j+1) from(NW O).trans (By (· ::_) (iN ((As O).symm.trans hu)))] at q
   have U7:=z.1.ZP (q:=(C,oC)) Xe
   refine lift (OQ (wpAny_storeName_local (m:=m') ?_ ⟨oC,es,ep,U7,hd,hs,hf⟩ (λh6 hn6 hs6=>?_) ?_))
   ·show(relabel sc p.env).names.lookup t=_
    rw[fK,K.tl];rfl
   rotate_left
   ·show((relabel sc p.env).kind== .class||((relabel sc p.env).kind== .module&&_))=QE
    rw[show(relabel sc p.env).kind= .function from K.kind];rfl
   refine mB hn6 λf es6 ep6 aBR W Yr X=>?_
   have Z4:VR G (p.add [(I,d),(D,listOf ys.toArray nn),(C,f)]) w mu Z h6:=
    St.X6 (St.Wb (p:=p) (b:=[(I,d),(D,listOf ys.toArray nn)]) (z.1.X6 ((List.Perm.cons _ (List.Perm.swap _ _ _)).trans (List.Perm.swap _ _ _))) (λa x ha e=>hs6.extBut a x ha e) aBR)
     ((List.Perm.swap _ _ _).trans (List.Perm.cons _ (List.Perm.swap _ _ _)))
   have st6:Uo (j+1) h6:=d8 Sc L (.refl _) st5 z.1 Z4
   have V6:=xm (b:=[(I,d),(D,listOf ys.toArray nn),(C,f)]) (C:=C) (o:=f) K En RZ (Vr.mono L) ru Xe W Yr X (L6 rfl)
   have En6:=C2 (C:=C) (b:=[(I,d),(D,listOf ys.toArray nn),(C,f)]) (cl:=Ur) K En
   have q:=F2 _ _ _ _ q
   have hm:vs.length+1-(j+1)<n:=en▸Pk (Nat.lt_succ_of_lt O) (Ox j)
   have fin: ∀(g:QH) (N:Ld) (U:List cy) (B:H),w.le N->TQ G (p.add [(I,d),(D,listOf ys.toArray nn),(C,f)]) N U B g->
     wE P cl elt (Y.set k (QA u)) (λu Z=>F (vs.drop (j+1)) (acc++[u]) Z) (λJ J=>False) B->
     RU (model G.prog G.w) p.A (eval y (compEnvC sc Ur C p.env)) (λx s8'=>RU (model G.prog G.w) p.A (call (.builtin "list.append") [.ref D,x]) (λJ s5=> ∃m,m<n/\CompI G p I D C U2 vs Uo F m s5) Un s8') Un g:=by
    intro g N U B l R A
    refine XQ ⟨(t,k)::c.vt,sc⟩ y oky (p.Xe [(I,d),(D,listOf ys.toArray nn),(C,f)] (compEnvC sc Ur C p.env)) (Y.set k (QA u)) _ _ B N U g _ Un (xl At) En6 (V6.mono l) A R (λu' Qi val s8' w8 mu8 q8' le8 S8 r8'=>?_) (λJ J J J J J J x=>x.elim)
    have S8:TQ G (p.add [(I,d),(D,listOf ys.toArray nn),(C,f)]) w8 mu8 Qi s8':=S8
    refine lift (append_at (S8.1.ZP (q:=(D,listOf ys.toArray nn)) inD) (λh9 hs9 ho9=>?_) (by rw[My,IF,<- ra.length];exact lb (bY Rw (bY hj hlen)) rfl))
    rw[List.push_toArray] at ho9
    have S9:VR G (p.add [(I,d),(D,listOf (ys++[val]).toArray (nn+1)),(C,f)]) w8 mu8 Qi h9:=
     St.X6 (St.Wb (p:=p) (b:=[(I,d),(C,f)]) (S8.1.X6 (List.Perm.swap _ _ _)) (λa x ha e=>hs9.extBut a x ha e) ho9) (List.Perm.swap _ _ _)
    exact⟨_,hm,λT k=>k (j+1) (acc++[u']) (ys++[val]) (nn+1) Qi w8 mu8 d f _ es6 ep6 rfl O (L.trans (l.trans le8)) ⟨S9,S8.2⟩ (d8 Sc L (l.trans le8) st6 Z4 S9) ((ra.mono (l.trans le8)).append (.cons r8' .nil)) (by rw[LU];exact M8 Rw) W Yr X q8'⟩
   rcases ifs with _|⟨ct,r⟩
   ·rcases cond with _|⟨e,r⟩
    ·refine lift (wpAny_tests_nil ?_)
     rw[L6 rfl]
     exact fin _ w mu Z (.refl _) ⟨Z4,z.2⟩ q
    ·exact SP Zg
   ·rcases r with _|⟨_,_⟩
    ·rcases cond with _|⟨e,r⟩
     ·exact SP Zg
     ·refine zH (Zy e r rfl ⟨(t,k)::c.vt,sc⟩ ct (a2 Zg).1 (p.Xe [(I,d),(D,listOf ys.toArray nn),(C,f)] (compEnvC sc Ur C p.env)) (Y.set k (QA u)) _ _ Z w mu _ _ _ (xl At) En6 V6 q ⟨Z4,z.2⟩ (λv b B g N U ht A l R=>?_) (λJ J J J J J J x=>x.elim))
      have R:TQ G (p.add [(I,d),(D,listOf ys.toArray nn),(C,f)]) N U B g:=R
      rcases b with _|_
      ·rw[L4 (by decide)]
       exact⟨_,hm,λT k=>k (j+1) acc ys nn B N U d f _ es6 ep6 rfl O (L.trans l) R (d8 Sc L l st6 Z4 R.1) (ra.mono l) (ME Rw) W Yr X A⟩
      ·rw[L6 rfl];exact fin _ N U B l R A
    ·exact absurd Tp (Nat.not_le.mpr (M8 (M8 (Mi _))))
  ·have e:=L2 hj (MN.mp O)
   rw[e] at st4 Rw q
   refine lift (qJ Sc XU st4 λh4 tk z=>?_)
   rw[O9] at q
   have U7:=z.1.ZP (q:=(C,oC)) (.tail _ (.head _))
   exact hRR D C _ nn acc ys Z w mu oC m' (F1 _ _ q) L ⟨z.1.X6 (List.Perm.swap _ _ _),z.2⟩ ⟨oC,es,ep,U7,hd,hs,hf⟩ ra (bY Rw hlen)
 subst hC
 exact jZ (M _ rfl S.2) (lift (Sc.W.self 0 _ _ _ aAf (M _ rfl S.2)))
end
section
theorem St.Xi {p:Pl} {h h':QM} (S:VR G (p.add ((C,oC)::b)) w mu Z h) (hk: ∀a x,a≠C->h.get? a=QA x->h'.get? a=QA x):VR G (p.add b) w mu Z h':=by
 have d:VR G ((p.add b).add [(C,oC)]) w mu Z h:=by rw[Pl.V8];exact S
 have k:=cC (p:=p.add b) [(C,oC)] w mu (fill h p.frs)
 have j:=(k.map (·.1)).nodup_iff.mp d.nd
 rw[Oy,L0,Mf] at j
 have g:=d.N _ (k.mem_iff.mpr (.head _))
 have c:VR G (p.add b) w mu Z h:=d.Rb
 refine mB c.F.ns λs es ep n l r o=>(c.re (pv':=(p.add b).pv) ⟨⟨s,es,ep,hk _ _ (by exact λe=>g.2.1 e.symm) n,l,r,o⟩,λa x e=>hk a x (by
  intro m
  subst m
  have:=g.2.2
  rw[show G.base.get? a=QC from this] at e;cases e) (c.F.keep a x e),c.F.above⟩ (λq i=>?_) c.nd c.os)
 have:=c.N q i
 refine⟨hk _ _ ?_ this.1,this.2⟩
 intro e
 exact j.1 (by
  have:=Ml (f:=λz:QK×Obj=>z.1) i
  rw[e] at this;exact this)
theorem St.Wn (S:VR G (p.add b) w mu Z h):VR G p ⟨w.am,b++w.fz⟩ mu Z h:=by
 have d:w.le ⟨w.am,b++w.fz⟩:=⟨MG _,λp a=>DO _ a⟩
 have e:=cC (p:=p) b w mu (fill h p.frs)
 have f:(b++(mu.flatten++(w.fz++(p.pv++fill h p.frs)))).Perm (mu.flatten++((b++w.fz)++(p.pv++fill h p.frs))):=by
  rw[LV b]
  exact Mg _ _ _
 have pm:=e.trans f
 exact S.re (pv':=p.pv) S.F (λq c=>S.N q (pm.mem_iff.mpr c)) ((pm.map (·.1)).nodup_iff.mp S.nd) (S.os.mono d)
theorem C1 {a b:Bool} (h:(!a||b)=QD) (ha:a=QD):b=QD:=by
 rw[ha] at h;exact h
theorem kb {α:Type} [BEq α] [LawfulBEq α] {x y:α} {b:Bool} (h:(x !=y||b)=QD) (e:x=y):b=QD:=C1 h (beq_iff_eq.mpr e)
theorem pH {elt it:E} {ks:List Nat} {cond:Es} {c:Cx} {x:QF} (ok:SE nm (.p elt ks it cond) c x=QD) {T:Prop} (j: ∀y t tp i ifs sc pos k,x= .ListComp y [⟨.Name t tp,i,ifs,0⟩] sc pos->ks=[k]->nB c sc t k->
  SE nm it c i=QD->SE nm elt ⟨(t,k)::c.vt,sc⟩ y=QD->TV nm cond ⟨(t,k)::c.vt,sc⟩ ifs=QD->ifs.length<=1->T):T:=by
 revert j
 refine vz x ok λy m sc pos ok=>u1 m ok λg ok=>?_
 obtain⟨o,i,ifs,z⟩:=g
 have l:z=0:=eq_of_beq (a2 ok).1
 rw[l]
 refine gC o (a2 ok).2 λt tp ok=>u1 ks ok λk ok=>?_
 have d:=a6 ok
 have a:=a6 d.1
 have f:=a2 a.1
 have b:=L9.mp a.2.2.2.2.1
 refine λj=>j y t tp i ifs sc pos k rfl rfl ⟨λq n e=>?_,λx h=>?_,λx h e=>?_,λx h e=>?_,λx h e=>?_,eU a.2.2.2.2.2,bne_iff_ne.mp d.2.1,eq_of_beq d.2.2.1,eq_of_beq d.2.2.2.1⟩ f.2 a.2.1 a.2.2.1 (de a.2.2.2.1)
 ·exact eU (kb (L9.mp f.1 q n) e)
 ·exact bne_iff_ne.mp (a4 (b x h)).1
 ·exact eq_of_beq (kb (a4 (b x h)).2.1 e)
 ·have:=(a4 (b x h)).2.2.1
  rw[Bool.or_assoc] at this
  exact o2 (kb this e) (λh=> .inl (eq_of_beq h)) λh=> .inr (eq_of_beq h)
 ·exact eq_of_beq (kb (a4 (b x h)).2.2.2 e)
theorem nh (Qh:SE nm it c i=QD): ∀z,foldedSetIterable i env z=pure z:=by
 intro z
 rcases i<;>first|rfl|exact SP (Y7.symm.trans Qh)
end
section
variable {mg mb:Str->Option QG} (Γ:Gn G mg mb) (Bo:hV G) (RZ:T9 G cl dep)
include Γ
theorem qE {elt it:E} {ks:List Nat} {cond:Es} (Ut:R6 G cl dep it) (XQ:R6 G cl dep elt) (Zy: ∀e r,cond= .cons e r->fE G cl dep e):R6 G cl dep (.p elt ks it cond):=by
 intro c x ok p Y Q X Z w mu s H PE d f B h S F hX
 refine pH ok λy t tp i ifs sc pos k ex W K m j V M=>?_
 rw[W] at h
 rw[ex]
 refine aU (s7 (sc:=sc) (env:=p.env) (λx hx hk=>(f.Xs _ (K.free x hx hk)).2)) λUr U R=>?_
 rw[eval_ListComp]
 refine v5 (use:=QC) rfl (nh m) U K.kind K.locs (Ut c _ m p Y _ X Z w mu s _ PE d f B h S (λv R8 val s1 U2 VX q u J r=>?_) hX)
 refine aU q λvs hi q=>(lift (lC d.hand hi r J λI fp Uo oI h' L N st b=>(mS Γ XQ Zy K j V M d f R (B.mono u) L b (s:={s1 with heap:=h'}) N st q (RR:=λg C=>we (model G.prog G.w) p.A PE QC H g C) λD C s' n rs ys RM l SA oC m' q' P o hn rr hr=>(⟨m',hn,λz T=>?_⟩))))
 have O:=(St.Xi o.1 (h':=z) λa x ha e=>T.extBut a x ha e).Wn
 have A:l.le ⟨l.am,[(D,listOf ys.toArray n)]++l.fz⟩:=⟨MG _,λp hp=>DO _ hp⟩
 exact F _ _ (.ref D) {s' with heap:=z} _ _ q' (u.trans (P.trans A)) ⟨O,o.2⟩ (.list (.head _) (rr.mono A) hr)
omit Γ in
theorem gF.aAD (O:gF G (p.add [(C,oC)]) c w Y) (Z6:oC.data= .dict es0 ep0) (UC:C≠p.L):gF G p c w Y:=by
 refine⟨O.env,O.locs,λn x v l j=>?_,O.one,O.cell,O.YI,O.sc⟩
 refine aU (O.vars n x v l j) λval r m=>(⟨val,r,?_⟩)
 have pm:=p.XW [(C,oC)]
 have h:p.env.locals=p.L:=O.locs
 rcases m with a|⟨a,o,es,ep,k,b,d,i⟩|⟨a,f,o,g,b,d⟩
 ·exact .inl a
 ·rcases Mq.mp (pm.mem_iff.mp b) with b|b
  ·have e:=By Prod.fst (LS.mp b)
   have e:p.env.locals=C:=e
   exact absurd (e.symm.trans h) UC
  ·exact .inr (.inl ⟨a,o,es,ep,k,b,d,i⟩)
 ·rcases Mq.mp (pm.mem_iff.mp b) with b|b
  ·have e:=By Prod.snd (LS.mp b)
   have e:o=oC:=e
   rw[e,Z6] at d;cases d
  ·exact .inr (.inr ⟨a,f,o,g,b,d⟩)
include Bo RZ
theorem oB {v:Nat} {elt it:E} {ks:List Nat} {cond:Es} (Ut:R6 G cl dep it) (XQ:R6 G cl dep elt) (Zy: ∀e r,cond= .cons e r->fE G cl dep e):d9 G cl dep (.a v (.p elt ks it cond)):=by
 intro c x ok p Y N R B C' X Z w mu s PQ PE A j O h S P' hX
 refine mW x ok λn H y' o Uu VZ J=>(pH VZ λy t tp i W sc pos k ey ek K Qh oky Zg Tp=>(Oh (p:=λb=>swapsWith y' (QA (.Name n H)) o.line p.env=pure b) (ey▸⟨_,rfl⟩) λb hb=>?_))
 rcases b with _|_
 ·have h:wE P cl (.p elt ks it cond) Y (λu Z=>N (Y.set v (QA u)) Z) (λc=>X c Y) Z:=h
  refine hH (qE Γ Ut XQ Zy c _ VZ p Y _ _ Z w mu s _ PE A j O.vars h S (λu RM val g l SA q le f r=>?_) (hX.expr O)) hb
  exact lift (dH j (O.mono le) f Uu r λVA p' sm O' UT=>P'.next _ _ _ p' _ _ q le sm O' UT)
 ·rw[exec_Assign_Name_used _ _ _ _ hb,ey]
  rw[ek] at h
  refine aU (s7 (sc:=sc) (env:=p.env) (λx hx hk=>(j.Xs _ (K.free x hx hk)).2)) λUr ZV WM=>(ar (zE (ar ?_)))
  show RU _ _ (do let _ <- comprehension (.ListComp y [⟨.Name t tp,i,W,0⟩] sc pos) sc p.env _ (newList []) QE (eval i p.env) (QA (assign (.Name n H) p.env))) _ _ s
  refine ar (bR (v5 (use:=QA (assign (.Name n H) p.env)) (Q:=λJ g=>PQ .next g) rfl (nh Qh) ZV K.kind K.locs
   (Ut c _ Qh p Y _ _ Z w mu s _ PE A j O.vars h S (λv R8 val s1 U2 VX q TM S1 r=>?_) (hX.expr O))) (λJ g hq=>az (az hq)) λJ J e=>e)
  refine aU q λvs hi q=>(lift (lC A.hand hi r S1 λI fp Uo oI h' Sc UH st m=>(mS Γ XQ Zy K oky Zg Tp A j WM (O.mono TM).vars Sc m (s:={s1 with heap:=h'}) UH st q (RR:=λL C=>we (model G.prog G.w) p.A PE (QA (assign (.Name n H) p.env)) (λJ g=>PQ .next g) L C) λD C g nn rs ys RM l SA d m' q' VL f hn rr hr=>?_)))
  have U:=f.1.ZP (q:=(C,d)) (.head _)
  refine mB hn λoC' es ep V T hs hf=>?_
  rw[<- iN (U.symm.trans V)] at T
  have M:C≠p.L:=(f.N (C,d) (f.UP (Pl.XK (.head _)))).2.1
  have V3:TQ G (p.add [(C,d)]) ⟨l.am,[(D,listOf ys.toArray nn)]++l.fz⟩ SA RM g:=by
   have:=f.1.X6 (List.Perm.swap (D,listOf ys.toArray nn) (C,d) [])
   rw[show([(D,listOf ys.toArray nn),(C,d)]:cy)=[(D,listOf ys.toArray nn)]++[(C,d)] from rfl,<- Pl.V8] at this
   exact⟨this.Wn,f.2⟩
  have VF:l.le ⟨l.am,[(D,listOf ys.toArray nn)]++l.fz⟩:=⟨MG _,λp hp=>DO _ hp⟩
  have Sr:=TM.trans (VL.trans VF)
  refine lift (OQ (dH (p:=p.add [(C,d)]) (j.add _) ((O.mono Sr).add _) V3 Uu (.list (.head _) (rr.mono VF) hr) λs4 p4' sm O4 F=>(aU sm.Z2 λq4' z e=>?_)))
  rw[e] at O4 F
  refine⟨m',⟨d,es,ep,F.1.ZP (q:=(C,d)) (.head _),T,hs,hf⟩,λVE Yo=>?_⟩
  exact P'.next _ _ {s4 with heap:=VE} q4' _ _ q' Sr z (O4.aAD T (by rw[z.L];exact M)) ⟨St.Xi (b:=[]) F.1 (h':=VE) λa x ha e=>Yo.extBut a x ha e,F.2⟩
end
end
section
set_option tactic.hygienic true
open PySem.W PySem.Calls PyProof.Rows
open Classical
noncomputable def r5:E->Bool
 | .and J=>QE| .or J=>QE| .not J=>QE| .c .. =>QE| .d .. =>QE
 |_=>QD
theorem WJ (hp:r5 e=QD):(∀a b d,SE nm e c (.BoolOp a b d)=QE)/\(∀y p,SE nm e c (.UnaryOp .Not y p)=QE)/\(∀a b d p,SE nm e c (.Compare a b d p)=QE)/\ ∀a b d p,SE nm e c (.IfExp a b d p)=QE:=by
 rcases e<;>first|exact SP hp|exact⟨λJ J J=>rfl,λJ J=>rfl,λJ J J J=>rfl,λJ J J J=>rfl⟩
theorem u5 (hp:r5 e=QD) (ok:SE nm e c x=QD) (env:PySem.Env) (wh:Sem QG):isTrue x env wh=(do let v <- wh;standAt x.pos;holding [v] (truthy v)):=by
 rcases x<;>try rfl
 case BoolOp=>exact SP (((WJ hp).1 _ _ _).symm.trans ok)
 case Compare=>exact SP (((WJ hp).2.2.1 _ _ _ _).symm.trans ok)
 case IfExp=>exact SP (((WJ hp).2.2.2 _ _ _ _).symm.trans ok)
 case UnaryOp op y pos=>rcases op<;>first|rfl|exact SP (((WJ hp).2.1 _ _).symm.trans ok)
section
variable {mg mb:Str->Option QG} (Γ:Gn G mg mb) (Bo:hV G) (RZ:T9 G cl dep)
structure oZ (G:Gt) (cl:cw) (dep:Nat) (es:Es):Prop where
 arg:f5 G cl dep es
 all:vB (R6 G cl dep) es
 and:kC G cl dep es
 or:pd G cl dep es
 aAg:iJ G cl dep es
 tor:kD G cl dep es
 ps:pf G cl dep es
 one: ∀e r,es= .cons e r->fE G cl dep e
include Γ Bo RZ
theorem ej (hp:r5 e=QD) (h:R6 G cl dep e):R6 G cl dep e/\fE G cl dep e:=⟨h,sx Γ RZ h λc x a env b=>u5 hp a env b⟩
theorem mE:oZ G cl dep .nil:=⟨vk Γ RZ,trivial,sf Γ RZ,vm Γ RZ,qC Γ RZ,sv Γ RZ,vn Γ RZ,λJ J e=>SP (By (λe=>Es.casesOn (motive_2:=λJ=>Bool) e QE λJ J=>QD) e)⟩
theorem kF {e:E} {es:Es} (a:R6 G cl dep e/\fE G cl dep e) (b:oZ G cl dep es):oZ G cl dep (.cons e es):=
 ⟨sg Γ RZ a.1 b.arg,⟨a.1,b.all⟩,qz Γ RZ a.1 b.and,sj Γ RZ a.1 b.or,oA Γ RZ a.2 b.aAg,qD Γ RZ a.2 b.tor,so Γ RZ a.1 b.ps,λe' r h=>by cases h;exact a.2⟩
theorem bg (e:E):R6 G cl dep e/\fE G cl dep e:=
 E.rec (motive_1:=λe=>R6 G cl dep e/\fE G cl dep e) (motive_2:=oZ G cl dep)
  (ej Γ Bo RZ rfl (eH Γ RZ).1)
  (ej Γ Bo RZ rfl (eH Γ RZ).2.1)
  (ej Γ Bo RZ rfl (eH Γ RZ).2.2.1)
  (λi=>ej Γ Bo RZ rfl (A4 Γ RZ i))
  (λn=>ej Γ Bo RZ rfl ((eH Γ RZ).2.2.2.1 n))
  (λb=>ej Γ Bo RZ rfl ((eH Γ RZ).2.2.2.2 b))
  (λi=>ej Γ Bo RZ rfl (A9 Γ RZ i))
  (λg=>ej Γ Bo RZ rfl (yH Γ RZ g))
  (λe f j=>ej Γ Bo RZ rfl (yD Γ RZ j.1))
  (λop a b h l=>ej Γ Bo RZ rfl (A0 Γ RZ h.1 l.1))
  (λop a b h l=>⟨A2 Γ RZ h.1 l.1,yB Γ RZ h.1 l.1⟩)
  (λo1 o2 a b c h l u=>⟨yF Γ RZ h.1 l.1 u.1,vp Γ RZ h.1 l.1 u.1⟩)
  (λe j=>⟨A6 Γ RZ j.1,yC Γ RZ j.2⟩)
  (λes d=>⟨AZ Γ RZ d.and,yA Γ RZ d.aAg⟩)
  (λes d=>⟨DB Γ RZ d.or,AY Γ RZ d.tor⟩)
  (λa b h l=>ej Γ Bo RZ rfl (A7 Γ RZ h.1 l.1))
  (λe lo hi j s q=>ej Γ Bo RZ rfl (vq Γ RZ j.1 s.1 q.1))
  (λes d=>ej Γ Bo RZ rfl (A8 Γ RZ d.arg))
  (λv es d=>ej Γ Bo RZ rfl (yI Γ RZ d.arg))
  (λw vs J t=>ej Γ Bo RZ rfl (yG Γ RZ t.ps))
  (λf es d=>ej Γ Bo RZ rfl (yE Γ RZ d.arg))
  (λk v es d=>ej Γ Bo RZ rfl (A5 Γ RZ d.arg))
  (λe m es j d=>ej Γ Bo RZ rfl (yJ Γ RZ j.1 d.arg))
  (λe a j h=>ej Γ Bo RZ rfl (sA Γ Bo RZ j.1 h.1))
  (λe a j h=>ej Γ Bo RZ rfl (sC Γ Bo RZ j.1 h.1))
  (λe a j h=>ej Γ Bo RZ rfl (A3 Γ RZ j.1 h.1))
  (λb es d=>ej Γ Bo RZ rfl (DA Γ Bo RZ d.arg))
  (λelt w it cond p r o=>ej Γ Bo RZ rfl (qE Γ r.1 p.1 o.one))
  (mE Γ Bo RZ) (λJ J=>kF Γ Bo RZ) e
theorem nx (es:Es):oZ G cl dep es:=Es.ind (mE Γ Bo RZ) (λe J=>kF Γ Bo RZ (bg Γ Bo RZ e)) es
theorem j6 (v:Nat) (e:E):d9 G cl dep (.a v e):=by
 by_cases h:kh e=QE
 ·exact qG Γ Bo RZ h (bg Γ Bo RZ e).1
 ·rcases e<;>first
   |exact absurd rfl h
   |exact oB Γ Bo RZ (bg Γ Bo RZ _).1 (bg Γ Bo RZ _).1 (nx Γ Bo RZ _).one
omit Γ Bo RZ in
theorem Sh (h:jQ s=QE):s= .k\/ ∃x,s= .freeze x:=by
 rcases s<;>first|exact SP h.symm|exact .inl rfl|exact .inr ⟨_,rfl⟩
theorem ny (b:Ss):eP G cl dep b:=
 Ss.rec (motive_1:=λs=>jQ s=QD->d9 G cl dep s) (motive_2:=eP G cl dep)
  (λv e J=>j6 Γ Bo RZ v e)
  (λxs e J=>qI Γ Bo RZ (bg Γ Bo RZ e).1)
  (λe f v J=>oH Γ Bo RZ (bg Γ Bo RZ e).1 (bg Γ Bo RZ v).1)
  (λe i v J=>oJ Γ Bo RZ (bg Γ Bo RZ e).1 (bg Γ Bo RZ i).1 (bg Γ Bo RZ v).1)
  (λx op e J=>qH Γ Bo RZ (bg Γ Bo RZ e).1)
  (λe f op v J=>oD Γ Bo RZ (bg Γ Bo RZ e).1 (bg Γ Bo RZ v).1)
  (λe i op v J=>oE Γ Bo RZ (bg Γ Bo RZ e).1 (bg Γ Bo RZ i).1 (bg Γ Bo RZ v).1)
  (λe i J=>oG Γ Bo RZ (bg Γ Bo RZ e).1 (bg Γ Bo RZ i).1)
  (λe J=>vr Γ Bo RZ (bg Γ Bo RZ e).1)
  (λc a b j d J=>yL Γ Bo RZ (bg Γ Bo RZ c).2 j d)
  (λc b d J=>sE Γ Bo RZ (bg Γ Bo RZ c).2 d)
  (λxs k b d J=>yK Γ Bo RZ (bg Γ Bo RZ k).1 d)
  (λe J=>yM Γ Bo RZ (bg Γ Bo RZ e).1)
  (λc es J=>sD Γ (nx Γ Bo RZ es).all)
  (λb cs h d J J=>yN Γ Bo RZ d)
  (λJ=>(gA Γ Bo RZ).1)
  (λJ=>(gA Γ Bo RZ).2.1)
  (λJ=>(gA Γ Bo RZ).2.2.1)
  (λh=>SP h)
  (λx h=>SP h)
  (vo Γ Bo RZ)
  (λs r l g=>by
  rcases h:jQ s with _|_
  ·rcases Sh h with e|⟨x,e⟩
   ·rw[e];exact λc xs ok p Y N R B C X Z w mu s PQ PE At En O h=>h.elim
   ·rw[e];exact oz Γ Bo RZ g
  ·exact su Γ Bo RZ h (l h) g) b
end
theorem zI {mg mb:Str->Option QG} (Γ:Gn G mg mb) (Bo:hV G) (fns: ∀f fn,P.fns f=QA fn-> ∃as ds body sc vs,FnAt G f fn as ds body sc vs): ∀d,T9 G (RL P d) d:=λl=>l.rec (λJ J J J J h=>h.elim) λd ih=>λf vs Q X Z h p w mu s xs R a S j b c=>by
  refine dM h λfn Y g e i=>?_
  obtain⟨as,ds,body,sc,Ui,F⟩:=fns f fn g
  exact v9 Γ F (ny Γ Bo (ih) fn.body) e i a S j b c
end
section
open PySem.W PySem.Calls PyProof.Rows
namespace FB
theorem plain:PlainAttrs "bytearray" :=
 ⟨⟨"bytearray.__getattribute__",by rw[Mr,L1];kernel_rfl,by decide+kernel⟩,by rw[Mr,L1];kernel_rfl⟩
theorem aAc:RG "bytearray" "append" "bytearray.append" :=
 .of (owner:= "bytearray") (n:= "append") (by rw[Mr,L1];kernel_rfl) (by decide+kernel) (by decide+kernel) (by decide+kernel)
  (by first|exact .inl (by decide+kernel)|exact .inr (by decide+kernel)) (by rw[Nl];kernel_rfl)
theorem aAd:RG "bytearray" "extend" "bytearray.extend" :=
 .of (owner:= "bytearray") (n:= "extend") (by rw[Mr,L1];kernel_rfl) (by decide+kernel) (by decide+kernel) (by decide+kernel)
  (by first|exact .inl (by decide+kernel)|exact .inr (by decide+kernel)) (by rw[Nl];kernel_rfl)
theorem aB6:typeOf (.builtin "bytearray.append")=pure (.type "method_descriptor"):=by show builtinType _=_;skip;kernel_rfl
theorem aB7:typeOf (.builtin "bytearray.extend")=pure (.type "method_descriptor"):=by show builtinType _=_;skip;kernel_rfl
theorem aAu:entryFor table "bytearray.append" =QA Builtin.«bytearray.append»:=N8 (by kernel_rfl)
theorem aAv:entryFor table "bytearray.extend" =QA Builtin.«bytearray.extend»:=N8 (by kernel_rfl)
theorem aAn (a b:QG):argsOk "bytearray.append" ⟨[a,b],[]⟩:=by
 delta argsOk;skip;kernel_rfl
theorem aAo (a b:QG):argsOk "bytearray.extend" ⟨[a,b],[]⟩:=by
 delta argsOk;skip;kernel_rfl
theorem Ql:typeLookup (.type "bytes") "__buffer__" =pure (QA (.builtin "bytes.__buffer__")):=by rw[Mr,L1];kernel_rfl
theorem aAs:typeLookup (.type "bytes") "__release_buffer__" =pure QC:=by rw[Mr,L1];kernel_rfl
theorem Zq:typeLookup (.type "bytearray") "__buffer__" =pure (QA (.builtin "bytearray.__buffer__")):=by rw[Mr,L1];kernel_rfl
theorem aBd:typeLookup (.type "bytearray") "__release_buffer__" =pure (QA (.builtin "bytearray.__release_buffer__")):=by rw[Mr,L1];kernel_rfl
theorem aAA:isSubtype (.type "bytes") (.type "bytes")=pure QD:=by rw[Nl];kernel_rfl
theorem Wg:isSubtype (.type "bytearray") (.type "bytearray")=pure QD:=by rw[Nl];kernel_rfl
theorem aAr:typeLookup (.type "bytes") "__bytes__" =pure (QA (.builtin "bytes.__bytes__")):=by rw[Mr,L1];kernel_rfl
theorem aBb:typeLookup (.type "bytearray") "__bytes__" =pure QC:=by rw[Mr,L1];kernel_rfl
theorem aBc:typeLookup (.type "bytearray") "__index__" =pure QC:=by rw[Mr,L1];kernel_rfl
theorem Zr:mroOf (.type "bytearray")=pure [.type "bytearray",.type "object"]:=by rw[mroOf_type];kernel_rfl
theorem HZ:typeLookup (.type "bytearray") "__new__" =pure (QA (.builtin "bytearray.__new__")):=by rw[Mr,L1];kernel_rfl
theorem aAe:RG "bytearray" "__init__" "bytearray.__init__" :=
 .of (owner:= "bytearray") (n:= "__init__") (by rw[Mr,L1];kernel_rfl) (by decide+kernel) (by decide+kernel) (by decide+kernel)
  (by first|exact .inl (by decide+kernel)|exact .inr (by decide+kernel)) (by rw[Nl];kernel_rfl)
theorem called:TypeCalled "bytearray" "bytearray.__new__" "bytearray.__init__" :=
 ⟨by decide+kernel,by decide+kernel,⟨_,_,Zr⟩,madeBy_type Zr HZ (by decide+kernel),by decide+kernel,Wg,aAe⟩
theorem aAj:checkTypeCall "bytearray" ⟨[],[]⟩=pure ():=by kernel_rfl
theorem Ul:checkBuiltinCall "bytearray.__new__" ⟨[.type "bytearray"],[]⟩=pure ():=by kernel_rfl
theorem eNew:entryFor table "bytearray.__new__" =QA Builtin.«list.__new__»:=
 entryFor_alias (id':= "list.__new__") (by rw[fastTable_eq_tree];kernel_rfl) (by first|rfl|decide+kernel) (by decide+kernel) (by rw[fastTable_eq_tree];kernel_rfl)
theorem aB2:plainId "bytearray.__new__" =QD:=by decide+kernel
theorem aAw:entryFor table "bytearray.__init__" =QA Builtin.«bytearray.__init__»:=N8 (by kernel_rfl)
theorem aAp (a:QG):argsOk "bytearray.__init__" ⟨[a],[]⟩:=by
 delta argsOk;skip;kernel_rfl
theorem aAB:Builtin.Bytes.bindOptional "bytearray.__init__" "bytearray" ["source","encoding","errors"] [] []=pure [QC,QC,QC]:=by kernel_rfl
set_option maxRecDepth 1000000 in
set_option maxHeartbeats 4000000 in
theorem Zj:("bytearray.__new__".splitOn ".__new__").headD "" = "bytearray" :=by simp+decide [String.splitOn,String.splitOnAux]
end FB
section
variable {prog:QX} {w:QW} {A:QN} {E:QG->QH->Prop} {s:QH}
theorem nJ {T:String} {name:Str} {id:String} {b:QP} {self:QG} {rest:List QG} {Q:QG->QH->Prop} (Yb: ∀args,Tame (.builtin id args)) (h:RG T name id) (hT:s.TypeIs self T)
  (hb:entryFor table id=QA b) (ha:argsOk id ⟨self::rest,[]⟩)
  (hc:RU (model prog w) A.in1 (b ⟨self::rest,[]⟩) (λfin s'=> ∃v,fin= .done (.ret v)/\Q v s') E s):RU (model prog w) A (call (.builtin id) (self::rest)) Q E s:=by
 refine ic (jV (PL h.plain _) (lift (h.check _ _ _ _ _ _ _ _ hT ha (eX (Yb _) hb ?_))))
 rw[Around.under_plainId h.plain _]
 refine bR hc (λfin s' h'=>?_) λJ J h'=>h'
 obtain⟨v,rfl,a⟩:=h';exact a
theorem kO (h:Q QE s):RU (model prog w) A (Builtin.Bytes.exported v) Q E s:=λb p hΓ c d=>by
 show Q (((b.code,p)::b.below).any _) s
 rw[List.any_eq_false.mpr λx a=>Bool.not_eq_true _▸(tO.mp a).elim (λe=>by rw[e];exact c v p) λa=>d x a v x.2]
 exact h
theorem hJ (ho:s.heap.get? a=QA {cls:= .type "bytearray",data:= .bytearray b 0}) (h:Q () s):RU (model prog w) A (Builtin.Bytes.checkResize (.ref a)) Q E s:=by
 refine ar (ar (kO ?_))
 refine ar ?_
 refine ar (lift (OP ho ?_))
 exact az (az (az h))
theorem oS (ho:s.heap.get? a=QA {cls:= .type "bytearray",data:= .bytearray b 0}) (hz:(f b).size<=sizeLine)
  (h: ∀h',Heap.SameBut a s.heap h'->h'.get? a=QA {cls:= .type "bytearray",data:= .bytearray (f b) 0}->h'=s.heap.update a (Obj.mapBytearray f)->Q () {s with heap:=h'}):wpAny (model prog w) A (Builtin.Bytes.write (.ref a) f) Q E s:=by
 refine oF (OP ho ?_)
 refine oF (wpAny_update ho ?_)
 have c:=Ol (Obj.mapBytearray f) ho rfl
 refine wpAny_lookBehind c ?_ (h _ (Heap.SameBut.update ..) c rfl)
 show(if(f b).size>sizeLine then QA "bytearray:memory" else QC)=QC
 rw[L4 (by exact RW 6871964844096 rfl hz)]
theorem Ei {a:QK} {b:List UInt8} {i:Int} {t:Tok} {Q:QG->QH->Prop} (ho:s.heap.get? a=QA (br b)) (hl:b.length<=1000000) (h0:0<=i) (h1:i<256)
  (h: ∀h' tk,Heap.SameBut a s.heap h'->h'.get? a=QA (br (b++[UInt8.ofNat i.toNat]))->Q .none {s with heap:=h',toks:=tk}):RU (model prog w) A (call (.builtin "bytearray.append") [.ref a,.int i t]) Q E s:=by
 refine nJ yT FB.aAc ⟨_,ho,rfl⟩ FB.aAu (FB.aAn _ _) ?_
 refine ar (cG (a:=(.ref a,.int i t)) rfl ?_)
 refine ar ?_
 refine ar (cG (a:=i) rfl ?_)
 rw[L4 (by simp;exact⟨d3 0x70280441C0A011 rfl h0,d3 0x71100091281C4400244A rfl h1⟩)]
 refine ar (az (az ?_))
 refine ar (hJ ho ?_)
 refine ar (lift (oS ho ?_ λh' d c hq=>?_))
 ·rw[My,Array.size_push,IF];exact aX 0x1801000000150481050001803D09004400 rfl hl
 ·refine lift (LW ⟨_,rfl,?_⟩)
  exact h h' s.toks d (by rw[c];simp[br])
theorem uh {T owner id:String} {name:String} (hT:s.TypeIs v T) (hl:typeLookup (.type T) (name:Str)=pure (QA (.builtin id))) (he:id.endsWith ("." ++name)=QD) (ho:id.dropRight (name.length+1)=owner)
  (hs:isSubtype (.type T) (.type owner)=pure QD) (h:Q QD s):wpAny (model prog w) A (Builtin.Bytes.slotIsOwn v name) Q E s:=by
 refine oF (MD hT hl ?_)
 dsimp only
 rw[he,ho]
 exact NO hT hs h
theorem vR: "bytes.__buffer__".endsWith ("." ++ "__buffer__")=QD:=by decide+kernel
theorem vQ: "bytes.__buffer__".dropRight ("__buffer__".length+1)= "bytes" :=by decide+kernel
theorem DP: "bytearray.__buffer__".endsWith ("." ++ "__buffer__")=QD:=by decide+kernel
theorem DN: "bytearray.__buffer__".dropRight ("__buffer__".length+1)= "bytearray" :=by decide+kernel
theorem Dw: "bytearray.__release_buffer__".endsWith ("." ++ "__release_buffer__")=QD:=by decide+kernel
theorem Dv: "bytearray.__release_buffer__".dropRight ("__release_buffer__".length+1)= "bytearray" :=by decide+kernel
theorem DL (hT:s.TypeIs v "bytes") (h:Q QE s):wpAny (model prog w) A (Builtin.Bytes.ownRelease v) Q E s:=by
 refine oF (oF (MD hT FB.aAs ?_))
 exact LW (LW h)
theorem y2 (hT:s.TypeIs v "bytearray") (h:Q QE s):wpAny (model prog w) A (Builtin.Bytes.ownRelease v) Q E s:=by
 exact oF (uh hT FB.aBd Dw Dv FB.Wg (LW h))
theorem DJ {id:String} {x:Array UInt8} {t:Tok} {full:Bool} {Q:Option (Array UInt8)->QH->Prop} (h:Q (QA x) s):wpAny (model prog w) A (Builtin.Bytes.buffer? id (.bytes x t) full) Q E s:=by
 have b:s.TypeIs (.bytes x t) "bytes" :=Md _ _ _
 refine oF (MD b FB.Ql ?_)
 refine oF (uh b FB.Ql vR vQ FB.aAA ?_)
 refine oF (MD b FB.Ql ?_)
 refine oF (DL b ?_)
 exact oF (Mz (a:=x) rfl (LW h))
theorem y1 (ho:s.heap.get? a=QA {cls:= .type "bytearray",data:= .bytearray b n}) (h:Q b s):wpAny (model prog w) A (Builtin.Bytes.payload (.ref a)) Q E s:=by
 refine oF (oF (OP ho ?_))
 exact LW (LW h)
theorem DK {id:String} {a:QK} {b:Array UInt8} {full:Bool} {Q:Option (Array UInt8)->QH->Prop} (ho:s.heap.get? a=QA {cls:= .type "bytearray",data:= .bytearray b 0}) (h:Q (QA b) s):
  wpAny (model prog w) A (Builtin.Bytes.buffer? id (.ref a) full) Q E s:=by
 have c:s.TypeIs (.ref a) "bytearray" :=⟨_,ho,rfl⟩
 refine oF (MD c FB.Zq ?_)
 refine oF (uh c FB.Zq DP DN FB.Wg ?_)
 refine oF (MD c FB.Zq ?_)
 refine oF (y2 c ?_)
 exact oF (y1 ho (LW h))
theorem DM {id:String} {x:Array UInt8} {t:Tok} {fl:Int} {Q:Option (Array UInt8×Option QG)->QH->Prop} (h:Q (QA (x,QC)) s):wpAny (model prog w) A (Builtin.Bytes.takeBufferQuiet? id (.bytes x t) fl) Q E s:=by
 have a:s.TypeIs (.bytes x t) "bytes" :=Md _ _ _
 refine oF (wpAny_attempt ?_)
 refine oF (MD a FB.Ql ?_)
 refine oF (uh a FB.Ql vR vQ FB.aAA ?_)
 refine oF (MD a FB.Ql ?_)
 exact oF (DJ (LW (LW h)))
theorem Ek {a:QK} {b x:List UInt8} {t:Tok} {Q:QG->QH->Prop} (ho:s.heap.get? a=QA (br b)) (hl:b.length+x.length<=1000000)
  (h: ∀h' tk,Heap.SameBut a s.heap h'->h'.get? a=QA (br (b++x))->Q .none {s with heap:=h',toks:=tk}):RU (model prog w) A (call (.builtin "bytearray.extend") [.ref a,.bytes x.toArray t]) Q E s:=by
 refine nJ yU FB.aAd ⟨_,ho,rfl⟩ FB.aAv (FB.aAo _ _) ?_
 have g:s.TypeIs (.bytes x.toArray t) "bytes" :=Md _ _ _
 refine ar (cG (a:=(.ref a,.bytes x.toArray t)) rfl ?_)
 refine ar (lift (MD g FB.Ql ?_))
 refine ar (lift (PZ ?_))
 refine ar (lift (y1 ho ?_))
 refine ar (lift (DM ?_))
 have d: ∀c:QH,c.heap=s.heap->c.heap.get? a=QA (br b):=λc e=>by rw[e];exact ho
 have f:wpAny (model prog w) A.in1 (Builtin.Bytes.write (.ref a) (· ++x.toArray)) (λJ c=>wpAny (model prog w) A.in1 (ret .none) (λd c=> ∃v,d= .done (.ret v)/\Q v c) E c) E s:=by
  refine oS ho ?_ λh' j i hq=>?_
  ·rw[My,Array.size_append,IF,IF];exact RW 0x1801000000150481001803D09004412040 rfl hl
  ·refine LW ⟨_,rfl,?_⟩
   exact h h' s.toks j (by rw[i];simp[br])
 show RU _ _ (if(!x.toArray.isEmpty)=QD then Builtin.Bytes.checkResize (.ref a)>>=λJ=>(Builtin.Bytes.write (.ref a) (· ++x.toArray)>>=λJ=>ret .none) else Builtin.Bytes.write (.ref a) (· ++x.toArray)>>=λJ=>ret .none) _ _ _
 split
 ·exact ar (hJ ho (ar (bR (lift f) (λJ J q=>lift q) λJ J e=>e)))
 ·exact ar (bR (lift f) (λJ J q=>lift q) λJ J e=>e)
theorem Hq (h:Q (.bytes x t) s):codeAny (model prog w) A (.call (.builtin "bytes.__new__") ⟨[.type "bytes",.bytes x t],[]⟩) (wants Q E) s:=by
 refine PW ?_
 refine oF (Mz (F.bm_newCall _) (LW ⟨PL F.bm_plain _,PV F.bm_entry ?_⟩))
 have b:s.TypeIs (.bytes x t) "bytes" :=Md _ _ _
 refine oF (Mz (a:=QD) rfl ?_)
 refine Om rfl ?_
 refine oF (Mz F.bm_sub ?_)
 refine Om rfl ?_
 refine oF (Mz (F.bm_bind _) ?_)
 refine oF (Mz (a:=()) rfl ?_)
 refine oF (Mz (a:=()) rfl ?_)
 refine Om rfl ?_
 refine oF (MD b FB.aAr ?_)
 refine oF (PZ ?_)
 refine oF (wpAny_typeOf b ?_)
 refine P1 (by decide) ?_
 refine P1 (by decide) ?_
 first
  |exact LW h
  |exact oF (LW (LW h))
theorem GQ {x:Array UInt8} (h:Q (.bytes x t) s):wpAny (model prog w) A (call (.type "bytes") [.bytes x t]) Q E s:=by
 refine callType_codes (Q₁:=λa b=>b.TypeIs a "bytes" /\Q a b) Pn (F.bm_typeCall _) F.entry_object_init (Hq ⟨Md _ _ _,h⟩) λa b c=>?_
 exact⟨c.1,F.args_object_init_2 a _,object_init_meets Pn.init.lookup Pn.made (by decide) prog w A.in1 _ b ⟨c.1,rfl,c.2⟩⟩
theorem EV {a:QK} {b:Array UInt8} {Q:QG->QH->Prop} (ho:s.heap.get? a=QA {cls:= .type "bytearray",data:= .bytearray b 0}) (hz:b.size<=sizeLine) (h: ∀t tk,Q (.bytes b t) {s with toks:=tk}):
  codeAny (model prog w) A (.call (.builtin "bytes.__new__") ⟨[.type "bytes",.ref a],[]⟩) (wants Q E) s:=by
 refine PW ?_
 refine oF (Mz (F.bm_newCall _) (LW ⟨PL F.bm_plain _,PV F.bm_entry ?_⟩))
 have c:s.TypeIs (.ref a) "bytearray" :=⟨_,ho,rfl⟩
 refine oF (Mz (a:=QD) rfl ?_)
 refine Om rfl ?_
 refine oF (Mz F.bm_sub ?_)
 refine Om rfl ?_
 refine oF (Mz (F.bm_bind _) ?_)
 refine oF (Mz (a:=()) rfl ?_)
 refine oF (Mz (a:=()) rfl ?_)
 refine Om rfl ?_
 refine oF (MD c FB.aBb ?_)
 refine oF (oF ?_)
 refine oF (OP ho ?_)
 refine LW (LW ?_)
 refine Om rfl ?_
 refine oF (MD c FB.aBc ?_)
 refine P1 rfl ?_
 first
  |show wpAny _ _ (Builtin.Bytes.buffer? "bytes.__new__" (.ref a) QD>>=_) _ _ _
  |(refine oF ?_;show wpAny _ _ (Builtin.Bytes.buffer? "bytes.__new__" (.ref a) QD>>=_) _ _ _)
 refine oF (DK ho ?_)
 refine oF (PZ ?_)
 refine oF (wpAny_mkBytes ?_ hz)
 refine P1 (by decide) ?_
 first
  |exact LW (h _ _)
  |exact oF (LW (LW (h _ _)))
  |exact LW (LW (h _ _))
  |trace_state
theorem Ej {a:QK} {b:Array UInt8} {Q:QG->QH->Prop} (ho:s.heap.get? a=QA {cls:= .type "bytearray",data:= .bytearray b 0}) (hz:b.size<=sizeLine) (h: ∀t tk,Q (.bytes b t) {s with toks:=tk}):
  wpAny (model prog w) A (call (.type "bytes") [.ref a]) Q E s:=by
 refine callType_codes (Q₁:=λc d=>d.TypeIs c "bytes" /\Q c d) Pn (F.bm_typeCall _) F.entry_object_init (EV ho hz λt tk=>⟨Md _ _ _,h t tk⟩) λc d e=>?_
 exact⟨e.1,F.args_object_init_2 c _,object_init_meets Pn.init.lookup Pn.made (by decide) prog w A.in1 _ d ⟨e.1,rfl,e.2⟩⟩
theorem E0 (h:Q₁ (.ref s.heap.objs.size) {s with heap:=s.heap.push (br [])}):
  codeAny (model prog w) A (.call (.builtin "bytearray.__new__") ⟨[.type "bytearray"],[]⟩) (wants Q₁ E) s:=by
 refine PW ?_
 refine oF (Mz FB.Ul (LW ⟨PL FB.aB2 _,codeAny_builtin_stack FB.eNew rfl λp st=>?_⟩))
 have c:=FB.Wg
 have b:=FB.Zj
 obtain⟨hp,g,d,tk,os⟩:=s
 dsimp only
 rw[b]
 refine oF (Mz (a:=QD) rfl ?_)
 refine Om rfl ?_
 refine oF (Mz c ?_)
 refine Om rfl ?_
 refine oF (Mz (a:=Data.bytearray #[]) rfl ?_)
 refine P1 (by decide+kernel) ?_
 refine oF (M4 ?_ (Mi _))
 exact LW h
theorem yW {h:QM} (ho:h.get? a=QA o) (hf:f o=o):h.update a f=h:=by
 obtain⟨b,l⟩:=h
 have e:b[a]?=QA o:=by
  revert ho
  delta Heap.get?
  dsimp only
  generalize b[a]?=x
  rcases x with _|⟨_,_,d,_⟩
  ·exact id
  ·cases d<;>first|exact fX|exact id
 simp only[Heap.update,Heap.mk.injEq,and_true]
 apply Array.ext_getElem?
 intro i
 rw[Array.getElem?_modify]
 split
 ·rename_i c;subst c;rw[e];simp[hf]
 ·rfl
theorem Co {a:QK} {Q:QG->QH->Prop} (ho:s.heap.get? a=QA (br [])) (h:Q .none s):
  RU (model prog w) A (Builtin.«bytearray.__init__» ⟨[.ref a],[]⟩) (λfin s'=> ∃v,fin= .done (.ret v)/\Q v s') E s:=by
 have d:s.TypeIs (.ref a) "bytearray" :=⟨_,ho,rfl⟩
 delta Builtin.«bytearray.__init__»
 refine ar (lift (y2 d ?_))
 refine ar (cG FB.aAB ?_)
 refine ar (cG (a:=()) rfl ?_)
 refine ar (cG (a:=()) rfl ?_)
 refine ar ?_
 refine ar (kO ?_)
 refine ar ?_
 refine ar (lift (OP ho ?_))
 refine az (az ?_)
 refine ar (lift (oS (b:= #[]) ho (by rw[My];decide) λh' hs hg c=>?_))
 refine ar (az ?_)
 rw[yW ho (f:=Obj.mapBytearray λJ=> #[]) rfl] at c
 subst c
 exact az ⟨_,rfl,h⟩
theorem Cq {Q:QG->QH->Prop} (h:Q (.ref s.heap.objs.size) {s with heap:=s.heap.push (br [])}):
  RU (model prog w) A (call (.type "bytearray") []) Q E s:=by
 have a:=FB.called.made
 have f:=FB.called.sub
 have h1:=FB.called.notType
 have h2:=FB.called.canCreate
 refine ic (bJ (λJ J=>rfl) ?_)
 refine az ⟨Code.quiet_builtin _ (by decide+kernel),eX (uc _) F.entry_type_call ?_⟩
 delta Builtin.«type.__call__»
 refine ar (cG FB.aAj ?_)
 refine ar (cG FB.Zr ?_)
 refine ar (cG a ?_)
 refine ar (az ?_)
 have c:(s.heap.push (br [])).get? s.heap.objs.size=QA (br []):=MP _ rfl
 have b:({s with heap:=s.heap.push (br [])}:QH).TypeIs (.ref s.heap.objs.size) "bytearray" :=⟨_,c,rfl⟩
 refine ar (bO (lift (wpAny_call (codeAny_mono (E0 (Q₁:=λv d=>v= .ref s.heap.objs.size/\d={s with heap:=s.heap.push (br [])}) (E:=λJ J=>False) ⟨rfl,rfl⟩) λr d z=>?_))))
 rcases r with e|(v|_|_|_)<;>first|exact z.elim|skip
 obtain⟨rfl,rfl⟩:=z
 refine ar (lift (NO b f ?_))
 refine ar (bO ?_)
 refine ar (lift (MD b FB.called.init.lookup ?_))
 refine bO (ar (cG (FB.called.init.bind _) ?_))
 refine ar (nJ yV FB.aAe b FB.aAw (FB.aAp _) (Co c ?_))
 exact az (az h)
end
theorem Ea (G:Gt):hV G where
 aAa _ _ _ _ _ _ _ ho q:=lift (PD ⟨_,ho,rfl⟩ FB.plain FB.aAc FB.aB6 (λJ e=>by cases e;exact⟨_,ho,rfl⟩) q)
 aAb _ _ _ _ _ _ _ ho q:=lift (PD ⟨_,ho,rfl⟩ FB.plain FB.aAd FB.aB7 (λJ e=>by cases e;exact⟨_,ho,rfl⟩) q)
 app _ _ _ _ _ _ _ _ ho hl h0 h1 q:=Ei ho hl h0 h1 q
 ext _ _ _ _ _ _ _ _ ho hl q:=Ek ho hl q
 make _ _ s _ q:=Cq (q s.toks)
 RT _ _ _ _ _ _ ho hz q:=lift (Ej ho (by rw[My,IF];exact aX 0x1801000000150001807A12004400 rfl hz) q)
 bb _ _ s _ _ t q:=lift (GQ (q t s.toks))
end
section
set_option tactic.hygienic true
def Hd (P:Prop):Prop:=P
theorem Hd.o {P:Prop} (h:Hd P):P:=h
theorem HI (p d n:Nat): ∃c,Hd (c=max (d-p) n)/\n<=c/\d<=p+c/\(c=n\/p+c=d)/\max (d:Int) ((p+n:Nat):Int)=(p+c:Nat):=by
 rcases OZ d (p+n) with h|h
 ·exact⟨n,(MZ (Nd.mpr h)).symm,AS _,h,.inl rfl,M9 (MJ.mpr h)⟩
 ·have e:=Nat.add_sub_cancel' (bY (LX p n) h)
  have k:n<=d-p:=Nat.le_sub_of_add_le (NA p n▸h)
  exact⟨d-p,(N3 k).symm,k,MB e.symm,.inr e,by rw[e];exact N1 (MJ.mpr h)⟩
theorem HK (p com y bf l:Nat) (h:com<=bf): ∃t c,Hd (c=min (com+y/2%7) (bf+l))/\com<=t/\t<com+7/\com<=c/\c<=bf+l/\((p+com:Nat):Int)+(y:Int)/2%7=(p+t:Nat)/\min ((p+t:Nat):Int) ((p+bf:Nat)+l)=(p+c:Nat):=by
 have r: ∀m n:Nat,m<=n->p+m<=p+n:=λm n h=>BY h p
 refine⟨com+y/2%7,min (com+y/2%7) (bf+l),rfl,LX _ _,Nat.add_lt_add_left (M6 _ (by decide)) _,Nat.le_min.mpr ⟨LX _ _,bY h (LX _ _)⟩,Mm _ _,by rw[<- NT];rfl,?_⟩
 generalize com+y/2%7=t
 rw[show((p+bf:Nat):Int)+l=(p+(bf+l):Nat) from By Int.ofNat (NT p bf l)]
 rcases OZ t (bf+l) with h|h
 ·rw[IS h];exact Pj (MJ.mpr (r _ _ h))
 ·rw[O8 h];exact Int.min_eq_right (MJ.mpr (r _ _ h))
theorem HJ (n l x:Nat):max (n:Int) ((l:Int)-x)=(max n (l-x):Nat):=by
 rcases OZ x l with h|h
 ·rw[<- Int.ofNat_sub h]
  rcases OZ n (l-x) with k|k
  ·rw[MZ k];exact M9 (MJ.mpr k)
  ·rw[N3 k];exact N1 (MJ.mpr k)
 ·rw[Nat.sub_eq_zero_of_le h,N3 (Mi _)];exact N1 (Qc (Pa (MJ.mpr h)) (oR n))
theorem HH (p a b:Nat):max ((p+a:Nat):Int) ((p+b:Nat):Int)=(p+max a b:Nat):=by
 rcases OZ a b with h|h
 ·rw[MZ h];exact M9 (MJ.mpr (BY h p))
 ·rw[N3 h];exact N1 (MJ.mpr (BY h p))
theorem VK (h:a<=b) (k:Nat.ble b c=QD):a<=c:=bY h (aT k)
theorem FD (h:a<b) (k:Nat.ble b c=QD):a<=c:=bY (MK h) (aT k)
theorem qX (h:a<=b) (k:Nat.ble (b+1) c=QD):a<c:=dO (OR h) (aT k)
noncomputable def ii {α:Type} (f:Int->Int->Option α) (a b:V):Option α:=match a with
 | .int i=>match b with
  | .int j=>f i j
  |_=> .none
 |_=> .none
theorem ly (h:ii f a b=QA r): ∃i j,a= .int i/\b= .int j/\f i j=QA r:=by
 rcases a<;>try (cases h;done)
 rcases b<;>first|exact⟨_,_,rfl,rfl,h⟩|(cases h;done)
def yb (op:BO) (a b:V):Option V:=match op with
 | .add=>ii (λi j=>QA (.int (i+j))) a b
 | .sub=>ii (λi j=>QA (.int (i-j))) a b
 | .mod=>ii (λi j=>if 0<j then QA (.int (i%j)) else .none) a b
 | .fdiv=>ii (λi j=>if 0<j/\j<1000000000 then QA (.int (i/j)) else .none) a b
 |_=> .none
noncomputable def nn (t:Bool) (a b:V):Option Bool:=match b with
 | .none=>match a with
  | .none=>QA t
  | .int J=>QA (!t)
  | .U1 J J0=>QA (!t)
  | .RT J=>QA (!t)
  | .tup J=>QA (!t)
  |_=> .none
 |_=> .none
def tX (op:CO) (a b:V):Option Bool:=match op with
 | .lt=>ii (λi j=>QA (decide (i<j))) a b
 | .le=>ii (λi j=>QA (decide (i<=j))) a b
 | .gt=>ii (λi j=>QA (decide (j<i))) a b
 | .ge=>ii (λi j=>QA (decide (j<=i))) a b
 | .eq=>ii (λi j=>QA (decide (i=j))) a b
 | .ne=>ii (λi j=>QA (decide (i≠j))) a b
 | .is=>nn QD a b
 | .TL=>nn QE a b
 | .isin=> .none
def ye (Z:H):V->Option V
 | .RT b=>QA (.int b.length)
 |v=>(TP Z v).map λxs=> .int xs.length
noncomputable def mv:List (V×V)->Nat->Option V
 |[],J=> .none
 |(.str k,v)::r,n=>if k=n then QA v else mv r n
 |_::_,_=> .none
noncomputable def fY:List (V×V)->Bool
 |[]=>QD
 |(.str _,_)::r=>fY r
 |_::_=>QE
theorem oK {x:V×V} {r:List (V×V)} {T:Prop} (h:fY (x::r)=QD) (j: ∀k,x.1= .str k->fY r=QD->T):T:=by
 obtain⟨a,v⟩:=x
 cases a<;>first|exact Bool.noConfusion (show QE=QD from h)|exact j _ rfl h
theorem ua: ∀(kvs:List (V×V)) (n:Nat),fY kvs=QD->T4 kvs (.str n)=mv kvs n:=λl=>l.rec (λn J=>rfl) λx r a n h=>oK h λk b h=>by
  obtain⟨_,v⟩:=x
  subst b
  have ih:=a n h
  dsimp only[T4] at ih ⊢
  dsimp only[mv]
  by_cases e:k=n
  ·subst e;simp
  ·simp[e,ih]
theorem oM: ∀(kvs:List (V×V)) (n:Nat),fY kvs=QD->ir kvs (.str n):=λl=>l.rec (λn J=>⟨by(intro z;cases z),by simp⟩) λx r ih n h=>oK h λk b h=>⟨by(intro z;cases z),λp a=>by
  obtain⟨_,v⟩:=x
  subst b
  rcases tO.mp a with rfl|a
  ·rfl
  ·exact(ih n h).2 p a⟩
def Gb (vs:List V) (i:V):Option V:=match i with
 | .int k=>(idx vs.length k).bind λj=>vs[j]?
 |_=> .none
def je (Z:H) (a i:V):Option V:=match a with
 | .tup vs=>Gb vs i
 | .list vs=>Gb vs i
 | .RT b=>match i with
  | .int k=>if 0<=k then(idx b.length k).bind λj=>(b[j]?).map λx=> .int x.toNat else .none
  |_=> .none
 | .ref r=>match i with
  | .str n=>match Z[r]? with
   |some (.dict kvs)=>if fY kvs=QD then mv kvs n else .none
   |_=> .none
  | .int k=>match Z[r]? with
   |some (.list vs)=>(idx vs.length k).bind λj=>vs[j]?
   |_=> .none
  |_=> .none
 |_=> .none
mutual
noncomputable def pe (p:gX):E->Env->H->Option V
 | .none,J,J0=>QA .none
 | .tt,J,J0=>QA (.bool QD)
 | .ff,J,J0=>QA (.bool QE)
 | .int i,J,J0=>QA (.int i)
 | .str n,J,J0=>QA (.str n)
 | .RT b,J,J0=>QA (.RT b)
 | .v x,Y,J=>match Y[x]? with
  |some (QA v)=>QA v
  |_=> .none
 | .g g,J,J0=>p.glob g
 | .t e f,Y,Z=>(pe p e Y Z).bind λv=>V9 Z v f
 | .b op a b,Y,Z=>(pe p a Y Z).bind λu=>(pe p b Y Z).bind λv=>yb op u v
 | .c op a b,Y,Z=>(pe p a Y Z).bind λu=>(pe p b Y Z).bind λv=>(tX op u v).map .bool
 | .not e,Y,Z=>(pe p e Y Z).bind λv=>(truth Z v).map λb=> .bool (!b)
 | .tup es,Y,Z=>(jH p es Y Z).map .tup
 | .list fr es,Y,Z=>match fr with
  |true=>(jH p es Y Z).map .list
  |false=> .none
 | .y b es,Y,Z=>match b with
  | .len=>(Iz p es Y Z).bind (ye Z)
  |_=> .none
 | .sub e i,Y,Z=>(pe p e Y Z).bind λu=>(pe p i Y Z).bind λv=>je Z u v
 | .and es,Y,Z=>lO p es Y Z
 | .or es,Y,Z=>u4 p es Y Z
 |J,J0,J1=> .none
noncomputable def Iz (p:gX):Es->Env->H->Option V
 | .nil,J,J0=> .none
 | .cons e es,Y,Z=>match es with
  | .nil=>pe p e Y Z
  | .cons J J0=> .none
noncomputable def lO (p:gX):Es->Env->H->Option V
 | .nil,J,J0=>QA (.bool QD)
 | .cons e es,Y,Z=>match es with
  | .nil=>pe p e Y Z
  | .cons J J0=>(pe p e Y Z).bind λv=>(truth Z v).bind λb=>match b with
   |true=>lO p es Y Z
   |false=>QA v
noncomputable def u4 (p:gX):Es->Env->H->Option V
 | .nil,J,J0=>QA (.bool QE)
 | .cons e es,Y,Z=>match es with
  | .nil=>pe p e Y Z
  | .cons J J0=>(pe p e Y Z).bind λv=>(truth Z v).bind λb=>match b with
   |true=>QA v
   |false=>u4 p es Y Z
noncomputable def jH (p:gX):Es->Env->H->Option (List V)
 | .nil,J,J0=>QA []
 | .cons e es,Y,Z=>(pe p e Y Z).bind λv=>(jH p es Y Z).map (v:: ·)
end
theorem bind_some (h:o.bind f=QA b): ∃a,o=QA a/\f a=QA b:=by
 cases o with
 |none=>cases h
 |some a=>exact⟨a,rfl,h⟩
theorem dG (h:o.map f=QA b): ∃a,o=QA a/\f a=b:=by
 cases o with
 |none=>cases h
 |some a=>exact⟨a,rfl,iN h⟩
theorem sq (Q:α->Prop) (e:QA x=QA r) (q:Q r):Q x:=(iN e).symm▸q
theorem gp [Decidable c] (h:(if c then QA x else .none)=QA r):c/\x=r:=by
 by_cases a:c
 ·rw[L6 a] at h;exact⟨a,iN h⟩
 ·rw[L4 a] at h;cases h
theorem yc (h:yb op a b=QA r) (q:Q r):dm Z op a b Q:=by
 rcases op<;>try (cases h;done)
 ·refine dM (ly h) λi j c d e=>?_
  rw[c,d];exact sq Q e q
 ·refine dM (ly h) λi j c d e=>?_
  rw[c,d];exact sq Q e q
 ·refine dM (ly h) λi j c d e=>?_
  rw[c,d];exact⟨(gp e).1.1,(gp e).1.2,(gp e).2.symm▸q⟩
 ·refine dM (ly h) λi j c d e=>?_
  rw[c,d];exact⟨(gp e).1,(gp e).2.symm▸q⟩
theorem xV (h:nn t a b=QA r):b= .none/\(match (generalizing:=false) a with| .none=>t|_=>!t)=r:=by
 rcases b<;>try (cases h;done)
 rcases a<;>first|(cases h;done)|exact⟨rfl,iN h⟩
theorem yd (h:tX op a b=QA r) (q:Q r):cP Z op a b Q:=by
 rcases op<;>try (cases h;done)
 case is=>
  obtain⟨c,e⟩:=xV h
  rw[c];rw[<- e] at q
  rcases a<;>exact q
 case TL=>
  obtain⟨c,e⟩:=xV h
  rw[c];rw[<- e] at q
  rcases a<;>exact q
 all_goals
  refine dM (ly h) λi j d c e=>?_
  rw[d,c]
  exact sq Q e q
theorem yf (h:ye Z v=QA r) (q:Q r Z):sW Z .len [v] Q:=by
 have a: ∀{o:Option (List V)},o.map (λxs=>V.int xs.length)=QA r-> ∃xs,o=QA xs/\Q (.int xs.length) Z:=λh=>by
  exact aU (dG h) λxs b e=>(⟨xs,b,e.symm▸q⟩)
 rcases v<;>first|exact a h|exact sq (λr=>Q r Z) h q
theorem sU (h:Gb vs i=QA r): ∃k j,i= .int k/\idx vs.length k=QA j/\vs[j]?=QA r:=by
 rcases i<;>try (cases h;done)
 exact aU (bind_some h) λj a h=>(⟨_,j,rfl,a,h⟩)
theorem yg (h:je Z a i=QA r) (q:Q r):lV Z a i Q:=by
 rcases a<;>try (cases h;done)
 case tup vs=>
  refine dM (sU h) λk j e c h=>?_
  rw[e];exact⟨j,_,c,h,q⟩
 case list vs=>
  refine dM (sU h) λk j e c h=>?_
  rw[e];exact⟨j,_,c,h,q⟩
 case RT b=>
  rcases i<;>try (cases h;done)
  case int k=>
   have h':(if 0<=k then(idx b.length k).bind λj=>(b[j]?).map λx=>V.int x.toNat else .none)=QA r:=h
   by_cases f:0<=k
   ·rw[L6 f] at h'
    exact aU (bind_some h') λj c h'=>(aU (dG h') λx l e=>(⟨j,x,f,c,l,e.symm▸q⟩))
   ·rw[L4 f] at h';cases h'
 case ref k=>
  obtain⟨o,g⟩: ∃o,Z[k]?=o:=⟨_,rfl⟩
  rcases i<;>try (cases h;done)
  case int n=>
   have h:(match (generalizing:=false) Z[k]? with
    |some (.list vs)=>(idx vs.length n).bind λj=>vs[j]?
    |_=> .none)=QA r:=h
   show(match (generalizing:=false) Z[k]? with
    |some (.list vs)=> ∃j v,idx vs.length n=QA j/\vs[j]?=QA v/\Q v
    |some (.dict kvs)=>ir kvs (.int n)/\ ∃v,T4 kvs (.int n)=QA v/\Q v
    |_=>False)
   rw[g] at h ⊢
   rcases o with _|_|_|_|_|_<;>try (cases h;done)
   exact aU (bind_some h) λj c h=>(⟨j,_,c,h,q⟩)
  case str n=>
   have h:(match (generalizing:=false) Z[k]? with
    |some (.dict kvs)=>if fY kvs=QD then mv kvs n else .none
    |_=> .none)=QA r:=h
   show(match (generalizing:=false) Z[k]? with
    |some (.list vs)=>False
    |some (.dict kvs)=>ir kvs (.str n)/\ ∃v,T4 kvs (.str n)=QA v/\Q v
    |_=>False)
   rw[g] at h ⊢
   rcases o with _|_|kvs|_|_|_<;>try (cases h;done)
   have h:(if fY kvs=QD then mv kvs n else .none)=QA r:=h
   by_cases d:fY kvs=QD
   ·rw[L6 d] at h
    exact⟨oM kvs n d,r,(ua kvs n d).trans h,q⟩
   ·rw[L4 d] at h;cases h
section
structure vD (p:gX) (cl:cw) (e:E):Prop where
 ok: ∀{Y:Env} {Z:H} {v:V} {Q:V->H->Prop} {X:Nat->H->Prop},pe p e Y Z=QA v->Q v Z->wE p cl e Y Q X Z
structure o8 (p:gX) (cl:cw) (es:Es):Prop where
 one: ∀{Y:Env} {Z:H} {v:V} {Q:List V->H->Prop} {X:Nat->H->Prop},Iz p es Y Z=QA v->Q [v] Z->js p cl es Y Q X Z
 and: ∀{Y:Env} {Z:H} {v:V} {Q:V->H->Prop} {X:Nat->H->Prop},lO p es Y Z=QA v->Q v Z->mz p cl es Y Q X Z
 or: ∀{Y:Env} {Z:H} {v:V} {Q:V->H->Prop} {X:Nat->H->Prop},u4 p es Y Z=QA v->Q v Z->B3 p cl es Y Q X Z
 all: ∀{Y:Env} {Z:H} {vs:List V} {Q:List V->H->Prop} {X:Nat->H->Prop},jH p es Y Z=QA vs->Q vs Z->js p cl es Y Q X Z
theorem qm {e:E} {es:Es} (ih:vD p cl e) (YH:o8 p cl es):o8 p cl (.cons e es):=by
 refine⟨λ{Y Z v Q X} h q=>?_,λ{Y Z v Q X} h q=>?_,λ{Y Z v Q X} h q=>?_,λ{Y Z vs Q X} h q=>?_⟩
 ·rcases es with _|⟨_,_⟩
  ·exact ih.ok h q
  ·cases h
 ·rcases es with _|⟨_,_⟩
  ·exact ih.ok h q
  ·refine aU (bind_some h) λu a h=>(aU (bind_some h) λb c h=>(ih.ok a ⟨b,c,?_⟩))
   rcases b with _|_
   ·exact sq (λr=>Q r Z) h q
   ·exact YH.and h q
 ·rcases es with _|⟨_,_⟩
  ·exact ih.ok h q
  ·refine aU (bind_some h) λu a h=>(aU (bind_some h) λb c h=>(ih.ok a ⟨b,c,?_⟩))
   rcases b with _|_
   ·exact YH.or h q
   ·exact sq (λr=>Q r Z) h q
 ·exact aU (bind_some h) λu a h=>(aU (dG h) λvs d e=>(ih.ok a (YH.all d (e.symm▸q))))
theorem dJ (hn: ∀Y Z,pe p e Y Z= .none):vD p cl e:=⟨λ{Y Z J J J} h J=>fX ((hn Y Z).symm.trans h)⟩
theorem gS (hn: ∀Y Z,pe p e Y Z=QA u) (hw: ∀Y Q X Z,Q u Z->wE p cl e Y Q X Z):vD p cl e:=⟨λ{Y Z J Q X} h q=>hw Y Q X Z (iN ((hn Y Z).symm.trans h)▸q)⟩
theorem t5:o8 p cl .nil:=⟨λh J=>(fX h),λ{Y Z v Q X} h q=>sq (λr=>Q r Z) h q,λ{Y Z v Q X} h q=>sq (λr=>Q r Z) h q,λ{Y Z v Q X} h q=>sq (λr=>Q r Z) h q⟩
theorem yh (e:E):vD p cl e:=
 E.rec (motive_1:=vD p cl) (motive_2:=o8 p cl)
  (gS (λJ J=>rfl) λJ J J J q=>q)
  (gS (λJ J=>rfl) λJ J J J q=>q)
  (gS (λJ J=>rfl) λJ J J J q=>q)
  (λi=>gS (λJ J=>rfl) λJ J J J q=>q)
  (λi=>gS (λJ J=>rfl) λJ J J J q=>q)
  (λi=>gS (λJ J=>rfl) λJ J J J q=>q)
  (λx=>⟨λ{Y Z v Q X} h q=>by
  show(match (generalizing:=false) Y[x]? with
   |some (QA v)=>Q v Z
   |_=>False)
  have h:(match (generalizing:=false) Y[x]? with
   |some (QA v)=>QA v
   |_=> .none)=QA v:=h
  revert h
  rcases Y[x]? with _|_|w
  ·exact fX
  ·exact fX
  ·exact λh=>sq (λr=>Q r Z) h q⟩)
  (λg=>⟨λh q=>⟨_,h,q⟩⟩)
  (λe f j=>⟨λh q=>aU (bind_some h) λu c h=>j.ok c ⟨_,h,q⟩⟩)
  (λop a b l m=>⟨λh q=>aU (bind_some h) λu c h=>aU (bind_some h) λw k h=>l.ok c (m.ok k (yc h q))⟩)
  (λop a b l m=>⟨λh q=>aU (bind_some h) λu c h=>aU (bind_some h) λw k h=>aU (dG h) λr n e=>l.ok c (m.ok k (yd n (e.symm▸q)))⟩)
  (λJ J J J J J J J=>dJ λJ J=>rfl)
  (λe j=>⟨λh q=>aU (bind_some h) λu c h=>aU (dG h) λr n s=>j.ok c ⟨_,n,s.symm▸q⟩⟩)
  (λes d=>⟨λh q=>d.and h q⟩)
  (λes d=>⟨λh q=>d.or h q⟩)
  (λe i j y=>⟨λh q=>aU (bind_some h) λu c h=>aU (bind_some h) λw k h=>j.ok c (y.ok k (yg h q))⟩)
  (λJ J J J J J=>dJ λJ J=>rfl)
  (λes d=>⟨λh q=>aU (dG h) λvs o e=>d.all o (e.symm▸q)⟩)
  (λt es d=>⟨λh q=>by
  rcases t with _|_
  ·cases h
  ·refine aU (dG h) λvs o e=>?_
   exact d.all o (e.symm▸q)⟩)
  (λJ J J J=>dJ λJ J=>rfl)
  (λJ J J=>dJ λJ J=>rfl)
  (λJ J J J=>dJ λJ J=>rfl)
  (λJ J J J J=>dJ λJ J=>rfl)
  (λJ J J J=>dJ λJ J=>rfl)
  (λJ J J J=>dJ λJ J=>rfl)
  (λJ J J J=>dJ λJ J=>rfl)
  (λb es d=>⟨λh q=>by
  rcases b<;>try (cases h;done)
  refine aU (bind_some h) λu c h=>?_
  exact d.one c (yf h q)⟩)
  (λJ J J J J J J=>dJ λJ J=>rfl)
  t5 (λJ J=>qm) e
theorem AL (es:Es):o8 p cl es:=Es.ind t5 (λe J=>qm (yh e)) es
theorem ae (e:E) (h:pe p e Y Z=QA v) (q:Q v Z):wE p cl e Y Q X Z:=(yh e).ok h q
theorem lR (es:Es) (h:jH p es Y Z=QA vs) (q:Q vs Z):js p cl es Y Q X Z:=(AL es).all h q
end
end
section
section
variable (p:gX) (cl:cw) (N B C:Env->H->Prop) (R:V->H->Prop) (X:Nat->Env->H->Prop) (Q:V->H->Prop) (R3:Nat->H->Prop) (Y:Env)
abbrev KX:Nat->H->Prop:=λc=>X c Y
abbrev KY:Nat->Env->H->Prop:=λc J Z=>R3 c Z
abbrev KN:Env->H->Prop:=λJ Z=>Q .none Z
abbrev KE (K:H->Prop):V->H->Prop:=λJ Z=>K Z
abbrev KA (r:Ss) (x:Nat):V->H->Prop:=λv Z=>a8 p cl r N R B C X (Y.set x (QA v)) Z
abbrev KI (a b r:Ss):V->H->Prop:=λv Z=> ∃b',truth Z v=QA b'/\match b' with
   |true=>a8 p cl a (a8 p cl r N R B C X) R B C X Y Z
   |false=>a8 p cl b (a8 p cl r N R B C X) R B C X Y Z
abbrev KU (r:Ss) (xs:List Nat):V->H->Prop:=λv Z=>1<xs.length/\jT xs v Y λY=>a8 p cl r N R B C X Y Z
abbrev II (op:BO) (u:V):V->H->Prop:=λv Z=>dm Z op u v λr=>Q r Z
abbrev KB (op:BO) (b:E):V->H->Prop:=λu Z=>wE p cl b Y (II Q op u) R3 Z
abbrev IJ (op:CO) (u:V):V->H->Prop:=λv Z=>cP Z op u v λr=>Q (.bool r) Z
abbrev KC (op:CO) (b:E):V->H->Prop:=λu Z=>wE p cl b Y (IJ Q op u) R3 Z
abbrev KO:V->H->Prop:=λv Z=> ∃b,truth Z v=QA b/\Q (.bool (!b)) Z
abbrev KT:List V->H->Prop:=λvs Z=>Q (.tup vs) Z
abbrev KP (b:BI):List V->H->Prop:=λvs Z=>sW Z b vs Q
abbrev KL (f:Nat):List V->H->Prop:=λvs Z=>cl f vs Q R3 Z
abbrev KM (f:Nat) (v:V):List V->H->Prop:=λvs Z=>cl f (v::vs) Q R3 Z
abbrev KD (Q:List V->H->Prop) (v:V):List V->H->Prop:=λvs Z=>Q (v::vs) Z
abbrev IK (es:Es) (Q:List V->H->Prop):V->H->Prop:=λv Z=>js p cl es Y (KD Q v) R3 Z
abbrev KF (bd:Ss) (xs:List Nat) (r:Ss):V->H->Prop:=λv Z=> ∃vs,items v=QA vs/\TG (λN' B' C' Y Z=>a8 p cl bd N' R B' C' (λJ J J=>False) Y Z) xs vs (a8 p cl r N R B C X) Y Z
end
section
theorem af (h:pe p e Y Z=QA (.ref r)) (hu:Z[r]?=QA (.inst k fs)) (hf:iV fs f=QA u):pe p (.t e f) Y Z=QA u:=by
 show(pe p e Y Z).bind _=_
 rw[h]
 show V9 Z (.ref r) f=_
 (show _=_;delta V9;simp only[hu,hf])
theorem aJ (h:pe p a Y Z=QA u) (h':pe p b Y Z=QA v) (hf:yb op u v=QA w):pe p (.b op a b) Y Z=QA w:=by
 show(pe p a Y Z).bind _=_
 rw[h];show(pe p b Y Z).bind _=_
 rw[h'];exact hf
theorem aH (h:pe p a Y Z=QA u) (h':pe p b Y Z=QA v) (hf:tX op u v=QA t):pe p (.c op a b) Y Z=QA (.bool t):=by
 show(pe p a Y Z).bind _=_
 rw[h];show(pe p b Y Z).bind _=_
 rw[h'];show(tX op u v).map _=_
 rw[hf];rfl
theorem cn (h:pe p a Y Z=QA u) (hf:ye Z u=QA w):pe p (.y .len (.cons a .nil)) Y Z=QA w:=by
 show(pe p a Y Z).bind _=_
 rw[h];exact hf
end
section
theorem ao (Y:Env) (hf:P.fns f=QA ⟨np,W7,nl,body⟩) (hb:mL ⟨np,W7,nl,body⟩ vs=QA Y)
  (h:a8 P (RL P d) body (KN Q) Q (λJ J=>False) (λJ J=>False) (KY X) Y Z):RL P (d+1) f vs Q X Z:=⟨_,_,hf,hb,h⟩
end
section
theorem cL (h:pe p c Y Z=QA (.bool t)) (ht:t=QD) (k:a8 p cl a (a8 p cl r N R B C X) R B C X Y Z):a8 p cl (.cons (.i c a b) r) N R B C X Y Z:=ae c h ⟨_,rfl,ht▸k⟩
theorem oY (h:pe p c Y Z=QA (.bool t)) (ht:t=QE) (k:a8 p cl b (a8 p cl r N R B C X) R B C X Y Z):a8 p cl (.cons (.i c a b) r) N R B C X Y Z:=ae c h ⟨_,rfl,ht▸k⟩
theorem aO (h:pe p c Y Z=QA (.bool t)) (ht:t=QE) (k:a8 p cl r N R B C X Y Z):a8 p cl (.cons (.i c a .nil) r) N R B C X Y Z:=ae c h ⟨_,rfl,ht▸k⟩
theorem aN (h:pe p e Y Z=QA v) (k:R v Z):a8 p cl (.cons (.ret e) r) N R B C X Y Z:=ae e h k
theorem aV (h:pe p e Y Z=QA v) (k:a8 p cl r N R B C X (Y.set x (QA v)) Z):a8 p cl (.cons (.a x e) r) N R B C X Y Z:=ae e h k
end
section
variable {es:Es}
theorem B0 (h:wE p cl e Y (KA p cl N B C R X Y r x) (KX X Y) Z):a8 p cl (.cons (.a x e) r) N R B C X Y Z:=h
theorem ax (h:wE p cl e Y (KE (a8 p cl r N R B C X Y)) (KX X Y) Z):a8 p cl (.cons (.expr e) r) N R B C X Y Z:=h
theorem aW (h:wE p cl e Y R (KX X Y) Z):a8 p cl (.cons (.ret e) r) N R B C X Y Z:=h
theorem ip (he:pe p e Y Z=QA v) (hc:ZK Z v=QA k) (hm:p.U0 k m=QA f) (hs:jH p es Y Z=QA vs) (h:cl f (v::vs) Q R3 Z):wE p cl (.m e m es) Y Q R3 Z:=ae e he ⟨_,_,hc,hm,lR es hs h⟩
theorem aC (hs:jH p es Y Z=QA vs) (h:cl f vs Q R3 Z):wE p cl (.call f es) Y Q R3 Z:=lR es hs h
theorem wx {e a:E} {i:Int} {bs:List UInt8} (h:pe p e Y Z=QA (.ref k)) (ho:Z[k]?=QA (.SH bs)) (ha:pe p a Y Z=QA (.int i)) (h0:0<=i) (h1:i<256) (hl:bs.length<=1000000)
  (q:Q .none (Z.set k (.SH (bs++[UInt8.ofNat i.toNat])))):wE p cl (.append e a) Y Q R3 Z:=by
 refine ae e h ⟨_,2,rfl,by(rw[bS,ho]),by decide,by decide,ae a ha ⟨by(rw[bS,ho]),?_⟩⟩
 rw[ho];exact⟨_,rfl,h0,h1,hl,q⟩
theorem ku (h:UA (λQ Y Z=>wT p cl c Y Q (λJ J=>False) Z) (λN' B' C' Y Z=>a8 p cl b N' R B' C' (λJ J J=>False) Y Z) n (a8 p cl r N R B C X) Y Z):a8 p cl (.cons (.w c b) r) N R B C X Y Z:=⟨n,h⟩
theorem lk:(l++[o])[l.length]?=QA o:=by simp
theorem qw:(l++[o]).set l.length o'=l++[o']:=by simp
end
section
variable {es:Es}
theorem cq (h:pe p e Y Z=QA (.bool t)) (ht:t=QE) (h':u4 p (.cons e' es) Y Z=QA v):u4 p (.cons e (.cons e' es)) Y Z=QA v:=by
 subst ht
 show(pe p e Y Z).bind _=_
 rw[h];exact h'
theorem tZ (h:pe p e Y Z=QA (.bool t)) (ht:t=QD):u4 p (.cons e (.cons e' es)) Y Z=QA (.bool QD):=by
 subst ht
 show(pe p e Y Z).bind _=_
 rw[h];rfl
theorem cB (h:pe p e Y Z=QA (.bool t)) (ht:t=QD) (h':lO p (.cons e' es) Y Z=QA v):lO p (.cons e (.cons e' es)) Y Z=QA v:=by
 subst ht
 show(pe p e Y Z).bind _=_
 rw[h];exact h'
theorem lQ (h:pe p e Y Z=QA (.bool t)) (ht:t=QE):lO p (.cons e (.cons e' es)) Y Z=QA (.bool QE):=by
 subst ht
 show(pe p e Y Z).bind _=_
 rw[h];rfl
end
noncomputable def U9:Nat->Nat->List UInt8
 |0,J=>[]
 |f+1,n=>if n<128 then [] else UInt8.ofNat (n%128+128)::U9 f (n/128)
noncomputable def WK:Nat->Nat->Nat
 |0,n=>n
 |f+1,n=>if n<128 then n else WK f (n/128)
def R9 (n:Nat):List UInt8:=U9 9 n++[UInt8.ofNat (WK 9 n)]
theorem gD:U9 (f+1) n=(if n<128 then [] else UInt8.ofNat (n%128+128)::U9 f (n/128)):=rfl
theorem kx:WK (f+1) n=(if n<128 then n else WK f (n/128)):=rfl
theorem qU: ∀f n,(U9 f n).length<=f:=λl=>l.rec (λJ=>AS _) λf ih n=>by rw[gD];split<;>simp;exact ih _
theorem y0: ∀f n,n<128^(f+1)->WK f n<128:=λl=>l.rec (λn h=>by skip;assumption) λf ih n h=>by
  rw[kx];split
  ·assumption
  ·exact ih _ (M7 (by rw[<- OH];exact h))
theorem vG (n:Nat):n&&&127=n%128:=Nat.and_two_pow_sub_one_eq_mod n 7
theorem Fi (h:x<128):x|||128=x+128:=by
 have:=Oo (i:=7) (b:=x) h 1
 rw[Nat.or_comm];dsimp only[Nat.reducePow,Nat.reduceMul] at this;exact RW 0x62482002400061881480080090 rfl this
theorem Fm (n:Nat):n>>>7=n/128:=Nk n 7
theorem Bp: ∀(f n:Nat) (bs:List UInt8),n<128^(f+1)->bs.length+f<=100->
  N [QA (.int (WK f n:Nat)),QA most,QA (.ref Z.length)] (Z++[.SH (bs++U9 f n)])->
  UA (λQ Y Z=>wT P (RL P d) (.c .ge aa (.int 128)) Y Q (λJ J=>False) Z) (λN' B' C' Y Z=>a8 P (RL P d)
   (ss [.expr (.append ah (.b .bor (.b .band aa (.int 127)) (.int 128))),.e 0 .shr (.int 7)]) N' R B' C' (λJ J J=>False) Y Z) (f+1) N [QA (.int (n:Nat)),QA most,QA (.ref Z.length)] (Z++[.SH bs]):=by
 intro f
 induction f with
 |zero=>
  intro n bs h i q
  refine ae _ (v:= .bool (decide ((128:Int)<=(n:Nat)))) rfl ⟨_,rfl,?_⟩
  have h:n<128:=h
  rw[aS (by exact aX 0x1CD5002002441842002400 rfl h)]
  rw[show U9 0 n=[] from rfl,MC] at q;exact q
 |succ f ih=>
  intro n bs h i q
  refine ae _ (v:= .bool (decide ((128:Int)<=(n:Nat)))) rfl ⟨_,rfl,?_⟩
  rw[kx,gD] at q
  by_cases a:n<128
  ·rw[aS (by exact aX 0x1CD5002002441842002400 rfl a)]
   rw[L6 a,L6 a] at q
   simpa using q
  ·rw[iF (by exact aX 0x1C15002002441902002400 rfl a)]
   rw[L4 a,L4 a] at q
   have g:(Z++[O.SH bs])[Z.length]?=QA (.SH bs):=lk
   have k:n%128<128:=M6 _ (by decide)
   have l:((n:Int).toNat&&&(127:Int).toNat:Nat)=n%128:=vG n
   have j:(((n:Int).toNat&&&(127:Int).toNat:Nat):Int).toNat|||(128:Int).toNat=n%128+128:=by
    rw[l];exact Fi k
   refine⟨_,2,rfl,by(rw[bS,g]),by decide,by decide,?_⟩
   refine⟨by exact oR _,by decide,by exact oR _,by decide,by(rw[bS,g]),?_⟩
   rw[g]
   refine⟨_,rfl,by exact oR _,by rw[j];exact aX 0x71100091552080090001842002400 rfl k,RW 0x600F4240110001801902412481050040 rfl i,?_⟩
   refine⟨by exact oR _,by decide,by decide,?_⟩
   rw[j,qw]
   have m:((n:Int).toNat>>>(7:Int).toNat:Nat)=n/128:=Fm n
   show UA _ _ (f+1) N [QA (.int ((n:Int).toNat>>>(7:Int).toNat:Nat)),QA most,QA (.ref Z.length)] _
   rw[m]
   refine ih (n/128) _ (M7 (by rw[<- OH];exact h)) (by simp;exact RW 0x60064090481481050001801902412481050040 rfl i) ?_
   have o:UInt8.ofNat ((n%128+128:Nat):Int).toNat=UInt8.ofNat (n%128+128):=rfl
   rw[o,LV];exact q
theorem jn {d:Nat} {Z:H} {n:Nat} {most:Int} {Q:V->H->Prop} {X:Nat->H->Prop} (hn:n<2^64) (hm:n<=most) (q: ∀ν,Q (.RT (R9 n)) (Z++ν)):RL P (d+1) 0 [.int n,.int most] Q X Z:=by
 refine ao [QA (.int n),QA (.int most),QC] rfl rfl (aO (cq (t:=decide ((n:Int)<0)) rfl (aS (aX 1946228032 rfl)) rfl) (aS (Nf.mpr ‹_›)) (B0 (show wE P (RL P d) (.y .W0 .nil) _ _ _ _ from(ku (n:=10) (Bp (R:=Q) 9 n [] (dO ‹_› (aT rfl)) (by decide) ?_)))))
 have a:WK 9 n<128:=y0 9 n (dO ‹_› (aT rfl))
 refine ax (wx rfl lk rfl (oR _) (aX 0x1C44002455001842002400 rfl a) (by have:=qU 9 n;dsimp;exact VK ‹_› rfl) ?_)
 rw[qw]
 exact aW (show wE P (RL P d) (.y .bytes _) _ _ _ _ from(⟨_,lk,q _⟩))
end
section
def Holds (wl:List (Nat×O)) (Z:H):Prop:=(∀(i a:Nat) (o:O),wl[i]?=QA (a,o)->Z[a]?=QA o)/\(wl.map (·.1)).Nodup
section
theorem ba {α:Type} {l:List α} {i:Nat} {x:α} (h:l[i]?=QA x):i<l.length:=by
 rcases MT i l.length with h'|h'
 ·exact h'
 ·rw[Mt h'] at h;cases h
theorem Holds.get (h:Holds wl Z) (i:Nat) (hi:wl[i]?=QA (a,o)):Z[a]?=QA o:=h.1 i a o hi
theorem Holds.set (h:Holds wl Z) (i:Nat) (hi:wl[i]?=QA (a,o)):Holds (wl.set i (a,o')) (Z.set a o'):=by
 have d:=ba hi
 refine⟨λj b u c=>?_,?_⟩
 ·by_cases e:i=j
  ·subst e
   rw[L7 d] at c
   obtain⟨rfl,rfl⟩:a=b/\o'=u:=by simpa using c
   exact L7 (ba (h.1 i a o hi))
  ·rw[ML e] at c
   have f:a≠b:=by
    intro k
    subst k
    have l:(wl.map (·.1))[i]?=QA a:=by simp[hi]
    have g:(wl.map (·.1))[j]?=QA a:=by simp[c]
    exact e ((List.getElem?_inj (by simpa using d) h.2).mp (l.trans g.symm))
   rw[ML f]
   exact h.1 j b u c
 ·have:(wl.set i (a,o')).map (·.1)=wl.map (·.1):=by
   rw[List.map_set]
   refine ON λj=>?_
   by_cases e:i=j
   ·subst e
    rw[L7 (by simpa using d)];simp[hi]
   ·rw[ML e]
  rw[this];exact h.2
theorem Holds.app (h:Holds wl Z) (ν:H):Holds wl (Z++ν):=
 ⟨λi a o b=>by rw[Nj (ba (h.1 i a o b))];exact h.1 i a o b,h.2⟩
theorem Holds.new (h:Holds wl Z) (o:O):Holds ((Z.length,o)::wl) (Z++[o]):=by
 refine⟨λi a u b=>?_,?_⟩
 ·cases i with
  |zero=>
   obtain⟨rfl,rfl⟩:Z.length=a/\o=u:=by simpa using b
   simp
  |succ i=>exact(h.app [o]).1 i a u b
 ·refine Mf.mpr ⟨λd=>?_,h.2⟩
  refine aU (L8.mp d) λp f e=>?_
  obtain⟨j,c⟩:=NZ f
  have:=ba (h.1 j p.1 p.2 c)
  dsimp only at e
  exact RW 6873030205504 rfl e this
theorem Holds.tail (h:Holds (x::wl) Z):Holds wl Z:=⟨λi a o b=>h.1 (i+1) a o b,(Mf.mp h.2).2⟩
end
section
variable {es:Es}
theorem bp (h:pe p a Y Z=QA u) (h':pe p b Y Z=QA v) (hf:je Z u v=QA w):pe p (.sub a b) Y Z=QA w:=by
 show(pe p a Y Z).bind _=_
 rw[h];show(pe p b Y Z).bind _=_
 rw[h'];exact hf
theorem cN (h:pe p e Y Z=QA (.U1 k fs)) (hf:iV fs f=QA u):pe p (.t e f) Y Z=QA u:=by
 show(pe p e Y Z).bind _=_
 rw[h];exact hf
theorem ay (h:pe p a Y Z=QA (.ref r)) (hu:Z[r]?=QA (.dict kvs)) (hs:fY kvs=QD) (hf:mv kvs n=QA w):pe p (.sub a (.str n)) Y Z=QA w:=by
 refine bp h (v:= .str n) rfl ?_
 show(match Z[r]? with
  |some (.dict kvs)=>if fY kvs=QD then mv kvs n else .none
  |_=> .none)=_
 rw[hu]
 show(if fY kvs=QD then mv kvs n else .none)=_
 rw[L6 hs];exact hf
theorem jf (h:pe p a Y Z=QA (.ref r)) (hu:Z[r]?=QA (.list xs)):pe p (.y .len (.cons a .nil)) Y Z=QA (.int xs.length):=by
 refine cn h ?_
 show(match Z[r]? with
  |some (.list vs)=>QA vs
  |_=> .none).map _=_
 rw[hu];rfl
theorem gv (h:jH p es Y Z=QA vs):pe p (.tup es) Y Z=QA (.tup vs):=by
 show(jH p es Y Z).map _=_
 rw[h];rfl
theorem Du (h:jH p es Y Z=QA vs):pe p (.list QD es) Y Z=QA (.list vs):=by
 show(jH p es Y Z).map _=_
 rw[h];rfl
theorem aA (h:pe p e Y Z=QA v) (h':jH p es Y Z=QA vs):jH p (.cons e es) Y Z=QA (v::vs):=by
 show(pe p e Y Z).bind _=_
 rw[h];show(jH p es Y Z).map _=_
 rw[h'];rfl
theorem cA (hu:Z[r]?=QA (.inst k fs)):ZK Z (.ref r)=QA k:=by
 show(match Z[r]? with
  |some (.inst c J)=>QA c
  |_=> .none)=_
 rw[hu]
end
def D1 (Q:V->H->Prop) (x:Nat) (u:V) (Z:H):Prop:= ∃b x',Z[x]?=QA (.SH b)/\u= .RT x'/\b.length+x'.length<=1000000/\Q .none (Z.set x (.SH (b++x')))
def y8 (p:gX) (K:H->Prop) (f:Nat) (w u:V) (Z:H):Prop:= ∃r' c fs,w= .ref r'/\Z[r']?=QA (.inst c fs)/\p.at_ c f=QD/\fs.length<=50/\K (Z.set r' (.inst c (VS fs f u)))
def D2 (Q:V->H->Prop) (k n:Nat) (r:V) (Z:H):Prop:=r= .none/\ ∃fs,Z[n]?=QA (.inst k fs)/\Q (.U1 k fs) (Z.set n .dead)
section
variable {es:Es}
theorem bz {op:BO} {a b:E} (h:wE p cl a Y (KB p cl Q R3 Y op b) R3 Z):wE p cl (.b op a b) Y Q R3 Z:=h
theorem bh {op:CO} {a b:E} (h:wE p cl a Y (KC p cl Q R3 Y op b) R3 Z):wE p cl (.c op a b) Y Q R3 Z:=h
theorem eQ {a:E} (h:wE p cl a Y (KO Q) R3 Z):wE p cl (.not a) Y Q R3 Z:=h
theorem cz {b:BI} (h:js p cl es Y (KP Q b) R3 Z):wE p cl (.y b es) Y Q R3 Z:=h
theorem fS (h:js p cl es Y (KT Q) R3 Z):wE p cl (.tup es) Y Q R3 Z:=h
theorem bN (h:pe p e Y Z=QA v) (hl:pe p lo Y Z=QA u) (hh:pe p hi Y Z=QA z) (k:iG Z v u z λr=>Q r Z):wE p cl (.l e lo hi) Y Q R3 Z:=ae e h (ae lo hl (ae hi hh k))
theorem aE {Q:List V->H->Prop} (h:Q [] Z):js p cl .nil Y Q R3 Z:=h
theorem aj {Q:List V->H->Prop} (h:wE p cl e Y (IK p cl R3 Y es Q) R3 Z):js p cl (.cons e es) Y Q R3 Z:=h
theorem iU (h:js p cl es Y (KL cl Q R3 f) R3 Z):wE p cl (.call f es) Y Q R3 Z:=h
theorem bU (he:pe p e Y Z=QA v) (hc:ZK Z v=QA k) (hm:p.U0 k m=QA f) (h:js p cl es Y (KM cl Q R3 f v) R3 Z):wE p cl (.m e m es) Y Q R3 Z:=ae e he ⟨_,_,hc,hm,h⟩
theorem tc (he:wE p cl e Y (λv Z=> ∃c f,ZK Z v=QA c/\p.U0 c m=QA f/\js p cl es Y (λvs Z=>cl f (v::vs) Q R3 Z) R3 Z) R3 Z):wE p cl (.m e m es) Y Q R3 Z:=he
theorem ai (he:pe p e Y Z=QA (.ref x)) (hu:Z[x]?=QA (.inst k fs)) (hm:p.U0 k m=QA f) (hs:jH p es Y Z=QA vs) (h:cl f (.ref x::vs) Q R3 Z):wE p cl (.m e m es) Y Q R3 Z:=ip he (cA hu) hm hs h
theorem wz (he:pe p e Y Z=QA (.ref x)) (hu:Z[x]?=QA (.dict kvs)) (ha:pe p e' Y Z=QA u) (hk:ir kvs u) (q:Q ((T4 kvs u).getD .none) Z):wE p cl (.get e e') Y Q R3 Z:=
 ae e he ⟨x,rfl,by simp only[bS,hu],ae e' ha ⟨_,hu,hk,q⟩⟩
theorem eC (h:Holds wl Z) (i:Nat) (hi:wl[i]?=QA (x,.list xs)) (he:pe p e Y Z=QA (.ref x)) (ha:pe p e' Y Z=QA u) (hl:xs.length<=1000000)
  (q: ∀RM,Holds (wl.set i (x,.list (xs++[u]))) RM->Q .none RM):wE p cl (.append e e') Y Q R3 Z:=by
 have a:=h.get i hi
 refine ae e he ⟨x,1,rfl,by simp only[bS,a],by decide,by decide,ae e' ha ⟨by simp only[bS,a],?_⟩⟩
 rw[a];exact⟨hl,q _ (h.set i hi)⟩
theorem gN (h:Holds wl Z) (i:Nat) (hi:wl[i]?=QA (x,.SH bs)) (he:pe p e Y Z=QA (.ref x)) (ha:pe p e' Y Z=QA (.int n)) (h0:0<=n) (h1:n<256) (hl:bs.length<=1000000)
  (q: ∀RM,Holds (wl.set i (x,.SH (bs++[UInt8.ofNat n.toNat]))) RM->Q .none RM):wE p cl (.append e e') Y Q R3 Z:=
 wx he (h.get i hi) ha h0 h1 hl (q _ (h.set i hi))
theorem lG (h:Holds wl Z) (i:Nat) (hi:wl[i]?=QA (x,.SH bs)) (hl:bs.length+ys.length<=1000000)
  (q: ∀RM,Holds (wl.set i (x,.SH (bs++ys))) RM->Q .none RM):D1 Q x (.RT ys) Z:=
 ⟨_,_,h.get i hi,rfl,hl,q _ (h.set i hi)⟩
theorem kW (he:pe p e Y Z=QA (.ref x)) (hi:Z[x]?=QA (.SH bs))
  (h:wE p cl e' Y (D1 Q x) R3 Z):wE p cl (.extend e e') Y Q R3 Z:=
 ae e he ⟨x,rfl,by simp only[bS,hi],h⟩
theorem zR (h:Holds wl Z) (q: ∀n RM,Holds ((n,.SH [])::wl) RM->Q (.ref n) RM):wE p cl (.y .W0 .nil) Y Q R3 Z:=q _ _ (h.new _)
theorem dq (h:Holds wl Z) (q: ∀n RM,Holds ((n,.list [])::wl) RM->Q (.ref n) RM):wE p cl (.list QE .nil) Y Q R3 Z:=q _ _ (h.new _)
theorem nM (h:Holds wl Z) (q: ∀n RM,Holds ((n,.dict [])::wl) RM->Q (.ref n) RM):wE p cl (.dict .nil .nil) Y Q R3 Z:=⟨rfl,List.nodup_nil,rfl,q _ _ (h.new _)⟩
theorem pK (h:Holds wl Z) (hi:p.init k=QA f) (hs:jH p es Y Z=QA vs)
  (q: ∀n RM,Holds ((n,.inst k [])::wl) RM->cl f (.ref n::vs) (λr Z=>r= .none/\Q (.ref n) Z) (λJ J=>False) RM):wE p cl (.new k QE es) Y Q R3 Z:=
 ⟨_,hi,lR es hs (q _ _ (h.new _))⟩
theorem kX (h:Holds wl Z) (hi:p.init k=QA f) (hs:jH p es Y Z=QA vs)
  (q: ∀n RM,Holds ((n,.inst k [])::wl) RM->cl f (.ref n::vs) (D2 Q k n) (λJ J=>False) RM):wE p cl (.new k QD es) Y Q R3 Z:=
 ⟨_,hi,lR es hs (q _ _ (h.new _))⟩
theorem lI (h:Holds ((n,.inst k fs)::wl) Z) (q: ∀RM,Holds wl RM->Q (.U1 k fs) RM):D2 Q k n .none Z:=
 ⟨rfl,_,h.get 0 rfl,q _ (h.set 0 rfl (o':= .dead)).tail⟩
theorem av (h:wE p cl e Y (KA p cl N B C R X Y r x) (KX X Y) Z):a8 p cl (.cons (.a x e) r) N R B C X Y Z:=h
theorem aw (h:N Y Z):a8 p cl .nil N R B C X Y Z:=h
theorem bT (h:wE p cl w Y (λu Z=>wE p cl e Y (λw Z=>y8 p (λZ=>a8 p cl r N R B C X Y Z) f w u Z) (KX X Y) Z) (KX X Y) Z):a8 p cl (.cons (.A e f w) r) N R B C X Y Z:=h
theorem cM (h:Holds wl Z) (i:Nat) (hi:wl[i]?=QA (x,.inst k fs)) (he:pe p e Y Z=QA (.ref x)) (hm:p.at_ k f=QD) (hl:fs.length<=50)
  (q: ∀RM,Holds (wl.set i (x,.inst k (VS fs f u))) RM->a8 p cl r N R B C X Y RM):wE p cl e Y (λw Z=>y8 p (λZ=>a8 p cl r N R B C X Y Z) f w u Z) (KX X Y) Z:=
 ae e he ⟨_,_,_,rfl,h.get i hi,hm,hl,q _ (h.set i hi)⟩
theorem lJ (h:Holds wl Z) (i:Nat) (hi:wl[i]?=QA (x,.inst k fs)) (hm:p.at_ k f=QD) (hl:fs.length<=50) (q: ∀RM,Holds (wl.set i (x,.inst k (VS fs f u))) RM->K RM):y8 p K f (.ref x) u Z:=
 ⟨_,_,_,rfl,h.get i hi,hm,hl,q _ (h.set i hi)⟩
theorem aG (h:Holds wl Z) (i:Nat) (hi:wl[i]?=QA (x,.inst k fs)) (hv:pe p w Y Z=QA u) (he:pe p e Y Z=QA (.ref x)) (hm:p.at_ k f=QD) (hl:fs.length<=50)
  (q: ∀RM,Holds (wl.set i (x,.inst k (VS fs f u))) RM->a8 p cl r N R B C X Y RM):a8 p cl (.cons (.A e f w) r) N R B C X Y Z:=
 bT (ae w hv (cM h i hi he hm hl q))
theorem aK (h:wE p cl c Y (KI p cl N B C R X Y a b r) (KX X Y) Z):a8 p cl (.cons (.i c a b) r) N R B C X Y Z:=h
theorem iu {A B:Prop} (ht:t=QD) (h:A): ∃b',truth Z (.bool t)=QA b'/\match b' with
   |true=>A
   |false=>B:=⟨QD,by rw[ht];rfl,h⟩
theorem cI {A B:Prop} (ht:t=QE) (h:B): ∃b',truth Z (.bool t)=QA b'/\match b' with
   |true=>A
   |false=>B:=⟨QE,by rw[ht];rfl,h⟩
theorem yr (h:pe p c Y Z=QA (.bool t)) (k1:t=QD->a8 p cl a (a8 p cl r N R B C X) R B C X Y Z) (k2:t=QE->a8 p cl b (a8 p cl r N R B C X) R B C X Y Z):a8 p cl (.cons (.i c a b) r) N R B C X Y Z:=by
 cases t with
 |true=>exact cL h rfl (k1 rfl)
 |false=>exact oY h rfl (k2 rfl)
theorem cD (h:wE p cl e Y (KU p cl N B C R X Y r xs) (KX X Y) Z):a8 p cl (.cons (.u xs e) r) N R B C X Y Z:=h
theorem jh (k:a8 p cl b' (a8 p cl r N R B C X) R B C (λc Y Z=>match cs.any (p.sub c) with
   |true=>a8 p cl h (a8 p cl r N R B C X) R B C X Y Z
   |false=>False) Y Z):a8 p cl (.cons (.XD b' cs h) r) N R B C X Y Z:=k
theorem dh (h:wE p cl it Y (KF p cl N B C R X Y bd xs r) (KX X Y) Z):a8 p cl (.cons (.f xs it bd) r) N R B C X Y Z:=h
theorem cO (h:Holds ((x,.list xs)::wl) Z) (hv:Y[y]?=QA (QA (.ref x))) (q: ∀RM,Holds wl RM->a8 p cl r N R B C X (Y.set y (QA (.list xs))) RM):a8 p cl (.cons (.freeze y) r) N R B C X Y Z:=by
 show e9 Y y _
 unfold e9
 rw[hv]
 exact⟨_,_,rfl,h.get 0 rfl,q _ (h.set 0 rfl (o':= .dead)).tail⟩
theorem lS (h:Holds wl Z) (i:Nat) (hi:wl[i]?=QA (x,.inst k fs)) (he:pe p e Y Z=QA (.ref x)) (hf:iV fs f=QA (.int n))
  (q:wE p cl w Y (λv Z=>kG op (.int n) v λu=>y8 p (λZ=>a8 p cl r N R B C X Y Z) f (.ref x) u Z) (KX X Y) Z):a8 p cl (.cons (.B e f op w) r) N R B C X Y Z:=
 ae e he ⟨_,by show(match (generalizing:=false) Z[x]? with|some (.inst J fs)=>iV fs f|_=>QC)=_;rw[h.get i hi];exact hf,q⟩
end
end
section
theorem dp {x:α} {r:List α} {l:List α} {k:Nat} (h:l.drop k=x::r):l[k]?=QA x/\k<l.length/\l.drop (k+1)=r:=by
 have a:k<l.length:=by
  rcases MT k l.length with h'|h'
  ·exact h'
  ·rw[NK h'] at h;cases h
 rw[NW a] at h
 injection h with h1 h2
 exact⟨by rw[As a,h1],a,h2⟩
theorem Dz (h:acc<2^k):acc|||(x<<<k)=acc+x*2^k:=by
 have:=Oo h x
 rw[Nat.or_comm,O7,PX,<- this];exact NA _ _
section
theorem gx (hx:Y[x]?=QA (QA (.int i))) (h:wE p cl e Y (λv Z=>kG op (.int i) v λu=>a8 p cl r N R B C X (Y.set x (QA u)) Z) (λc=>X c Y) Z):a8 p cl (.cons (.e x op e) r) N R B C X Y Z:=by
 show e9 Y x _
 delta e9
 rw[hx];exact h
end
abbrev yn:Ss:=ss [.i (.c .ge RJ (.y .len (es [aa]))) (ss [.k]) .nil,
  .a 7 (.sub aa RJ),
  .e 1 .add (.int 1),
  .e 4 .bor (.b .shl (.b .band a9 (.int 127)) aI),
  .i (.c .lt a9 (.int 128)) (ss [.i (.c .gt au RN) (ss [.k]) .nil,
   .ret (.tup (es [au,RJ]))]) .nil,
  .e 5 .add (.int 7)]
theorem ou
  (hx:data[at_]?=QA (UInt8.ofNat o)) (ho:o<256) (hk:k<64) (ha:acc<2^k)
  (q:o<128->acc+o*2^k<=most/\R (.tup [.int (acc+o*2^k:Nat),.int (at_+1:Nat)]) Z)
  (z:128<=o->N [QA (.RT data),QA (.int (at_+1:Nat)),QA oc,QA (.int (most:Nat)),QA (.int (acc+o%128*2^k:Nat)),QA (.int (k+7:Nat)),QA t,QA (.int (o:Nat))] Z):
  a8 P (RL P d) yn N R B C X [QA (.RT data),QA (.int (at_:Nat)),QA oc,QA (.int (most:Nat)),QA (.int (acc:Nat)),QA (.int (k:Nat)),QA t,w] Z:=by
 have UU:at_<data.length:=by
  rcases MT at_ data.length with h|h
  ·exact h
  ·rw[Mt h] at hx;cases hx
 refine aO (t:=decide ((data.length:Int)<=(at_:Nat))) rfl (aS (RW 0x73540541061040 rfl UU)) (B0 (show wE P (RL P d) (.sub aa RJ) _ _ _ _ from⟨at_,UInt8.ofNat o,by exact oR _,by delta idx;rw[L6 ⟨by exact oR _,by exact Mo.mpr ‹_›⟩];exact rfl,hx,?_⟩))
 have eo:((UInt8.ofNat o).toNat:Int)=(o:Nat):=By _ (Nx ho)
 rw[eo]
 refine gx (i:=(at_:Nat)) rfl ?_
 show a8 P (RL P d) _ N R B C X [QA (.RT data),QA (.int ((at_:Nat)+1:Int)),QA oc,QA (.int (most:Nat)),QA (.int (acc:Nat)),QA (.int (k:Nat)),QA t,QA (.int (o:Nat))] Z
 refine gx (i:=(acc:Nat)) rfl (⟨by exact oR _,by decide,?_⟩)
 have e1:(((o:Nat):Int).toNat&&&(127:Int).toNat:Nat)=o%128:=vG o
 rw[e1]
 refine⟨by exact oR _,aX 0x1C410026D5001842002400 rfl (M6 _ (by decide)),by exact oR _,aX 0x1C41902455001841002400 rfl hk,?_⟩
 refine⟨oR _,oR _,?_⟩
 have e2:(((acc:Nat):Int).toNat|||(((((o%128:Nat):Int).toNat<<<((k:Nat):Int).toNat:Nat):Int).toNat):Nat)=acc+o%128*2^k:=Dz ha
 rw[e2]
 by_cases hs:o<128
 ·obtain⟨hm,hq⟩:=q hs
  have e3:o%128=o:=Nat.mod_eq_of_lt hs
  rw[e3]
  exact cL (t:=decide (((o:Nat):Int)<128)) rfl (iF (aX 0x1C42002455001842002400 rfl hs)) (aO (t:=decide (((most:Nat):Int)<(acc+o*2^k:Nat))) rfl (aS (SD 0x74552040542060092040 rfl hm)) (aN rfl hq))
 ·exact aO (t:=decide (((o:Nat):Int)<128)) rfl (aS (aX 0x1D02002455001902002400 rfl hs)) (gx (i:=(k:Nat)) rfl (z (aX 0x60002002401902002400 rfl hs)))
theorem AO {d:Nat} {data post:List UInt8} {most:Nat}: ∀(f m acc k at_:Nat) (turns:List V) (t w:Option V),f+1<=turns.length->acc<2^k->k+7*f<64->m<128^(f+1)->
  data.drop at_=U9 f m++UInt8.ofNat (WK f m)::post->acc+m*2^k<=most->R (.tup [.int (acc+m*2^k:Nat),.int (at_+(U9 f m).length+1:Nat)]) Z->
  TG (λN' B' C' Y Z=>a8 P (RL P d) yn N' R B' C' (λJ J J=>False) Y Z) [6] turns N [QA (.RT data),QA (.int (at_:Nat)),QA oc,QA (.int (most:Nat)),QA (.int (acc:Nat)),QA (.int (k:Nat)),t,w] Z:=by
 intro f
 induction f with
 |zero=>
  intro m acc k at_ turns t w j c g p a i q
  cases turns with
  |nil=>simp at j
  |cons v r=>
   have s:data.drop at_=UInt8.ofNat m::post:=a
   exact ou (o:=m) (dp s).1 (dO ‹_› (aT rfl)) (RW 0x61040090001841002412040 rfl g) c (λJ=>⟨i,q⟩) (λh=>absurd ‹m<128› (MN.mpr h))
 |succ f ih=>
  intro m acc k at_ turns t w j c g p a i q
  cases turns with
  |nil=>simp at j
  |cons v r=>
   rw[gD,kx] at a
   rw[gD] at q
   by_cases b:m<128
   ·rw[L6 b,L6 b] at a
    rw[L6 b] at q
    exact ou (o:=m) (dp a).1 (dO ‹_› (aT rfl)) (RW 0x610400900018410024121D9481050040 rfl g) c (λJ=>⟨i,q⟩) (λh=>absurd ‹m<128› (MN.mpr h))
   ·rw[L4 b,L4 b] at a
    rw[L4 b] at q
    have n:m%128<128:=M6 _ (by decide)
    refine me (dp a) λy h2 z=>?_
    have e:acc+(m%128+128)%128*2^k+m/128*2^(k+7)=acc+m*2^k:=by
     have l:(m%128+128)%128=m%128:=(Nat.add_mod_right _ _).trans (Nat.mod_mod _ _)
     have u:m=m/128*128+m%128:=(Nat.div_add_mod' m 128).symm
     rw[l,Nat.pow_add]
     conv=>rhs;rw[u]
     rw[Nat.add_mul,Nat.mul_assoc,PX (2^k)]
     show _=acc+(m/128*(2^7*2^k)+m%128*2^k)
     exact SD 0x62492042012092040 rfl
    refine ou (o:=m%128+128) y (aX 0x1844002412080090001842002400 rfl n) (RW 0x610400900018410024121D9481050040 rfl g) c (λh=>absurd h (MN.mpr (N0 _ _))) (λJ=>(ih (m/128) _ (k+7) (at_+1) r _ _ (by simp at j;assumption) ?_ (RW 0x610400904876414870500018410024121D9481050040 rfl g) (M7 (by rw[<- OH];exact p)) z (by rw[e];exact i) ?_))
    ·have l:(m%128+128)%128=m%128:=(Nat.add_mod_right _ _).trans (Nat.mod_mod _ _)
     rw[l,Nat.pow_add]
     have:m%128*2^k<=127*2^k:=Nat.mul_le_mul_right _ (N4 ‹_›)
     exact dO (Nat.add_lt_add_of_lt_of_le c this) (MB ((NA _ _).trans ((Nat.succ_mul 127 _).symm.trans (PX _ _))))
    ·rw[e]
     have x:at_+1+(U9 f (m/128)).length+1=at_+(UInt8.ofNat (m%128+128)::U9 f (m/128)).length+1:=by simp;exact RW 0x62492041401012052041400 rfl
     rw[x];exact q
theorem jL {X:Nat->H->Prop} (hn:n<2^64) (hm:n<=most) (hd:data.drop at_=R9 n++post) (q:Q (.tup [.int (n:Nat),.int (at_+(R9 n).length:Nat)]) Z):
  RL P (d+1) 1 [.RT data,.int (at_:Nat),.int 10,.int (most:Nat)] Q X Z:=by
 refine ao [QA (.RT data),QA (.int (at_:Nat)),QA (.int 10),QA (.int (most:Nat)),QC,QC,QC,QC] rfl rfl (aO (t:=decide (((at_:Nat):Int)<0)) rfl (aS (aX 1946228032 rfl)) (aV rfl (aV rfl (⟨by decide,by decide,_,rfl,?_⟩))))
 refine AO (post:=post) 9 n 0 0 at_ _ _ _ (by decide) (by decide) (by decide) (dO ‹_› (aT rfl)) ?_ (bY (MB ((Pp _).trans (Nat.mul_one n))) ‹_›) ?_
 ·rw[hd];simp[R9]
 ·have a:0+n*2^0=n:=(Pp _).trans (Nat.mul_one n)
  have b:at_+(U9 9 n).length+1=at_+(R9 n).length:=by simp[R9];exact NT _ _ _
  rw[a,b];exact q
end
section
theorem fB (h:data[k]?=QA x):je Z (.RT data) (.int (k:Nat))=QA (.int (x.toNat:Nat)):=by
 have hk:k<data.length:=by
  rcases MT k data.length with h'|h'
  ·exact h'
  ·rw[Mt h'] at h;cases h
 show(if(0:Int)<=(k:Nat) then(idx data.length (k:Nat)).bind λj=>(data[j]?).map λx=>V.int x.toNat else .none)=_
 rw[L6 (oR _)]
 delta idx
 rw[L6 ⟨by exact oR _,by exact Mo.mpr ‹_›⟩]
 show((data[((k:Nat):Int).toNat]?).map λx=>V.int x.toNat)=_
 rw[Int.toNat_natCast,h];rfl
theorem tY (h0:Y[0]?=QA (QA (.RT data))) (h1:Y[1]?=QA (QA (.int (k:Nat)))) (h:data[k]?=QA (UInt8.ofNat o)) (ho:o<256):
  pe P (.and (es [.c .ge RJ (.int 0),.c .lt RJ (.y .len (es [aa])),.c .lt (.sub aa RJ) (.int 128)])) Y Z=QA (.bool (decide (o<128))):=by
 have hk:k<data.length:=by
  rcases MT k data.length with h'|h'
  ·exact h'
  ·rw[Mt h'] at h;cases h
 have b:pe P aa Y Z=QA (.RT data):=by
  show(match Y[0]? with|some (QA v)=>QA v|_=> .none)=_
  rw[h0]
 have a:pe P RJ Y Z=QA (.int (k:Nat)):=by
  show(match Y[1]? with|some (QA v)=>QA v|_=> .none)=_
  rw[h1]
 have d:(((UInt8.ofNat o).toNat:Nat):Int)=(o:Nat):=By _ (Nx ho)
 refine cB (aH a rfl rfl) (iF (oR _)) (cB (aH a (cn b rfl) rfl) (iF (Mo.mpr ‹_›)) ?_)
 have e:pe P (.sub aa RJ) Y Z=QA (.int (o:Nat)):=bp b a (by rw[fB h,d])
 refine aH e rfl ?_
 show QA (decide (((o:Nat):Int)<128))=_
 congr 1;simp only[decide_eq_decide];exact⟨λzh=>aX 0x1842002400071080091540 rfl zh,λzh=>aX 0x1C42002455001842002400 rfl zh⟩
theorem eK (h:n<128):R9 n=[UInt8.ofNat n]:=by
 delta R9
 rw[gD,kx]
 rw[L6 h,L6 h];rfl
theorem j5 {d:Nat} {n:Nat} {X:Nat->H->Prop} (hn:n<2^64) (h0:128<=n) (q: ∀ν,Q (.RT (R9 n)) (Z++ν)):RL P (d+2) 2 [.int n] Q X Z:=by
 refine ao [QA (.int n)] rfl rfl (aO (t:=QE) (cB (t:=decide ((0:Int)<=(n:Nat))) rfl (iF (oR _)) ?_) rfl ?_)
 ·show QA (V.bool (decide ((n:Int)<128)))=_
  rw[aS (by exact aX 0x1D02002455001800080090 rfl h0)]
 exact aW (aC (vs:=[.int n,.int 0xFFFFFFFFFFFFFFFF]) rfl (jn hn (aX 0x703FFFFFFFFFFFFFFFCB455001841002680 rfl hn) q))
theorem jM (hn:n<2^64) (h0:128<=n) (hd:data.drop at_=R9 n++post) (q:Q (.tup [.int (n:Nat),.int (at_+(R9 n).length:Nat)]) Z):
  RL P (d+2) 3 [.RT data,.int (at_:Nat)] Q X Z:=by
 refine ao [QA (.RT data),QA (.int (at_:Nat))] rfl rfl ?_
 have e: ∃o,data[at_]?=QA (UInt8.ofNat o)/\128<=o/\o<256:=by
  have a:=hd
  rw[show R9 n=U9 9 n++[UInt8.ofNat (WK 9 n)] from rfl,gD] at a
  rw[L4 (MN.mpr ‹_›)] at a
  exact⟨_,(dp a).1,by exact N0 _ _,aX 0x1844002412080090001842002400 rfl (M6 _ (by decide))⟩
 exact kE e λo c h1 b=>(aO (tY rfl rfl c b) (aS (MN.mpr ‹_›)) (aW (aC (vs:=[.RT data,.int (at_:Nat),.int 10,.int (0xFFFFFFFFFFFFFFFF:Nat)]) rfl (jL hn (N4 ‹_›) hd q))))
theorem jg {d:Nat} {n:Nat} {X:Nat->H->Prop} (h0:n<128) (q:Q (.RT [UInt8.ofNat n]) Z):RL P (d+1) 4 [.int n] Q X Z:=by
 refine ao [QA (.int n)] rfl rfl (cL (t:=QD) (cB (t:=decide ((0:Int)<=(n:Nat))) rfl (iF (oR _)) ?_) rfl ?_)
 ·show QA (V.bool (decide ((n:Int)<128)))=_
  rw[iF (by exact aX 0x1C42002455001842002400 rfl h0)]
 exact aW (show wE P (RL P d) (.y .bytes _) _ _ _ _ from(⟨[(n:Int)],rfl,by simp;exact aX 0x1C44002455001842002400 rfl h0,q⟩))
theorem iD (h0:n<128) (hd:data.drop at_=UInt8.ofNat n::post) (q:Q (.tup [.int (n:Nat),.int (at_+1:Nat)]) Z):
  RL P (d+1) 5 [.RT data,.int (at_:Nat)] Q X Z:=by
 refine ao [QA (.RT data),QA (.int (at_:Nat))] rfl rfl ?_
 have a:=(dp hd).1
 refine cL (tY rfl rfl a (dO ‹_› (aT rfl))) (iF h0) ?_
 have b:(((UInt8.ofNat n).toNat:Nat):Int)=(n:Nat):=By _ (Nx (Oz h0 (by decide)))
 refine aN (v:= .tup [.int (n:Nat),.int (at_+1:Nat)]) ?_ q
 exact gv (aA (bp rfl rfl (by rw[fB a,b])) (aA rfl rfl))
end
section
section
theorem FW (h:pe p c Y Z=QA (.bool t)) (ht:t=QE) (k:N Y Z):UA (λQ Y Z=>wT p cl c Y Q X Z) body (n+1) N Y Z:=ae c h ⟨_,rfl,ht▸k⟩
theorem IA (h:pe p c Y Z=QA (.bool t)) (ht:t=QD) (k:body (UA (λQ Y Z=>wT p cl c Y Q X Z) body n N) N (UA (λQ Y Z=>wT p cl c Y Q X Z) body n N) Y Z):UA (λQ Y Z=>wT p cl c Y Q X Z) body (n+1) N Y Z:=ae c h ⟨_,rfl,ht▸k⟩
end
theorem fD (n:Nat):(R9 n).length=(U9 9 n).length+1:=by exact LU
theorem aQ (n:Nat):(R9 n).length<=10:=by have:=qU 9 n;rw[fD];exact aX 0x60281412041400060241400 rfl this
theorem Bk: ∀(f n k:Nat),n<128^(f+1)->
  (∀m:V,N [QA m,QA (.int (k+(U9 f n).length:Nat))] Z)->
  UA (λQ Y Z=>wT P (RL P d) (.c .ge aa (.int 128)) Y Q (λJ J=>False) Z) (λN' B' C' Y Z=>a8 P (RL P d)
   (ss [.e 0 .shr (.int 7),.e 1 .add (.int 1)]) N' R B' C' (λJ J J=>False) Y Z) (f+1) N [QA (.int (n:Nat)),QA (.int (k:Nat))] Z:=by
 intro f
 induction f with
 |zero=>
  intro n k h q
  have h:n<128:=h
  exact FW (t:=decide ((128:Int)<=(n:Nat))) rfl (aS (aX 0x1CD5002002441842002400 rfl h)) (q _)
 |succ f ih=>
  intro n k h q
  rw[gD] at q
  by_cases a:n<128
  ·rw[L6 a] at q
   exact FW (t:=decide ((128:Int)<=(n:Nat))) rfl (aS (aX 0x1CD5002002441842002400 rfl a)) (q _)
  ·rw[L4 a] at q
   refine IA (t:=decide ((128:Int)<=(n:Nat))) rfl (iF (aX 0x1C15002002441902002400 rfl a)) (gx (i:=(n:Nat)) rfl ⟨by exact oR _,by decide,by decide,?_⟩)
   rw[show((n:Int).toNat>>>(7:Int).toNat:Nat)=n/128 from Fm n]
   refine gx (i:=(k:Nat)) rfl (ih (n/128) (k+1) (M7 (by rw[<- OH];exact h)) λm=>?_)
   have e:=q m
   rw[Mb,show k+((U9 f (n/128)).length+1)=k+1+(U9 f (n/128)).length by exact RW 0x62481481050012481050040 rfl] at e
   exact e
theorem f6 {d:Nat} {n:Nat} {X:Nat->H->Prop} (hn:n<2^64) (q:Q (.int (R9 n).length) Z):RL P (d+1) 6 [.int n] Q X Z:=by
 refine ao [QA (.int n),QC] rfl rfl (aO (cq (t:=decide ((n:Int)<0)) rfl (aS (aX 1946228032 rfl)) rfl) (aS (aX 0x745403FFFFFFFFFFFFFFFCB441841002680 rfl hn)) (aV rfl (ku (n:=10) (Bk (R:=Q) 9 n 1 (dO ‹_› (aT rfl)) λm=>?_))))
 rw[fD] at q
 rw[NA]
 exact aN rfl q
theorem AA: ∀(f n k:Nat),n<128^(f+1)->
  (∀m:V,N [QA m,QA (.int (k+(U9 f n).length:Nat))] Z)->
  UA (λQ Y Z=>wT P (RL P d) (.c .gt aa (.int 127)) Y Q (λJ J=>False) Z) (λN' B' C' Y Z=>a8 P (RL P d)
   (ss [.a 0 (.b .fdiv aa (.int 128)),.e 1 .add (.int 1)]) N' R B' C' (λJ J J=>False) Y Z) (f+1) N [QA (.int (n:Nat)),QA (.int (k:Nat))] Z:=by
 intro f
 induction f with
 |zero=>
  intro n k h q
  have h:n<128:=h
  exact FW (t:=decide ((127:Int)<(n:Nat))) rfl (aS (aX 0x1D15001FC2441842002400 rfl h)) (q _)
 |succ f ih=>
  intro n k h q
  rw[gD] at q
  by_cases g:n<128
  ·rw[L6 g] at q
   exact FW (t:=decide ((127:Int)<(n:Nat))) rfl (aS (aX 0x1D15001FC2441842002400 rfl g)) (q _)
  ·rw[L4 g] at q
   refine IA (t:=decide ((127:Int)<(n:Nat))) rfl (iF (aX 0x1C55001FC2441902002400 rfl g)) (av (show(0:Int)<128/\(128:Int)<1000000000/\_ from⟨by decide,by decide,?_⟩))
   rw[show(n:Int)/128=((n/128:Nat):Int) by exact rfl]
   refine gx (i:=(k:Nat)) rfl (ih (n/128) (k+1) (M7 (by rw[<- OH];exact h)) λm=>?_)
   have e:=q m
   rw[Mb,show k+((U9 f (n/128)).length+1)=k+1+(U9 f (n/128)).length by exact RW 0x62481481050012481050040 rfl] at e
   exact e
theorem Ez {d:Nat} {n:Nat} {X:Nat->H->Prop} (hn:n<2^64) (q:Q (.int (R9 n).length) Z):RL P (d+1) 116 [.int n] Q X Z:=by
 refine ao [QA (.int n),QC] rfl rfl (aV rfl (ku (n:=10) (AA (R:=Q) 9 n 1 (dO ‹_› (aT rfl)) λm=>?_)))
 rw[fD] at q
 rw[NA]
 exact aN rfl q
noncomputable abbrev rU (p:Nat):O:= .inst 17 [(2,.ref p)]
section
theorem Ky (h:Holds ((s,.inst 17 [])::wl) Z) (q: ∀p RM,Holds ((p,.SH [])::(s,rU p)::wl) RM->Q .none RM):RL P (d+1) 16 [.ref s] Q X Z:=by
 exact ao [QA (.ref s)] rfl rfl (bT (zR h λp RM h'=>(cM h' 1 rfl rfl rfl (by decide) λa b=>q p a b)))
theorem ja (h:Holds wl Z) (q: ∀s p RM,Holds ((p,.SH [])::(s,rU p)::wl) RM->Q (.ref s) RM):wE P (RL P (d+1)) (.new 17 QE .nil) Y Q X Z:=
 pK h rfl rfl λn RM h'=>Ky h' λp a b=>⟨rfl,q n p a b⟩
theorem qT (h:n<128):R9 n=[UInt8.ofNat ((n:Int).toNat)]:=eK h
theorem BG (h:Holds wl Z) (hp:wl[i]?=QA (p,.SH bs)) (hs:Z[s]?=QA (rU p)) (hn:n<2^64) (hl:bs.length<=900000) (q: ∀RM,Holds (wl.set i (p,.SH (bs++R9 n))) RM->Q .none RM):RL P (d+3) 17 [.ref s,.int n] Q X Z:=by
 refine ao [QA (.ref s),QA (.int n)] rfl rfl ?_
 have b:decide ((0:Int)<=(n:Nat))=QD:=iF (oR _)
 by_cases a:n<128
 ·rw[qT a] at q
  exact cL (cB (t:=decide ((0:Int)<=(n:Nat))) rfl b (v:= .bool (decide ((n:Int)<128))) rfl) (iF (aX 0x1C42002455001842002400 rfl a)) (ax (gN h i hp (af rfl hs rfl) rfl (oR _) (aX 0x1C44002455001842002400 rfl a) (VK ‹_› rfl) q))
 ·exact oY (cB (t:=decide ((0:Int)<=(n:Nat))) rfl b (v:= .bool (decide ((n:Int)<128))) rfl) (aS (aX 0x1D02002455001902002400 rfl a)) (ax (kW (af rfl hs rfl) (h.get i hp) (aC (vs:=[.int n]) rfl (j5 hn (aX 0x60002002401902002400 rfl a) λc=>(lG (h.app c) i hp (by have:=aQ n;exact RW 0x600F424011048100180A0500418036EE804400 rfl hl this) q)))))
theorem EF (h:Holds wl Z) (hp:wl[i]?=QA (p,.SH bs)) (hs:Z[s]?=QA (rU p)) (hb:b.length<128) (hl:bs.length<=900000) (q: ∀RM,Holds (wl.set i (p,.SH (bs++UInt8.ofNat b.length::b))) RM->Q .none RM)
  (hj:wl[j]?=QA (s,rU p)) (Sn:i≠j):RL P (d+2) 18 [.ref s,.RT b] Q X Z:=by
 refine ao [QA (.ref s),QA (.RT b)] rfl rfl (ax (kW (af rfl hs rfl) (h.get i hp) (aC (vs:=[.int (b.length:Nat)]) rfl (jg hb (lG (ys:=[UInt8.ofNat b.length]) h i hp (by show bs.length+1<=1000000;exact bY (M8 hl) (aT rfl)) λRM h'=>?_)))))
 have f:(wl.set i (p,.SH (bs++[UInt8.ofNat b.length])))[j]?=QA (s,rU p):=by rw[ML Sn];exact hj
 have c:(wl.set i (p,.SH (bs++[UInt8.ofNat b.length])))[i]?=QA (p,.SH (bs++[UInt8.ofNat b.length])):=L7 (ba hp)
 refine ax (kW (af rfl (h'.get j f) rfl) (h'.get i c) (ae RJ rfl (lG h' i c (by rw[LU,O0];exact RW 0x1803D090044120120414010600DBBA0110041842002400 rfl hb hl) λe a=>?_)))
 rw[NU,LV] at a
 exact q e a
theorem Kz (h:Holds wl Z) (hp:wl[i]?=QA (p,.SH bs)) (hs:Z[s]?=QA (rU p)) (hn:n<128) (hl:bs.length<=900000) (q: ∀RM,Holds (wl.set i (p,.SH (bs++[UInt8.ofNat n]))) RM->Q .none RM):RL P (d+1) 19 [.ref s,.int n] Q X Z:=by
 exact ao [QA (.ref s),QA (.int n)] rfl rfl (aO (cq (t:=decide ((n:Int)<0)) rfl (aS (aX 1946228032 rfl)) (v:= .bool (decide ((255:Int)<(n:Nat)))) rfl) (aS (aX 0x1D15003FC2441842002400 rfl hn)) (ax (gN h i hp (af rfl hs rfl) rfl (oR _) (aX 0x1C44002455001842002400 rfl hn) (VK ‹_› rfl) q)))
theorem FJ (h:Holds wl Z) (hp:wl[i]?=QA (p,.SH bs)) (hs:Z[s]?=QA (rU p)) (hl:bs.length<=900000) (q: ∀RM,Holds (wl.set i (p,.SH (bs++[if b then 1 else 0]))) RM->Q .none RM):RL P (d+1) 20 [.ref s,.bool b] Q X Z:=by
 refine ao [QA (.ref s),QA (.bool b)] rfl rfl ?_
 cases b with
 |true=>exact cL (t:=QD) rfl rfl (ax (gN h i hp (af rfl hs rfl) (n:=1) rfl (by decide) (by decide) (VK ‹_› rfl) q))
 |false=>exact oY (t:=QE) rfl rfl (ax (gN h i hp (af rfl hs rfl) (n:=0) rfl (by decide) (by decide) (VK ‹_› rfl) q))
theorem EG (hp:Z[p]?=QA (.SH bs)) (hs:Z[s]?=QA (rU p)) (q:Q (.RT bs) Z):RL P (d+1) 21 [.ref s] Q X Z:=by
 exact ao [QA (.ref s)] rfl rfl (aW (cz (aj (ae (.t aa 2) (af rfl hs rfl) (aE ⟨_,hp,q⟩)))))
end
end
section
noncomputable abbrev WV (data:List UInt8) (k:Nat):O:= .inst 16 [(0,.RT data),(1,.int k)]
theorem aB {a b:Nat} (h:Nat.ble a b=QD):a<=b:=aT h
theorem bc {d k:Nat} {i:Int} (e:i=k) (h:k<1000000000):bound d (.int i)=QA k:=by
 subst e
 unfold bound
 dsimp only
 rw[L6 ⟨by exact oR _,aX 0x7103C09B540061EE6B28005400 rfl h⟩];rfl
theorem kl {b:List UInt8} (q:Q (.RT b) Z):sW Z .bytes [.RT b] Q:=q
theorem ZM {l a b:List α} {k:Nat} (h:l.drop k=a++b):l.drop (k+a.length)=b/\k+a.length+b.length=l.length\/l.length<k/\a=[]/\b=[]:=by
 rcases MT l.length k with c|c
 ·rw[NK (MK ‹_›)] at h
  have:=By List.length h
  simp at this
  exact .inr ⟨c,Me (L2 (RW 0x60010021892040010 rfl this) (aX 25165840 rfl)),Me (L2 (RW 0x60010061892040010 rfl this) (aX 25165840 rfl))⟩
 ·refine .inl ⟨by rw[<- PA,h];simp,?_⟩
  have:=By List.length h
  simp at this
  exact iK 0x621120920430621120C0862482040 rfl this (iS (RW 6598143901760 rfl c))
theorem bq {l a b:List α} {k:Nat} (h:l.drop k=a++b) (ha:a≠[]):l.drop (k+a.length)=b/\k+a.length+b.length=l.length:=by
 rcases ZM h with h|h
 ·exact h
 ·exact(ha h.2.1).elim
theorem d7 (n:Nat):R9 n≠[]:=by simp[R9]
section
variable {Q:V->H->Prop}
theorem Kx (h:Holds ((c,.inst 16 [])::wl) Z) (q: ∀RM,Holds ((c,WV data 0)::wl) RM->Q .none RM):RL P (d+1) 10 [.ref c,.RT data] Q X Z:=by
 exact ao [QA (.ref c),QA (.RT data),QA (.int 0)] rfl rfl (aO (cq (t:=QE) rfl rfl (v:= .bool (decide ((data.length:Int)<0))) rfl) (aS (aX 1946228032 rfl)) (aG h 0 rfl rfl rfl rfl (aB rfl) λRM h'=>aG h' 0 rfl rfl rfl rfl (aB rfl) q))
theorem oa {Y:Env} {es:Es} (hs:jH P es Y Z=QA [.RT data]) (h:Holds wl Z) (q: ∀c RM,Holds ((c,WV data 0)::wl) RM->Q (.ref c) RM):wE P (RL P (d+1)) (.new 16 QE es) Y Q X Z:=
 pK h rfl hs λn RM h'=>Kx h' λa b=>⟨rfl,q n a b⟩
theorem Ia (hc:Z[c]?=QA (WV data k)) (q:Q (.int (data.length-k)) Z):RL P (d+1) 11 [.ref c] Q X Z:=
 ao [QA (.ref c)] rfl rfl (aN (aJ (cn (af rfl hc rfl) rfl) (af rfl hc rfl) rfl) q)
theorem ql (hc:Z[c]?=QA (WV data k)) (h0:Y[0]?=QA (QA (.ref c))) (h1:pe P RJ Y Z=QA (.int k)) (h:data[k]?=QA (UInt8.ofNat o)) (ho:o<256):
  pe P (.and (es [.c .lt RJ (.y .len (es [.t aa 0])),.c .lt (.sub (.t aa 0) RJ) (.int 128)])) Y Z=QA (.bool (decide (o<128))):=by
 have hk:=ba h
 have a:pe P (.t aa 0) Y Z=QA (.RT data):=af (by
  show(match Y[0]? with|some (QA v)=>QA v|_=> .none)=_
  rw[h0]) hc rfl
 have b:(((UInt8.ofNat o).toNat:Nat):Int)=(o:Nat):=By _ (Nx ho)
 refine cB (aH h1 (cn a rfl) rfl) (iF (Mo.mpr ‹_›)) (aH (bp a h1 (by rw[fB h,b])) rfl ?_)
 show QA (decide (((o:Nat):Int)<128))=_
 congr 1;simp only[decide_eq_decide];exact⟨λzh=>aX 0x1842002400071080091540 rfl zh,λzh=>aX 0x1C42002455001842002400 rfl zh⟩
theorem BF (h:Holds wl Z) (hc:wl[i]?=QA (c,WV data k)) (hn:n<2^64) (hd:data.drop k=R9 n++post) (q: ∀RM,Holds (wl.set i (c,WV data (k+(R9 n).length))) RM->Q (.int n) RM):RL P (d+3) 12 [.ref c] Q X Z:=by
 have b:=h.get i hc
 refine ao [QA (.ref c),QC,QC] rfl rfl (aV (af rfl b rfl) ?_)
 by_cases a:n<128
 ·have e:=eK a
  rw[e] at q hd
  have f:=(dp hd).1
  have l:(((UInt8.ofNat n).toNat:Nat):Int)=(n:Nat):=By _ (Nx (Oz a (by decide)))
  refine cL (ql b rfl rfl f (dO ‹_› (aT rfl))) (iF a) (aG h i hc rfl rfl rfl (aB rfl) λRM h'=>?_)
  have j:=h'.get i (L7 (ba hc))
  refine aN (bp (af rfl j rfl) rfl (by rw[fB f,l])) (q RM h')
 ·have p: ∃o,data[k]?=QA (UInt8.ofNat o)/\128<=o/\o<256:=by
   have g:=hd
   unfold R9 U9 at g
   rw[L4 a] at g
   exact⟨_,(dp g).1,by exact N0 _ _,aX 0x1844002412080090001842002400 rfl (M6 _ (by decide))⟩
  refine kE p λo f h1 m=>(aO (ql b rfl rfl f m) (aS (MN.mpr ‹_›)) (cD (aC (vs:=[.RT data,.int k]) (aA (af rfl b rfl) rfl) (jM hn (by exact aX 0x60002002401902002400 rfl a) hd ⟨by decide,rfl,?_⟩))))
  exact aG h i hc rfl rfl rfl (aB rfl) λRM h'=>aN rfl (q RM h')
theorem f9 (hb:b.length<128) (hd:data.drop k=UInt8.ofNat b.length::(b++post)) (hk:k<1000000) (q:Q (.tup [.RT b,.int (k+1+b.length:Nat)]) Z):RL P (d+2) 9 [.RT data,.int k] Q X Z:=by
 refine me (dp hd) λh1 g f=>?_
 have a:=(ZM f)
 have c:k+1+b.length+post.length=data.length:=by
  rcases a with a|a
  ·exact a.2
  ·exact L2 (bQ 0x200520D2092041400061481050001061040 rfl g a.1) (bQ 0x60483482481050040061481050040 rfl a.1)
 refine ao [QA (.RT data),QA (.int k),QC] rfl rfl (cD (aC (vs:=[.RT data,.int k]) rfl (iD hb hd ⟨by decide,rfl,?_⟩)))
 refine aO (t:=decide ((data.length:Int)<((k+1:Nat):Int)+(b.length:Nat))) rfl (aS (bQ 0x1D135415520414005430620D2092052041400 rfl c)) (aW (fS (aj (cz (aj (bN (v:= .RT data) rfl (u:= .int (k+1:Nat)) rfl (z:= .int (((k+1:Nat):Int)+(b.length:Nat))) rfl (⟨k+1,k+1+b.length,bc rfl (aX 0x187B9ACA00150481050001843D09004400 rfl hk),bc (rfl) (RW 0x61EE6B280054120120414010610F4240110041842002400 rfl hb hk),?_⟩)))))))
 have e:(data.take (k+1+b.length)).drop (k+1)=b:=by
  rw[Py,f,show k+1+b.length-(k+1)=b.length by exact SD 0x62080062482481050052481050040 rfl (iS (RW 0x60481481050012041400 rfl))];simp
 rw[e]
 exact aE (kl (aj (ae _ rfl q)))
theorem EE (h:Holds wl Z) (hc:wl[i]?=QA (c,WV data k)) (hb:b.length<128) (hd:data.drop k=UInt8.ofNat b.length::(b++post)) (hk:k<1000000) (q: ∀RM,Holds (wl.set i (c,WV data (k+1+b.length))) RM->Q (.RT b) RM):RL P (d+3) 13 [.ref c] Q X Z:=by
 have a:=h.get i hc
 refine ao [QA (.ref c),QC,QC] rfl rfl (cD (aC (vs:=[.RT data,.int k]) (aA (af rfl a rfl) (aA (af rfl a rfl) rfl)) (f9 hb hd hk ⟨by decide,rfl,?_⟩)))
 exact aG h i hc rfl rfl rfl (aB rfl) λRM h'=>aN rfl (q RM h')
theorem FH (h:Holds wl Z) (hc:wl[i]?=QA (c,WV data k)) (hd:data.drop k=(if t then 1 else 0)::post) (q: ∀RM,Holds (wl.set i (c,WV data (k+1))) RM->Q (.bool t) RM):RL P (d+1) 14 [.ref c] Q X Z:=by
 have a:=h.get i hc
 obtain⟨b,e,-⟩:=dp hd
 have f:data[k]?=QA (if t then 1 else 0):=b
 refine ao [QA (.ref c),QC] rfl rfl (aO (aH (af rfl a rfl) (cn (af rfl a rfl) rfl) rfl) (aS (RW 0x73540541061040 rfl e)) (aV (bp (af rfl a rfl) (af rfl a rfl) (fB f)) ?_))
 cases t with
 |true=>
  exact aO (t:=QE) rfl rfl (lS h i hc rfl rfl (ae (.int 1) rfl (lJ h i hc rfl (aB rfl) λRM h'=>aN rfl (q RM h'))))
 |false=>
  exact aO (t:=QE) rfl rfl (lS h i hc rfl rfl (ae (.int 1) rfl (lJ h i hc rfl (aB rfl) λRM h'=>aN rfl (q RM h'))))
theorem FI (hc:Z[c]?=QA (WV data k)) (hk:k<=data.length) (hl:data.length<1000000) (q:k=data.length->Q .none Z) (x:k≠data.length->X 2 Z):RL P (d+2) 15 [.ref c] Q X Z:=by
 refine ao [QA (.ref c)] rfl rfl ?_
 by_cases e:k=data.length
 ·exact aO (aH (af rfl hc rfl) (cn (af rfl hc rfl) rfl) rfl) (aS (RW 0x74541540862040 rfl e)) (aw (q e))
 ·exact cL (aH (af rfl hc rfl) (cn (af rfl hc rfl) rfl) rfl) (iF (RW 0x71541540061040 rfl (Mx (RW 6598143901760 rfl hk) e))) (ai rfl hc rfl rfl (Ia hc ⟨_,rfl,RW 0x1C14540541011061040 rfl (Mx (RW 6598143901760 rfl hk) e),RW 0x712540BE400191515055001843D09004400 rfl hl,x e⟩))
end
noncomputable abbrev fA (b:List UInt8):List UInt8:=UInt8.ofNat b.length::b
def SU:Option (List UInt8)->List UInt8
 | .none=>[0]
 |some b=>1::fA b
noncomputable def aY:Option (List UInt8)->V
 | .none=> .none
 |some b=> .RT b
section
theorem K3 (h:Holds wl Z) (hc:wl[i]?=QA (c,WV data k)) (hb: ∀x,b=QA x->x.length<128) (hd:data.drop k=SU b++post) (hk:k<900000) (q: ∀RM,Holds (wl.set i (c,WV data (k+(SU b).length))) RM->Q (aY b) RM):RL P (d+4) 46 [.ref c] Q X Z:=by
 refine ao [QA (.ref c)] rfl rfl (aK (ai rfl (h.get i hc) rfl rfl ?_))
 cases b with
 |none=>
  refine FH (t:=QE) h hc hd λRM h'=>cI rfl (aN rfl (q RM h'))
 |some x=>
  refine FH (t:=QD) (post:=fA x++post) h hc hd λRM h'=>iu rfl (aW ?_)
  have f:(wl.set i (c,WV data (k+1)))[i]?=QA (c,WV data (k+1)):=L7 (ba hc)
  refine ai rfl (h'.get i f) rfl rfl (EE h' f (hb x rfl) (post:=post) (dp hd).2.2 (aX 0x610F42401104810500018436EE804400 rfl hk) λg a=>?_)
  rw[NU] at a
  have e:k+(SU (QA x)).length=k+1+1+x.length:=by simp[SU];exact RW 0x62481481050481050012481050481050040 rfl
  rw[e] at q
  exact q g a
theorem Ii (h:Holds wl Z) (hp:wl[i]?=QA (p,.SH bs)) (hs:wl[j]?=QA (s,rU p)) (Sn:i≠j) (hb: ∀x,b=QA x->x.length<128) (hl:bs.length<=800000) (q: ∀RM,Holds (wl.set i (p,.SH (bs++SU b))) RM->Q .none RM):RL P (d+3) 45 [.ref s,aY b] Q X Z:=by
 refine ao [QA (.ref s),QA (aY b)] rfl rfl (ax ?_)
 cases b with
 |none=>
  exact ai rfl (h.get j hs) rfl (vs:=[.bool QE]) rfl (FJ h hp (h.get j hs) (VK ‹_› rfl) λRM h'=>aO (t:=QE) rfl rfl (aw (q RM h')))
 |some x=>
  refine ai rfl (h.get j hs) rfl (vs:=[.bool QD]) rfl (FJ h hp (h.get j hs) (VK ‹_› rfl) λRM h'=>cL (t:=QD) rfl rfl (ax ?_))
  have f:(wl.set i (p,.SH (bs++[1])))[i]?=QA (p,.SH (bs++[1])):=L7 (ba hp)
  have a:(wl.set i (p,.SH (bs++[1])))[j]?=QA (s,rU p):=by rw[ML Sn];exact hs
  refine ai rfl (h'.get j a) rfl rfl (EF h' f (h'.get j a) (hb x rfl) (by simp;exact VK ‹_› rfl) (λe c=>?_) a Sn)
  rw[NU,LV] at c
  exact q e c
end
end
section
noncomputable abbrev qY (r:Nat) (wt:Int):O:= .inst 18 [(3,.ref r),(4,.int wt)]
noncomputable abbrev opV (k:Nat) (key val:List UInt8):V:= .tup [.int k,.RT key,.RT val]
section
variable {d c i s p j n k b r:Nat}
theorem KG (h:Holds ((b,.inst 18 [])::wl) Z) (q: ∀r RM,Holds ((r,.list [])::(b,qY r 12)::wl) RM->Q .none RM):RL P (d+1) 22 [.ref b] Q X Z:=by
 exact ao [QA (.ref b)] rfl rfl (bT (dq h λr RM h'=>(cM h' 1 rfl rfl rfl (aB rfl) λSY c=>aG c 1 rfl rfl rfl rfl (aB rfl) λa e=>q r a e)))
theorem BX (h:Holds wl Z) (q: ∀b r RM,Holds ((r,.list [])::(b,qY r 12)::wl) RM->Q (.ref b) RM):wE P (RL P (d+1)) (.new 18 QE .nil) Y Q X Z:=
 pK h rfl rfl λn RM h'=>KG h' λr a c=>⟨rfl,q n r a c⟩
abbrev grown (wl:List (Nat×O)) (i j b r:Nat) (U5:Int) (ops:List V):List (Nat×O):=(wl.set i (b,qY r U5)).set j (r,.list ops)
theorem Ib (h:Holds wl Z) (hb:wl[i]?=QA (b,qY r wt)) (hr:wl[j]?=QA (r,.list ops)) (Sn:i≠j) (hk:k<2) (So:key.length<2^60) (Qx:val.length<2^60) (hl:ops.length<=1000000)
  (q: ∀U5 RM,Holds (grown wl i j b r U5 (ops++[opV k key val])) RM->Q .none RM):RL P (d+2) 25 [.ref b,.int k,.RT key,.RT val] Q X Z:=by
 refine ao [QA (.ref b),QA (.int k),QA (.RT key),QA (.RT val)] rfl rfl (lS h i hb rfl rfl (bz (bz (ae (.int 1) rfl (aC (vs:=[.int key.length]) rfl (f6 (dO ‹_› (aT rfl)) (ae (.y .len (es [ah])) rfl (lJ h i hb rfl (aB rfl) λRM h'=>?_))))))))
 have a: ∀(U5:Int) (Z:H),Holds (wl.set i (b,qY r U5)) Z->a8 P (RL P (d+1)) (ss [.expr (.append (.t aa 3) (.tup (es [RJ,ah,RN])))]) (λJ Z=>Q .none Z) Q (λJ J=>False) (λJ J=>False) (λc J Z=>X c Z) [QA (.ref b),QA (.int k),QA (.RT key),QA (.RT val)] Z:=by
  intro U5 Z h
  have m:(wl.set i (b,qY r U5))[j]?=QA (r,.list ops):=by rw[ML Sn];exact hr
  have f:(wl.set i (b,qY r U5))[i]?=QA (b,qY r U5):=L7 (ba hb)
  exact ax (eC h j m (af rfl (h.get i f) rfl) rfl hl λRM h'=>aw (q U5 RM h'))
 have f:(wl.set i (b,qY r (wt+(1+((R9 key.length).length:Nat)+(key.length:Nat)))))[i]?=QA (b,qY r (wt+(1+((R9 key.length).length:Nat)+(key.length:Nat)))):=L7 (ba hb)
 by_cases e:k=1
 ·subst e
  refine cL (t:=QD) rfl rfl (lS h' i f rfl rfl (bz (aC (vs:=[.int val.length]) rfl (f6 (dO ‹_› (aT rfl)) (ae (.y .len (es [RN])) rfl (lJ h' i f rfl (aB rfl) λl g=>?_))))))
  rw[NU] at g
  exact a _ l g
 ·exact aO (t:=decide (((k:Nat):Int)=1)) rfl (aS (aX 0x21D41051540061041400 rfl (Mx (aX 0x60041400061081400 rfl hk) e))) (a _ RM h')
theorem KH (h:Holds wl Z) (hb:wl[i]?=QA (b,qY r wt)) (hr:wl[j]?=QA (r,.list ops)) (Sn:i≠j) (So:key.length<2^60) (Qx:val.length<2^60) (hl:ops.length<=1000000)
  (q: ∀U5 RM,Holds (grown wl i j b r U5 (ops++[opV 1 key val])) RM->Q .none RM):RL P (d+3) 23 [.ref b,.RT key,.RT val] Q X Z:=by
 exact ao [QA (.ref b),QA (.RT key),QA (.RT val)] rfl rfl (ax (bU rfl (cA (h.get i hb)) rfl (aj (ae (.g 3) rfl (aj (cz (aj (ae RJ rfl (aE (kl (aj (cz (aj (ae ah rfl (aE (kl (aE (Ib (k:=1) h hb hr Sn (by decide) So Qx hl q))))))))))))))))))
theorem KJ (h:Holds wl Z) (hb:wl[i]?=QA (b,qY r wt)) (hr:wl[j]?=QA (r,.list ops)) (Sn:i≠j) (So:key.length<2^60) (hl:ops.length<=1000000)
  (q: ∀U5 RM,Holds (grown wl i j b r U5 (ops++[opV 0 key []])) RM->Q .none RM):RL P (d+3) 24 [.ref b,.RT key] Q X Z:=by
 exact ao [QA (.ref b),QA (.RT key)] rfl rfl (ax (bU rfl (cA (h.get i hb)) rfl (aj (ae (.g 2) rfl (aj (cz (aj (ae RJ rfl (aE (kl (aj (ae (.RT []) rfl (aE (Ib (k:=0) h hb hr Sn (by decide) So (by simp) hl q))))))))))))))
theorem KQ (hb:Z[b]?=QA (qY r wt)) (hr:Z[r]?=QA (.list ops)) (q:Q (.int ops.length) Z):RL P (d+1) 26 [.ref b] Q X Z:=
 ao [QA (.ref b)] rfl rfl (aN (jf (af rfl hb rfl) hr) q)
theorem KR (hb:Z[b]?=QA (qY r wt)) (hr:Z[r]?=QA (.list ops)) (q:Q (.list ops) Z):RL P (d+1) 27 [.ref b] Q X Z:=by
 refine ao [QA (.ref b)] rfl rfl (aW (cz (aj (ae (.t aa 3) (af rfl hb rfl) (aE ⟨ops,?_,q⟩)))))
 show(match Z[r]? with|some (.list vs)=>QA vs|_=>QC)=_
 rw[hr]
theorem Ik (h:Holds wl Z) (hn:n<128) (hb: ∀x,old=QA x->x.length<128) (q: ∀RM,Holds wl RM->Q (.RT (UInt8.ofNat n::SU old)) RM):RL P (d+4) 48 [.int n,aY old] Q X Z:=by
 exact ao [QA (.int n),QA (aY old),QC] rfl rfl (av (ja h λs p R8 b=>(ax (ai rfl (b.get 1 rfl) rfl rfl (Kz b (i:=0) rfl (b.get 1 rfl) hn (by simp) λSG e=>(ax (aC (vs:=[.ref s,aY old]) rfl (Ii e (i:=0) rfl (j:=1) rfl (by decide) hb (by simp) λc a=>(aW (ai rfl (a.get 1 rfl) rfl rfl (EG (a.get 0 rfl) (a.get 1 rfl) (q c a.tail.tail))))))))))))
def gZ (n:Nat) (t:Bool) (b:List UInt8):List UInt8:=R9 n++((if t then 1 else 0)::fA b)
theorem K6 (h:Holds wl Z) (hn:n<2^64) (hx:x.length<128) (q: ∀RM,Holds wl RM->Q (.RT (gZ n t x)) RM):RL P (d+4) 52 [.int n,.bool t,.RT x] Q X Z:=by
 refine ao [QA (.int n),QA (.bool t),QA (.RT x),QC] rfl rfl (av (ja h λs p R8 b=>?_))
 have e:=aQ n
 refine ax (ai rfl (b.get 1 rfl) rfl rfl (BG b (i:=0) rfl (b.get 1 rfl) hn (by simp) λSG c=>(ax (ai rfl (c.get 1 rfl) rfl rfl (FJ c (i:=0) rfl (c.get 1 rfl) (by simp;exact VK ‹_› rfl) λSX f=>(ax (ai rfl (f.get 1 rfl) rfl rfl (EF f (i:=0) rfl (f.get 1 rfl) hx (by simp;exact VK ‹_› rfl) (λg a=>?_) (j:=1) rfl (by decide)))))))))
 refine aW (ai rfl (a.get 1 rfl) rfl rfl (EG (a.get 0 rfl) (a.get 1 rfl) ?_))
 have:=q g a.tail.tail
 unfold gZ at this
 simpa using this
theorem Im (h:Holds wl Z) (hn:n<2^64) (hx:x.length<128) (q: ∀RM,Holds wl RM->Q (.tup [.int n,.bool t,.RT x]) RM):RL P (d+4) 53 [.RT (gZ n t x)] Q X Z:=by
 refine ao [QA (.RT (gZ n t x)),QC,QC,QC,QC] rfl rfl (av (oa rfl h λc R8 j=>?_))
 have e:=aQ n
 have f:(gZ n t x).drop 0=R9 n++((if t then 1 else 0)::fA x):=rfl
 have g:=(bq f (d7 n)).1
 refine av (ai rfl (j.get 0 rfl) rfl rfl (BF j (i:=0) rfl hn f λSG k=>(av (ai rfl (k.get 0 rfl) rfl rfl (FH k (i:=0) rfl g λSX l=>?_)))))
 have o:=(dp g).2.2
 refine av (ai rfl (l.get 0 rfl) rfl rfl (EE l (i:=0) rfl hx (post:=[]) (by simpa using o) (aX 0x610F4240110481050480010060281400 rfl e) λm b=>?_))
 have a:(gZ n t x).length=0+(R9 n).length+1+1+x.length:=by simp[gZ,fA];exact RW 0x62481481050481050012481050481050040 rfl
 refine ax (ai rfl (b.get 0 rfl) rfl rfl (FI (b.get 0 rfl) (SD 0x60012092041412041412040421892092041412041412040400 rfl a) (SD 0x1843D0900440206248048105048105048101008180A050041842002400 rfl hx e a) (λJ=>?_) (λe=>(e a.symm).elim)))
 exact aN rfl (q m b.tail)
end
end
section
def fV (kd cl nr:Nat) (key val:List UInt8) (ex:Option (List UInt8)):List UInt8:=R9 kd++(R9 cl++(R9 nr++(fA key++(fA val++SU ex))))
abbrev wc (kd cl nr:Nat) (key val:List UInt8) (ex:Option (List UInt8)):V:= .U1 23 [(7,.int kd),(16,.int cl),(17,.int nr),(18,.RT key),(19,.RT val),(20,aY ex)]
theorem m9 (h: ∀x,b=QA x->x.length<128):(SU b).length<=130:=by
 cases b with
 |none=>simp[SU]
 |some x=>have Ug:=h x rfl;simp[SU];exact MK ‹_›
theorem zN (hk:key.length<128) (hv:val.length<128) (he: ∀x,ex=QA x->x.length<128):(fV kd cl nr key val ex).length<=500:=by
 have b:=aQ kd;have c:=aQ cl;have d:=aQ nr;have a:=m9 he
 simp only[fV,LU,fA,Mb];exact Up 0x601F4090492492485481050052041400103081802082405060281404060281403060281402061080090041842002400 rfl hk hv b c d a
section
variable {d c i s p j n k kd cl nr:Nat}
theorem K2 (h:Holds ((c,.inst 23 [])::wl) Z) (q: ∀RM,Holds ((c,.inst 23 [(7,kdv),(16,clv),(17,nrv),(18,aA3),(19,aAi),(20,exv)])::wl) RM->Q .none RM):RL P (d+1) 43 [.ref c,kdv,clv,nrv,aA3,aAi,exv] Q X Z:=by
 exact ao [QA (.ref c),QA kdv,QA clv,QA nrv,QA aA3,QA aAi,QA exv] rfl rfl (aG h 0 rfl rfl rfl rfl (aB rfl) λR8 a=>aG a 0 rfl rfl rfl rfl (aB rfl) λSG b=>aG b 0 rfl rfl rfl rfl (aB rfl) λSX e=>(aG e 0 rfl rfl rfl rfl (aB rfl) λT6 f=>aG f 0 rfl rfl rfl rfl (aB rfl) λWL g=>aG g 0 rfl rfl rfl rfl (aB rfl) q))
theorem rR {Y:Env} {es:Es} (hs:jH P es Y Z=QA [.int kd,.int cl,.int nr,.RT key,.RT val,aY ex]) (h:Holds wl Z) (q: ∀RM,Holds wl RM->Q (wc kd cl nr key val ex) RM):wE P (RL P (d+1)) (.new 23 QD es) Y Q X Z:=
 kX h rfl hs λn RM h'=>K2 h' λSY a=>lI a q
theorem Ih (h:Holds wl Z) (Z8:kd<=6) (RZ:cl<2^64) (Xb:nr<2^64) (hk:key.length<128) (hv:val.length<128) (he: ∀x,ex=QA x->x.length<128) (q: ∀RM,Holds wl RM->Q (.RT (fV kd cl nr key val ex)) RM):RL P (d+4) 44 [wc kd cl nr key val ex] Q X Z:=by
 refine ao [QA (wc kd cl nr key val ex),QC] rfl rfl (aO (cq (t:=decide ((kd:Int)<0)) rfl (aS (aX 1946228032 rfl)) (v:= .bool (decide ((6:Int)<(kd:Nat)))) rfl) (aS (aX 0x1D15006051060181400 rfl Z8)) (av (ja h λs p R8 f=>jh ?_)))
 have a:=aQ kd;have b:=aQ cl;have e:=aQ nr
 refine ax (ai rfl (f.get 1 rfl) rfl rfl (BG f (i:=0) rfl (f.get 1 rfl) (qX ‹_› rfl) (by simp) λSG g=>(ax (ai rfl (g.get 1 rfl) rfl rfl (BG g (i:=0) rfl (g.get 1 rfl) RZ (by dsimp;exact VK ‹_› rfl) λSX k=>(ax (ai rfl (k.get 1 rfl) rfl rfl (BG k (i:=0) rfl (k.get 1 rfl) Xb (by simp;exact RW 0x18036EE804412040060281401060281400 rfl a b) λT6 l=>(ax (ai rfl (l.get 1 rfl) rfl rfl (EF l (i:=0) rfl (l.get 1 rfl) hk (by simp;exact SD 0x18036EE804412482040060281402060281401060281400 rfl a b e) (λWL m=>?_) (j:=1) rfl (by decide))))))))))))
 refine ax (ai rfl (m.get 1 rfl) rfl rfl (EF m (i:=0) rfl (m.get 1 rfl) hv (by simp;exact bQ 0x600DBBA01104924920414000C204180A0500C180A05008180A050041842002400 rfl hk a b e) (λXI r=>?_) (j:=1) rfl (by decide)))
 refine ax (aC (vs:=[.ref s,aY ex]) rfl (Ii r (i:=0) rfl (j:=1) rfl (by decide) he (by simp;exact iK 0x18030D40044124924810504920414010040C2060281404060281403060281402061080090041842002400 rfl hk hv a b e) λo c=>(aw (aW (ai rfl (c.get 1 rfl) rfl rfl (EG (c.get 0 rfl) (c.get 1 rfl) ?_))))))
 have n:=q o c.tail.tail
 dsimp only[fV] at n
 simpa using n
theorem FV (h:k+a=l) (hl:l<2000) (k2:Nat.ble 2000 M=QD):k<M:=MU (h▸LX _ _) (dO hl (aT k2))
theorem Ij (h:Holds wl Z) (Z8:kd<=6) (RZ:cl<2^64) (Xb:nr<2^64) (hk:key.length<128) (hv:val.length<128) (he: ∀x,ex=QA x->x.length<128) (hm:more.length<1000)
  (q:more=[]-> ∀RM,Holds wl RM->Q (wc kd cl nr key val ex) RM) (x:more≠[]-> ∀RM,Holds wl RM->X 14 RM):RL P (d+5) 47 [.RT (fV kd cl nr key val ex++more)] Q X Z:=by
 generalize y:fV kd cl nr key val ex++more=data
 have z:=zN (kd:=kd) (cl:=cl) (nr:=nr) hk hv he
 have j:data.length<2000:=by rw[<- y,LU];exact RW 0x185F4024120010601F409004184FA02400 rfl hm z
 clear z
 have n:data.drop 0=R9 kd++(R9 cl++(R9 nr++(fA key++(fA val++(SU ex++more))))):=by rw[<- y];simp[fV]
 have o:=bq n (d7 _)
 have p:=bq o.1 (d7 _)
 have k:=bq p.1 (d7 _)
 have f:=bq k.1 (by simp[fA])
 have a:=bq f.1 (by simp[fA])
 have b:=bq a.1 (by cases ex<;>simp[SU])
 have C:0+(R9 kd).length+(R9 cl).length+(R9 nr).length+(fA key).length=0+(R9 kd).length+(R9 cl).length+(R9 nr).length+1+key.length:=(OB _ _).symm
 rw[C] at f a b
 have D:0+(R9 kd).length+(R9 cl).length+(R9 nr).length+1+key.length+(fA val).length=0+(R9 kd).length+(R9 cl).length+(R9 nr).length+1+key.length+1+val.length:=(OB _ _).symm
 rw[D] at a b
 refine ao [QA (.RT data),QC,QC,QC,QC,QC,QC,QC] rfl rfl (jh (av (oa rfl h λc R8 r=>(av (ai rfl (r.get 0 rfl) rfl rfl (BF r (i:=0) rfl (qX ‹_› rfl) n λSG s=>(av (ai rfl (s.get 0 rfl) rfl rfl (BF s (i:=0) rfl RZ o.1 λSX u=>(av (ai rfl (u.get 0 rfl) rfl rfl (BF u (i:=0) rfl Xb p.1 λT6 v=>(av (ai rfl (v.get 0 rfl) rfl rfl (EE v (i:=0) rfl hk k.1 (FV k.2 j rfl) λWL w=>(av (ai rfl (w.get 0 rfl) rfl rfl (EE w (i:=0) rfl hv f.1 (FV f.2 j rfl) λXI B=>(av (aC (vs:=[.ref c]) rfl (K3 B (i:=0) rfl he a.1 (FV a.2 j rfl) λA g=>(ax (ai rfl (g.get 0 rfl) rfl rfl (FI (g.get 0 rfl) (b.2▸LX _ _) (dO j (aT rfl)) (λe=>?_) (λe=>?_)))))))))))))))))))))))))
 ·have l:more=[]:=Me (Nat.add_left_cancel (b.2.trans e.symm))
  exact aw (aO (t:=decide ((6:Int)<(kd:Nat))) rfl (aS (aX 0x1D15006051060181400 rfl Z8)) (aW (rR rfl g.tail (q l))))
 ·exact x (λl=>e (by have m:=b.2;rw[l,MX] at m;exact m)) A g.tail
theorem K4 (hk:key.length<900000) (q:Q (.RT (100::key)) Z):RL P (d+1) 49 [.RT key] Q X Z:=
 ao [QA (.RT key)] rfl rfl (aW (bz (ae (.g 19) rfl (ae aa rfl ⟨by dsimp;exact aX 0x600F42401104800414018436EE804400 rfl hk,q⟩))))
end
noncomputable def De (n:Nat):List UInt8:=[UInt8.ofNat (n&&&255),UInt8.ofNat ((n>>>8)&&&255),UInt8.ofNat ((n>>>16)&&&255),UInt8.ofNat (n>>>24)]
def TO (c:Nat):List UInt8:=115::(De (c&&&4294967295)++De (c>>>32)).reverse
section
variable {Q:V->H->Prop}
theorem q5 (n:Nat):n&&&255<256:=MU Nat.and_le_right (by decide)
theorem f7 (hn:n<2^32) (q:Q (.RT (De n)) Z):RL P (d+1) 7 [.int n] Q X Z:=by
 refine ao [QA (.int n)] rfl rfl (aO (cq (t:=decide ((n:Int)<0)) rfl (aS (aX 1946228032 rfl)) (v:= .bool (decide ((4294967295:Int)<(n:Nat)))) rfl) (aS (aX 0x1D15003FFFFFFFC6441840802680 rfl hn)) (aW (⟨by exact oR _,by decide,by exact oR _,by decide,by decide,oR _,by decide,by exact oR _,by decide,by decide,oR _,by decide,by exact oR _,by decide,by decide,?_⟩)))
 refine⟨[((n&&&255:Nat):Int),((n>>>8&&&255:Nat):Int),((n>>>16&&&255:Nat):Int),((n>>>24:Nat):Int)],rfl,?_,q⟩
 have b:=q5 n
 have c:=q5 (n>>>8)
 have g:=q5 (n>>>16)
 have j:n>>>24<256:=by rw[Nk];exact M7 hn
 intro i a
 simp only[tO,Mw,or_false] at a
 have f: ∀{m:Nat},m<256->i=m->0<=i/\i<256:=λh e=>e▸⟨oR _,Mo.mpr h⟩
 exact a.elim (f b) λe=>e.elim (f c) λe=>e.elim (f g) (f j)
theorem f8 (hn:n<2^64) (q:Q (.RT (De (n&&&4294967295)++De (n>>>32))) Z):RL P (d+2) 8 [.int n] Q X Z:=by
 refine ao [QA (.int n)] rfl rfl (aO (cq (t:=decide ((n:Int)<0)) rfl (aS (aX 1946228032 rfl)) (v:= .bool (decide ((0xFFFFFFFFFFFFFFFF:Int)<(n:Nat)))) rfl) (aS (aX 0x745403FFFFFFFFFFFFFFFCB441841002680 rfl hn)) (aW (bz (iU (⟨_,rfl,by exact oR _,by decide,?_⟩)))))
 refine aE (f7 (n:=n&&&4294967295) (MU Nat.and_le_right (by decide)) (iU (⟨by exact oR _,by decide,by decide,?_⟩)))
 exact aE (f7 (n:=n>>>32) (by rw[Nk];exact M7 hn) (⟨aB rfl,q⟩))
theorem Il (hn:n<2^64) (q:Q (.RT (TO n)) Z):RL P (d+3) 50 [.int n] Q X Z:=by
 refine ao [QA (.int n),QC] rfl rfl (av (aC (vs:=[.int n]) rfl (f8 hn (aW (bz (ae (.g 21) rfl (cz (aj (ae _ rfl (aE ?_))))))))))
 have e: ∀x:UInt8,UInt8.ofNat ((x.toNat:Int).toNat)=x:=λx=>by simp
 have c: ∀x:UInt8,0<=(x.toNat:Int)/\(x.toNat:Int)<256:=λx=>by have b:=x.toNat_lt;exact⟨aX 1884553233 rfl,aX 0x1C44002455001840202680 rfl b⟩
 refine⟨_,rfl,?_,by simp,?_⟩
 ·intro i a
  simp only[tO,Mw,or_false] at a
  rcases a with h|h|h|h|h|h|h|h<;>(rw[h];exact c _)
 ·simp only[List.map,e];exact q
end
end
section
section
variable {es:Es}
theorem iW (h:N Y Z):TG body ys [] N Y Z:=h
theorem cx (h: ∀K:Env->H->Prop,(∀Y Z,TG body [x] vs N Y Z->K Y Z)->body K N K (Y.set x (QA v)) Z):TG body [x] (v::vs) N Y Z:=h _ λJ J h=>h
theorem gO (h:body (TG body [x] vs N) N (TG body [x] vs N) (Y.set x (QA v)) Z):TG body [x] (v::vs) N Y Z:=h
theorem cS (hu:Z[x]?=QA (.list xs)):truth Z (.ref x)=QA (!xs.isEmpty):=by
 show(match Z[x]? with|some (.list vs)=>QA (!vs.isEmpty)|_=>QC)=_
 rw[hu]
theorem qk (h:pe p e Y Z=QA (.ref x)) (hu:Z[x]?=QA (.list xs)):pe p (.not e) Y Z=QA (.bool xs.isEmpty):=by
 show(pe p e Y Z).bind (λv=>(truth Z v).map λb=>V.bool (!b))=_
 rw[h]
 show(truth Z (.ref x)).map _=_
 rw[cS hu];exact By (λb=>QA (V.bool b)) (Bool.not_not _)
theorem oq (h:pe p e Y Z=QA u) (ht:truth Z u=QA QD) (h':lO p (.cons e' es) Y Z=QA v):pe p (.and (.cons e (.cons e' es))) Y Z=QA v:=by
 show(pe p e Y Z).bind _=_
 rw[h]
 show(truth Z u).bind _=_
 rw[ht];exact h'
theorem tW (h:pe p e Y Z=QA u) (ht:truth Z u=QA QE):pe p (.and (.cons e (.cons e' es))) Y Z=QA u:=by
 show(pe p e Y Z).bind _=_
 rw[h]
 show(truth Z u).bind _=_
 rw[ht];rfl
theorem AM (h:pe p c Y Z=QA v) (ht:truth Z v=QA QE) (k:a8 p cl r N R B C X Y Z):a8 p cl (.cons (.i c a .nil) r) N R B C X Y Z:=ae c h ⟨_,ht,k⟩
theorem pW (k:Nat):idx (k+1) (-1)=QA k:=by
 delta idx
 rw[L4 (λzh=>aX 0x34552041400581051070581051011 rfl zh.1 zh.2),L6 (⟨IQ 7765591855185 rfl,aX 0x1C16041456552041400 rfl⟩)]
 exact By (λx=>QA (Int.toNat x)) (Int.add_neg_cancel_right (k:Int) 1)
theorem lP (hu:Z[x]?=QA (.list (l++[y]))):je Z (.ref x) (.int (-1))=QA y:=by
 show(match Z[x]? with
  |some (.list vs)=>(idx vs.length (-1)).bind λj=>vs[j]?
  |_=> .none)=_
 rw[hu]
 show(idx (l++[y]).length (-1)).bind (λj=>(l++[y])[j]?)=_
 rw[LU,O0,pW]
 simp
end
noncomputable abbrev nats (l:List Nat):List V:=l.map λ(k:Nat)=>V.int k
theorem uT: ∀(l:List Nat),l.Pairwise (· < ·)->WE (l.map λ(k:Nat)=>(k:Int))=l.map λ(k:Nat)=>(k:Int):=λl=>l.rec (λJ=>rfl) λx r ih h=>by
  have h':=Nq.mp h
  show Qy x (WE (r.map _))=_
  rw[ih h'.2]
  cases r with
  |nil=>rfl
  |cons y t=>
   have a:=h'.1 y (.head _)
   show(if(y:Int)<x then _ else _)=_
   rw[L4 (by exact RW 0x74540541061040 rfl a)];rfl
theorem pX: ∀(l:List Nat),intsOf (nats l)=QA (l.map λ(k:Nat)=>(k:Int)):=λl=>l.rec (rfl) λx r ih=>by
  show(intsOf (nats r)).map _=_
  rw[ih];rfl
section
theorem qu: ∀(r acc:List Nat) (Z:H) (w:Option V),(acc++r).Pairwise (· < ·)->(acc++r).length<=1000000->Holds ((o,.list (nats acc))::wl) Z->
  (∀w RM,Holds ((o,.list (nats (acc++r)))::wl) RM->N [QA x0,QA (.ref o),w] RM)->
  TG (λN' B' C' Y Z=>a8 P (RL P d) (ss [.i (.or (es [.not RJ,.c .ne (.sub RJ (.int (-1))) ah])) (ss [.expr (.append RJ ah)]) .nil]) N' R B' C' (λJ J J=>False) Y Z) [2] (nats r) N [QA x0,QA (.ref o),w] Z:=by
 intro r
 induction r with
 |nil=>
  intro acc Z w e b h q
  rw[MC] at q
  exact q w Z h
 |cons y t ih=>
  intro acc Z w e b h q
  refine cx λK n=>?_
  have a:=h.get 0 rfl
  have g:pe P (.or (es [.not RJ,.c .ne (.sub RJ (.int (-1))) ah])) [QA x0,QA (.ref o),QA (.int y)] Z=QA (.bool QD):=by
   rcases Nn acc with rfl|⟨l,z,rfl⟩
   ·exact tZ (qk rfl a) rfl
   ·have p:z<y:=by
     have f:=List.pairwise_append.mp e
     exact f.2.2 z (by simp) y (.head _)
    have j:nats (l.concat z)=nats l++[V.int z]:=by simp[nats]
    rw[j] at a
    refine cq (qk rfl a) (by simp) (aH (bp rfl rfl (lP a)) rfl ?_)
    show QA (decide ((z:Int)≠y))=QA QD
    rw[iF (by exact RW 0x875541540061040 rfl p)]
  refine cL g rfl (ax (eC h 0 rfl rfl rfl (by simp at b ⊢;exact bY (LX _ _) ‹_›) λRM h'=>?_))
  have k:acc++y::t=(acc++[y])++t:=by simp
  rw[k] at e q b
  refine n _ _ (ih (acc++[y]) RM _ e b ?_ q)
  have m:nats (acc++[y])=nats acc++[V.int y]:=by simp[nats]
  rw[m];exact h'
theorem FK (h:Holds wl Z) (hp:ids.Pairwise (· < ·)) (hl:ids.length<60) (q: ∀RM,Holds wl RM->Q (.list (nats ids)) RM):RL P (d+1) 28 [.list (nats ids)] Q X Z:=by
 refine ao [QA (.list (nats ids)),QC,QC] rfl rfl (av (dq h λo a c=>dh (cz (aj (ae aa rfl (aE ⟨_,pX ids,by simpa using hl,?_⟩))))))
 rw[uT ids hp,Nz]
 refine⟨_,rfl,?_⟩
 exact qu (R:=Q) ids [] a _ hp (by dsimp;exact FD ‹_› rfl) c λw SG e=>(cO e rfl λb f=>aN rfl (q b f))
abbrev WO (A B C D:List Nat) (f:Bool):List (Nat×V):=[(10,.list (nats A)),(11,.list (nats B)),(12,.list (nats C)),(13,.list (nats D)),(14,.bool f)]
structure iI (l:List Nat):Prop where
 asc:l.Pairwise (· < ·)
 len:l.length<60
 lt: ∀x∈l,x<2^64
theorem KW {C:List Nat} (h:Holds ((c,.inst 21 [])::wl) Z) (hA:iI A) (hB:iI B') (hC:iI C) (hD:iI D) (q: ∀RM,Holds ((c,.inst 21 (WO A B' C D f))::wl) RM->Q .none RM):
  RL P (d+2) 36 [.ref c,.list (nats A),.list (nats B'),.list (nats C),.list (nats D),.bool f] Q X Z:=by
 exact ao [QA (.ref c),QA (.list (nats A)),QA (.list (nats B')),QA (.list (nats C)),QA (.list (nats D)),QA (.bool f)] rfl rfl (bT (aC (vs:=[.list (nats A)]) rfl (FK h hA.asc hA.len λi a=>cM a 0 rfl rfl rfl (aB rfl) λi a=>(bT (aC (vs:=[.list (nats B')]) rfl (FK a hB.asc hB.len λj b=>cM b 0 rfl rfl rfl (aB rfl) λj b=>(bT (aC (vs:=[.list (nats C)]) rfl (FK b hC.asc hC.len λk e=>cM e 0 rfl rfl rfl (aB rfl) λk e=>(bT (aC (vs:=[.list (nats D)]) rfl (FK e hD.asc hD.len λl g=>cM g 0 rfl rfl rfl (aB rfl) λl g=>(aG g 0 rfl rfl rfl rfl (aB rfl) q)))))))))))))
theorem n9 {C:List Nat} {Y:Env} {es:Es} (hs:jH P es Y Z=QA [.list (nats A),.list (nats B'),.list (nats C),.list (nats D),.bool f]) (h:Holds wl Z) (hA:iI A) (hB:iI B') (hC:iI C) (hD:iI D)
  (q: ∀RM,Holds wl RM->Q (.U1 21 (WO A B' C D f)) RM):wE P (RL P (d+2)) (.new 21 QD es) Y Q X Z:=
 kX h rfl hs λn RM h'=>KW h' hA hB hC hD λSY a=>lI a q
def VJ (l:List Nat):List UInt8:=R9 l.length++(l.map R9).flatten
theorem yi: ∀(r:List Nat) (bs:List UInt8) (Z:H) (w:Option V),(∀x∈r,x<2^64)->bs.length+10*r.length<=800000->Holds ((p,.SH bs)::(s,rU p)::wl) Z->
  (∀w RM,Holds ((p,.SH (bs++(r.map R9).flatten))::(s,rU p)::wl) RM->N [QA (.ref s),QA x0,w] RM)->
  TG (λN' B' C' Y Z=>a8 P (RL P (d+3)) (ss [.expr (.m aa 2 (es [ah]))]) N' R B' C' (λJ J J=>False) Y Z) [2] (nats r) N [QA (.ref s),QA x0,w] Z:=by
 intro r
 induction r with
 |nil=>
  intro bs Z w b a h q
  refine q w Z ?_
  simpa using h
 |cons y t ih=>
  intro bs Z w b a h q
  have e:=aQ y
  dsimp only[Mb] at a
  refine cx λK j=>(ax (ai rfl (h.get 1 rfl) rfl rfl (BG h (i:=0) rfl (h.get 1 rfl) (b y (.head _)) (RW 0x600DBBA01100018030D4004412299481050040 rfl a) λRM h'=>(j _ _ (ih (bs++R9 y) RM _ (λx g=>b x (.tail _ g)) (by simp;exact SD 0x600C350011048A64148200180A0500818030D4004412299481050040 rfl a e) h' λw c f=>q w c ?_)))))
  simpa using f
theorem FL (h:Holds ((p,.SH bs)::(s,rU p)::wl) Z) (hA:iI A) (hl:bs.length<=700000) (q: ∀RM,Holds ((p,.SH (bs++VJ A))::(s,rU p)::wl) RM->Q .none RM):RL P (d+4) 38 [.ref s,.list (nats A)] Q X Z:=by
 have a:=hA.len
 refine ao [QA (.ref s),QA (.list (nats A)),QC] rfl rfl ?_
 have e:=aQ A.length
 refine ax (ai rfl (h.get 1 rfl) rfl (vs:=[.int A.length]) (aA (cn rfl (by show QA (V.int ((nats A).length:Nat))=_;simp)) rfl) (BG h (i:=0) rfl (h.get 1 rfl) (dO ‹_› (aT rfl)) (VK ‹_› rfl) λb f=>(dh (ae RJ rfl ⟨nats A,rfl,?_⟩))))
 refine yi (R:=Q) A _ b _ hA.lt (by simp;exact SD 0x600C350011048A64148200180A05008A87C050041802AB9804400 rfl hl a e) f λw c g=>aw (q c ?_)
 rw[VJ,<- LV];exact g
def Ra (A B C D:List Nat) (f:Bool):List UInt8:=VJ A++(VJ B++(VJ C++(VJ D++[if f then 1 else 0])))
theorem pN: ∀(l:List Nat),l.length<=((l.map R9).flatten).length/\((l.map R9).flatten).length<=10*l.length:=λl=>l.rec (by decide) λx r ih=>by
  have b:=ih
  have a:=aQ x
  have c:=fD x
  simp only[L0,OJ,LU,Mb];exact⟨bQ 0x604810920414008624810500C2060040 rfl b.1 c,SD 0x60299481050052002060281402060299040 rfl b.2 a⟩
theorem eS (l:List Nat) (h:l.length<60):(VJ l).length<=700:=by
 have a:=pN l
 have b:=aQ l.length
 simp only[VJ,LU];exact SD 0x180AF024120420602814020602990012A1F01400 rfl h a.2 b
theorem K0 {C:List Nat} (h:Holds wl Z) (hA:iI A) (hB:iI B') (hC:iI C) (hD:iI D) (q: ∀RM,Holds wl RM->Q (.RT (Ra A B' C D f)) RM):RL P (d+5) 40 [.U1 21 (WO A B' C D f)] Q X Z:=by
 refine ao [QA (.U1 21 (WO A B' C D f)),QC] rfl rfl ?_
 have b:=eS A hA.len;have c:=eS B' hB.len;have j:=eS C hC.len;have k:=eS D hD.len
 refine av (ja h λs p R8 m=>(ax (aC (vs:=[.ref s,.list (nats A)]) rfl (FL m hA (by decide) λSG n=>(ax (aC (vs:=[.ref s,.list (nats B')]) rfl (FL n hB (by dsimp;exact VK ‹_› rfl) λSX o=>(ax (aC (vs:=[.ref s,.list (nats C)]) rfl (FL o hC (by simp;exact RW 0x1802AB98044120400602BC09004180AF02400 rfl b c) λT6 r=>(ax (aC (vs:=[.ref s,.list (nats D)]) rfl (FL r hD (by simp;exact SD 0x600AAE6011049208100180AF024020602BC09004180AF02400 rfl b c j) λWL e=>(ax (ai rfl (e.get 1 rfl) rfl rfl (FJ e (i:=0) rfl (e.get 1 rfl) (by simp;exact bQ 0x18036EE8044124920C20400602BC0900C180AF024020602BC09004180AF02400 rfl b c j k) λl a=>(aW (ai rfl (a.get 1 rfl) rfl rfl (EG (a.get 0 rfl) (a.get 1 rfl) ?_)))))))))))))))))))
 have g:=q l a.tail.tail
 dsimp only[Ra] at g
 simpa using g
end
end
section
section
theorem j4 (q:Q (decide (b<a))):cP Z .gt (.int a) (.int b) Q:=q
theorem uV (q:Q (decide (a<b))):cP Z .lt (.int a) (.int b) Q:=q
theorem EY (q:Q (decide (a<=b))):cP Z .le (.int a) (.int b) Q:=q
theorem Au (q:Q (decide (a=b))):cP Z .eq (.int a) (.int b) Q:=q
end
section
theorem KS (h:Holds wl Z) (hc:wl[i]?=QA (c,WV data k)) (hn:n<2^64) (hd:data.drop k=R9 n++post) (hp:n<=post.length) (q: ∀RM,Holds (wl.set i (c,WV data (k+(R9 n).length))) RM->Q (.int n) RM):RL P (d+4) 29 [.ref c] Q X Z:=by
 refine ao [QA (.ref c),QC] rfl rfl (av (ai rfl (h.get i hc) rfl rfl (BF h hc hn hd λf a=>?_)))
 have b:(wl.set i (c,WV data (k+(R9 n).length)))[i]?=QA (c,WV data (k+(R9 n).length)):=L7 (ba hc)
 have e:=(bq hd (d7 _)).2
 exact aK (bh (ae RJ rfl (ai rfl (a.get i b) rfl rfl (Ia (a.get i b) (j4 (cI (aS (iK 0x1D150145520C25440621120520C2060040 rfl hp e)) (aN rfl (q f a))))))))
theorem vy: ∀(r acc:List Nat) (k:Nat) (vs:List V) (Z:H) (w w':Option V),vs.length=r.length->(acc++r).Pairwise (· < ·)->(∀x∈r,x<2^64)->(acc++r).length<=1000000->
  data.drop k=(r.map R9).flatten++post->Holds ((o,.list (nats acc))::wl) Z->wl[i]?=QA (c,WV data k)->
  (∀w w' RM,Holds ((o,.list (nats (acc++r)))::wl.set i (c,WV data (k+((r.map R9).flatten).length))) RM->N [QA (.ref c),QA (.ref o),w,w'] RM)->
  TG (λN' B' C' Y Z=>a8 P (RL P (d+3)) (ss [.a 3 (.m aa 2 .nil),.i (.and (es [RJ,.c .le RN (.sub RJ (.int (-1)))])) (ss [.k]) .nil,.expr (.append RJ RN)]) N' R B' C' (λJ J J=>False) Y Z) [2] vs N [QA (.ref c),QA (.ref o),w,w'] Z:=by
 intro r
 induction r generalizing wl with
 |nil=>
  intro acc k vs Z w w' s p B n g h b q
  rw[Me s]
  rw[MC] at q
  have e:wl.set i (c,WV data k)=wl:=by
   refine ON λj=>?_
   by_cases e:i=j
   ·subst e;rw[L7 (ba b),b]
   ·rw[ML e]
  refine q w w' Z ?_
  simp only[List.map_nil,List.flatten_nil,MX,Qd,e];exact h
 |cons y t ih=>
  intro acc k vs Z w w' s p B n g h b q
  cases vs with
  |nil=>simp at s
  |cons v vs=>
   simp only[L0,OJ,LV] at g
   refine cx λK U=>(av (ai rfl (h.get (i+1) b) rfl rfl (BF h (i:=i+1) b (B y (.head _)) g λA S=>?_)))
   have I:=(bq g (d7 _)).1
   have C:Holds ((o,.list (nats acc))::wl.set i (c,WV data (k+(R9 y).length))) A:=S
   have f:=C.get 0 rfl
   have L: ∃u,pe P (.and (es [RJ,.c .le RN (.sub RJ (.int (-1)))])) [QA (.ref c),QA (.ref o),QA v,QA (.int y)] A=QA u/\truth A u=QA QE:=by
    rcases Nn acc with rfl|⟨l,z,rfl⟩
    ·exact⟨_,tW rfl (cS f),cS f⟩
    ·have hz:z<y:=by
      have:=List.pairwise_append.mp p
      exact this.2.2 z (by simp) y (.head _)
     have M:nats (l.concat z)=nats l++[V.int z]:=by simp[nats]
     rw[M] at f
     refine⟨.bool QE,oq rfl (by rw[cS f];simp) (aH rfl (bp rfl rfl (lP f)) ?_),rfl⟩
     show QA (decide ((y:Int)<=z))=QA QE
     rw[aS (by exact RW 0x73540541061040 rfl hz)]
   refine aU L λu X W=>(AM X W (ax (eC C 0 rfl rfl rfl (by simp at n ⊢;exact bY (LX _ _) ‹_›) λE T=>?_)))
   have O:acc++y::t=(acc++[y])++t:=by simp
   rw[O] at p q n
   have Q:nats (acc++[y])=nats acc++[V.int y]:=by simp[nats]
   refine U _ _ (ih (wl:=wl.set i (c,WV data (k+(R9 y).length))) (acc++[y]) (k+(R9 y).length) vs E _ _ (by simpa using s) p (λx G=>B x (.tail _ G)) n I ?_ (L7 (ba b)) λw w' F D=>q w w' F ?_)
   ·rw[Q];exact T
   ·rw[NU] at D
    simp only[L0,OJ,LU,<- NT];exact D
theorem FN (h:Holds wl Z) (hc:wl[i]?=QA (c,WV data k)) (hA:iI A) (hd:data.drop k=VJ A++post) (q: ∀RM,Holds (wl.set i (c,WV data (k+(VJ A).length))) RM->Q (.list (nats A)) RM):RL P (d+5) 39 [.ref c] Q X Z:=by
 have n:=hA.len
 have f:=pN A
 rw[VJ,LV] at hd
 refine ao [QA (.ref c),QC,QC,QC] rfl rfl (av (dq h λo R8 j=>dh (cz (aj (aC (vs:=[.ref c]) rfl (KS j (i:=i+1) hc (dO ‹_› (aT rfl)) hd (by simp only[LU];exact SD 0x60482040060040 rfl f.1) λb l=>(aE ⟨aX 0x710F4240111540061F01400 rfl n,aX 0x1C550160F4240111 rfl,_,rfl,?_⟩)))))))
 have g:=(bq hd (d7 _)).1
 refine vy (R:=Q) (wl:=wl.set i (c,WV data (k+(R9 A.length).length))) A [] _ _ b _ _ (by simp[eF]) hA.asc hA.lt (by simp;exact FD ‹_› rfl) g l (L7 (ba hc)) λw w' SX m=>?_
 refine cO m rfl λe a=>aN rfl (q e ?_)
 rw[NU] at a
 simp only[VJ,LU,<- NT];exact a
theorem K1 (h:Holds wl Z) (hA:iI A) (hB:iI B') (hC:iI C) (hD:iI D) (q: ∀RM,Holds wl RM->Q (.U1 21 (WO A B' C D f)) RM):RL P (d+6) 41 [.RT (Ra A B' C D f)] Q X Z:=by
 generalize v:Ra A B' C D f=data
 have l1:=eS A hA.len;have l2:=eS B' hB.len;have w:=eS C hC.len;have x:=eS D hD.len
 have b: ∀l,VJ l≠[]:=λl e=>by have:=By List.length e;simp[VJ,fD] at this
 have g:data.drop 0=VJ A++(VJ B'++(VJ C++(VJ D++[if f then 1 else 0]))):=by rw[<- v];rfl
 have j:=bq g (b _)
 have k:=bq j.1 (b _)
 have m:=bq k.1 (b _)
 have n:=bq m.1 (b _)
 have e5:(if f then 1 else 0:UInt8)::[]=(if f then 1 else 0)::([]:List UInt8):=rfl
 have a:=n.2
 rw[O0] at a
 refine ao [QA (.RT data),QC,QC,QC,QC,QC,QC] rfl rfl (av (oa rfl h λc R8 r=>(av (aC (vs:=[.ref c]) rfl (FN r (i:=0) rfl hA g λSG s=>(av (aC (vs:=[.ref c]) rfl (FN s (i:=0) rfl hB j.1 λSX t=>(av (aC (vs:=[.ref c]) rfl (FN t (i:=0) rfl hC k.1 λT6 u=>(av (aC (vs:=[.ref c]) rfl (FN u (i:=0) rfl hD m.1 λWL p=>(av (ai rfl (p.get 0 rfl) rfl rfl (FH p (i:=0) rfl n.1 λXI o=>(ax (ai rfl (o.get 0 rfl) rfl rfl (FI (o.get 0 rfl) (MB a) (by clear n m k j g;exact iK 0x610F42401101218844810504834824814800100602BC0900C180AF024020602BC09004180AF02400 rfl l1 l2 w x a) (λJ=>?_) (λe=>(e (by assumption)).elim)))))))))))))))))))))
 exact aW (n9 rfl o.tail hA hB hC hD q)
theorem KZ (q:Q (.tup [.tup (nats A),.tup (nats B'),.tup (nats C),.tup (nats D),.bool f]) Z):RL P (d+1) 37 [.U1 21 (WO A B' C D f)] Q X Z:=by
 refine ao [QA (.U1 21 (WO A B' C D f))] rfl rfl (aW (fS (aj (cz (aj (ae (.t aa 10) rfl (aE ⟨_,rfl,?_⟩)))))))
 refine aj (cz (aj (ae (.t aa 11) rfl (aE ⟨_,rfl,?_⟩))))
 refine aj (cz (aj (ae (.t aa 12) rfl (aE ⟨_,rfl,?_⟩))))
 refine aj (cz (aj (ae (.t aa 13) rfl (aE ⟨_,rfl,?_⟩))))
 exact aj (ae (.t aa 14) rfl (aE q))
noncomputable def uq (l:List UInt8):Nat:=l.foldl (λa o=>a*256+o.toNat) 0
theorem zK: ∀(r:List UInt8) (a:Nat) (w:Option V),(a+1)*256^r.length<=2^64->(∀w,N [QA x0,QA (.int (r.foldl (λa o=>a*256+o.toNat) a:Nat)),w] Z)->
  TG (λN' B' C' Y Z=>a8 P (RL P d) (ss [.a 1 (.b .bor (.b .shl RJ (.int 8)) ah)]) N' R B' C' (λJ J J=>False) Y Z) [2] (r.map λx=>V.int x.toNat) N [QA x0,QA (.int a),w] Z:=by
 intro r
 induction r with
 |nil=>intro a w f q;exact q w
 |cons y t ih=>
  intro a w f q
  have j:=y.toNat_lt
  have c:(a+1)*256*256^t.length<=2^64:=by
   rw[Nat.mul_assoc,<- OH];exact f
  have h:0<256^t.length:=Nat.pow_pos (by decide)
  have Wr:(a+1)*256<=2^64:=bY (Nat.le_mul_of_pos_right _ h) c
  refine cx λK g=>(av (bz (bz (ae RJ rfl (ae (.int 8) rfl ⟨by exact oR _,by lia,by decide,by decide,?_⟩)))))
  refine ae ah rfl ⟨oR _,oR _,?_⟩
  have e:(((((a:Int).toNat<<<(8:Int).toNat:Nat):Int).toNat|||((y.toNat:Nat):Int).toNat):Nat)=a*256+y.toNat:=by
   show(a<<<8)|||y.toNat=_
   have:=Oo (i:=8) (b:=y.toNat) (by assumption) a
   rw[O7,PX,<- this]
  rw[e]
  exact g _ _ (ih (a*256+y.toNat) _ (bY (Nat.mul_le_mul_right _ (by rw[Nat.succ_mul];exact BY j _)) c) q)
theorem K5 (hk:key.length=9) (q:Q (.int (uq (key.drop 1))) Z):RL P (d+1) 51 [.RT key] Q X Z:=by
 refine ao [QA (.RT key),QC,QC] rfl rfl (aV rfl (dh (bN (v:= .RT key) rfl (u:= .int 1) rfl (z:= .none) rfl ⟨1,key.length,bc rfl (by decide),rfl,?_⟩)))
 rw[L5]
 refine⟨_,rfl,?_⟩
 exact zK (R:=Q) (key.drop 1) 0 _ (by simp[hk]) λw=>aN rfl q
end
end
section
section
variable [DecidableEq α] {kf:α->V}
noncomputable abbrev gV (kf:α->V) (vf:β->V) (m:List (α×β)):List (V×V):=m.map λp=>(kf p.1,vf p.2)
noncomputable def RQ (m:List (α×β)) (x:α):Option β:=(m.find? λp=>p.1=x).map (·.2)
noncomputable def TA (m:List (α×β)) (x:α) (v:β):List (α×β):=if m.any (λp=>p.1=x) then m.map (λp=>if p.1=x then(p.1,v) else p) else m++[(x,v)]
noncomputable def j3 (m:List (α×β)) (x:α):List (α×β):=m.filter λp=> ¬(p.1=x)
variable (inj: ∀a b,kf a=kf b->a=b)
include inj
theorem ta (a b:α) [Decidable (kf a=kf b)]:decide (kf a=kf b)=decide (a=b):=by
 rw[decide_eq_decide]
 exact⟨inj a b,λe=>by rw[e]⟩
open Classical in
theorem gj (m:List (α×β)) (x:α):T4 (gV kf vf m) (kf x)=(RQ m x).map vf:=by
 delta T4 RQ
 rw[List.find?_map,Option.map_map,Option.map_map]
 have:((λp:V×V=>decide (p.1=kf x))∘λp:α×β=>(kf p.1,vf p.2))=λp=>decide (p.1=x):=funext λp=>ta inj p.1 x
 rw[this];rfl
open Classical in
theorem ik (m:List (α×β)) (x:α) (v:β):dput (gV kf vf m) (kf x) (vf v)=gV kf vf (TA m x v):=by
 delta dput TA
 have a:(gV kf vf m).any (λp=>decide (p.1=kf x))=m.any λp=>decide (p.1=x):=by
  rw[List.any_map]
  congr 1
  exact funext λp=>ta inj p.1 x
 rw[a]
 split
 ·rw[Nz,gV,Nz]
  refine Ng λp J=>?_
  show(if kf p.1=kf x then _ else _)=(λp:α×β=>(kf p.1,vf p.2)) (if p.1=x then _ else _)
  by_cases e:p.1=x
  ·rw[L6 e,L6 (by rw[e])]
  ·rw[L4 e,L4 λh=>e (inj _ _ h)]
 ·simp
open Classical in
theorem CA (m:List (α×β)) (x:α):ZL (gV kf vf m) (kf x)=gV kf vf (j3 m x):=by
 delta ZL j3
 rw[gV,PY]
 congr 1
 refine List.filter_congr λp J=>?_
 show decide (¬kf p.1=kf x)=decide (¬p.1=x)
 rw[decide_eq_decide]
 exact⟨λh e=>h (by rw[e]),λh e=>h (inj _ _ e)⟩
omit inj [DecidableEq α] in
theorem xu (m:List (α×β)) (x:α) (hk: ∀a b,kindOf (kf a)=kindOf (kf b)) (h0:kindOf (kf x)≠0):ir (gV kf vf m) (kf x):=
 ⟨h0,λp c=>by
  obtain⟨q,-,rfl⟩:=L8.mp c
  exact hk _ _⟩
end
abbrev B8:=List UInt8
abbrev BD:=List (B8×B8)
abbrev dV (D:BD):List (V×V):=gV V.RT V.RT D
theorem cj (a b:B8) (h:V.RT a=V.RT b):a=b:=V.RT.inj h
theorem p4 (D:BD) (x:B8):ir (dV D) (.RT x):=xu D x (λJ J=>rfl) (Nat.succ_ne_zero 2)
theorem pT [DecidableEq α] (m:List (α×β)) (x:α) (v:β):(TA m x v).length<=m.length+1:=by
 delta TA;split<;>simp
theorem wZ [DecidableEq α] (m:List (α×β)) (x:α):(j3 m x).length<=m.length:=List.length_filter_le ..
noncomputable def yt:List (V×V)->Nat->Bool
 |[],J=>QE
 |(.str k,_)::r,n=>(k==n)||yt r n
 |_::_,_=>QE
noncomputable def AW:List (V×V)->Nat->V->List (V×V)
 |[],J,J0=>[]
 |(.str k,u)::r,n,v=>(.str k,bif k==n then v else u)::AW r n v
 |q::r,_,_=>q::r
def Wc (m:List (V×V)) (n:Nat) (v:V):List (V×V):=bif yt m n then AW m n v else m++[(.str n,v)]
open Classical in
theorem AR: ∀(m:List (V×V)) (n:Nat),fY m=QD->m.any (λp=>decide (p.1=V.str n))=yt m n:=λl=>l.rec (λn J=>rfl) λx r ih n h=>oK h λk a h=>by
  obtain⟨_,u⟩:=x
  subst a
  show(decide (V.str k=V.str n)||r.any _)=((k==n)||yt r n)
  rw[ih n h]
  congr 1
  by_cases e:k=n<;>simp[e]
open Classical in
theorem AX: ∀(m:List (V×V)) (n:Nat) (v:V),fY m=QD->m.map (λp=>if p.1=V.str n then(p.1,v) else p)=AW m n v:=λl=>l.rec (λn v J=>rfl) λx r ih n v h=>oK h λk b h=>by
  obtain⟨_,u⟩:=x
  subst b
  show(if V.str k=V.str n then(V.str k,v) else(V.str k,u))::r.map _=_
  rw[ih n v h]
  show _=(V.str k,bif k==n then v else u)::AW r n v
  by_cases e:k=n
  ·simp[e]
  ·have a:(k==n)=QE:=by simpa using e
   rw[a,L4 (by simpa using e)];rfl
open Classical in
theorem Ba (m:List (V×V)) (n:Nat) (v:V) (h:fY m=QD):dput m (.str n) v=Wc m n v:=by
 delta dput Wc
 rw[AR m n h,AX m n v h]
 cases yt m n<;>rfl
section
def sO (K:H->Prop) (u w k:V) (Z:H):Prop:= ∃r' kvs,w= .ref r'/\Z[r']?=QA (.dict kvs)/\ir kvs k/\kvs.length<=1000000/\K (Z.set r' (.dict (dput kvs k u)))
theorem dZ (h:wE p cl w Y (λu Z=>wE p cl e Y (λw Z=>wE p cl i Y (λk Z=>sO (λZ=>a8 p cl r N R B C X Y Z) u w k Z) (λc=>X c Y) Z) (λc=>X c Y) Z) (λc=>X c Y) Z):a8 p cl (.cons (.C e i w) r) N R B C X Y Z:=h
theorem gr (h:Holds wl Z) (i:Nat) (hi:wl[i]?=QA (x,.dict kvs)) (hk:ir kvs k) (hl:kvs.length<=1000000) (q: ∀RM,Holds (wl.set i (x,.dict (dput kvs k u))) RM->K RM):sO K u (.ref x) k Z:=
 ⟨_,_,rfl,h.get i hi,hk,hl,q _ (h.set i hi)⟩
theorem d5 (h:Holds wl Z) (i:Nat) (hi:wl[i]?=QA (x,.dict kvs)) (hk:fY kvs=QD) (hl:kvs.length<=1000000) (q: ∀RM,Holds (wl.set i (x,.dict (Wc kvs n u))) RM->K RM):sO K u (.ref x) (.str n) Z:=
 gr h i hi (oM kvs n hk) hl (by rw[Ba kvs n u hk];exact q)
theorem d6 (h:Holds wl Z) (i:Nat) (hi:wl[i]?=QA (x,.dict kvs)) (hv:pe p w Y Z=QA u) (he:pe p e Y Z=QA (.ref x)) (hk:fY kvs=QD) (hl:kvs.length<=1000000)
  (q: ∀RM,Holds (wl.set i (x,.dict (Wc kvs n u))) RM->a8 p cl r N R B C X Y RM):a8 p cl (.cons (.C e (.str n) w) r) N R B C X Y Z:=
 dZ (ae w hv (ae e he (ae (.str n) rfl (d5 h i hi hk hl q))))
theorem Holds.perm (h:Holds wl Z) (hp:wl.Perm wl'):Holds wl' Z:=
 ⟨λi a o b=>by
  obtain⟨j,c⟩:=NZ (hp.mem_iff.mpr (MQ b))
  exact h.1 j a o c,(hp.map _).nodup_iff.mp h.2⟩
theorem Holds.swap (a b:List (Nat×O)) (h:Holds (a++(b++t)) Z):Holds (b++(a++t)) Z:=h.perm (by
 rw[<- LV,<- LV]
 exact List.perm_append_comm.append_right t)
theorem Holds.drop (a:List (Nat×O)) (h:Holds (a++t) Z):Holds t Z:=by
 induction a with
 |nil=>exact h
 |cons x a ih=>exact ih h.tail
end
end
section
abbrev Op:=Nat×B8×B8
abbrev jd (l:List Op):List V:=l.map λo=>opV o.1 o.2.1 o.2.2
def bI (D:BD) (o:Op):BD:=if o.1=1 then TA D o.2.1 o.2.2 else j3 D o.2.1
def R4 (D:BD) (l:List Op):BD:=l.foldl bI D
theorem lW (D:BD) (o:Op):(bI D o).length<=D.length+1:=by
 delta bI
 split
 ·exact pT ..
 ·exact ME (wZ ..)
noncomputable abbrev YA (nw bt:Nat) (kept last:Int):O:= .inst 25 [(26,.ref nw),(27,.ref bt),(28,.int kept),(29,.int last)]
theorem uO {α β:Type} [DecidableEq α] {m:List (α×β)} {x:α} (h:RQ m x= .none):j3 m x=m:=by
 delta RQ at h
 simp only[Od,NR] at h
 exact List.filter_eq_self.mpr λp a=>by simpa using h p a
section
theorem Dy (h:Holds wl Z) (j:Nat) (hj:wl[j]?=QA (x,.dict kvs)) (he:pe p e Y Z=QA (.ref x)) (hi:pe p i Y Z=QA k) (hk:ir kvs k) (hs:(T4 kvs k).isSome=QD) (hl:kvs.length<=1000000)
  (q: ∀RM,Holds (wl.set j (x,.dict (ZL kvs k))) RM->a8 p cl r N R B C X Y RM):a8 p cl (.cons (.F e i) r) N R B C X Y Z:=
 ae e he (ae i hi ⟨_,_,rfl,h.get j hj,hk,hs,hl,q _ (h.set j hj)⟩)
theorem wA (ha:pe p e Y Z=QA k) (hi:pe p i Y Z=QA (.ref x)) (hu:Z[x]?=QA (.dict kvs)) (hk:ir kvs k) (q:Q (.bool (T4 kvs k).isSome) Z):wE p cl (.c .isin e i) Y Q R3 Z:=
 ae e ha (ae i hi (by
  show(match Z[x]? with
   |some (.dict kvs)=>ir kvs k/\Q (.bool (T4 kvs k).isSome) Z
   |_=>False)
  rw[hu];exact⟨hk,q⟩))
theorem zY (hx:xs.length≠1) (hv:v= .tup us) (hl:us.length=xs.length) (h:body (TG body xs vs N) N (TG body xs vs N) ((xs.zip us).foldl (λY p=>Y.set p.1 (QA p.2)) Y) Z):TG body xs (v::vs) N Y Z:=by
 subst hv
 show jT xs _ Y _
 cases xs with
 |nil=>exact⟨hl,h⟩
 |cons a r=>cases r with
  |nil=>exact(hx rfl).elim
  |cons b r=>exact⟨hl,h⟩
theorem pO (hx:xs.length≠1) (hv:v= .tup us) (hl:us.length=xs.length) (h: ∀K:Env->H->Prop,(∀Y Z,TG body xs vs N Y Z->K Y Z)->body K N K ((xs.zip us).foldl (λY p=>Y.set p.1 (QA p.2)) Y) Z):TG body xs (v::vs) N Y Z:=zY hx hv hl (h _ λJ J h=>h)
end
section
variable {d sr nw bt b r o2:Nat}
abbrev yS:Ss:=ss [.i (.c .eq ah (.g 3)) (ss [.C (.t aa 26) RN au]) (ss [.i (.c .isin RN (.t aa 26)) (ss [.F (.t aa 26) RN]) .nil])]
theorem sH {d:Nat}: ∀(ops:List Op) (D:BD) (Z:H) (w2 w3 w4:Option V),D.length+ops.length<=100000->Holds ((sr,YA nw bt kept last)::(nw,.dict (dV D))::wl) Z->
  (∀w2 w3 w4 RM,Holds ((sr,YA nw bt kept last)::(nw,.dict (dV (R4 D ops)))::wl) RM->N [QA (.ref sr),QA x1,w2,w3,w4] RM)->
  TG (λN' B' C' Y Z=>a8 P (RL P d) yS N' R B' C' (λJ J J=>False) Y Z) [2,3,4] (jd ops) N [QA (.ref sr),QA x1,w2,w3,w4] Z:=by
 intro ops
 induction ops with
 |nil=>intro D Z w2 w3 w4 a h q;exact q w2 w3 w4 Z h
 |cons o t ih=>
  intro D Z w2 w3 w4 a h q
  obtain⟨k,key,val⟩:=o
  have c:=lW D (k,key,val)
  dsimp only[Mb] at a
  refine pO (by decide) rfl rfl λK e=>(yr (t:=decide ((k:Int)=1)) rfl (λf=>?_) (λf=>?_))
  ·have b:k=1:=by have:=of_decide_eq_true f;exact aX 0x1881050001C81051540 rfl this
   refine dZ (ae au rfl (ae (.t aa 26) (af rfl (h.get 0 rfl) rfl) (ae RN rfl (gr h 1 rfl (p4 D key) (by simp;exact bY (bY (LX _ _) a) (aT rfl)) λRM h'=>?_))))
   rw[ik cj] at h'
   refine e _ _ (ih (bI D (k,key,val)) RM _ _ _ (SD 0x6061A80341204206048105000206061A803412481050040 rfl a c) ?_ q)
   (rw[bI,b];exact h')
  ·have b:k≠1:=by have:=of_decide_eq_false f;exact λzh=>this (aX 0x1C81051540062041400 rfl zh)
   refine aK (wA rfl (af rfl (h.get 0 rfl) rfl) (h.get 1 rfl) (p4 D key) ?_)
   rw[gj cj]
   cases g:RQ D key with
   |none=>
    refine cI rfl (e _ _ (ih (bI D (k,key,val)) Z _ _ _ (SD 0x6061A80341204206048105000206061A803412481050040 rfl a c) ?_ q))
    simpa[bI,b,uO g] using h
   |some v=>
    refine iu rfl (Dy h 1 rfl (af rfl (h.get 0 rfl) rfl) rfl (p4 D key) (by rw[gj cj,g];rfl) (by simp;exact bY (bY (LX _ _) a) (aT rfl)) λRM h'=>?_)
    rw[CA cj] at h'
    refine e _ _ (ih (bI D (k,key,val)) RM _ _ _ (SD 0x6061A80341204206048105000206061A803412481050040 rfl a c) ?_ q)
    simpa[bI,b] using h'
theorem Iq (h:Holds ((sr,YA nw bt kept last)::(nw,.dict (dV D))::(bt,.list TK)::wl) Z) (hD:D.length+ops.length<=100000) (hb:TK.length<=100000)
  (q: ∀RM,Holds ((sr,YA nw bt kept (last+ops.length))::(nw,.dict (dV (R4 D ops)))::(bt,.list (TK++[.list (jd ops)]))::wl) RM->Q .none RM):RL P (d+1) 70 [.ref sr,.list (jd ops)] Q X Z:=by
 refine ao [QA (.ref sr),QA (.list (jd ops)),QC,QC,QC] rfl rfl (dh (ae RJ rfl ⟨_,rfl,?_⟩))
 refine sH (R:=Q) ops D Z _ _ _ hD h λw2 w3 w4 R8 a=>(ax (eC a 2 rfl (af rfl (a.get 0 rfl) rfl) rfl (VK ‹_› rfl) λSG b=>(lS b 0 rfl rfl rfl (ae (.y .len (es [RJ])) rfl (lJ b 0 rfl rfl (aB rfl) λf c=>aw (q f ?_))))))
 have e:(jd ops).length=ops.length:=by exact LZ _
 rw[e] at c
 exact c
theorem Hl (h:Holds ((sr,YA nw bt kept last)::wl) Z) (hb:Z[bt]?=QA (.list TK)) (q: ∀RM,Holds ((sr,YA nw bt TK.length last)::wl) RM->Q .none RM):RL P (d+1) 71 [.ref sr] Q X Z:=by
 exact ao [QA (.ref sr)] rfl rfl (aG h 0 rfl (jf (af rfl (h.get 0 rfl) rfl) hb) rfl rfl (aB rfl) q)
theorem Ln (hs:Z[sr]?=QA (YA nw bt kept last)) (hb:Z[bt]?=QA (.list TK)) (q:Q (.bool (decide (kept=TK.length))) Z):RL P (d+1) 72 [.ref sr] Q X Z:=
 ao [QA (.ref sr)] rfl rfl (aN (aH (af rfl hs rfl) (jf (af rfl hs rfl) hb) rfl) q)
theorem FP (hs:Z[sr]?=QA (YA nw bt kept last)) (hn:Z[nw]?=QA (.dict (dV D))) (q:Q (aY (RQ D key)) Z):RL P (d+1) 73 [.ref sr,.RT key] Q X Z:=by
 refine ao [QA (.ref sr),QA (.RT key)] rfl rfl (aW (wz (af rfl hs rfl) hn rfl (p4 D key) ?_))
 rw[gj cj]
 cases a:RQ D key with
 |none=>rw[a] at q;exact q
 |some v=>rw[a] at q;exact q
theorem Ip (h:Holds ((r,.list (jd ops))::(b,qY r wt)::(ma,om)::(sr,YA nw bt kept last)::(nw,.dict (dV D))::(bt,.list TK)::wl) Z) (h0:ops≠[]) (hD:D.length+ops.length<=100000) (hb:TK.length<=100000)
  (q: ∀v RM,Holds ((ma,om)::(sr,YA nw bt (if sync then TK.length+1 else kept) (last+ops.length))::(nw,.dict (dV (R4 D ops)))::(bt,.list (TK++[.list (jd ops)]))::wl) RM->Q v RM):RL P (d+2) 69 [.ref sr,.ref b,.bool sync] Q X Z:=by
 have i:((jd ops).length:Int)≠0:=by cases ops with|nil=>exact(h0 rfl).elim|cons=>dsimp;exact aX 0x750114C1051540 rfl
 refine ao [QA (.ref sr),QA (.ref b),QA (.bool sync)] rfl rfl (aK (bh (ai rfl (h.get 1 rfl) rfl rfl (KQ (h.get 1 rfl) (h.get 0 rfl) (ae (.int 0) rfl (Au (cI (aS i) (ax (bU rfl (cA (h.get 3 rfl)) rfl (aj (ai rfl (h.get 1 rfl) rfl rfl (KR (h.get 1 rfl) (h.get 0 rfl) (aE ?_)))))))))))))
 have h':=(h.drop [_,_]).swap [(ma,om)] [(sr,YA nw bt kept last),(nw,.dict (dV D)),(bt,.list TK)]
 refine Iq h' hD hb λf a=>?_
 cases sync with
 |false=>
  exact aO (t:=QE) rfl rfl (aN (af rfl (a.get 0 rfl) rfl) (q _ f (a.swap [_,_,_] [_])))
 |true=>
  refine cL (t:=QD) rfl rfl (ax (ai rfl (a.get 0 rfl) rfl rfl (Hl a (a.get 2 rfl) λg c=>(aN (af rfl (c.get 0 rfl) rfl) (q _ g ?_)))))
  have e:(((TK++[V.list (jd ops)]).length:Nat):Int)=if QD=QD then(TK.length:Int)+1 else kept:=by simp
  rw[e] at c
  exact c.swap [_,_,_] [_]
theorem Lm (h:Holds ((sr,.inst 25 [])::wl) Z) (q: ∀nw bt RM,Holds ((sr,YA nw bt 0 0)::(nw,.dict (dV []))::(bt,.list [])::wl) RM->Q .none RM):RL P (d+1) 68 [.ref sr] Q X Z:=by
 exact ao [QA (.ref sr)] rfl rfl (bT (nM h λnw c a=>cM a 1 rfl rfl rfl (aB rfl) λc a=>(bT (dq a λbt e b=>cM b 2 rfl rfl rfl (aB rfl) λe b=>(aG b 2 rfl rfl rfl rfl (aB rfl) λSX g=>aG g 2 rfl rfl rfl rfl (aB rfl) λf i=>aw (q nw bt f (Holds.swap [_] [_] (Holds.swap [_] [_,_] i))))))))
theorem BW (h:Holds wl Z) (q: ∀sr nw bt RM,Holds ((sr,YA nw bt 0 0)::(nw,.dict (dV []))::(bt,.list [])::wl) RM->Q (.ref sr) RM):wE P (RL P (d+1)) (.new 25 QE .nil) Y Q X Z:=
 pK h rfl rfl λn RM h'=>Lm h' λnw bt a b=>⟨rfl,q n nw bt a b⟩
end
end
section
section
theorem jw (h:Holds wl Z) (j:Nat) (hj:wl[j]?=QA (x,.list xs)) (he:pe p e Y Z=QA (.ref x)) (ha: ∀Q':V->H->Prop,Q' u Z->wE p cl e' Y Q' R3 Z) (hl:xs.length<=1000000)
  (q: ∀RM,Holds (wl.set j (x,.list (xs++[u]))) RM->Q .none RM):wE p cl (.append e e') Y Q R3 Z:=by
 have a:=h.get j hj
 refine ae e he ⟨x,1,rfl,by simp only[bS,a],by decide,by decide,ha _ ⟨by simp only[bS,a],?_⟩⟩
 rw[a];exact⟨hl,q _ (h.set j hj)⟩
theorem nN (he:pe p e Y Z=QA (.ref x)) (hi:pe p i Y Z=QA k) (hu:Z[x]?=QA (.dict kvs)) (hk:ir kvs k) (hv:T4 kvs k=QA v) (q:Q v Z):wE p cl (.sub e i) Y Q R3 Z:=
 ae e he (ae i hi (by
  delta lV
  dsimp only
  rw[hu];exact⟨hk,v,hv,q⟩))
theorem ET {a b:B8} {Q:Bool->Prop} (q:Q (!SW a b)):cP Z .ge (.RT a) (.RT b) Q:=q
theorem EU {a b:B8} {Q:Bool->Prop} (q:Q (SW a b)):cP Z .lt (.RT a) (.RT b) Q:=q
theorem cU {es:Es} (h:wE p cl e Y (λv Z=> ∃b,truth Z v=QA b/\match b with
    |true=>mz p cl (.cons e' es) Y Q R3 Z
    |false=>Q v Z) R3 Z):wE p cl (.and (.cons e (.cons e' es))) Y Q R3 Z:=h
theorem fR (h:wE p cl e Y Q R3 Z):mz p cl (.cons e .nil) Y Q R3 Z:=h
theorem vH {es:Es} (h:wE p cl e Y (λv Z=> ∃b,truth Z v=QA b/\match b with
    |true=>mz p cl (.cons e' es) Y Q R3 Z
    |false=>Q v Z) R3 Z):mz p cl (.cons e (.cons e' es)) Y Q R3 Z:=h
theorem xZ {es:Es} (h:wE p cl e Y (λv Z=> ∃b,truth Z v=QA b/\match b with
    |true=>Q v Z
    |false=>B3 p cl (.cons e' es) Y Q R3 Z) R3 Z):wE p cl (.or (.cons e (.cons e' es))) Y Q R3 Z:=h
theorem xY (h:wE p cl e Y Q R3 Z):B3 p cl (.cons e .nil) Y Q R3 Z:=h
end
theorem uz: ∀(D:BD),kJ ((dV D).map (·.1))=QA (D.map (·.1)):=λl=>l.rec (rfl) λa r ih=>by
  obtain⟨k,v⟩:=a
  show(kJ ((dV r).map (·.1))).map _=_
  rw[ih];rfl
noncomputable def SN (D:BD) (lo hi:B8):List B8->List (B8×B8)
 |[]=>[]
 |k::r=>if SW k lo=QD then SN D lo hi r else if SW k hi=QD then(k,(RQ D k).getD [])::SN D lo hi r else SN D lo hi r
theorem ox:SN D lo hi (k::r)=(if SW k lo=QD then SN D lo hi r else if SW k hi=QD then(k,(RQ D k).getD [])::SN D lo hi r else SN D lo hi r):=rfl
theorem ve (D:BD) (lo hi:B8): ∀ks,(SN D lo hi ks).length<=ks.length:=λl=>l.rec (AS _) λk r ih=>by
  have a:=ih
  rw[ox]
  split
  ·dsimp;exact ME ‹_›
  ·split<;>dsimp<;>first|exact M8 a|exact ME a
theorem vM {x y:B8}:XX x (y::r)=(if SW y x then y::XX x r else x::y::r):=rfl
theorem vN (x:B8): ∀l,(XX x l).length=l.length+1:=λl=>l.rec (rfl) λy r ih=>by
  rw[vM];split
  ·simp[ih]
  ·dsimp
theorem mG: ∀l,(SM l).length=l.length:=λl=>l.rec (rfl) λx r ih=>by show(XX x (SM r)).length=_;rw[vN,ih];rfl
theorem Td {x z:B8}: ∀l,z∈XX x l->z=x\/z∈l:=λl=>l.rec (λh=> .inl (LS.mp h)) λy r ih h=>by
  rw[vM] at h;split at h
  ·rcases tO.mp h with e|h
   ·exact .inr (by simp[e])
   ·rcases ih h with e|h
    ·exact .inl e
    ·exact .inr (.tail _ h)
  ·simpa using h
theorem mH: ∀l,z∈SM l->z∈l:=λl=>l.rec (λh=>h) λx r ih h=>by
  rcases Td _ h with e|h
  ·simp[e]
  ·exact .tail _ (ih h)
section
variable {D:BD}
abbrev yu:Ss:=ss [.i (.and (es [.c .TL RJ .none,.c .lt aI RJ])) (ss [.cont]) .nil,
  .i (.and (es [.c .TL ah .none,.c .ge aI ah])) (ss [.cont]) .nil,
  .expr (.append au (.tup (es [aI,.sub (.t aa 26) aI])))]
theorem uP {k:B8} (h:k∈D.map (·.1)):RQ D k=QA ((RQ D k).getD []):=by
 obtain⟨p,b,rfl⟩:=L8.mp h
 cases a:RQ D p.1 with
 |some v=>rfl
 |none=>
  delta RQ at a
  simp only[Od,NR] at a
  exact absurd (a p b) (by simp)
theorem vg {d:Nat}: ∀(ks:List B8) (acc:List (B8×B8)) (Z:H) (w:Option V),(∀k∈ks,k∈D.map (·.1))->acc.length+ks.length<=1000->Holds ((o,.list (acc.map λp=> .tup [.RT p.1,.RT p.2]))::wl) Z->(∀RM,Holds wl RM->RM[sr]?=QA (YA nw bt kept last)/\RM[nw]?=QA (.dict (dV D)))->
  (∀w RM,Holds ((o,.list ((acc++SN D lo hi ks).map λp=> .tup [.RT p.1,.RT p.2]))::wl) RM->N [QA (.ref sr),QA (.RT lo),QA (.RT hi),QA .none,QA (.ref o),w] RM)->
  TG (λN' B' C' Y Z=>a8 P (RL P d) yu N' R B' C' (λJ J J=>False) Y Z) [5] (ks.map V.RT) N [QA (.ref sr),QA (.RT lo),QA (.RT hi),QA .none,QA (.ref o),w] Z:=by
 intro ks
 induction ks with
 |nil=>intro acc Z w j a h b q;exact q w Z (by rw[show SN D lo hi []=[] from rfl,MC];exact h)
 |cons k t ih=>
  intro acc Z w j a h b q
  have g: ∀k∈t,k∈D.map (·.1):=λz r=>j z (.tail _ r)
  dsimp only[Mb] at a
  refine cx λK i=>(aK (cU (ae (.c .TL RJ .none) (v:= .bool QD) rfl (iu rfl (fR (bh (ae aI rfl (ae RJ rfl (EU ?_)))))))))
  by_cases e:SW k lo=QD
  ·refine iu e (i _ _ (ih acc Z _ g (RW 0x603E809048100180FA02412481050040 rfl a) h b ?_))
   rw[ox] at q
   rw[L6 e] at q;exact q
  ·have l:SW k lo=QE:=by simpa using e
   refine cI l (aK (cU (ae (.c .TL ah .none) (v:= .bool QD) rfl (iu rfl (fR (bh (ae aI rfl (ae ah rfl (ET ?_)))))))))
   rw[ox] at q
   rw[L4 e] at q
   by_cases f:SW k hi=QD
   ·rw[L6 f] at q
    obtain⟨m,n⟩:=b Z h.tail
    refine cI (by rw[f];rfl) (ax (jw (u:= .tup [.RT k,.RT ((RQ D k).getD [])]) h 0 rfl rfl (λQ' s=>fS (aj (ae aI rfl (aj (nN (af rfl m rfl) rfl n (p4 D k) (by rw[gj cj,uP (j k (.head _))];rfl) (aE s)))))) (by simp;exact RW 0x600F424011000180FA02412481050040 rfl a) λRM h'=>(i _ _ (ih (acc++[(k,(RQ D k).getD [])]) RM _ g (by simp;exact RW 0x603E809048148105000180FA02412481050040 rfl a) ?_ b ?_))))
    ·simpa using h'
    ·simpa using q
   ·rw[L4 f] at q
    exact iu (by simpa using f) (i _ _ (ih acc Z _ g (RW 0x603E809048100180FA02412481050040 rfl a) h b q))
noncomputable abbrev ZF (p:B8×B8):V:= .tup [.RT p.1,.RT p.2]
theorem Ir (h:Holds wl Z) (hw: ∀RM,Holds wl RM->RM[sr]?=QA (YA nw bt kept last)/\RM[nw]?=QA (.dict (dV D))) (hD:D.length<60) (hk: ∀p∈D,p.1.length<=1000)
  (q: ∀RM,Holds wl RM->Q (.list ((SN D lo hi (SM (D.map (·.1)))).map ZF)) RM):RL P (d+1) 74 [.ref sr,.RT lo,.RT hi,.none] Q X Z:=by
 refine ao [QA (.ref sr),QA (.RT lo),QA (.RT hi),QA .none,QC,QC] rfl rfl (aO (t:=QE) rfl rfl (av (dq h λo a c=>dh (cz (aj ?_)))))
 obtain⟨f,g⟩:=hw a c.tail
 refine ae (.t aa 26) (af rfl f rfl) (aE ⟨_,_,g,uz D,by simpa using hD,?_,?_⟩)
 ·intro b l
  obtain⟨p,m,rfl⟩:=L8.mp l
  exact hk p m
 ·refine⟨_,rfl,vg (R:=Q) (SM (D.map (·.1))) [] a _ (λk hk=>mH _ hk) (by rw[mG];simp;exact FD ‹_› rfl) c hw λw SG i=>?_⟩
  exact cO i rfl λe j=>aN rfl (q e j)
abbrev YJ (l:List Op):V:= .list (jd l)
def gT (bs:List (List Op)):BD:=bs.foldl R4 []
theorem gB: ∀(l:List Op) (D:BD),(R4 D l).length<=D.length+l.length:=λl=>l.rec (λD=>AS _) λo r ih D=>by
  have a:=ih (bI D o)
  have b:=lW D o
  show(R4 (bI D o) r).length<=_
  dsimp only[Mb];exact bQ 0x604920414020C00604810500C1060482040 rfl a b
theorem wm: ∀(bs done:List (List Op)) (D:BD) (last:Int) (Z:H) (w:Option V),(∀o∈bs,o.length<=10)->D.length+10*bs.length<=10000->done.length+bs.length<=1000->
  Holds ((sr,YA nw bt kept last)::(nw,.dict (dV D))::(bt,.list (done.map YJ))::wl) Z->
  (∀last w RM,Holds ((sr,YA nw bt kept last)::(nw,.dict (dV (bs.foldl R4 D)))::(bt,.list ((done++bs).map YJ))::wl) RM->N [QA x0,QA x1,QA x2,QA (.ref sr),w] RM)->
  TG (λN' B' C' Y Z=>a8 P (RL P (d+1)) (ss [.expr (.m RN 23 (es [au]))]) N' R B' C' (λJ J J=>False) Y Z) [4] (bs.map YJ) N [QA x0,QA x1,QA x2,QA (.ref sr),w] Z:=by
 intro bs
 induction bs with
 |nil=>intro done D last Z w c a b h q;exact q last w Z (by simpa using h)
 |cons o t ih=>
  intro done D last Z w c a b h q
  have e:=c o (.head _)
  dsimp only[Mb] at a b
  have f:=gB o D
  refine cx λK g=>(ax (ai rfl (h.get 0 rfl) rfl rfl (Iq h (SD 0x6061A80341208006028140206009C403412299481050040 rfl a e) (by simp;exact RW 0x18186A00D000180FA02412481050040 rfl b) λRM h'=>(g _ _ (ih (done++[o]) (R4 D o) (last+o.length) RM _ (λz i=>c z (.tail _ i)) (bQ 0x6009C40341229904306048200306028140206009C403412299481050040 rfl a e f) (by simp;exact RW 0x603E809048148105000180FA02412481050040 rfl b) ?_ ?_)))))
  ·simpa using h'
  ·simpa using q
theorem xy {Z:H} {x:Nat} {vs:List V} {l h:Nat} {lo hi:V} {Q:V->Prop} (hu:Z[x]?=QA (.list vs)) (Wy:bound 0 lo=QA l) (hhi:bound vs.length hi=QA h) (q:Q (.list ((vs.take h).drop l))):iG Z (.ref x) lo hi Q:=
 ⟨vs,l,h,by simp only[TP,hu],Wy,hhi,q⟩
theorem Lo {bs:List (List Op)} {keep i j:Nat} {pick:Int} (h:Holds wl Z) (hs:wl[i]?=QA (sr,YA nw bt kept last)) (hb:wl[j]?=QA (bt,.list (bs.map YJ))) (ho: ∀o∈bs,o.length<=10) (hl:bs.length<=500) (hk:kept<=bs.length) (he:kept+pick%(bs.length-kept+1)=keep)
  (q: ∀Zm Ze Xr VO RM,Holds ((Zm,YA Ze Xr keep VO)::(Ze,.dict (dV (gT (bs.take keep))))::(Xr,.list ((bs.take keep).map YJ))::wl) RM->Q (.ref Zm) RM):RL P (d+2) 75 [.ref sr,.int pick] Q X Z:=by
 have a:((bs.map YJ).length:Int)=bs.length:=by simp
 have hm:=Mu pick (b:=(bs.length:Int)-kept+1) (mC 0x1D40453041454295001C1500A rfl hk)
 have p:=MM pick (b:=(bs.length:Int)-kept+1) (mC 0x1C53041454295000441C1500A rfl hk)
 have k:keep<=bs.length:=D6 0x600400714C105150A5412E1C950132CA rfl he p
 have g:=h.get i hs
 refine ao [QA (.ref sr),QA (.int pick),QC,QC,QC] rfl rfl (av (bz (ae (.t aa 28) (af rfl g rfl) (bz (ae RJ rfl (ae (v:= .int (bs.length-kept+1)) _ (aJ (aJ (jf (af rfl g rfl) (h.get j hb)) (af rfl g rfl) rfl) rfl (by rw[a];rfl)) ⟨by exact Int.lt_of_le_of_lt ‹_› ‹_›,?_⟩))))))
 show a8 P (RL P (d+1)) _ _ _ _ _ _ [QA (.ref sr),QA (.int pick),QA (.int (kept+pick%(bs.length-kept+1))),QC,QC] Z
 rw[he]
 refine av (BW h λZm Ze Xr m c=>dh (bN (af rfl (c.get (i+3) hs) rfl) rfl rfl (xy (c.get (j+3) hb) rfl (bc rfl (RW 0x187B9ACA00150041800041807D02400 rfl hl k)) ⟨_,rfl,?_⟩)))
 rw[NB,<- P7]
 refine wm (R:=Q) (bs.take keep) [] [] 0 m _ (λo h'=>ho o (MR h')) (by simp;exact RW 0x18027100D029904A80004A807D02400 rfl hl (Mm _ _)) (by simp;exact RW 0x603E8090041800041807D02400 rfl hl (Mm _ _)) c λVO w SG f=>(ax (ai rfl (f.get 0 rfl) rfl rfl (Hl f (f.get 2 rfl) λn l=>aN rfl (q Zm Ze Xr VO n ?_))))
 have e:((([]++bs.take keep).map YJ).length:Int)=keep:=by simp;exact RW 0x72541540062040 rfl (IS (RW 6598143901760 rfl k))
 rw[e] at l
 exact l
end
end
section
structure md where
 kd:Nat
 key:B8
 val:B8
 ex:Option B8
noncomputable abbrev RY (k:B8):B8:=100::k
def UI (D:BD) (c:md):List Op×Nat×Option B8:=
 match c.kd with
 |1=>([(1,RY c.key,c.val)],0,RQ D (RY c.key))
 |2=>(match RQ D (RY c.key) with|some J=>[(0,RY c.key,[])]| .none=>[],0,RQ D (RY c.key))
 |3=>if RQ D (RY c.key)=c.ex then([(1,RY c.key,c.val)],0,RQ D (RY c.key)) else([],1,RQ D (RY c.key))
 |4=>([(1,RY c.key,(RQ D (RY c.key)).getD []++c.val)],0,RQ D (RY c.key))
 |_=>([],0,.none)
@[elab_as_elim]theorem wC {D:BD} {c:md} {P:(List Op×Nat×Option B8)->Prop} (h1:P ([(1,RY c.key,c.val)],0,RQ D (RY c.key)))
  (h2:P (match RQ D (RY c.key) with|some J=>[(0,RY c.key,[])]| .none=>[],0,RQ D (RY c.key)))
  (h3:P (if RQ D (RY c.key)=c.ex then([(1,RY c.key,c.val)],0,RQ D (RY c.key)) else([],1,RQ D (RY c.key))))
  (h4:P ([(1,RY c.key,(RQ D (RY c.key)).getD []++c.val)],0,RQ D (RY c.key))) (h5:P ([],0,.none)):P (UI D c):=by
 obtain⟨kd,key,val,ex⟩:=c
 rcases kd with _|_|_|_|_|kd
 ·exact h5
 ·exact h1
 ·exact h2
 ·exact h3
 ·exact h4
 ·exact h5
abbrev o9:=Option (Nat×Bool×B8)
abbrev se (s:o9):Option B8:=s.map λt=>gZ t.1 t.2.1 t.2.2
noncomputable def bX (s:o9):Bool:=match s with|some t=>t.2.1| .none=>QE
def eO (e:List Op×Nat×Option B8):B8:=UInt8.ofNat e.2.1::SU e.2.2
def SR (D:BD) (s:o9) (cl nr:Nat) (c:md):List Op×B8:=
 bif !bX s&&!(c.kd==5) then([],[2,0]) else((UI D c).1++[(1,TO cl,gZ nr (!(c.kd==6)) (eO (UI D c)))],eO (UI D c))
structure sM (D:BD) (c:md):Prop where
 kd:c.kd<=6
 key:c.key.length<100
 val:c.val.length<100
 ex: ∀x,c.ex=QA x->x.length<100
 old: ∀o,RQ D (RY c.key)=QA o->o.length+c.val.length<100
noncomputable abbrev oMa (sr:Nat) (ap tm:Int) (cf:B8) (du:Int) (sy:Bool):O:= .inst 24 [(21,.ref sr),(22,.int ap),(5,.int tm),(23,.RT cf),(24,.int du),(25,.bool sy)]
section
theorem EX {a b:B8} {Q:Bool->Prop} (q:Q (decide (a=b))):cP Z .eq (.RT a) (.RT b) Q:=
 ⟨rfl,by show 0<=20;decide,by
  have: ∀(i:Decidable (V.RT a=V.RT b)),@decide _ i=decide (a=b):=λi=>by
   rw[decide_eq_decide];exact⟨cj a b,λe=>by rw[e]⟩
  rw[this];exact q⟩
theorem Ll {a b:Option B8} (q:Q (.bool (decide (a=b))) Z):RL P (d+1) 67 [aY a,aY b] Q X Z:=by
 refine ao [QA (aY a),QA (aY b)] rfl rfl ?_
 cases a with
 |none=>
  cases b with
  |none=>exact cL (t:=QD) rfl rfl (aN rfl q)
  |some y=>exact cL (t:=QD) rfl rfl (aN rfl q)
 |some x=>
  cases b with
  |none=>exact cL (t:=QD) rfl rfl (aN rfl q)
  |some y=>
   refine aO (t:=QE) rfl rfl (aW (bh (ae aa rfl (ae RJ rfl (EX ?_)))))
   have e:decide (QA x=QA y)=decide (x=y):=by simp
   rw[e] at q;exact q
end
section
abbrev bw (r b:Nat) (wt:Int) (ops:List Op) (wl:List (Nat×O)):List (Nat×O):=(r,.list (jd ops))::(b,qY r wt)::wl
abbrev mw (ma sr nw bt:Nat) (ap tm:Int) (cf:B8) (du:Int) (sy:Bool) (kept last:Int) (D:BD) (wl:List (Nat×O)):List (Nat×O):=(ma,oMa sr ap tm cf du sy)::(sr,YA nw bt kept last)::(nw,.dict (dV D))::wl
theorem nk (l:List Op) (o:Op):jd (l++[o])=jd l++[opV o.1 o.2.1 o.2.2]:=by simp[jd]
theorem jJ (h:Holds (bw r b wt ops wl) Z) (hk:key.length<2^60) (hv:val.length<2^60) (hl:ops.length<=1000) (q: ∀U5 RM,Holds (bw r b U5 (ops++[(1,key,val)]) wl) RM->Q .none RM):RL P (d+3) 23 [.ref b,.RT key,.RT val] Q X Z:=
 KH h (i:=1) (j:=0) rfl rfl (by decide) hk hv (by simp;exact VK ‹_› rfl) λU5 RM h'=>q U5 RM (by rw[bw,nk];exact h')
theorem CB (h:Holds (bw r b wt ops wl) Z) (hk:key.length<2^60) (hl:ops.length<=1000) (q: ∀U5 RM,Holds (bw r b U5 (ops++[(0,key,[])]) wl) RM->Q .none RM):RL P (d+3) 24 [.ref b,.RT key] Q X Z:=
 KJ h (i:=1) (j:=0) rfl rfl (by decide) hk (by simp;exact VK ‹_› rfl) λU5 RM h'=>q U5 RM (by rw[bw,nk];exact h')
abbrev cV (cl nr:Nat) (c:md):V:=wc c.kd cl nr c.key c.val c.ex
theorem Le (h:Holds (bw r b wt ops (mw ma sr nw bt ap tm cf du sy kept last D wl)) Z) (ok:sM D c) (hl:ops.length<=900)
  (q: ∀U5 RM,Holds (bw r b U5 (ops++(UI D c).1) (mw ma sr nw bt ap tm cf du sy kept last D wl)) RM->Q (.RT (eO (UI D c))) RM):RL P (d+5) 62 [.ref ma,cV cl nr c,.ref b] Q X Z:=by
 obtain⟨kd,key,val,ex⟩:=c
 have A:=ok.kd
 have z:=ok.key
 have E:=ok.val
 have w:=ok.ex
 have f:=ok.old
 dsimp only at A z E w f
 refine ao [QA (.ref ma),QA (cV cl nr ⟨kd,key,val,ex⟩),QA (.ref b),QC,QC,QC] rfl rfl (aV rfl ?_)
 have a: ∀(e:Es) (Y:Env) (n:Nat) (o:Option B8) (U5:Int) (v:List Op) (Z:H) (N B C:Env->H->Prop) (y:Nat->Env->H->Prop) (s:Ss),jH P e Y Z=QA [.int n,aY o]->n<128->(∀x,o=QA x->x.length<128)->(UI D ⟨kd,key,val,ex⟩)=(v,n,o)->Holds (bw r b U5 (ops++v) (mw ma sr nw bt ap tm cf du sy kept last D wl)) Z->
   a8 P (RL P (d+4)) (.cons (.ret (.call 48 e)) s) N Q B C y Y Z:=by
  intro e Y n o U5 v Z N B C y s G F l m h
  refine aW (aC G (Ik h F l λRM h'=>?_))
  have:=q U5 RM
  rw[m] at this
  exact this h'
 have i:(kd=0\/kd=5\/kd=6)\/kd=1\/kd=2\/kd=3\/kd=4:=(by decide: ∀k:Fin 7,(k.1=0\/k.1=5\/k.1=6)\/k.1=1\/k.1=2\/k.1=3\/k.1=4) ⟨kd,OR ‹kd<=6›⟩
 have l: ∀x,RQ D (RY key)=QA x->x.length<128:=λx g=>by have:=f x g;exact RW 0x61080090001841902412040 rfl this
 rcases i with u|u
 ·refine cL (t:=QD) ?_ rfl (a _ _ 0 .none wt [] Z _ _ _ _ _ rfl (by decide) (λx g=>by cases g) ?_ (by simpa using h))<;>rcases u with rfl|rfl|rfl<;>rfl
 ·refine aO (t:=QE) ?_ rfl ?_
  ·rcases u with rfl|rfl|rfl|rfl<;>rfl
  refine av (aC (vs:=[.RT key]) rfl (K4 (dO ‹_› (aT rfl)) (av (ai (af rfl (h.get 2 rfl) rfl) (h.get 3 rfl) rfl rfl (FP (h.get 3 rfl) (h.get 4 rfl) ?_)))))
  have p:(RY key).length<2^60:=by simp;exact aX 0x18410000000000000002D0481050001841902400 rfl z
  rcases u with rfl|rfl|rfl|rfl
  ·exact cL (t:=QD) rfl rfl (ax (ai rfl (h.get 1 rfl) rfl rfl (jJ h p (val:=val) (dO ‹_› (aT rfl)) (VK ‹_› rfl) λU5 RM h'=>(aw (a _ _ 0 _ U5 _ RM _ _ _ _ _ rfl (by decide) l rfl h')))))
  ·refine oY (t:=QE) rfl rfl (cL (t:=QD) rfl rfl ?_)
   cases j:RQ D (RY key) with
   |none=>exact aO (t:=QE) rfl rfl (aw (aw (a _ _ 0 .none wt [] Z _ _ _ _ _ rfl (by decide) (λx g=>by cases g) (by(rw[UI,j];exact rfl)) (by simpa using h))))
   |some o=>
    exact cL (t:=QD) rfl rfl (ax (ai rfl (h.get 1 rfl) rfl rfl (CB h p (VK ‹_› rfl) λU5 RM h'=>(aw (aw (aw (a _ _ 0 (QA o) U5 _ RM _ _ _ _ _ rfl (by decide) (λx g=>l x (j.trans g)) (by(rw[UI,j];exact rfl)) h')))))))
  ·refine oY (t:=QE) rfl rfl (oY (t:=QE) rfl rfl (cL (t:=QD) rfl rfl (aK (eQ (aC (vs:=[aY (RQ D (RY key)),aY ex]) rfl (Ll ?_))))))
   by_cases m:RQ D (RY key)=ex
   ·rw[iF m]
    refine⟨QD,rfl,cI rfl (ax (ai rfl (h.get 1 rfl) rfl rfl (jJ h p (val:=val) (dO ‹_› (aT rfl)) (VK ‹_› rfl) λU5 RM h'=>?_)))⟩
    exact aw (aw (aw (a _ _ 0 _ U5 _ RM _ _ _ _ _ rfl (by decide) l (by exact L6 m) h')))
   ·rw[aS m]
    exact⟨QE,rfl,iu rfl (a _ _ 1 _ wt [] Z _ _ _ _ _ rfl (by decide) l (by exact L4 m) (by simpa using h))⟩
  ·refine oY (t:=QE) rfl rfl (oY (t:=QE) rfl rfl (oY (t:=QE) rfl rfl ?_))
   cases j:RQ D (RY key) with
   |none=>
    exact cL (t:=QD) rfl rfl (ax (ai rfl (h.get 1 rfl) rfl rfl (jJ h p (val:=val) (dO ‹_› (aT rfl)) (VK ‹_› rfl) λU5 RM h'=>(aw (aw (aw (aw (a _ _ 0 .none U5 _ RM _ _ _ _ _ rfl (by decide) (λx g=>by cases g) (by(rw[UI,j];exact rfl)) h'))))))))
   |some o=>
    have hov:=f o j
    refine oY (t:=QE) rfl rfl (ax (bU rfl (cA (h.get 1 rfl)) rfl (aj (ae au rfl (aj (bz (ae aI rfl (ae (.t RJ 19) rfl ⟨by show o.length+val.length<=_;exact FD ‹_› rfl,aE ?_⟩))))))))
    exact jJ h p (val:=o++val) (by simp;exact dO ‹_› (aT rfl)) (VK ‹_› rfl) λU5 RM h'=>(aw (aw (aw (aw (a _ _ 0 (QA o) U5 _ RM _ _ _ _ _ rfl (by decide) (λx g=>l x (j.trans g)) (by(rw[UI,j];exact rfl)) h')))))
end
end
section
noncomputable def HT:o9->V
 | .none=> .tup [.int (-1),.bool QE,.RT []]
 |some t=> .tup [.int t.1,.bool t.2.1,.RT t.2.2]
structure mA (s:o9):Prop where
 n: ∀t,s=QA t->t.1<2^64
 r: ∀t,s=QA t->t.2.2.length<128
def VD (idx tm:Nat) (cf:B8):B8:=R9 idx++(R9 tm++fA cf)
inductive DS (cl nr:Nat):B8->Option md->Prop
 |nil:DS cl nr [] .none
 |cmd (c:md):c.kd<=6->c.key.length<100->c.val.length<100->(∀x,c.ex=QA x->x.length<100)->DS cl nr (fV c.kd cl nr c.key c.val c.ex) (QA c)
 |bad (c:md) (more:B8):c.kd<=6->c.key.length<100->c.val.length<100->(∀x,c.ex=QA x->x.length<100)->more≠[]->more.length<100->DS cl nr (fV c.kd cl nr c.key c.val c.ex++more) .none
def GV (cl nr:Nat):Option md->V
 | .none=> .none
 |some c=>cV cl nr c
noncomputable abbrev uK (tm idx:Nat) (data:B8):V:= .U1 19 [(5,.int tm),(6,.int idx),(7,.int 0),(0,.RT data)]
section
theorem Lf (h:Holds wl Z) (hm:Z[ma]?=QA (oMa sr ap tm cf du sy)) (hs:Z[sr]?=QA (YA nw bt kept last)) (hn:Z[nw]?=QA (.dict (dV D))) (RZ:cl<2^64) (hg:RQ D (TO cl)=se s) (ok:mA s)
  (q: ∀RM,Holds wl RM->Q (HT s) RM):RL P (d+5) 63 [.ref ma,.int cl] Q X Z:=by
 refine ao [QA (.ref ma),QA (.int cl),QC] rfl rfl (av (bU (af rfl hm rfl) (cA hs) rfl (aj (aC (vs:=[.int cl]) rfl (Il RZ (aE (FP hs hn ?_)))))))
 rw[hg]
 cases s with
 |none=>exact cL (t:=QD) rfl rfl (aN rfl (q Z h))
 |some t=>
  obtain⟨n,o,x⟩:=t
  exact aO (t:=QE) rfl rfl (aW (aC rfl (Im h (ok.n _ rfl) (ok.r _ rfl) q)))
theorem iA {b:Option B8} {k:Nat} (h: ∀x,b=QA x->x.length<=k):(SU b).length<=k+2:=by
 cases b with
 |none=>simp[SU]
 |some x=>have:=h x rfl;simp[SU];assumption
theorem t6 (ok:sM D c):(eO (UI D c)).length<128:=by
 have: ∀x,(UI D c).2.2=QA x->x.length<=100:=by
  intro x a
  have b:(UI D c).2.2=RQ D (RY c.key)\/(UI D c).2.2= .none:=by
   refine wC ?_ ?_ ?_ ?_ ?_
   ·exact .inl rfl
   ·exact .inl rfl
   ·split<;>exact .inl rfl
   ·exact .inl rfl
   ·exact .inr rfl
  rcases b with e|e
  ·have:=ok.old x (e.symm.trans a);exact RW 0x60064090001841902412040 rfl this
  ·rw[e] at a;cases a
 have:=iA this
 dsimp only[eO,Mb];exact aX 0x61080090481050001812081401902400 rfl this
theorem nO (D:BD) (c:md):(UI D c).1.length<=1:=by
 refine wC ?_ ?_ ?_ ?_ ?_
 ·exact AS _
 ·cases RQ D (RY c.key)<;>simp
 ·split<;>simp
 ·exact AS _
 ·decide
theorem Lc (h:Holds (bw r b wt ops (mw ma sr nw bt ap tm cf du sy kept last D wl)) Z) (ok:sM D c) (hl:ops.length<=800) (RZ:cl<2^64) (Xb:nr<2^64) (hg:RQ D (TO cl)=se s) (Rl:mA s) (hs: ∀t,s=QA t->t.1<nr)
  (q: ∀U5 RM,Holds (bw r b U5 (ops++(SR D s cl nr c).1) (mw ma sr nw bt ap tm cf du sy kept last D wl)) RM->Q (.RT (SR D s cl nr c).2) RM):RL P (d+6) 61 [.ref ma,cV cl nr c,.ref b] Q X Z:=by
 have K:=ok.kd
 refine ao [QA (.ref ma),QA (cV cl nr c),QA (.ref b),QC,QC,QC,QC] rfl rfl (cD (ai (vs:=[.int cl]) rfl (h.get 2 rfl) rfl rfl (Lf h (h.get 2 rfl) (h.get 3 rfl) (h.get 4 rfl) RZ hg Rl λB w=>?_)))
 have F: ∀(l:Int) (o:Bool) (x:B8),l<nr->bX s=o->a8 P (RL P (d+5)) (ss [.i (.c .eq (.t RJ 17) RN) (ss [.k]) .nil,
   .i (.c .lt (.t RJ 17) RN) (ss [.k]) .nil,
   .i (.and (es [.not au,.c .ne (.t RJ 7) (.g 12)])) (ss [.ret (.call 48 (es [.g 16,.none]))]) .nil,
   .a 5 (.m aa 17 (es [RJ,ah])),
   .a 6 (.call 52 (es [.t RJ 17,.c .ne (.t RJ 7) (.g 13),aI])),
   .expr (.m ah 11 (es [.call 50 (es [.t RJ 16]),bj])),
   .ret aI]) (λJ Z=>Q .none Z) Q (λJ J=>False) (λJ J=>False) (λc J Z=>X c Z) [QA (.ref ma),QA (cV cl nr c),QA (.ref b),QA (.int l),QA (.bool o),QA (.RT x),QC] B:=by
  intro l o x E H
  refine aO (t:=decide ((nr:Int)=l)) rfl (aS (mC 0x75295001C5500A rfl E)) (aO (t:=decide ((nr:Int)<l)) rfl (aS (mC 0x74295001C5500A rfl E)) ?_)
  have f:SR D s cl nr c=((UI D c).1++[(1,TO cl,gZ nr (!(c.kd==6)) (eO (UI D c)))],eO (UI D c))->
    a8 P (RL P (d+5)) (ss [.a 5 (.m aa 17 (es [RJ,ah])),
   .a 6 (.call 52 (es [.t RJ 17,.c .ne (.t RJ 7) (.g 13),aI])),
   .expr (.m ah 11 (es [.call 50 (es [.t RJ 16]),bj])),
   .ret aI]) (λJ Z=>Q .none Z) Q (λJ J=>False) (λJ J=>False) (λc J Z=>X c Z) [QA (.ref ma),QA (cV cl nr c),QA (.ref b),QA (.int l),QA (.bool o),QA (.RT x),QC] B:=by
   intro z
   rw[z] at q
   have L:decide (((c.kd:Nat):Int)≠6)=!(c.kd==6):=by
    by_cases e:c.kd=6
    ·(rw[e];exact rfl)
    ·have: ¬((c.kd:Int)=6):=aX 0x21D46051540061181400 rfl (Mx (aX 0x60181400060181400 rfl K) e)
     simp[e,this]
   refine av (ai rfl (w.get 2 rfl) rfl rfl (Le w ok (VK ‹_› rfl) λwt2 C y=>(av (aC (vs:=[.int nr,.bool (!(c.kd==6)),.RT (eO (UI D c))]) (by rw[<- L];rfl) (K6 y Xb (t6 ok) λSX G=>(ax (bU rfl (cA (G.get 1 rfl)) rfl (aj (aC (vs:=[.int cl]) rfl (Il RZ (aj (ae bj rfl (aE ?_)))))))))))))
   have:=nO D c
   refine jJ G (by simp[TO,De]) (by have N:=t6 ok;have O:=aQ nr;simp[gZ];exact RW 0x18410000000000000002D049204141204140004180A050041842002400 rfl N O) (by simp;exact RW 0x603E809048100180105004180C802400 rfl hl this) λA I M=>aN rfl (q A I ?_)
   rw[<- LV];exact M
  by_cases j:c.kd=5
  ·refine AM (v:= .bool QE) ?_ rfl (f (by simp[SR,j]))
   cases o with
   |true=>rfl
   |false=>
    refine cB (t:=QD) rfl rfl ?_
    show QA (V.bool (decide (((c.kd:Nat):Int)≠5)))=_
    rw[aS (λh=>h (By Int.ofNat j))]
  ·cases o with
   |true=>exact AM (v:= .bool QE) rfl rfl (f (by(rw[SR,H];exact rfl)))
   |false=>
    have z:SR D s cl nr c=([],[2,0]):=by
     have u:(c.kd==5)=QE:=by simpa using j
     (rw[SR,H,u];exact rfl)
    rw[z] at q
    refine cL (t:=QD) ?_ rfl (aW (aC (vs:=[.int 2,aY .none]) rfl (Ik w (n:=2) (by decide) (λx h=>by cases h) λC y=>q wt C (by simpa using y))))
    refine cB (t:=QD) rfl rfl ?_
    show QA (V.bool (decide (((c.kd:Nat):Int)≠5)))=_
    rw[iF (by exact λzh=>j (aX 0x1885050001C85051540 rfl zh))]
 cases p:s with
 |none=>exact⟨by decide,rfl,F (-1) QE [] (aX 7787855220817 rfl) (by rw[p];rfl)⟩
 |some t=>exact⟨by decide,rfl,F t.1 t.2.1 t.2.2 (by have:=hs t p;exact Mo.mpr ‹_›) (by rw[p];rfl)⟩
theorem Lb {tm idx:Nat} {data:B8} (h:Holds wl Z) (hd:DS cl nr data oc) (RZ:cl<2^64) (Xb:nr<2^64) (q: ∀RM,Holds wl RM->Q (GV cl nr oc) RM):RL P (d+6) 60 [x,uK tm idx data] Q X Z:=by
 refine ao [QA x,QA (uK tm idx data)] rfl rfl ?_
 have j: ∀(c:md) (a:B8),fV c.kd cl nr c.key c.val c.ex++a≠[]:=λc a e=>by
  have:=By List.length e
  simp[fV,fD] at this
 have b: ∀data:B8,data≠[]->decide ((data.length:Int)=0)=QE:=λdata e=>aS (by
  cases data with
  |nil=>exact(e rfl).elim
  |cons=>simp;exact aX 0x750114C1051540 rfl)
 cases hd with
 |nil=>exact cL (t:=QD) rfl rfl (aN rfl (q Z h))
 |cmd c f k l g=>
  exact aO (cq (t:=QE) rfl rfl rfl) (b _ (by simpa using j c [])) (jh (aW (aC (vs:=[.RT (fV c.kd cl nr c.key c.val c.ex++[])]) (by rw[MC];rfl) (Ij h f RZ Xb (dO ‹_› (aT rfl)) (dO ‹_› (aT rfl)) (λx i=>by have:=g x i;exact dO ‹_› (aT rfl)) (by decide) (λJ=>q) (λe=>(e rfl).elim)))))
 |bad c a f k l g m h6=>
  exact aO (cq (t:=QE) rfl rfl rfl) (b _ (j c a)) (jh (aW (aC (vs:=[.RT (fV c.kd cl nr c.key c.val c.ex++a)]) rfl (Ij h f RZ Xb (dO ‹_› (aT rfl)) (dO ‹_› (aT rfl)) (λx i=>by have:=g x i;exact dO ‹_› (aT rfl)) (dO ‹_› (aT rfl)) (λe=>(m e).elim) (λJ RM h'=>aN rfl (q RM h'))))))
theorem Io {idx tm:Nat} (h:Holds (bw r b wt ops wl) Z) (hi:idx<2^64) (ht:tm<2^64) (hc:cf.length<128) (hl:ops.length<=900)
  (q: ∀U5 RM,Holds (bw r b U5 (ops++[(1,[97],VD idx tm cf)]) wl) RM->Q .none RM):RL P (d+4) 57 [x,.ref b,.int idx,.int tm,.RT cf] Q X Z:=by
 refine ao [QA x,QA (.ref b),QA (.int idx),QA (.int tm),QA (.RT cf),QC] rfl rfl ?_
 have m:=aQ idx;have n:=aQ tm
 refine av (ja h λs p R8 c=>(ax (ai rfl (c.get 1 rfl) rfl rfl (BG c (i:=0) rfl (c.get 1 rfl) hi (by decide) λSG f=>(ax (ai rfl (f.get 1 rfl) rfl rfl (BG f (i:=0) rfl (f.get 1 rfl) ht (by dsimp;exact VK ‹_› rfl) λSX k=>(ax (ai rfl (k.get 1 rfl) rfl rfl (EF k (i:=0) rfl (k.get 1 rfl) hc (by simp;exact RW 0x18036EE804412040060281401060281400 rfl m n) (λT6 a=>?_) (j:=1) rfl (by decide)))))))))))
 refine ax (bU rfl (cA (a.get 3 rfl)) rfl (aj (ae (.g 18) rfl (aj (ai rfl (a.get 1 rfl) rfl rfl (EG (a.get 0 rfl) (a.get 1 rfl) (aE (jJ (val:=[]++R9 idx++R9 tm++fA cf) (Holds.drop [_,_] a) (by decide) (by simp;exact SD 0x18410000000000000002D049248105000204180A05008180A050041842002400 rfl hc m n) (VK ‹_› rfl) λU5 o l=>aw (q U5 o ?_)))))))))
 have e:[]++R9 idx++R9 tm++fA cf=VD idx tm cf:=by simp[VD]
 rw[e] at l;exact l
end
end
section
def TY (D:BD) (s:o9) (cl nr tm:Nat) (cf:B8) (oc:Option md):List Op:=
 (match oc with| .none=>[]|some c=>(SR D s cl nr c).1)++[(1,[97],VD nr tm cf)]
def jN (D:BD) (s:o9) (cl nr:Nat) (oc:Option md):Option B8:=oc.map λc=>(SR D s cl nr c).2
theorem mU (D:BD) (s:o9) (cl nr:Nat) (c:md):(SR D s cl nr c).1.length<=2:=by
 have:=nO D c
 unfold SR
 cases(!bX s&&!(c.kd==5))<;>simp;assumption
theorem iE (D:BD) (s:o9) (cl nr tm:Nat) (cf:B8) (oc:Option md):(TY D s cl nr tm cf oc).length<=3:=by
 unfold TY
 cases oc with
 |none=>simp
 |some c=>have:=mU D s cl nr c;simp;assumption
section
variable {es:Es}
theorem t8 (h:y7 p cl es Y (λZ=>X k Y Z) (λc=>X c Y) Z):a8 p cl (.cons (.raise k es) r) N R B C X Y Z:=h
theorem CL (h:Q Z):y7 p cl .nil Y Q R3 Z:=h
theorem nR (he:pe p e Y Z=QA (.int i)) (h0:0<=i) (h1:i<10000000000) (h:y7 p cl es Y Q R3 Z):y7 p cl (.cons e es) Y Q R3 Z:=ae e he ⟨_,rfl,h0,h1,h⟩
end
section
variable {d ma sr nw bt cl idx tm':Nat}
abbrev mb (ma sr nw bt:Nat) (ap tm:Int) (cf:B8) (du:Int) (sy:Bool) (kept last:Int) (D:BD) (TK:List V) (wl:List (Nat×O)):List (Nat×O):=mw ma sr nw bt ap tm cf du sy kept last D ((bt,.list TK)::wl)
theorem FO (h:Holds (mb ma sr nw bt ap tm cf du sy kept last D TK wl) Z) (q: ∀RM,Holds (mb ma sr nw bt ap tm cf (if kept=TK.length then ap else du) sy kept last D TK wl) RM->Q .none RM):RL P (d+2) 56 [.ref ma] Q X Z:=by
 refine ao [QA (.ref ma)] rfl rfl (aK (ai (af rfl (h.get 0 rfl) rfl) (h.get 1 rfl) rfl rfl (Ln (h.get 1 rfl) (h.get 3 rfl) ?_)))
 by_cases e:kept=TK.length
 ·rw[L6 e] at q
  exact iu (iF e) (aG h 0 rfl (af rfl (h.get 0 rfl) rfl) rfl rfl (aB rfl) λRM h'=>aw (aw (q RM h')))
 ·rw[L4 e] at q
  exact cI (aS e) (aw (aw (q Z h)))
theorem K7 (h:Holds ((ma,.inst 24 [])::wl) Z) (q: ∀RM,Holds ((ma,oMa sr 0 0 [] 0 QE)::wl) RM->Q .none RM):RL P (d+1) 54 [.ref ma,.ref sr] Q X Z:=by
 exact ao [QA (.ref ma),QA (.ref sr)] rfl rfl (aG h 0 rfl rfl rfl rfl (aB rfl) λR8 a=>aG a 0 rfl rfl rfl rfl (aB rfl) λSG b=>aG b 0 rfl rfl rfl rfl (aB rfl) λSX c=>(aG c 0 rfl rfl rfl rfl (aB rfl) λT6 e=>aG e 0 rfl rfl rfl rfl (aB rfl) λWL f=>aG f 0 rfl rfl rfl rfl (aB rfl) q))
theorem tv (hm:Z[ma]?=QA (oMa sr ap tm cf du sy)) (ha:0<=ap/\ap<10000000000) (hi:0<=ie/\ie<10000000000) (UC:ie≠ap+1) (x:X 15 Z):RL P (d+1) 59 [.ref ma,.U1 19 [(5,tme),(6,.int ie),(7,kd),(0,dt)],.none] Q X Z:=by
 exact ao [QA (.ref ma),QA (.U1 19 [(5,tme),(6,.int ie),(7,kd),(0,dt)]),QA .none,QC,QC,QC,QC] rfl rfl (cL (aH rfl (aJ (af rfl hm rfl) rfl rfl) rfl) (iF UC) (t8 (nR rfl hi.1 hi.2 (nR (af rfl hm rfl) ha.1 ha.2 (CL x)))))
theorem La (h:Holds (mb ma sr nw bt ap tm cf du sy kept last D TK wl) Z) (hi:(idx:Int)=ap+1) (hd:DS cl idx data oc) (RZ:cl<2^64) (hix:idx<2^64) (Ys:tm'<2^64) (Vh:cf.length<128)
  (ok: ∀c,oc=QA c->sM D c) (hg:RQ D (TO cl)=se s) (Rl:mA s) (hs: ∀t,s=QA t->t.1<idx) (hD:D.length<=1000) (hb:TK.length<=1000)
  (q: ∀VO RM,Holds (mb ma sr nw bt idx tm' cf (if sy then idx else du) sy (if sy then TK.length+1 else kept) VO (R4 D (TY D s cl idx tm' cf oc)) (TK++[YJ (TY D s cl idx tm' cf oc)]) wl) RM->Q (aY (jN D s cl idx oc)) RM):
  RL P (d+7) 59 [.ref ma,uK tm' idx data,.none] Q X Z:=by
 refine ao [QA (.ref ma),QA (uK tm' idx data),QA .none,QC,QC,QC,QC] rfl rfl (aO (aH rfl (aJ (af rfl (h.get 0 rfl) rfl) rfl rfl) rfl) (aS (λh=>h hi)) (aV (af rfl (h.get 0 rfl) rfl) (aO (t:=QE) rfl rfl (av (BX h λb r R8 p=>aV rfl (av (ai rfl (p.get 2 rfl) rfl rfl (Lb p hd RZ hix λy l=>?_))))))))
 have g: ∀(ops:List Op) (f:Option B8) (cm:V) (w:Int) (Z:H),ops++[(1,[97],VD idx tm' cf)]=TY D s cl idx tm' cf oc->f=jN D s cl idx oc->ops.length<=2->Holds (bw r b w ops (mb ma sr nw bt ap tm cf du sy kept last D TK wl)) Z->
   a8 P (RL P (d+6)) (ss [.expr (.m aa 12 (es [au,.t RJ 6,.t RJ 5,RN])),
 .expr (.m (.t aa 21) 13 (es [au,.t aa 25])),
 .A aa 22 (.t RJ 6),
 .A aa 5 (.t RJ 5),
 .A aa 23 RN,
 .i (.t aa 25) (ss [.expr (.m aa 9 .nil)]) .nil,
 .ret aI]) (λJ Z=>Q .none Z) Q (λJ J=>False) (λJ J=>False) (λc J Z=>X c Z) [QA (.ref ma),QA (uK tm' idx data),QA .none,QA (.RT cf),QA (.ref b),QA (aY f),QA cm] Z:=by
  intro ops f cm w Z F G hl h
  refine ax (ai rfl (h.get 2 rfl) rfl rfl (Io h hix Ys Vh (VK ‹_› rfl) λk o a=>?_))
  rw[F] at a
  have n:=iE D s cl idx tm' cf oc
  refine ax (ai (af rfl (a.get 2 rfl) rfl) (a.get 3 rfl) rfl (aA rfl (aA (af rfl (a.get 2 rfl) rfl) rfl)) (Ip a (by simp[TY]) (RW 0x18186A00D048100180305004180FA02400 rfl hD n) (VK ‹_› rfl) λv T6 B=>(aG B 0 rfl rfl rfl rfl (aB rfl) λWL C=>aG C 0 rfl rfl rfl rfl (aB rfl) λXI E=>aG E 0 rfl rfl rfl rfl (aB rfl) λz j=>?_)))
  rw[G]
  have q:=q (last+((TY D s cl idx tm' cf oc).length:Nat))
  cases sy with
  |false=>exact aO (af rfl (j.get 0 rfl) rfl) rfl (aN rfl (q z j))
  |true=>
   refine cL (af rfl (j.get 0 rfl) rfl) rfl (ax (ai rfl (j.get 0 rfl) rfl rfl (FO j λx u=>aN rfl (q x ?_))))
   have e:(TK.length:Int)+1=((TK++[YJ (TY D s cl idx tm' cf oc)]).length:Nat):=by simp
   rw[L6 rfl,L6 e] at u
   exact u
 cases oc with
 |none=>exact aO (t:=QE) rfl rfl (g [] .none .none 12 y rfl rfl (by simp) l)
 |some c=>
  exact cL (t:=QD) rfl rfl (av (ai rfl (l.get 2 rfl) rfl rfl (Lc (ops:=[]) l (ok c rfl) (by simp) RZ hix hg Rl hs λk o a=>(g (SR D s cl idx c).1 (QA (SR D s cl idx c).2) _ k o rfl rfl (mU ..) a))))
end
end
section
theorem Av {Q:Bool->Prop} (q:Q QE):cP Z .TL .none .none Q:=q
theorem EZ {Q:Bool->Prop} (q:Q (decide (a≠b))):cP Z .ne (.RT a) (.RT b) Q:=
 ⟨rfl,by show 0<=20;decide,by
  have: ∀(i:Decidable (V.RT a≠V.RT b)),@decide _ i=decide (a≠b):=λi=>by
   rw[decide_eq_decide];exact⟨λh e=>h (by rw[e]),λh e=>h (cj a b e)⟩
  rw[this];exact q⟩
theorem rK (q:Q (.tup xs) Z):sW Z .tuple [.list xs] Q:=⟨xs,rfl,q⟩
section
variable {d ma sr nw bt cl idx tm':Nat}
theorem K9 (h:Holds (mb ma sr nw bt ap tm cf du sy 0 0 [] [] wl) Z) (hA:iI A) (hB:iI B') (hC:iI C) (hD:iI D') (hi:idx<2^64) (ht:tm'<2^64) (hl:(Ra A B' C D' f).length<128)
  (q: ∀RM,Holds (mb ma sr nw bt idx tm' (Ra A B' C D' f) idx sy 1 1 (R4 [] [(1,[97],VD idx tm' (Ra A B' C D' f))]) [YJ [(1,[97],VD idx tm' (Ra A B' C D' f))]] wl) RM->Q .none RM):
  RL P (d+6) 58 [.ref ma,.int idx,.int tm',.U1 21 (WO A B' C D' f)] Q X Z:=by
 exact ao [QA (.ref ma),QA (.int idx),QA (.int tm'),QA (.U1 21 (WO A B' C D' f)),QC,QC] rfl rfl (aK (bh (ai (af rfl (h.get 0 rfl) rfl) (h.get 1 rfl) rfl rfl (FP (h.get 1 rfl) (h.get 2 rfl) (ae .none rfl (Av (cI rfl (av (BX h λb r R8 i=>av (aC (vs:=[.U1 21 (WO A B' C D' f)]) rfl (K0 i hA hB hC hD λSG c=>(ax (ai rfl (c.get 2 rfl) rfl rfl (Io (ops:=[]) c hi ht hl (by decide) λwt SX a=>(ax (ai (af rfl (a.get 2 rfl) rfl) (a.get 3 rfl) rfl rfl (Ip (sync:=QD) a (by(intro z;cases z)) (by simp) (by decide) λv T6 j=>(aG j 0 rfl rfl rfl rfl (aB rfl) λWL k=>aG k 0 rfl rfl rfl rfl (aB rfl) λXI l=>aG l 0 rfl rfl rfl rfl (aB rfl) λYN e=>(ax (ai rfl (e.get 0 rfl) rfl rfl (FO e λg m=>aw (q g m))))))))))))))))))))))
theorem K8 (h:Holds (mb ma sr nw bt ap tm cf du sy kept last D TK wl) Z) (hg:RQ D [97]=QA (VD idx tm' (Ra A B' C D' f))) (hA:iI A) (hB:iI B') (hC:iI C) (hD:iI D') (hi:idx<2^64) (ht:tm'<2^64) (hl:(Ra A B' C D' f).length<128)
  (q: ∀RM,Holds (mb ma sr nw bt idx tm' (Ra A B' C D' f) (if kept=TK.length then(idx:Int) else min du idx) sy kept last D TK wl) RM->Q (.tup [.int idx,.int tm',.U1 21 (WO A B' C D' f)]) RM):
  RL P (d+7) 55 [.ref ma] Q X Z:=by
 generalize b:Ra A B' C D' f=cb at*
 have g:(VD idx tm' cb).drop 0=R9 idx++(R9 tm'++(fA cb++[])):=by simp[VD]
 have j:=bq g (d7 _)
 have a:=bq j.1 (d7 _)
 have n:=bq a.1 (by(intro z;cases z))
 have I:=aQ idx
 have l1:=aQ tm'
 have l2:(fA cb).length=cb.length+1:=by exact rfl
 have k:=n.2
 rw[l2,MX] at k
 have v:(VD idx tm' cb).length<2000:=by clear n a j g;exact bQ 0x617D00900E188348041248105001209204040180A05008180A050041842002400 rfl hl I l1 k
 have x:=(OB (0+(R9 idx).length+(R9 tm').length) cb.length).trans k
 refine ao [QA (.ref ma),QC,QC,QC,QC,QC,QC] rfl rfl (av (ai (af rfl (h.get 0 rfl) rfl) (h.get 1 rfl) rfl rfl (FP (h.get 1 rfl) (h.get 2 rfl) ?_)))
 rw[hg]
 refine oY (t:=QE) rfl rfl (av (oa rfl h λc R8 o=>(av (ai rfl (o.get 0 rfl) rfl rfl (BF o (i:=0) rfl hi g λSG p=>(av (ai rfl (p.get 0 rfl) rfl rfl (BF p (i:=0) rfl ht j.1 λSX r=>(av (ai rfl (r.get 0 rfl) rfl rfl (EE r (i:=0) rfl hl a.1 (FV a.2 v rfl) λT6 l=>(ax (ai rfl (l.get 0 rfl) rfl rfl (FI (l.get 0 rfl) (MB x) (dO v (aT rfl)) (λJ=>?_) (λe=>(e x).elim)))))))))))))))
 have B:=l.tail
 have y:cb≠[]:=by
  rw[<- b]
  intro e
  have:=By List.length e
  simp[Ra] at this
 refine aw (aV rfl (aK (bh (ae au rfl (ae (.RT []) rfl (EZ (iu (iF y) (av (aC (vs:=[.RT cb]) rfl ?_)))))))))
 rw[<- b]
 refine K1 B hA hB hC hD λXI E=>aw ?_
 rw[b]
 exact aG E 0 rfl rfl rfl rfl (aB rfl) λYN F=>aG F 0 rfl rfl rfl rfl (aB rfl) λQi G=>aG G 0 rfl rfl rfl rfl (aB rfl) λμ9 s=>(bT (cz (aj (ae (.t aa 24) (af rfl (s.get 0 rfl) rfl) (aj (ae ah rfl (aE (cM (u:= .int (min du idx)) s 0 rfl rfl rfl (aB rfl) λμa w=>(ax (ai rfl (w.get 0 rfl) rfl rfl (FO w λm H=>aN rfl (q m H))))))))))))
theorem zZ {ys:List Nat} {Y:Env} {p:B8×B8} {a b:Nat}
  (h:body (TG body [a,b] vs N) N (TG body [a,b] vs N) ((Y.set a (QA (.RT p.1))).set b (QA (.RT p.2))) Z):TG body [a,b] (ZF p::vs) N Y Z:=⟨rfl,h⟩
theorem wU {ys:List Nat} {Y:Env} {p:B8×B8} {a b:Nat}
  (h: ∀K:Env->H->Prop,(∀Y Z,TG body [a,b] vs N Y Z->K Y Z)->body K N K ((Y.set a (QA (.RT p.1))).set b (QA (.RT p.2))) Z):TG body [a,b] (ZF p::vs) N Y Z:=⟨rfl,h _ λJ J h=>h⟩
theorem vc {d o:Nat} {N:Env->H->Prop} {R:V->H->Prop} {x0:V}: ∀(l acc:List (B8×B8)) (Z:H) (w2 w3:Option V),acc.length+l.length<=1000->Holds ((o,.list (acc.map λp=>ZF (p.1.drop 1,p.2)))::wl) Z->
  (∀w2 w3 RM,Holds ((o,.list ((acc++l).map λp=>ZF (p.1.drop 1,p.2)))::wl) RM->N [QA x0,QA (.ref o),w2,w3] RM)->
  TG (λN' B' C' Y Z=>a8 P (RL P d) (ss [.expr (.append RJ (.tup (es [.l ah (.y .len (es [.g 19])) .none,RN])))]) N' R B' C' (λJ J J=>False) Y Z) [2,3] (l.map ZF) N [QA x0,QA (.ref o),w2,w3] Z:=by
 intro l
 induction l with
 |nil=>intro acc Z w2 w3 a h q;exact q w2 w3 Z (by simpa using h)
 |cons p t ih=>
  intro acc Z w2 w3 a h q
  simp only[Mb] at a
  refine wU (ys:=[]) λK b=>(ax (jw (u:=ZF (p.1.drop 1,p.2)) h 0 rfl rfl (λQ' c=>fS (aj (bN (v:= .RT p.1) rfl (u:= .int 1) rfl (z:= .none) rfl ⟨1,p.1.length,bc rfl (by decide),rfl,aj (ae RN rfl (aE ?_))⟩))) (by simp;exact RW 0x600F424011000180FA02412481050040 rfl a) λRM h'=>?_))
  ·rw[L5];exact c
  ·refine b _ _ (ih (acc++[p]) RM _ _ (by simp;exact RW 0x603E809048148105000180FA02412481050040 rfl a) ?_ ?_)
   ·simpa using h'
   ·simpa using q
theorem Lh (h:Holds (mw ma sr nw bt ap tm cf du sy kept last D wl) Z) (hD:D.length<60) (hk: ∀p∈D,p.1.length<=1000)
  (q: ∀RM,Holds (mw ma sr nw bt ap tm cf du sy kept last D wl) RM->Q (.list ((SN D [100] [101] (SM (D.map (·.1)))).map λp=>ZF (p.1.drop 1,p.2))) RM):RL P (d+2) 64 [.ref ma] Q X Z:=by
 refine ao [QA (.ref ma),QC,QC,QC] rfl rfl (av (dq h λo R8 b=>dh (ai (af rfl (b.get 1 rfl) rfl) (b.get 2 rfl) rfl rfl (Ir (sr:=sr) (nw:=nw) (bt:=bt) (kept:=kept) (last:=last) (D:=D) b (λRM h'=>⟨h'.get 2 rfl,h'.get 3 rfl⟩) hD hk λc f=>⟨_,rfl,?_⟩))))
 have a:=ve D [100] [101] (SM (D.map (·.1)))
 rw[mG,LZ] at a
 exact vc (R:=Q) _ [] c _ _ (by simp;exact RW 0x180FA02401060001061F01400 rfl hD a) f λw2 w3 SX g=>(cO g rfl λe i=>aN rfl (q e i))
abbrev t9 (cl:Nat) (s:o9):List (B8×B8):=match s with| .none=>[]|some t=>[(TO cl,gZ t.1 t.2.1 t.2.2)]
noncomputable abbrev lT (cl:Nat) (s:o9):List V:=match s with| .none=>[]|some t=>[.tup [.int cl,.int t.1,.bool t.2.1,.RT t.2.2]]
theorem Lj (h:Holds (mw ma sr nw bt ap tm cf du sy kept last D wl) Z) (hD:D.length<60) (hk: ∀p∈D,p.1.length<=1000) (hs:SN D [115] [116] (SM (D.map (·.1)))=t9 cl s) (ok:mA s) (hc:uq ((TO cl).drop 1)=cl)
  (q: ∀RM,Holds (mw ma sr nw bt ap tm cf du sy kept last D wl) RM->Q (.list (lT cl s)) RM):RL P (d+5) 65 [.ref ma] Q X Z:=by
 refine ao [QA (.ref ma),QC,QC,QC,QC,QC,QC] rfl rfl (av (dq h λo R8 a=>dh (ai (af rfl (a.get 1 rfl) rfl) (a.get 2 rfl) rfl rfl (Ir (sr:=sr) (nw:=nw) (bt:=bt) (kept:=kept) (last:=last) (D:=D) a (λRM h'=>⟨h'.get 2 rfl,h'.get 3 rfl⟩) hD hk λSG e=>⟨_,rfl,?_⟩))))
 rw[hs]
 cases s with
 |none=>exact iW (cO e rfl λc b=>aN rfl (q c b))
 |some t=>
  refine zZ (ys:=[]) (cD (aC rfl (Im e (ok.n _ rfl) (ok.r _ rfl) λSX g=>⟨by decide,rfl,?_⟩)))
  refine ax (jw (u:= .tup [.int cl,.int t.1,.bool t.2.1,.RT t.2.2]) g 0 rfl rfl (λQ' j=>fS (aj (aC (vs:=[.RT (TO cl)]) rfl (K5 (by exact rfl) ?_)))) (by decide) λc b=>?_)
  ·rw[hc]
   exact aj (ae au rfl (aj (ae aI rfl (aj (ae bj rfl (aE j))))))
  ·exact iW (cO b rfl λf i=>aN rfl (q f i))
theorem Lk (h:Holds (mw ma sr nw bt ap tm cf du sy kept last D wl) Z) (hD:D.length<60) (hk: ∀p∈D,p.1.length<=1000) (hs:SN D [115] [116] (SM (D.map (·.1)))=t9 cl s) (ok:mA s) (hc:uq ((TO cl).drop 1)=cl)
  (q: ∀RM,Holds (mw ma sr nw bt ap tm cf du sy kept last D wl) RM->Q (.tup [.int ap,.int tm,.RT cf,.tup ((SN D [100] [101] (SM (D.map (·.1)))).map λp=>ZF (p.1.drop 1,p.2)),.tup (lT cl s)]) RM):RL P (d+6) 66 [.ref ma] Q X Z:=by
 refine ao [QA (.ref ma)] rfl rfl (aW (fS (aj (ae (.t aa 22) (af rfl (h.get 0 rfl) rfl) (aj (ae (.t aa 5) (af rfl (h.get 0 rfl) rfl) (aj (ae (.t aa 23) (af rfl (h.get 0 rfl) rfl) (aj (cz (aj (ai rfl (h.get 0 rfl) rfl rfl (Lh h hD hk λR8 a=>aE (rK (aj (cz (aj (ai rfl (a.get 0 rfl) rfl rfl (Lj a hD hk hs ok hc λb c=>aE (rK (aE (q b c))))))))))))))))))))))
end
end
section
structure bG where
 tm:Nat
 idx:Nat
 data:B8
 oc:Option md
abbrev fW (r:bG):V:=uK r.tm r.idx r.data
abbrev bA (l:List bG):List V:=l.map fW
abbrev XB (SQ aAt snap:V) (bi TB:Int) (l:List bG):O:= .inst 26 [(30,SQ),(15,aAt),(31,snap),(32,.int bi),(33,.int TB),(34,.list (bA l))]
abbrev Sw (l:List bG) (off:Int):O:= .inst 27 [(35,.none),(34,.list (bA l)),(36,.int off)]
noncomputable abbrev Iv (st:Nat) (most:Int) (un:Nat) (com app:Int):O:= .inst 28 [(37,.ref st),(38,.int most),(39,.ref un),(40,.int com),(22,.int app)]
structure Small (r:bG):Prop where
 tm:r.tm<100000
 idx:r.idx<100000
 data:r.data.length<128
def sz (r:bG):Nat:=(R9 r.tm).length+(R9 r.idx).length+2+r.data.length
noncomputable def TU (n V0:Int) (kept:List bG):List bG->List bG
 |[]=>kept
 |r::t=>if kept≠[]/\n<V0+sz r then kept else TU n (V0+sz r) (kept++[r]) t
theorem i4:TU n V0 kept (r::t)=(if kept≠[]/\n<V0+sz r then kept else TU n (V0+sz r) (kept++[r]) t):=rfl
theorem bC (l:List bG):(bA l).length=l.length:=by exact LZ _
theorem dN {Q:V->Prop} (ha:bound 0 lo=QA a) (hb:bound l.length hi=QA b) (q:Q (.list (bA ((l.take b).drop a)))):iG Z (.list (bA l)) lo hi Q:=by
 refine⟨bA l,a,b,rfl,ha,by rw[bC];exact hb,?_⟩
 rw[bA,List.map_drop,P7] at q
 exact q
theorem dD (n:Nat):bound n .none=QA n:=rfl
theorem fw {Q:V->Prop} (q:Q (.int (i+j))):dm Z .add (.int i) (.int j) Q:=q
theorem E1 {Q:V->Prop} (q:Q (.int (i-j))):dm Z .sub (.int i) (.int j) Q:=q
theorem lF {Q:V->Prop} (q:Q (.int (i+j))):kG .add (.int i) (.int j) Q:=q
section
theorem KV (hr:Small r) (q:Q (.int (sz r)) Z):RL P (d+2) 32 [fW r] Q X Z:=by
 have h1:=hr.tm;have h2:=hr.idx;have a:=hr.data
 refine ao [QA (fW r),QC,QC] rfl rfl (aV rfl (av (bz (bz (aC (vs:=[.int r.tm]) rfl (f6 (dO ‹_› (aT rfl)) (aC (vs:=[.int r.idx]) rfl (f6 (dO ‹_› (aT rfl)) (fw (aC (vs:=[.int (0:Nat)]) rfl (f6 (by decide) (fw (aW (bz (bz (ae ah rfl (aC (vs:=[.int r.data.length]) rfl (f6 (dO ‹_› (aT rfl)) (fw (ae RJ rfl (fw ?_)))))))))))))))))))))
 have e:((R9 r.tm).length:Int)+(R9 r.idx).length+((R9 0).length:Nat)+(R9 r.data.length).length+(r.data.length:Nat)=(sz r:Nat):=by
  rw[eK a,eK (n:=0) (by decide),sz];dsimp;exact rfl
 rw[e];exact q
theorem xI: ∀(l kept:List bG) (Y9:Int) (Z:H) (w:Option V),(∀r∈l,Small r)->kept.length+l.length<=1000->Holds ((o,.list (bA kept))::wl) Z->
  (∀(V0:V) w RM,Holds ((o,.list (bA (TU n Y9 kept l)))::wl) RM->N [QA x0,QA (.int n),QA V0,QA (.ref o),w] RM)->
  TG (λN' B' C' Y Z=>a8 P (RL P (d+2)) (ss [.e 2 .add (.m au 3 .nil),
  .i (.and (es [RN,.c .gt ah RJ])) (ss [.brk]) .nil,
  .expr (.append RN au)]) N' R B' C' (λJ J J=>False) Y Z) [4] (bA l) N [QA x0,QA (.int n),QA (.int Y9),QA (.ref o),w] Z:=by
 intro l
 induction l with
 |nil=>intro kept Y9 Z w j a h q;exact q _ w Z h
 |cons r t ih=>
  intro kept Y9 Z w j a h q
  dsimp only[Mb] at a
  have s: ∀r∈t,Small r:=λz x=>j z (.tail _ x)
  rw[i4] at q
  refine cx λK u=>(gx (i:=Y9) rfl (ip (v:=fW r) rfl rfl rfl rfl (KV (j r (.head _)) (lF ?_))))
  have f:=h.get 0 rfl
  have k:(∀(V0:V) w RM,Holds ((o,.list (bA (TU n (Y9+sz r) (kept++[r]) t)))::wl) RM->N [QA x0,QA (.int n),QA V0,QA (.ref o),w] RM)->
    a8 P (RL P (d+2)) (ss [.expr (.append RN au)]) K R N K (λJ J J=>False) [QA x0,QA (.int n),QA (.int (Y9+sz r)),QA (.ref o),QA (fW r)] Z:=by
   intro q
   refine ax (eC h 0 rfl rfl rfl (by simp;exact RW 0x600F424011000180FA02412481050040 rfl a) λRM h'=>aw (u _ _ (ih (kept++[r]) (Y9+sz r) RM _ s (by simp;exact RW 0x603E809048148105000180FA02412481050040 rfl a) ?_ q)))
   rw[bA,Mc];exact h'
  by_cases g:kept=[]
  ·subst g
   rw[L4 (λh=>h.1 rfl)] at q
   exact AM (tW rfl (cS f)) (cS f) (k q)
  ·have p:truth Z (.ref o)=QA QD:=by
    rw[cS f]
    cases kept with
    |nil=>exact(g rfl).elim
    |cons=>rfl
   by_cases b:n<Y9+sz r
   ·rw[L6 ⟨g,b⟩] at q
    exact cL (oq rfl p rfl) (iF b) (q _ _ Z h)
   ·rw[L4 (λh=>b h.2)] at q
    exact aO (oq rfl p rfl) (aS b) (k q)
theorem Ie (h:Holds wl Z) (hs: ∀r∈l,Small r) (hl:l.length<=1000) (q: ∀RM,Holds wl RM->Q (.list (bA (TU n 0 [] l))) RM):RL P (d+3) 33 [.list (bA l),.int n] Q X Z:=by
 refine ao [QA (.list (bA l)),QA (.int n),QC,QC,QC] rfl rfl (aV rfl (av (dq h λo a c=>dh (ae aa rfl ⟨_,rfl,?_⟩))))
 exact xI (R:=Q) l [] 0 a _ hs (by simp;assumption) c λV0 w SG e=>(cO e rfl λb f=>aN rfl (q b f))
end
theorem lK (n:Int): ∀(l kept:List bG) (V0:Int),∃k,k<=l.length/\TU n V0 kept l=kept++l.take k/\(l≠[]->kept=[]->0<k)/\TU n V0 kept (l.take k)=kept++l.take k:=λl=>l.rec (λkept V0=>⟨0,AS _,(MC _).symm,λh=>(h rfl).elim,(MC _).symm⟩) λr t ih kept V0=>by
  rw[i4]
  by_cases h:kept≠[]/\n<V0+sz r
  ·rw[L6 h]
   exact⟨0,Mi _,by simp,λJ e=>(h.1 e).elim,(MC _).symm⟩
  ·rw[L4 h]
   obtain⟨k,h1,a,-,b⟩:=ih (kept++[r]) (V0+sz r)
   refine⟨k+1,by simp;assumption,by rw[a];simp,λJ J=>aX 427848556871696 rfl,?_⟩
   rw[List.take_succ_cons]
   rw[i4,L4 h,b];simp
end
section
noncomputable abbrev UL (t v c:Int):V:= .U1 20 [(5,.int t),(8,.int v),(9,.int c)]
noncomputable abbrev VG (i t:Int) (cv d:V):V:= .U1 22 [(6,.int i),(5,.int t),(15,cv),(0,d)]
section
theorem wa: ∀(vs:List V) (Y:Env),(∀v∈vs,∀w,pe p c ((Y.set x w).set x (QA v)) Z=QA (.bool QE))->(∀w,N (Y.set x w) Z)->N Y Z->
  TG (λN' B' C' Y Z=>a8 p cl (ss [.i c (ss [.k]) .nil]) N' R B' C' (λJ J J=>False) Y Z) [x] vs N Y Z:=by
 intro vs
 induction vs with
 |nil=>intro Y _ _ q;exact q
 |cons v t ih=>
  intro Y d b q
  have a:=d v (.head _) QC
  rw[NU] at a
  refine cx λK e=>(aO (t:=QE) a rfl (aw (e _ _ (ih (Y.set x (QA v)) (λu f w=>?_) (λw=>?_) (b _)))))
  ·rw[NU]
   exact d u (.tail _ f) _
  ·rw[NU];exact b _
theorem rt {f:Nat} {R3:Nat->H->Prop} (h:wE p cl e Y (λv Z=> ∃u,V9 Z v f=QA u/\Q u Z) R3 Z):wE p cl (.t e f) Y Q R3 Z:=h
theorem tf {R3:Nat->H->Prop} (h:wE p cl a Y (λu Z=>wE p cl b Y (λv Z=>lV Z u v λr=>Q r Z) R3 Z) R3 Z):wE p cl (.sub a b) Y Q R3 Z:=h
theorem mem_range {n:Int} (h:v∈(eF 0 n).map V.int): ∃k:Nat,v= .int k/\(k:Int)<n:=by
 obtain⟨i,a,rfl⟩:=L8.mp h
 unfold eF at a
 obtain⟨k,b,rfl⟩:=L8.mp a
 have:=P2.mp b
 exact⟨k,by simp,Pq n▸Qe.mp this⟩
theorem kg {n k:Nat} {i:Int} (e:i=k) (h:k<n):idx n i=QA k:=by
 subst e
 unfold idx
 rw[L6 ⟨by exact oR _,by exact Mo.mpr ‹_›⟩];rfl
theorem cR {l:List V} {k:Nat} {v:V} {i:Int} (e:i=k) (h:l[k]?=QA v):je Z (.list l) (.int i)=QA v:=by
 show(idx l.length i).bind _=_
 rw[kg e (ba h)];exact h
theorem eV {l:List V} (h:l.getLast?=QA v):je Z (.list l) (.int (-1))=QA v:=by
 rcases Nn l with rfl|⟨a,z,rfl⟩
 ·simp at h
 ·show(idx (a.concat z).length (-1)).bind _=_
  rw[List.length_concat,pW]
  simpa using h
theorem pR {l:List bG} {k:Nat} {r:bG} (h:l[k]?=QA r):(bA l)[k]?=QA (fW r):=by simp[h]
end
section
theorem rS {Y:Env} {es:Es} {a b c e:V} (hs:jH P es Y Z=QA [a,b,c,e]) (h:Holds wl Z) (q: ∀RM,Holds wl RM->Q (.U1 19 [(5,a),(6,b),(7,c),(0,e)]) RM):wE P (RL P (d+1)) (.new 19 QD es) Y Q X Z:=
 kX h rfl hs λn RM h'=>ao [QA (.ref n),QA a,QA b,QA c,QA e] rfl rfl (
  aG h' 0 rfl rfl rfl rfl (aB rfl) λR8 f=>aG f 0 rfl rfl rfl rfl (aB rfl) λSG g=>aG g 0 rfl rfl rfl rfl (aB rfl) λSX i=>aG i 0 rfl rfl rfl rfl (aB rfl) λT6 j=>lI j q)
theorem og {Y:Env} {es:Es} {a b c:Int} (hs:jH P es Y Z=QA [.int a,.int b,.int c]) (h:Holds wl Z) (q: ∀RM,Holds wl RM->Q (UL a b c) RM):wE P (RL P (d+1)) (.new 20 QD es) Y Q X Z:=
 kX h rfl hs λn RM h'=>ao [QA (.ref n),QA (.int a),QA (.int b),QA (.int c)] rfl rfl (
  aG h' 0 rfl rfl rfl rfl (aB rfl) λR8 e=>aG e 0 rfl rfl rfl rfl (aB rfl) λSG f=>aG f 0 rfl rfl rfl rfl (aB rfl) λSX g=>lI g q)
theorem oi {Y:Env} {es:Es} {a b:Int} {c e:V} (hs:jH P es Y Z=QA [.int a,.int b,c,e]) (h:Holds wl Z) (q: ∀RM,Holds wl RM->Q (VG a b c e) RM):wE P (RL P (d+1)) (.new 22 QD es) Y Q X Z:=
 kX h rfl hs λn RM h'=>ao [QA (.ref n),QA (.int a),QA (.int b),QA c,QA e] rfl rfl (
  aG h' 0 rfl rfl rfl rfl (aB rfl) λR8 f=>aG f 0 rfl rfl rfl rfl (aB rfl) λSG g=>aG g 0 rfl rfl rfl rfl (aB rfl) λSX i=>aG i 0 rfl rfl rfl rfl (aB rfl) λT6 j=>lI j q)
theorem Ig {a b c:Int} (h:Holds wl Z) (q: ∀RM,Holds wl RM->Q (UL a b c) RM):RL P (d+2) 35 [UL a b c] Q X Z:=
 ao [QA (UL a b c)] rfl rfl (aW (og rfl h q))
noncomputable abbrev Qm (A:List Nat):Int:=if A.length=0 then 0 else 1
theorem Lp {C:List Nat} (h:Holds ((st,.inst 26 [])::wl) Z) (q: ∀RM,Holds ((st,XB (UL (Qm A) 0 (Qm A)) (.U1 21 (WO A B' C D' f)) (VG (Qm A) (Qm A) (.U1 21 (WO A B' C D' f)) (.RT [])) (Qm A) (Qm A) [])::wl) RM->Q .none RM):
  RL P (d+2) 76 [.ref st,.U1 21 (WO A B' C D' f)] Q X Z:=by
 refine ao [QA (.ref st),QA (.U1 21 (WO A B' C D' f)),QC] rfl rfl (aV rfl ?_)
 have g: ∀b:Int,b=Qm A->a8 P (RL P (d+1)) (ss [.A aa 30 (.new 20 QD (es [ah,.int 0,ah])),
 .A aa 15 RJ,
 .A aa 31 (.new 22 QD (es [ah,ah,RJ,.RT []])),
 .A aa 32 ah,
 .A aa 33 ah,
 .A aa 34 (.list QD .nil)]) (λJ Z=>Q .none Z) Q (λJ J=>False) (λJ J=>False) (λc J Z=>X c Z) [QA (.ref st),QA (.U1 21 (WO A B' C D' f)),QA (.int b)] Z:=by
  intro b s
  rw[s]
  exact bT (og rfl h λR8 j=>cM j 0 rfl rfl rfl (aB rfl) λSG k=>(aG k 0 rfl rfl rfl rfl (aB rfl) λSX l=>(bT (oi rfl l λT6 m=>cM m 0 rfl rfl rfl (aB rfl) λWL n=>(aG n 0 rfl rfl rfl rfl (aB rfl) λXI o=>aG o 0 rfl rfl rfl rfl (aB rfl) λYN p=>aG p 0 rfl rfl rfl rfl (aB rfl) λi r=>aw (q i r))))))
 have a:pe P (.c .gt (.y .len (es [.t RJ 10])) (.int 0)) [QA (.ref st),QA (.U1 21 (WO A B' C D' f)),QA (.int 0)] Z=QA (.bool (decide ((0:Int)<(nats A).length))):=rfl
 have u:(nats A).length=A.length:=by exact LZ _
 rw[u] at a
 by_cases e:A.length=0
 ·exact aO a (aS (aX 0x1D15000441880400 rfl e)) (g 0 (by rw[Qm,L6 e]))
 ·exact cL a (iF (aX 0x1C55000441840010 rfl (Mk e))) (aV rfl (aw (g 1 (by rw[Qm,L4 e]))))
theorem It {a b c:Int} (h:Holds wl Z) (hs:Z[st]?=QA (XB (UL a b c) cv snap bi TB sl)) (q: ∀v RM,Holds wl RM->Q (.tup [UL a b c,v]) RM) (hw: ∀RM,Holds wl RM->RM[st]?=QA (XB (UL a b c) cv snap bi TB sl)):RL P (d+3) 77 [.ref st] Q X Z:=by
 exact ao [QA (.ref st)] rfl rfl (aW (fS (aj (ip (v:=UL a b c) (af rfl hs rfl) rfl rfl rfl (Ig h λe f=>(aj (ae (.t aa 15) (af rfl (hw e f) rfl) (aE (q cv e f)))))))))
theorem EH (hs:Z[st]?=QA (XB SQ cv snap bi TB sl)) (q:Q (.int (bi+1)) Z):RL P (d+1) 78 [.ref st] Q X Z:=
 ao [QA (.ref st)] rfl rfl (aN (aJ (af rfl hs rfl) rfl rfl) q)
theorem BH (hs:Z[st]?=QA (XB SQ cv snap bi TB sl)) (q:Q (.int (bi+sl.length)) Z):RL P (d+1) 79 [.ref st] Q X Z:=
 ao [QA (.ref st)] rfl rfl (aN (aJ (af rfl hs rfl) (cn (af rfl hs rfl) rfl) rfl) (by rw[bC];exact q))
def gd (bi TB:Int) (sl:List bG) (i t:Int):Prop:=(i=bi/\t=TB)\/ ∃k r,sl[k]?=QA r/\i=bi+1+(k:Nat)/\t=(r.tm:Nat)
theorem Hm {i t:Int} (hs:Z[st]?=QA (XB SQ cv snap bi TB sl)) (ht:gd bi TB sl i t) (q:Q (.int t) Z):RL P (d+2) 81 [.ref st,.int i] Q X Z:=by
 refine ao [QA (.ref st),QA (.int i)] rfl rfl ?_
 have a:bi<=i/\i<=bi+sl.length:=by
  rcases ht with⟨rfl,-⟩|⟨k,r,hr,rfl,-⟩
  ·exact⟨d3 459402 rfl,mC 120583357066 rfl⟩
  ·have:=ba hr;exact⟨mC 0x1C135404C105128A rfl,q4 0x704D504A4D501304144A061040 rfl this⟩
 refine aO (aH rfl (af rfl hs rfl) rfl) (aS (pj 7982381728458 rfl a.1)) (aK (bh (ae RJ rfl (ai rfl hs rfl rfl (BH hs (j4 (cI (aS (jt 0x742935402C1C135402CA rfl a.2)) ?_)))))))
 rcases ht with⟨rfl,rfl⟩|⟨k,r,hr,rfl,rfl⟩
 ·exact cL (aH rfl (af rfl hs rfl) rfl) (iF rfl) (aN (af rfl hs rfl) q)
 ·exact aO (aH rfl (af rfl hs rfl) rfl) (aS (mC 0x1D4A4D501304144A rfl)) (aW (rt (tf (ae (.t aa 34) (af rfl hs rfl) (bz (ae RJ rfl (ai rfl hs rfl rfl (EH hs (E1 (⟨k,fW r,kg (mC 0x7254051304144A4D501304144A rfl) (by rw[bC];exact ba hr),pR hr,_,rfl,q⟩))))))))))
theorem Lq {n:Int} (h:Holds wl Z) (hs:Z[st]?=QA (XB SQ cv snap bi TB sl)) (ha:lo=bi+1+(a:Nat)) (hb:hi=bi+1+(b:Nat)) (XM:a<b) (YF:b<=sl.length) (hl:sl.length<=1000) (sm: ∀r∈sl,Small r)
  (q: ∀RM,Holds wl RM->Q (.list (bA (TU n 0 [] ((sl.take b).drop a)))) RM):RL P (d+4) 80 [.ref st,.int lo,.int hi,.int n] Q X Z:=by
 refine ao [QA (.ref st),QA (.int lo),QA (.int hi),QA (.int n),QC] rfl rfl (aO (aH rfl (af rfl hs rfl) rfl) (aS (jt 0x1CCB2A1C935404C10512CA rfl ha)) (aK (bh (ae ah rfl (bz (ai rfl hs rfl rfl (BH hs (ae (.int 1) rfl (fw (j4 (cI (aS (D6 0x742930414535412C1801001C935404C10512CA rfl hb YF)) (aO (t:=decide (hi<=lo)) rfl (aS (D7 0x7328C0610408724D505304144B301C935404C10512CA rfl ha hb XM)) (av (ai rfl hs rfl rfl (EH hs (aW (iU (aj (bN (af rfl hs rfl) (u:= .int (lo-(bi+1))) rfl (z:= .int (hi-(bi+1))) rfl (dN (bc (k:=a) (jt 0x7254051304144B281C935404C10512CA rfl ha) (SD 0x187B9ACA0015000180FA02402060081061040 rfl XM YF hl)) (bc (k:=b) (jt 0x7254051304144B281C935404C10512CA rfl hb) (RW 0x187B9ACA0015000180FA02401060040 rfl YF hl)) (aj (ae RN rfl (aE (Ie h (λr c=>sm r (MR (Nt c))) (by simp;exact SD 0x604823E809004180004180FA02400 rfl hl (Mm _ _)) q))))))))))))))))))))))))
theorem Lr {a b c:Int} (h:Holds ((st,XB SQ cv snap bi TB sl)::wl) Z) (q: ∀RM,Holds ((st,XB (UL a b c) cv snap bi TB sl)::wl) RM->Q .none RM):RL P (d+3) 82 [.ref st,UL a b c] Q X Z:=by
 exact ao [QA (.ref st),QA (UL a b c)] rfl rfl (bT (ip (v:=UL a b c) rfl rfl rfl rfl (Ig h λR8 e=>(cM e 0 rfl rfl rfl (aB rfl) q))))
end
end
section
def nC (i:Int) (l:List bG):Prop:= ∀(k:Nat) (r:bG),l[k]?=QA r->(r.idx:Int)=i+k
theorem rJ {Q:V->Prop} (h:a.length+b.length<=1000000) (q:Q (.list (bA (a++b)))):dm Z .add (.list (bA a)) (.list (bA b)) Q:=by
 rw[bA,Mc] at q
 exact⟨_,_,rfl,rfl,by simpa using h,q⟩
theorem mZ {k:Nat} {i:Int} (e:i=k) (h:l[k]?=QA r):je Z (.list (bA l)) (.int i)=QA (fW r):=cR e (pR h)
section
noncomputable def Wj (sl:List bG) (a:Nat) (l:List bG):List bG:=if l=[] then sl else sl.take a++l
theorem pD (hc: ∀(k:Nat) r w,l[k]?=QA r->pe p c ((Y.set x w).set x (QA (.int k))) Z=QA (.bool QE)) (he:Y.set x QC=Y) (hN: ∀w,N (Y.set x w) Z):
  TG (λN' B' C' Y Z=>a8 p cl (ss [.i c (ss [.k]) .nil]) N' R B' C' (λJ J J=>False) Y Z) [x] ((eF 0 (bA l).length).map V.int) N Y Z:=by
 refine wa _ Y (λv d w=>?_) hN (by rw[<- he];exact hN QC)
 obtain⟨k,rfl,a⟩:=mem_range d
 rw[bC] at a
 have b:k<l.length:=RW 0x61040071541540 rfl a
 exact hc k l[k] w (As b)
theorem Ls {a:Nat} (h:Holds ((st,XB SQ cv snap bi TB sl)::wl) Z) (hi:nC (bi+1+a) l) (ha:a<=sl.length) (hl:l.length<=1000) (hs:sl.length<=1000) (q: ∀RM,Holds ((st,XB SQ cv snap bi TB (Wj sl a l))::wl) RM->Q .none RM):RL P (d+2) 83 [.ref st,.list (bA l)] Q X Z:=by
 refine ao [QA (.ref st),QA (.list (bA l)),QC,QC,QC] rfl rfl ?_
 cases l with
 |nil=>exact cL (t:=QD) rfl rfl (aN rfl (q Z (by exact h)))
 |cons r t=>
  have b:=hi 0 r rfl
  refine aO (t:=QE) ?_ rfl ?_
  ·show QA (V.bool (decide (((bA (r::t)).length:Int)=0)))=_
   rw[bC,aS (by dsimp;exact aX 0x750114C1051540 rfl)]
  refine aV (v:= .int r.idx) (cN (bp rfl rfl (mZ (k:=0) rfl rfl)) rfl) (dh (cz (aj (ae (v:= .int (bA (r::t)).length) _ rfl (aE ⟨by rw[bC];exact aX 0x1C43D0900445500180FA02400 rfl hl,aX 0x1C550160F4240111 rfl,_,rfl,pD (l:=r::t) (λk e w c=>?_) rfl (λw=>?_)⟩)))))
  ·refine aH (cN (bp rfl rfl (mZ rfl c)) rfl) rfl ?_
   have i:=hi k e c
   show QA (decide ((e.idx:Int)≠(r.idx:Int)+k))=_
   rw[aS (λzh=>zh (H7 0x724D50D5015081C935434D505304144A5428724D50104D505304144A540 rfl b i))]
  ·
   refine av (ai rfl (h.get 0 rfl) rfl rfl (EH (h.get 0 rfl) (aO (t:=decide ((r.idx:Int)+((bA (r::t)).length:Nat)-1<bi+1)) rfl (aS (by rw[bC];dsimp;exact DU 0x744C10512940414534C10515425408724D50104D505304144A540 rfl b)) (aK (bh (ae ah rfl (bz (ai rfl (h.get 0 rfl) rfl rfl (BH (h.get 0 rfl) (ae (.int 1) rfl (fw (j4 (cI (aS (DU 0x745424C10514D504A0724D50104D501304144A542060040 rfl ha b)) (aO (t:=decide ((r.idx:Int)<bi+1)) rfl (aS (q4 0x1D1304144A5408724D50104D505304144A540 rfl b)) (bT (bz (bN (af rfl (h.get 0 rfl) rfl) (u:= .none) rfl (z:= .int ((r.idx:Int)-(bi+1))) rfl (dN (a:=0) rfl (bc (k:=a) (q4 0x7254151304144A5400724D50104D505304144A540 rfl b) (RW 0x187B9ACA0015000180FA02401060040 rfl ha hs)) ?_))))))))))))))))))
   rw[NB]
   refine ae RJ rfl (rJ (by simp at hl ⊢;exact SD 0x1803D090044124810500420600020603E709004180FA02400 rfl hs hl (Mm _ _)) (cM h 0 rfl rfl rfl (aB rfl) λf g=>aw (q f ?_)))
   rw[Wj,L4 (by(intro z;cases z))];exact g
theorem Lu (h:Holds ((st,XB SQ cv (VG si sT cv0 d0) bi TB sl)::wl) Z) (h1:si<i) (h2:bi<=i) (q: ∀RM,Holds ((st,XB SQ cv' (VG i t cv' dv) i t [])::wl) RM->Q .none RM):RL P (d+1) 84 [.ref st,VG i t cv' dv] Q X Z:=by
 refine ao [QA (.ref st),QA (VG i t cv' dv)] rfl rfl ?_
 have g:=h.get 0 rfl
 exact aO (cq (aH rfl (cN (af rfl g rfl) rfl) rfl) (aS (P8.mpr ‹_›)) (aH rfl (af rfl g rfl) rfl)) (aS (Nf.mpr ‹_›)) (aG h 0 rfl rfl rfl rfl (aB rfl) λR8 h1=>aG h1 0 rfl rfl rfl rfl (aB rfl) λSG h2=>aG h2 0 rfl rfl rfl rfl (aB rfl) λSX b=>(aG b 0 rfl rfl rfl rfl (aB rfl) λT6 c=>aG (u:= .list (bA [])) c 0 rfl rfl rfl rfl (aB rfl) λa e=>aw (q a e)))
theorem gd.bounds (ht:gd bi TB sl i t):bi<=i/\i<=bi+sl.length:=by
 rcases ht with⟨rfl,-⟩|⟨k,r,hr,rfl,-⟩
 ·exact⟨d3 459402 rfl,mC 120583357066 rfl⟩
 ·have:=ba hr;exact⟨mC 0x1C135404C105128A rfl,q4 0x704D504A4D501304144A061040 rfl this⟩
theorem Lv (h:Holds ((st,XB SQ cv (VG si sT cv0 d0) bi TB sl)::wl) Z) (h1:si<i) (ht:gd bi TB sl i t) (q: ∀v RM,Holds ((st,XB SQ cv (VG i t cv dv) bi TB sl)::wl) RM->Q v RM):RL P (d+3) 85 [.ref st,.int i,.none,dv] Q X Z:=by
 have c:=ht.bounds
 refine ao [QA (.ref st),QA (.int i),QA .none,QA dv,QC] rfl rfl ?_
 have g:=h.get 0 rfl
 exact aO (aH rfl (cN (af rfl g rfl) rfl) rfl) (aS (P8.mpr ‹_›)) (aK (bh (ae RJ rfl (ai rfl g rfl rfl (BH g (j4 (cI (aS (jt 0x742935402C1C135402CA rfl c.2)) (av (ai rfl g rfl rfl (Hm g ht (aO (t:=QE) rfl rfl (bT (oi (aA rfl (aA rfl (aA (af rfl g rfl) rfl))) h λR8 h1=>cM h1 0 rfl rfl rfl (aB rfl) λb a=>(aN (af rfl (a.get 0 rfl) rfl) (q _ b a)))))))))))))))
theorem Lw {i t:Int} {a:Nat} (h:Holds ((st,XB SQ cv snap bi TB sl)::wl) Z) (hi:i=bi+a) (ha:0<a) (hl:sl.length<=1000) (ht:gd bi TB sl i t) (q: ∀RM,Holds ((st,XB SQ cv snap i t (sl.drop a))::wl) RM->Q .none RM):RL P (d+3) 86 [.ref st,.int i] Q X Z:=by
 have b:=ht.bounds
 refine ao [QA (.ref st),QA (.int i),QC] rfl rfl ?_
 have g:=h.get 0 rfl
 refine aO (aH rfl (af rfl g rfl) rfl) (aS (jt 0x732CA061000421C935402CA rfl hi ha)) (aK (bh (ae RJ rfl (ai rfl g rfl rfl (BH g (j4 (cI (aS (jt 0x742935402C1C135402CA rfl b.2)) (av (ai rfl g rfl rfl (Hm g ht (bT (bN (af rfl g rfl) (aJ rfl (af rfl g rfl) rfl) (z:= .none) rfl (dN (bc (k:=a) (jt 0x7254050B281C935402CA rfl hi) (D6 0x187B9ACA00150001C135412CA0603E8090061C935402CA rfl hi hl b.2)) (dD _) ?_)))))))))))))
 rw[L5]
 refine cM h 0 rfl rfl rfl (aB rfl) λR8 e=>aG e 0 rfl rfl rfl rfl (aB rfl) λSG f=>aG f 0 rfl rfl rfl rfl (aB rfl) λc j=>aw (q c j)
theorem E6 {Y:Env} {es:Es} (h:Holds wl Z) (q: ∀un RM,Holds ((un,Sw [] off)::wl) RM->Q (.ref un) RM)
  (mono: ∀Q':List V->H->Prop,Q' [.int off] Z->js P (RL P (d+1)) es Y Q' X Z):wE P (RL P (d+1)) (.new 27 QE es) Y Q X Z:=
 ⟨_,rfl,mono _ (ao [QA (.ref Z.length),QA (.int off)] rfl rfl (
  aG (h.new _) 0 rfl rfl rfl rfl (aB rfl) λR8 b=>aG (u:= .list (bA [])) b 0 rfl rfl rfl rfl (aB rfl) λSG c=>aG c 0 rfl rfl rfl rfl (aB rfl) λa e=>aw ⟨rfl,q _ a e⟩))⟩
theorem Lx (hu:Z[un]?=QA (Sw ul off)) (q:Q .none Z):RL P (d+1) 88 [.ref un] Q X Z:=
 ao [QA (.ref un)] rfl rfl (aO (t:=QE) (aH (af rfl hu rfl) rfl rfl) rfl (aN rfl q))
theorem Ly (hu:Z[un]?=QA (Sw ul off)) (q0:ul=[]->Q .none Z) (q1:ul≠[]->Q (.int (off+ul.length-1)) Z):RL P (d+1) 89 [.ref un] Q X Z:=by
 refine ao [QA (.ref un)] rfl rfl ?_
 have e:=bC ul
 by_cases h:ul=[]
 ·exact aO (aH (cn (af rfl hu rfl) rfl) rfl rfl) (aS (by simp[h])) (aO (t:=QE) (aH (af rfl hu rfl) rfl rfl) rfl (aN rfl (q0 h)))
 ·refine cL (aH (cn (af rfl hu rfl) rfl) rfl rfl) (iF (by have:=M3.mpr h;exact RW 0x1C55000441841010862040 rfl e this)) (aN (aJ (aJ (af rfl hu rfl) (cn (af rfl hu rfl) rfl) rfl) rfl rfl) ?_)
  rw[e];exact q1 h
theorem pL (hu:Z[un]?=QA (Sw ul off)) (hi:i<off\/off+ul.length<=i) (q:Q .none Z):RL P (d+1) 90 [.ref un,.int i] Q X Z:=by
 refine ao [QA (.ref un),QA (.int i)] rfl rfl ?_
 by_cases h:i<off
 ·exact cL (aH rfl (af rfl hu rfl) rfl) (iF h) (aO (t:=QE) (lQ (aH (af rfl hu rfl) rfl rfl) rfl) rfl (aN rfl q))
 ·exact aO (aH rfl (af rfl hu rfl) rfl) (aS h) (cL (aH rfl (aJ (af rfl hu rfl) (cn (af rfl hu rfl) rfl) rfl) rfl) (iF (by rw[bC];exact hi.resolve_left ‹_›)) (aN rfl q))
theorem pM {i:Int} {k:Nat} (hu:Z[un]?=QA (Sw ul off)) (hk:ul[k]?=QA r) (hi:i=off+k) (q:Q (.int r.tm) Z):RL P (d+1) 90 [.ref un,.int i] Q X Z:=by
 have:=ba hk
 exact ao [QA (.ref un),QA (.int i)] rfl rfl (aO (aH rfl (af rfl hu rfl) rfl) (aS (jt 0x1D0B2A1C935402CA rfl hi)) (aO (aH rfl (aJ (af rfl hu rfl) (cn (af rfl hu rfl) rfl) rfl) rfl) (aS (by rw[bC];exact D6 0x732935412C1841001C935402CA rfl hi this)) (aN (cN (bp (af rfl hu rfl) (aJ rfl (af rfl hu rfl) rfl) (mZ (jt 0x7254050B281C935402CA rfl hi) hk)) rfl) q)))
theorem Lz {i:Int} {k:Nat} (h:Holds ((un,Sw ul off)::wl) Z) (hk:ul[k]?=QA r) (hi:i=off+k) (hl:ul.length<=1000) (q: ∀RM,Holds ((un,Sw (ul.drop (k+1)) (i+1))::wl) RM->Q .none RM):RL P (d+2) 91 [.ref un,.int i,.int r.tm] Q X Z:=by
 have g:=h.get 0 rfl
 have:=ba hk
 refine ao [QA (.ref un),QA (.int i),QA (.int r.tm),QC] rfl rfl (aO (aH rfl (af rfl g rfl) rfl) (aS (jt 0x1D0B2A1C935402CA rfl hi)) (av (ai rfl g rfl rfl (pM g hk hi (aO (cq (t:=QE) rfl rfl (aH rfl rfl rfl)) (aS (λh=>h rfl)) (bT (bN (af rfl g rfl) (aJ (aJ rfl rfl rfl) (af rfl g rfl) rfl) (z:= .none) rfl (dN (bc (k:=k+1) (jt 0x7255204140050B4C1051281C935402CA rfl hi) (RW 0x187B9ACA0015048105004184004180FA02400 rfl hl this)) (dD _) ?_))))))))
 rw[L5]
 exact cM h 0 rfl rfl rfl (aB rfl) λR8 b=>aG b 0 rfl rfl rfl rfl (aB rfl) λa c=>aw (q a c)
theorem LB {lo hi:Int} {a b:Nat} (hu:Z[un]?=QA (Sw ul off)) (h1:lo=off+a) (h2:hi=off+b) (XM:a<=b) (hb:b<=ul.length) (hl:ul.length<=1000) (q:Q (.list (bA ((ul.take b).drop a))) Z):RL P (d+1) 93 [.ref un,.int lo,.int hi] Q X Z:=by
 exact ao [QA (.ref un),QA (.int lo),QA (.int hi)] rfl rfl (aO (t:=decide (hi<lo)) rfl (aS (D7 0x7428C0600408724D504B301C935402CA rfl h1 h2 XM)) (aO (cq (aH rfl (af rfl hu rfl) rfl) (aS (jt 0x1D0B2A1C935402CA rfl h1)) (aH rfl (aJ (af rfl hu rfl) (cn (af rfl hu rfl) rfl) rfl) rfl)) (aS (by rw[bC];exact D6 0x742935412C1801001C935402CA rfl h2 hb)) (aW (bN (af rfl hu rfl) (aJ rfl (af rfl hu rfl) rfl) (aJ rfl (af rfl hu rfl) rfl) (dN (bc (k:=a) (jt 0x7254050B281C935402CA rfl h1) (SD 0x187B9ACA0015000180FA02402060081060040 rfl XM hb hl)) (bc (k:=b) (jt 0x7254050B281C935402CA rfl h2) (RW 0x187B9ACA0015000180FA02401060040 rfl hb hl)) q)))))
def sS (ul:List bG) (off:Int) (l:List bG) (at_:Int) (Sx:List bG) (WW:Int):Prop:=
 (∃a:Nat,at_=off+a/\a<=ul.length/\Sx=ul.take a++l/\WW=off)\/(at_<=off/\Sx=l/\WW=at_)
theorem LA {WW:Int} (h:Holds ((un,Sw ul off)::wl) Z) (hr:l.head?=QA r) (ht:sS ul off l r.idx Sx WW) (hl:l.length<=1000) (Qw:ul.length<=1000) (q: ∀RM,Holds ((un,Sw Sx WW)::wl) RM->Q .none RM):RL P (d+2) 92 [.ref un,.list (bA l)] Q X Z:=by
 have g:=h.get 0 rfl
 have e:=bC ul
 have p:l[0]?=QA r:=by cases l with|nil=>cases hr|cons a t=>exact hr
 have s:=ba p
 refine ao [QA (.ref un),QA (.list (bA l)),QC] rfl rfl (aO (t:=decide (((bA l).length:Int)=0)) rfl (aS (by rw[bC];exact aX 0x1D40455001840010 rfl s)) (aV (v:= .int r.idx) (cN (bp rfl rfl (mZ (k:=0) rfl p)) rfl) ?_))
 by_cases i:(r.idx:Int)=off+ul.length
 ·have j:Sx=ul++l/\WW=off:=by
   rcases ht with⟨a,c,f,h3,h4⟩|⟨c,f,h3⟩
   ·have:a=ul.length:=DU 0x620428724D508A5400724D504A540 rfl i c
    rw[this,L5] at h3
    exact⟨h3,h4⟩
   ·have:ul=[]:=Me (L2 (q4 0x60010041C0A5408724D504A540 rfl i c) (aX 25165840 rfl))
    subst this
    exact⟨by exact f,by simp at i;exact jt 0x722CA0722D5001C9500A rfl h3 i⟩
  rw[j.1,j.2] at q
  exact cL (aH rfl (aJ (af rfl g rfl) (cn (af rfl g rfl) rfl) rfl) rfl) (iF (by rw[e];assumption)) (bT (bz (ae (.t aa 34) (af rfl g rfl) (ae RJ rfl (rJ (RW 0x1803D090044120010603E809004180FA02400 rfl hl Qw) (cM h 0 rfl rfl rfl (aB rfl) λo c=>aw (aw (q o c))))))))
 ·refine oY (aH rfl (aJ (af rfl g rfl) (cn (af rfl g rfl) rfl) rfl) rfl) (aS (by rw[e];assumption)) ?_
  by_cases m:(r.idx:Int)<=off
  ·have j:Sx=l/\WW=r.idx:=by
    rcases ht with⟨a,c,f,h3,h4⟩|⟨c,f,h3⟩
    ·have:a=0:=L2 (q4 0x60010061C93541295001C0A540 rfl m c) (aX 25165840 rfl)
     subst this
     exact⟨by exact h3,jt 0x725402A1C9354040B5400722CA rfl h4 c⟩
    ·exact⟨f,h3⟩
   rw[j.1,j.2] at q
   refine cL (aH rfl (af rfl g rfl) rfl) (iF m) (aG h 0 rfl rfl rfl rfl (aB rfl) λo c=>bT (bN (v:= .list (bA l)) rfl (u:= .none) rfl (z:= .none) rfl (dN (a:=0) rfl (dD _) ?_)))
   rw[NB,L5]
   exact cM c 0 rfl rfl rfl (aB rfl) λn f=>aw (aw (aw (q n f)))
  ·rcases ht with⟨a,c,f,h3,h4⟩|⟨c,f,h3⟩
   ·rw[h3,h4] at q
    refine oY (aH rfl (af rfl g rfl) rfl) (aS m) (cL (aH rfl (aJ (af rfl g rfl) (cn (af rfl g rfl) rfl) rfl) rfl) (iF (by rw[e];exact q4 0x714D504A5400714D504A540 rfl (Hp (DU 0x704D508A5400600810724D504A540 rfl c f) i))) (bT (bz (ai rfl g rfl (aA (af rfl g rfl) rfl) (LB (a:=0) (b:=a) g (d3 7854773830282 rfl) c (Mi _) f Qw ?_)))))
    rw[NB]
    exact ae RJ rfl (rJ (by simp;exact SD 0x1803D090044120020600420603E809004180FA02400 rfl hl Qw (Mm _ _)) (cM h 0 rfl rfl rfl (aB rfl) λn f=>aw (aw (aw (aw (q n f))))))
   ·exact(m c).elim
end
end
section
theorem wY {p:gX} {cl:cw} {e:E} {es:Es} {Y:Env} {Z:H} {Q:H->Prop} {R3:Nat->H->Prop} (h:wE p cl e Y (λv Z=> ∃i,v=V.int i/\0<=i/\i<10000000000/\y7 p cl es Y Q R3 Z) R3 Z):y7 p cl (.cons e es) Y Q R3 Z:=h
theorem Holds.aB3 (h:Holds (a::b::c::t) Z):Holds (c::b::a::t) Z:=h.perm ((List.reverse_perm [c,b,a]).append_right t)
section
abbrev lw (st lg un:Nat) (SQ cv snap:V) (bi TB:Int) (sl:List bG) (most com app:Int) (ul:List bG) (off:Int) (wl:List (Nat×O)):List (Nat×O):=
 (st,XB SQ cv snap bi TB sl)::(lg,Iv st most un com app)::(un,Sw ul off)::wl
structure Lg (st lg un:Nat) (SQ cv snap:V) (bi TB:Int) (sl:List bG) (most com app:Int) (ul:List bG) (off:Int) (Z:H):Prop where
 s:Z[st]?=QA (XB SQ cv snap bi TB sl)
 l:Z[lg]?=QA (Iv st most un com app)
 u:Z[un]?=QA (Sw ul off)
theorem Lg.of (h:Holds (lw st lg un SQ cv snap bi TB sl most com app ul off wl) Z):Lg st lg un SQ cv snap bi TB sl most com app ul off Z:=⟨h.get 0 rfl,h.get 1 rfl,h.get 2 rfl⟩
def fZ (bi:Int) (sl ul:List bG) (off la:Int):Prop:=(ul=[]/\la=bi+sl.length)\/(ul≠[]/\la=off+ul.length-1)
theorem LC (h:Holds ((lg,.inst 28 [])::(st,XB SQ cv snap bi TB sl)::wl) Z) (q: ∀un RM,Holds (lw st lg un SQ cv snap bi TB sl most bi bi [] (bi+sl.length+1) wl) RM->Q .none RM):RL P (d+2) 94 [.ref lg,.ref st,.int most] Q X Z:=by
 refine ao [QA (.ref lg),QA (.ref st),QA (.int most),QC] rfl rfl (aG h 0 rfl rfl rfl rfl (aB rfl) λR8 g=>aG g 0 rfl rfl rfl rfl (aB rfl) λSG a=>(av (ai rfl (a.get 1 rfl) rfl rfl (EH (a.get 1 rfl) (bT (E6 (X:=λc=>X c) (off:=bi+sl.length+1) a (λun SX i=>?_) λQ' l=>aj (bz (ai rfl (a.get 1 rfl) rfl rfl (BH (a.get 1 rfl) (ae (.int 1) rfl (fw (aE l))))))))))))
 refine cM i 1 rfl rfl rfl (aB rfl) λT6 j=>aG j 1 rfl rfl rfl rfl (aB rfl) λWL k=>aG k 1 rfl rfl rfl rfl (aB rfl) λf b=>aw (q un f ?_)
 have e:bi+1-1=bi:=d3 0x7229404145304144A rfl
 rw[e] at b
 exact b.aB3
theorem BV {Y:Env} {es:Es} (hs:jH P es Y Z=QA [.ref st,.int most]) (h:Holds ((st,XB SQ cv snap bi TB sl)::wl) Z) (q: ∀lg un RM,Holds (lw st lg un SQ cv snap bi TB sl most bi bi [] (bi+sl.length+1) wl) RM->Q (.ref lg) RM):wE P (RL P (d+2)) (.new 28 QE es) Y Q X Z:=
 pK h rfl hs λn RM h'=>LC h' λun a b=>⟨rfl,q n un a b⟩
theorem FQ (g:Lg st lg un SQ cv snap bi TB sl most com app ul off Z) (q:Q (.int (bi+1)) Z):RL P (d+2) 95 [.ref lg] Q X Z:=by
 exact ao [QA (.ref lg),QC] rfl rfl (av (ai (af rfl g.l rfl) g.u rfl rfl (Lx g.u (aO (t:=QE) rfl rfl (aW (ai (af rfl g.l rfl) g.s rfl rfl (EH g.s q)))))))
theorem BJ (g:Lg st lg un SQ cv snap bi TB sl most com app ul off Z) (VI:fZ bi sl ul off la) (q:Q (.int la) Z):RL P (d+2) 96 [.ref lg] Q X Z:=by
 refine ao [QA (.ref lg),QC] rfl rfl (av (ai (af rfl g.l rfl) g.u rfl rfl (Ly g.u (λe=>?_) (λe=>?_))))
 ·rcases VI with⟨-,rfl⟩|⟨h,-⟩
  ·exact aO (t:=QE) rfl rfl (aW (ai (af rfl g.l rfl) g.s rfl rfl (BH g.s q)))
  ·exact(h e).elim
 ·rcases VI with⟨h,-⟩|⟨-,rfl⟩
  ·exact(e h).elim
  ·exact cL (t:=QD) rfl rfl (aN rfl q)
def V7 (bi TB:Int) (sl ul:List bG) (off la i t:Int):Prop:=
 (∃(k:Nat) (r:bG),ul[k]?=QA r/\i=off+k/\t=(r.tm:Nat))\/(i<off/\gd bi TB sl i t/\i<=la)
theorem LD (g:Lg st lg un SQ cv snap bi TB sl most com app ul off Z) (VI:fZ bi sl ul off la) (ht:V7 bi TB sl ul off la i t) (q:Q (.int t) Z):RL P (d+3) 97 [.ref lg,.int i] Q X Z:=by
 refine ao [QA (.ref lg),QA (.int i),QC] rfl rfl ?_
 rcases ht with⟨k,r,hr,hi,rfl⟩|⟨h1,h2,h3⟩
 ·exact av (ai (af rfl g.l rfl) g.u rfl rfl (pM g.u hr hi (cL (t:=QD) rfl rfl (aN rfl q))))
 ·have a:=h2.bounds
  exact av (ai (af rfl g.l rfl) g.u rfl rfl (pL g.u (.inl h1) (aO (t:=QE) rfl rfl (aK (bh (ae (.b .add RJ (.int 1)) rfl (ai rfl g.l rfl rfl (FQ g (uV (cI (aS (pj 0x744C105129304144B0702CA rfl a.1)) (aK (bh (ae RJ rfl (ai rfl g.l rfl rfl (BJ g VI (j4 (cI (aS (Nf.mpr ‹_›)) (aW (ai (af rfl g.l rfl) g.s rfl rfl (Hm g.s h2 q))))))))))))))))))))
theorem CJ (g:Lg st lg un SQ cv snap bi TB sl most com app ul off Z) (VI:fZ bi sl ul off la) (h0:0<=bi) (h1:bi<=i) (h2:la<i) (h3:off+ul.length<=i) (h4:i<1000000) (h5:0<=la) (x:X 8 Z):RL P (d+3) 97 [.ref lg,.int i] Q X Z:=by
 exact ao [QA (.ref lg),QA (.int i),QC] rfl rfl (av (ai (af rfl g.l rfl) g.u rfl rfl (pL g.u (.inr h3) (aO (t:=QE) rfl rfl (aK (bh (ae (.b .add RJ (.int 1)) rfl (ai rfl g.l rfl rfl (FQ g (uV (cI (aS (pj 0x744C105129304144B0702CA rfl h1)) (aK (bh (ae RJ rfl (ai rfl g.l rfl rfl (BJ g VI (j4 (iu (iF (by assumption)) (t8 (nR rfl (pj 0x702C0441C0A0110712CA rfl h2 h5) (d3 0x712540BE400191281C43D0900444A rfl h4) (wY (ai rfl g.l rfl rfl (BJ g VI ⟨_,rfl,h5,pj 0x712540BE400191281C43D0900444B0712CA rfl h2 h4,x⟩)))))))))))))))))))))))
theorem Iu (g:Lg st lg un SQ cv snap bi TB sl most com app ul off Z) (VI:fZ bi sl ul off la) (ht:V7 bi TB sl ul off la i t) (q:Q (.bool (decide (t=t'))) Z):RL P (d+4) 98 [.ref lg,.int i,.int t'] Q X Z:=by
 refine ao [QA (.ref lg),QA (.int i),QA (.int t')] rfl rfl (jh (aW (bh (ai rfl g.l rfl rfl (LD g VI ht (ae ah rfl (Au q)))))))
theorem CK (g:Lg st lg un SQ cv snap bi TB sl most com app ul off Z) (VI:fZ bi sl ul off la) (h0:0<=bi) (h1:bi<=i) (h2:la<i) (h3:off+ul.length<=i) (h4:i<1000000) (h5:0<=la) (q:Q (.bool QE) Z):RL P (d+4) 98 [.ref lg,.int i,.int t'] Q X Z:=by
 exact ao [QA (.ref lg),QA (.int i),QA (.int t')] rfl rfl (jh (aW (bh (ai rfl g.l rfl rfl (CJ g VI h0 h1 h2 h3 h4 h5 (aN rfl q))))))
def DZ (bi TB:Int) (sl ul:List bG) (off la:Int) (r:bG):Prop:=
 (∃t,V7 bi TB sl ul off la r.idx t/\t≠(r.tm:Nat))\/(la<r.idx/\off+ul.length<=r.idx)
theorem GZ (g:Lg st lg un SQ cv snap bi TB sl most com app ul off Z) (VI:fZ bi sl ul off la) (h0:0<=bi) (h5:0<=la) (hr:l.head?=QA r) (hi:bi<=r.idx) (hm:(r.idx:Int)<1000000) (hc:DZ bi TB sl ul off la r) (q:Q (.int r.idx) Z):RL P (d+5) 101 [.ref lg,.list (bA l)] Q X Z:=by
 refine ao [QA (.ref lg),QA (.list (bA l)),QC] rfl rfl (dh (ae RJ rfl ⟨_,rfl,?_⟩))
 cases l with
 |nil=>cases hr
 |cons a t=>
  obtain rfl:a=r:=iN hr
  refine cx λK hK=>(aK (eQ (ai rfl g.l rfl rfl ?_)))
  rcases hc with⟨t',ht,UC⟩|⟨h1,h2⟩
  ·exact Iu g VI ht ⟨_,rfl,iu (by rw[aS UC];rfl) (aN rfl q)⟩
  ·exact CK g VI h0 hi h1 h2 hm h5 ⟨_,rfl,iu rfl (aN rfl q)⟩
theorem zU (h:Holds (lw st lg un SQ cv snap bi TB sl most com app ul off wl) Z) (VI:fZ bi sl ul off la) (hi:i<=la) (q: ∀RM,Holds (lw st lg un SQ cv snap bi TB sl most (max com i) app ul off wl) RM->Q .none RM):RL P (d+3) 102 [.ref lg,.int i] Q X Z:=by
 have g:=Lg.of h
 refine ao [QA (.ref lg),QA (.int i)] rfl rfl ?_
 by_cases c:i<=com
 ·rw[N1 c] at q
  exact cL (aH rfl (af rfl g.l rfl) rfl) (iF c) (aN rfl (q Z h))
 ·rw[M9 (by exact pj 7707503833802 rfl c)] at q
  exact aO (aH rfl (af rfl g.l rfl) rfl) (aS c) (aK (bh (ae RJ rfl (ai rfl g.l rfl rfl (BJ g VI (j4 (cI (aS (Nf.mpr ‹_›)) (aG h 1 rfl rfl rfl rfl (aB rfl) λa b=>aw (q a b)))))))))
theorem Ex (h:Holds (lw st lg un SQ cv snap bi TB sl most com app ul off wl) Z) (h0:i≠0) (h1:i<=com) (h2:app<=i) (q: ∀RM,Holds (lw st lg un SQ cv snap bi TB sl most com i ul off wl) RM->Q .none RM):RL P (d+1) 103 [.ref lg,.int i] Q X Z:=by
 have g:=Lg.of h
 exact ao [QA (.ref lg),QA (.int i)] rfl rfl (aO (t:=decide (i=0)) rfl (aS h0) (aO (cq (aH rfl (af rfl g.l rfl) rfl) (aS (Nf.mpr ‹_›)) (aH rfl (af rfl g.l rfl) rfl)) (aS (Nf.mpr ‹_›)) (aG h 1 rfl rfl rfl rfl (aB rfl) λa h1=>aw (q a h1))))
theorem G1 {i:Int} {k:Nat} (h:Holds (lw st lg un SQ cv snap bi TB sl most com app ul off wl) Z) (hk:ul[k]?=QA r) (hi:i=off+k) (hl:ul.length<=1000) (q: ∀RM,Holds (lw st lg un SQ cv snap bi TB sl most com app (ul.drop (k+1)) (i+1) wl) RM->Q .none RM):RL P (d+3) 104 [.ref lg,.int i,.int r.tm] Q X Z:=by
 have g:=Lg.of h
 exact ao [QA (.ref lg),QA (.int i),QA (.int r.tm)] rfl rfl (ax (ai (af rfl g.l rfl) g.u rfl rfl (Lz (Holds.swap [_,_] [_] h) hk hi hl λa b=>aw (q a (Holds.swap [_] [_,_] b)))))
theorem G2 (g:Lg st lg un SQ cv snap bi TB sl most com app ul off Z) (q:Q (.list (bA ul)) Z):RL P (d+1) 105 [.ref lg] Q X Z:=by
 refine ao [QA (.ref lg)] rfl rfl (aW (bN (af (af rfl g.l rfl) g.u rfl) (u:= .none) rfl (z:= .none) rfl (dN (a:=0) rfl (dD _) ?_)))
 rw[NB,L5];exact q
theorem G3 (g:Lg st lg un SQ cv snap bi TB sl most com app ul off Z) (q:Q (.bool QE) Z):RL P (d+1) 106 [.ref lg] Q X Z:=
 ao [QA (.ref lg)] rfl rfl (aW (ae _ (v:= .bool QE) (lQ (t:=QE) (aH (af (af rfl g.l rfl) g.u rfl) rfl rfl) rfl) q))
theorem Ey (g:Lg st lg un SQ cv snap bi TB sl most com app ul off Z) (hb:bi<=app) (q:Q (.int (app+1)) Z):RL P (d+3) 107 [.ref lg] Q X Z:=by
 refine ao [QA (.ref lg)] rfl rfl (aW (cz (aj (ae (.b .add (.t aa 22) (.int 1)) (aJ (af rfl g.l rfl) rfl rfl) (aj (ai rfl g.l rfl rfl (FQ g (aE ?_))))))))
 have e:max (app+1) (bi+1)=app+1:=N1 (pj 0x704C10512D304144A0702CA rfl hb)
 show Q (.int (max (app+1) (bi+1))) Z
 rw[e];exact q
theorem CF (g:Lg st lg un SQ cv snap bi TB sl most com app ul off Z) (hb:bi<=app) (q:Q (.bool (decide (app<com))) Z):RL P (d+4) 108 [.ref lg] Q X Z:=by
 refine ao [QA (.ref lg)] rfl rfl (aK (ai rfl g.l rfl rfl (G3 g (cI rfl (aW (bh (ae (.b .add (.t aa 40) (.int 1)) (aJ (af rfl g.l rfl) rfl rfl) (ai rfl g.l rfl rfl (Ey g hb (j4 ?_))))))))))
 have e:decide (app+1<com+1)=decide (app<com):=by rw[decide_eq_decide];exact⟨λzh=>pj 0x712CA0714C10512D304144A rfl zh,λzh=>pj 0x714C10512D304144A0712CA rfl zh⟩
 rw[e];exact q
end
end
section
theorem xx (q:Q (.int (min i j)) Z):sW Z .min2 [.int i,.int j] Q:=q
theorem n3 (q:Q (.int (max i j)) Z):sW Z .max2 [.int i,.int j] Q:=q
section
theorem GY (h:Holds (lw st lg un SQ cv snap bi TB sl most com app ul off wl) Z) (VI:fZ bi sl ul off la) (hr:l.head?=QA r) (ht:sS ul off l r.idx Sx WW) (hc:com<=(r.idx:Int)-1) (h1:(r.idx:Int)-1<=la)
  (hl:l.length<=1000) (Qw:ul.length<=1000) (Vk:fZ bi sl Sx WW la') (q: ∀v RM,Holds (lw st lg un SQ cv snap bi TB sl most com app Sx WW wl) RM->Q v RM):RL P (d+3) 100 [.ref lg,.list (bA l)] Q X Z:=by
 have g:=Lg.of h
 have c:l[0]?=QA r:=by cases l with|nil=>cases hr|cons a t=>exact hr
 have f:=ba c
 refine ao [QA (.ref lg),QA (.list (bA l)),QC] rfl rfl (aO (t:=decide (((bA l).length:Int)=0)) rfl (aS (by rw[bC];exact aX 0x1D40455001840010 rfl f)) (aV (v:= .int ((r.idx:Int)-1)) (aJ (cN (bp rfl rfl (mZ (k:=0) rfl c)) rfl) rfl rfl) (aO (aH rfl (af rfl g.l rfl) rfl) (aS (Nf.mpr ‹_›)) (aK (bh (ae ah rfl (ai rfl g.l rfl rfl (BJ g VI (j4 (cI (aS (Nf.mpr ‹_›)) (ax (ai (af rfl g.l rfl) g.u rfl rfl (LA (Holds.swap [_,_] [_] h) hr ht hl Qw λe h1=>?_)))))))))))))
 have b:=Holds.swap [_] [_,_] h1
 exact aW (ai rfl (Lg.of b).l rfl rfl (BJ (Lg.of b) Vk (q _ e b)))
theorem LF (h:Holds (lw st lg un SQ cv snap bi TB sl most com app ul off wl) Z) (VI:fZ bi sl ul off la) (UU:V7 bi TB sl ul off la index lt) (WM:nC (index+1) l) (hr:l.head?=QA r) (Vh:DZ bi TB sl ul off la r)
  (hb0:0<=bi) (aBP:0<=la) (hbi:bi<=index) (hc:com<=index) (h1:index<=la) (hm:index<100000) (ht:sS ul off l (index+1) Sx WW) (hl:l.length<=1000) (Qw:ul.length<=1000) (Vk:fZ bi sl Sx WW (index+l.length))
  (q: ∀RM,Holds (lw st lg un SQ cv snap bi TB sl most (max com (min cm (index+l.length))) app Sx WW wl) RM->Q (.int (index+l.length)) RM):RL P (d+6) 99 [.ref lg,.int index,.int lt,.int cm,.list (bA l)] Q X Z:=by
 have g:=Lg.of h
 have j:l[0]?=QA r:=by cases l with|nil=>cases hr|cons a t=>exact hr
 have b:(r.idx:Int)=index+1:=by have:=WM 0 r j;exact mC 0x724C1051295001C9354041304144A540 rfl this
 refine ao [QA (.ref lg),QA (.int index),QA (.int lt),QA (.int cm),QA (.list (bA l)),QC,QC,QC] rfl rfl (aK (eQ (ai rfl g.l rfl rfl (Iu g VI UU ⟨QD,by rw[iF rfl];rfl,cI rfl ?_⟩))))
 refine dh (cz (aj (ae (v:= .int (bA l).length) _ rfl (aE ⟨by rw[bC];exact aX 0x1C43D0900445500180FA02400 rfl hl,aX 0x1C550160F4240111 rfl,_,rfl,pD (l:=l) (λk e w c=>?_) rfl (λw=>?_)⟩))))
 ·refine aH (cN (bp rfl rfl (mZ rfl c)) rfl) rfl ?_
  have:=WM k e c
  show QA (decide ((e.idx:Int)≠index+1+k))=_
  rw[aS (λh=>h this)]
 ·
  refine aV (v:= .int (index+(bA l).length)) rfl ?_
  rw[bC]
  refine av (ai rfl g.l rfl rfl (GZ g VI hb0 aBP hr (jt 0x705402A1C9304144B5400702CA rfl hbi b) (mC 0x1C43D09004455001C9304144A54007161A80344A rfl hm b) Vh (cL (t:=decide ((r.idx:Int)≠0)) rfl (iF (jt 0x750115408724C10512D5001C0B281C0A011 rfl hb0 hbi b)) (aO (aH rfl (af rfl g.l rfl) rfl) (aS (jt 0x73295021C9304144B5400702CA rfl hc b)) (ax (bU rfl (cA g.l) rfl (aj (bN (v:= .list (bA l)) rfl (u:= .int ((r.idx:Int)-(index+1))) rfl (z:= .none) rfl (dN (bc (k:=0) (mC 0x725404144C1051295001C9304144A540 rfl b) (by decide)) (dD _) ?_)))))))))
  rw[NB,L5]
  rw[<- b] at ht
  exact aE (GY h VI hr ht (jt 0x705010515402A1C9304144B5400702CA rfl hc b) (jt 0x702D4041455001C9304144A5400702CA rfl h1 b) hl Qw Vk λv R8 h1=>aw (ax (bU rfl (cA (Lg.of h1).l) rfl (aj (cz (aj (ae RN rfl (aj (ae bj rfl (aE (xx (aE (zU (i:=min cm (index+l.length)) h1 Vk (Int.min_le_right ..) λf m=>aN rfl (q f m))))))))))))))
theorem G5 (h:Holds (lw st lg un SQ cv snap bi TB sl most com app ul off wl) Z) (VI:fZ bi sl ul off la) (ha:lo=bi+1+(a:Nat)) (hb:hi=bi+1+(b:Nat)) (XM:a<b) (YF:b<=sl.length) (hl:sl.length<=1000) (sm: ∀r∈sl,Small r)
  (ho:hi<=off) (hh:hi<=la+1) (q: ∀RM,Holds (lw st lg un SQ cv snap bi TB sl most com app ul off wl) RM->Q (.list (bA (TU lim 0 [] ((sl.take b).drop a)))) RM):RL P (d+5) 110 [.ref lg,.int lo,.int hi,.int lim] Q X Z:=by
 have g:=Lg.of h
 refine ao [QA (.ref lg),QA (.int lo),QA (.int hi),QA (.int lim),QC,QC,QC] rfl rfl (aO (t:=decide (hi<lo)) rfl (aS (D7 0x7428C0610408724D505304144B301C935404C10512CA rfl ha hb XM)) (aK (bh (ae RJ rfl (ai rfl g.l rfl rfl (FQ g (uV (cI (aS (jt 0x1D1304144B2A1C935404C10512CA rfl ha)) (aK (bh (ae ah rfl (bz (ai rfl g.l rfl rfl (BJ g VI (ae (.int 1) rfl (fw (j4 (cI (aS (Nf.mpr ‹_›)) (aO (t:=decide (lo=hi)) rfl (aS (D7 0x87530A0610408724D505304144B301C935404C10512CA rfl ha hb XM)) (aV (af (af rfl g.l rfl) g.u rfl) (aV rfl ?_)))))))))))))))))))))
 have o:min hi off=hi:=Pj ho
 refine cL (t:=decide (lo<off)) rfl (iF (IU 0x7134A07034C0610408724D505304144B301C935404C10512CA rfl ha hb XM ho)) (av (cz (aj (ae ah rfl (aj (ae au rfl (aE ?_)))))))
 show a8 P (RL P (d+4)) _ _ _ _ _ _ [QA (.ref lg),QA (.int lo),QA (.int hi),QA (.int lim),QA (.int off),QA (.list []),QA (.int (min hi off))] Z
 rw[o]
 refine jh (av (ai (af rfl g.l rfl) g.s rfl rfl (Lq h g.s ha hb XM YF hl sm λm j=>aw (Ca (lK lim ((sl.take b).drop a) [] 0) λk s f k3 u=>?_))))
 rw[OI] at f u
 have c:((sl.take b).drop a).length=b-a:=by rw[L3,LY,IS YF]
 by_cases e:k<b-a
 ·refine cL (t:=decide (((bA (TU lim 0 [] ((sl.take b).drop a))).length:Int)<hi-lo)) rfl (iF ?_) (aN rfl (q m j))
  rw[bC,f,LY,c];exact H8 0x1C5428C5440620520030600840610C28724D505304144B301C935404C10512CA rfl ha hb e (MW _ _) (iS (RW 6598143905856 rfl XM))
 ·refine aO (t:=decide (((bA (TU lim 0 [] ((sl.take b).drop a))).length:Int)<hi-lo)) rfl (aS ?_) (aw ?_)
  ·rw[bC,f,LY,c];exact H8 0x1D1428C5448620520038620840640C20724D505304144B321C935404C10512CA rfl ha hb e (IS (SD 0x60080062081060040 rfl s c)) (iS (RW 6598143905856 rfl XM))
  refine aO (t:=decide (off<hi)) rfl (aS (Nf.mpr ‹_›)) ?_
  have i:TU lim 0 [] ((sl.take b).drop a)=(sl.take b).drop a:=by rw[f,Nb (by exact SD 0x60080064042062040 rfl c e)]
  refine aW (aC rfl (Ie j (λr l=>sm r ?_) ?_ λn p=>?_))
  ·rw[i] at l
   exact MR (Nt l)
  ·rw[i,c];exact SD 0x603E809008180008180FA02401060040 rfl YF hl (Ot _ _)
  ·have:=q n p
   rw[i] at this ⊢
   rw[i];exact this
theorem G4 (h:Holds (lw st lg un SQ cv snap bi TB sl most com app ul off wl) Z) (VI:fZ bi sl ul off la) (ha:app=bi+(a:Nat)) (hb:com=bi+(b:Nat)) (YF:b<=sl.length) (hl:sl.length<=1000) (sm: ∀r∈sl,Small r)
  (ho:com+1<=off) (hh:com<=la) (q: ∀RM,Holds (lw st lg un SQ cv snap bi TB sl most com app ul off wl) RM->Q (.list (bA (TU most 0 [] ((sl.take b).drop a)))) RM):RL P (d+6) 109 [.ref lg] Q X Z:=by
 have g:=Lg.of h
 refine ao [QA (.ref lg)] rfl rfl (aK (eQ (ai rfl g.l rfl rfl (CF g (jt 0x1C0A2E1C935402CA rfl ha) ?_))))
 by_cases e:app<com
 ·rw[iF e]
  refine⟨QD,rfl,cI rfl (aW (bU rfl (cA g.l) rfl (aj (ai rfl g.l rfl rfl (Ey g (jt 0x1C0A2E1C935402CA rfl ha) ?_)))))⟩
  exact aj (ae (.b .add (.t aa 40) (.int 1)) (aJ (af rfl g.l rfl) rfl rfl) (aj (ae (.t aa 38) (af rfl g.l rfl) (aE (G5 h VI (jt 0x724D501304144B4C1051281C935402CA rfl ha) (jt 0x724D501304144B4C1051281C935402CA rfl hb) (D7 0x6104007130A0724D504B321C935402CA rfl ha hb e) YF hl sm (by assumption) (pj 0x704C10512D304144A0702CA rfl hh) q)))))
 ·rw[aS e]
  refine⟨QE,rfl,iu rfl (aN rfl ?_)⟩
  have:(sl.take b).drop a=[]:=NK (by simp;exact IV 0x6000206004207430A8724D504B301C935402CA rfl ha hb e (MW _ _))
  have q:=q Z h
  rw[this] at q
  exact q
end
end
section
def iL (r:bG):V:=match r.oc with
 | .none=> .none
 |some c=> .tup [.int c.kd,.int r.idx,.RT c.key,.RT c.val,aY c.ex]
abbrev gw (r:bG):V:= .tup [.int r.tm,.int r.idx,.RT r.data,iL r]
abbrev da (l:List bG):List V:=l.map gw
structure fQ where
 first:Nat
 U4:Nat
 most:Nat
 RV:Nat
 sy:Bool
structure Ad where
 st:Nat
 lg:Nat
 un:Nat
 ma:Nat
 sr:Nat
 nw:Nat
 bt:Nat
 bk:Nat
 td:Nat
structure GS where
 ht:Int
 hv:Int
 hc:Nat
 cv:V
 si:Int
 sT:Int
 Tz:V
 sd:V
 SO:Nat
 TB:Nat
 sl:List bG
 com:Nat
 app:Nat
 ul:List bG
 uo:Nat
structure MS where
 ap:Int
 tm:Int
 du:Int
 kept:Int
 last:Int
 D:BD
 TK:List (List Op)
structure BS where
 now:List bG
 ever:List bG
 stored:List bG
 told:List (Nat×Option B8)
 com:Nat
 hd:Nat
 app:Nat
 UJ:Nat
 SO:Nat
 term:Nat
noncomputable abbrev l9:B8:=[2,1,2,1,9,0,0,0]
abbrev Fp (l:List (Nat×Option B8)):List (V×V):=gV (λ(n:Nat)=>V.int n) aY l
abbrev U3 (p:fQ) (b:BS) (td:Nat):List (V×V):=
 [(.str 0,.int p.first),(.str 8,.int p.U4),(.str 5,.int p.most),(.str 1,.int p.RV),(.str 4,.list (da b.now)),(.str 6,.list (da b.ever)),(.str 9,.list (da b.stored)),(.str 11,.ref td),
  (.str 3,.int (p.first+b.com:Nat)),(.str 10,.int b.hd),(.str 2,.int (p.first+b.app:Nat)),(.str 12,.int (p.first+b.UJ:Nat)),(.str 13,.int (p.first+b.SO:Nat)),(.str 7,.int b.term)]
abbrev Uq (a:Ad) (p:fQ) (b:BS) (wl:List (Nat×O)):List (Nat×O):=(a.bk,.dict (U3 p b a.td))::(a.td,.dict (Fp b.told))::wl
abbrev Su (a:Ad) (p:fQ) (m:MS) (wl:List (Nat×O)):List (Nat×O):=mb a.ma a.sr a.nw a.bt m.ap m.tm l9 m.du p.sy m.kept m.last m.D (m.TK.map YJ) wl
abbrev Vu (a:Ad) (p:fQ) (g:GS) (wl:List (Nat×O)):List (Nat×O):=
 lw a.st a.lg a.un (UL g.ht g.hv g.hc) g.cv (VG g.si g.sT g.Tz g.sd) (p.first+g.SO:Nat) g.TB g.sl p.most (p.first+g.com:Nat) (p.first+g.app:Nat) g.ul (p.first+1+g.uo:Nat) wl
abbrev TZ (a:Ad) (p:fQ) (g:GS) (m:MS) (b:BS) (wl:List (Nat×O)):List (Nat×O):=Vu a p g (Su a p m (Uq a p b wl))
section
theorem BR {i j:Int} {Q:V->Prop} (hi: -1000000000<i/\i<1000000000) (hj: -1000000000<j/\j<1000000000) (q:Q (.int (i*j))):dm Z .mul (.int i) (.int j) Q:=
 ⟨⟨d3 0x1C4A5819026C1C4A5BB9ACA00151 rfl hi.1,d3 0x1C419026CA071EE6B2800544A rfl hi.2⟩,⟨d3 0x1C4A5819026C1C4A5BB9ACA00151 rfl hj.1,d3 0x1C419026CA071EE6B2800544A rfl hj.2⟩,q⟩
theorem BQ {i j:Int} {Q:V->Prop} (hj:0<j) (q:Q (.int (i%j))):dm Z .mod (.int i) (.int j) Q:=⟨hj,q⟩
theorem EW {i j:Int} {Q:V->Prop} (hj:0<j/\j<1000000000) (q:Q (.int (i/j))):dm Z .fdiv (.int i) (.int j) Q:=⟨hj.1,hj.2,q⟩
theorem C8 {l:List V} {i:Int} {k:Nat} {v:V} {Q:V->Prop} (e:i=k) (h:l[k]?=QA v) (q:Q v):lV Z (.list l) (.int i) Q:=⟨k,v,kg e (ba h),h,q⟩
theorem CG {nums:List Nat} {i:Nat} (hl:0<nums.length) (WC:nums.length<=10) (hn: ∀x∈nums,x<999983) (hi:i<100) (q: ∀x:Nat,x<3000000->Q (.int x) Z):RL P (d+1) 111 [.list (nats nums),.int i] Q X Z:=by
 have e:(nats nums).length=nums.length:=by exact LZ _
 refine ao [QA (.list (nats nums)),QA (.int i)] rfl rfl (aW (bz (tf (ae aa rfl (bz (ae RJ rfl (ae (v:= .int (nats nums).length) _ rfl ?_)))))))
 rw[e]
 have c:=M6 i hl
 have a:i/nums.length<=i:=Nat.div_le_self ..
 have g:=hn nums[i%nums.length] (List.getElem_mem _)
 refine BQ (aX 0x1C55000441840010 rfl hl) (C8 (k:=i%nums.length) (rfl) (v:= .int (nums[i%nums.length]:Nat)) (by simp[c]) (bz (ae (.int 7919) rfl (bz (ae RJ rfl (ae (v:= .int (nats nums).length) _ rfl ?_))))))
 rw[e]
 refine EW (⟨aX 0x1C55000441840010 rfl hl,aX 0x1C7B9ACA00151540060281400 rfl WC⟩) ?_
 obtain⟨k,f,b⟩: ∃k:Nat,(i:Int)/(nums.length:Nat)=k/\i/nums.length=k:=⟨_,(Int.natCast_ediv ..).symm,rfl⟩
 rw[b] at a
 rw[f]
 refine BR (by decide) (⟨aX 0x715405BB9ACA00151 rfl,RW 0x71EE6B28005455041800041841902400 rfl hi a⟩) (fw ?_)
 have:=q (nums[i%nums.length]+7919*k) (dO (Nat.add_lt_add_of_lt_of_le g (Pg 7919 (MK (MU a hi)))) (aT rfl))
 rw[Og,Pe] at this
 exact this
theorem G6 {s:Nat} (hs:s<3000000) (q: ∀f t:Nat,0<f->f<17000->0<t->t<500->(f=1->t=1)->Q (.tup [.int f,.int t]) Z):RL P (d+1) 112 [.int s] Q X Z:=by
 refine ao [QA (.int s)] rfl rfl ?_
 have key: ∀f t:Int,0<f->f<17000->0<t->t<500->(f=1->t=1)->Q (.tup [.int f,.int t]) Z:=λf t a i h j k=>by
  have:=q f.toNat t.toNat (Qe.mpr a) ((Qf (Nm a)).mpr i) (Qe.mpr h) ((Qf (Nm h)).mpr j) (λe=>By Int.toNat (k ((NI (Nm a)).symm.trans (By Int.ofNat e))))
  rw[NI (Nm ‹_›),NI (Nm ‹_›)] at this
  exact this
 by_cases b:(s:Int)%4=0
 ·exact cL (t:=decide ((s:Int)%4=0)) rfl (iF b) (aN rfl (key _ _ (d3 0x1C53284B02440441C0A011 rfl (Mu _ (by decide))) (d3 0x1C442680D14CA12C0910710FA00344A rfl (MM _ (by decide))) (d3 0x1C53282002440441C0A011 rfl (Mu _ (by decide))) (d3 0x1C47D02453282002441C44B0244A rfl (MM _ (by decide))) (λzh=>Ph (pj 0xC010514CB080091072041453284B02441C0A011 rfl (Mu _ (by decide)) zh) (pj 0xC132C2002441051072041453284B02441C0A011 rfl (Mu _ (by decide)) zh))))
 refine aO (t:=decide ((s:Int)%4=0)) rfl (aS b) ?_
 by_cases c:(s:Int)%4=1
 ·exact cL (t:=decide ((s:Int)%4=1)) rfl (iF c) (aN rfl (key 1 1 (by decide) (by decide) (by decide) (by decide) (by decide)))
 refine aO (t:=decide ((s:Int)%4=1)) rfl (aS c) ?_
 by_cases g:(s:Int)%4=2
 ·exact cL (t:=decide ((s:Int)%4=2)) rfl (iF g) (aN rfl (key _ _ (d3 0x1C53281E82440441C0A011 rfl (Mu _ (by decide))) (d3 0x1C442680D14CA07A09107120144A rfl (MM _ (by decide))) (d3 0x1C53281F42440441C0A011 rfl (Mu _ (by decide))) (d3 0x711F40914CA07D09107110144A rfl (MM _ (by decide))) (λzh=>Ph (pj 0xC010514CB07D091072041453281E82441C0A011 rfl (Mu _ (by decide)) zh) (d3 0x704CA07D091041441C0A011 rfl (Mu _ (by decide))))))
 exact aO (t:=decide ((s:Int)%4=2)) rfl (aS g) (aN rfl (key _ _ (d3 0x714CA0FFE83440441C0A011 rfl (Mu _ (by decide))) (d3 0x71109A03453283FFA0D107120144A rfl (MM _ (by decide))) (by decide) (by decide) (λzh=>Ph (d3 0xC01051081441C810514CA0FFE83441C0A011 rfl (Mu _ (by decide)) zh) (d3 0xC02051041441C810514CA0FFE83441C0A011 rfl (Mu _ (by decide)) zh))))
end
end
section
structure Bq (c:md):Prop where
 kd:c.kd<=6
 key:c.key=[]\/c.key=[107]
 val:c.val.length<=2
 ex: ∀x,c.ex=QA x->x.length<=2
structure hF (p:fQ) (r:bG):Prop where
 dat:DS p.RV r.idx r.data r.oc
 cm: ∀c,r.oc=QA c->Bq c
 len:r.data.length<128
theorem pE (h:kd<128) (hk:key.length<=1) (hv:val.length<=2) (he: ∀x,ex=QA x->x.length<=2):(fV kd cl nr key val ex).length<100:=by
 have b:=aQ cl;have a:=aQ nr;have c:=iA he
 simp only[fV,eK h,LU,fA,Mb,MX];exact iK 0x610640904924924844810500520414000C2481050010060482050081404060281403060281402060081401060041400 rfl hk hv b a c
theorem i9 {α:Type} {l:List α} {k:Nat} {P:α->Prop} (h: ∀v∈l,P v) (hk:k<l.length): ∃v,l[k]?=QA v/\P v:=⟨l[k],As hk,h _ (List.getElem_mem _)⟩
theorem C7 {Q:V->Prop} (h1:x≠[]) (h2:x.length<=16) (h3:0<=j) (h4:j<=100000) (q:Q (.RT (List.replicate j.toNat x).flatten)):dm Z .mul (.RT x) (.int j) Q:=⟨h1,h2,h3,h4,q⟩
theorem nZ {Q:V->Prop} (h:x.length+y.length<=1000000) (q:Q (.RT (x++y))):dm Z .add (.RT x) (.RT y) Q:=⟨h,q⟩
section
theorem G7 {bk td i idx tm z:Nat} (h:Holds wl Z) (hb:wl[i]?=QA (bk,.dict (U3 p b td))) (hc:p.RV<2^64) (hi:idx<2^64) (q: ∀r:bG,r.tm=tm->r.idx=idx->hF p r-> ∀RM,Holds wl RM->Q (gw r) RM):RL P (d+5) 113 [.ref bk,.int idx,.int tm,.int z] Q X Z:=by
 refine ao [QA (.ref bk),QA (.int idx),QA (.int tm),QA (.int z),QC,QC,QC,QC,QC] rfl rfl ?_
 have g:=h.get i hb
 have U:z%12<12:=M6 _ (by decide)
 obtain⟨_,T,s,w,rfl⟩:=i9 (l:=[V.int 4,.int 1,.int 3,.int 2,.int 4,.int 3,.int 1,.int 0,.int 6,.int 5,.int 7,.int 8]) (P:=λv=> ∃kd:Nat,kd<=8/\v= .int kd) (k:=z%12) (by
  intro v n
  simp only[tO,Mw,or_false] at n
  rcases n with h|h|h|h|h|h|h|h|h|h|h|h<;>subst h
  ·exact⟨4,by decide,rfl⟩
  ·exact⟨1,by decide,rfl⟩
  ·exact⟨3,by decide,rfl⟩
  ·exact⟨2,by decide,rfl⟩
  ·exact⟨4,by decide,rfl⟩
  ·exact⟨3,by decide,rfl⟩
  ·exact⟨1,by decide,rfl⟩
  ·exact⟨0,by decide,rfl⟩
  ·exact⟨6,by decide,rfl⟩
  ·exact⟨5,by decide,rfl⟩
  ·exact⟨7,by decide,rfl⟩
  ·exact⟨8,by decide,rfl⟩) U
 refine aV (v:= .int s) (bp rfl rfl (cR (k:=z%12) (rfl) T)) ?_
 have rest: ∀kd:Nat,kd<=8->a8 P (RL P (d+4)) (ss [.i (.c .eq au (.int 7)) (ss [.ret (.tup (es [ah,RJ,.RT [],.none]))]) .nil,
 .a 5 (.sub (.list QD (es [.RT [],.RT [107]])) (.b .mod (.b .fdiv RN (.int 12)) (.int 2))),
 .a 6 (.b .mul (.y .bytes (es [.list QD (es [.b .add (.int 97) (.b .mod (.b .fdiv RN (.int 24)) (.int 26))])])) (.b .mod (.b .fdiv RN (.int 5)) (.int 3))),
 .a 7 (.sub (.list QD (es [.none,.RT [],bj])) (.b .mod (.b .fdiv RN (.int 7)) (.int 3))),
 .i (.c .eq au (.int 8)) (ss [.ret (.tup (es [ah,RJ,.b .add (.m (.new 23 QD (es [.int 1,.sub aa (.str 1),RJ,aI,bj,a9])) 47 .nil) (.RT [0]),.none]))]) .nil,
 .a 8 (.m (.new 23 QD (es [au,.sub aa (.str 1),RJ,aI,bj,a9])) 47 .nil),
 .ret (.tup (es [ah,RJ,aP,.tup (es [au,RJ,aI,bj,a9])]))]) (λJ Z=>Q .none Z) Q (λJ J=>False) (λJ J=>False) (λc J Z=>X c Z) [QA (.ref bk),QA (.int idx),QA (.int tm),QA (.int z),QA (.int kd),QC,QC,QC,QC] Z:=by
  intro kd M
  by_cases A:kd=7
  ·refine cL (t:=decide ((kd:Int)=7)) rfl (iF (aX 0x1C870515400621C1400 rfl A)) (aN rfl (q ⟨tm,idx,[],.none⟩ rfl rfl ⟨.nil,λJ h=>fX h,by simp⟩ Z h))
  refine aO (t:=decide ((kd:Int)=7)) rfl (aS (λzh=>A (aX 0x1887050001C87051540 rfl zh))) ?_
  obtain⟨_,E,key,L,rfl⟩:=i9 (l:=[V.RT [],.RT [107]]) (P:=λv=> ∃key:B8,(key=[]\/key=[107])/\v= .RT key) (k:=z/12%2) (by
   intro v n
   simp only[tO,Mw,or_false] at n
   rcases n with h|h<;>subst h
   ·exact⟨_,.inl rfl,rfl⟩
   ·exact⟨_,.inr rfl,rfl⟩) (M6 _ (by show 0<2;decide))
  refine aV (v:= .RT key) (bp rfl rfl (cR (k:=z/12%2) (rfl) E)) (av (bz (cz (aj (ae (v:= .list [.int (97+(z:Int)/24%26)]) _ rfl (aE ⟨[97+(z:Int)/24%26],rfl,by simp;exact⟨d3 0x1C13281842440441C0A011 rfl (Mu _ (by decide)),d3 0x711000914CA06109107168144A rfl (MM _ (by decide))⟩,?_⟩))))))
  generalize R:((List.replicate ((z:Int)/5%3).toNat (List.map (λi:Int=>UInt8.ofNat i.toNat) [97+(z:Int)/24%26])).flatten)=word
  have j:word.length<=2:=by rw[<- R];simp;exact d3 0x7008144A0710C144A rfl (MM _ (by decide))
  refine ae (.b .mod (.b .fdiv RN (.int 5)) (.int 3)) rfl (C7 (by simp) (by simp) (d3 0x70280441C0A011 rfl (Mu _ (by decide))) (d3 0x7061A80344A0710C144A rfl (MM _ (by decide))) ?_)
  rw[R]
  obtain⟨_,F,ex,f,rfl⟩:=i9 (l:=[V.none,.RT [],.RT word]) (P:=λv=> ∃ex:Option B8,(∀x,ex=QA x->x.length<=2)/\v=aY ex) (k:=z/7%3) (by
   intro v n
   simp only[tO,Mw,or_false] at n
   rcases n with h|h|h<;>subst h
   ·exact⟨.none,λJ h=>fX h,rfl⟩
   ·exact⟨QA [],(λx h=>by cases h;simp),rfl⟩
   ·exact⟨QA word,(λx h=>by cases h;exact j),rfl⟩) (M6 _ (by show 0<3;decide))
  refine aV (v:=aY ex) (bp rfl rfl (cR (k:=z/7%3) (rfl) F)) ?_
  have I:key.length<=1:=by rcases L with e|e<;>rw[e]<;>simp
  have o: ∀x,ex=QA x->x.length<128:=λx G=>by have Zo:=f x G;exact qX ‹_› rfl
  have K: ∀x,ex=QA x->x.length<100:=λx G=>by have v5v:=f x G;exact qX ‹_› rfl
  have cl:pe P (.sub aa (.str 1)) [QA (.ref bk),QA (.int idx),QA (.int tm),QA (.int z),QA (.int kd),QA (.RT key),QA (.RT word),QA (aY ex),QC] Z=QA (.int p.RV):=ay rfl g rfl rfl
  by_cases B:kd=8
  ·refine cL (t:=decide ((kd:Int)=8)) rfl (iF (aX 0x1C88051540062201400 rfl B)) (aW (fS (aj (ae ah rfl (aj (ae RJ rfl (aj (bz (tc (rR (kd:=1) (aA rfl (aA cl rfl)) h λS C=>⟨23,44,rfl,rfl,aE (Ih C (by decide) hc hi (qX ‹_› rfl) (qX ‹_› rfl) o λu D=>?_)⟩))))))))))
   have O:=pE (kd:=1) (cl:=p.RV) (nr:=idx) (key:=key) (val:=word) (ex:=ex) (by decide) I j f
   exact ae (.RT [0]) rfl (nZ (by simp;exact FD ‹_› rfl) (aj (ae .none rfl (aE (q ⟨tm,idx,fV 1 p.RV idx key word ex++[0],.none⟩ rfl rfl ⟨.bad ⟨1,key,word,ex⟩ [0] (by show 1<=6;decide) (by show key.length<100;exact qX ‹_› rfl) (by show word.length<100;exact qX ‹_› rfl) K (by simp) (by simp),(λJ h=>fX h),by simp;exact aX 0x61080090481050001841902400 rfl O⟩ u D)))))
  ·refine aO (t:=decide ((kd:Int)=8)) rfl (aS (aX 0x21D48051540061201400 rfl (Mx (aX 0x60201400060201400 rfl M) B))) (av (tc ?_))
   have H:kd<=6:=N4 (Mx (N4 (Mx M B)) A)
   refine rR (kd:=kd) (aA rfl (aA cl rfl)) h λS C=>⟨23,44,rfl,rfl,aE (Ih C (bY H (by decide)) hc hi (qX ‹_› rfl) (qX ‹_› rfl) o λu D=>?_)⟩
   have O:=pE (kd:=kd) (cl:=p.RV) (nr:=idx) (key:=key) (val:=word) (ex:=ex) (qX ‹_› rfl) I j f
   exact aN rfl (q ⟨tm,idx,fV kd p.RV idx key word ex,QA ⟨kd,key,word,ex⟩⟩ rfl rfl ⟨.cmd ⟨kd,key,word,ex⟩ H (by show key.length<100;exact qX ‹_› rfl) (by show word.length<100;exact qX ‹_› rfl) K,(λc hc=>by cases hc;exact⟨H,L,j,f⟩),by show(fV _ _ _ _ _ _).length<128;exact dO ‹_› (aT rfl)⟩ u D)
 by_cases N:idx=p.first+1
 ·exact cL (aH rfl (aJ (ay rfl g rfl rfl) rfl rfl) rfl) (iF (RW 0x724C1051541540062481050040 rfl N)) (aV rfl (aw (rest 5 (by decide))))
 ·exact aO (aH rfl (aJ (ay rfl g rfl rfl) rfl rfl) rfl) (aS (λzh=>N (RW 0x624810500400724C1051541540 rfl zh))) (rest s w)
end
end
section
section
open Classical in
theorem BP {a b:V} {Q:Bool->Prop} (c:UK a b=QD) (d:TN a<=20) (q: ∀t:Bool,(t=QD↔a=b)->Q t):cP Z .eq a b Q:=by
 cases a with
 |int i=>
  cases b with
  |int j=>exact q _ (by simp)
  |_=>exact⟨c,d,q _ (by simp)⟩
 |_=>exact⟨c,d,q _ (by simp)⟩
open Classical in
theorem BU {a b:V} {Q:Bool->Prop} (c:UK a b=QD) (d:TN a<=20) (q: ∀t:Bool,(t=QD↔a≠b)->Q t):cP Z .ne a b Q:=by
 cases a with
 |int i=>
  cases b with
  |int j=>exact q _ (by simp)
  |_=>exact⟨c,d,q _ (by simp)⟩
 |_=>exact⟨c,d,q _ (by simp)⟩
theorem lH {a b:V} {Q:Bool->Prop} (e:a=b) (c:UK b b=QD) (d:TN b<=20) (q:Q QE):cP Z .ne a b Q:=by
 subst e
 exact BU c d λt f=>by
  cases t with
  |false=>exact q
  |true=>exact(f.mp rfl rfl).elim
theorem xw {a b:V} {Q:Bool->Prop} (e:a=b) (c:UK b b=QD) (d:TN b<=20) (q:Q QD):cP Z .eq a b Q:=by
 subst e
 exact BP c d λt f=>by rw[f.mpr rfl];exact q
end
theorem gK (a b:Option B8):UK (aY a) (aY b)=QD:=by cases a<;>cases b<;>rfl
theorem uC (a b:bG):UK (iL a) (iL b)=QD:=by
 delta iL
 cases a.oc with
 |none=>cases b.oc<;>rfl
 |some x=>
  cases b.oc with
  |none=>rfl
  |some y=>
   show(QD&&(QD&&(QD&&(QD&&(UK (aY x.ex) (aY y.ex)&&QD)))))=QD
   rw[gK];rfl
theorem uD (a b:bG):UK (gw a) (gw b)=QD:=by
 show(QD&&(QD&&(QD&&(UK (iL a) (iL b)&&QD))))=QD
 rw[uC];rfl
theorem jl (a:Option B8):TN (aY a)=0:=by cases a<;>rfl
theorem yZ (a:bG):TN (gw a)<=20:=by
 show 1+max 0 (max 0 (max 0 (max (TN (iL a)) 0)))<=20
 have:TN (iL a)<=1:=by
  delta iL
  cases a.oc with
  |none=>exact Mi _
  |some x=>
   show 1+max 0 (max 0 (max 0 (max 0 (max (TN (aY x.ex)) 0))))<=1
   rw[jl];exact AS _
 exact bY (BY (m:=1) (MA.mpr ⟨Mi _,MA.mpr ⟨Mi _,MA.mpr ⟨Mi _,MA.mpr ⟨this,Mi _⟩⟩⟩⟩) 1) (by decide)
theorem qj {a b:Option B8} (h:aY a=aY b):a=b:=by
 cases a<;>cases b<;>first|rfl|cases h|skip
 rfl
theorem yo {a b:bG} (h:gw a=gw b):a=b:=by
 obtain⟨t,i,dt,oc⟩:=a
 obtain⟨t',i',dt',c⟩:=b
 have h':=V.tup.inj h
 injection h' with h1 h2
 injection h2 with h2 h3
 injection h3 with h3 h4
 injection h4 with h4 _
 have e:=Pd (V.int.inj h1)
 have f:=Pd (V.int.inj h2)
 have g:=V.RT.inj h3
 dsimp only at e f g
 subst e f g
 congr 1
 cases oc with
 |none=>
  cases c with
  |none=>rfl
  |some y=>cases h4
 |some x=>
  cases c with
  |none=>cases h4
  |some y=>
   obtain⟨k,ky,vl,ex⟩:=x
   obtain⟨k',ky',vl',ex'⟩:=y
   have d:=V.tup.inj h4
   injection d with g1 g2
   injection g2 with _ g3
   injection g3 with g3 g4
   injection g4 with g4 g5
   injection g5 with g5 _
   have j:=Pd (V.int.inj g1)
   have l:=V.RT.inj g3
   have m:=V.RT.inj g4
   have n:=qj g5
   dsimp only at j l m n
   rw[j,l,m,n]
noncomputable abbrev jr (r:bG):V:= .tup [.int r.tm,.int r.idx,.int 0,.RT r.data]
theorem fy {Q:V->Prop} {l:List α} {a b:Nat} (ha:bound 0 lo=QA a) (hb:bound l.length hi=QA b) (q:Q (.list (((l.take b).drop a).map f))):iG Z (.list (l.map f)) lo hi Q:=by
 refine⟨l.map f,a,b,rfl,ha,by rw[LZ];exact hb,?_⟩
 rw[List.map_drop,P7] at q
 exact q
theorem C5 {Q:V->Prop} (q:Q (.int (i-j))):kG .sub (.int i) (.int j) Q:=q
section
theorem u3 {d o n:Nat}: ∀(l kept:List bG) (V0:Int) (Z:H) (w:Option V),(∀r∈l,Small r)->kept.length+l.length<=1000->Holds ((o,.list (kept.map jr))::wl) Z->
  (∀(room:V) w RM,Holds ((o,.list ((TU n V0 kept l).map jr))::wl) RM->N [QA x0,QA x1,QA room,QA (.ref o),w] RM)->
  TG (λN' B' C' Y Z=>a8 P (RL P (d+1)) (ss [.e 2 .sub (.b .add (.b .add (.b .add (.call 116 (es [.sub au (.int 0)])) (.call 116 (es [.sub au (.int 1)]))) (.int 2)) (.y .len (es [.sub au (.int 2)]))),
  .i (.and (es [.c .gt (.y .len (es [RN])) (.int 0),.c .lt ah (.int 0)])) (ss [.brk]) .nil,
  .expr (.append RN (.tup (es [.sub au (.int 0),.sub au (.int 1),.int 0,.sub au (.int 2)])))]) N' R B' C' (λJ J J=>False) Y Z) [4] (da l) N [QA x0,QA x1,QA (.int (n-V0)),QA (.ref o),w] Z:=by
 intro l
 induction l with
 |nil=>intro kept V0 Z w m g h q;exact q _ w Z h
 |cons r t ih=>
  intro kept V0 Z w m g h q
  dsimp only[Mb] at g
  have A: ∀r∈t,Small r:=λz D=>m z (.tail _ D)
  have x:=m r (.head _)
  have h1:=x.tm;have h2:=x.idx
  rw[i4] at q
  refine cx λK C=>(gx (i:=n-V0) rfl (bz (bz (bz (aC (vs:=[.int r.tm]) rfl (Ez (dO ‹_› (aT rfl)) (aC (vs:=[.int r.idx]) rfl (Ez (dO ‹_› (aT rfl)) (fw (ae (.int 2) rfl (fw (ae (v:= .int r.data.length) _ rfl (fw (C5 ?_))))))))))))))
  have e:(n:Int)-V0-(((R9 r.tm).length:Int)+((R9 r.idx).length:Nat)+2+(r.data.length:Nat))=n-(V0+sz r):=by rw[sz];exact H7 0x725135520D20814120812950144D50D308145354254150A540 rfl
  rw[e]
  have B:=h.get 0 rfl
  have s:(∀(room:V) w RM,Holds ((o,.list ((TU n (V0+sz r) (kept++[r]) t).map jr))::wl) RM->N [QA x0,QA x1,QA room,QA (.ref o),w] RM)->
    a8 P (RL P (d+1)) (ss [.expr (.append RN (.tup (es [.sub au (.int 0),.sub au (.int 1),.int 0,.sub au (.int 2)])))]) K R N K (λJ J J=>False) [QA x0,QA x1,QA (.int (n-(V0+sz r))),QA (.ref o),QA (gw r)] Z:=by
   intro q
   refine ax (eC (u:=jr r) h 0 rfl rfl rfl (by simp;exact RW 0x600F424011000180FA02412481050040 rfl g) λRM h'=>aw (C _ _ (ih (kept++[r]) (V0+sz r) RM _ A (by simp;exact RW 0x603E809048148105000180FA02412481050040 rfl g) ?_ q)))
   simpa using h'
  have tl:pe P (.c .gt (.y .len (es [RN])) (.int 0)) [QA x0,QA x1,QA (.int (n-(V0+sz r))),QA (.ref o),QA (gw r)] Z=QA (.bool (decide ((0:Int)<kept.length))):=by
   have:=aH (op:= .gt) (jf (p:=P) (a:= RN) (Y:=[QA x0,QA x1,QA (.int (n-(V0+sz r))),QA (.ref o),QA (gw r)]) rfl B) (b:= .int 0) rfl rfl
   rw[LZ] at this
   exact this
  by_cases k:kept=[]
  ·subst k
   rw[L4 (λh=>h.1 rfl)] at q
   exact aO (lQ tl rfl) rfl (s q)
  ·have f:=M3.mpr k
   by_cases j:n<V0+sz r
   ·rw[L6 ⟨k,j⟩] at q
    exact cL (cB tl (iF (aX 0x1C55000441840010 rfl f)) rfl) (iF (q4 0x1C404544D504A5400714D504A540 rfl j)) (q _ _ Z h)
   ·rw[L4 (λh=>j h.2)] at q
    exact aO (cB tl (iF (aX 0x1C55000441840010 rfl f)) rfl) (aS (q4 0x1D004544D504A5400744D504A540 rfl j)) (s q)
theorem Ha {bk td i:Nat} (h:Holds wl Z) (hb:wl[i]?=QA (bk,.dict (U3 p b td))) (hs: ∀r∈b.now,Small r) (hl:b.now.length<=1000) (hc:b.com<=1000) (ha:b.app<=1000)
  (q: ∀RM,Holds wl RM->Q (.list ((TU p.most 0 [] ((b.now.take b.com).drop b.app)).map jr)) RM):RL P (d+2) 117 [.ref bk] Q X Z:=by
 have g:=h.get i hb
 refine ao [QA (.ref bk),QC,QC,QC,QC] rfl rfl (av (bN (ay rfl g rfl rfl) (aJ (ay rfl g rfl rfl) (ay rfl g rfl rfl) rfl) (aJ (ay rfl g rfl rfl) (ay rfl g rfl rfl) rfl) (fy (bc (k:=b.app) (RW 0x1C95054540552040 rfl) (qX ‹_› rfl)) (bc (k:=b.com) (RW 0x1C95054540552040 rfl) (qX ‹_› rfl)) (aV (ay rfl g rfl rfl) (av (dq h λo a f=>dh (ae RJ rfl ⟨_,rfl,?_⟩)))))))
 have:=u3 (d:=d) (n:=p.most) (wl:=wl) (N:=λY Z=>a8 P (RL P (d+1)) (ss [.freeze 3,.ret RN]) (λJ Z=>Q .none Z) Q (λJ J=>False) (λJ J=>False) (λc J Z=>X c Z) Y Z) (R:=Q) (o:=o) (x0:= .ref bk) (x1:= .list (da ((b.now.take b.com).drop b.app))) ((b.now.take b.com).drop b.app) [] 0 a .none (λr m=>hs r (MR (Nt m))) (by simp;exact SD 0x604823E809004180004180FA02400 rfl hc (MW _ _)) f λroom w SG j=>cO j rfl λe l=>aN rfl (q e l)
 rw[show(p.most:Int)-0=p.most by exact rfl] at this
 exact this
end
end
section
structure ZC (a b:List bG) (m:Nat):Prop where
 la:m<=a.length
 lb:m<=b.length
 eq:a.take m=b.take m
 ne: ∀x y,a[m]?=QA x->b[m]?=QA y->x≠y
section
theorem bF {pr:gX} {α:Type} {f:α->V} {l:List α} {e:E} {Y:Env} (h:pe pr e Y Z=QA (.list (l.map f))):pe pr (.y .len (.cons e .nil)) Y Z=QA (.int l.length):=
 cn h (by show QA (V.int ((l.map f).length:Nat))=_;rw[LZ])
theorem oN {a b:List bG} {m:Nat} {x:bG} (h:a.take m=b.take m) (ha:a[m]?=QA x) (hb:b[m]?=QA x):a.take (m+1)=b.take (m+1):=by
 rw[PF,PF,h,ha,hb]
theorem km {l:List bG} {k:Nat} {r:bG} {i:Int} (e:i=k) (h:l[k]?=QA r):je Z (.list (da l)) (.int i)=QA (gw r):=cR e (by simp[h])
theorem pk {d:Nat} {N:Env->H->Prop} {R:V->H->Prop} (hb:Z[bk]?=QA (.dict (U3 p b td))): ∀(f m:Nat),b.now.length-m<f->m<=b.now.length->m<=b.ever.length->b.now.take m=b.ever.take m->
  (∀m,ZC b.now b.ever m->N [QA (.ref bk),QA (.int m)] Z)->
  UA (λQ Y Z=>wT P (RL P d) (.and (es [.c .lt RJ (.y .len (es [.sub aa (.str 4)])),.c .lt RJ (.y .len (es [.sub aa (.str 6)])),.c .eq (.sub (.sub aa (.str 4)) RJ) (.sub (.sub aa (.str 6)) RJ)])) Y Q (λJ J=>False) Z) (λN' B' C' Y Z=>a8 P (RL P d)
   (ss [.e 1 .add (.int 1)]) N' R B' C' (λJ J J=>False) Y Z) f N [QA (.ref bk),QA (.int m)] Z:=by
 intro f
 induction f with
 |zero=>intro m j;exact False.elim (SD 0x942481001840400 rfl j (iS (SD 0x802041840400 rfl j)))
 |succ f ih=>
  intro m j r s h q
  have v:pe P (.sub aa (.str 4)) [QA (.ref bk),QA (.int m)] Z=QA (.list (da b.now)):=ay rfl hb rfl rfl
  have w:pe P (.sub aa (.str 6)) [QA (.ref bk),QA (.int m)] Z=QA (.list (da b.ever)):=ay rfl hb rfl rfl
  have u:pe P (.c .lt RJ (.y .len (es [.sub aa (.str 4)]))) [QA (.ref bk),QA (.int m)] Z=QA (.bool (decide ((m:Int)<b.now.length))):=aH rfl (bF v) rfl
  have A:pe P (.c .lt RJ (.y .len (es [.sub aa (.str 6)]))) [QA (.ref bk),QA (.int m)] Z=QA (.bool (decide ((m:Int)<b.ever.length))):=aH rfl (bF w) rfl
  by_cases a:m<b.now.length
  ·by_cases g:m<b.ever.length
   ·have n:b.now[m]?=QA b.now[m]:=As a
    have o:b.ever[m]?=QA b.ever[m]:=As g
    refine cU (ae _ u (iu (iF (Mo.mpr ‹_›)) (vH (ae _ A (iu (iF (Mo.mpr ‹_›)) (fR (bh (ae _ (bp v rfl (km rfl n)) (ae _ (bp w rfl (km rfl o)) (BP (uD _ _) (yZ _) λt z=>?_))))))))))
    cases t with
    |true=>
     have B:=yo (z.mp rfl)
     refine⟨QD,rfl,gx (i:=m) rfl (ih (m+1) (iK 0x610428621120C00621124810500C2061481050040 rfl j (iS (RW 0x60052041400061040 rfl a)) (iS (RW 6598143905856 rfl a))) a g (oN h n (by rw[o,B])) q)⟩
    |false=>
     refine⟨QE,rfl,q m ⟨r,s,h,λx y k l e=>?_⟩⟩
     rw[n] at k;rw[o] at l
     cases k;cases l
     have:=z.mpr (by rw[e])
     cases this
   ·refine cU (ae _ u (iu (iF (Mo.mpr ‹_›)) (vH (ae _ A (cI (aS (RW 0x74541540064040 rfl g)) ⟨_,rfl,?_⟩)))))
    rw[aS (by exact RW 0x74541540064040 rfl g)]
    exact q m ⟨r,s,h,λx y J l=>absurd (ba l) (by assumption)⟩
  ·refine cU (ae _ u (cI (aS (RW 0x74541540064040 rfl a)) ⟨_,rfl,?_⟩))
   rw[aS (by exact RW 0x74541540064040 rfl a)]
   exact q m ⟨r,s,h,λx y k J=>absurd (ba k) (by assumption)⟩
theorem CH (hb:Z[bk]?=QA (.dict (U3 p b td))) (q: ∀m,ZC b.now b.ever m->Q (.int m) Z):RL P (d+1) 118 [.ref bk] Q X Z:=by
 exact ao [QA (.ref bk),QC] rfl rfl (aV rfl (ku (n:=b.now.length+1) (pk (R:=Q) hb _ 0 (RW 0x61481050040060040 rfl (Ot _ _)) (Mi _) (Mi _) rfl λm a=>aN rfl (q m a))))
noncomputable def TF (b:BS) (t:Nat):BS:={b with com:=max b.com t,ever:=if b.ever.length<max b.com t then b.now.take (max b.com t) else b.ever}
theorem CI {to:Int} {t:Nat} (h:Holds wl Z) (hb:wl[i]?=QA (bk,.dict (U3 p b td))) (e:to=(p.first+t:Nat)) (hl:b.com<=1000) (ht:t<=1000) (q: ∀RM,Holds (wl.set i (bk,.dict (U3 p (TF b t) td))) RM->Q .none RM):RL P (d+1) 119 [.ref bk,.int to] Q X Z:=by
 have g:=h.get i hb
 refine ao [QA (.ref bk),QA (.int to)] rfl rfl (dZ (cz (aj (ae _ (ay rfl g rfl rfl) (aj (ae RJ rfl (aE (n3 ?_))))))))
 have s:max ((p.first+b.com:Nat):Int) to=(p.first+max b.com t:Nat):=by rw[e];exact HH ..
 rw[s]
 clear s e
 have n:max b.com t<=1000:=MA.mpr ⟨hl,ht⟩
 have r:TF b t={b with com:=max b.com t,ever:=if b.ever.length<max b.com t then b.now.take (max b.com t) else b.ever}:=rfl
 rw[r] at q
 clear r
 generalize max b.com t=cm at*
 have m:((p.first+cm:Nat):Int)-p.first=cm:=RW 0x1C95054540552040 rfl
 refine ae aa rfl (ae (.str 3) rfl (d5 h i hb rfl (aB rfl) λj z=>?_))
 have w:(wl.set i (bk,.dict (U3 p {b with com:=cm} td)))[i]?=QA (bk,.dict (U3 p {b with com:=cm} td)):=L7 (ba hb)
 have l:Holds (wl.set i (bk,.dict (U3 p {b with com:=cm} td))) j:=z
 have f:=l.get i w
 have o:pe P (.c .gt (.b .sub (.sub aa (.str 3)) (.sub aa (.str 0))) (.y .len (es [.sub aa (.str 6)]))) [QA (.ref bk),QA (.int to)] j=QA (.bool (decide ((b.ever.length:Int)<((p.first+cm:Nat):Int)-p.first))):=
  aH (aJ (ay rfl f rfl rfl) (ay rfl f rfl rfl) rfl) (bF (ay rfl f rfl rfl)) rfl
 by_cases c:b.ever.length<cm
 ·rw[L6 c] at q
  refine cL o (iF (by rw[m];exact Mo.mpr c)) (dZ (bN (ay rfl f rfl rfl) (u:= .none) rfl (aJ (ay rfl f rfl rfl) (ay rfl f rfl rfl) rfl) (fy (a:=0) rfl (bc (k:=cm) m (aX 0x187B9ACA0015000180FA02400 rfl n)) ?_)))
  rw[NB]
  refine ae aa rfl (ae (.str 6) rfl (d5 l i w rfl (aB rfl) λx v=>aw (aw (q x ?_))))
  rw[NU] at v
  exact v
 ·rw[L4 c] at q
  exact aO o (aS (by rw[m];exact λh=>c (Mo.mp h))) (aw (q j l))
theorem Hi (h:Holds (TZ a p g m b wl) Z) (hc:g.com=b.com) (ha:g.app=b.app) (VI:fZ (p.first+g.SO:Nat) g.sl g.ul (p.first+1+g.uo:Nat) (p.first+b.now.length:Nat)) (hm:m.ap=(p.first+b.app:Nat)) (hd:m.du=(p.first+b.UJ:Nat)) (q:Q (.bool QD) Z):RL P (d+3) 127 [.ref a.lg,.ref a.ma,.ref a.bk] Q X Z:=by
 have e:=Lg.of h
 have c:Z[a.bk]?=QA (.dict (U3 p b a.td)):=h.get 7 rfl
 have f:=h.get 3 rfl
 refine ao [QA (.ref a.lg),QA (.ref a.ma),QA (.ref a.bk)] rfl rfl (aK (bh (fS (aj (ae (.t aa 40) (af rfl e.l rfl) (aj (ae (.t aa 22) (af rfl e.l rfl) (aj (ai rfl e.l rfl rfl (BJ e VI (aE ?_)))))))))))
 have i:pe P (.tup (es [.sub ah (.str 3),.sub ah (.str 2),.b .add (.sub ah (.str 0)) (.y .len (es [.sub ah (.str 4)]))])) [QA (.ref a.lg),QA (.ref a.ma),QA (.ref a.bk)] Z=QA (.tup [.int (p.first+b.com:Nat),.int (p.first+b.app:Nat),.int ((p.first:Int)+b.now.length)]):=
  gv (aA (ay rfl c rfl rfl) (aA (ay rfl c rfl rfl) (aA (aJ (ay rfl c rfl rfl) (bF (ay rfl c rfl rfl)) rfl) rfl)))
 refine ae _ i (lH (by rw[hc,ha,Og p.first b.now.length]) rfl (by show 1+_<=20;exact aT rfl) (cI rfl (aW (bh (ae _ (gv (aA (af rfl f rfl) (aA (af rfl f rfl) rfl))) (ae _ (gv (aA (ay rfl c rfl rfl) (aA (ay rfl c rfl rfl) rfl))) (xw (by rw[hm,hd]) rfl (by show 1+_<=20;exact aT rfl) q)))))))
def TC (g:GS) (b:BS):GS:={g with sl:=Wj g.sl (g.uo-g.SO) g.ul,ul:=[],uo:=b.now.length}
noncomputable def UO (g:GS) (b:BS) (c:Nat) (t:Bool):GS:=if t then {g with ht:=b.term,hv:=0,hc:=c} else g
noncomputable def TJ (p:fQ) (b:BS) (t:Bool):BS:={b with stored:=b.now,hd:=if t then p.first+b.com else b.hd}
theorem He {t:Bool} (h:Holds (TZ a p g m b wl) Z) (hi:nC (p.first+1+g.uo:Nat) g.ul) (hu:g.SO<=g.uo) (hs:g.uo-g.SO<=g.sl.length) (hl:g.ul.length<=1000) (ZY:g.sl.length<=1000) (hn:g.uo+g.ul.length=b.now.length)
  (q: ∀RM,Holds (TZ a p (UO (TC g b) b (p.first+b.com) t) m (TJ p b t) wl) RM->Q .none RM):RL P (d+4) 121 [.ref a.lg,.ref a.st,.ref a.bk,.bool t] Q X Z:=by
 have D:=Lg.of h
 refine ao [QA (.ref a.lg),QA (.ref a.st),QA (.ref a.bk),QA (.bool t),QC] rfl rfl (av (ai rfl D.l rfl rfl (G2 D (ax (ai rfl D.s rfl rfl (Ls (a:=g.uo-g.SO) h (λk r w=>?_) hs hl ZY λx R=>?_))))))
 ·have:=hi k r w;exact Up 0x1C935434D5113041455485055021882485101C93543552092041401540 rfl this (iS (RW 6598143901760 rfl hu))
 have A:Holds (Vu a p {g with sl:=Wj g.sl (g.uo-g.SO) g.ul} (Su a p m (Uq a p b wl))) x:=R
 have o: ∀Z,Holds (Vu a p (TC g b) (Su a p m (Uq a p b wl))) Z->a8 P (RL P (d+3)) (ss [.C ah (.str 9) (.sub ah (.str 4)),
 .i RN (ss [.expr (.m RJ 50 (es [.new 20 QD (es [.sub ah (.str 7),.int 0,.sub ah (.str 3)])])),
  .C ah (.str 10) (.sub ah (.str 3))]) .nil]) (λJ Z=>Q .none Z) Q (λJ J=>False) (λJ J=>False) (λc J Z=>X c Z) [QA (.ref a.lg),QA (.ref a.st),QA (.ref a.bk),QA (.bool t),QA (.list (bA g.ul))] Z:=by
  intro Z h
  have O:Z[a.bk]?=QA (.dict (U3 p b a.td)):=h.get 7 rfl
  refine d6 h 7 rfl (ay rfl O rfl rfl) rfl rfl (aB rfl) λj v=>?_
  have s:Holds (TZ a p (TC g b) m {b with stored:=b.now} wl) j:=v
  have E:j[a.bk]?=QA (.dict (U3 p {b with stored:=b.now} a.td)):=s.get 7 rfl
  cases t with
  |false=>exact aO (t:=QE) rfl rfl (aw (q j s))
  |true=>
   refine cL (t:=QD) rfl rfl (ax (bU rfl (cA (s.get 0 rfl)) rfl (aj (og (aA (ay rfl E rfl rfl) (aA rfl (aA (ay rfl E rfl rfl) rfl))) s λSX S=>aE (Lr S λI H=>?_)))))
   have B:I[a.bk]?=QA (.dict (U3 p {b with stored:=b.now} a.td)):=H.get 7 rfl
   exact d6 H 7 rfl (ay rfl B rfl rfl) rfl rfl (aB rfl) λL T=>aw (aw (q L T))
 have F:pe P (.c .gt (.y .len (es [au])) (.int 0)) [QA (.ref a.lg),QA (.ref a.st),QA (.ref a.bk),QA (.bool t),QA (.list (bA g.ul))] x=QA (.bool (decide ((0:Int)<g.ul.length))):=
  aH (bF (l:=g.ul) (f:=fW) rfl) rfl rfl
 rcases Nn g.ul with e|⟨l,r,e⟩
 ·refine aO F (aS (by rw[e];decide)) (o x ?_)
  rw[e] at hn
  have:TC g b={g with sl:=Wj g.sl (g.uo-g.SO) g.ul}:=
   congr (By (λu n=>({g with sl:=Wj g.sl (g.uo-g.SO) g.ul,ul:=u,uo:=n}:GS)) e.symm) hn.symm
  rw[this];exact A
 ·have w:g.ul[g.ul.length-1]?=QA r:=by rw[e];simp
  have G:(bA g.ul).getLast?=QA (fW r):=by rw[e];simp
  have z:0<g.ul.length:=by rw[e];simp
  have K:=hi _ r w
  refine cL F (iF (aX 0x1C55000441840010 rfl z)) (ax (ai rfl (A.get 1 rfl) rfl (vs:=[.int r.idx,.int r.tm]) (aA (cN (bp rfl rfl (eV G)) rfl) (aA (cN (bp rfl rfl (eV G)) rfl) rfl)) (G1 (k:=g.ul.length-1) A w (by assumption) hl λj v=>aw (o j ?_))))
  have M:g.ul.drop (g.ul.length-1+1)=[]:=NK (RW 0x60481050001862052041400 rfl (iS (aX 0x1800041401840010 rfl z)))
  have N:(r.idx:Int)+1=(p.first+1+b.now.length:Nat):=Up 0x1C954824810501130414550C1881481050141C93545552012041404543062092040 rfl hn K (iS (aX 0x1800041401840010 rfl z))
  rw[M,N] at v
  exact v
end
end
section
section
variable [DecidableEq α]
theorem bx (m:List (α×β)) (x:α) (v:β):RQ (TA m x v) x=QA v:=by
 delta TA
 split
 ·rename_i h
  delta RQ
  induction m with
  |nil=>simp at h
  |cons q r ih=>
   by_cases e:q.1=x
   ·simp[e]
   ·have h':r.any (λp=>decide (p.1=x))=QD:=by simpa[e] using h
    simpa[e] using ih h'
 ·rename_i h
  delta RQ
  have:List.find? (λp=>decide (p.1=x)) m=QC:=by
   simp only[NR]
   intro q a e
   exact h (NP.mpr ⟨q,a,e⟩)
  simp[this]
theorem eR (m:List (α×β)) (v:β) (h:x≠y):RQ (TA m x v) y=RQ m y:=by
 unfold TA
 split
 ·unfold RQ
  rw[List.find?_map]
  have e:((λp:α×β=>decide (p.1=y))∘λp=>if p.1=x then(p.1,v) else p)=λp=>decide (p.1=y):=by
   funext p
   show decide ((if p.1=x then(p.1,v) else p).1=y)=_
   split<;>rfl
  rw[e]
  cases a:List.find? (λp=>decide (p.1=y)) m with
  |none=>rfl
  |some q=>
   have b:=List.find?_some a
   have:q.1=y:=by simpa using b
   have h':q.1≠x:=λe=>h (by rw[<- e,this])
   simp[h']
 ·unfold RQ
  rw[List.find?_append]
  have:List.find? (λp:α×β=>decide (p.1=y)) [(x,v)]=QC:=by simp[h]
  rw[this];simp
theorem hU (m:List (α×β)) (x:α):RQ (j3 m x) x=QC:=by
 delta RQ j3
 simp only[Od,NR]
 intro q a
 have:=(List.mem_filter.mp a).2
 simpa using this
theorem pS (m:List (α×β)) (h:x≠y):RQ (j3 m x) y=RQ m y:=by
 delta RQ j3
 rw[List.find?_filter]
 congr 1
 refine By (List.find? · m) (funext λp=>?_)
 by_cases e:p.1=y
 ·have: ¬p.1=x:=λa=>h (a.symm.trans e)
  simp[e]
  intro a;exact h a.symm
 ·simp[e]
end
structure RS where
 D:BD
 s:o9
 TK:List (List Op)
 R5:List (Option B8)
def gU (D:BD) (s:o9) (nr:Nat):Option md->o9
 | .none=>s
 |some c=>bif !bX s&&!(c.kd==5) then s else QA (nr,!(c.kd==6),eO (UI D c))
def T5 (cl:Nat) (z:RS) (r:bG):RS:=
 ⟨R4 z.D (TY z.D z.s cl r.idx r.tm l9 r.oc),gU z.D z.s r.idx r.oc,z.TK++[TY z.D z.s cl r.idx r.tm l9 r.oc],z.R5++[jN z.D z.s cl r.idx r.oc]⟩
def eg (p:fQ):List Op:=[(1,[97],VD p.first p.U4 l9)]
def sb (p:fQ):RS:=⟨R4 [] (eg p),.none,[eg p],[]⟩
def run (p:fQ) (l:List bG):RS:=l.foldl (T5 p.RV) (sb p)
theorem dQ (p:fQ) (l:List bG) (r:bG):run p (l++[r])=T5 p.RV (run p l) r:=by simp[run,OT]
noncomputable def R7 (p:fQ) (l:List bG) (n:Nat):Nat:=if n=0 then p.U4 else match l[n-1]? with|some r=>r.tm| .none=>0
structure q2 (p:fQ) (n tm:Nat) (z:RS):Prop where
 ses:RQ z.D (TO p.RV)=se z.s
 Rl: ∀t,z.s=QA t->t.1<=p.first+n/\t.2.2.length<=3+2*n
 app:RQ z.D [97]=QA (VD (p.first+n) tm l9)
 bl:z.TK.length=n+1
 rl:z.R5.length=n
 rep:z.D=gT z.TK
 ops: ∀o∈z.TK,o.length<=3
 old: ∀key o,(key=[]\/key=[107])->RQ z.D (RY key)=QA o->o.length<=2*n
 len:z.D.length<=1+3*n
theorem ot (l:List (List Op)) (o:List Op):gT (l++[o])=R4 (gT l) o:=by simp[gT,OT]
theorem di (D:BD) (a b:List Op):R4 D (a++b)=R4 (R4 D a) b:=by simp[R4,OT]
theorem ji (cl:Nat) (k:B8):TO cl≠RY k:=by
 intro e
 have:=(Ou e).1
 exact absurd this (by decide)
theorem jO (cl:Nat):TO cl≠[97]:=by
 intro e
 have:=(Ou e).1
 exact absurd this (by decide)
theorem cW (k:B8):RY k≠[97]:=by
 intro e
 have:=(Ou e).1
 exact absurd this (by decide)
theorem bW (h:o.2.1≠k):RQ (bI D o) k=RQ D k:=by
 delta bI
 split
 ·exact eR _ _ h
 ·exact pS _ h
theorem th (D:BD) (c:md): ∀o∈(UI D c).1,o.2.1=RY c.key:=by
 refine wC ?_ ?_ ?_ ?_ ?_<;>intro o a
 ·simp at a;rw[a]
 ·cases b:RQ D (RY c.key)<;>simp[b] at a;rw[a]
 ·split at a<;>simp at a;rw[a]
 ·simp at a;rw[a]
 ·simp at a
theorem eI {D:BD} {k:B8}: ∀(l:List Op) (D:BD),(∀o∈l,o.2.1≠k)->RQ (R4 D l) k=RQ D k
 |[],D,J=>rfl
 |o::r,D,h=>by
  show RQ (R4 (bI D o) r) k=_
  rw[eI (D:=D) r _ (λx hx=>h x (.tail _ hx)),bW (h o (.head _))]
theorem zS (hk: ∀o,RQ D (RY c.key)=QA o->o.length<=m) (hv:c.val.length<=2): ∀o,RQ (R4 D (UI D c).1) (RY c.key)=QA o->o.length<=m+2:=by
 refine wC ?_ ?_ ?_ ?_ ?_<;>intro o
 ·show RQ (TA D (RY c.key) c.val) (RY c.key)=QA o->_
  rw[bx];intro h;cases h;exact VK ‹_› rfl
 ·cases a:RQ D (RY c.key) with
  |none=>
   show RQ D (RY c.key)=QA o->_
   rw[a];intro h;cases h
  |some x=>
   show RQ (j3 D (RY c.key)) (RY c.key)=QA o->_
   rw[hU];intro h;cases h
 ·split
  ·show RQ (TA D (RY c.key) c.val) (RY c.key)=QA o->_
   rw[bx];intro h;cases h;exact VK ‹_› rfl
  ·intro h;have:=hk o h;exact RW 0x60482050040060040 rfl this
 ·show RQ (TA D (RY c.key) ((RQ D (RY c.key)).getD []++c.val)) (RY c.key)=QA o->_
  rw[bx]
  intro h;cases h
  cases a:RQ D (RY c.key) with
  |none=>dsimp;exact VK ‹_› rfl
  |some x=>have:=hk x a;simp;exact SD 0x60482050092001060081060081400 rfl hv this
 ·intro h;have:=hk o h;exact RW 0x60482050040060040 rfl this
theorem Ve (D:BD) (c:md):(UI D c).2.2=RQ D (RY c.key)\/(UI D c).2.2= .none:=by
 refine wC ?_ ?_ ?_ ?_ ?_
 ·exact .inl rfl
 ·exact .inl rfl
 ·split<;>exact .inl rfl
 ·exact .inl rfl
 ·exact .inr rfl
theorem q2.zero (p:fQ):q2 p 0 p.U4 (sb p) where
 ses:=by
  show RQ (R4 [] (eg p)) (TO p.RV)=Option.none
  rw[eI (D:=[]) (eg p) [] (λo a=>by rw[LS.mp a];exact λe=>jO _ e.symm)];rfl
 Rl:=λJ h=>fX h
 app:=by
  show RQ (TA [] [97] (VD p.first p.U4 l9)) [97]=_
  exact bx ..
 bl:=rfl
 rl:=rfl
 rep:=rfl
 ops:=λo a=>by rw[LS.mp a];exact ME (NX _)
 old:=λkey o J h=>by
  have e:RQ (R4 [] [(1,[97],VD p.first p.U4 l9)]) (RY key)=Option.none:=by
   rw[eI (D:=[]) [_] [] (λo a=>by rw[LS.mp a];exact λe=>cW _ e.symm)];rfl
  rw[show(sb p).D=R4 [] [(1,[97],VD p.first p.U4 l9)] from rfl,e] at h
  cases h
 len:=gB (eg p) []
theorem q2.step {p:fQ} {n tm:Nat} {z:RS} {r:bG} (I:q2 p n tm z) (hi:r.idx=p.first+n+1) (ok:hF p r):q2 p (n+1) r.tm (T5 p.RV z r):=by
 have u:((T5 p.RV z r).D).length<=1+3*(n+1):=by
  have s:=gB (TY z.D z.s p.RV r.idx r.tm l9 r.oc) z.D
  have i:=iE z.D z.s p.RV r.idx r.tm l9 r.oc
  have:=I.len
  show(R4 z.D _).length<=_
  exact bQ 0x604836520414030414000604836430414010600C1402060482040 rfl s i this
 have m:(T5 p.RV z r).D=bI (R4 z.D (match r.oc with| .none=>[]|some c=>(SR z.D z.s p.RV r.idx c).1)) (1,[97],VD r.idx r.tm l9):=di z.D _ [_]
 have rest: ∀k:B8,k≠[97]->RQ (T5 p.RV z r).D k=RQ (R4 z.D (match r.oc with| .none=>[]|some c=>(SR z.D z.s p.RV r.idx c).1)) k:=λk d=>by
  rw[m];exact bW (λe=>d e.symm)
 refine⟨?_,?_,?_,?_,?_,?_,?_,?_,u⟩
 ·rw[rest _ (jO _)]
  show _=se (gU z.D z.s r.idx r.oc)
  cases b:r.oc with
  |none=>exact I.ses
  |some c=>
   show RQ (R4 z.D (SR z.D z.s p.RV r.idx c).1) _=se (bif !bX z.s&&!(c.kd==5) then z.s else _)
   delta SR
   cases(!bX z.s&&!(c.kd==5)) with
   |true=>exact I.ses
   |false=>
    show RQ (R4 z.D ((UI z.D c).1++[_])) _=_
    rw[di]
    exact bx ..
 ·intro t v
  have a:gU z.D z.s r.idx r.oc=QA t:=v
  cases b:r.oc with
  |none=>
   rw[b] at a
   have:=I.Rl t a
   exact⟨SD 0x60492041402040060482040 rfl this.1,RW 0x604826520414010C14000604826410C1400 rfl this.2⟩
  |some c=>
   rw[b] at a
   have a:(bif !bX z.s&&!(c.kd==5) then z.s else QA (r.idx,!(c.kd==6),eO (UI z.D c)))=QA t:=a
   cases f:(!bX z.s&&!(c.kd==5)) with
   |true=>
    rw[f] at a
    have:=I.Rl t a
    exact⟨SD 0x60492041402040060482040 rfl this.1,RW 0x604826520414010C14000604826410C1400 rfl this.2⟩
   |false=>
    rw[f] at a
    cases iN a
    refine⟨by show r.idx<=_;exact SD 0x60492041402040062481050482040 rfl hi,?_⟩
    have: ∀x,(UI z.D c).2.2=QA x->x.length<=2*n:=λx g=>by
     rcases Ve z.D c with e|e
     ·exact I.old c.key x (ok.cm c b).key (e.symm.trans g)
     ·rw[e] at g;cases g
    have:=iA this
    show(eO (UI z.D c)).length<=_
    dsimp only[eO,Mb];exact RW 0x604826520414010C1412041400060482050099040 rfl this
 ·rw[m]
  show RQ (TA _ _ _) _=_
  rw[bx,hi];rfl
 ·show(z.TK++[_]).length=_
  rw[LU,I.bl];rfl
 ·show(z.R5++[_]).length=_
  rw[LU,I.rl];rfl
 ·show R4 z.D _=gT (z.TK++[_])
  rw[ot,<- I.rep]
 ·intro o l
  rcases Mq.mp l with h|h
  ·exact I.ops o h
  ·rw[LS.mp h];exact iE ..
 ·intro key o d h
  rw[rest _ (cW _)] at h
  cases b:r.oc with
  |none=>
   rw[b] at h
   have:=I.old key o d h
   exact RW 0x60099481050040060099040 rfl this
  |some c=>
   rw[b] at h
   have h':RQ (R4 z.D (SR z.D z.s p.RV r.idx c).1) (RY key)=QA o:=h
   delta SR at h'
   cases f:(!bX z.s&&!(c.kd==5)) with
   |true=>
    rw[f] at h'
    have:=I.old key o d h'
    exact RW 0x60099481050040060099040 rfl this
   |false=>
    rw[f] at h'
    have i:RQ (R4 z.D ((UI z.D c).1++[(1,TO p.RV,gZ r.idx (!(c.kd==6)) (eO (UI z.D c)))])) (RY key)=QA o:=h'
    rw[di] at i
    have j:RQ (R4 z.D (UI z.D c).1) (RY key)=QA o:=by
     rw[<- i];exact(bW (o:=(1,TO p.RV,gZ r.idx (!(c.kd==6)) (eO (UI z.D c)))) (ji _ _)).symm
    by_cases e:key=c.key
    ·subst e
     have:=zS (λo l=>I.old c.key o d l) (ok.cm c b).val o j
     exact RW 0x60099481050040060482050099040 rfl this
    ·rw[eI (D:=z.D) _ _ (λx g=>by
      rw[th z.D c x g]
      intro q
      exact e (Ou q).2.symm)] at j
     have:=I.old key o d j
     exact RW 0x60099481050040060099040 rfl this
end
section
theorem kR:Ra [1,2] [9] [] [] QE=l9:=by decide
theorem xj:iI [1,2]:=⟨by decide,by decide,by decide⟩
theorem C0:iI [9]:=⟨by decide,by decide,by decide⟩
theorem mj:iI []:=⟨by decide,by decide,by decide⟩
structure eW (p:fQ) (g:GS) (b:BS):Prop where
 ul:g.ul=b.now.drop g.uo
 Rm:g.uo<=b.now.length
 Sy:g.uo<=b.stored.length
 sl:g.sl=b.stored.drop g.SO
 bu:g.SO<=g.uo
 st:b.stored.take g.uo=b.now.take g.uo
 full:g.uo=b.now.length->b.stored=b.now
 TB:g.TB=R7 p b.stored g.SO
 ln:b.now.length<=100
 ls:b.stored.length<=100
 Z0:nC (p.first+1:Nat) b.now
 Xg:nC (p.first+1:Nat) b.stored
theorem jj {l m:List bG} {n i:Nat} (h:l.take n=m.take n) (hi:i<n):l[i]?=m[i]?:=by
 have:=By (λx=>x[i]?) h
 simpa[List.getElem?_take,hi] using this
theorem cE {l m:List bG} {n i:Nat} (h:l.take n=m.take n) (hi:i<=n):R7 p l i=R7 p m i:=by
 unfold R7
 by_cases e:i=0
 ·rw[L6 e,L6 e]
 ·rw[L4 e,L4 e,jj h (by exact SD 0x61042062012041402060040 rfl hi (iS (aX 0x1800041401840010 rfl (Mk e))))]
theorem cu (h:l[i]?=QA r):R7 p l (i+1)=r.tm:=by
 unfold R7
 rw[L4 (by exact aX 444220179747840 rfl),show i+1-1=i by exact rfl,h]
section
theorem eW.last (L:eW p g b):fZ (p.first+g.SO:Nat) g.sl g.ul (p.first+1+g.uo:Nat) (p.first+b.now.length:Nat):=by
 have a:=L.Rm;have c:=L.bu;have h3:=L.Sy
 by_cases e:g.uo=b.now.length
 ·refine .inl ⟨by rw[L.ul,e,O9],?_⟩
  rw[L.sl,L.full e,L3];exact bQ 0x1C93540552043552083862092040 rfl (iS (SD 0x60042060002060040 rfl a c))
 ·refine .inr ⟨λh=>?_,?_⟩
  ·have:=By List.length h
   rw[L.ul,L3,MX] at this;exact e (SD 0x1882041882481021880400 rfl this (iS (RW 6598143901760 rfl a)))
  ·rw[L.ul,L3];exact bQ 0x1C94041453540552052041403552083862092040 rfl (iS (RW 6598143901760 rfl a))
theorem eW.R7 (L:eW p g b) {i:Nat} (hb:g.SO<=i) (hi:i<=b.now.length):V7 (p.first+g.SO:Nat) g.TB g.sl g.ul (p.first+1+g.uo:Nat) (p.first+b.now.length:Nat) (p.first+i:Nat) (Internal.R7 p b.now i):=by
 have h1:=L.Rm;have f:=L.bu;have h3:=L.Sy
 by_cases c:g.uo<i
 ·obtain⟨j,rfl⟩:=Ny c
  have e:=Oe g.uo 1 j
  have d:g.uo+j<b.now.length:=bY (MB e.symm) hi
  have a:b.now[g.uo+j]?=QA b.now[g.uo+j]:=As d
  exact .inl ⟨j,b.now[g.uo+j],by rw[L.ul,NV];exact a,SD 0x1C93542552052041400552482481050040 rfl,by rw[Po,e,cu a]⟩
 ·refine .inr ⟨SD 0x71552012041402552042064040 rfl c,?_,SD 0x70552042552002060040 rfl hi⟩
  by_cases e:i=g.SO
  ·subst e
   exact .inl ⟨rfl,by rw[L.TB,<- cE (p:=p) L.st f]⟩
  ·obtain⟨j,rfl⟩:=Ny (Mx hb (N7 e))
   have e:=Oe g.SO 1 j
   have d:g.SO+j<b.now.length:=bY (MB e.symm) hi
   have a:b.now[g.SO+j]?=QA b.now[g.SO+j]:=As d
   exact .inr ⟨j,b.now[g.SO+j],by rw[L.sl,NV,jj L.st (by exact SD 0x61012081064482481050040 rfl c)];exact a,by exact SD 0x1C935424C1051552040552482481050040 rfl,by rw[Po,e,cu a]⟩
end
section
variable {i:Nat}
def VH (p:fQ) (b:BS) (m:MS):MS:={m with ap:=(p.first+b.app:Nat),tm:=R7 p b.now b.app,du:=if m.kept=m.TK.length then((p.first+b.app:Nat):Int) else min m.du (p.first+b.app:Nat)}
theorem EB (h:Holds (mb a.ma a.sr a.nw a.bt m.ap m.tm cf m.du p.sy m.kept m.last m.D (m.TK.map YJ) wl) Z) (hb:wl[i]?=QA (a.bk,.dict (U3 p b a.td))) (hg:RQ m.D [97]=QA (VD (p.first+b.app) (R7 p b.now b.app) l9)) (ha:b.app<=b.now.length) (hl:b.now.length<=100) (hf:p.first<100000) (ht:R7 p b.now b.app<100000)
  (q: ∀RM,Holds (Su a p (VH p b m) wl) RM->Q (.bool QD) RM):RL P (d+8) 124 [.ref a.ma,.ref a.bk] Q X Z:=by
 refine ao [QA (.ref a.ma),QA (.ref a.bk),QC,QC,QC,QC] rfl rfl (cD (ai rfl (h.get 0 rfl) rfl rfl (K8 (idx:=p.first+b.app) (tm':=R7 p b.now b.app) (A:=[1,2]) (B':=[9]) (C:=[]) (D':=[]) (f:=QE) h (by rw[kR];exact hg) xj C0 mj mj (SD 0x6104009A4800818586A00D0081801902401060040 rfl ha hl hf) (dO ‹_› (aT rfl)) (by rw[kR];decide) λj r=>?_)))
 rw[kR,LZ] at r
 have l:Holds (Su a p (VH p b m) wl) j:=r
 have g:j[a.bk]?=QA (.dict (U3 p b a.td)):=l.get (i+4) hb
 have o:=l.get 0 rfl
 refine⟨by decide,rfl,aV (ay rfl g rfl rfl) ?_⟩
 have rest:a8 P (RL P (d+7)) (ss [.i (.or (es [.c .is au .none,.c .ne (.m au 52 .nil) (.tup (es [.tup (es [.int 1,.int 2]),.tup (es [.int 9]),.tup .nil,.tup .nil,.ff]))])) (ss [.k]) .nil,
 .ret (.c .eq (.tup (es [ah,RN,.t aa 22,.t aa 5])) (.tup (es [.sub RJ (.str 2),aI,ah,RN])))]) (λJ Z=>Q .none Z) Q (λJ J=>False) (λJ J=>False) (λc J Z=>X c Z) [QA (.ref a.ma),QA (.ref a.bk),QA (.int (p.first+b.app:Nat)),QA (.int (R7 p b.now b.app)),QA (.U1 21 (WO [1,2] [9] [] [] QE)),QA (.int (R7 p b.now b.app))] j:=by
  refine aK (xZ (ae (.c .is au .none) (v:= .bool QE) rfl (cI rfl (xY (bh (ip (v:= .U1 21 (WO [1,2] [9] [] [] QE)) rfl rfl rfl rfl (KZ (ae _ (v:= .tup [.tup [.int 1,.int 2],.tup [.int 9],.tup [],.tup [],.bool QE]) rfl (lH rfl rfl (aB rfl) (cI rfl (aW (bh (ae _ (gv (aA rfl (aA rfl (aA (af rfl o rfl) (aA (af rfl o rfl) rfl))))) (ae _ (gv (aA (ay rfl g rfl rfl) (aA rfl (aA rfl (aA rfl rfl))))) (xw rfl rfl (by show 1+_<=20;exact aT rfl) (q j l))))))))))))))))
 by_cases e:b.app=0
 ·refine aO (aH (ay rfl g rfl rfl) (ay rfl g rfl rfl) rfl) (aS (RW 0x1D15480055041880400 rfl e)) ?_
  have n:R7 p b.now b.app=p.U4:=by rw[R7,L6 e]
  rw[n] at rest ⊢
  exact rest
 ·refine cL (aH (ay rfl g rfl rfl) (ay rfl g rfl rfl) rfl) (iF (by exact RW 0x1C55480055041840010 rfl (Mk e))) ?_
  have u:b.app-1<b.now.length:=SD 0x61042062012041402060040 rfl ha (iS (aX 0x1800041401840010 rfl (Mk e)))
  have s:b.now[b.app-1]?=QA b.now[b.app-1]:=As u
  have n:R7 p b.now b.app=(b.now[b.app-1]).tm:=by
   have:=cu (p:=p) s
   rw[show b.app-1+1=b.app by exact RW 0x62052041400062052041400 rfl (iS (aX 0x1800041401840010 rfl (Mk e)))] at this
   exact this
  refine aV (v:= .int (b.now[b.app-1]).tm) (bp (bp (ay rfl g rfl rfl) (aJ (aJ (ay rfl g rfl rfl) (ay rfl g rfl rfl) rfl) rfl rfl) (km (k:=b.app-1) (SD 0x1C95014041454542552042862052041400 rfl (iS (aX 0x1800041401840010 rfl (Mk e)))) s)) rfl rfl) (aw ?_)
  rw[<- n]
  exact rest
theorem Hh (h:Holds (TZ a p g m b wl) Z) (hg:RQ m.D [97]=QA (VD (p.first+b.app) (R7 p b.now b.app) l9)) (ha:b.app<=b.now.length) (hl:b.now.length<=100) (hf:p.first<100000) (ht:R7 p b.now b.app<100000) (hm:m.ap=(p.first+b.app:Nat))
  (q: ∀RM,Holds (TZ a p g (VH p b m) b wl) RM->Q (.bool QD) RM):RL P (d+9) 126 [.ref a.ma,.ref a.bk] Q X Z:=by
 have j:Z[a.bk]?=QA (.dict (U3 p b a.td)):=h.get 7 rfl
 refine ao [QA (.ref a.ma),QA (.ref a.bk),QC,QC,QC,QC] rfl rfl (aV rfl ?_)
 have rest: ∀w:B8,a8 P (RL P (d+8)) (ss [.a 3 (.t (.t aa 21) 29),
 .a 4 (.int 0),
 .f [5] (.list QD (es [.sub RJ (.str 2),.b .add (.sub RJ (.str 2)) (.int 2)])) (ss [.XD (ss [.expr (.m aa 53 (es [.new 19 QD (es [.sub RJ (.str 7),aI,.int 0,ah]),.none]))]) [15] (ss [.e 4 .add (.int 1)])]),
 .ret (.and (es [.c .eq au (.int 2),.c .eq (.t (.t aa 21) 29) RN,.call 124 (es [aa,RJ])]))]) (λJ Z=>Q .none Z) Q (λJ J=>False) (λJ J=>False) (λc J Z=>X c Z) [QA (.ref a.ma),QA (.ref a.bk),QA (.RT w),QC,QC,QC] Z:=by
  intro w
  have x:=h.get 3 rfl
  have C:=h.get 4 rfl
  refine aV (af (af rfl x rfl) C rfl) (aV rfl (dh (ae _ (Du (aA (ay rfl j rfl rfl) (aA (aJ (ay rfl j rfl rfl) rfl rfl) rfl))) ⟨_,rfl,?_⟩)))
  refine gO (jh (ax (bU rfl (cA x) rfl (aj (rS (aA (ay rfl j rfl rfl) (aA rfl (aA rfl (aA rfl rfl)))) h λs k=>aj (ae .none rfl (aE (tv (k.get 3 rfl) (⟨q4 0x70280461C9548100A rfl hm,DU 0x1C49502F9000644A0725520022818586A00D0081801902401060040 rfl ha hl hf hm⟩) (⟨RW 7719432224785 rfl,SD 0x1C49502F900064554800818586A00D0081801902401060040 rfl ha hl hf⟩) (q4 0x8754C1051295481021C9548100A rfl hm) ?_))))))))
  show a8 P _ (ss [.e 4 .add (.int 1)]) _ _ _ _ _ _ s
  refine gx (i:=0) rfl (ae (.int 1) rfl (lF (aw (aw (gO (jh ?_))))))
  have o:s[a.bk]?=QA (.dict (U3 p b a.td)):=k.get 7 rfl
  refine ax (bU rfl (cA (k.get 3 rfl)) rfl (aj (rS (aA (ay rfl o rfl rfl) (aA rfl (aA rfl (aA rfl rfl)))) k λz n=>aj (ae .none rfl (aE (tv (n.get 3 rfl) (⟨q4 0x70280461C9548100A rfl hm,DU 0x1C49502F9000644A0725520022818586A00D0081801902401060040 rfl ha hl hf hm⟩) (⟨RW 0x704C2051552040011 rfl,SD 0x1C49502F900064530814554800818586A00D0081801902401060040 rfl ha hl hf⟩) (q4 0x754C1051293081455481001C9548100A rfl hm) ?_))))))
  show a8 P _ (ss [.e 4 .add (.int 1)]) _ _ _ _ _ _ z
  refine gx (i:=1) rfl (ae (.int 1) rfl (lF (aw (aw (iW (aW (cU (ae (.c .eq au (.int 2)) (v:= .bool QD) rfl (iu rfl (vH (bh (ae _ (af (af rfl (n.get 3 rfl) rfl) (n.get 4 rfl) rfl) (ae RN rfl (Au (iu (iF rfl) (fR (aC (vs:=[.ref a.ma,.ref a.bk]) rfl (EB (i:=3) (n.swap [_,_,_] [_,_,_,_]) rfl hg ha hl hf ht λA D=>q A (D.swap [_,_,_,_] [_,_,_])))))))))))))))))))
 have u:pe P (.c .gt (.y .len (es [.sub RJ (.str 4)])) (.int 0)) [QA (.ref a.ma),QA (.ref a.bk),QA (.RT []),QC,QC,QC] Z=QA (.bool (decide ((0:Int)<b.now.length))):=aH (bF (ay rfl j rfl rfl)) rfl rfl
 rcases Nn b.now with e|⟨l,r,e⟩
 ·exact aO u (aS (by rw[e];decide)) (rest [])
 ·have B:(da b.now).getLast?=QA (gw r):=by rw[e];simp
  refine cL u (iF (by rw[e];simp)) (aV (v:= .RT r.data) (bp (bp (ay rfl j rfl rfl) rfl (eV B)) rfl rfl) (aw (rest r.data)))
end
end
section
section
theorem eW.store (L:eW p g b):Wj g.sl (g.uo-g.SO) g.ul=b.now.drop g.SO:=by
 have a:=L.Rm;have d:=L.bu
 unfold Wj
 split
 ·rename_i e
  have f:g.uo=b.now.length:=by
   rw[L.ul] at e
   have:=By List.length e
   rw[L3,MX] at this;exact SD 0x1882041882481021880400 rfl this (iS (RW 6598143901760 rfl a))
  rw[L.sl,L.full f]
 ·have c:(b.stored.drop g.SO).take (g.uo-g.SO)=(b.now.take g.uo).drop g.SO:=by rw[<- L.st,Py]
  rw[L.sl,L.ul,c]
  conv=>rhs;rw[<- Oi g.uo b.now]
  rw[List.drop_append_of_le_length (by rw[LY];exact SD 0x60080862042060040 rfl d (IS (RW 6598143901760 rfl a)))]
end
section
variable {b:BS}
theorem eW.Zn (L:eW p g b):nC (p.first+1+g.uo:Nat) g.ul:=by
 intro k r a
 rw[L.ul,NV] at a
 have:=L.Z0 _ r a
 exact bQ 0x724D50D5482481050055001C935520C2552041401540 rfl this
theorem wL (h:Holds (TZ a p g m b wl) Z) (L:eW p g b)
  (q: ∀RM,Holds (TZ a p (UO (TC g b) b (p.first+b.com) t) m (TJ p b t) wl) RM->Q .none RM):RL P (d+4) 121 [.ref a.lg,.ref a.st,.ref a.bk,.bool t] Q X Z:=by
 have f:=L.Rm;have c:=L.bu;have e:=L.Sy;have i:=L.ln;have j:=L.ls
 refine He h L.Zn c ?_ ?_ ?_ ?_ q
 ·rw[L.sl,L3];exact iK 0x601028620520C40620120C2060040 rfl e (iS (RW 6598143901760 rfl c)) (iS (SD 0x60080060081060040 rfl c e))
 ·rw[L.ul,L3];exact RW 0x603E8090041800041801902400 rfl i (Ot _ _)
 ·rw[L.sl,L3];exact RW 0x603E8090041800041801902400 rfl j (Ot _ _)
 ·rw[L.ul,L3];exact SD 0x62092001062092040 rfl (iS (RW 6598143901760 rfl f))
theorem qM (hk:SO<k) (hl:k<=b.now.length):gd (p.first+SO:Nat) TB (b.now.drop SO) (p.first+k:Nat) (Internal.R7 p b.now k):=by
 obtain⟨j,rfl⟩:=Ny hk
 have e:=Oe SO 1 j
 have c:SO+j<b.now.length:=bY (MB e.symm) hl
 have a:b.now[SO+j]?=QA b.now[SO+j]:=As c
 exact .inr ⟨j,b.now[SO+j],by rw[NV];exact a,by exact SD 0x1C935424C1051552040552482481050040 rfl,by rw[Po,e,cu a]⟩
theorem r4 (h:pe pr x Y Z=QA (.int u)) (h':pe pr y Y Z=QA (.int v)) (hv:0<v):pe pr (.b .mod x y) Y Z=QA (.int (u%v)):=aJ h h' (L6 hv)
noncomputable def VM (b:BS) (y:Nat):Nat:=b.SO+1+y%(b.UJ-b.SO)
def Tj (p:fQ) (g:GS) (b:BS) (k:Nat):GS:=
 {UO (TC g b) b (p.first+b.com) QD with si:=(p.first+k:Nat),sT:=(R7 p b.now k:Nat),Tz:=g.cv,sd:= .RT [],SO:=k,TB:=R7 p b.now k,sl:=b.now.drop k}
def Te (p:fQ) (b:BS) (k:Nat):BS:={TJ p b QD with SO:=k}
theorem Hf (h:Holds (TZ a p g m b wl) Z) (L:eW p g b) (hb:g.SO=b.SO) (hsb:b.SO<b.UJ) (hs:b.UJ<=b.now.length) (hsi:g.si<=(p.first+g.SO:Nat))
  (q: ∀RM,Holds (TZ a p (Tj p g b (VM b y)) m (Te p b (VM b y)) wl) RM->Q .none RM):RL P (d+5) 123 [.ref a.lg,.ref a.st,.ref a.bk,.int y] Q X Z:=by
 refine ao [QA (.ref a.lg),QA (.ref a.st),QA (.ref a.bk),QA (.int y),QC] rfl rfl (ax (aC (vs:=[.ref a.lg,.ref a.st,.ref a.bk,.bool QD]) rfl (wL h L λe n=>?_)))
 have x:=L.ln
 have z:=M6 y (show 0<b.UJ-b.SO from SD 0x1842010862052002061040 rfl hsb (iS (RW 6598143905856 rfl hsb)))
 have j:e[a.bk]?=QA (.dict (U3 p (TJ p b QD) a.td)):=n.get 7 rfl
 have c:VM b y=b.SO+1+y%(b.UJ-b.SO):=rfl
 generalize VM b y=k at c q
 have f:(y:Int)%((p.first+b.UJ:Nat)-(p.first+b.SO:Nat):Int)=(y%(b.UJ-b.SO):Nat):=by
  rw[show((p.first+b.UJ:Nat)-(p.first+b.SO:Nat):Int)=(b.UJ-b.SO:Nat) by exact bQ 0x1C95014552043552083862092040 rfl (iS (RW 6598143905856 rfl hsb)),Int.natCast_emod]
 have u:pe P (.b .mod RN (.b .sub (.sub ah (.str 12)) (.sub ah (.str 13)))) [QA (.ref a.lg),QA (.ref a.st),QA (.ref a.bk),QA (.int y),QC] e=QA (.int (y%(b.UJ-b.SO):Nat)):=by
  rw[<- f];exact r4 rfl (aJ (ay rfl j rfl rfl) (ay rfl j rfl rfl) rfl) (SD 0x1C54552002552042011061040 rfl hsb)
 refine aV (v:= .int (p.first+k:Nat)) (aJ (aJ (ay rfl j rfl rfl) rfl rfl) u ?_) ?_
 ·show QA (V.int (((p.first+b.SO:Nat):Int)+1+(y%(b.UJ-b.SO):Nat)))=_
  congr 2;exact bQ 0x1C954800D35424C1051552043862482481050040 rfl c
 have s:gd (p.first+g.SO:Nat) g.TB (b.now.drop g.SO) (p.first+k:Nat) (Internal.R7 p b.now k):=qM (bQ 0x61080862483481050042062040 rfl hb c) (Up 0x600440620121430624824810501440610C2060040 rfl hs z c (iS (RW 6598143905856 rfl hsb)))
 have l:Holds (Vu a p {UO (TC g b) b (p.first+b.com) QD with sl:=b.now.drop g.SO} (Su a p m (Uq a p (TJ p b QD) wl))) e:=by
  rw[<- L.store];exact n
 refine ax (ai rfl (l.get 0 rfl) rfl rfl (Lv (i:=(p.first+k:Nat)) l (by show g.si<_;exact IW 0x715520C22A18921120414010C1C1548008A062040 rfl hb hsi c) s λv SG o=>(ax (ai rfl (o.get 0 rfl) rfl rfl (Lw (i:=(p.first+k:Nat)) (a:=k-g.SO) o (by show _=((p.first+g.SO:Nat):Int)+_;exact bQ 0x1C93540552043552083862092040 rfl (iS (bQ 0x60080862483481050042062040 rfl hb c))) (iK 0x1844010862092004862483481050042062040 rfl hb c (iS (bQ 0x60080862483481050042062040 rfl hb c))) (by simp;exact RW 0x604813E8090001801902400 rfl x) s λSX r=>?_)))))
 rw[PA,show g.SO+(k-g.SO)=k by exact SD 0x62092001062092040 rfl (iS (bQ 0x60080862483481050042062040 rfl hb c))] at r
 exact d6 r 7 rfl rfl rfl rfl (aB rfl) λt w=>aw (q t w)
theorem fk {pr:gX} {cl:cw} {α:Type} {f g:α->V} {elt:E} {v:Nat} {Y:Env} {K:List V->H->Prop}: ∀(l:List α) (acc:List V) (Z:H),(∀x∈l,∀Z,Holds wl Z-> ∀Q:V->H->Prop,(∀RM,Holds wl RM->Q (g x) RM)->wE pr cl elt (Y.set v (QA (f x))) Q (λJ J=>False) Z)->Holds wl Z->
  (∀RM,Holds wl RM->K (acc++l.map g) RM)->
  iR (λY Q Z=>wE pr cl elt Y Q (λJ J=>False) Z) (λY Q Z=>jm pr cl .nil Y Q (λJ J=>False) Z) [v] Y (l.map f) acc K Z:=by
 intro l
 induction l with
 |nil=>intro acc Z a h q;exact(MC acc)▸q Z h
 |cons x t ih=>
  intro acc Z a h q
  refine a x (.head _) Z h _ λRM h'=>(ih (acc++[g x]) RM (λy d=>a y (.tail _ d)) h' λb c=>?_)
  have:=q b c
  simpa using this
theorem il {pr:gX} {cl:cw} {elt it:E} {xs:List Nat} {cond:Es} {Y:Env} {R3:Nat->H->Prop} (h:wE pr cl it Y (λv Z=> ∃vs,items v=QA vs/\
   iR (λY Q Z=>wE pr cl elt Y Q (λJ J=>False) Z) (λY Q Z=>jm pr cl cond Y Q (λJ J=>False) Z) xs Y vs [] (λr Z=>Q (.list r) Z) Z) R3 Z):wE pr cl (.p elt xs it cond) Y Q R3 Z:=h
end
end
section
noncomputable def VV (g:GS) (b:BS) (bf:Nat) (rows:List bG) (c:Nat):GS:={g with ul:=(b.now.take bf++rows).drop (min g.uo bf),uo:=min g.uo bf,com:=max g.com c}
def VU (b:BS) (bf:Nat) (rows:List bG) (term c:Nat):BS:=TF {b with now:=b.now.take bf++rows,term:=term} c
section
variable {p:fQ} {b:BS}
theorem pJ {l m:List α} {n:Nat} (h:n<=l.length):(l++m).drop n=l.drop n++m:=List.drop_append_of_le_length h
theorem eW.trunc (L:eW p g b) {bf:Nat} (YE:bf<=b.now.length):sS g.ul (p.first+1+g.uo:Nat) rows ((p.first+bf:Nat)+1) ((b.now.take bf++rows).drop (min g.uo bf)) (p.first+1+min g.uo bf:Nat):=by
 have a:=L.Rm
 by_cases c:g.uo<=bf
 ·rw[IS c]
  refine .inl ⟨bf-g.uo,bQ 0x1C935405520520414034C1051552083862092040 rfl (iS (RW 6598143901760 rfl c)),by rw[L.ul,L3];exact iK 0x601028620520C40620120C2060040 rfl YE (iS (RW 6598143901760 rfl c)) (iS (RW 6598143901760 rfl a)),?_,rfl⟩
  rw[pJ (by rw[LY];exact SD 0x60080862042060040 rfl c (IS (RW 6598143901760 rfl YE))),L.ul,<- Py]
 ·rw[O8 (by exact RW 6597086949440 rfl c)]
  refine .inr ⟨SD 0x705520120414024C1051552042063040 rfl c,?_,RW 0x724C1051552040552052041400 rfl⟩
  rw[pJ (by rw[LY];exact RW 6597095333952 rfl (IS (SD 0x60042063080060040 rfl a c))),NK (by rw[LY];exact RW 6598143901760 rfl (MW _ _))];rfl
theorem xD (YE:bf<=b.now.length) (UC:rows≠[]):fZ bi sl ((b.now.take bf++rows).drop (min uo bf)) (p.first+1+min uo bf:Nat) ((p.first+bf:Nat)+rows.length):=by
 have c:=M3.mpr UC
 have d:=Mm uo bf
 generalize min uo bf=mn at*
 have a:((b.now.take bf++rows).drop mn).length=bf+rows.length-mn:=by rw[L3,LU,LY,IS YE]
 refine .inr ⟨λe=>?_,?_⟩
 ·rw[e,MX] at a;exact bQ 0x8654800920438620C0401802041840010 rfl c d a (iS (SD 0x1812002041802041840010 rfl c d))
 ·rw[a];exact iK 0x725010514D5015481481050113543552084862483092040 rfl (iS (SD 0x1812002041802041840010 rfl c d))
end
section
variable {X:Nat->H->Prop}
abbrev yR:Ss:=ss [.a 6 (.sub RJ (.str 8)),
 .i (.c .gt RN (.int 0)) (ss [.a 6 (.sub (.sub (.sub RJ (.str 4)) (.b .sub RN (.int 1))) (.int 0))]) .nil,
 .a 7 (.b .add (.sub RJ (.str 0)) RN),
 .a 8 (.b .add (.sub RJ (.str 3)) (.b .mod (.b .fdiv ah (.int 2)) (.int 7))),
 .a 9 (.m aa 48 (es [a9,bj,aP,.p (.new 19 QD (es [.sub aM (.int 0),.sub aM (.int 1),.int 0,.sub aM (.int 2)])) [10] au .nil])),
 .C RJ (.str 4) (.b .add (.l (.sub RJ (.str 4)) .none RN) au),
 .expr (.call 119 (es [RJ,.y .min2 (es [aP,.b .add a9 (.y .len (es [au]))])])),
 .ret (.c .eq aR (.b .add a9 (.y .len (es [au]))))]
theorem C4 {α:Type} {f:α->V} {x y:List α} {Q:V->Prop} (h:x.length+y.length<=1000000) (q:Q (.list ((x++y).map f))):dm Z .add (.list (x.map f)) (.list (y.map f)) Q:=by
 rw[Mc] at q
 exact⟨_,_,rfl,rfl,by simpa using h,q⟩
theorem jS {y bf:Nat} {rows:List bG} {r:bG} {w5:Option V} (h:Holds (TZ a p g m b wl) Z) (L:eW p g b) (hr:rows.head?=QA r) (WM:nC (p.first+bf+1:Nat) rows) (YE:bf<=b.now.length) (hba:g.SO<=bf) (hgc:g.com=b.com) (hc:b.com<=bf)
  (Vh: ∀x,b.now[bf]?=QA x->x.tm≠r.tm) (Xc:rows.length<=50) (hf:p.first<50000)
  (q: ∀RM,Holds (TZ a p (VV g b bf rows (min (b.com+y/2%7) (bf+rows.length))) m (VU b bf rows b.term (min (b.com+y/2%7) (bf+rows.length))) wl) RM->Q (.bool QD) RM):
  a8 P (RL P (d+6)) yR (λJ Z=>Q .none Z) Q (λJ J=>False) (λJ J=>False) (λc J Z=>X c Z) [QA (.ref a.lg),QA (.ref a.bk),QA (.int y),QA (.int bf),QA (.list (da rows)),w5,QC,QC,QC,QC,QC] Z:=by
 have j:=L.ln
 refine H5 (HK p.first b.com y bf rows.length hc) λt n D t1 t2 M t4 ht G=>?_
 rw[<- D.o] at q
 have F:rows≠[]:=by intro e;rw[e] at hr;cases hr
 have U8:=M3.mpr F
 have o:Z[a.bk]?=QA (.dict (U3 p b a.td)):=h.get 7 rfl
 have W:rows[0]?=QA r:=by cases rows with|nil=>cases hr|cons x t=>exact hr
 have A:r.idx=p.first+bf+1:=Pd (WM 0 r W)
 have rest:a8 P (RL P (d+6)) (ss [.a 7 (.b .add (.sub RJ (.str 0)) RN),
 .a 8 (.b .add (.sub RJ (.str 3)) (.b .mod (.b .fdiv ah (.int 2)) (.int 7))),
 .a 9 (.m aa 48 (es [a9,bj,aP,.p (.new 19 QD (es [.sub aM (.int 0),.sub aM (.int 1),.int 0,.sub aM (.int 2)])) [10] au .nil])),
 .C RJ (.str 4) (.b .add (.l (.sub RJ (.str 4)) .none RN) au),
 .expr (.call 119 (es [RJ,.y .min2 (es [aP,.b .add a9 (.y .len (es [au]))])])),
 .ret (.c .eq aR (.b .add a9 (.y .len (es [au]))))]) (λJ Z=>Q .none Z) Q (λJ J=>False) (λJ J=>False) (λc J Z=>X c Z) [QA (.ref a.lg),QA (.ref a.bk),QA (.int y),QA (.int bf),QA (.list (da rows)),w5,QA (.int (R7 p b.now bf)),QC,QC,QC,QC] Z:=by
  refine aV (v:= .int (p.first+bf:Nat)) (aJ (ay rfl o rfl rfl) rfl rfl) (aV (v:= .int (p.first+t:Nat)) (aJ (w:= .int (p.first+t:Nat)) (ay rfl o rfl rfl) rfl ?_) ?_)
  ·exact By (λz=>QA (V.int z)) ht
  refine av (bU rfl (cA (h.get 1 rfl)) rfl (aj (ae a9 rfl (aj (ae bj rfl (aj (ae aP rfl (aj (il (ae au rfl ⟨_,rfl,?_⟩))))))))))
  refine fk (wl:=TZ a p g m b wl) (f:=gw) (g:=fW) rows [] Z (λx J RM h' Q' q'=>rS rfl h' q') h λR8 Y=>(aE (LF (index:=(p.first+bf:Nat)) (lt:=R7 p b.now bf) (cm:=(p.first+t:Nat)) (l:=rows) (r:=r) Y L.last (L.R7 hba YE) (λk r' s=>?_) hr ?_ (oR _) (oR _) (SD 0x70552042552002060040 rfl hba) (bQ 0x70552083552003060081062040 rfl hgc hc) (SD 0x70552042552002060040 rfl YE) (SD 0x7161A80345548008180190240106130D403402060040 rfl YE hf j) (L.trunc YE) (VK ‹_› rfl) (by rw[L.ul,L3];exact RW 0x603E8090041800041801902400 rfl j (Ot _ _)) (xD YE F) λE I=>?_))
  ·have:=WM k r' s;exact bQ 0x724D50D3041455482055001C93543552041412081540 rfl this
  ·by_cases c:bf<b.now.length
   ·have K:b.now[bf]?=QA b.now[bf]:=As c
    refine .inl ⟨R7 p b.now (bf+1),?_,?_⟩
    ·have:=L.R7 (i:=bf+1) (ME ‹_›) (PG ‹_›)
     rw[show(r.idx:Int)=((p.first+(bf+1):Nat):Int) by exact SD 0x72552481050081540062481050482040 rfl A];exact this
    ·rw[cu K]
     have:=Vh _ K
     exact λzh=>this (RW 0x62040072541540 rfl zh)
   ·refine .inr ⟨bQ 0x715405520C10640C2862481050482040 rfl A c,?_⟩
    have:=L.Rm
    rw[L.ul,L3];exact Up 0x1C150135445521520414010620D21440640C2862481050482040 rfl A c (iS (RW 6598143901760 rfl this))
  ·have S:max ((p.first+g.com:Nat):Int) (min ((p.first+t:Nat):Int) ((p.first+bf:Nat)+rows.length))=(p.first+max g.com n:Nat):=by rw[G,hgc,MZ M];exact M9 (MJ.mpr (BY M _))
   rw[S] at I
   have H:Holds (TZ a p (VV g b bf rows n) m b wl) E:=I
   have T:E[a.bk]?=QA (.dict (U3 p b a.td)):=H.get 7 rfl
   refine dZ (bz (bN (ay rfl T rfl rfl) (u:= .none) rfl (z:= .int bf) rfl (fy (a:=0) (b:=bf) rfl (bc rfl (RW 0x187B9ACA00150001801902401060040 rfl YE j)) ?_)))
   rw[NB]
   refine ae au rfl (C4 (by simp;exact SD 0x600F4240110480081801081801902401060C81400 rfl Xc j (Mm _ _)) (ae RJ rfl (ae (.str 4) rfl (d5 H 7 rfl rfl (aB rfl) λN h3=>?_))))
   have R:Holds (TZ a p (VV g b bf rows n) m {b with now:=b.now.take bf++rows} wl) N:=h3
   refine ax (iU (aj (ae RJ rfl (aj (cz (aj (ae aP rfl (aj (ae (v:= .int ((p.first+bf:Nat)+rows.length)) _ (aJ rfl (bF (l:=rows) (f:=gw) rfl) rfl) (aE (xx (aE (CI (t:=n) R (i:=7) rfl (q4 0x72552040281C9548100A rfl G) (by show b.com<=1000;exact SD 0x603E8090081801902401060002060040 rfl YE hc j) (bQ 0x603E80900C18120800C1801902401060C81402060040 rfl YE Xc j t4) λO h4=>(aW (bh (ae aR rfl (ae (v:= .int ((p.first+bf:Nat)+rows.length)) _ (aJ rfl (bF (l:=rows) (f:=gw) rfl) rfl) (Au ?_))))))))))))))))))
   rw[iF rfl]
   exact q O h4
 refine aV (ay rfl o rfl rfl) ?_
 by_cases e:bf=0
 ·refine aO (t:=decide ((0:Int)<bf)) rfl (aS (aX 0x1D15000441880400 rfl e)) ?_
  have B:R7 p b.now bf=p.U4:=by rw[R7,L6 e]
  rw[B] at rest
  exact rest
 ·have U:bf-1<b.now.length:=SD 0x61042062012041402060040 rfl YE (iS (aX 0x1800041401840010 rfl (Mk e)))
  have s:b.now[bf-1]?=QA b.now[bf-1]:=As U
  have B:R7 p b.now bf=(b.now[bf-1]).tm:=by
   have:=cu (p:=p) s
   rw[show bf-1+1=bf by exact RW 0x62052041400062052041400 rfl (iS (aX 0x1800041401840010 rfl (Mk e)))] at this
   exact this
  refine cL (t:=decide ((0:Int)<bf)) rfl (iF (aX 0x1C55000441840010 rfl (Mk e))) (aV (v:= .int (b.now[bf-1]).tm) (bp (bp (ay rfl o rfl rfl) (aJ rfl rfl rfl) (km (k:=bf-1) (RW 0x72540501051541862052041400 rfl (iS (aX 0x1800041401840010 rfl (Mk e)))) s)) rfl rfl) (aw ?_))
  rw[B] at rest
  exact rest
end
end
section
section
theorem ow (h:Holds wl Z) (i:Nat) (hi:wl[i]?=QA (x,.dict kvs)) (he:pe pr e Y Z=QA (.ref x)) (hk:fY kvs=QD) (hg:mv kvs n=QA (.int z))
  (q:wE pr cl w Y (λv Z=>kG op (.int z) v λu=>sO (λZ=>a8 pr cl r N R B C X Y Z) u (.ref x) (.str n) Z) (λc=>X c Y) Z):a8 pr cl (.cons (.D e (.str n) op w) r) N R B C X Y Z:=
 ae e he (ae (.str n) rfl ⟨⟨_,_,rfl,h.get i hi⟩,by
  unfold lV
  dsimp only
  rw[h.get i hi]
  exact⟨oM kvs n hk,_,(ua kvs n hk).trans hg,q⟩⟩)
def DY (Q:V->H->Prop) (r k:Nat) (u:V) (Z:H):Prop:=bS Z r=k/\match Z[r]? with
   |some (.list xs)=>xs.length<=1000000/\Q .none (Z.set r (.list (xs++[u])))
   |some (.SH b)=> ∃i,u= .int i/\0<=i/\i<256/\b.length<=1000000/\Q .none (Z.set r (.SH (b++[UInt8.ofNat i.toNat])))
   |_=>False
theorem uJ (he:pe pr e Y Z=QA (.ref x)) (hu:Z[x]?=QA (.list xs)) (h:wE pr cl e' Y (DY Q x 1) R3 Z):wE pr cl (.append e e') Y Q R3 Z:=
 ae e he ⟨x,1,rfl,by simp only[bS,hu],by decide,by decide,h⟩
theorem ES (h:Holds wl Z) (i:Nat) (hi:wl[i]?=QA (x,.list xs)) (hl:xs.length<=1000000) (q: ∀RM,Holds (wl.set i (x,.list (xs++[u]))) RM->Q .none RM):DY Q x 1 u Z:=by
 refine⟨by simp only[bS,h.get i hi],?_⟩
 rw[h.get i hi]
 exact⟨hl,q _ (h.set i hi)⟩
end
theorem eW.term (L:eW p g b) (t:Nat):eW p g {b with term:=t}:=⟨L.ul,L.Rm,L.Sy,L.sl,L.bu,L.st,L.full,L.TB,L.ln,L.ls,L.Z0,L.Xg⟩
theorem ZC.com {b:BS} {m:Nat} (A:ZC b.now b.ever m) (h:b.now.take b.com=b.ever.take b.com) (h1:b.com<=b.now.length) (h2:b.com<=b.ever.length):b.com<=m:=by
 rcases MT m b.com with c|c
 ·have a:b.now[m]?=QA (b.now[m]'(dO ‹_› ‹_›)):=As (dO ‹_› ‹_›)
  have d:=jj h c
  exact(A.ne _ _ a (d.symm.trans a) rfl).elim
 ·exact c
structure Bs (p:fQ) (b:BS) (bf:Nat) (rows:List bG) (T:Nat):Prop where
 ne:rows≠[]
 len:rows.length<=2
 le:bf<=b.now.length
 ev:b.ever.length<=bf
 t1:b.term<=T
 t2:T<=b.term+2
 cut:bf<b.now.length->b.term<T
 row: ∀(j:Nat) (r:bG),rows[j]?=QA r->r.idx=p.first+bf+j+1/\r.tm=T/\hF p r
section
theorem Hc {y:Nat} (h:Holds (TZ a p g m b wl) Z) (L:eW p g b) (hgc:g.com=b.com) (hag:b.now.take b.com=b.ever.take b.com) (hc1:b.com<=b.now.length) (hc2:b.com<=b.ever.length) (hbc:g.SO<=b.com) (Vi:nC (p.first+1:Nat) b.ever) (hle:b.ever.length<=40)
  (cs: ∀(i:Nat) x z,b.now[i]?=QA x->b.ever[i]?=QA z->x.tm=z.tm->x=z) (tn: ∀r∈b.now,r.tm<=b.term) (hf:p.first<50000) (RZ:p.RV<2^64)
  (qB: ∀n c RM,ZC b.now b.ever n->n<b.ever.length->c<=b.ever.length->Holds (TZ a p (VV g b n (b.ever.drop n) c) m (VU b n (b.ever.drop n) (b.term+1) c) wl) RM->Q (.bool QD) RM)
  (qA: ∀bf rows T c RM,ZC b.now b.ever b.ever.length->Bs p b bf rows T->c<=bf+rows.length->Holds (TZ a p (VV g b bf rows c) m (VU b bf rows T c) wl) RM->Q (.bool QD) RM):RL P (d+7) 120 [.ref a.lg,.ref a.bk,.int y] Q X Z:=by
 have t:Z[a.bk]?=QA (.dict (U3 p b a.td)):=h.get 7 rfl
 have Wx:=L.ln
 refine ao [QA (.ref a.lg),QA (.ref a.bk),QA (.int y),QC,QC,QC,QC,QC,QC,QC,QC] rfl rfl (av (aC (vs:=[.ref a.bk]) rfl (CH t λn A=>?_)))
 have Qt:=A.com hag hc1 hc2
 have YL:pe P (.c .lt RN (.y .len (es [.sub RJ (.str 6)]))) [QA (.ref a.lg),QA (.ref a.bk),QA (.int y),QA (.int n),QC,QC,QC,QC,QC,QC,QC] Z=QA (.bool (decide ((n:Int)<b.ever.length))):=aH rfl (bF (ay rfl t rfl rfl)) rfl
 by_cases c:n<b.ever.length
 ·refine cL YL (iF (Mo.mpr ‹_›)) (av (bN (ay rfl t rfl rfl) (u:= .int n) rfl (z:= .none) rfl (fy (a:=n) (bc rfl (RW 0x61EE6B28005401061001060A01400 rfl hle c)) (dD _) ?_)))
  rw[L5]
  refine ow h 7 rfl rfl rfl rfl (ae (.int 1) rfl (lF (d5 h 7 rfl rfl (aB rfl) λW F=>aw ?_)))
  have UD:Holds (TZ a p g m {b with term:=b.term+1} wl) W:=F
  have U:b.ever[n]?=QA b.ever[n]:=As c
  have K:(b.ever.drop n).length=b.ever.length-n:=L3 ..
  refine jS (bf:=n) (rows:=b.ever.drop n) (r:=b.ever[n]) UD (L.term _) (by rw[List.head?_drop];exact U) (λk r hk=>?_) A.la (bY ‹_› ‹_›) hgc Qt (λx Vn e=>?_) (SD 0x60C81401060002062081060A01400 rfl hle K (Ot _ _)) hf λSG I=>qB n _ SG A c (iK 0x601020621120C10604800C2062040 rfl K (Mm _ _) (iS (RW 6598143905856 rfl c))) I
  ·rw[NV] at hk
   have:=Vi _ r hk
   exact bQ 0x724D50D5481050482055001C935520C2552041401540 rfl this
  ·exact A.ne _ _ Vn U (cs n _ _ Vn U e)
 ·have hn:n=b.ever.length:=by have:=A.lb;exact L2 (RW 6598143901760 rfl this) (RW 6597086953536 rfl c)
  rw[hn] at A
  have hm3:=M6 y (show 0<3 by decide)
  refine oY YL (aS (RW 0x74541540064040 rfl c)) (av (cz (aj (ae RN rfl (aj (ae (v:= .int ((b.now.length:Int)-y%3)) _ (aJ (bF (ay rfl t rfl rfl)) rfl rfl) (aE (n3 ?_))))))))
  have ebf:max (n:Int) ((b.now.length:Int)-(y:Int)%3)=(max n (b.now.length-y%3):Nat):=HJ n b.now.length (y%3)
  rw[ebf]
  have VI:=A.la
  generalize YE:max n (b.now.length-y%3)=bf
  have Xy:bf<=b.now.length:=YE▸MA.mpr ⟨bY (MB hn) VI,Ot _ _⟩
  have Xz:n<=bf:=SD 0x60042060002062040 rfl YE (NH _ _)
  clear ebf YE hm3
  have aAh: ∀Z,Z[a.bk]?=QA (.dict (U3 p b a.td))->pe P (.c .lt RN (.y .len (es [.sub RJ (.str 4)]))) [QA (.ref a.lg),QA (.ref a.bk),QA (.int y),QA (.int bf),QC,QC,QC,QC,QC,QC,QC] Z=QA (.bool (decide ((bf:Int)<b.now.length))):=λZ t=>aH rfl (bF (ay rfl t rfl rfl)) rfl
  have rest: ∀(E:Nat) (Z:H),b.term<=E->E<=b.term+1->(bf<b.now.length->b.term<E)->Holds (TZ a p g m {b with term:=E} wl) Z->
    a8 P (RL P (d+6)) (ss [.D RJ (.str 7) .add (.b .mod (.b .fdiv ah (.int 3)) (.int 2)),
  .a 4 (.list QE .nil),
  .f [5] (.y .UQ (es [.b .add (.int 1) (.b .mod (.b .fdiv ah (.int 6)) (.int 2))])) (ss [.expr (.append au (.call 113 (es [RJ,.b .add (.b .add (.b .add (.sub RJ (.str 0)) RN) aI) (.int 1),.sub RJ (.str 7),.b .add (.b .fdiv ah (.int 18)) (.b .mul (.int 5) aI)])))]),
  .freeze 4]) (λY Z=>a8 P (RL P (d+6)) yR (λJ Z=>Q .none Z) Q (λJ J=>False) (λJ J=>False) (λc J Z=>X c Z) Y Z) Q (λJ J=>False) (λJ J=>False) (λc J Z=>X c Z) [QA (.ref a.lg),QA (.ref a.bk),QA (.int y),QA (.int bf),QC,QC,QC,QC,QC,QC,QC] Z:=by
   intro E Z ht1 ht2 ht3 h
   refine ow h 7 rfl rfl rfl rfl (ae (v:= .int ((y:Int)/3%2)) _ rfl (lF ?_))
   have hT:(E:Int)+(y:Int)/3%2=(E+y/3%2:Nat):=by exact rfl
   rw[hT]
   have hm2:=M6 (y/3) (show 0<2 by decide)
   generalize R:E+y/3%2=T
   have O:E<=T:=SD 0x60080062092040 rfl R
   have hT2:T<=E+1:=SD 0x60481050042862092001061081400 rfl hm2 R
   clear hT R hm2
   refine d5 h 7 rfl rfl (aB rfl) λW F=>?_
   have UD:Holds (TZ a p g m {b with term:=T} wl) W:=F
   refine av (dq UD λo SG I=>dh ?_)
   have ern:(1:Int)+(y:Int)/6%2=(1+y/6%2:Nat):=by exact rfl
   refine cz (aj (ae (v:= .int (1+(y:Int)/6%2)) _ rfl (aE ?_)))
   rw[ern]
   have turn: ∀(l:List bG) (j:Nat) (N B C:Env->H->Prop) (X':Nat->Env->H->Prop) (Z:H),j<10->l.length<=5->(∀k,X' k=λJ J=>False)->Holds ((o,.list (da l))::TZ a p g m {b with term:=T} wl) Z->
     (∀r RM,r.idx=p.first+bf+j+1->r.tm=T->hF p r->Holds ((o,.list (da (l++[r])))::TZ a p g m {b with term:=T} wl) RM->N [QA (.ref a.lg),QA (.ref a.bk),QA (.int y),QA (.int bf),QA (.ref o),QA (.int j),QC,QC,QC,QC,QC] RM)->
     a8 P (RL P (d+6)) (ss [.expr (.append au (.call 113 (es [RJ,.b .add (.b .add (.b .add (.sub RJ (.str 0)) RN) aI) (.int 1),.sub RJ (.str 7),.b .add (.b .fdiv ah (.int 18)) (.b .mul (.int 5) aI)])))]) N Q B C X' [QA (.ref a.lg),QA (.ref a.bk),QA (.int y),QA (.int bf),QA (.ref o),QA (.int j),QC,QC,QC,QC,QC] Z:=by
    intro l j N B C X' Z s ha hX h q
    have t:Z[a.bk]?=QA (.dict (U3 p {b with term:=T} a.td)):=h.get 8 rfl
    have M:pe P (.b .add (.b .add (.b .add (.sub RJ (.str 0)) RN) aI) (.int 1)) [QA (.ref a.lg),QA (.ref a.bk),QA (.int y),QA (.int bf),QA (.ref o),QA (.int j),QC,QC,QC,QC,QC] Z=QA (.int (p.first+bf+j+1:Nat)):=by
     have:=aJ (op:= .add) (aJ (op:= .add) (aJ (op:= .add) (ay (p:=P) (a:= RJ) (Y:=[QA (.ref a.lg),QA (.ref a.bk),QA (.int y),QA (.int bf),QA (.ref o),QA (.int j),QC,QC,QC,QC,QC]) (n:=0) rfl t rfl rfl) (b:= RN) rfl rfl) (b:= aI) rfl rfl) (b:= .int 1) rfl rfl
     exact this
    refine ax (uJ rfl (h.get 0 rfl) (iU (aj (ae RJ rfl (aj (ae _ M (aj (ae _ (ay rfl t rfl rfl) (aj (bz (ae (v:= .int ((y:Int)/18)) _ rfl (bz (ae (.int 5) rfl (ae (v:= .int j) aI rfl (BR (by decide) (⟨aX 0x715405BB9ACA00151 rfl,aX 0x1C7B9ACA00151540061281400 rfl s⟩) (fw (aE ?_)))))))))))))))))
    rw[show(y:Int)/18+5*(j:Int)=(y/18+5*j:Nat) by exact rfl]
    refine G7 (b:={b with term:=T}) (i:=8) h rfl RZ (bQ 0x6104009A48105048348200184A0500C180108180190240106130D403400 rfl hf Wx Xy s) λr M e2 ok SX w=>ES w 0 rfl (by simp;exact VK ‹_› rfl) λT6 h4=>aw (q r T6 e2 M ok ?_)
    rw[da,Mc];exact h4
   have fin: ∀(l:List bG) (w5:Option V) (Z:H),l≠[]->l.length<=2->(∀(j:Nat) (r:bG),l[j]?=QA r->r.idx=p.first+bf+j+1/\r.tm=T/\hF p r)->Holds ((o,.list (da l))::TZ a p g m {b with term:=T} wl) Z->
     a8 P (RL P (d+6)) (ss [.freeze 4]) (λY Z=>a8 P (RL P (d+6)) yR (λJ Z=>Q .none Z) Q (λJ J=>False) (λJ J=>False) (λc J Z=>X c Z) Y Z) Q (λJ J=>False) (λJ J=>False) (λc J Z=>X c Z) [QA (.ref a.lg),QA (.ref a.bk),QA (.int y),QA (.int bf),QA (.ref o),w5,QC,QC,QC,QC,QC] Z:=by
    intro l w5 Z UC hl Yn h
    refine cO h rfl λSX w=>aw ?_
    obtain⟨r0,hr0⟩: ∃r0,l[0]?=QA r0:=⟨l[0]'(M3.mpr UC),As _⟩
    refine jS (b:={b with term:=T}) (bf:=bf) (rows:=l) (r:=r0) w (L.term _) (by rw[List.head?_eq_getElem?];exact hr0) (λk r hk=>?_) Xy (bQ 0x600C00600C2060081060040 rfl hbc Qt Xz) hgc (by show b.com<=bf;exact SD 0x60080060081060040 rfl Qt Xz) (λx U e=>?_) (VK ‹_› rfl) hf λT6 h4=>
     qA bf l T _ T6 A ⟨UC,hl,Xy,SD 0x60081060080064040 rfl c Xz,SD 0x60080060081060040 rfl ht1 O,SD 0x60482050042060481050002060481050040 rfl ht2 hT2,λUU=>by have:=ht3 UU;exact SD 0x61042061002060040 rfl O this,Yn⟩ (SD 0x60482040060482040 rfl (Mm _ _)) h4
    ·have:=(Yn k r hk).1;exact bQ 0x1C93543552041412081540062481050483482040 rfl this
    ·have F:=tn x (MQ U)
     have I:=(Yn 0 r0 hr0).2.1
     have w:=ht3 (ba U)
     exact absurd (dO w O) (MN.mpr ((e.trans I)▸F))
   have S: ∀(r:bG) (l:List bG),(∀(j:Nat) (r:bG),l[j]?=QA r->r.idx=p.first+bf+j+1/\r.tm=T/\hF p r)->r.idx=p.first+bf+l.length+1->r.tm=T->hF p r->(∀(j:Nat) (G:bG),(l++[r])[j]?=QA G->G.idx=p.first+bf+j+1/\G.tm=T/\hF p G):=by
    intro r l ha F I w j G s
    rcases OM j l.length with c|c|c
    ·rw[Nj c] at s;exact ha j G s
    ·rw[c] at s ⊢
     rw[Na (AS _),Nat.sub_self] at s
     cases s
     exact⟨F,I,w⟩
    ·rw[Na (MK ‹_›)] at s
     rw[Mt (Nat.le_sub_of_add_le (NA .. ▸c))] at s;cases s
   have X1:=Nat.mod_two_eq_zero_or_one (y/6)
   rcases X1 with hc|hc
   ·rw[hc]
    refine⟨by decide,by decide,_,rfl,gO (turn [] 0 _ _ _ _ SG (by decide) (by simp) (λJ=>rfl) I λr SX M e2 ok w=>iW (fin [r] _ SX (by simp) (by simp) ?_ w))⟩
    exact S r [] (λj r s=>by simp at s) M e2 ok
   ·rw[hc]
    refine⟨by decide,by decide,_,rfl,gO (turn [] 0 _ _ _ _ SG (by decide) (by simp) (λJ=>rfl) I λr SX M e2 ok w=>?_)⟩
    have o1:=S r [] (λj r s=>by simp at s) M e2 ok
    refine gO (turn [r] 1 _ _ _ _ SX (by decide) (by simp) (λJ=>rfl) w λG T6 e1' e2' ok' h4=>iW (fin [r,G] _ T6 (by simp) (by simp) ?_ h4))
    exact S G [r] o1 e1' e2' ok'
  by_cases cb:bf<b.now.length
  ·exact cL (aAh Z t) (iF (Mo.mpr ‹_›)) (ow h 7 rfl rfl rfl rfl (ae (.int 1) rfl (lF (d5 h 7 rfl rfl (aB rfl) λW F=>aw (rest (b.term+1) W (LX _ _) (AS _) (λJ=>aX 6685133701120 rfl) F)))))
  ·exact aO (aAh Z t) (aS (RW 0x74541540064040 rfl cb)) (rest b.term Z (AS _) (LX _ _) (λh=>(cb h).elim) h)
end
end
section
def cg (p:fQ) (l:List bG):Prop:= ∀(i:Nat) (r:bG),l[i]?=QA r->r.idx=p.first+i+1/\r.tm<100000/\hF p r
theorem dj {l:List bG} {n:Nat} (h:l[n]?=QA r):l.take (n+1)=l.take n++[r]:=by rw[PF,h];rfl
theorem cH {l:List bG} (h:cg p l): ∀n,n<=l.length->q2 p n (R7 p l n) (run p (l.take n)):=λe=>e.rec (λJ=>q2.zero p) λn ih b=>by
  have a:l[n]?=QA l[n]:=As (RW 0x61040060052041400 rfl b)
  refine me (h n _ a) λc h2 d=>?_
  have:=(ih (N5 b)).step c d
  rw[dj a,dQ,cu a]
  exact this
noncomputable def tl:Nat->List (Option B8)->List (Nat×Option B8)
 |J,[]=>[]
 |n,x::r=>(n,x)::tl (n+1) r
theorem Ud:tl n (x::r)=(n,x)::tl (n+1) r:=rfl
theorem DD: ∀(l:List (Option B8)) (n:Nat),(tl n l).length=l.length:=λl=>l.rec (λJ=>rfl) λJ r ih n=>by rw[Ud,Mb,ih];rfl
theorem Bf: ∀(l:List (Option B8)) (n:Nat) (x:Option B8),tl n (l++[x])=tl n l++[(n+l.length,x)]:=λl=>l.rec (λJ J=>rfl) λy r ih n x=>by
  show(n,y)::tl (n+1) (r++[x])=_
  rw[ih (n+1) x,show n+1+r.length=n+(y::r).length by dsimp;exact RW 0x62492041401012052041400 rfl];rfl
theorem lX: ∀(l:List (Option B8)) (n i:Nat),RQ (tl n l) (n+i)=l[i]?:=by
 intro l
 induction l with
 |nil=>exact λJ J=>rfl
 |cons y r ih=>
  intro n i
  cases i with
  |zero=>rw[Ud];simp[RQ]
  |succ i=>
  have:=ih (n+1) i
  dsimp only[RQ] at this ⊢
  rw[Ud]
  rw[List.find?_cons_of_neg (by simp),show n+(i+1)=n+1+i by exact RW 0x62481481050012481050040 rfl,this];rfl
theorem DE: ∀(l:List (Option B8)) (n i:Nat) (x:Option B8),l[i]?=QA x->TA (tl n l) (n+i) x=tl n l:=by
 intro l n i x h
 have a:=lX l n i
 rw[h] at a
 have b:(tl n l).any (λp=>decide (p.1=n+i))=QD:=by
  delta RQ at a
  cases c:List.find? (λp=>decide (p.1=n+i)) (tl n l) with
  |none=>rw[c] at a;cases a
  |some q=>exact NP.mpr ⟨q,List.mem_of_find?_eq_some c,by have:=List.find?_some (p:=λp:Nat×Option B8=>decide (p.1=n+i)) c;exact this⟩
 delta TA
 rw[L6 b]
 have key: ∀(l:List (Option B8)) (n i:Nat),l[i]?=QA x->(tl n l).map (λp=>if p.1=n+i then(p.1,x) else p)=tl n l:=by
  intro l
  induction l with
  |nil=>intro n i h;simp at h
  |cons y r ih=>
   intro n i h
   rw[Ud]
   cases i with
   |zero=>
    have e:y=x:=by simpa using h
    have: ∀(r:List (Option B8)) (m:Nat),n<m->(tl m r).map (λp=>if p.1=n+0 then(p.1,x) else p)=tl m r:=by
     intro r
     induction r with
     |nil=>intro m _;rfl
     |cons z t ih=>intro m d;rw[Ud,L0,ih _ (by exact RW 0x61481050040061040 rfl d),L4 (by simp;exact Pt ‹_›)]
    rw[L0,this r (n+1) (aX 6685133701120 rfl),e];simp
   |succ i=>
    have:=ih (n+1) i (by exact h)
    rw[L0,show n+(i+1)=n+1+i by exact RW 0x62481481050012481050040 rfl,this,L4 (by simp;exact RW 0x865481481050000 rfl)]
 exact key l n i h
theorem DC (l:List (Option B8)) (n:Nat) (x:Option B8):TA (tl n l) (n+l.length) x=tl n (l++[x]):=by
 rw[Bf]
 have a:=lX l n l.length
 rw[Mt (AS _)] at a
 delta RQ at a
 simp only[Od,NR] at a
 delta TA
 rw[L4]
 intro h
 exact aU (NP.mp h) λq b e=>(a q b e)
theorem yq {l:List bG} (h:cg p l): ∀(k n:Nat),n<=k->k<=l.length->(run p (l.take k)).R5.take n=(run p (l.take n)).R5:=λg=>g.rec (λn b J=>by
  have:n=0:=L2 (aX 0x60010001800400 rfl b) (aX 25165840 rfl)
  subst this;rfl) λk ih n b a=>by
  have e:l[k]?=QA l[k]:=As (RW 0x61040060052041400 rfl a)
  have f:=(cH h k (N5 a)).rl
  rcases MT k n with c|c
  ·have:n=k+1:=L2 (RW 0x60481050040060481050040 rfl b) (RW 0x60052041400061040 rfl c)
   subst this
   have d:=(cH h (k+1) a).rl
   exact Nb (RW 0x60481050040062481050040 rfl d)
  ·rw[dj e,dQ]
   show((run p (l.take k)).R5++[_]).take n=_
   rw[M0 (by exact SD 0x60002060042862040 rfl f c)]
   exact ih n c (N5 a)
theorem AP {l:List bG} (h:cg p l): ∀(k n:Nat),n<=k->k<=l.length->(run p (l.take k)).TK.take (n+1)=(run p (l.take n)).TK:=λg=>g.rec (λn b J=>by
  have:n=0:=L2 (aX 0x60010001800400 rfl b) (aX 25165840 rfl)
  subst this;rfl) λk ih n b a=>by
  have e:l[k]?=QA l[k]:=As (RW 0x61040060052041400 rfl a)
  have f:=(cH h k (N5 a)).bl
  rcases MT k n with c|c
  ·have:n=k+1:=L2 (RW 0x60481050040060481050040 rfl b) (RW 0x60052041400061040 rfl c)
   subst this
   have d:=(cH h (k+1) a).bl
   exact Nb (RW 0x60481050481050040062481050481050040 rfl d)
  ·rw[dj e,dQ]
   show((run p (l.take k)).TK++[_]).take (n+1)=_
   rw[M0 (by exact SD 0x60012041402060042862481050040 rfl f c)]
   exact ih n c (N5 a)
theorem AQ {p:fQ} {l:List bG} (h:cg p l) {n k:Nat} {r:bG} (hr:l[n]?=QA r) (hk:n<k) (hl:k<=l.length):(run p (l.take k)).R5[n]?=QA (jN (run p (l.take n)).D (run p (l.take n)).s p.RV r.idx r.oc):=by
 have b:=yq h k (n+1) hk hl
 have c:(run p (l.take k)).R5[n]?=((run p (l.take k)).R5.take (n+1))[n]?:=by rw[MO (Ox n)]
 rw[c,b,dj hr,dQ]
 have a:=(cH h n (SD 0x60080060081061040 rfl hk hl)).rl
 show((run p (l.take n)).R5++[_])[n]?=_
 rw[Na (by exact RW 6598143909952 rfl a),a,Nat.sub_self];rfl
structure YC (p:fQ) (l:List bG) (n UJ:Nat) (m:MS):Prop where
 ap:m.ap=(p.first+n:Nat)
 tm:m.tm=(R7 p l n:Nat)
 D:m.D=(run p (l.take n)).D
 TK:m.TK=(run p (l.take n)).TK
 du:m.du=(p.first+UJ:Nat)
 kept:m.kept=(UJ+1:Nat)
end
section
section
variable {b:BS}
theorem Ic (q:Q (jr r) Z):RL P (d+1) 31 [fW r] Q X Z:=ao [QA (fW r)] rfl rfl (aN rfl q)
theorem mR: ∀l:List bG,ew (l.map jr) (l.map jr)=QD:=λl=>l.rec (rfl) λr t ih=>by
  show(UK (jr r) (jr r)&&ew (t.map jr) (t.map jr))=QD
  rw[ih];rfl
theorem qS: ∀l:List bG,TN.US (l.map jr)<=1:=λl=>l.rec (Mi _) λr t ih=>by
  show max (TN (jr r)) (TN.US (t.map jr))<=1
  have b:=ih
  have a:TN (jr r)=1:=rfl
  exact RW 0x60041401062001062041400 rfl a (N3 (RW 0x60040862041401060041400 rfl b a))
theorem oO (x y:Nat) (h:V.int x=V.int y):x=y:=Pd (V.int.inj h)
theorem nY (l:List (Nat×Option B8)) (x:Nat):ir (Fp l) (.int x):=xu (kf:=λ(n:Nat)=>V.int n) l x (λJ J=>rfl) (by show(2:Nat)≠0;decide)
abbrev x9:Ss:=ss [.a 8 (.m ah 53 (es [a9,.none])),
  .i (.and (es [.c .isin (.t a9 6) (.sub RN (.str 11)),.c .ne (.sub (.sub RN (.str 11)) (.t a9 6)) aP])) (ss [.k]) .nil,
  .C (.sub RN (.str 11)) (.t a9 6) aP,
  .C RN (.str 2) (.t a9 6)]
noncomputable def UR (p:fQ) (Tx n n0:Nat):Nat:=if p.sy=QD/\n0<n then n else Tx
theorem rY (YR:cg p b.ever) (hle:b.ever.length<=40) (RZ:p.RV<2^64) (hf:p.first<50000) (Tx n0:Nat): ∀(l:List bG) (n k:Nat) (m:MS) (Z:H) (w7 w8 w9:Option V),n0<=n->n<=k->k<=b.ever.length->n+l.length<=b.ever.length->
  (∀(i:Nat) r,l[i]?=QA r->b.ever[n+i]?=QA r)->YC p b.ever n (UR p Tx n n0) m->Holds (TZ a p g m {b with app:=n,told:=tl (p.first+1) (run p (b.ever.take k)).R5} wl) Z->
  (∀m' w7 w8 RM,YC p b.ever (n+l.length) (UR p Tx (n+l.length) n0) m'->Holds (TZ a p g m' {b with app:=n+l.length,told:=tl (p.first+1) (run p (b.ever.take (max k (n+l.length)))).R5} wl) RM->N [QA (.ref a.lg),QA (.ref a.st),QA (.ref a.ma),QA (.ref a.bk),QA x4,QA x5,QA x6,w7,w8,w9] RM)->
  TG (λN' B' C' Y Z=>a8 P (RL P (d+7)) x9 N' R B' C' (λJ J J=>False) Y Z) [7] (bA l) N [QA (.ref a.lg),QA (.ref a.st),QA (.ref a.ma),QA (.ref a.bk),QA x4,QA x5,QA x6,w7,w8,w9] Z:=by
 intro l
 induction l with
 |nil=>
  intro n k m Z w7 w8 w9 W X E h3 hi M h q
  rw[MX,Qd,N3 X] at q
  exact q m w7 w8 Z M h
 |cons r t ih=>
  intro n k m Z w7 w8 w9 W X E h3 hi M h q
  simp only[Mb] at h3 q
  have f:=hi 0 r rfl
  rw[Qd] at f
  refine me (YR n r f) λy r2 r3=>?_
  have j:n<b.ever.length:=ba f
  have I:=cH YR n (MK ‹_›)
  have I':=cH YR k E
  have e1:p.first+n+1=p.first+1+n:=RW 0x62481481050012041412040 rfl
  refine gO (av (ai rfl (h.get 3 rfl) rfl rfl (La (oc:=r.oc) (s:=(run p (b.ever.take n)).s) (h.swap [_,_,_] [_,_,_,_]) (by rw[M.ap];exact SD 0x724C1051552081540062481050482040 rfl y) r3.dat RZ (bQ 0x184100268206100306248105048304206130D403401060A01400 rfl hle hf y j) (dO ‹_› (aT rfl)) (by decide) (λc hc=>?_) (by rw[M.D];exact I.ses) ?_ (λt K=>?_) (by rw[M.D];have Uh:=I.len;exact SD 0x180FA024020604836410414020E10010E0A01400 rfl hle j Uh) (by rw[LZ,M.TK,I.bl];exact RW 0x180FA02412041401061001060A01400 rfl hle j) λVO L UD=>?_)))
  ·have cm:=r3.cm c hc
   refine⟨cm.kd,by rcases cm.key with e|e<;>rw[e]<;>decide,by have Zo:=cm.val;exact qX ‹_› rfl,λx hx=>by have v5v:=cm.ex x hx;exact qX ‹_› rfl,λo ho=>?_⟩
   rw[M.D] at ho
   have Uv:=I.old c.key o cm.key ho
   have Uw:=cm.val
   exact bQ 0x18419024120C20600814030600990420A10010A0A01400 rfl hle j Uv Uw
  ·exact⟨λt K=>by have Wf:=(I.Rl t K).1;exact bQ 0x184100268306048204306100206130D403401060A01400 rfl hle hf j Wf,λt K=>by have Ux:=(I.Rl t K).2;exact SD 0x18420024020604826410C14020A10010A0A01400 rfl hle j Ux⟩
  ·have YM:=(I.Rl t K).1;exact bQ 0x61003060482043862481050482040 rfl y YM
  have M':YC p b.ever (n+1) (UR p Tx (n+1) n0) ⟨r.idx,r.tm,if p.sy then(r.idx:Int) else m.du,if p.sy then(m.TK.map YJ).length+1 else m.kept,VO,R4 m.D (TY m.D (run p (b.ever.take n)).s p.RV r.idx r.tm l9 r.oc),m.TK++[TY m.D (run p (b.ever.take n)).s p.RV r.idx r.tm l9 r.oc]⟩:=by
   have T:(m.TK.map YJ).length=n+1:=by rw[LZ,M.TK,I.bl]
   refine⟨by show(r.idx:Int)=_;exact SD 0x72552481050081540062481050482040 rfl y,by show(r.tm:Int)=_;rw[cu f],?_,?_,?_,?_⟩
   ·rw[dj f,dQ,M.D];rfl
   ·rw[dj f,dQ,M.D,M.TK];rfl
   ·show(if p.sy then(r.idx:Int) else m.du)=_
    cases w:p.sy with
    |true=>rw[L6 rfl,UR,L6 ⟨w,RW 0x61481050040060040 rfl W⟩];exact SD 0x72552481050081540062481050482040 rfl y
    |false=>rw[L4 (by decide),M.du,UR,L4 (by simp[w]),UR,L4 (by simp[w])]
   ·show(if p.sy then((m.TK.map YJ).length:Int)+1 else m.kept)=_
    rw[T]
    cases w:p.sy with
    |true=>rw[L6 rfl,UR,L6 ⟨w,RW 0x61481050040060040 rfl W⟩];exact rfl
    |false=>rw[L4 (by decide),M.kept,UR,L4 (by simp[w]),UR,L4 (by simp[w])]
  have S:=UD.swap [_,_,_,_] [_,_,_]
  have D:m.TK.map YJ++[YJ (TY m.D (run p (b.ever.take n)).s p.RV r.idx r.tm l9 r.oc)]=(m.TK++[TY m.D (run p (b.ever.take n)).s p.RV r.idx r.tm l9 r.oc]).map YJ:=by simp
  rw[D] at S
  generalize Xa:MS.mk r.idx r.tm (if p.sy then(r.idx:Int) else m.du) (if p.sy then(m.TK.map YJ).length+1 else m.kept) VO (R4 m.D (TY m.D (run p (b.ever.take n)).s p.RV r.idx r.tm l9 r.oc)) (m.TK++[TY m.D (run p (b.ever.take n)).s p.RV r.idx r.tm l9 r.oc])=m' at M'
  have O:Holds (TZ a p g m' {b with app:=n,told:=tl (p.first+1) (run p (b.ever.take k)).R5} wl) L:=by
   rw[<- Xa];exact S
  clear S UD Xa
  generalize B:jN m.D (run p (b.ever.take n)).s p.RV r.idx r.oc=rep
  have U:L[a.bk]?=QA (.dict (U3 p {b with app:=n,told:=tl (p.first+1) (run p (b.ever.take k)).R5} a.td)):=O.get 7 rfl
  have gt:L[a.td]?=QA (.dict (Fp (tl (p.first+1) (run p (b.ever.take k)).R5))):=O.get 8 rfl
  have G:(tl (p.first+1) (run p (b.ever.take k)).R5).length<=100:=by rw[DD,I'.rl];exact RW 0x1801902401060001060A01400 rfl hle E
  have A:TA (tl (p.first+1) (run p (b.ever.take k)).R5) r.idx rep=tl (p.first+1) (run p (b.ever.take (max k (n+1)))).R5/\(RQ (tl (p.first+1) (run p (b.ever.take k)).R5) r.idx=QC\/RQ (tl (p.first+1) (run p (b.ever.take k)).R5) r.idx=QA rep):=by
   rw[y,e1]
   rcases MT n k with c|c
   ·have Q:=AQ YR f c E
    rw[<- M.D,B] at Q
    rw[N3 (PG ‹_›),DE _ _ _ _ Q,lX,Q]
    exact⟨rfl,.inr rfl⟩
   ·have ek:k=n:=L2 (RW 6598143901760 rfl c) (RW 6598143901760 rfl X)
    subst ek
    rw[MZ (ME ‹_›)]
    have Sj:=DC (run p (b.ever.take k)).R5 (p.first+1) rep
    rw[I.rl] at Sj
    refine⟨?_,.inl ?_⟩
    ·rw[Sj,dj f,dQ,<- B,M.D];rfl
    ·rw[lX,Mt (by rw[I.rl];assumption)]
  have go:a8 P (RL P (d+7)) (ss [.C (.sub RN (.str 11)) (.t a9 6) aP,
  .C RN (.str 2) (.t a9 6)]) (TG (λN' B' C' Y Z=>a8 P (RL P (d+7)) x9 N' R B' C' (λJ J J=>False) Y Z) [7] (bA t) N) R N (TG (λN' B' C' Y Z=>a8 P (RL P (d+7)) x9 N' R B' C' (λJ J J=>False) Y Z) [7] (bA t) N) (λJ J J=>False) [QA (.ref a.lg),QA (.ref a.st),QA (.ref a.ma),QA (.ref a.bk),QA x4,QA x5,QA x6,QA (fW r),QA (aY rep),w9] L:=by
   refine dZ (ae aP rfl (ae _ (ay rfl U rfl rfl) (ae (v:= .int r.idx) (.t a9 6) rfl (gr O 8 rfl (nY _ _) (by rw[LZ];exact bY G (by decide)) λSG h4=>?_))))
   rw[ik (kf:=λ(n:Nat)=>V.int n) (vf:=aY) oO,A.1] at h4
   have h5:Holds (TZ a p g m' {b with app:=n,told:=tl (p.first+1) (run p (b.ever.take (max k (n+1)))).R5} wl) SG:=h4
   refine d6 (u:= .int r.idx) h5 7 rfl rfl rfl rfl (aB rfl) λSX h6=>aw ?_
   rw[y] at h6
   refine ih (n+1) (max k (n+1)) m' SX _ _ _ (ME ‹_›) (RW 0x60052041400060052041400 rfl (N9 _ _)) (MA.mpr ⟨RW 6598143901760 rfl E,RW 0x60052041400061040 rfl j⟩) (SD 0x60092052041400060092481050040 rfl h3) (λi x hx=>?_) M' h6 λm'' w7 w8 T6 z h7=>?_
   ·rw[show n+1+i=n+(i+1) by rw[NT,NA 1]]
    exact hi (i+1) x hx
   ·rw[show n+1+t.length=n+(t.length+1) by rw[NT,NA 1]] at z h7
    rw[show max (max k (n+1)) (n+(t.length+1))=max k (n+(t.length+1)) by rw[Nat.max_assoc,MZ (BY (N0 1 _) n)]] at h7
    exact q m'' w7 w8 T6 z h7
  have F:T4 (Fp (tl (p.first+1) (run p (b.ever.take k)).R5)) (.int r.idx)=(RQ (tl (p.first+1) (run p (b.ever.take k)).R5) r.idx).map aY:=gj (kf:=λ(n:Nat)=>V.int n) (vf:=aY) oO _ _
  refine aK (cU (wA (k:= .int r.idx) rfl (ay rfl U rfl rfl) gt (nY _ _) ?_))
  rw[F]
  rcases A.2 with e|e
  ·rw[e]
   exact cI rfl ⟨QE,rfl,go⟩
  ·rw[e]
   refine iu rfl (fR (bh (nN (k:= .int r.idx) (ay rfl U rfl rfl) rfl gt (nY _ _) (by rw[F,e];rfl) (ae (v:=aY rep) aP rfl (lH rfl (gK _ _) (by rw[jl];decide) (cI rfl go))))))
end
end
section
def Cs (l m:List bG):Prop:= ∀(i:Nat) (x z:bG),l[i]?=QA x->m[i]?=QA z->x.tm=z.tm->x=z
structure oW (p:fQ):Prop where
 f0:0<p.first
 f1:p.first<20000
 t1:p.U4<600
 cl:p.RV<2^64
structure Ok (p:fQ) (g:GS) (m:MS) (b:BS) (k bd:Nat):Prop where
 L:eW p g b
 M:YC p b.ever b.app b.UJ m
 td:b.told=tl (p.first+1) (run p (b.ever.take k)).R5
 ak:b.app<=k
 ke:k<=b.ever.length
 rn:cg p b.now
 re:cg p b.ever
 rs:cg p b.stored
 tn: ∀r∈b.now,r.tm<=b.term
 te: ∀r∈b.ever,r.tm<=b.term
 ts: ∀r∈b.stored,r.tm<=b.term
 ln:b.now.length<=bd
 le:b.ever.length<=bd
 ls:b.stored.length<=bd
 tb:b.term<=600+3*bd
 bd:bd<=40
 c1:Cs b.now b.ever
 c2:Cs b.stored b.ever
 c3:Cs b.stored b.now
 fz: ∀(i:Nat) (r:bG),b.now.length<=i->b.stored[i]?=QA r->r.tm<b.term
 gb:g.SO=b.SO
 gc:g.com=b.com
 ga:g.app=b.app
 gh:g.hc=b.hd
 si:g.si<=(p.first+b.SO:Nat)
 o1:b.SO<=b.UJ
 o2:b.UJ<=b.app
 o3:b.app<=b.com
 o4:b.com<=b.now.length
 o5:b.com<=b.ever.length
 o6:b.app<=g.uo
 ag:b.now.take b.com=b.ever.take b.com
 h1:b.hd<=p.first+g.uo
 h2:b.hd<=p.first+b.com
 sy:p.sy=QD->b.UJ=b.app
theorem Cs.refl (l:List bG):Cs l l:=λi x z b a J=>by rw[b] at a;exact iN a
theorem cg.from (h:cg p l):nC (p.first+1:Nat) l:=λk r b=>by have a:=(h k r b).1;exact SD 0x1C93542552041401540062481050482040 rfl a
theorem cg.small (P0:oW p) (h:cg p l) (hl:l.length<=40): ∀r∈l,Small r:=λr g=>by
 obtain⟨i,a⟩:=NZ g
 refine me (h i r a) λd e f=>?_
 have b:=ba a
 have c:=P0.f1
 exact⟨e,bQ 0x6161A803401061138803402061003062481050483081060A01400 rfl hl d b c,f.len⟩
section
variable {d k bd:Nat}
theorem eW.stored (L:eW p g b) (t:Bool):eW p (UO (TC g b) b (p.first+b.com) t) (TJ p b t):=by
 have e:=L.bu;have h1:=L.Rm
 have a:UO (TC g b) b (p.first+b.com) t={UO (TC g b) b (p.first+b.com) t with sl:=b.now.drop g.SO,ul:=b.now.drop b.now.length,uo:=b.now.length,SO:=g.SO,TB:=Internal.R7 p b.now g.SO}:=by
  have c:=L.store
  have d:g.TB=Internal.R7 p b.now g.SO:=by rw[L.TB,<- cE (p:=p) L.st e]
  cases t<;>simp[UO,TC,c,d]
 rw[a]
 exact⟨rfl,AS _,AS _,rfl,by show g.SO<=b.now.length;exact bY ‹_› ‹_›,rfl,λJ=>rfl,rfl,L.ln,L.ln,L.Z0,L.Z0⟩
theorem Ok.stored (I:Ok p g m b k bd) (t:Bool):Ok p (UO (TC g b) b (p.first+b.com) t) m (TJ p b t) k bd where
 L:=I.L.stored t
 M:=I.M
 td:=I.td
 ak:=I.ak
 ke:=I.ke
 rn:=I.rn
 re:=I.re
 rs:=I.rn
 tn:=I.tn
 te:=I.te
 ts:=I.tn
 ln:=I.ln
 le:=I.le
 ls:=I.ln
 tb:=I.tb
 bd:=I.bd
 c1:=I.c1
 c2:=I.c1
 c3:=Cs.refl _
 fz:=λi r h1 h2=>absurd (ba h2) (MN.mpr h1)
 gb:=by cases t<;>exact I.gb
 gc:=by cases t<;>exact I.gc
 ga:=by cases t<;>exact I.ga
 gh:=by cases t with|false=>exact I.gh|true=>rfl
 si:=by cases t<;>exact I.si
 o1:=I.o1
 o2:=I.o2
 o3:=I.o3
 o4:=I.o4
 o5:=I.o5
 o6:=by have Zo:=I.o3;have v5v:=I.o4;cases t<;>(show b.app<=b.now.length;exact bY ‹_› ‹_›)
 ag:=I.ag
 h1:=by
  have a:=I.h1;have c:=I.L.Rm;have d:=I.o4
  cases t with
  |false=>show b.hd<=p.first+b.now.length;exact bQ 0x604830400600C2060482040 rfl a c
  |true=>show p.first+b.com<=p.first+b.now.length;exact SD 0x60481092002060040 rfl d
 h2:=by cases t with|false=>exact I.h2|true=>exact AS _
 sy:=I.sy
theorem EA (P0:oW p) (I:Ok p g m b k bd) (h:Holds (TZ a p g m b wl) Z)
  (q: ∀n m' b' k' RM,b'={TJ p b t with app:=n,told:=b'.told,UJ:=if p.sy then n else b.UJ}->Ok p {UO (TC g b) b (p.first+b.com) t with app:=n} m' b' k' bd->b.app<=n->(b.app<b.com->b.app<n)->Holds (TZ a p {UO (TC g b) b (p.first+b.com) t with app:=n} m' b' wl) RM->Q (.bool QD) RM):
  RL P (d+8) 122 [.ref a.lg,.ref a.st,.ref a.ma,.ref a.bk,.bool t] Q X Z:=by
 refine ao [QA (.ref a.lg),QA (.ref a.st),QA (.ref a.ma),QA (.ref a.bk),QA (.bool t),QC,QC,QC,QC,QC] rfl rfl (ax (aC (vs:=[.ref a.lg,.ref a.st,.ref a.bk,.bool t]) rfl (wL h I.L λR8 h1=>?_)))
 have j:=I.stored t
 have N:(UO (TC g b) b (p.first+b.com) t).uo=b.now.length:=by cases t<;>rfl
 generalize UO (TC g b) b (p.first+b.com) t=g1 at*
 have Ri:(TJ p b t).stored=(TJ p b t).now:=rfl
 have X5:(TJ p b t).now=b.now:=rfl
 have WR:(TJ p b t).com=b.com:=rfl
 have E:(TJ p b t).app=b.app:=rfl
 have aBU:(TJ p b t).UJ=b.UJ:=rfl
 generalize hbb:TJ p b t=b1 at*
 rw[<- X5] at N
 have z1:=j.o1;have z2:=j.o2;have z3:=j.o3;have z4:=j.o4;have z5:=j.o5;have z6:=j.o6;have W:=j.ln;have z8:=j.bd;have z9:=j.gb;have zz:=j.L.bu;have F:=j.gc;have M:=j.ga;have zl:=j.le;have zk:=j.ke;have zf:=P0.f1;have zp:=P0.f0
 have S:g1.sl=b1.now.drop g1.SO:=by rw[j.L.sl,Ri]
 have sm:=j.rn.small P0 (bY ‹_› ‹_›)
 obtain⟨x,V⟩:=Ny (show g1.SO<=b1.app from bQ 0x60083062003060081060040 rfl z1 z2 z9)
 obtain⟨w,hw⟩:=Ny (show g1.SO<=b1.com from bQ 0x60042862483080060040 rfl z3 V)
 have Tg:(g1.sl.take w).drop x=(b1.now.take b1.com).drop b1.app:=by
  rw[S,List.take_drop,PA,<- V,<- hw]
 refine av (ai rfl (Lg.of h1).l rfl rfl (G4 (a:=x) (b:=w) h1 j.L.last (iK 0x1C93543552084552004062483081062040 rfl M V) (iK 0x1C93543552084552004062483081062040 rfl F hw) (by rw[S,L3];exact iK 0x60103862052084862483080060040 rfl z4 hw (iS (SD 0x60042060002062040 rfl N zz))) (by rw[S,L3];exact SD 0x180FA02402060002060A01401060040 rfl W z8 (Ot _ _)) (λr hr=>sm r (by rw[S] at hr;exact Nt hr)) (iK 0x705520120414044C10515520C4062083060042862040 rfl N z4 F) (bQ 0x70552043552083062002060040 rfl z4 F) λSG h2=>?_))
 rw[Tg]
 refine av (aC (vs:=[.ref a.bk]) rfl (Ha (i:=7) h2 rfl sm (RW 0x180FA02400060A01401060040 rfl W z8) (SD 0x180FA02400060A01402060081060040 rfl z4 W z8) (bQ 0x180FA02400060A014030600C2060081060040 rfl z3 z4 W z8) λSX h3=>?_))
 obtain⟨c,s,c2,c3,-⟩:=lK p.most ((b1.now.take b1.com).drop b1.app) [] 0
 rw[OI] at c2
 rw[c2]
 have o:((b1.now.take b1.com).drop b1.app).length=b1.com-b1.app:=by rw[L3,LY,IS z4]
 rw[o] at s
 have T:(((b1.now.take b1.com).drop b1.app).take c).length=c:=by rw[LY,o,IS s]
 have Zt:b1.app<b1.com->0<c:=λz=>c3 (λe=>by rw[e,MX] at o;exact SD 0x21942481001842061880010 rfl o z (iS (RW 6598143905856 rfl z))) rfl
 clear o
 replace s:b1.app+c<=b1.com:=bQ 0x600D20020620D2081060040 rfl s (iS (RW 6598143901760 rfl z3))
 have hpg: ∀(i:Nat) (r:bG),(((b1.now.take b1.com).drop b1.app).take c)[i]?=QA r->b1.ever[b1.app+i]?=QA r:=λi r L=>by
  have C:=ba L
  rw[T] at C
  rw[MO C,NV] at L
  rw[j.ag] at L
  rw[MO (by exact bQ 0x610920C0061043060092040 rfl s C)] at L
  exact L
 generalize ((b1.now.take b1.com).drop b1.app).take c=pg at*
 refine aK (xZ (bh (il (ae aI rfl ⟨_,rfl,fk (wl:=TZ a p g1 m b1 wl) (f:=fW) (g:=jr) pg [] SX (λx J RM h' Q' q'=>ip (v:=fW x) rfl rfl rfl rfl (Ic (q' RM h'))) h3 λO h4=>?_⟩))))
 have vd:TN (.list (pg.map jr))<=20:=by
  have Ux:=qS pg
  show 1+TN.US (pg.map jr)<=20
  exact aX 0x60501412001050060041400 rfl Ux
 refine ae (v:= .list (pg.map jr)) bj rfl (lH rfl (mR pg) vd (cI rfl (xY (bh (ai rfl (Lg.of h4).l rfl rfl (CF (Lg.of h4) (iK 0x70552004552084862483081862040 rfl M V) ?_))))))
 have aAz:decide (((p.first+g1.app:Nat):Int)<(p.first+g1.com:Nat))=decide ((0:Int)<c):=by
  rw[decide_eq_decide]
  constructor
  ·intro z;have YM:=Zt (iK 0x610430715520045520848620C2062040 rfl F M z);exact aX 0x1C55000441840010 rfl YM
  ·intro z;exact Up 0x715520055520850715440110600521030620C2862040 rfl F M s z
 have aBA:pe P (.c .gt (.y .len (es [bj])) (.int 0)) [QA (.ref a.lg),QA (.ref a.st),QA (.ref a.ma),QA (.ref a.bk),QA (.bool t),QA (.list (bA pg)),QA (.list (pg.map jr)),QC,QC,QC] O=QA (.bool (decide ((0:Int)<c))):=by
  have X7:=aH (op:= .gt) (bF (Z:=O) (pr:=P) (l:=pg) (f:=jr) (e:= bj) (Y:=[QA (.ref a.lg),QA (.ref a.st),QA (.ref a.ma),QA (.ref a.bk),QA (.bool t),QA (.list (bA pg)),QA (.list (pg.map jr)),QC,QC,QC]) rfl) (b:= .int 0) rfl rfl
  rw[T] at X7
  exact X7
 rw[aAz]
 refine ae _ aBA (lH rfl rfl (aB rfl) (cI rfl ?_))
 have hMM:YC p b1.ever b1.app (UR p b1.UJ b1.app b1.app) m:=by
  rw[UR,L4 (λzh=>aX 409600 rfl zh.2)];exact j.M
 have h5:Holds (TZ a p g1 m {b1 with app:=b1.app,told:=tl (p.first+1) (run p (b1.ever.take k)).R5} wl) O:=by
  rw[<- j.td];exact h4
 refine dh (ae aI rfl ⟨_,rfl,rY (R:=Q) j.re (bY ‹_› ‹_›) P0.cl (dO ‹_› (aT rfl)) b1.UJ b1.app pg b1.app k m O _ _ _ (AS _) j.ak j.ke (iK 0x600521020620C40600120C2060040 rfl z5 s T) hpg hMM h5 λm' w7 w8 WL M' U=>?_⟩)
 rw[T] at M' U
 generalize u:b1.app+c=n at*
 have gb6:WL[a.bk]?=QA (.dict (U3 p {b1 with app:=n,told:=tl (p.first+1) (run p (b1.ever.take (max k n))).R5} a.td)):=U.get 7 rfl
 refine ax (ai rfl (Lg.of U).l rfl (aA (ay rfl gb6 rfl rfl) rfl) (Ex (i:=(p.first+n:Nat)) U (RW 0x1D40455481001840010 rfl zp) (bQ 0x70552003552083060042862040 rfl F s) (iK 0x705520C45520040620D2081062040 rfl M u) λXI h7=>?_))
 have A:Holds (TZ a p {g1 with app:=n} m' {b1 with app:=n,told:=tl (p.first+1) (run p (b1.ever.take (max k n))).R5} wl) XI:=h7
 have H: ∀(D:Nat),UR p b1.UJ n b1.app=D->b1.SO<=D->D<=n->(p.sy=QD->D=n)->Ok p {g1 with app:=n} m' {b1 with app:=n,told:=tl (p.first+1) (run p (b1.ever.take (max k n))).R5,UJ:=D} (max k n) bd:=λD G e2 e3 e4=>
  ⟨⟨j.L.ul,j.L.Rm,j.L.Sy,j.L.sl,j.L.bu,j.L.st,j.L.full,j.L.TB,j.L.ln,j.L.ls,j.L.Z0,j.L.Xg⟩,G▸M',rfl,N9 ..,MA.mpr ⟨j.ke,by show n<=b1.ever.length;exact SD 0x60042060002060040 rfl z5 s⟩,j.rn,j.re,j.rs,j.tn,j.te,j.ts,j.ln,j.le,j.ls,j.tb,j.bd,j.c1,j.c2,j.c3,j.fz,j.gb,j.gc,rfl,j.gh,j.si,e2,e3,by show n<=b1.com;exact RW 6598143901760 rfl s,j.o4,j.o5,by show n<=g1.uo;rw[N];exact SD 0x60042060002060040 rfl z4 s,j.ag,j.h1,j.h2,e4⟩
 have K:=A.get 3 rfl
 cases B:p.sy with
 |false=>
  have G:UR p b1.UJ n b1.app=b1.UJ:=by rw[UR,L4 (by simp[B])]
  refine aO (af rfl K rfl) B (aN rfl (q n m' _ (max k n) XI ?_ (H b1.UJ G z1 (bQ 0x600C00620D2081060040 rfl z2 u) (λh=>by rw[B] at h;cases h)) (bQ 0x600C10620D2080862040 rfl E u) (λz=>by have Sj:=Zt (bQ 0x610020610430620C2862040 rfl WR E z);exact bQ 0x18430418420100620D2080862040 rfl E u Sj) A))
  rw[L4 (by simp[B]),<- aBU]
 |true=>
  have G:UR p b1.UJ n b1.app=n:=by
   by_cases hc:0<c
   ·rw[UR,L6 ⟨B,SD 0x1842001841010062092040 rfl u hc⟩]
   ·rw[UR,L4 (λzh=>SD 0x1902001901010862092040 rfl u hc zh.2)]
    have We:=j.sy B
    exact L2 (bQ 0x600C00620D2081060040 rfl z2 u) (bQ 0x18030A18800C1901010862092040 rfl u hc We)
  have gb7:XI[a.bk]?=QA (.dict (U3 p {b1 with app:=n,told:=tl (p.first+1) (run p (b1.ever.take (max k n))).R5} a.td)):=A.get 7 rfl
  refine cL (af rfl K rfl) B (d6 A 7 rfl (ay rfl gb7 rfl rfl) rfl rfl (aB rfl) λYN h8=>aw (aN rfl (q n m' {b1 with app:=n,told:=tl (p.first+1) (run p (b1.ever.take (max k n))).R5,UJ:=n} (max k n) YN ?_ (H n G (iK 0x601000621120C2060081060040 rfl z1 z2 u) (AS _) (λJ=>rfl)) (bQ 0x600C10620D2080862040 rfl E u) (λz=>by have aB9:=Zt (bQ 0x610020610430620C2862040 rfl WR E z);exact bQ 0x18430418420100620D2080862040 rfl E u aB9) h8)))
  rw[L6 B]
end
end
section
theorem YC.ext {p:fQ} {l l':List bG} {n UJ:Nat} {m:MS} (M:YC p l n UJ m) (h:l'.take n=l.take n):YC p l' n UJ m:=
 ⟨M.ap,by rw[M.tm,cE (p:=p) h (AS _)],by rw[M.D,h],by rw[M.TK,h],M.du,M.kept⟩
theorem fO {l m:List bG} {n j:Nat} (h:l.take n=m.take n) (hj:j<=n):l.take j=m.take j:=by
 have:=By (List.take j) h
 rwa [Ob,Ob,IS hj] at this
theorem cg.take {p:fQ} {l:List bG} (h:cg p l) (n:Nat):cg p (l.take n):=λi r a=>by
 have:=ba a
 rw[LY] at this
 rw[MO (by exact SD 0x61080060081061040 rfl this (MW _ _))] at a
 exact h i r a
theorem Cs.take {l m:List bG} (h:Cs l m) (n:Nat):Cs l (m.take n):=λi x z b a e=>by
 have:=ba a
 rw[LY] at this
 rw[MO (by exact SD 0x61080060081061040 rfl this (MW _ _))] at a
 exact h i x z b a e
section
variable {d k bd:Nat}
theorem tr {now ever:List bG} {com:Nat} (hE:com<=ever.length->now.take com=ever.take com) (hE2:ever.length<com->now.take ever.length=ever):
  now.take com=(if ever.length<com then now.take com else ever).take com/\(if ever.length<com then now.take com else ever).take ever.length=ever:=by
 by_cases c:ever.length<com
 ·rw[L6 c,Ob,Qb,Ob,IS (MK ‹_›)]
  exact⟨rfl,hE2 c⟩
 ·rw[L4 c]
  exact⟨hE (RW 6597086953536 rfl c),L5⟩
theorem Ok.ZJ {Sk bf T c:Nat} {rows:List bG} (I:Ok p g m b k bd) (YE:bf<=b.now.length) (hc:b.com<=bf) (UC:rows≠[]) (hr:cg p (b.now.take bf++rows)) (ht: ∀r∈rows,r.tm<=T) (hT:b.term<=T) (hTb:T<=600+3*Sk) (hl:bf+rows.length<=Sk) (hb:bd<=Sk) (ZT:Sk<=40)
  (c1:Cs (b.now.take bf++rows) b.ever) (c3:Cs b.stored (b.now.take bf++rows)) (fz: ∀(i:Nat) (r:bG),(b.now.take bf++rows).length<=i->b.stored[i]?=QA r->r.tm<T) (hE:(b.now.take bf++rows).take b.ever.length=b.ever) (RZ:c<=bf+rows.length):
  Ok p (VV g b bf rows c) m (VU b bf rows T c) k Sk:=by
 have z1:=I.o1;have z2:=I.o2;have z3:=I.o3;have z4:=I.o4;have z5:=I.o5;have B:=I.o6;have C:=I.gb;have G:=I.h1;have D:=I.h2;have zu:=I.L.Rm;have zs:=I.L.Sy;have H:=I.le;have zst:=I.ls;have zak:=I.ak;have z:=I.ke
 have q:=M3.mpr UC
 have a:(b.now.take bf++rows).length=bf+rows.length:=by rw[LU,LY,IS YE]
 have E: ∀j,j<=bf->(b.now.take bf++rows).take j=b.now.take j:=λj o=>by
  rw[M0 (by rw[LY];exact SD 0x60080862042060040 rfl o (IS (RW 6598143901760 rfl YE))),Ob,IS o]
 generalize u:b.now.take bf++rows=XA at*
 have t:max b.com c<=XA.length:=MA.mpr ⟨bQ 0x18030218920810C1842010060040 rfl hc q a,bQ 0x600C0862482043060482040 rfl RZ a⟩
 have s:=tr (now:=XA) (ever:=b.ever) (com:=max b.com c) (λh=>fO (by rw[hE,L5]) h) (λJ=>hE)
 generalize d:(if b.ever.length<max b.com c then XA.take (max b.com c) else b.ever)=TS at s
 have x:VU b bf rows T c={b with now:=XA,term:=T,com:=max b.com c,ever:=TS}:=by rw[VU,TF];dsimp only;rw[u,d]
 have v:TS.length<=Sk/\b.ever.length<=TS.length/\max b.com c<=TS.length:=by
  rw[<- d]
  by_cases n:b.ever.length<max b.com c
  ·rw[L6 n,LY,IS t];exact⟨bY t (bQ 0x60083062481003060092040 rfl hl a),MK n,AS _⟩
  ·rw[L4 n];exact⟨SD 0x60042060002060040 rfl hb H,AS _,MN.mp n⟩
 have y:cg p TS:=by
  rw[<- d];split
  ·exact hr.take _
  ·exact I.re
 have f: ∀r∈XA,r.tm<=T:=λr hr=>by
  rw[<- u] at hr
  rcases Mq.mp hr with h|h
  ·exact bY (I.tn r (MR h)) hT
  ·exact ht r h
 have A: ∀j,j<=b.ever.length->TS.take j=b.ever.take j:=λj o=>fO (by rw[s.2,L5]) o
 have F:VV g b bf rows c={g with ul:=XA.drop (min g.uo bf),uo:=min g.uo bf,com:=max g.com c}:=by rw[VV,u]
 rw[x,F]
 have w:=I.L.TB
 exact {
  L:=⟨rfl,by show min g.uo bf<=XA.length;exact bY (Mm ..) (SD 0x18010A1892002041840010 rfl q a),by show min g.uo bf<=b.stored.length;exact bY (MW _ _) ‹_›,I.L.sl,by show g.SO<=min g.uo bf;exact Nat.le_min.mpr ⟨iK 0x600C40620040600C2060081060040 rfl z1 z2 B C,Up 0x600450620850600040601030600C2060040 rfl hc z1 z2 z3 C⟩,by
    show b.stored.take (min g.uo bf)=XA.take (min g.uo bf)
    rw[E _ (Mm ..)];exact fO I.L.st (MW ..),λh=>by have h':min g.uo bf=XA.length:=h;exact False.elim (bQ 0x18C20E18810E1892002041840010 rfl q a h' (Mm _ _)),w,by show XA.length<=100;exact bQ 0x1801902403062481003060A01402060092040 rfl hl ZT a,I.L.ls,hr.from,I.L.Xg⟩
  M:=I.M.ext (A _ (bY ‹_› ‹_›))
  td:=by show b.told=tl (p.first+1) (run p (TS.take k)).R5;rw[A k I.ke];exact I.td
  ak:=I.ak
  ke:=by show k<=TS.length;exact SD 0x60080060081060040 rfl z v.2.1
  rn:=hr
  re:=y
  rs:=I.rs
  tn:=f
  te:=λr hr=>by
   have l:r∈TS:=hr
   rw[<- d] at l
   split at l
   ·exact f r (MR l)
   ·exact bY (I.te r l) hT
  ts:=λr hr=>bY (I.ts r hr) hT
  ln:=by show XA.length<=Sk;exact bQ 0x60083062481003060092040 rfl hl a
  le:=v.1
  ls:=by show b.stored.length<=Sk;exact bY ‹_› ‹_›
  tb:=hTb
  bd:=ZT
  c1:=by
   show Cs XA TS
   rw[<- d];split
   ·exact(Cs.refl _).take _
   ·exact c1
  c2:=by
   show Cs b.stored TS
   rw[<- d];split
   ·exact c3.take _
   ·exact I.c2
  c3:=c3
  fz:=fz
  gb:=I.gb
  gc:=by show max g.com c=max b.com c;rw[I.gc]
  ga:=I.ga
  gh:=I.gh
  si:=I.si
  o1:=z1
  o2:=z2
  o3:=by exact bY z3 (NH ..)
  o4:=t
  o5:=v.2.2
  o6:=by show b.app<=min g.uo bf;exact Nat.le_min.mpr ⟨RW 6598143901760 rfl B,SD 0x60042060002060040 rfl hc z3⟩
  ag:=s.1
  h1:=by
   show b.hd<=p.first+min g.uo bf
   rcases OZ g.uo bf with e|e
   ·rw[IS e];exact G
   ·rw[O8 e];exact bY D (BY hc _)
  h2:=by exact bY D (BY (NH ..) _)
  sy:=I.sy}
theorem Ok.Vc {n c:Nat} (I:Ok p g m b k bd) (hb:bd+2<=40) (A:ZC b.now b.ever n) (hn:n<b.ever.length) (hc:c<=b.ever.length):Ok p (VV g b n (b.ever.drop n) c) m (VU b n (b.ever.drop n) (b.term+1) c) k (bd+2)/\(VU b n (b.ever.drop n) (b.term+1) c).now=b.ever/\(VU b n (b.ever.drop n) (b.term+1) c).ever=b.ever:=by
 have f:=A.com I.ag I.o4 I.o5
 have e:b.now.take n++b.ever.drop n=b.ever:=by rw[A.eq,Oi]
 have j:=I.le
 have d:=I.tb
 have hco:=I.o5
 refine⟨I.ZJ A.la f (λh=>by have:=By List.length h;rw[L3,MX] at this;exact SD 0x21941480081880402061040 rfl hn this (iS (RW 6598143905856 rfl hn))) (by rw[e];exact I.re) (λr a=>ME (I.te r (Nt a))) (NX _) (RW 0x604836520814012580904810500018120D9049602400 rfl d) (by rw[L3];exact bQ 0x604820500520830620120C2060040 rfl j (iS (RW 6598143905856 rfl hn))) (LX _ _) hb (by rw[e];exact Cs.refl _) (by rw[e];exact I.c2) (λi r J a=>OR (I.ts r (MQ a))) (by rw[e,L5]) (by rw[L3];exact bQ 0x604820C08620520C2060040 rfl hc (iS (RW 6598143905856 rfl hn))),e,?_⟩
 show(if b.ever.length<max b.com c then _ else b.ever)=b.ever
 rw[L4 (MN.mpr (MA.mpr ⟨bY f (MK hn),hc⟩))]
theorem Ok.Vb {bf T c:Nat} {rows:List bG} (I:Ok p g m b k bd) (hb:bd+2<=40) (A:ZC b.now b.ever b.ever.length) (F:Bs p b bf rows T) (hc:c<=bf+rows.length):Ok p (VV g b bf rows c) m (VU b bf rows T c) k (bd+2):=by
 have C:=I.ln;have t:=I.tb;have hco:=I.o5
 have l:=F.le;have q:=F.ev;have y:=F.len;have h4:=F.t1;have w:=F.t2
 have f: ∀(i:Nat) (x:bG),(b.now.take bf++rows)[i]?=QA x->(i<bf/\b.now[i]?=QA x)\/(bf<=i/\rows[i-bf]?=QA x):=λi x d=>by
  have o:(b.now.take bf).length=bf:=by rw[LY];exact RW 6735582863424 rfl (IS (RW 6598143901760 rfl l))
  rcases MT i bf with a|a
  ·rw[Nj (by exact SD 0x61002061042862040 rfl o a),MO a] at d
   exact .inl ⟨a,d⟩
  ·rw[Na (by exact SD 0x60080060081062040 rfl o a),o] at d
   exact .inr ⟨a,d⟩
 have u: ∀(i:Nat) (r:bG),bf<=i->b.stored[i]?=QA r->r.tm<T:=λi r s n=>by
  rcases MT bf b.now.length with a|a
  ·have:=F.cut a
   have:=I.ts r (MQ n)
   exact MU ‹_› ‹_›
  ·have:=I.fz i r (bY ‹_› ‹_›) n
   exact dO ‹_› ‹_›
 refine I.ZJ F.le (bY ‹_› ‹_›) F.ne (λi r s=>?_) (λr n=>?_) F.t1 (SD 0x604836520814012580900818120814000818120D9049602400 rfl t w) (bQ 0x604820500520C2060081403060002060040 rfl C l y) (LX _ _) hb (λi x z d v e=>?_) (λi x z d v e=>?_) (λi r s n=>u i r ?_ n) ?_ hc
 ·rcases f i r s with⟨_,h⟩|⟨hge,h⟩
  ·exact I.rn i r h
  ·exact me (F.row _ r h) λD E G=>(⟨iK 0x62481050484040062112083062481050483482040 rfl D (iS (RW 6598143901760 rfl hge)),bQ 0x18586A00D00C18820C18120814010818120D90096024010E0A01412081400 rfl hb t w E,G⟩)
 ·obtain⟨j,B⟩:=NZ n
  rw[(F.row j r B).2.1];exact AS _
 ·have o:=ba v
  rcases f i x d with⟨_,h⟩|⟨hge,h⟩
  ·exact I.c1 i x z h v e
  ·exact False.elim (SD 0x63081061002060040 rfl q o hge)
 ·rcases f i z v with⟨_,h⟩|⟨hge,h⟩
  ·exact I.c3 i x z d h e
  ·have l:=(F.row _ z h).2.1
   have q:=u i x hge d
   exact absurd (e.trans l) (OA q)
 ·rw[LU,LY] at s;exact bQ 0x600838620C0060092040 rfl s (IS (RW 6598143901760 rfl l))
 ·rw[M0 (by rw[LY];exact SD 0x60080862042060040 rfl q (IS (RW 6598143901760 rfl l))),Ob,IS q]
  have:=A.eq
  rw[L5] at this
  exact this
theorem Ok.commit {n to:Nat} (I:Ok p g m b k bd) (A:ZC b.now b.ever n) (h1:to<=b.now.length) (h2:to<=n\/n=b.ever.length):Ok p {g with com:=max g.com to} m (TF b to) k bd:=by
 have s:=A.com I.ag I.o4 I.o5
 have z3:=I.o3;have z4:=I.o4;have z5:=I.o5;have x:=I.h2;have y:=I.le;have zn:=I.ln;have q:=I.ke;have zak:=I.ak;have lb:=A.lb
 have i:=tr (now:=b.now) (ever:=b.ever) (com:=max b.com to) (λh=>fO A.eq (h2.elim (λa=>MA.mpr ⟨s,a⟩) λa=>a▸h)) (λh=>by
  have:n=b.ever.length:=h2.resolve_left λa=>absurd h (MN.mpr (MA.mpr ⟨bY s lb,bY a lb⟩))
  have e:=A.eq
  rw[this,L5] at e
  exact e)
 have t:max b.com to<=b.now.length:=MA.mpr ⟨z4,h1⟩
 generalize c:(if b.ever.length<max b.com to then b.now.take (max b.com to) else b.ever)=TS at i
 have o:TF b to={b with com:=max b.com to,ever:=TS}:=by rw[TF,c]
 have l:TS.length<=bd/\b.ever.length<=TS.length/\max b.com to<=TS.length:=by
  rw[<- c]
  by_cases d:b.ever.length<max b.com to
  ·rw[L6 d,LY,IS t];exact⟨bY t zn,MK d,AS _⟩
  ·rw[L4 d];exact⟨y,AS _,MN.mp d⟩
 have u: ∀j,j<=b.ever.length->TS.take j=b.ever.take j:=λj w=>fO (by rw[i.2,L5]) w
 have v: ∀r∈TS,r.tm<=b.term:=λr f=>by
  rw[<- c] at f
  split at f
  ·exact I.tn r (MR f)
  ·exact I.te r f
 rw[o]
 exact {
  L:=⟨I.L.ul,I.L.Rm,I.L.Sy,I.L.sl,I.L.bu,I.L.st,I.L.full,I.L.TB,I.L.ln,I.L.ls,I.L.Z0,I.L.Xg⟩
  M:=I.M.ext (u _ (bY ‹_› ‹_›))
  td:=by show b.told=tl (p.first+1) (run p (TS.take k)).R5;rw[u k I.ke];exact I.td
  ak:=I.ak
  ke:=by show k<=TS.length;exact SD 0x60080060081060040 rfl q l.2.1
  rn:=I.rn
  re:=by
   show cg p TS
   rw[<- c];split
   ·exact I.rn.take _
   ·exact I.re
  rs:=I.rs
  tn:=I.tn
  te:=v
  ts:=I.ts
  ln:=I.ln
  le:=l.1
  ls:=I.ls
  tb:=I.tb
  bd:=I.bd
  c1:=by
   show Cs b.now TS
   rw[<- c];split
   ·exact(Cs.refl _).take _
   ·exact I.c1
  c2:=by
   show Cs b.stored TS
   rw[<- c];split
   ·exact I.c3.take _
   ·exact I.c2
  c3:=I.c3
  fz:=I.fz
  gb:=I.gb
  gc:=by show max g.com to=max b.com to;rw[I.gc]
  ga:=I.ga
  gh:=I.gh
  si:=I.si
  o1:=I.o1
  o2:=I.o2
  o3:=by exact bY z3 (NH ..)
  o4:=by show max b.com to<=b.now.length;exact MA.mpr ⟨‹_›,‹_›⟩
  o5:=l.2.2
  o6:=I.o6
  ag:=i.1
  h1:=I.h1
  h2:=by exact bY x (BY (NH ..) _)
  sy:=I.sy}
theorem Ok.Xv {y:Nat} (I:Ok p g m b k bd) (hs:b.SO<b.UJ):Ok p (Tj p g b (VM b y)) m (Te p b (VM b y)) k bd:=by
 have c:=M6 y (show 0<b.UJ-b.SO from SD 0x1842010862052002061040 rfl hs (iS (RW 6598143905856 rfl hs)))
 have a:VM b y=b.SO+1+y%(b.UJ-b.SO):=rfl
 generalize VM b y=j at a
 have S:=I.stored QD
 have z2:=I.o2;have z3:=I.o3;have z4:=I.o4
 exact {S with
  L:=⟨S.L.ul,S.L.Rm,S.L.Sy,rfl,by show j<=b.now.length;exact F3 0x601C20621120C10601C60601850601440624804810500C2061040 rfl c a z2 z3 z4 (iS (RW 6598143905856 rfl hs)),S.L.st,S.L.full,rfl,S.L.ln,S.L.ls,S.L.Z0,S.L.Xg⟩
  gb:=rfl
  si:=by show((p.first+j:Nat):Int)<=(p.first+j:Nat);exact RW 0x70552040552040 rfl
  o1:=by show j<=b.UJ;exact iK 0x601020621120C10624804810500C2061040 rfl c a (iS (RW 6598143905856 rfl hs))}
theorem Ok.VH (I:Ok p g m b k bd):Ok p g (VH p b m) b k bd:=by
 have M:=I.M
 have z2:=I.o2;have z3:=I.o3
 have a:=(cH I.re b.app (by have:=I.o5;exact bY ‹_› ‹_›)).bl
 refine {I with M:=⟨rfl,by show((R7 p b.now b.app:Nat):Int)=_;rw[cE (p:=p) I.ag z3],M.D,M.TK,?_,M.kept⟩}
 show(if m.kept=m.TK.length then((p.first+b.app:Nat):Int) else min m.du (p.first+b.app:Nat))=_
 rw[M.kept,M.TK,a,M.du]
 by_cases c:b.UJ=b.app
 ·rw[L6 (by exact RW 0x72552041401552041400062040 rfl c),c]
 ·rw[L4 (by exact RW 0x875552041401552041400061040 rfl (Mx (RW 6598143901760 rfl z2) c))];exact Pj (MJ.mpr (BY z2 _))
theorem Ok.synced (I:Ok p g m b k bd):Ok p g {m with kept:=m.TK.length,du:=m.ap} {b with UJ:=b.app} k bd:=by
 have M:=I.M
 have a:=(cH I.re b.app (by have:=I.o5;have:=I.o3;exact bY ‹_› ‹_›)).bl
 have z1:=I.o1;have z2:=I.o2
 exact {I with
  M:=⟨M.ap,M.tm,M.D,M.TK,M.ap,by show(m.TK.length:Int)=_;rw[M.TK,a]⟩
  o1:=by show b.SO<=b.app;exact bY ‹_› ‹_›
  o2:=AS _
  sy:=λJ=>rfl
  L:=⟨I.L.ul,I.L.Rm,I.L.Sy,I.L.sl,I.L.bu,I.L.st,I.L.full,I.L.TB,I.L.ln,I.L.ls,I.L.Z0,I.L.Xg⟩}
end
end
section
section
variable {es:Es}
theorem wy {o1 o2:CO} (h:wE pr cl x Y (λu Z=>wE pr cl y Y (λv Z=>cP Z o1 u v λr=>match r with
   |true=>wE pr cl z Y (λx Z=>cP Z o2 v x λr=>Q (.bool r) Z) R3 Z
   |false=>Q (.bool QE) Z) R3 Z) R3 Z):wE pr cl (.d o1 o2 x y z) Y Q R3 Z:=h
def vC (d:Nat) (Q:V->H->Prop) (vs:List V) (Z:H):Prop:=RL P (d+1) 54 (.ref Z.length::vs) (λr RM=>r= .none/\Q (.ref Z.length) RM) (λJ J=>False) (Z++[.inst 24 []])
theorem xT (h:js P (RL P (d+1)) es Y (vC d Q) R3 Z):wE P (RL P (d+1)) (.new 24 QE es) Y Q R3 Z:=⟨54,rfl,h⟩
theorem tN (h:Holds wl Z) (q: ∀ma RM,Holds ((ma,oMa sr 0 0 [] 0 QE)::wl) RM->Q (.ref ma) RM):vC d Q [.ref sr] Z:=
 K7 (h.new _) λa b=>⟨rfl,q _ a b⟩
theorem xA {vs:List V} {i:Int} {k:Nat} {v:V} {Q:V->Prop} (e:i=k) (h:vs[k]?=QA v) (q:Q v):lV Z (.tup vs) (.int i) Q:=⟨k,v,kg e (ba h),h,q⟩
end
section
variable {d k bd:Nat}
theorem Ok.anew (I:Ok p g m b k bd) (hb:bd+2<=40) (h1:b.UJ<=n) (h2:n<=b.app) (M:YC p b.ever n n m'):
  Ok p {g with ul:=[],uo:=b.stored.length,com:=max (b.hd-p.first) n,app:=n} m' {b with now:=b.stored,com:=max (b.hd-p.first) n,app:=n,UJ:=n,term:=b.term+1} k (bd+2):=by
 have z1:=I.o1;have z2:=I.o2;have z3:=I.o3;have z4:=I.o4;have z5:=I.o5;have d:=I.o6;have e:=I.h1;have f:=I.h2;have c:=I.L.Sy;have zl:=I.ls;have j:=I.tb;have zak:=I.ak;have h:=I.le;have zu:=I.L.bu
 exact {
  L:=⟨by show []=b.stored.drop b.stored.length;rw[O9],AS _,AS _,I.L.sl,by show g.SO<=b.stored.length;exact bY ‹_› ‹_›,rfl,λJ=>rfl,I.L.TB,by show b.stored.length<=100;exact RW 0x1801902401060001060A01412081400 rfl hb zl,by show b.stored.length<=100;exact RW 0x1801902401060001060A01412081400 rfl hb zl,I.L.Xg,I.L.Xg⟩
  M:=M
  td:=I.td
  ak:=by show n<=k;exact bY ‹_› ‹_›
  ke:=I.ke
  rn:=I.rs
  re:=I.re
  rs:=I.rs
  tn:=λr a=>ME (I.ts r a)
  te:=λr a=>ME (I.te r a)
  ts:=λr a=>ME (I.ts r a)
  ln:=by show b.stored.length<=bd+2;exact RW 0x60482050040060040 rfl zl
  le:=by show b.ever.length<=bd+2;exact RW 0x60482050040060040 rfl h
  ls:=by show b.stored.length<=bd+2;exact RW 0x60482050040060040 rfl zl
  tb:=by show b.term+1<=_;exact RW 0x604836520814012580904810500018120D9049602400 rfl j
  bd:=hb
  c1:=I.c2
  c2:=I.c2
  c3:=Cs.refl _
  fz:=λi r h1 h2=>absurd (ba h2) (MN.mpr h1)
  gb:=I.gb
  gc:=rfl
  ga:=rfl
  gh:=I.gh
  si:=I.si
  o1:=by show b.SO<=n;exact bY ‹_› ‹_›
  o2:=AS _
  o3:=N9 ..
  o4:=by show max _ _<=b.stored.length;exact MA.mpr ⟨Nd.mpr (bQ 0x604830400600C2060482040 rfl e c),bQ 0x600C00600C2060081060040 rfl h2 d c⟩
  o5:=by show max _ _<=b.ever.length;exact MA.mpr ⟨Nd.mpr (bQ 0x604810C20604800C2060040 rfl z5 f),bQ 0x600C00600C2060081060040 rfl h2 z3 z5⟩
  o6:=by show n<=b.stored.length;exact bQ 0x600C00600C2060081060040 rfl h2 d c
  ag:=by
   show b.stored.take (max (b.hd-p.first) n)=b.ever.take (max (b.hd-p.first) n)
   rw[fO I.L.st (MA.mpr ⟨Nd.mpr e,bY h2 d⟩),fO I.ag (MA.mpr ⟨Nd.mpr f,bY h2 z3⟩)]
  h1:=by show b.hd<=p.first+b.stored.length;exact bQ 0x604830400600C2060482040 rfl e c
  h2:=by exact Nd.mp (NH ..)
  sy:=λJ=>rfl}
theorem pick (y s t:Nat) (h:s<=t): ∃n,s<=n/\n<=t/\(s:Int)+(y:Int)%((t:Int)-s+1)=n:=by
 have e:((t:Int)-s+1)=(t-s+1:Nat):=SD 0x1C95481050013041454541542862092040 rfl (iS (RW 6598143901760 rfl h))
 refine⟨s+y%(t-s+1),LX _ _,?_,by rw[e,<- Int.natCast_emod];rfl⟩
 have:=M6 y (Nat.succ_pos (t-s))
 generalize y%(t-s+1)=x at*
 exact bQ 0x18004830418520414020E1C95481050093041454541540 rfl e this
theorem EC {y:Nat} (P0:oW p) (I:Ok p g m b k bd) (Xz:bd+2<=40) (h:Holds (TZ a p g m b wl) Z)
  (q: ∀a' g' m' n RM,a'.st=a.st->a'.bk=a.bk->Ok p g' m' {b with now:=b.stored,com:=max (b.hd-p.first) n,app:=n,UJ:=n,term:=b.term+1} k (bd+2)->Holds (TZ a' p g' m' {b with now:=b.stored,com:=max (b.hd-p.first) n,app:=n,UJ:=n,term:=b.term+1} wl) RM->Q (.tup [.ref a'.ma,.ref a'.lg]) RM):
  RL P (d+9) 125 [.ref a.st,.ref a.ma,.ref a.bk,.int y] Q X Z:=by
 have z1:=I.o1;have z2:=I.o2;have z3:=I.o3;have z4:=I.o4;have z5:=I.o5;have C:=I.o6;have z8:=I.h1;have z9:=I.h2;have F:=I.L.Sy;have zl:=I.ls;have zt:=I.tb;have zak:=I.ak;have Xp:=I.le;have zu:=I.L.bu;have zf:=P0.f1;have zp:=P0.f0;have zbd:=I.bd;have E:=I.gb
 have M:=I.M
 refine kE (pick y b.UJ b.app (RW 6598143901760 rfl z2)) λn N s hn=>(FY (HI p.first b.hd n) λc H c1 c2 c3 aAx=>?_)
 have c4:c<=g.uo:=c3.elim (λe=>e▸bY s C) λe=>Nat.le_of_add_le_add_left (bY (MB e) z8)
 have q:=q (n:=n)
 rw[<- H.o] at q
 have R:=cH I.re b.app (SD 0x60080060081060040 rfl z3 z5)
 have O:=cH I.re n (by exact bQ 0x60083060003060081060040 rfl z3 z5 s)
 have Y:m.TK.length=b.app+1:=by rw[M.TK,R.bl]
 refine ao [QA (.ref a.st),QA (.ref a.ma),QA (.ref a.bk),QA (.int y),QC,QC] rfl rfl ?_
 have aAy:m.kept+(y:Int)%(m.TK.length-m.kept+1)=(n+1:Nat):=by
  rw[M.kept,Y,show((b.app+1:Nat):Int)-(b.UJ+1:Nat)+1=(b.app:Int)-b.UJ+1 by exact RW 0x724C1051515055013041454552041401552041400 rfl,Int.natCast_succ,Int.natCast_succ,<- hn];generalize (y:Int)%_=x;exact mC 0x724C10514CA5404CA4C1051540 rfl
 refine av (xT (aj (ai (af rfl (h.get 3 rfl) rfl) (h.get 4 rfl) rfl rfl (Lo (i:=4) (j:=6) h rfl rfl (λo ho=>?_) (iK 0x1807D024040624810500440600030600C2060081060A01412081400 rfl Xz C F zl Y) (by rw[M.kept,Y];exact RW 0x70552041401552041400060040 rfl z2) aAy λZm Ze Xr VO R8 h1=>?_))))
 ·rw[M.TK] at ho
  have:=R.ops o ho
  exact VK ‹_› rfl
 have eb1:m.TK.take (n+1)=(run p (b.ever.take n)).TK:=by rw[M.TK];exact AP I.re b.app n (RW 6598143901760 rfl s) (by exact SD 0x60080060081060040 rfl z3 z5)
 rw[eb1,<- O.rep] at h1
 refine aE (tN h1 λf SG h2=>?_)
 refine aG h2 0 rfl (af rfl (h2.get 7 rfl) rfl) rfl rfl (aB rfl) λSX h3=>?_
 have W:SX[a.bk]?=QA (.dict (U3 p b a.td)):=h3.get 11 rfl
 have e3:pe P (.b .add (.sub ah (.str 12)) (.b .mod RN (.b .add (.b .sub (.sub ah (.str 2)) (.sub ah (.str 12))) (.int 1)))) [QA (.ref a.st),QA (.ref a.ma),QA (.ref a.bk),QA (.int y),QA (.ref f),QC] SX=QA (.int (p.first+n:Nat)):=by
  refine aJ (ay rfl W rfl rfl) (r4 rfl (aJ (aJ (ay rfl W rfl rfl) (ay rfl W rfl rfl) rfl) rfl rfl) (SD 0x1C53041454552002552042011060040 rfl z2)) ?_
  show QA (V.int (((p.first+b.UJ:Nat):Int)+(y:Int)%(((p.first+b.app:Nat):Int)-(p.first+b.UJ:Nat)+1)))=_
  rw[show((p.first+b.app:Nat):Int)-(p.first+b.UJ:Nat)+1=(b.app:Int)-b.UJ+1 by exact SD 0x724C1051515095053041454552080552040 rfl,Og p.first n,<- hn]
  congr 2;generalize (y:Int)%_=x;exact q4 0x1C934CA5415404CA552040 rfl
 clear hn
 refine d6 h3 11 rfl e3 rfl rfl (aB rfl) λT6 h4=>?_
 have gb4:T6[a.bk]?=QA (.dict (U3 p {b with app:=n} a.td)):=h4.get 11 rfl
 refine d6 h4 11 rfl (ay rfl gb4 rfl rfl) rfl rfl (aB rfl) λWL h5=>?_
 have gb5:WL[a.bk]?=QA (.dict (U3 p {b with app:=n,UJ:=n} a.td)):=h5.get 11 rfl
 refine d6 h5 11 rfl (ay rfl gb5 rfl rfl) rfl rfl (aB rfl) λXI h6=>?_
 have w:XI[a.bk]?=QA (.dict (U3 p {b with app:=n,UJ:=n,now:=b.stored} a.td)):=h6.get 11 rfl
 refine dZ (cz (aj (ae _ (ay rfl w rfl rfl) (aj (ae _ (ay rfl w rfl rfl) (aE (n3 ?_)))))))
 rw[aAx]
 refine ae ah rfl (ae (.str 3) rfl (d5 h6 11 rfl rfl (aB rfl) λYN h7=>(ow h7 11 rfl rfl rfl rfl (ae (.int 1) rfl (lF (d5 h7 11 rfl rfl (aB rfl) λQi h8=>?_))))))
 generalize u:({b with now:=b.stored,com:=c,app:=n,UJ:=n,term:=b.term+1}:BS)=b' at q
 have h8':Holds (mb f Zm Ze Xr 0 0 [] 0 p.sy (n+1:Nat) VO (run p (b.ever.take n)).D ((run p (b.ever.take n)).TK.map YJ) (Vu a p g (Su a p m (Uq a p b' wl)))) Qi:=by
  rw[<- u];exact h8
 clear h8 h7 h6 h5 h4 h3 h2 h1
 have U:b'.now=b.stored:=by rw[<- u]
 have t:b'.app=n:=by rw[<- u]
 have T:R7 p b'.now b'.app=R7 p b.ever n:=by
  rw[U,t,cE (p:=p) I.L.st (by exact SD 0x60042060002060040 rfl C s),cE (p:=p) I.ag (by exact SD 0x60042060002060040 rfl z3 s)]
 have Ys:R7 p b.ever n<100000:=by
  unfold R7
  split
  ·have:=P0.t1;exact dO ‹_› (aT rfl)
  ·split
   ·rename_i r hr
    exact(I.re _ r hr).2.1
   ·decide
 let a':Ad:={a with ma:=f,sr:=Zm,nw:=Ze,bt:=Xr}
 let m0:MS:=⟨0,0,0,(n+1:Nat),VO,(run p (b.ever.take n)).D,(run p (b.ever.take n)).TK⟩
 refine aK (xZ (eQ (aC (vs:=[.ref f,.ref a.bk]) rfl (EB (a:=a') (m:=m0) (b:=b') (i:=7) h8' rfl (by rw[T,t];exact O.app) (by rw[U,t];exact bQ 0x60083060003060081060040 rfl C F s) (by rw[U];exact RW 0x1801902401060001060A01412081400 rfl Xz zl) (dO ‹_› (aT rfl)) (by rw[T];exact Ys) λl J=>(⟨QD,rfl,cI rfl (xY (eQ ?_))⟩)))))
 have G:YC p b.ever n n (VH p b' m0):=by
  refine⟨by show((p.first+b'.app:Nat):Int)=_;rw[t],by show((R7 p b'.now b'.app:Nat):Int)=_;rw[T],rfl,rfl,?_,rfl⟩
  show(if((n+1:Nat):Int)=((run p (b.ever.take n)).TK.length:Nat) then((p.first+b'.app:Nat):Int) else _)=_
  rw[O.bl,L6 rfl,t]
 have I':=I.anew Xz (by exact RW 6598143901760 rfl N) (by exact RW 6598143901760 rfl s) G
 generalize hm1:VH p b' m0=m1 at*
 rw[<- H.o,u] at I'
 have z:l[a.bk]?=QA (.dict (U3 p b' a.td)):=J.get 11 rfl
 have A:=J.get 4 rfl
 have aBF:b'.SO=b.SO:=by rw[<- u]
 have S:g.sl.length+g.SO=b.stored.length:=by rw[I.L.sl,L3];exact iS (SD 0x60042060002060040 rfl F zu)
 refine wy (ae _ (ay rfl z rfl rfl) (ae _ (af rfl (J.get 0 rfl) rfl) (EY ?_)))
 rw[G.ap,aBF,iF (by exact bQ 0x70552083552003060081060040 rfl z1 N)]
 refine ai rfl A rfl rfl (BH A (EY ?_))
 rw[iF (by exact H9 0x1C135445521465520C6862092144060003060081060040 rfl C F s S)]
 refine⟨QD,rfl,cI rfl ?_⟩
 have Wr:Holds (Vu a p g (Su a' p m1 (Uq a p b' wl))) l:=by
  have h10:Holds (Su a' p m1 (Vu a p g (Su a p m (Uq a p b' wl)))) l:=J
  exact((h10.swap [_,_,_,_] [_,_,_]).swap [_,_,_,_,_,_,_] [_,_,_,_]).drop [_,_,_,_]
 have ha2:Holds ((a.st,XB (UL g.ht g.hv g.hc) g.cv (VG g.si g.sT g.Tz g.sd) (p.first+g.SO:Nat) g.TB g.sl)::Su a' p m1 (Uq a p b' wl)) l:=(Wr.swap [_] [_,_]).drop [_,_]
 refine av (BV (most:=p.most) (aA rfl (aA (ay rfl z rfl rfl) rfl)) ha2 λlg' un' μa B=>?_)
 have aBC:((p.first+g.SO:Nat):Int)+g.sl.length+1=(p.first+1+b.stored.length:Nat):=bQ 0x1C954824810500D3041453540552043062092040 rfl S
 rw[aBC] at B
 have VI:fZ (p.first+g.SO:Nat) g.sl [] (p.first+1+b.stored.length:Nat) (p.first+b.stored.length:Nat):= .inl ⟨rfl,bQ 0x1C93540552043552083862092040 rfl S⟩
 refine ax (bU rfl (cA (B.get 1 rfl)) rfl (aj (cz (aj (rt (tf (ai rfl (B.get 0 rfl) rfl rfl (It B (B.get 0 rfl) (λv μb K=>?_) (λμb K=>K.get 0 rfl)))))))))
 refine ae (.int 0) rfl (xA (k:=0) rfl rfl ⟨_,rfl,?_⟩)
 refine aj (ae _ (af rfl (K.get 3 rfl) rfl) (aE (n3 (aE ?_))))
 have hgh:=I.gh
 have ei:max (g.hc:Int) m1.ap=(p.first+c:Nat):=by rw[G.ap,hgh];assumption
 rw[ei]
 refine zU K VI (bQ 0x70552043552083060002060040 rfl F c4) λμc L=>?_
 have H:max ((p.first+g.SO:Nat):Int) (p.first+c:Nat)=(p.first+c:Nat):=M9 (MJ.mpr (BY (bY (MB E) (bY z1 (bY N c1))) _))
 rw[H] at L
 refine ax (ai rfl (L.get 1 rfl) rfl (aA (af rfl (L.get 3 rfl) rfl) rfl) ?_)
 rw[G.ap]
 exact Ex L (RW 0x1D40455481001840010 rfl zp) (SD 0x70552042552002060040 rfl c1) (iK 0x705520C45520840600C1062002060040 rfl z1 E N) λμd hd=>(aN rfl (q {a' with lg:=lg',un:=un'} {g with ul:=[],uo:=b.stored.length,com:=c,app:=n} m1 μd rfl rfl I' hd))
end
end
section
abbrev ND:=List (B8×Option B8)
structure PS where
 nd:ND
 s:o9
 R5:List (Option B8)
def UG (nd:ND) (c:md):ND×Nat×Option B8:=
 if 0<c.kd/\c.kd<5 then
  if c.kd=3/\(RQ nd c.key).join≠c.ex then(nd,1,(RQ nd c.key).join)
  else if c.kd=4/\(RQ nd c.key).join≠ .none then(TA nd c.key (QA ((RQ nd c.key).join.getD []++c.val)),0,(RQ nd c.key).join)
  else if c.kd=2 then(TA nd c.key .none,0,(RQ nd c.key).join)
  else(TA nd c.key (QA c.val),0,(RQ nd c.key).join)
 else(nd,0,.none)
abbrev AN (e:ND×Nat×Option B8):B8:=UInt8.ofNat e.2.1::SU e.2.2
def TX (z:PS) (r:bG):PS:=
 match r.oc with
 | .none=>{z with R5:=z.R5++[.none]}
 |some c=>if c.kd=5\/bX z.s=QD then⟨(UG z.nd c).1,QA (r.idx,!(c.kd==6),AN (UG z.nd c)),z.R5++[QA (AN (UG z.nd c))]⟩ else {z with R5:=z.R5++[QA [2,0]]}
def jI (l:List bG):PS:=l.foldl TX ⟨[],.none,[]⟩
theorem u6 (l:List bG) (r:bG):jI (l++[r])=TX (jI l) r:=by(rw[jI,OT];exact rfl)
def VQ (ks:List B8):Prop:=ks=[]\/ks=[[]]\/ks=[[107]]\/ks=[[],[107]]\/ks=[[107],[]]
theorem VQ.put (h:VQ ks) (hk:k=[]\/k=[107]):VQ (if k∈ks then ks else ks++[k]):=by
 unfold VQ at*
 rcases h with rfl|rfl|rfl|rfl|rfl<;>rcases hk with rfl|rfl<;>decide
theorem VQ.del (h:VQ ks) (hk:k=[]\/k=[107]):VQ (ks.filter λx=> ¬(x=k)):=by
 unfold VQ at*
 rcases h with rfl|rfl|rfl|rfl|rfl<;>rcases hk with rfl|rfl<;>decide
section
variable [DecidableEq α]
theorem fu (m:List (α×β)) (x:α) (v:β):(TA m x v).map (·.1)=if x∈m.map (·.1) then m.map (·.1) else m.map (·.1)++[x]:=by
 have h:m.any (λp=>decide (p.1=x))=QD↔x∈m.map (·.1):=by simp
 delta TA
 by_cases c:x∈m.map (·.1)
 ·rw[L6 c,L6 (h.mpr c),Nz]
  refine Ng λp J=>?_
  show(if p.1=x then(p.1,v) else p).1=p.1
  split<;>rfl
 ·rw[L4 c,L4 (λh'=>c (h.mp h'))];simp
theorem uN (m:List (α×β)) (x:α):(j3 m x).map (·.1)=(m.map (·.1)).filter λy=> ¬(y=x):=by
 rw[PY];rfl
theorem lp (m:List (α×β)) (x:α):(RQ m x).isSome=QD↔x∈m.map (·.1):=by
 delta RQ
 rw[Option.isSome_map,List.find?_isSome]
 simp
theorem gP (m:List (α×β)) (h:x∉m.map (·.1)):RQ m x=QC:=by
 cases e:RQ m x with
 |none=>rfl
 |some v=>exact(h ((lp m x).mp (by rw[e];rfl))).elim
end
def Shape (cl:Nat) (D:BD) (s:o9):Prop:= ∃ks,VQ ks/\D.map (·.1)=[97]::(match s with| .none=>[]|some J=>TO cl::ks.map RY)
theorem kU:RY a=RY b↔a=b:=⟨λh=>(Ou h).2,λh=>by rw[h]⟩
theorem lL {ks:List B8}:RY k∈ks.map RY↔k∈ks:=by
 constructor
 ·intro h
  refine aU (L8.mp h) λx hx e=>?_
  rw[kU] at e;rwa [<- e]
 ·exact λh=>L8.mpr ⟨k,h,rfl⟩
theorem yx {cl:Nat} {D:BD} {t:Nat×Bool×B8} {o:Op} (h:Shape cl D (QA t)) (ho:o.2.1=RY key) (hk:key=[]\/key=[107]):Shape cl (bI D o) (QA t):=by
 refine aU h λf d j=>?_
 have b:D.map (·.1)=[97]::TO cl::f.map RY:=j
 delta bI
 split
 ·refine⟨_,d.put hk,?_⟩
  show(TA D _ _).map _=[97]::TO cl::_
  rw[fu,b,ho]
  by_cases c:key∈f
  ·rw[L6 c,L6 (by simp[c])]
  ·rw[L4 c,L4]
   ·simp
   ·intro a
    rcases tO.mp a with e|a
    ·exact cW _ e
    ·rcases tO.mp a with e|a
     ·exact ji _ _ e.symm
     ·exact c (lL.mp a)
 ·refine⟨_,d.del hk,?_⟩
  show(j3 D _).map _=[97]::TO cl::_
  rw[uN,b,ho]
  have g:([97]:B8)≠RY key:=λe=>cW _ e.symm
  have i:TO cl≠RY key:=ji _ _
  rw[Nv (by simpa using g),Nv (by simpa using i),PY]
  congr 3
  refine List.filter_congr λx J=>?_
  show decide (¬RY x=RY key)=decide (¬x=key)
  rw[decide_eq_decide,kU]
theorem AV (h:Shape cl D s):Shape cl (bI D (1,[97],v)) s:=by
 refine aU h λc a b=>(⟨c,a,?_⟩)
 show(TA D [97] v).map _=_
 rw[fu,b,L6 (.head _)]
theorem ub (h:Shape cl D s):Shape cl (bI D (1,TO cl,v)) (QA t):=by
 refine aU h λd c a=>?_
 cases s with
 |none=>
  refine⟨[],.inl rfl,?_⟩
  have b:D.map (·.1)=[[97]]:=a
  show(TA D (TO cl) v).map _=[[97],TO cl]
  rw[fu,b,L4 (by simp[jO cl])];rfl
 |some x=>
  refine⟨d,c,?_⟩
  show(TA D (TO cl) v).map _=_
  rw[fu,a,L6 (.tail _ (.head _))]
structure q3 (p:fQ) (z:RS) (y:PS):Prop where
 s:y.s=z.s
 R5:y.R5=z.R5
 val: ∀key,(key=[]\/key=[107])->(RQ y.nd key).join=RQ z.D (RY key)
 Th:VQ (y.nd.map (·.1))
 sh:Shape p.RV z.D z.s
theorem q3.zero (p:fQ):q3 p (sb p) ⟨[],.none,[]⟩:=by
 refine⟨rfl,rfl,λkey J=>?_,.inl rfl,[],.inl rfl,rfl⟩
 have a:RQ (sb p).D (RY key)=QC:=by
  show RQ (R4 [] (eg p)) _=_
  rw[eI (D:=[]) (eg p) [] (λo b=>by rw[LS.mp b];exact λe=>cW _ e.symm)];rfl
 rw[a];rfl
theorem wD (hc:Bq c) (h: ∀key,(key=[]\/key=[107])->(RQ nd key).join=RQ D (RY key)):
  (UI D c).2=(UG nd c).2/\ ∀key,(key=[]\/key=[107])->(RQ (UG nd c).1 key).join=RQ (R4 D (UI D c).1) (RY key):=by
 have i:=h c.key hc.key
 obtain⟨kd,a,b,d⟩:=c
 have q:=hc.kd
 have p:=hc.key
 dsimp only at i q p
 have j: ∀(v:Option B8) (op:Op),op.2.1=RY a->RQ (bI D op) (RY a)=v-> ∀key,(key=[]\/key=[107])->(RQ (TA nd a v) key).join=RQ (R4 D [op]) (RY key):=by
  intro v op s t key n
  show _=RQ (bI D op) (RY key)
  by_cases e:a=key
  ·subst e
   rw[bx,t];rfl
  ·rw[eR _ _ e,bW (by rw[s];exact λh=>e (kU.mp h)),h key n]
 have m: ∀v:B8,RQ (bI D (1,RY a,v)) (RY a)=QA v:=λv=>bx ..
 have u:RQ (bI D (0,RY a,[])) (RY a)=QC:=hU ..
 have r:kd=0\/kd=1\/kd=2\/kd=3\/kd=4\/kd=5\/kd=6:=(by decide: ∀k:Fin 7,k.1=0\/k.1=1\/k.1=2\/k.1=3\/k.1=4\/k.1=5\/k.1=6) ⟨kd,OR q⟩
 rcases r with rfl|rfl|rfl|rfl|rfl|rfl|rfl
 ·exact⟨rfl,h⟩
 ·have e:UG nd ⟨1,a,b,d⟩=(TA nd a (QA b),0,(RQ nd a).join):=by exact rfl
  rw[e,i]
  exact⟨rfl,j (QA b) _ rfl (m b)⟩
 ·have e:UG nd ⟨2,a,b,d⟩=(TA nd a .none,0,(RQ nd a).join):=by exact rfl
  rw[e,i]
  cases g:RQ D (RY a) with
  |none=>
   refine⟨by(rw[UI,g];exact rfl),λkey n=>?_⟩
   have f:(UI D ⟨2,a,b,d⟩).1=[]:=by(rw[UI,g];exact rfl)
   rw[f]
   show _=RQ D (RY key)
   by_cases e:a=key
   ·subst e
    rw[bx,g];rfl
   ·rw[eR _ _ e,h key n]
  |some o=>
   have f:(UI D ⟨2,a,b,d⟩)=([(0,RY a,[])],0,QA o):=by(rw[UI,g];exact rfl)
   rw[f]
   exact⟨rfl,j .none _ rfl u⟩
 ·by_cases l:RQ D (RY a)=d
  ·have e:UG nd ⟨3,a,b,d⟩=(TA nd a (QA b),0,(RQ nd a).join):=by simp[UG,i,l]
   have f:(UI D ⟨3,a,b,d⟩)=([(1,RY a,b)],0,RQ D (RY a)):=by exact L6 l
   rw[e,f,i]
   exact⟨rfl,j (QA b) _ rfl (m b)⟩
  ·have e:UG nd ⟨3,a,b,d⟩=(nd,1,(RQ nd a).join):=by simp[UG,i,l]
   have f:(UI D ⟨3,a,b,d⟩)=([],1,RQ D (RY a)):=by exact L4 l
   rw[e,f,i]
   exact⟨rfl,h⟩
 ·cases g:RQ D (RY a) with
  |none=>
   have e:UG nd ⟨4,a,b,d⟩=(TA nd a (QA b),0,(RQ nd a).join):=by(rw[UG,i,g];exact rfl)
   have f:(UI D ⟨4,a,b,d⟩)=([(1,RY a,b)],0,QC):=by(rw[UI,g];exact rfl)
   rw[e,f,i,g]
   exact⟨rfl,j (QA b) _ rfl (m b)⟩
  |some o=>
   have e:UG nd ⟨4,a,b,d⟩=(TA nd a (QA (o++b)),0,(RQ nd a).join):=by(rw[UG,i,g];exact rfl)
   have f:(UI D ⟨4,a,b,d⟩)=([(1,RY a,o++b)],0,QA o):=by(rw[UI,g];exact rfl)
   rw[e,f,i,g]
   exact⟨rfl,j (QA (o++b)) _ rfl (m _)⟩
 ·exact⟨rfl,h⟩
 ·exact⟨rfl,h⟩
theorem u7 (hc:Bq c) (h:VQ (nd.map (·.1))):VQ ((UG nd c).1.map (·.1)):=by
 have a: ∀v,VQ ((TA nd c.key v).map (·.1)):=λv=>by
  have:=h.put hc.key
  rw[fu]
  by_cases m:c.key∈nd.map (·.1)
  ·rw[L6 m] at this ⊢;exact this
  ·rw[L4 m] at this ⊢;exact this
 delta UG
 split
 ·split
  ·exact h
  ·split
   ·exact a _
   ·split
    ·exact a _
    ·exact a _
 ·exact h
theorem vi (hc:Bq c) (h:Shape cl D (QA t)):Shape cl (R4 D (UI D c).1) (QA t):=by
 have a:=nO D c
 have b:=th D c
 generalize (UI D c).1=l at*
 cases l with
 |nil=>exact h
 |cons o l=>cases l with
  |nil=>exact yx h (b o (.head _)) hc.key
  |cons=>simp at a
theorem q3.step (S:q3 p z y) (ok:hF p r):q3 p (T5 p.RV z r) (TX y r):=by
 have u:(T5 p.RV z r).D=bI (R4 z.D (match r.oc with| .none=>[]|some c=>(SR z.D z.s p.RV r.idx c).1)) (1,[97],VD r.idx r.tm l9):=di z.D _ [_]
 have q: ∀key,RQ (T5 p.RV z r).D (RY key)=RQ (R4 z.D (match r.oc with| .none=>[]|some c=>(SR z.D z.s p.RV r.idx c).1)) (RY key):=λkey=>by
  rw[u];exact bW (λe=>cW _ e.symm)
 have o: ∀d,Shape p.RV (R4 z.D (match r.oc with| .none=>[]|some c=>(SR z.D z.s p.RV r.idx c).1)) d->Shape p.RV (T5 p.RV z r).D d:=λd h=>by
  rw[u];exact AV h
 cases a:r.oc with
 |none=>
  rw[a] at q o
  have i:TX y r={y with R5:=y.R5++[.none]}:=by(rw[TX,a])
  have b:(T5 p.RV z r).s=z.s/\(T5 p.RV z r).R5=z.R5++[.none]:=by simp[T5,a,gU,jN]
  rw[i]
  exact⟨S.s.trans b.1.symm,by rw[b.2,<- S.R5],λkey k=>by rw[q];exact S.val key k,S.Th,by rw[b.1];exact o _ S.sh⟩
 |some c=>
  rw[a] at q o
  have cm:=ok.cm c a
  have m: ∀key,RQ (T5 p.RV z r).D (RY key)=RQ (R4 z.D (SR z.D z.s p.RV r.idx c).1) (RY key):=q
  have n: ∀d,Shape p.RV (R4 z.D (SR z.D z.s p.RV r.idx c).1) d->Shape p.RV (T5 p.RV z r).D d:=o
  obtain⟨x,A⟩:=wD cm S.val
  by_cases g:c.kd=5\/bX z.s=QD
  ·have j:(!bX z.s&&!(c.kd==5))=QE:=by rcases g with h|h<;>simp[h]
   have f:SR z.D z.s p.RV r.idx c=((UI z.D c).1++[(1,TO p.RV,gZ r.idx (!(c.kd==6)) (eO (UI z.D c)))],eO (UI z.D c)):=by rw[SR,j];rfl
   have w:AN (UG y.nd c)=eO (UI z.D c):=by(rw[eO,AN,x])
   have i:TX y r=⟨(UG y.nd c).1,QA (r.idx,!(c.kd==6),eO (UI z.D c)),y.R5++[QA (eO (UI z.D c))]⟩:=by
    rw[<- w];simp only[TX,a,S.s];rw[L6 g]
   have b:(T5 p.RV z r).s=QA (r.idx,!(c.kd==6),eO (UI z.D c))/\(T5 p.RV z r).R5=z.R5++[QA (eO (UI z.D c))]:=by
    refine⟨by simp only[T5,a,gU,j];rfl,?_⟩
    show z.R5++[Option.map (λc=>(SR z.D z.s p.RV r.idx c).2) r.oc]=_
    rw[a]
    show z.R5++[QA (SR z.D z.s p.RV r.idx c).2]=_
    rw[f]
   rw[f] at m n
   rw[i]
   refine⟨b.1.symm,by rw[b.2,<- S.R5],λkey k=>?_,u7 cm S.Th,?_⟩
   ·rw[m,di]
    show _=RQ (bI _ (1,TO p.RV,_)) _
    rw[bW (by exact ji _ _)]
    exact A key k
   ·rw[b.1]
    refine n _ ?_
    rw[di]
    cases l:z.s with
    |some t=>
     have:=S.sh
     rw[l] at this
     exact ub (s:=QA t) (vi cm this)
    |none=>
     have E:c.kd=5:=by
      rcases g with h|h
      ·exact h
      ·rw[l] at h;cases h
     have v:(UI z.D c).1=[]:=by(rw[UI,E];exact rfl)
     rw[v]
     exact ub (s:=z.s) S.sh
  ·have j:(!bX z.s&&!(c.kd==5))=QD:=by
    have B:bX z.s=QE:=by cases h:bX z.s with|false=>rfl|true=>exact(g (.inr h)).elim
    have C:(c.kd==5)=QE:=by simpa using λh=>g (.inl h)
    (rw[B,C];exact rfl)
   have f:SR z.D z.s p.RV r.idx c=([],[2,0]):=by rw[SR,j];rfl
   have i:TX y r={y with R5:=y.R5++[QA [2,0]]}:=by
    simp only[TX,a,S.s];rw[L4 g]
   have b:(T5 p.RV z r).s=z.s/\(T5 p.RV z r).R5=z.R5++[QA [2,0]]:=by
    refine⟨by simp only[T5,a,gU,j];rfl,?_⟩
    show z.R5++[Option.map (λc=>(SR z.D z.s p.RV r.idx c).2) r.oc]=_
    rw[a]
    show z.R5++[QA (SR z.D z.s p.RV r.idx c).2]=_
    rw[f]
   rw[f] at m n
   rw[i]
   exact⟨S.s.trans b.1.symm,by rw[b.2,<- S.R5],λkey k=>by rw[m];exact S.val key k,S.Th,by rw[b.1];exact n _ S.sh⟩
theorem HU (h:cg p l): ∀n,n<=l.length->q3 p (run p (l.take n)) (jI (l.take n)):=λc=>c.rec (λJ=>q3.zero p) λn ih b=>by
  have a:l[n]?=QA l[n]:=As (RW 0x61040060052041400 rfl b)
  have:=(ih (N5 b)).step (h n _ a).2.2
  rw[dj a,dQ,u6]
  exact this
end
section
abbrev Sv (nd:ND):List (V×V):=gV V.RT aY nd
theorem jW (nd:ND) (x:B8):ir (Sv nd) (.RT x):=xu nd x (λJ J=>rfl) (Nat.succ_ne_zero 2)
noncomputable def eG:o9->V
 | .none=> .none
 |some t=> .tup [.int t.1,.bool t.2.1,.RT t.2.2]
theorem tM {Q:Bool->Prop} (q:Q a.isSome):cP Z .TL (aY a) .none Q:=by
 cases a with
 |none=>exact q
 |some x=>exact q
section
theorem G8 (hw: ∀x,w=QA x->x.length<128) (q:Q (.RT (SU w)) Z):RL P (d+1) 114 [aY w] Q X Z:=by
 refine ao [QA (aY w)] rfl rfl ?_
 cases w with
 |none=>exact cL (t:=QD) rfl rfl (aN rfl q)
 |some x=>
  have b:=hw x rfl
  refine aO (t:=QE) rfl rfl (aW (bz (cz (aj (ae (v:= .list [.int 1,.int x.length]) _ rfl (aE ⟨[1,(x.length:Int)],rfl,?_,?_⟩))))))
  ·intro i a
   simp only[tO,Mw,or_false] at a
   exact a.elim (λe=>e▸by decide) λe=>e▸⟨oR _,Mo.mpr (Oz b (by decide))⟩
  ·exact ae aa rfl (nZ (by simp;exact aX 0x600F4240110480081401842002400 rfl b) q)
theorem CD (nd:ND) (x:B8):(T4 (Sv nd) (.RT x)).getD .none=aY (RQ nd x).join:=by
 rw[gj cj]
 cases RQ nd x with
 |none=>rfl
 |some v=>rfl
abbrev HR:Ss:=ss [.a 8 .none,
  .i (.c .TL a9 .none) (ss [.u [9,10,11,12,13] a9,
   .a 8 (.RT [2,0]),
   .i (.or (es [.c .eq aR (.int 5),.and (es [.c .TL RN .none,.sub RN (.int 1)])])) (ss [.a 14 (.int 0),
    .a 15 .none,
    .i (.d .lt .lt (.int 0) aR (.int 5)) (ss [.a 15 (.get ah aq),
     .i (.and (es [.c .eq aR (.int 3),.c .ne bH iq])) (ss [.a 14 (.int 1)]) (ss [.i (.and (es [.c .eq aR (.int 4),.c .TL bH .none])) (ss [.C ah aq (.b .add bH dW)]) (ss [.i (.c .eq aR (.int 2)) (ss [.C ah aq .none]) (ss [.C ah aq dW])])])]) .nil,
    .a 8 (.b .add (.y .bytes (es [.list QD (es [bV])])) (.call 114 (es [bH]))),
    .a 3 (.tup (es [aM,.c .ne aR (.int 6),aP]))]) .nil]) .nil,
  .expr (.append RJ aP)]
set_option maxHeartbeats 8000000 in
theorem LG {k:Nat} (h0: ¬k=0) (h5: ¬5<=k):k=1\/k=2\/k=3\/k=4:=by
 rcases k with _|_|_|_|_|k
 ·exact absurd rfl h0
 ·exact .inl rfl
 ·exact .inr (.inl rfl)
 ·exact .inr (.inr (.inl rfl))
 ·exact .inr (.inr (.inr rfl))
 ·exact absurd (N0 5 k) h5
theorem yl: ∀(l:List bG) (y:PS) (Z:H) (w4 w5 w6 w7 w8 w9 Ro Rp VB w13 V1 V2 X8:Option V),(∀r∈l,∀c,r.oc=QA c->Bq c)->y.R5.length+l.length<=1000->y.nd.length+l.length<=1000->2*l.length<=98->
  (∀key o,RQ y.nd key=QA (QA o)->o.length+2*l.length<=100)->
  Holds ((dd,.dict (Sv y.nd))::(ro,.list (y.R5.map aY))::wl) Z->
  (∀w4 w5 w6 w7 w8 w9 Ro Rp VB w13 V1 V2 RM,Holds ((dd,.dict (Sv (l.foldl TX y).nd))::(ro,.list ((l.foldl TX y).R5.map aY))::wl) RM->N [QA x0,QA (.ref ro),QA (.ref dd),QA (eG (l.foldl TX y).s),w4,w5,w6,w7,w8,w9,Ro,Rp,VB,w13,V1,V2,X8] RM)->
  TG (λN' B' C' Y Z=>a8 P (RL P (d+1)) HR N' R B' C' (λJ J J=>False) Y Z) [4,5,6,7] (da l) N [QA x0,QA (.ref ro),QA (.ref dd),QA (eG y.s),w4,w5,w6,w7,w8,w9,Ro,Rp,VB,w13,V1,V2,X8] Z:=by
 intro l
 induction l with
 |nil=>intro y Z w4 w5 w6 w7 w8 w9 Ro Rp VB w13 V1 V2 X8 hc hl hn hb O h q;exact q _ _ _ _ _ _ _ _ _ _ _ _ Z h
 |cons r t ih=>
  intro y Z w4 w5 w6 w7 w8 w9 Ro Rp VB w13 V1 V2 X8 hc hl hn hb O h q
  simp only[Mb] at hl hn O hb
  have q': ∀w4 w5 w6 w7 w8 w9 Ro Rp VB w13 V1 V2 RM,Holds ((dd,.dict (Sv (t.foldl TX (TX y r)).nd))::(ro,.list ((t.foldl TX (TX y r)).R5.map aY))::wl) RM->N [QA x0,QA (.ref ro),QA (.ref dd),QA (eG (t.foldl TX (TX y r)).s),w4,w5,w6,w7,w8,w9,Ro,Rp,VB,w13,V1,V2,X8] RM:=q
  clear q
  have hct: ∀r∈t,∀c,r.oc=QA c->Bq c:=λx z=>hc x (.tail _ z)
  refine pO (by simp) rfl rfl λK hK=>aV rfl ?_
  have D: ∀(B:PS) (E:Option B8) (Z:H) (w9 Ro Rp VB w13 V1 V2:Option V) (a4 a5 a6 a7:V),TX y r=B->B.R5=y.R5++[E]->B.nd.length<=y.nd.length+1->(∀key o,RQ B.nd key=QA (QA o)->o.length+2*t.length<=100)->
    Holds ((dd,.dict (Sv B.nd))::(ro,.list (y.R5.map aY))::wl) Z->
    a8 P (RL P (d+1)) (ss [.expr (.append RJ aP)]) K R N K (λJ J J=>False) [QA x0,QA (.ref ro),QA (.ref dd),QA (eG B.s),QA a4,QA a5,QA a6,QA a7,QA (aY E),w9,Ro,Rp,VB,w13,V1,V2,X8] Z:=by
   intro B E Z w9 Ro Rp VB w13 V1 V2 a4 a5 a6 a7 e1 e2 e3 e4 h
   refine ax (eC h 1 rfl rfl rfl (by simp;exact bY (bY (LX _ _) hl) (aT rfl)) λp k=>aw ?_)
   rw[e1] at q'
   refine hK _ _ (ih B p _ _ _ _ _ _ _ _ _ _ _ _ _ hct (by rw[e2];simp;exact RW 0x603E809048148105000180FA02412481050040 rfl hl) (SD 0x603E809048108181204140008180FA02412481050040 rfl hn e3) (aX 0x60062090099001801882402652041400 rfl hb) e4 ?_ q')
   rw[e2,Mc];exact k
  have n: ∀key o,RQ y.nd key=QA (QA o)->o.length+2*t.length<=100:=λkey o h=>by have:=O key o h;exact RW 0x60064090482641001801902412099481050040 rfl this
  have e7:iL r=match r.oc with| .none=> .none|some c=> .tup [.int c.kd,.int r.idx,.RT c.key,.RT c.val,aY c.ex]:=rfl
  cases G:r.oc with
  |none=>
   rw[G] at e7
   have ea:iL r= .none:=e7
   show a8 P _ _ _ _ _ _ _ [QA x0,QA (.ref ro),QA (.ref dd),QA (eG y.s),QA (.int r.tm),QA (.int r.idx),QA (.RT r.data),QA (iL r),QA .none,w9,Ro,Rp,VB,w13,V1,V2,X8] Z
   rw[ea]
   exact aO (t:=QE) rfl rfl (D {y with R5:=y.R5++[.none]} .none Z _ _ _ _ _ _ _ _ _ _ _ (by simp[TX,G]) rfl (NX _) n h)
  |some c=>
   rw[G] at e7
   have ea:iL r= .tup [.int c.kd,.int r.idx,.RT c.key,.RT c.val,aY c.ex]:=e7
   have cm:=hc r (.head _) c G
   obtain⟨kd,key,val,ex⟩:=c
   have Z8:=cm.kd;have ZZ:=cm.val
   dsimp only at Z8 ZZ ea
   show a8 P _ _ _ _ _ _ _ [QA x0,QA (.ref ro),QA (.ref dd),QA (eG y.s),QA (.int r.tm),QA (.int r.idx),QA (.RT r.data),QA (iL r),QA .none,w9,Ro,Rp,VB,w13,V1,V2,X8] Z
   rw[ea]
   refine cL (t:=QD) rfl rfl (cD (ae a9 rfl ⟨by simp,rfl,aV rfl ?_⟩))
   have YL:pe P (.or (es [.c .eq aR (.int 5),.and (es [.c .TL RN .none,.sub RN (.int 1)])])) [QA x0,QA (.ref ro),QA (.ref dd),QA (eG y.s),QA (.int r.tm),QA (.int r.idx),QA (.RT r.data),QA (.tup [.int kd,.int r.idx,.RT key,.RT val,aY ex]),QA (.RT [2,0]),QA (.int kd),QA (.int r.idx),QA (.RT key),QA (.RT val),QA (aY ex),V1,V2,X8] Z=QA (.bool (decide (kd=5\/bX y.s=QD))):=by
    by_cases h5:kd=5
    ·rw[iF (.inl h5)]
     exact tZ (t:=decide ((kd:Int)=5)) rfl (iF (aX 0x1C85051540062141400 rfl h5))
    ·refine cq (t:=decide ((kd:Int)=5)) rfl (aS (λzh=>h5 (aX 0x1885050001C85051540 rfl zh))) ?_
     have e:decide (kd=5\/bX y.s=QD)=bX y.s:=by
      cases bX y.s<;>simp[h5]
     rw[e]
     cases y.s with
     |none=>rfl
     |some t=>rfl
   by_cases g:kd=5\/bX y.s=QD
   · -- the command is done
    refine cL YL (iF g) (aV rfl (aV rfl ?_))
    have hps: ∀w f m,UG y.nd ⟨kd,key,val,ex⟩=(w,f,m)->TX y r=⟨w,QA (r.idx,!(kd==6),UInt8.ofNat f::SU m),y.R5++[QA (UInt8.ofNat f::SU m)]⟩:=by
     intro w f m e
     simp only[TX,G]
     rw[L6 g,e]
    have j: ∀(w:ND) (f:Nat) (m:Option B8) (Z:H),UG y.nd ⟨kd,key,val,ex⟩=(w,f,m)->f<2->(∀x,m=QA x->x.length<128)->w.length<=y.nd.length+1->(∀key o,RQ w key=QA (QA o)->o.length+2*t.length<=100)->
      Holds ((dd,.dict (Sv w))::(ro,.list (y.R5.map aY))::wl) Z->
      a8 P (RL P (d+1)) (ss [.a 8 (.b .add (.y .bytes (es [.list QD (es [bV])])) (.call 114 (es [bH]))),
    .a 3 (.tup (es [aM,.c .ne aR (.int 6),aP]))]) (λY Z=>a8 P (RL P (d+1)) (ss []) (λY Z=>a8 P (RL P (d+1)) (ss [.expr (.append RJ aP)]) K R N K (λJ J J=>False) Y Z) R N K (λJ J J=>False) Y Z) R N K (λJ J J=>False) [QA x0,QA (.ref ro),QA (.ref dd),QA (eG y.s),QA (.int r.tm),QA (.int r.idx),QA (.RT r.data),QA (.tup [.int kd,.int r.idx,.RT key,.RT val,aY ex]),QA (.RT [2,0]),QA (.int kd),QA (.int r.idx),QA (.RT key),QA (.RT val),QA (aY ex),QA (.int f),QA (aY m),X8] Z:=by
     intro w f m Z e aAJ A M aAV h
     refine av (bz (cz (aj (ae (v:= .list [.int f]) _ rfl (aE ⟨[(f:Int)],rfl,by simp;exact aX 0x71100091540061081400 rfl aAJ,?_⟩)))))
     refine aC (vs:=[aY m]) rfl (G8 A (nZ (by have:=m9 A;simp;exact aX 0x600F4240110480041401802082400 rfl this) ?_))
     have e6:decide (((kd:Nat):Int)≠6)=!(kd==6):=by
      by_cases e:kd=6
      ·simp[e]
      ·have: ¬((kd:Int)=6):=aX 0x21D46051540061181400 rfl (Mx (aX 0x60181400060181400 rfl Z8) e)
       simp[e,this]
     refine aV (v:= .tup [.int r.idx,.bool (!(kd==6)),.RT (UInt8.ofNat f::SU m)]) (by rw[<- e6];rfl) (aw (aw ?_))
     exact D _ (QA (UInt8.ofNat f::SU m)) Z _ _ _ _ _ _ _ _ _ _ _ (hps w f m e) rfl M aAV h
    have hj: ∀x,(RQ y.nd key).join=QA x->RQ y.nd key=QA (QA x):=λx z=>by
     cases C:RQ y.nd key with
     |none=>rw[C] at z;cases z
     |some v=>rw[C] at z;exact By QA z
    have L: ∀x,(RQ y.nd key).join=QA x->x.length<128:=λx z=>by have:=O key x (hj x z);exact RW 0x61080090001801902412099481050040 rfl this
    refine aK (wy (ae (.int 0) rfl (ae (v:= .int kd) aR rfl (uV ?_))))
    by_cases T:kd=0
    ·rw[aS (by exact aX 0x1D15000441880400 rfl T)]
     exact cI rfl (j y.nd 0 .none Z (by simp[UG,T]) (by decide) (λx h=>by cases h) (NX _) n h)
    rw[iF (by exact aX 0x1C55000441840010 rfl (Mk T))]
    refine ae (.int 5) rfl (uV ?_)
    by_cases U:5<=kd
    ·rw[aS (by exact aX 0x1D05051540060005050 rfl U)]
     exact cI rfl (j y.nd 0 .none Z (by rw[UG,L4 (by show ¬(0<kd/\kd<5);exact λzh=>aX 0x64141400060005050 rfl U zh.2)]) (by decide) (λx h=>by cases h) (NX _) n h)
    rw[iF (by exact aX 0x1C45051540063005050 rfl U)]
    refine iu rfl (av (wz rfl (h.get 0 rfl) rfl (jW _ _) ?_))
    rw[CD]
    have hr4:0<kd/\kd<5:=⟨aX 0x61000401840010 rfl (Mk T),aX 0x61141400063005050 rfl U⟩
    have i: ∀(v:Option B8),(∀o,v=QA o->o.length+2*t.length<=100)->(TA y.nd key v).length<=y.nd.length+1/\(∀X o,RQ (TA y.nd key v) X=QA (QA o)->o.length+2*t.length<=100):=λv hv=>by
     refine⟨pT ..,λX o C=>?_⟩
     by_cases e:key=X
     ·subst e
      rw[bx] at C
      exact hv o (iN C)
     ·rw[eR _ _ e] at C
      exact n X o C
    have F: ∀o,QA val=QA o->o.length+2*t.length<=100:=λo Z9=>by cases Z9;exact RW 0x60064090482640041802050041801882402652041400 rfl hb ZZ
    generalize I:(RQ y.nd key).join=jo at*
    have u:List.length y.nd<=1000000:=bY (bY (LX _ _) hn) (aT rfl)
    have k4:kd=1\/kd=2\/kd=3\/kd=4:=LG T U
    rcases k4 with rfl|rfl|rfl|rfl
    ·refine aK (cU (ae _ (v:= .bool QE) rfl (cI rfl (cI rfl ?_))))
     refine aK (cU (ae _ (v:= .bool QE) rfl (cI rfl (cI rfl ?_))))
     refine oY (t:=QE) rfl rfl (dZ (ae dW rfl (ae ah rfl (ae aq rfl (gr h 0 rfl (jW _ _) (by simp;exact u) λp k=>?_)))))
     rw[show V.RT val=aY (QA val) from rfl,ik cj] at k
     exact aw (aw (aw (aw (j (TA y.nd key (QA val)) 0 jo p (by simp[UG,I]) (by decide) L (i _ F).1 (i _ F).2 k))))
    ·refine aK (cU (ae _ (v:= .bool QE) rfl (cI rfl (cI rfl ?_))))
     refine aK (cU (ae _ (v:= .bool QE) rfl (cI rfl (cI rfl ?_))))
     refine cL (t:=QD) rfl rfl (dZ (ae .none rfl (ae ah rfl (ae aq rfl (gr h 0 rfl (jW _ _) (by simp;exact u) λp k=>?_)))))
     rw[show V.none=aY .none from rfl,ik cj] at k
     exact aw (aw (aw (aw (j (TA y.nd key .none) 0 jo p (by simp[UG,I]) (by decide) L (i .none (λo h=>by cases h)).1 (i .none (λo h=>by cases h)).2 k))))
    ·refine aK (cU (ae _ (v:= .bool QD) rfl (iu rfl (fR (bh (ae (v:=aY jo) bH rfl (ae (v:=aY ex) iq rfl (BU (gK _ _) (by rw[jl];decide) λtt S=>?_))))))))
     by_cases W:jo=ex
     ·have:tt=QE:=by cases tt with|false=>rfl|true=>exact(S.mp rfl (by rw[W])).elim
      refine cI this ?_
      refine aK (cU (ae _ (v:= .bool QE) rfl (cI rfl (cI rfl ?_))))
      refine oY (t:=QE) rfl rfl (dZ (ae dW rfl (ae ah rfl (ae aq rfl (gr h 0 rfl (jW _ _) (by simp;exact u) λp k=>?_)))))
      rw[show V.RT val=aY (QA val) from rfl,ik cj] at k
      exact aw (aw (aw (aw (j (TA y.nd key (QA val)) 0 jo p (by simp[UG,I,W]) (by decide) L (i _ F).1 (i _ F).2 k))))
     ·have:tt=QD:=S.mpr λe=>W (qj e)
      exact iu this (aV rfl (aw (aw (j y.nd 1 jo Z (by simp[UG,I,W]) (by decide) L (NX _) n h))))
    ·refine aK (cU (ae _ (v:= .bool QE) rfl (cI rfl (cI rfl ?_))))
     refine aK (cU (ae _ (v:= .bool QD) rfl (iu rfl (fR (bh (ae (v:=aY jo) bH rfl (ae .none rfl (tM ?_))))))))
     cases jo with
     |none=>
      refine cI rfl (oY (t:=QE) rfl rfl (dZ (ae dW rfl (ae ah rfl (ae aq rfl (gr h 0 rfl (jW _ _) (by simp;exact u) λp k=>?_))))))
      rw[show V.RT val=aY (QA val) from rfl,ik cj] at k
      exact aw (aw (aw (aw (j (TA y.nd key (QA val)) 0 .none p (by simp[UG,I]) (by decide) L (i _ F).1 (i _ F).2 k))))
     |some o=>
      have Rh:=O key o (hj o rfl)
      refine iu rfl (dZ (bz (ae (v:= .RT o) bH rfl (ae (v:= .RT val) dW rfl (nZ (SD 0x600F4240110480041801902412099481050081060081400 rfl ZZ Rh) (ae ah rfl (ae aq rfl (gr h 0 rfl (jW _ _) (by simp;exact u) λp k=>?_))))))))
      rw[show V.RT (o++val)=aY (QA (o++val)) from rfl,ik cj] at k
      have Q: ∀x,QA (o++val)=QA x->x.length+2*t.length<=100:=λx z=>by cases z;simp;exact SD 0x60064090482642480041801902412099481050081060081400 rfl ZZ Rh
      exact aw (aw (aw (j (TA y.nd key (QA (o++val))) 0 (QA o) p (by simp[UG,I]) (by decide) L (i _ Q).1 (i _ Q).2 k)))
   · -- no aAl
    exact aO YL (aS g) (aw (D {y with R5:=y.R5++[QA [2,0]]} (QA [2,0]) Z _ _ _ _ _ _ _ _ _ _ _ (by simp only[TX,G];rw[L4 g]) rfl (NX _) n h))
end
end
section
noncomputable def fm (f:B8->Option B8):List B8->List (B8×B8)
 |[]=>[]
 |k::r=>match f k with
  | .none=>fm f r
  |some v=>(k,v)::fm f r
theorem tw (h:f k= .none):fm f (k::r)=fm f r:=by
 show(match f k with
  | .none=>fm f r
  |some v=>(k,v)::fm f r)=_
 rw[h]
theorem tA (h:f k=QA v):fm f (k::r)=(k,v)::fm f r:=by
 show(match f k with
  | .none=>fm f r
  |some v=>(k,v)::fm f r)=_
 rw[h]
theorem wO: ∀{l:List B8},(∀k∈l,f k=g k)->fm f l=fm g l:=λ{l}=>l.rec (λJ=>rfl) λk r ih h=>by
  show(match f k with
   | .none=>fm f r
   |some v=>(k,v)::fm f r)=match g k with
   | .none=>fm g r
   |some v=>(k,v)::fm g r
  rw[h k (.head _),ih λx a=>h x (.tail _ a)]
abbrev W5 (nd:ND) (ks:List B8):List (B8×B8):=fm (λk=>(RQ nd k).join) ks
theorem Cz {Q:Bool->H->Prop} (h:wE pr cl e Y (λv Z=> ∃b,truth Z v=QA b/\Q b Z) R3 Z):jm pr cl (.cons e .nil) Y Q R3 Z:=h
theorem Ci: ∀(nd:ND),kJ ((Sv nd).map (·.1))=QA (nd.map (·.1)):=λl=>l.rec (rfl) λa r ih=>by
  obtain⟨k,v⟩:=a
  show(kJ ((Sv r).map (·.1))).map _=_
  rw[ih];rfl
section
theorem uF (hd:Z[dd]?=QA (.dict (Sv nd))): ∀(ks:List B8) (acc:List V),(∀k∈ks,k∈nd.map (·.1))->K (acc++(W5 nd ks).map ZF) Z->
  iR (λY Q Z=>wE P (RL P d) (.tup (es [eD,.sub ah eD])) Y Q (λJ J=>False) Z) (λY Q Z=>jm P (RL P d) (es [.c .TL (.sub ah eD) .none]) Y Q (λJ J=>False) Z) [16] [x0,x1,QA (.ref dd),x3,w4,w5,w6,w7,w8,w9,Ro,Rp,VB,w13,V1,V2,X8] (ks.map V.RT) acc K Z:=by
 intro ks
 induction ks with
 |nil=>intro acc b q;rw[show(W5 nd []).map ZF=[] from rfl,MC] at q;exact q
 |cons k t ih=>
  intro acc b q
  have h:=b k (.head _)
  obtain⟨v,g⟩:=Mv.mp ((lp nd k).mpr h)
  have a:T4 (Sv nd) (.RT k)=QA (aY v):=by rw[gj cj,g];rfl
  have e: ∀k∈t,k∈nd.map (·.1):=λz i=>b z (.tail _ i)
  have f:(RQ nd k).join=v:=by rw[g];rfl
  refine Cz (bh (nN rfl rfl hd (jW nd k) a (ae .none rfl (tM ⟨_,rfl,?_⟩))))
  cases v with
  |none=>
   refine ih acc e ?_
   have:W5 nd (k::t)=W5 nd t:=tw f
   rw[this] at q;exact q
  |some o=>
   refine fS (aj (ae eD rfl (aj (nN rfl rfl hd (jW nd k) a (aE (ih (acc++[ZF (k,o)]) e ?_))))))
   have:W5 nd (k::t)=(k,o)::W5 nd t:=tA f
   rw[this] at q
   simpa using q
theorem G9 (h:Holds wl Z) (hc: ∀r∈l,∀c,r.oc=QA c->Bq c) (hl:l.length<=45) (h5:VQ ((jI l).nd.map (·.1)))
  (q: ∀RM,Holds wl RM->Q (.tup [.list ((jI l).R5.map aY),.list ((W5 (jI l).nd (SM ((jI l).nd.map (·.1)))).map ZF),eG (jI l).s]) RM):RL P (d+2) 115 [.list (da l)] Q X Z:=by
 refine ao [QA (.list (da l)),QC,QC,QC,QC,QC,QC,QC,QC,QC,QC,QC,QC,QC,QC,QC,QC] rfl rfl (av (dq h λx R8 p=>av (nM p λn i t=>aV rfl (dh (ae aa rfl ⟨_,rfl,?_⟩)))))
 refine yl (R:=Q) l ⟨[],.none,[]⟩ i _ _ _ _ _ _ _ _ _ _ _ _ _ hc (by simp;exact VK ‹_› rfl) (by simp;exact VK ‹_› rfl) (aX 0x18018824026400A0B41400 rfl hl) (λkey o u=>by simp[RQ] at u) t λw4 w5 w6 w7 w8 w9 Ro Rp VB w13 V1 V2 j g=>?_
 change Holds ((n,.dict (Sv (jI l).nd))::(x,.list ((jI l).R5.map aY))::wl) j at g
 refine cO (Holds.swap [_] [_] g) rfl λm f=>aW (fS (aj (ae RJ rfl (aj (il (cz (aj (ae ah rfl (aE (⟨_,_,f.get 0 rfl,Ci _,?_,?_,?_⟩))))))))))
 ·rcases h5 with e|e|e|e|e<;>rw[e]<;>decide
 ·intro b a
  rcases h5 with e|e|e|e|e<;>rw[e] at a<;>simp at a
  ·subst a;decide
  ·subst a;decide
  ·rcases a with a|a<;>subst a<;>decide
  ·rcases a with a|a<;>subst a<;>decide
 ·refine⟨_,rfl,uF (f.get 0 rfl) _ [] (λk w=>mH _ w) ?_⟩
  exact aj (ae (v:=eG (jI l).s) RN rfl (aE (q m f.tail)))
end
def dg (D:BD) (k:B8):Option B8:=RQ D (RY k)
theorem dn (h:RQ D (RY k)= .none):fm (dg D) (k::r)=fm (dg D) r:=tw (f:=dg D) h
theorem ds (h:RQ D (RY k)=QA v):fm (dg D) (k::r)=(k,v)::fm (dg D) r:=tA (f:=dg D) h
abbrev dP (D:BD):List (B8×B8):=fm (dg D) [[],[107]]
theorem yp (h5:VQ (nd.map (·.1))) (hv: ∀key,(key=[]\/key=[107])->(RQ nd key).join=RQ D (RY key)):W5 nd (SM (nd.map (·.1)))=dP D:=by
 have c:[]∉nd.map (·.1)->RQ D (RY [])=QC:=λh=>by rw[<- hv _ (.inl rfl),gP _ h];rfl
 have d:[107]∉nd.map (·.1)->RQ D (RY [107])=QC:=λh=>by rw[<- hv _ (.inr rfl),gP _ h];rfl
 have j: ∃b,SM (nd.map (·.1))=b/\(∀k∈b,k=[]\/k=[107])/\dP D=fm (dg D) b:=by
  rcases h5 with e|e|e|e|e
  ·rw[e] at c d ⊢
   exact⟨[],rfl,by decide,by rw[dP,dn (c (by decide)),dn (d (by decide))]⟩
  ·rw[e] at d ⊢
   refine⟨[[]],by decide,by decide,?_⟩
   have a:=d (by decide)
   cases h:RQ D (RY []) with
   |none=>rw[dP,dn h,dn a,dn h]
   |some v=>rw[dP,ds h,dn a,ds h]
  ·rw[e] at c ⊢
   exact⟨[[107]],by decide,by decide,by rw[dP,dn (c (by decide))]⟩
  ·rw[e]
   exact⟨[[],[107]],by decide,by decide,rfl⟩
  ·rw[e]
   exact⟨[[],[107]],by decide,by decide,rfl⟩
 refine kE j λb a f g=>?_
 rw[a,g]
 exact wO λk i=>hv k (f k i)
theorem vu (h5:VQ ks):SM ([97]::TO cl::ks.map RY)=[97]::((SM ks).map RY++[TO cl]):=by
 have a: ∃t,TO cl=115::t:=⟨_,rfl⟩
 obtain⟨t,b⟩:=a
 rw[b]
 rcases h5 with e|e|e|e|e<;>subst e<;>exact rfl
theorem AU:SN D [115] [116] [115::t]=[(115::t,(RQ D (115::t)).getD [])]/\SN D [100] [101] [115::t]=[]:=by
 constructor
 ·cases t<;>exact rfl
 ·exact rfl
theorem vh {p:fQ} {D:BD} (h:Shape p.RV D s) (hs:RQ D (TO p.RV)=se s) (hd:s= .none-> ∀key,RQ D (RY key)=QC):
  (SN D [100] [101] (SM (D.map (·.1)))).map (λq=>(q.1.drop 1,q.2))=dP D/\SN D [115] [116] (SM (D.map (·.1)))=t9 p.RV s:=by
 refine aU h λo r u=>?_
 cases s with
 |none=>
  have m:D.map (·.1)=[[97]]:=u
  have A:SM ([[97]]:List B8)=[[97]]:=by decide
  rw[m,A]
  refine⟨?_,?_⟩
  ·rw[dP,dn (hd rfl _),dn (hd rfl _)];exact rfl
  ·exact rfl
 |some x=>
  have m:D.map (·.1)=[97]::TO p.RV::o.map RY:=u
  have w: ∀k,RY k∈D.map (·.1)↔k∈o:=λk=>by
   rw[m]
   constructor
   ·intro i
    rcases tO.mp i with e|i
    ·exact(cW _ e).elim
    ·rcases tO.mp i with e|i
     ·exact(ji _ _ e.symm).elim
     ·exact lL.mp i
   ·exact λh=> .tail _ (.tail _ (lL.mpr h))
  have n: ∀k,k∉o->RQ D (RY k)=QC:=λk h=>gP _ λh'=>h ((w k).mp h')
  have c: ∀k,k∈o-> ∃v,RQ D (RY k)=QA v:=λk h=>Mv.mp ((lp _ _).mpr ((w k).mpr h))
  rw[m,vu r]
  obtain⟨t,y⟩: ∃t,TO p.RV=115::t:=⟨_,rfl⟩
  have z:RQ D (115::t)=QA (gZ x.1 x.2.1 x.2.2):=by rw[<- y,hs];rfl
  obtain⟨d,j⟩:=AU (D:=D) (t:=t)
  rw[z] at d
  have g: ∀l,SN D [100] [101] ([97]::l)=SN D [100] [101] l/\SN D [115] [116] ([97]::l)=SN D [115] [116] l:=λl=>⟨rfl,rfl⟩
  have a: ∀k l,SN D [100] [101] (RY k::l)=(RY k,(RQ D (RY k)).getD [])::SN D [100] [101] l/\SN D [115] [116] (RY k::l)=SN D [115] [116] l:=λk l=>by cases k<;>exact⟨rfl,rfl⟩
  rw[(g _).1,(g _).2]
  simp only[t9,y]
  have b1:SM ([]:List B8)=[]:=rfl
  have b2:SM ([[]]:List B8)=[[]]:=by decide
  have b3:SM ([[107]]:List B8)=[[107]]:=by decide
  have b4:SM ([[],[107]]:List B8)=[[],[107]]:=by decide
  have b5:SM ([[107],[]]:List B8)=[[],[107]]:=by decide
  rcases r with e|e|e|e|e<;>subst e
  ·rw[b1]
   refine⟨?_,d⟩
   show(SN D [100] [101] [115::t]).map _=_
   rw[j,dP,dn (n _ (by decide)),dn (n _ (by decide))];rfl
  ·obtain⟨v,b⟩:=c [] (by decide)
   rw[b2]
   refine⟨?_,((a [] _).2).trans d⟩
   show(SN D [100] [101] (RY []::[115::t])).map _=_
   rw[(a [] _).1,j,b,dP,ds b,dn (n _ (by decide))];rfl
  ·obtain⟨v,b⟩:=c [107] (by decide)
   rw[b3]
   refine⟨?_,((a [107] _).2).trans d⟩
   show(SN D [100] [101] (RY [107]::[115::t])).map _=_
   rw[(a [107] _).1,j,b,dP,dn (n _ (by decide)),ds b];rfl
  ·obtain⟨v,b⟩:=c [] (by decide)
   obtain⟨B,f⟩:=c [107] (by decide)
   rw[b4]
   refine⟨?_,((a [] _).2).trans (((a [107] _).2).trans d)⟩
   show(SN D [100] [101] (RY []::RY [107]::[115::t])).map _=_
   rw[(a [] _).1,(a [107] _).1,j,b,f,dP,ds b,ds f];rfl
  ·obtain⟨v,b⟩:=c [] (by decide)
   obtain⟨B,f⟩:=c [107] (by decide)
   rw[b5]
   refine⟨?_,((a [] _).2).trans (((a [107] _).2).trans d)⟩
   show(SN D [100] [101] (RY []::RY [107]::[115::t])).map _=_
   rw[(a [] _).1,(a [107] _).1,j,b,f,dP,ds b,ds f];rfl
end
section
theorem kS {α:Type} {f:α->V} (h: ∀x,UK (f x) (f x)=QD): ∀l:List α,ew (l.map f) (l.map f)=QD:=λl=>l.rec (rfl) λx t ih=>by
  show(UK (f x) (f x)&&ew (t.map f) (t.map f))=QD
  rw[h x,ih];rfl
theorem nz {α:Type} {f:α->V} {n:Nat} (h: ∀x,TN (f x)<=n): ∀l:List α,TN.US (l.map f)<=n:=λl=>l.rec (Mi _) λx t ih=>by
  show max (TN (f x)) (TN.US (t.map f))<=n
  have:=ih
  have:=h x
  exact MA.mpr ⟨‹_›,‹_›⟩
section
theorem qo (n:Nat):items (.Sd 0 (n:Int))=QA ((List.range n).map λk:Nat=>V.int k):=by
 show QA ((eF 0 n).map V.int)=_
 rw[eF,Nz]
 congr 1
 rw[show((n:Int)-0).toNat=n by exact rfl]
 refine Ng λi J=>?_
 show V.int (0+(i:Int))=V.int i
 rw[Qa]
theorem Hj (P0:oW p) (I:Ok p g m b k bd) (h:Holds (TZ a p g m b wl) Z) (ZS:b.app=b.ever.length) (Ri:b.stored=b.ever) (UC:b.ever≠[]) (RZ:uq ((TO p.RV).drop 1)=p.RV)
  (q: ∀RM,Q (.bool QD) RM):RL P (d+8) 129 [.ref a.st,.ref a.ma,.ref a.bk] Q X Z:=by
 have zk:k=b.ever.length:=L2 I.ke (bY (MB ZS.symm) I.ak)
 have B:=I.le;have w:=I.bd;have zgb:=I.gb;have zbu:=I.L.bu;have zuo:=I.L.Sy;have zls:=I.ls
 have S:=HU I.re b.ever.length (AS _)
 have R:=cH I.re b.ever.length (AS _)
 have M:=I.M
 have A:=I.td
 rw[zk] at A
 rw[ZS] at M
 have H:=M.D
 have mtm:=M.tm
 have map:=M.ap
 rw[L5] at S R A H
 have T:(jI b.ever).R5=(run p b.ever).R5:=S.R5
 have gb:Z[a.bk]?=QA (.dict (U3 p b a.td)):=h.get 7 rfl
 have hcm: ∀r∈b.ever,∀c,r.oc=QA c->Bq c:=λr hr c hc=>by
  obtain⟨i,hi⟩:=NZ hr
  exact(I.re i r hi).2.2.cm c hc
 have Rl:mA (run p b.ever).s:=⟨λt ht=>by have r1:=(R.Rl t ht).1;have r2:=P0.f1;exact bQ 0x18410026820611388034030604800C2060A01401060040 rfl B w r1 r2,λt ht=>by have:=(R.Rl t ht).2;exact SD 0x18420024020604826400C14020A0A014010A0040 rfl B w this⟩
 have O:(run p b.ever).s= .none-> ∀key,RQ (run p b.ever).D (RY key)=QC:=λE key=>by
  refine aU S.sh λks G C=>?_
  rw[E] at C
  refine gP _ λj=>?_
  rw[C] at j
  rcases tO.mp j with e|j
  ·exact cW _ e
  ·cases j
 obtain⟨sc1,sc2⟩:=vh S.sh R.ses O
 have YR:=yp S.Th S.val
 have Wo:m.D.length<60/\ ∀q∈m.D,q.1.length<=1000:=by
  rw[H]
  refine aU S.sh λks G C=>?_
  have Sp:ks.length<=2:=by rcases G with e|e|e|e|e<;>rw[e]<;>decide
  have So: ∀x∈ks,x.length<=1:=by
   intro x o
   rcases G with e|e|e|e|e<;>rw[e] at o<;>simp at o
   ·simp[o]
   ·simp[o]
   ·rcases o with o|o<;>simp[o]
   ·rcases o with o|o<;>simp[o]
  refine⟨?_,λq hq=>?_⟩
  ·have:=By List.length C
   rw[LZ] at this
   rw[this]
   cases(run p b.ever).s<;>simp;exact aX 0x61F01412041412041400060081400 rfl Sp
  ·have j:q.1∈(run p b.ever).D.map (·.1):=L8.mpr ⟨q,hq,rfl⟩
   rw[C] at j
   rcases tO.mp j with e|j
   ·rw[e];decide
   ·cases E:(run p b.ever).s with
    |none=>rw[E] at j;cases j
    |some t=>
     rw[E] at j
     rcases tO.mp j with e|j
     ·rw[e];simp[TO,De]
     ·refine aU (L8.mp j) λx o e=>?_
      have:=So x o
      rw[<- e];simp;exact VK ‹_› rfl
 refine ao [QA (.ref a.st),QA (.ref a.ma),QA (.ref a.bk),QC,QC,QC,QC,QC,QC,QC,QC,QC,QC] rfl rfl (cD (aC (vs:=[.list (da b.ever)]) (aA (ay rfl gb rfl rfl) rfl) (G9 h hcm (RW 0x60B41400060A01401060040 rfl B w) S.Th λR8 h1=>⟨by decide,rfl,?_⟩)))
 rw[YR,T,S.s]
 generalize Ym:(run p b.ever).R5=R5 at*
 have Xc:R5.length=b.ever.length:=by rw[<- Ym];exact R.rl
 have gb1:R8[a.bk]?=QA (.dict (U3 p b a.td)):=h1.get 7 rfl
 refine aV (ay rfl gb1 rfl rfl) ?_
 have er:((R5.map aY).length:Int)=(R5.length:Nat):=by simp
 refine aK (bh (il (cz (aj (ae (v:= .int (R5.map aY).length) _ rfl (aE ?_))))))
 rw[er]
 refine⟨SD 0x710F4240111542062002060A01401060040 rfl B w Xc,aX 0x1C550160F4240111 rfl,_,qo _,?_⟩
 refine fk (wl:=TZ a p g m b wl) (g:=λi=>aY (R5[i]?.join)) (List.range R5.length) [] R8 (λi hi RM h' Q' F=>?_) h1 λSG h2=>?_
 ·have gb':RM[a.bk]?=QA (.dict (U3 p b a.td)):=h'.get 7 rfl
  have gt':RM[a.td]?=QA (.dict (Fp b.told)):=h'.get 8 rfl
  refine wz (u:= .int (p.first+1+i:Nat)) (ay rfl gb' rfl rfl) gt' rfl (nY _ _) ?_
  rw[gj (kf:=λ(n:Nat)=>V.int n) (vf:=aY) oO,A,lX]
  have:((R5[i]?).map aY).getD .none=aY (R5[i]?.join):=by cases R5[i]?<;>rfl
  rw[this]
  exact F RM h'
 have N:(List.range R5.length).map (λi=>aY (R5[i]?.join))=R5.map aY:=by
  refine ON λi=>?_
  rw[OU,OU]
  rcases MT i R5.length with c|c
  ·rw[List.getElem?_range c]
   show QA (aY (R5[i]?.join))=_
   rw[As c];rfl
  ·rw[Mt (by simpa using c),Mt c];rfl
 have U: ∀x:Option B8,TN (aY x)<=0:=λx=>by rw[jl];exact AS _
 refine ae (v:= .list (R5.map aY)) RN rfl (lH (by rw[OI,N]) (kS (λx=>gK x x) R5) (by exact bY (BY (nz U R5) 1) (by decide)) (cI rfl (aV (v:= .tup []) rfl ?_)))
 have Wm:SG[a.bk]?=QA (.dict (U3 p b a.td)):=h2.get 7 rfl
 generalize E:(run p b.ever).s=s at*
 have last: ∃r,b.ever.getLast?=QA r/\(da b.ever).getLast?=QA (gw r)/\R7 p b.ever b.ever.length=r.tm:=by
  rcases Nn b.ever with e|⟨l,r,e⟩
  ·exact(UC e).elim
  ·refine⟨r,by rw[e];simp,by rw[e];simp,?_⟩
   have hk:b.ever[l.length]?=QA r:=by rw[e];simp
   have:=cu (p:=p) hk
   rw[show l.length+1=b.ever.length by rw[e];simp] at this
   exact this
 obtain⟨r,-,YQ,Ys⟩:=last
 have rest:a8 P (RL P (d+7)) (ss [.a 8 (.RT [2,1,2,1,9,0,0,0]),
 .i (.c .ne (.m RJ 52 .nil) (.tup (es [.b .add bj (.y .len (es [RN])),.sub (.sub (.sub ah (.str 6)) (.int (-1))) (.int 0),aP,.y .tuple (es [au]),a9]))) (ss [.k]) .nil,
 .a 9 (.p (.tup (es [.sub aq (.int 0),.sub aq (.int 1),.int 0,.sub aq (.int 2)])) [11] (.l (.sub ah (.str 6)) (.b .sub (.sub ah (.str 13)) bj) .none) .nil),
 .ret (.c .eq (.p (.m dW 52 .nil) [12] (.t aa 34) .nil) aR)]) (λJ Z=>Q .none Z) Q (λJ J=>False) (λJ J=>False) (λc J Z=>X c Z)
   [QA (.ref a.st),QA (.ref a.ma),QA (.ref a.bk),QA (.list (R5.map aY)),QA (.list ((dP (run p b.ever).D).map ZF)),QA (eG s),QA (.int p.first),QA (.tup (lT p.RV s)),QC,QC,QC,QC,QC] SG:=by
  refine aV rfl (aK (bh (ai rfl (h2.get 3 rfl) rfl rfl (Lk (cl:=p.RV) (s:=s) (h2.swap [_,_,_] [_,_,_,_]) Wo.1 Wo.2 (by rw[H];exact sc2) Rl RZ λK Vf=>?_))))
  have h3:Holds (TZ a p g m b wl) K:=Vf.swap [_,_,_,_] [_,_,_]
  have L:K[a.bk]?=QA (.dict (U3 p b a.td)):=h3.get 7 rfl
  refine fS (aj (ae (v:= .int ((p.first:Int)+R5.length)) _ (aJ rfl (bF (l:=R5) (f:=aY) rfl) rfl) (aj (ae (v:= .int r.tm) _ (bp (bp (ay rfl L rfl rfl) rfl (eV YQ)) rfl rfl) (aj (ae aP rfl (aj (cz (aj (ae au rfl (aE (rK (aj (ae a9 rfl (aE ?_)))))))))))))))
  have Tg:((SN m.D [100] [101] (SM (m.D.map (·.1)))).map λq=>ZF (q.1.drop 1,q.2))=(dP (run p b.ever).D).map ZF:=by
   rw[<- sc1,H,Nz];rfl
  have W:m.ap=(p.first:Int)+R5.length:=by rw[map,Xc];exact rfl
  have Y:m.tm=(r.tm:Nat):=by rw[mtm,Ys]
  have Xd:ew (lT p.RV s) (lT p.RV s)=QD/\TN.US (lT p.RV s)<=1:=by
   cases s with
   |none=>exact⟨rfl,Mi _⟩
   |some t=>exact⟨rfl,AS _⟩
  have hpr:=kS (f:=ZF) (λx=>rfl) (dP (run p b.ever).D)
  have hvr:=nz (f:=ZF) (n:=1) (λx=>AS _) (dP (run p b.ever).D)
  refine lH (by rw[W,Y,Tg]) ?_ ?_ (cI rfl ?_)
  ·show(QD&&(QD&&(QD&&(ew _ _&&(ew _ _&&QD)))))=QD
   rw[hpr,Xd.1];rfl
  ·show 1+max 0 (max 0 (max 0 (max (1+TN.US _) (max (1+TN.US _) 0))))<=20
   exact bY (BY (m:=1+1) (MA.mpr ⟨Mi _,MA.mpr ⟨Mi _,MA.mpr ⟨Mi _,MA.mpr ⟨BY hvr 1,MA.mpr ⟨BY Xd.2 1,Mi _⟩⟩⟩⟩⟩) 1) (by decide)
  have YF:g.SO<=b.ever.length:=by rw[<- Ri];exact bY ‹_› ‹_›
  refine av (il (bN (ay rfl L rfl rfl) (aJ (ay rfl L rfl rfl) rfl rfl) (z:= .none) rfl (fy (a:=g.SO) (bc (by rw[zgb];exact RW 0x1C95054540552040 rfl) (SD 0x61EE6B28005402060002060A01401060040 rfl B w YF)) (dD _) ?_)))
  rw[L5]
  refine⟨_,rfl,fk (wl:=TZ a p g m b wl) (f:=gw) (g:=jr) (b.ever.drop g.SO) [] K (λx J RM h' Q' F=>ae (v:=jr x) _ rfl (F RM h')) h3 λT6 h4=>?_⟩
  have ZY:g.sl=b.ever.drop g.SO:=by rw[I.L.sl,Ri]
  refine aW (bh (il (ae (v:= .list (bA g.sl)) _ (af rfl (h4.get 0 rfl) rfl) ⟨_,rfl,?_⟩)))
  refine fk (wl:=TZ a p g m b wl) (f:=fW) (g:=jr) g.sl [] T6 (λx J RM h' Q' F=>ip (v:=fW x) rfl rfl rfl rfl (Ic (F RM h'))) h4 λWL G=>?_
  have vd:TN (.list ((b.ever.drop g.SO).map jr))<=20:=by
   have:=qS (b.ever.drop g.SO)
   exact bY (BY this 1) (by decide)
  exact ae (v:= .list ((b.ever.drop g.SO).map jr)) aR rfl (xw (by rw[OI,ZY]) (mR _) vd (q WL))
 cases s with
 |none=>exact aO (t:=QE) rfl rfl rest
 |some t=>exact cL (t:=QD) rfl rfl (aV (v:= .tup (lT p.RV (QA t))) (gv (aA (gv (aA (ay rfl Wm rfl rfl) (aA rfl (aA rfl (aA rfl rfl))))) rfl)) (aw rest))
end
end
section
structure B7 (p:fQ) (b0 b:BS):Prop where
 now:b.now=b0.now
 ever:b.ever=b0.ever
 com:b.com=b0.com
 st:(b.stored=b0.stored/\b.hd=b0.hd/\b.app=b0.app)\/(b.stored=b0.now/\b.hd=p.first+b0.com)
section
variable {d k bd:Nat}
theorem Ok.mono {Sk:Nat} (I:Ok p g m b k bd) (h:bd<=Sk) (h':Sk<=40):Ok p g m b k Sk:=
 {I with ln:=bY I.ln h,le:=bY I.le h,ls:=bY I.ls h,tb:=by have:=I.tb;exact SD 0x604836412580900818120D90096024020E0040 rfl h this,bd:=h'}
theorem Ok.next (I:Ok p g m b k bd) (h:Holds (TZ a p g m b wl) Z) (q:Q (.bool (decide (b.app<b.com))) Z):RL P (d+4) 108 [.ref a.lg] Q X Z:=by
 have z1:=I.gb;have z2:=I.gc;have z3:=I.ga;have z4:=I.o1;have z5:=I.o2
 refine CF (Lg.of h) (Up 0x705520855520050600C40601018620C2062040 rfl z1 z3 z4 z5) ?_
 have e:decide (((p.first+g.app:Nat):Int)<(p.first+g.com:Nat))=decide (b.app<b.com):=by rw[decide_eq_decide];exact⟨λzh=>iK 0x610430715520045520848620C2062040 rfl z2 z3 zh,λzh=>iK 0x715520045520840610430620C2862040 rfl z2 z3 zh⟩
 rw[e];exact q
theorem Ok.Qk (I:Ok p g m b k bd) (h:Holds (TZ a p g m b wl) Z) (q:Q (.bool QD) Z):RL P (d+3) 127 [.ref a.lg,.ref a.ma,.ref a.bk] Q X Z:=
 Hi h I.gc I.ga I.L.last I.M.ap I.M.du q
theorem vb {d:Nat} {N:Env->H->Prop} {R:V->H->Prop} (P0:oW p) {b0:BS}: ∀(vs:List V) (g:GS) (m:MS) (b:BS) (k:Nat) (Z:H) (w:Option V),b.com-b.app<vs.length->Ok p g m b k bd->B7 p b0 b->Holds (TZ a p g m b wl) Z->
  (∀g m b k Z w,Ok p g m b k bd->B7 p b0 b->b.app=b.com->Holds (TZ a p g m b wl) Z->N [QA (.ref a.lg),QA (.ref a.st),QA (.ref a.ma),QA (.ref a.bk),w] Z)->
  TG (λN' B' C' Y Z=>a8 P (RL P (d+8)) (ss [.i (.not (.m aa 44 .nil)) (ss [.brk]) .nil,
  .i (.not (.call 122 (es [aa,RJ,ah,RN,.tt]))) (ss [.k]) .nil]) N' R B' C' (λJ J J=>False) Y Z) [4] vs N [QA (.ref a.lg),QA (.ref a.st),QA (.ref a.ma),QA (.ref a.bk),w] Z:=by
 intro vs
 induction vs with
 |nil=>intro g m b k Z w j;simp at j
 |cons v t ih=>
  intro g m b k Z w j I J h q
  simp only[Mb] at j
  refine cx λK D=>(aK (eQ (ai rfl (Lg.of h).l rfl rfl (I.next h ⟨_,rfl,?_⟩))))
  by_cases c:b.app<b.com
  ·refine cI (by rw[iF c];rfl) (aK (eQ (aC (vs:=[.ref a.lg,.ref a.st,.ref a.ma,.ref a.bk,.bool QD]) rfl (EA (t:=QD) P0 I h λn F f E s e r h1 C h'=>⟨_,rfl,cI rfl (aw ?_)⟩))))
   have u:=C c
   have o:f.com=b.com:=by rw[e];rfl
   have x:f.app=n:=by rw[e]
   have y:f.now=b.now:=by rw[e];rfl
   have z:f.ever=b.ever:=by rw[e];rfl
   have A:f.stored=b.now:=by rw[e];rfl
   have B:f.hd=p.first+b.com:=by rw[e];rfl
   exact D _ _ (ih _ F f E s _ (by rw[o,x];exact dO (Pk c u) (N4 j)) r ⟨y.trans J.now,z.trans J.ever,o.trans J.com,.inr ⟨A.trans J.now,by rw[B,J.com]⟩⟩ h' q)
  ·have:b.app=b.com:=L2 I.o3 (MN.mp c)
   exact iu (by rw[aS c];rfl) (q g m b k Z _ I J this h)
theorem ED (P0:oW p) (I:Ok p g m b k bd) (h:Holds (TZ a p g m b wl) Z)
  (q: ∀g' m' b' k' RM,Ok p g' m' b' k' bd->B7 p b b'->b'.app=b'.com->Holds (TZ a p g' m' b' wl) RM->Q (.bool QD) RM):RL P (d+9) 128 [.ref a.lg,.ref a.st,.ref a.ma,.ref a.bk] Q X Z:=by
 have i:Z[a.bk]?=QA (.dict (U3 p b a.td)):=h.get 7 rfl
 have zl:=I.le;have j:=I.bd;have n:=I.o5
 refine ao [QA (.ref a.lg),QA (.ref a.st),QA (.ref a.ma),QA (.ref a.bk),QC] rfl rfl (dh (cz (aj (ae (v:= .int ((b.ever.length:Int)+1)) _ (aJ (bF (ay rfl i rfl rfl)) rfl rfl) (aE ⟨RW 0x710F42401114C1051540060A01401060040 rfl zl j,aX 0x1C530414550160F4240111 rfl,_,rfl,?_⟩)))))
 refine vb (R:=Q) P0 _ g m b k Z _ (by simp[eF];exact SD 0x61481050042060002060040 rfl n (Ot _ _)) I ⟨rfl,rfl,rfl,.inl ⟨rfl,rfl,rfl⟩⟩ h λg' m' b' k' RM w c f e h'=>(aW (cU (eQ (ai rfl (Lg.of h').l rfl rfl (c.next h' ⟨_,rfl,?_⟩)))))
 rw[aS (by exact RW 6873030205504 rfl e)]
 exact iu rfl (fR (aC (vs:=[.ref a.lg,.ref a.ma,.ref a.bk]) rfl (c.Qk h' (q g' m' b' k' RM c f e h'))))
theorem ZC.unique {x y:List bG} {n n':Nat} (A:ZC x y n) (B:ZC x y n'):n=n':=by
 have key: ∀{n n':Nat},ZC x y n->ZC x y n'-> ¬n<n':=λ{n n'} A B h=>by
  have a:y[n]?=QA (y[n]'(by have:=B.lb;exact dO ‹_› ‹_›)):=As _
  have b:=jj B.eq h
  exact A.ne _ _ (b.trans a) a rfl
 exact L2 (MN.mp (key B A)) (MN.mp (key A B))
theorem wK {y:Nat} (P0:oW p) (I:Ok p g m b k bd) (hb:bd+2<=40) (h:Holds (TZ a p g m b wl) Z)
  (q: ∀g' b' RM,Ok p g' m b' k (bd+2)->((∃n,ZC b.now b.ever n/\n<b.ever.length)/\b'.now=b'.ever\/ZC b.now b.ever b.ever.length/\b'.now.take b'.ever.length=b'.ever/\b'.ever.length<=b'.now.length/\b'.app<b'.now.length)->Holds (TZ a p g' m b' wl) RM->Q (.bool QD) RM):
  RL P (d+7) 120 [.ref a.lg,.ref a.bk,.int y] Q X Z:=by
 have z1:=I.gb;have z2:=I.o1;have z3:=I.o2;have z4:=I.o3;have z5:=I.o4;have o:=I.o5;have zl:=I.le;have zb:=I.bd;have zf:=P0.f1
 refine Hc h I.L I.gc I.ag I.o4 I.o5 (iK 0x601000601030600C2060081062040 rfl z1 z2 z3 z4) I.re.from (bY ‹_› ‹_›) I.c1 I.tn (dO ‹_› (aT rfl)) P0.cl (λn c RM A t j h'=>?_) (λbf rows T c RM A F j h'=>?_)
 ·exact me (I.Vc hb A t j) λl u v=>(q _ _ RM l (.inl ⟨⟨n,A,t⟩,u.trans v.symm⟩) h')
 ·have l:=I.Vb hb A F j
  refine q _ _ RM l (.inr ⟨A,?_⟩) h'
  have s:=F.le;have f:=F.ev
  have i:=M3.mpr F.ne
  have e:(b.now.take bf++rows).length=bf+rows.length:=by rw[LU,LY,IS (by exact RW 6598143901760 rfl s)]
  have w:(b.now.take bf++rows).take b.ever.length=b.ever:=by
   rw[M0 (by rw[LY];exact SD 0x60080862042060040 rfl f (IS (RW 6598143901760 rfl s))),Ob,IS f]
   have:=A.eq
   rw[L5] at this
   exact this
  show(b.now.take bf++rows).take (if b.ever.length<max b.com c then(b.now.take bf++rows).take (max b.com c) else b.ever).length=(if b.ever.length<max b.com c then(b.now.take bf++rows).take (max b.com c) else b.ever)/\
   (if b.ever.length<max b.com c then(b.now.take bf++rows).take (max b.com c) else b.ever).length<=(b.now.take bf++rows).length/\b.app<(b.now.take bf++rows).length
  by_cases r:b.ever.length<max b.com c
  ·rw[L6 r]
   refine⟨?_,by rw[LY];exact RW 6598143901760 rfl (Mm _ _),Up 0x18450218921031418440100600C2060081060040 rfl z4 o f i e⟩
   rw[LY,IS (by exact MA.mpr ⟨iK 0x18040218920C2101843010060081060040 rfl o f i e,bQ 0x600C0862482043060482040 rfl j e⟩)]
  ·rw[L4 r]
   exact⟨w,bQ 0x18030218920810C1842010060040 rfl f i e,Up 0x18450218921031418440100600C2060081060040 rfl z4 o f i e⟩
end
end
section
open Classical in
theorem rL (h: ∀v∈vs,∃j,v=V.int j) (hl:vs.length<=8) (q: ∀t,Q t):cP Z .isin (.int i) (.tup vs) Q:=⟨h,hl,q _⟩
theorem C9 {A B:Prop} (ha:A) (hb:B): ∃b',truth Z (.bool t)=QA b'/\match b' with
   |true=>A
   |false=>B:=by
 cases t with
 |true=>exact⟨QD,rfl,ha⟩
 |false=>exact⟨QE,rfl,hb⟩
section
variable {d k bd y:Nat}
noncomputable abbrev lE (x0 x1 x2 x3 x4 x5 x6 x7:V) (st lg ma bk:Nat) (VB w13 V1 V2 X8 w17 w18 w19 XT VW:Option V):Env:=
 [QA x0,QA x1,QA x2,QA x3,QA x4,QA x5,QA x6,QA x7,QA (.ref st),QA (.ref lg),QA (.ref ma),QA (.ref bk),VB,w13,V1,V2,X8,w17,w18,w19,XT,VW]
def kA (p:fQ) (a:Ad) (bd:Nat) (wl:List (Nat×O)) (x0 x1 x2 x4 x5 x6 x7:V) (VB XT VW:Option V) (K:Env->H->Prop):Prop:=
 ∀a' g' m' b' k' w13 V1 V2 w17 w18 w19 RM,a'.st=a.st->a'.bk=a.bk->Ok p g' m' b' k' (bd+2)->Holds (TZ a' p g' m' b' wl) RM->K (lE x0 x1 x2 (.int p.first) x4 x5 x6 x7 a.st a'.lg a'.ma a.bk VB w13 V1 V2 (QA (.bool QD)) w17 w18 w19 XT VW) RM
theorem kA.nil (h:kA p a bd wl x0 x1 x2 x4 x5 x6 x7 VB XT VW K):kA p a bd wl x0 x1 x2 x4 x5 x6 x7 VB XT VW (λY Z=>a8 P cl (ss []) K R B C X Y Z):=h
abbrev S7:Ss:=ss [.i (.c .eq bV (.int 11)) (ss [.a 16 (.call 126 (es [aM,aq]))]) (ss [.a 16 (.call 122 (es [aR,aP,aM,aq,.c .gt (.b .mod bH (.int 3)) (.int 0)]))])]
abbrev S6:Ss:=ss [.i (.c .isin bV (.tup (es [.int 3,.int 9]))) (ss [.a 19 (.call 125 (es [aP,aM,aq,bH])),
        .i (.c .is bD .none) (ss [.k]) .nil,
        .u [10,9] bD]) S7]
abbrev S5:Ss:=ss [.i (.c .isin bV (.tup (es [.int 1,.int 10]))) (ss [.expr (.m (.t aM 21) 25 .nil),
       .expr (.m aM 9 .nil),
       .C aq (.str 12) (.sub aq (.str 2))]) S6]
abbrev S4:Ss:=ss [.i (.and (es [.c .eq bV (.int 1),.c .gt (.sub aq (.str 12)) (.sub aq (.str 13))])) (ss [.expr (.call 123 (es [aR,aP,aq,bH]))]) S5]
abbrev S3:Ss:=ss [.i (.c .eq bV (.int 5)) (ss [.expr (.call 121 (es [aR,aP,aq,.c .eq (.b .mod bH (.int 2)) (.int 0)]))]) S4]
abbrev S2:Ss:=ss [.i (.c .eq bV (.int 6)) (ss [.a 17 (.call 118 (es [aq])),
    .i (.c .eq k9 (.y .len (es [.sub aq (.str 6)]))) (ss [.a 17 (.y .len (es [.sub aq (.str 4)]))]) .nil,
    .a 18 (.b .add (.sub aq (.str 3)) (.b .mod bH (.b .add (.b .sub (.b .add RN k9) (.sub aq (.str 3))) (.int 1)))),
    .expr (.m aR 38 (es [jx])),
    .expr (.call 119 (es [aq,jx]))]) S3]
theorem Ga (P0:oW p) (I:Ok p g m b k bd) (hb:bd+2<=40) (h:Holds (TZ a p g m b wl) Z) (q:kA p a bd wl x0 x1 x2 x4 x5 x6 x7 VB XT VW K):
  a8 P (RL P (d+10)) S7 K R B C X (lE x0 x1 x2 (.int p.first) x4 x5 x6 x7 a.st a.lg a.ma a.bk VB w13 (QA (.int z)) (QA (.int y)) (QA (.bool QD)) w17 w18 w19 XT VW) Z:=by
 have w:=I.o3;have zn:=I.o4;have zl:=I.ln;have zb:=I.bd;have zf:=P0.f1
 refine yr (t:=decide (z=11)) rfl (λJ=>?_) (λJ=>?_)
 ·have i:=cH I.re b.app (by have:=I.o5;exact bY ‹_› ‹_›)
  have s:R7 p b.now b.app=R7 p b.ever b.app:=cE (p:=p) I.ag w
  have j:R7 p b.now b.app<100000:=by
   unfold R7
   split
   ·have:=P0.t1;exact dO ‹_› (aT rfl)
   ·split
    ·rename_i r o
     exact(I.rn _ r o).2.1
    ·decide
  exact av (aC (vs:=[.ref a.ma,.ref a.bk]) rfl (Hh h (by rw[I.M.D,s];exact i.app) (bY ‹_› ‹_›) (RW 0x1801902401060001060A01412081400 rfl hb zl) (dO ‹_› (aT rfl)) j I.M.ap λc h'=>aw (q a g (VH p b m) b k _ _ _ _ _ _ c rfl rfl (I.VH.mono (LX _ _) hb) h')))
 ·exact av (aC (vs:=[.ref a.lg,.ref a.st,.ref a.ma,.ref a.bk,.bool (decide ((0:Int)<(y:Int)%3))]) rfl (EA P0 I h λn v l u c e f h1 h2 h'=>aw (q a _ v l u _ _ _ _ _ _ c rfl rfl (f.mono (LX _ _) hb) h')))
theorem F9 (P0:oW p) (I:Ok p g m b k bd) (hb:bd+2<=40) (h:Holds (TZ a p g m b wl) Z) (q:kA p a bd wl x0 x1 x2 x4 x5 x6 x7 VB XT VW K):
  a8 P (RL P (d+10)) S6 K R B C X (lE x0 x1 x2 (.int p.first) x4 x5 x6 x7 a.st a.lg a.ma a.bk VB w13 (QA (.int z)) (QA (.int y)) (QA (.bool QD)) w17 w18 w19 XT VW) Z:=by
 refine aK (bh (ae bV rfl (ae (v:= .tup [.int 3,.int 9]) _ rfl (rL (by simp) (aB rfl) λt=>C9 ?_ ?_))))
 ·refine av (aC (vs:=[.ref a.st,.ref a.ma,.ref a.bk,.int y]) rfl (EC P0 I hb h λf l o n e i j c h'=>(aO (t:=QE) rfl rfl (cD (ae bD rfl ⟨by decide,rfl,aw (aw ?_)⟩)))))
  exact q f l o _ k _ _ _ _ _ _ e i j c h'
 ·exact Ga P0 I hb h q.nil
theorem F8 (P0:oW p) (I:Ok p g m b k bd) (hb:bd+2<=40) (h:Holds (TZ a p g m b wl) Z) (q:kA p a bd wl x0 x1 x2 x4 x5 x6 x7 VB XT VW K):
  a8 P (RL P (d+10)) S5 K R B C X (lE x0 x1 x2 (.int p.first) x4 x5 x6 x7 a.st a.lg a.ma a.bk VB w13 (QA (.int z)) (QA (.int y)) (QA (.bool QD)) w17 w18 w19 XT VW) Z:=by
 refine aK (bh (ae bV rfl (ae (v:= .tup [.int 1,.int 10]) _ rfl (rL (by simp) (aB rfl) λt=>C9 ?_ ?_))))
 ·have l:Holds ((a.sr,YA a.nw a.bt m.kept m.last)::(a.nw,.dict (dV m.D))::(a.bt,.list (m.TK.map YJ))::Vu a p g ((a.ma,oMa a.sr m.ap m.tm l9 m.du p.sy)::Uq a p b wl)) Z:=Holds.swap [_,_,_,_] [_,_,_] h
  refine ax (ai (af rfl (h.get 3 rfl) rfl) (h.get 4 rfl) rfl rfl (Hl l (l.get 2 rfl) λn i=>?_))
  rw[LZ] at i
  have e:Holds (TZ a p g {m with kept:=m.TK.length} b wl) n:=Holds.swap [_,_,_] [_,_,_,_] i
  refine ax (ai rfl (e.get 3 rfl) rfl rfl (FO (e.swap [_,_,_] [_,_,_,_]) λc j=>?_))
  rw[LZ,L6 rfl] at j
  have f:Holds (TZ a p g {m with kept:=m.TK.length,du:=m.ap} b wl) c:=j.swap [_,_,_,_] [_,_,_]
  have r:c[a.bk]?=QA (.dict (U3 p b a.td)):=f.get 7 rfl
  exact d6 f 7 rfl (ay rfl r rfl rfl) rfl rfl (aB rfl) λo s=>aw (aw (q a g _ _ k _ _ _ _ _ _ o rfl rfl (I.synced.mono (LX _ _) hb) s))
 ·exact F9 P0 I hb h q.nil
theorem F7 (P0:oW p) (I:Ok p g m b k bd) (hb:bd+2<=40) (h:Holds (TZ a p g m b wl) Z) (q:kA p a bd wl x0 x1 x2 x4 x5 x6 x7 VB XT VW K):
  a8 P (RL P (d+10)) S4 K R B C X (lE x0 x1 x2 (.int p.first) x4 x5 x6 x7 a.st a.lg a.ma a.bk VB w13 (QA (.int z)) (QA (.int y)) (QA (.bool QD)) w17 w18 w19 XT VW) Z:=by
 have i:Z[a.bk]?=QA (.dict (U3 p b a.td)):=h.get 7 rfl
 have e:=F8 (d:=d) (z:=z) (y:=y) (w13:=w13) (w17:=w17) (w18:=w18) (w19:=w19) (R:=R) (B:=B) (C:=C) (X:=X) P0 I hb h (q.nil (cl:=RL P (d+10)) (R:=R) (B:=B) (C:=C) (X:=X))
 refine aK (cU (ae _ (v:= .bool (decide (z=1))) rfl ?_))
 by_cases f:z=1
 ·refine iu (iF f) (fR (ae _ (aH (ay rfl i rfl rfl) (ay rfl i rfl rfl) rfl) ?_))
  by_cases c:b.SO<b.UJ
  ·refine iu (iF (SD 0x71552042552002061040 rfl c)) (ax (aC (vs:=[.ref a.lg,.ref a.st,.ref a.bk,.int y]) rfl (Hf h I.L I.gb c ?_ ?_ λj l=>aw (aw ?_))))
   ·have:=I.o2;have:=I.o3;have:=I.o4;exact bY ‹_› (bY ‹_› ‹_›)
   ·rw[I.gb];exact I.si
   ·exact q a _ m _ k _ _ _ _ _ _ j rfl rfl ((I.Xv c).mono (LX _ _) hb) l
  ·exact cI (aS (by exact SD 0x74552042552002064040 rfl c)) e
 ·exact cI (aS f) ⟨QE,by rw[aS f];rfl,e⟩
theorem F6 (P0:oW p) (I:Ok p g m b k bd) (hb:bd+2<=40) (h:Holds (TZ a p g m b wl) Z) (q:kA p a bd wl x0 x1 x2 x4 x5 x6 x7 VB XT VW K):
  a8 P (RL P (d+10)) S3 K R B C X (lE x0 x1 x2 (.int p.first) x4 x5 x6 x7 a.st a.lg a.ma a.bk VB w13 (QA (.int z)) (QA (.int y)) (QA (.bool QD)) w17 w18 w19 XT VW) Z:=by
 refine yr (t:=decide (z=5)) rfl (λJ=>?_) (λJ=>F7 P0 I hb h q.nil)
 exact ax (aC (vs:=[.ref a.lg,.ref a.st,.ref a.bk,.bool (decide ((y:Int)%2=0))]) rfl (wL h I.L λc e=>aw (aw (q a _ m _ k _ _ _ _ _ _ c rfl rfl ((I.stored _).mono (LX _ _) hb) e))))
theorem F5 (P0:oW p) (I:Ok p g m b k bd) (hb:bd+2<=40) (h:Holds (TZ a p g m b wl) Z) (q:kA p a bd wl x0 x1 x2 x4 x5 x6 x7 VB XT VW K):
  a8 P (RL P (d+10)) S2 K R B C X (lE x0 x1 x2 (.int p.first) x4 x5 x6 x7 a.st a.lg a.ma a.bk VB w13 (QA (.int z)) (QA (.int y)) (QA (.bool QD)) w17 w18 w19 XT VW) Z:=by
 have j:Z[a.bk]?=QA (.dict (U3 p b a.td)):=h.get 7 rfl
 have L:=I.o4;have ze:=I.o5;have zn:=I.ln;have zb:=I.bd;have zg:=I.gc
 refine yr (t:=decide (z=6)) rfl (λJ=>?_) (λJ=>F6 P0 I hb h q.nil)
 refine av (aC (vs:=[.ref a.bk]) rfl (CH j λn A=>?_))
 have u:=A.com I.ag I.o4 I.o5
 have E:=A.la
 have f: ∀c:Nat,b.com<=c->c<=b.now.length->(c=n\/n=b.ever.length)->a8 P (RL P (d+10)) (ss [.a 18 (.b .add (.sub aq (.str 3)) (.b .mod bH (.b .add (.b .sub (.b .add RN k9) (.sub aq (.str 3))) (.int 1)))),
    .expr (.m aR 38 (es [jx])),
    .expr (.call 119 (es [aq,jx]))]) (λY Z=>a8 P (RL P (d+10)) (ss []) K R B C X Y Z) R B C X (lE x0 x1 x2 (.int p.first) x4 x5 x6 x7 a.st a.lg a.ma a.bk VB w13 (QA (.int z)) (QA (.int y)) (QA (.bool QD)) (QA (.int c)) w18 w19 XT VW) Z:=by
  intro c l o G
  refine kE (pick y b.com c l) λto s o2 H=>(aV (v:= .int (p.first+to:Nat)) (aJ (ay rfl j rfl rfl) (r4 rfl (aJ (aJ rfl (ay rfl j rfl rfl) rfl) rfl rfl) (by exact SD 0x714C1051515480093541542011060040 rfl l)) ?_) ?_)
  ·show QA (V.int (((p.first+b.com:Nat):Int)+(y:Int)%((p.first:Int)+c-(p.first+b.com:Nat)+1)))=_
   rw[show(p.first:Int)+c-(p.first+b.com:Nat)+1=(c:Int)-b.com+1 by exact SD 0x1C930414545425414C1051515482013541540 rfl,Og,P5,H];rfl
  refine ax (ai rfl (h.get 1 rfl) rfl rfl (zU h I.L.last (bQ 0x70552043552083060002060040 rfl o o2) λw l=>?_))
  have F:max ((p.first+g.com:Nat):Int) (p.first+to:Nat)=(p.first+max g.com to:Nat):=by rw[zg,MZ s];exact M9 (MJ.mpr (BY s _))
  rw[F] at l
  have D:Holds (TZ a p {g with com:=max g.com to} m b wl) w:=l
  exact ax (aC (vs:=[.ref a.bk,.int (p.first+to:Nat)]) rfl (CI (t:=to) (i:=7) D rfl rfl (SD 0x180FA02401060002060081060A01412081400 rfl hb L zn) (bQ 0x180FA02403060083060042060001060A01412081400 rfl hb zn o o2) λx o=>aw (aw (q a _ m _ k _ _ _ _ _ _ x rfl rfl ((I.commit A (bY o2 ‹c<=b.now.length›) (G.elim (λe=> .inl (by exact SD 0x60080062081060040 rfl o2 e)) .inr)).mono (LX _ _) hb) o))))
 refine yr (t:=decide ((n:Int)=b.ever.length)) (aH rfl (bF (ay rfl j rfl rfl)) rfl) (λr=>?_) (λr=>?_)
 ·have e:=of_decide_eq_true r
  exact aV (bF (ay rfl j rfl rfl)) (aw (f b.now.length (by assumption) (AS _) (.inr (RW 0x62040072541540 rfl e))))
 ·exact aw (f n u E (.inl rfl))
abbrev ud:Ss:=ss [.a 13 (.call 111 (es [RJ,dW])),
  .a 14 (.b .mod iq (.int 13)),
  .a 15 (.b .fdiv iq (.int 13)),
  .a 16 .tt,
  .i (.and (es [.c .isin bV (.tup (es [.int 0,.int 2,.int 4])),.c .lt (.y .len (es [.sub aq (.str 4)])) (.int 5)])) (ss [.a 16 (.call 120 (es [aR,aq,bH]))]) S2,
  .i (.or (es [.not eD,.not (.call 127 (es [aR,aM,aq]))])) (ss [.k]) .nil]
theorem turn {nums:List Nat} {i:Nat} (P0:oW p) (I:Ok p g m b k bd) (hb:bd+2<=40) (h:Holds (TZ a p g m b wl) Z) (hl:0<nums.length) (WC:nums.length<=10) (hn: ∀x∈nums,x<999983) (hi:i<100)
  (q:kA p a bd wl x0 (.list (nats nums)) x2 x4 x5 x6 x7 (QA (.int i)) XT VW K):
  a8 P (RL P (d+10)) ud K R B C X (lE x0 (.list (nats nums)) x2 (.int p.first) x4 x5 x6 x7 a.st a.lg a.ma a.bk (QA (.int i)) w13 V1 V2 X8 w17 w18 w19 XT VW) Z:=by
 have w:Z[a.bk]?=QA (.dict (U3 p b a.td)):=h.get 7 rfl
 refine av (aC (vs:=[.list (nats nums),.int i]) rfl (CG hl WC hn hi λx hx=>?_))
 have u:(x:Int)/13=(x/13:Nat):=by exact rfl
 refine aV (v:= .int ((x:Int)%13)) rfl (aV (v:= .int (x/13:Nat)) (by rw[<- u];rfl) (aV rfl ?_))
 have r:kA p a bd wl x0 (.list (nats nums)) x2 x4 x5 x6 x7 (QA (.int i)) XT VW (λY Z=>a8 P (RL P (d+10)) (ss [.i (.or (es [.not eD,.not (.call 127 (es [aR,aM,aq]))])) (ss [.k]) .nil]) K R B C X Y Z):=by
  intro f n D l A w13 V1 V2 w17 w18 w19 j s o e h'
  refine aK (xZ (ae (.not eD) (v:= .bool QE) rfl (cI rfl (xY (eQ (aC (vs:=[.ref f.lg,.ref f.ma,.ref f.bk]) (by rw[o];rfl) (e.Qk h' ⟨QD,rfl,cI rfl (aw ?_)⟩)))))))
  exact q f n D l A _ _ _ _ _ _ j s o e h'
 have c:=F5 (d:=d) (z:=(x:Int)%13) (y:=x/13) (w13:=QA (.int x)) (w17:=w17) (w18:=w18) (w19:=w19) (R:=R) (B:=B) (C:=C) (X:=X) P0 I hb h r
 refine aK (cU (bh (ae bV rfl (ae (v:= .tup [.int 0,.int 2,.int 4]) _ rfl (rL (by simp) (aB rfl) λt=>?_)))))
 cases t with
 |false=>exact cI rfl (cI rfl c)
 |true=>
  refine iu rfl (fR (ae _ (aH (bF (ay rfl w rfl rfl)) rfl rfl) (C9 ?_ c)))
  exact av (aC (vs:=[.ref a.lg,.ref a.bk,.int (x/13:Nat)]) rfl (wK P0 I hb h λn l j e J h'=>aw (r a n m l k _ _ _ _ _ _ j rfl rfl e h')))
end
end
section
section
variable {es ks:Es}
def Bt (cl:cw) (Q:V->H->Prop) (c f:Nat) (vs:List V) (Z:H):Prop:=cl f (.ref Z.length::vs) (λr RM=>r= .none/\Q (.ref Z.length) RM) (λJ J=>False) (Z++[.inst c []])
theorem wB (hi:pr.init c=QA f) (h:js pr cl es Y (Bt cl Q c f) R3 Z):wE pr cl (.new c QE es) Y Q R3 Z:=⟨f,hi,h⟩
theorem tP (h:Holds wl Z) (q: ∀st RM,Holds ((st,XB (UL (Qm A) 0 (Qm A)) (.U1 21 (WO A B' C D' f)) (VG (Qm A) (Qm A) (.U1 21 (WO A B' C D' f)) (.RT [])) (Qm A) (Qm A) [])::wl) RM->Q (.ref st) RM):Bt (RL P (d+2)) Q 26 76 [.U1 21 (WO A B' C D' f)] Z:=
 Lp (h.new _) λRM h'=>⟨rfl,q _ RM h'⟩
def Br (Q:V->H->Prop) (ks:List V) (vs:List V) (Z:H):Prop:=tQ ks=QD/\ks.Nodup/\ks.length=vs.length/\Q (.ref Z.length) (Z++[.dict (ks.zip vs)])
theorem CE (hk:jH pr ks Y Z=QA kvs) (h:js pr cl vs Y (Br Q kvs) R3 Z):wE pr cl (.dict ks vs) Y Q R3 Z:=lR ks hk h
theorem C6 (h:Holds wl Z) (h1:tQ kvs=QD) (h2:kvs.Nodup) (h3:kvs.length=vs.length) (q: ∀n RM,Holds ((n,.dict (kvs.zip vs))::wl) RM->Q (.ref n) RM):Br Q kvs vs Z:=⟨h1,h2,h3,q _ _ (h.new _)⟩
end
theorem r6 (h:c=5\/c=300\/c=0x8000000000000000):uq ((TO c).drop 1)=c/\c<2^64:=by
 rcases h with rfl|rfl|rfl<;>exact⟨by decide,by decide⟩
noncomputable def q7 (p:fQ) (hc:Nat):BS:=⟨[],[],[],[],0,hc,0,0,0,p.U4⟩
noncomputable def Ho (p:fQ) (ht:Int) (hc:Nat) (cv:V) (sT:Int) (Tz:V):GS:=⟨ht,0,hc,cv,p.first,sT,Tz,.RT [],0,p.U4,[],0,0,[],0⟩
def HM (p:fQ):MS:=⟨p.first,p.U4,p.first,1,1,(sb p).D,(sb p).TK⟩
theorem LI (P0:oW p) (h:hc<=p.first):Ok p (Ho p ht hc cv sT Tz) (HM p) (q7 p hc) 0 0 where
 L:=⟨rfl,AS _,AS _,rfl,AS _,rfl,λJ=>rfl,rfl,Mi _,Mi _,λk r h=>by simp[q7] at h,λk r h=>by simp[q7] at h⟩
 M:=⟨rfl,rfl,rfl,rfl,rfl,rfl⟩
 td:=rfl
 ak:=AS _
 ke:=AS _
 rn:=λi r h=>by simp[q7] at h
 re:=λi r h=>by simp[q7] at h
 rs:=λi r h=>by simp[q7] at h
 tn:=λr h=>by simp[q7] at h
 te:=λr h=>by simp[q7] at h
 ts:=λr h=>by simp[q7] at h
 ln:=AS _
 le:=AS _
 ls:=AS _
 tb:=by have:=P0.t1;show p.U4<=600+3*0;exact MK ‹_›
 bd:=Mi _
 c1:=λi x z h=>by simp[q7] at h
 c2:=λi x z h=>by simp[q7] at h
 c3:=λi x z h=>by simp[q7] at h
 fz:=λi r J h=>by simp[q7] at h
 gb:=rfl
 gc:=rfl
 ga:=rfl
 gh:=rfl
 si:=by show(p.first:Int)<=(p.first+0:Nat);exact aX 494043649803584 rfl
 o1:=AS _
 o2:=AS _
 o3:=AS _
 o4:=AS _
 o5:=AS _
 o6:=AS _
 ag:=rfl
 h1:=by show hc<=p.first+0;exact RW 0x1812010040060040 rfl h
 h2:=by show hc<=p.first+0;exact RW 0x1812010040060040 rfl h
 sy:=λJ=>rfl
section
variable {X:Nat->H->Prop}
theorem ui (P0:oW p) (hl:0<nums.length) (WC:nums.length<=10) (hn: ∀x∈nums,x<999983): ∀(is:List Nat) (a:Ad) (g:GS) (m:MS) (b:BS) (k bd:Nat) (Z:H) (VB w13 V1 V2 X8 w17 w18 w19:Option V),(∀i∈is,i<100)->bd+2*is.length<=20->a.st=st->a.bk=bk->Ok p g m b k bd->Holds (TZ a p g m b wl) Z->
  (∀a g m b k Z VB w13 V1 V2 X8 w17 w18 w19,a.st=st->a.bk=bk->Ok p g m b k 20->Holds (TZ a p g m b wl) Z->N (lE x0 (.list (nats nums)) x2 (.int p.first) x4 x5 x6 x7 st a.lg a.ma bk VB w13 V1 V2 X8 w17 w18 w19 XT VW) Z)->
  TG (λN' B' C' Y Z=>a8 P (RL P (d+10)) ud N' R B' C' (λJ J J=>False) Y Z) [12] (nats is) N (lE x0 (.list (nats nums)) x2 (.int p.first) x4 x5 x6 x7 st a.lg a.ma bk VB w13 V1 V2 X8 w17 w18 w19 XT VW) Z:=by
 intro is
 induction is with
 |nil=>intro a g m b k bd Z VB w13 V1 V2 X8 w17 w18 w19 j f c e I h q;exact q a g m b k Z _ _ _ _ _ _ _ _ c e (I.mono (by exact f) (by decide)) h
 |cons i t ih=>
  intro a g m b k bd Z VB w13 V1 V2 X8 w17 w18 w19 j f c e I h q
  simp only[Mb] at f
  subst c e
  exact cx λK u=>(turn P0 I (RW 0x60A01412081400060501412099481050040 rfl f) h hl WC hn (j i (.head _)) λo s y r w w13 V1 V2 w17 w18 w19 n c e l h'=>(u _ _ (ih o s y r w (bd+2) n _ _ _ _ _ _ _ _ (λx v=>j x (.tail _ v)) (by exact RW 0x60501412099052081400060501412099481050040 rfl f) c e l h' q)))
abbrev GW:Ss:=ss [.a 20 (.call 111 (es [RJ,.int 9])),
 .i (.and (es [.c .lt (.call 118 (es [aq])) (.y .len (es [.sub aq (.str 6)])),.not (.call 120 (es [aR,aq,dr]))])) (ss [.k]) .nil,
 .i (.not (.call 120 (es [aR,aq,dr]))) (ss [.k]) .nil,
 .expr (.m aR 38 (es [.b .add RN (.y .len (es [.sub aq (.str 4)]))])),
 .expr (.call 119 (es [aq,.b .add RN (.y .len (es [.sub aq (.str 4)]))])),
 .i (.not (.call 128 (es [aR,aP,aM,aq]))) (ss [.k]) .nil,
 .a 19 (.call 125 (es [aP,aM,aq,.b .fdiv dr (.int 3)])),
 .i (.or (es [.c .is bD .none,.not (.call 127 (es [.sub bD (.int 1),.sub bD (.int 0),aq]))])) (ss [.k]) .nil,
 .u [10,9] bD,
 .ret (.and (es [.call 128 (es [aR,aP,aM,aq]),.call 129 (es [aP,aM,aq])]))]
theorem Aw (P0:oW p) (hc:uq ((TO p.RV).drop 1)=p.RV) (I:Ok p g m b k 20) (h:Holds (TZ a p g m b wl) Z) (hl:0<nums.length) (WC:nums.length<=10) (hn: ∀x∈nums,x<999983)
  (q: ∀RM,Q (.bool QD) RM):
  a8 P (RL P (d+10)) GW (λJ Z=>Q .none Z) Q (λJ J=>False) (λJ J=>False) (λc J Z=>X c Z) (lE x0 (.list (nats nums)) x2 (.int p.first) x4 x5 x6 x7 a.st a.lg a.ma a.bk VB w13 V1 V2 X8 w17 w18 w19 XT VW) Z:=by
 refine av (aC (vs:=[.list (nats nums),.int (9:Nat)]) rfl (CG hl WC hn (by decide) λx hx=>?_))
 have r: ∀(g:GS) (b:BS) (Z:H),Ok p g m b k 22->ZC b.now b.ever b.ever.length->Holds (TZ a p g m b wl) Z->
   a8 P (RL P (d+10)) (ss [.i (.not (.call 120 (es [aR,aq,dr]))) (ss [.k]) .nil,
 .expr (.m aR 38 (es [.b .add RN (.y .len (es [.sub aq (.str 4)]))])),
 .expr (.call 119 (es [aq,.b .add RN (.y .len (es [.sub aq (.str 4)]))])),
 .i (.not (.call 128 (es [aR,aP,aM,aq]))) (ss [.k]) .nil,
 .a 19 (.call 125 (es [aP,aM,aq,.b .fdiv dr (.int 3)])),
 .i (.or (es [.c .is bD .none,.not (.call 127 (es [.sub bD (.int 1),.sub bD (.int 0),aq]))])) (ss [.k]) .nil,
 .u [10,9] bD,
 .ret (.and (es [.call 128 (es [aR,aP,aM,aq]),.call 129 (es [aP,aM,aq])]))]) (λJ Z=>Q .none Z) Q (λJ J=>False) (λJ J=>False) (λc J Z=>X c Z) (lE x0 (.list (nats nums)) x2 (.int p.first) x4 x5 x6 x7 a.st a.lg a.ma a.bk VB w13 V1 V2 X8 w17 w18 w19 (QA (.int x)) VW) Z:=by
  intro g b Z I A h
  refine aK (eQ (aC (vs:=[.ref a.lg,.ref a.bk,.int x]) rfl (wK P0 I (by decide) h λf b1 O j S l=>⟨QD,rfl,cI rfl ?_⟩)))
  have M:b1.now.take b1.ever.length=b1.ever/\b1.ever.length<=b1.now.length/\b1.app<b1.now.length:=by
   rcases S with⟨⟨n,An,hn⟩,-⟩|⟨-,h⟩
   ·have:=An.unique A;exact⟨False.elim (RW 0x865040061040 rfl hn this),⟨bQ 0x200C2862040061040 rfl hn this,bQ 0x210C2862040061040 rfl hn this⟩⟩
   ·exact h
  refine me M λw z Y=>?_
  have A1:ZC b1.now b1.ever b1.ever.length:=⟨z,AS _,by rw[w,L5],λx y J hy=>absurd (ba hy) (NQ _)⟩
  have K:O[a.bk]?=QA (.dict (U3 p b1 a.td)):=l.get 7 rfl
  have zg:=j.gc;have zc:=j.o4;have zl:=j.ln;have zb:=j.bd
  refine ax (ai rfl (l.get 1 rfl) rfl (vs:=[.int (p.first+b1.now.length:Nat)]) (aA (aJ rfl (bF (ay rfl K rfl rfl)) rfl) rfl) (zU l j.L.last (RW 0x70552040552040 rfl) λSG L=>?_))
  have ec:max ((p.first+f.com:Nat):Int) (p.first+b1.now.length:Nat)=(p.first+max f.com b1.now.length:Nat):=by have hz:f.com<=b1.now.length:=(SD 0x60080060081062040 rfl zg zc);rw[MZ hz];exact M9 (MJ.mpr (BY hz _))
  rw[ec] at L
  have ZQ:Holds (TZ a p {f with com:=max f.com b1.now.length} m b1 wl) SG:=L
  have Wm:SG[a.bk]?=QA (.dict (U3 p b1 a.td)):=ZQ.get 7 rfl
  refine ax (aC (vs:=[.ref a.bk,.int (p.first+b1.now.length:Nat)]) (aA rfl (aA (aJ rfl (bF (ay rfl Wm rfl rfl)) rfl) rfl)) (CI (t:=b1.now.length) (i:=7) ZQ rfl rfl (RW 0x180FA02400060482050581401060040 rfl zc zl) (VK ‹_› rfl) λSX s=>?_))
  have I3:=j.commit (to:=b1.now.length) A1 (AS _) (.inr rfl)
  have Vf:Holds (TZ a p {f with com:=max f.com b1.now.length} m (TF b1 b1.now.length) wl) SX:=s
  have Wt:(TF b1 b1.now.length).ever=b1.now:=by
   show(if b1.ever.length<max b1.com b1.now.length then b1.now.take (max b1.com b1.now.length) else b1.ever)=b1.now
   by_cases c:b1.ever.length<max b1.com b1.now.length
   ·rw[L6 c,Nb (by exact RW 6598143901760 rfl (N9 _ _))]
   ·rw[L4 c,<- w,show b1.ever.length=b1.now.length by exact L2 (RW 6598143901760 rfl z) (SD 0x60002060042064040 rfl c (N9 _ _)),L5]
  have F:(TF b1 b1.now.length).com=b1.now.length:=by exact MZ ‹_›
  have X5:(TF b1 b1.now.length).now=b1.now:=rfl
  have R:(TF b1 b1.now.length).app=b1.app:=rfl
  generalize TF b1 b1.now.length=b3 at*
  refine aK (eQ (aC (vs:=[.ref a.lg,.ref a.st,.ref a.ma,.ref a.bk]) rfl (ED P0 I3 Vf λg4 m4 b4 k4 T6 I4 E W h4=>⟨QD,rfl,cI rfl ?_⟩)))
  have s4:b4.stored=b1.now/\b4.hd=p.first+b1.now.length:=by
   rcases E.st with⟨-,-,e⟩|⟨G,o⟩
   ·have:=E.com;exact⟨False.elim (H9 0x250468620850620C4862144062003862042061040 rfl M.2.2 F R W e this (MZ (SD 0x60080060081062040 rfl zg zc))),L2 (F3 0x204811C68620850620C4862144062003862042061040 rfl M.2.2 F R W e this) (F3 0x201D20468620850620C4862144062003862042061040 rfl M.2.2 F R W e this)⟩
   ·exact⟨G.trans X5,by rw[o,F]⟩
  have ey:(x:Int)/3=(x/3:Nat):=by exact rfl
  refine av (aC (vs:=[.ref a.st,.ref a.ma,.ref a.bk,.int (x/3:Nat)]) (by rw[<- ey];rfl) (EC P0 I4 (by decide) h4 λa5 g5 m5 n WL G o D h5=>(aK (xZ (ae (.c .is bD .none) (v:= .bool QE) rfl (cI rfl (xY (eQ (aC (vs:=[.ref a5.lg,.ref a5.ma,.ref a5.bk]) (by rw[o];rfl) (D.Qk h5 ⟨QD,rfl,cI rfl ?_⟩))))))))))
  refine cD (ae bD rfl ⟨by decide,rfl,?_⟩)
  refine aW (cU (aC (vs:=[.ref a5.lg,.ref a5.st,.ref a5.ma,.ref a5.bk]) (by rw[G,o];rfl) (ED P0 D h5 λg6 m6 b6 k6 XI I6 N e7 h6=>iu rfl (fR (aC (vs:=[.ref a5.st,.ref a5.ma,.ref a5.bk]) (by rw[G,o];rfl) ?_)))))
  have T:b6.ever=b1.now:=N.ever.trans (E.ever.trans Wt)
  have C:0<b1.now.length:=RW 426679499886656 rfl Y
  have U:b6.com=b1.now.length:=by
   rw[N.com]
   show max (b4.hd-p.first) n=_
   have l:=D.o3;have L:=D.o5
   have s:max (b4.hd-p.first) n<=b4.ever.length:=L
   rw[E.ever,Wt] at s
   rw[s4.2,Nat.add_sub_cancel_left] at s ⊢
   exact L2 (bY s (aX 393216 rfl)) (NH _ _)
  have V:b6.stored=b6.ever:=by
   rw[T]
   rcases N.st with⟨e,-,-⟩|⟨e,-⟩
   ·exact e.trans s4.1
   ·exact e.trans s4.1
  exact Hj P0 I6 h6 (by rw[e7,U,T]) V (by rw[T];exact M3.mp C) hc q
 have K:Z[a.bk]?=QA (.dict (U3 p b a.td)):=h.get 7 rfl
 refine aK (cU (bh (aC (vs:=[.ref a.bk]) rfl (CH K λn A=>(ae _ (bF (ay rfl K rfl rfl)) (uV ?_))))))
 by_cases c:n<b.ever.length
 ·refine iu (iF (Mo.mpr ‹_›)) (fR (eQ (aC (vs:=[.ref a.lg,.ref a.bk,.int x]) rfl (wK P0 I (by decide) h λf b1 O j S l=>⟨QD,rfl,cI rfl (r f b1 O j ?_ l)⟩))))
  rcases S with⟨-,e⟩|⟨B,-⟩
  ·rw[e]
   exact⟨AS _,AS _,rfl,λx y hx J=>absurd (ba hx) (NQ _)⟩
  ·have:=A.unique B;exact False.elim (RW 0x865040061040 rfl c this)
 ·have hn:n=b.ever.length:=by have:=A.lb;exact L2 (RW 6598143901760 rfl this) (RW 6597086953536 rfl c)
  rw[hn] at A
  exact cI (aS (by exact RW 0x74541540064040 rfl c)) ⟨QE,by rw[aS (by exact RW 0x74541540064040 rfl c)];rfl,r g b Z (I.mono (by decide) (by decide)) A h⟩
end
end
section
section
variable {X:Nat->H->Prop}
abbrev Bv:Ss:=ss [.u [3,4] (.call 112 (es [ah])),
 .a 5 (.sub (.list QD (es [.int 36,.int 0,.int 90,.int 20])) (.b .mod (.b .fdiv ah (.int 16)) (.int 4))),
 .a 6 (.sub (.list QD (es [.int 5,.int 300,.int 0x8000000000000000])) (.b .mod (.b .fdiv ah (.int 64)) (.int 3))),
 .a 7 (.new 21 QD (es [.list QD (es [.int 1,.int 2]),.list QD (es [.int 9]),.list QD .nil,.list QD .nil,.ff])),
 .a 8 (.new 26 QE (es [.new 21 QD (es [.list QD .nil,.list QD .nil,.list QD .nil,.list QD .nil,.ff])])),
 .i (.c .eq RN (.int 1)) (ss [.a 8 (.new 26 QE (es [a9]))]) (ss [.expr (.m aP 60 (es [.new 22 QD (es [RN,au,a9,.RT []])]))]),
 .a 9 (.new 28 QE (es [aP,aI])),
 .a 10 (.new 24 QE (es [.new 25 QE .nil])),
 .A aM 25 (.c .eq (.b .mod (.b .fdiv ah (.int 192)) (.int 5)) (.int 4)),
 .expr (.m aM 61 (es [RN,au,a9])),
 .a 11 (.dict (es [.str 0,.str 8,.str 5,.str 1,.str 4,.str 6,.str 9,.str 11,.str 3,.str 10,.str 2,.str 12,.str 13,.str 7]) (es [RN,au,aI,bj,.list QD .nil,.list QD .nil,.list QD .nil,.dict .nil .nil,RN,.t (.sub (.m aP 59 .nil) (.int 0)) 9,RN,RN,RN,au])),
 .f [12] (.y .VP (es [.int 1,.int 9])) ud,
 .a 20 (.call 111 (es [RJ,.int 9])),
 .i (.and (es [.c .lt (.call 118 (es [aq])) (.y .len (es [.sub aq (.str 6)])),.not (.call 120 (es [aR,aq,dr]))])) (ss [.k]) .nil,
 .i (.not (.call 120 (es [aR,aq,dr]))) (ss [.k]) .nil,
 .expr (.m aR 38 (es [.b .add RN (.y .len (es [.sub aq (.str 4)]))])),
 .expr (.call 119 (es [aq,.b .add RN (.y .len (es [.sub aq (.str 4)]))])),
 .i (.not (.call 128 (es [aR,aP,aM,aq]))) (ss [.k]) .nil,
 .a 19 (.call 125 (es [aP,aM,aq,.b .fdiv dr (.int 3)])),
 .i (.or (es [.c .is bD .none,.not (.call 127 (es [.sub bD (.int 1),.sub bD (.int 0),aq]))])) (ss [.k]) .nil,
 .u [10,9] bD,
 .ret (.and (es [.call 128 (es [aR,aP,aM,aq]),.call 129 (es [aP,aM,aq])]))]
theorem uZ {l:List Nat} (h:l.Nodup):(l.map V.str).Nodup:=List.pairwise_map.mpr (h.imp λa b=>a (V.str.inj b))
theorem xE {x0:V} {nums:List Nat} {s:Nat} {VW:Option V} (hs:s<3000000) (h:Holds [] Z) (hl:0<nums.length) (WC:nums.length<=10) (hn: ∀x∈nums,x<999983) (q: ∀RM,Q (.bool QD) RM):
  a8 P (RL P (d+10)) Bv (λJ Z=>Q .none Z) Q (λJ J=>False) (λJ J=>False) (λc J Z=>X c Z) [QA x0,QA (.list (nats nums)),QA (.int s),QC,QC,QC,QC,QC,QC,QC,QC,QC,QC,QC,QC,QC,QC,QC,QC,QC,QC,VW] Z:=by
 refine cD (aC (vs:=[.int s]) rfl (G6 hs λf t S f1 t0 t1 ft=>⟨by decide,rfl,?_⟩))
 obtain⟨_,hm,most,rfl⟩:=i9 (l:=[V.int 36,.int 0,.int 90,.int 20]) (P:=λv=> ∃n:Nat,v= .int n) (k:=s/16%4) (by
  intro v w
  simp only[tO,Mw,or_false] at w
  rcases w with h|h|h|h<;>subst h
  ·exact⟨36,rfl⟩
  ·exact⟨0,rfl⟩
  ·exact⟨90,rfl⟩
  ·exact⟨20,rfl⟩) (M6 _ (by show 0<4;decide))
 refine aV (v:= .int most) (bp rfl rfl (cR (k:=s/16%4) (rfl) hm)) ?_
 obtain⟨_,RZ,cl,N,rfl⟩:=i9 (l:=[V.int 5,.int 300,.int 0x8000000000000000]) (P:=λv=> ∃n:Nat,(n=5\/n=300\/n=0x8000000000000000)/\v= .int n) (k:=s/64%3) (by
  intro v w
  simp only[tO,Mw,or_false] at w
  rcases w with h|h|h<;>subst h
  ·exact⟨5,.inl rfl,rfl⟩
  ·exact⟨300,.inr (.inl rfl),rfl⟩
  ·exact⟨0x8000000000000000,.inr (.inr rfl),rfl⟩) (M6 _ (by show 0<3;decide))
 refine aV (v:= .int cl) (bp rfl rfl (cR (k:=s/64%3) (rfl) RZ)) ?_
 obtain⟨c1,c2⟩:=r6 N
 refine av (n9 (A:=[1,2]) (B':=[9]) (C:=[]) (D:=[]) (f:=QE) rfl h xj C0 mj mj λR8 T=>(av (wB rfl (aj (n9 (A:=[]) (B':=[]) (C:=[]) (D:=[]) (f:=QE) rfl T mj mj mj mj λSG W=>aE (tP W λXn SX r=>?_))))))
 have go: ∀(z:Nat) (G:Int) (j:Nat) (F E:V) (I:Int) (Z:H),j<=f->Holds [(z,XB (UL G 0 j) F (VG f I E (.RT [])) f t [])] Z->
   a8 P (RL P (d+10)) (ss [.a 9 (.new 28 QE (es [aP,aI])),
 .a 10 (.new 24 QE (es [.new 25 QE .nil])),
 .A aM 25 (.c .eq (.b .mod (.b .fdiv ah (.int 192)) (.int 5)) (.int 4)),
 .expr (.m aM 61 (es [RN,au,a9])),
 .a 11 (.dict (es [.str 0,.str 8,.str 5,.str 1,.str 4,.str 6,.str 9,.str 11,.str 3,.str 10,.str 2,.str 12,.str 13,.str 7]) (es [RN,au,aI,bj,.list QD .nil,.list QD .nil,.list QD .nil,.dict .nil .nil,RN,.t (.sub (.m aP 59 .nil) (.int 0)) 9,RN,RN,RN,au])),
 .f [12] (.y .VP (es [.int 1,.int 9])) ud,
 .a 20 (.call 111 (es [RJ,.int 9])),
 .i (.and (es [.c .lt (.call 118 (es [aq])) (.y .len (es [.sub aq (.str 6)])),.not (.call 120 (es [aR,aq,dr]))])) (ss [.k]) .nil,
 .i (.not (.call 120 (es [aR,aq,dr]))) (ss [.k]) .nil,
 .expr (.m aR 38 (es [.b .add RN (.y .len (es [.sub aq (.str 4)]))])),
 .expr (.call 119 (es [aq,.b .add RN (.y .len (es [.sub aq (.str 4)]))])),
 .i (.not (.call 128 (es [aR,aP,aM,aq]))) (ss [.k]) .nil,
 .a 19 (.call 125 (es [aP,aM,aq,.b .fdiv dr (.int 3)])),
 .i (.or (es [.c .is bD .none,.not (.call 127 (es [.sub bD (.int 1),.sub bD (.int 0),aq]))])) (ss [.k]) .nil,
 .u [10,9] bD,
 .ret (.and (es [.call 128 (es [aR,aP,aM,aq]),.call 129 (es [aP,aM,aq])]))]) (λJ Z=>Q .none Z) Q (λJ J=>False) (λJ J=>False) (λc J Z=>X c Z)
    [QA x0,QA (.list (nats nums)),QA (.int s),QA (.int f),QA (.int t),QA (.int most),QA (.int cl),QA (.U1 21 (WO [1,2] [9] [] [] QE)),QA (.ref z),QC,QC,QC,QC,QC,QC,QC,QC,QC,QC,QC,QC,VW] Z:=by
  intro z G j F E I Z hhc h
  refine av (BV (most:=most) rfl h λlg un R8 T=>(av (xT (aj (BW T λsr nw bt SG W=>aE (tN W λma SX r=>(aG r 0 rfl (u:= .bool (decide ((s:Int)/192%5=4))) rfl rfl rfl (aB rfl) λB g=>?_)))))))
  generalize hsy:decide ((s:Int)/192%5=4)=sy at g
  refine ax (ai rfl (g.get 0 rfl) rfl (vs:=[.int f,.int t,.U1 21 (WO [1,2] [9] [] [] QE)]) rfl (K9 (A:=[1,2]) (B':=[9]) (C:=[]) (D':=[]) (f:=QE) g xj C0 mj mj (dO ‹_› (aT rfl)) (dO ‹_› (aT rfl)) (by rw[kR];decide) λM o=>?_))
  rw[kR] at o
  let p:fQ:=⟨f,t,most,cl,sy⟩
  have K:oW p:=⟨S,by show f<20000;exact dO ‹_› (aT rfl),by show t<600;exact dO ‹_› (aT rfl),c2⟩
  have hk:jH P (es [.str 0,.str 8,.str 5,.str 1,.str 4,.str 6,.str 9,.str 11,.str 3,.str 10,.str 2,.str 12,.str 13,.str 7]) [QA x0,QA (.list (nats nums)),QA (.int s),QA (.int f),QA (.int t),QA (.int most),QA (.int cl),QA (.U1 21 (WO [1,2] [9] [] [] QE)),QA (.ref z),QA (.ref lg),QA (.ref ma),QC,QC,QC,QC,QC,QC,QC,QC,QC,QC,VW] M=QA [.str 0,.str 8,.str 5,.str 1,.str 4,.str 6,.str 9,.str 11,.str 3,.str 10,.str 2,.str 12,.str 13,.str 7]:=rfl
  refine av (CE hk (aj (ae RN rfl (aj (ae au rfl (aj (ae aI rfl (aj (ae bj rfl (aj (ae (v:= .list []) _ rfl (aj (ae (v:= .list []) _ rfl (aj (ae (v:= .list []) _ rfl (aj (nM o λtd XI Y=>(aj (ae RN rfl (aj (rt (tf (ai rfl (Y.get 5 rfl) rfl rfl (It Y (Y.get 5 rfl) (λv YN h7=>?_) (λRM h'=>h'.get 5 rfl)))))))))))))))))))))))))
  refine ae (.int 0) rfl (xA (k:=0) rfl rfl ⟨_,rfl,?_⟩)
  refine aj (ae RN rfl (aj (ae RN rfl (aj (ae RN rfl (aj (ae au rfl (aE (C6 h7 rfl (uZ (l:=[0,8,5,1,4,6,9,11,3,10,2,12,13,7]) (by decide)) rfl λbk L h8=>?_)))))))))
  let a:Ad:=⟨z,lg,un,ma,sr,nw,bt,bk,td⟩
  have h9:Holds (Uq a p (q7 p j) (Su a p (HM p) (Vu a p (Ho p G j F I E) []))) L:=by
   have O:((f:Int)+([]:List bG).length+1)=(f+1+0:Nat):=by exact rfl
   rw[O] at h8
   exact h8
  have U:Holds (TZ a p (Ho p G j F I E) (HM p) (q7 p j) []) L:=Holds.swap [_,_,_,_] [_,_,_] (Holds.swap [_,_] [_,_,_,_,_,_,_] h9)|>λh=>h
  refine dh (cz (aj (ae (.int 1) rfl (aj (ae (.int 9) rfl (aE ⟨by decide,by decide,by decide,by decide,nats [1,2,3,4,5,6,7,8],rfl,?_⟩))))))
  refine ui (R:=Q) K hl WC hn [1,2,3,4,5,6,7,8] a _ _ _ 0 0 L _ _ _ _ _ _ _ _ (by decide) (by decide) rfl rfl (LI K hhc) U λa' g' m' b' k' μ9 VB w13 V1 V2 X8 w17 w18 w19 e1 O I' h'=>?_
  rw[<- e1,<- O]
  exact Aw K c1 I' h' hl WC hn q
 by_cases e:f=1
 ·refine cL (t:=decide ((f:Int)=1)) rfl (iF (aX 0x1C81051540062041400 rfl e)) (av (wB rfl (aj (ae a9 rfl (aE (tP r λst1 B g=>aw ?_))))))
  have et:=ft e
  have o:Holds [(st1,XB (UL 1 0 (1:Nat)) (.U1 21 (WO [1,2] [9] [] [] QE)) (VG f 1 (.U1 21 (WO [1,2] [9] [] [] QE)) (.RT [])) f t [])] B:=by
   rw[e,et]
   exact Holds.swap [_] [_] g|>.tail
  exact go st1 1 1 _ _ 1 B (PG ‹_›) o
 ·exact oY (t:=decide ((f:Int)=1)) rfl (aS (aX 0x1D41051540061001050 rfl (Mx (aX 0x1800041401840010 rfl S) (N7 e)))) (ax (bU rfl (cA (r.get 0 rfl)) rfl (aj (oi rfl r λB g=>aE (Lu g (by show(0:Int)<f;exact aX 0x71540011061001050 rfl (Mx (aX 0x1800041401840010 rfl S) (N7 e))) (by show(0:Int)<=f;exact oR _) λM o=>aw (go Xn 0 0 _ _ t M (MK ‹_›) o))))))
theorem Hk {script:List Int} (h:Holds [] Z) (hl:script.length<=1000) (q: ∀RM,Q (.bool QD) RM):RL P (d+11) 130 [.list (script.map V.int)] Q X Z:=by
 refine ao [QA (.list (script.map V.int)),QC,QC,QC,QC,QC,QC,QC,QC,QC,QC,QC,QC,QC,QC,QC,QC,QC,QC,QC,QC,QC] rfl rfl (av (il (bN (v:= .list (script.map V.int)) rfl (u:= .none) rfl (z:= .int 10) rfl (fy (a:=0) (b:=10) rfl (bc rfl (by decide)) ?_))))
 rw[NB]
 refine⟨_,rfl,fk (wl:=[]) (f:=V.int) (g:=λx=>V.int (x%999983)) (script.take 10) [] Z (λx J RM h' Q' E=>bz (ae wH rfl (ae (.int 999983) rfl (BQ (by decide) (E RM h'))))) h λn j=>?_⟩
 rw[OI]
 have t: ∀(i:List Nat) (p:Option V) (Z:H),0<i.length->i.length<=10->(∀x∈i,x<999983)->Holds [] Z->
   a8 P (RL P (d+10)) (.cons (.a 2 (.call 111 (es [RJ,.int 0]))) Bv) (λJ Z=>Q .none Z) Q (λJ J=>False) (λJ J=>False) (λc J Z=>X c Z) [QA (.list (script.map V.int)),QA (.list (nats i)),QC,QC,QC,QC,QC,QC,QC,QC,QC,QC,QC,QC,QC,QC,QC,QC,QC,QC,QC,p] Z:=by
  intro i p Z j w A h
  exact av (aC (vs:=[.list (nats i),.int (0:Nat)]) rfl (CG j w A (by decide) λs C=>(xE C h j w A q)))
 have o:(script.take 10).map (λx=>V.int (x%999983))=nats ((script.take 10).map λx=>(x%999983).toNat):=by
  rw[nats,Nz]
  refine Ng λx J=>?_
  show V.int (x%999983)=V.int ((x%999983).toNat:Int)
  exact By V.int (NI (Mu _ (by decide))).symm
 rw[o]
 have m:((script.take 10).map λx=>(x%999983).toNat).length=min 10 script.length:=by simp
 have B: ∀x∈(script.take 10).map (λx=>(x%999983).toNat),x<999983:=λx D=>by
  obtain⟨y,-,rfl⟩:=L8.mp D
  exact(Qf (Mu _ (by decide))).mpr (MM _ (by decide))
 generalize ((script.take 10).map λx=>(x%999983).toNat)=i at*
 have r:pe P (.c .eq (.y .len (es [RJ])) (.int 0)) [QA (.list (script.map V.int)),QA (.list (nats i)),QC,QC,QC,QC,QC,QC,QC,QC,QC,QC,QC,QC,QC,QC,QC,QC,QC,QC,QC,QC] n=QA (.bool (decide ((i.length:Int)=0))):=aH (bF (l:=i) (f:=λ(k:Nat)=>V.int k) rfl) rfl rfl
 by_cases e:i.length=0
 ·exact cL r (iF (aX 0x1C80455001880400 rfl e)) (aV (v:= .list (nats [0])) rfl (aw (t [0] _ n (by decide) (by decide) (by decide) j)))
 ·exact aO r (aS (aX 0x1D40455001840010 rfl (Mk e))) (t i _ n (Mk ‹_›) (RW 0x60281400060281401062040 rfl m (MW _ _)) B j)
end
end
section
set_option tactic.hygienic true
open PySem.W PySem.Calls PyProof.Rows
section
variable {G:Gt} {mg mb:Str->Option QG} (Γ:Gn G mg mb) (fns: ∀f fn,P.fns f=QA fn-> ∃as ds body sc vs,FnAt G f fn as ds body sc vs)
include Γ fns
theorem Ax {s:QH} {la:QK} {script:List Int} {xs:List QG} {n:Nat} (hl:script.length<=1000) (hx: ∀w,RP G w (script.map V.int) xs) (keep: ∀b o,G.base.get? b=QA o->s.heap.get? b=QA o) (low:G.base.objs.size<=s.heap.objs.size)
  (VI:s.heap.get? la=QA (listOf xs.toArray n)) (hno:G.base.get? la=QC) (sm:Sm G s):
  RU (model G.prog G.w) callerA (PySem.call (.ref (G.W9 130)) [.ref la]) (λv s'=>v= .bool QD/\(∀b o,G.base.get? b=QA o->s'.heap.get? b=QA o)/\s'.heap.get? la=QA (listOf xs.toArray n)/\Sm G s') (λJ J=>False) s:=by
 have g:=MF VI
 have I:D3 G callerA [] [] [] ⟨[],[(la,listOf xs.toArray n)]⟩ [] [] s:=by
  refine⟨keep,low,λr p=>?_,λh0 m0 m j=>⟨⟨m,λb o e=>j _ _ (keep b o e),low⟩,λq d=>?_,by simp[fill],.nil,λq d=>nomatch d⟩,sm,rfl,trivial,rfl⟩
  ·have:r=(la,listOf xs.toArray n):=by simpa using p
   subst this;exact g
  ·have:q=(la,listOf xs.toArray n):=by simpa[fill] using d
   subst this;exact⟨j _ _ VI,OA g,hno⟩
 have f:RL P (0+11) 130 [.list (script.map V.int)] (λv J=>v= .bool QD) (λJ J=>False) []:=Hk (script:=script) ⟨λi a o e=>by simp at e,.nil⟩ hl (λJ=>rfl)
 refine dM f λh Y l k f=>?_
 obtain⟨as,ds,body,sc,vs,F⟩:=fns 130 h l
 refine ic (mQ (X:=λJ J=>False) (Q:=λv J=>v= .bool QD) Γ F (ny Γ (Ea G) (zI Γ (Ea G) fns 10) h.body) k f I (by decide) (by decide) (.cons (.list (.head _) (hx _) (by rw[LZ];exact aX 0x601E848011000180FA02400 rfl hl)) .nil) (λv RM val s' w' SA own m' q t c r=>?_) (λJ J J J J J q J J=>False.elim q))
 subst q
 cases r
 exact⟨rfl,c.F.keep,(c.N _ (c.UW (t.fz _ (.head _)))).1,c.2⟩
end
end
section
set_option tactic.hygienic true
open PySem.W PySem.Calls PyProof.Rows
theorem HP:((gf.drop 0).take 10).all iB=QD:=by decide+kernel
theorem E7:((gf.drop 10).take 10).all iB=QD:=by decide+kernel
theorem E8:((gf.drop 20).take 10).all iB=QD:=by decide+kernel
theorem E9:((gf.drop 30).take 10).all iB=QD:=by decide+kernel
theorem Fb:((gf.drop 40).take 10).all iB=QD:=by decide+kernel
theorem Fc:((gf.drop 50).take 10).all iB=QD:=by decide+kernel
theorem Fd:((gf.drop 60).take 10).all iB=QD:=by decide+kernel
theorem Fe:((gf.drop 70).take 10).all iB=QD:=by decide+kernel
theorem Ff:((gf.drop 80).take 10).all iB=QD:=by decide+kernel
theorem Fg:((gf.drop 90).take 10).all iB=QD:=by decide+kernel
theorem Dn:((gf.drop 100).take 10).all iB=QD:=by decide+kernel
theorem Dp:((gf.drop 110).take 10).all iB=QD:=by decide+kernel
theorem Dq:((gf.drop 120).take 10).all iB=QD:=by decide+kernel
theorem Dr:((gf.drop 130).take 10).all iB=QD:=by decide+kernel
theorem Ct {α:Type} {p:α->Bool} (l:List α) (n:Nat) (h: ∀k,k<n->((l.drop (10*k)).take 10).all p=QD) (hl:l.length<=10*n):l.all p=QD:=by
 induction n generalizing l with
 |zero=>rw[M5.mp (Nat.le_zero.mp hl)];rfl
 |succ n ih=>
  rewrite[<- Oi 10 l,List.all_append,show(l.take 10).all p=QD from h 0 (Nat.succ_pos n),ih (l.drop 10) (λk a=>?_) (by rw[L3];exact Nat.sub_le_iff_le_add.mpr hl)]
  ·rfl
  ·rw[PA,show 10+10*k=10*(k+1) from NA 10 (10*k)];exact h (k+1) (Nat.succ_lt_succ a)
theorem jk {P:Nat->Prop} {n:Nat} (h:P n) (r: ∀k,k<n->P k) (k:Nat) (hk:k<n+1):P k:=(Nat.lt_or_eq_of_le (N4 hk)).elim (r k) λe=>e▸h
theorem Cc:gf.all iB=QD:=Ct gf 14 (jk Dr (jk Dq (jk Dp (jk Dn (jk Fg (jk Ff (jk Fe (jk Fd (jk Fc (jk Fb (jk E9 (jk E8 (jk E7 (jk HP (λk h=>absurd h (OE k)))))))))))))))) (by decide+kernel)
end
section
set_option tactic.hygienic true
open PySem.W PySem.Calls PyProof.Rows
theorem jq {α:Type} {l:List α} {p:α×Nat->Bool} (h:l.zipIdx.all p=QD) {i:Nat} {x:α} (e:l[i]?=QA x):p (x,i)=QD:=L9.mp h _ (List.mk_mem_zipIdx_iff_getElem?.mpr e)
theorem m7 {k v:Nat}: ∀{l:List (Nat×Nat)},p5 l k=QA v->(k,v)∈l:=λ{l}=>l.rec fX λc r ih h=>by
  obtain⟨a,b⟩:=c
  have h:(if a=k then QA b else p5 r k)=QA v:=h
  by_cases e:a=k
  ·rw[L6 e] at h
   rw[e,iN h];exact .head _
  ·rw[L4 e] at h;exact .tail _ (ih h)
theorem m8 {k m v:Nat}: ∀{l:List (Nat×Nat×Nat)},tR l k m=QA v->(k,m,v)∈l:=λ{l}=>l.rec fX λd r ih h=>by
  obtain⟨a,b,c⟩:=d
  have h:(if a=k/\b=m then QA c else tR r k m)=QA v:=h
  by_cases e:a=k/\b=m
  ·rw[L6 e] at h
   rw[e.1,e.2,iN h];exact .head _
  ·rw[L4 e] at h;exact .tail _ (ih h)
theorem pQ {l:List Nat} {d:Nat} (hd:d∈l) (i:Nat):l.getD i d∈l:=by
 rw[List.getD_eq_getElem?_getD]
 rcases q:l[i]? with _|x
 ·exact hd
 ·exact MQ q
theorem zX (f:Nat):W9 f∈zW:=pQ (by decide) f
theorem zJ (c:Nat):nL c∈zM:=pQ (by decide) c
theorem Cd {c f:Nat} (h:P.at_ c f=QD): ∃p∈attrL,p.1=c:=by
 have h:attrL.any (λp=>p.1==c&&p.2.contains f)=QD:=h
 refine aU (NP.mp h) λp a e=>?_
 exact⟨p,a,eq_of_beq (a2 e).1⟩
theorem st1:(xO.all λq=>decide (q.2.2<131)&&attrL.any (λp=>p.1==q.1&&p.2.contains (p.2.headD 0))&&(match nm.U0[q.2.1]? with|some n=>nm.attr.zipIdx.all (λp=>!P.at_ q.1 p.2||p.1 !=n)|none=>QD))=QD:=by decide+kernel
theorem LM:(xn.all λq=>decide (q.2<131)&&attrL.any (λp=>p.1==q.1))=QD:=by decide+kernel
section
variable {K:Frag} {a:QK}
theorem kq {g:Obj->Bool} (h:Fh K a g=QD): ∃o,K.lookup a=QA o/\g o=QD:=by
 have h:(match (generalizing:=false) K.lookup a with
  |some o=>g o
  |none=>QE)=QD:=h
 rcases q:K.lookup a with _|o
 ·rw[q] at h;exact SP h
 ·rw[q] at h;exact⟨o,rfl,h⟩
theorem AI {g:Q1->Bool} (h:Iy K a g=QD): ∃cd,clsIn K a=QA cd/\g cd=QD:=by
 have h:(match (generalizing:=false) clsIn K a with
  |some o=>g o
  |none=>QE)=QD:=h
 rcases q:clsIn K a with _|o
 ·rw[q] at h;exact SP h
 ·rw[q] at h;exact⟨o,rfl,h⟩
theorem rV {o:Option QG} {g:QG->Bool} (h:oV o g=QD): ∃v,o=QA v/\g v=QD:=by
 rcases o with _|v
 ·exact SP h
 ·exact⟨v,rfl,h⟩
theorem uH {d:Q9} {g:FuncData->Bool} (h:BA g d=QD): ∃F,d= .func F/\g F=QD:=by
 rcases d<;>first|exact SP h|exact⟨_,rfl,h⟩
theorem pI {d:Q9} {g:Array QG->Bool} (h:s9 g d=QD): ∃F,d= .fields F/\g F=QD:=by
 rcases d<;>first|exact SP h|exact⟨_,rfl,h⟩
theorem wq {d:Q9} {g:Array QG->Bool} (h:Ep g d=QD): ∃F n,d= .seq F n/\g F=QD:=by
 rcases d<;>first|exact SP h|exact⟨_,_,rfl,h⟩
theorem wo {d:Q9} {g:Q1->Bool} (h:Eo g d=QD): ∃F,d= .cls F/\g F=QD:=by
 rcases d<;>first|exact SP h|exact⟨_,rfl,h⟩
theorem uG {d:Q9} {es:Array QJ} (h:s8 d=QA es): ∃ep,d= .dict es ep:=by
 rcases d<;>first|(cases h;done)|exact⟨_,By (λe=>Data.dict e _) (iN h)⟩
theorem l6 {v:QG} {g:QK->Bool} (h:Bi g v=QD): ∃a,v= .ref a/\g a=QD:=by
 rcases v<;>first|exact SP h|exact⟨_,rfl,h⟩
theorem qQ {v:QG} {g:Str->Bool} (h:Bj g v=QD): ∃a t,v= .str a t/\g a=QD:=by
 rcases v<;>first|exact SP h|exact⟨_,_,rfl,h⟩
theorem qP {v:QG} {g:Int->Bool} (h:Bh g v=QD): ∃a t,v= .int a t/\g a=QD:=by
 rcases v<;>first|exact SP h|exact⟨_,_,rfl,h⟩
theorem yX {v:QG} {g:Array UInt8->Bool} (h:Fq g v=QD): ∃a t,v= .bytes a t/\g a=QD:=by
 rcases v<;>first|exact SP h|exact⟨_,_,rfl,h⟩
end
section
variable {w:QW} {os:Q0} {gens:Array QY} {base:QM} {K:Frag} {mg mb:Str->Option QG} (X:K.In base)
include X
theorem wu {a:QK} {es:Array QJ} (h:iT K a=QA es): ∃o ep,base.get? a=QA o/\o.data= .dict es ep:=by
 have h:(K.lookup a).bind (λo=>s8 o.data)=QA es:=h
 rcases q:K.lookup a with _|o
 ·rw[q] at h;cases h
 ·rw[q] at h
  obtain⟨ep,e⟩:=uG (show s8 o.data=QA es from h)
  exact⟨o,ep,X _ _ q,e⟩
theorem xX {a:QK} {m:Str->Option QG} (H:base.Ns a m) (h:(iT K a).isSome=QD) (n:Str):BZ K a n=m n:=by
 obtain⟨es,c⟩:=Mv.mp h
 refine mf (wu X c) λo ep f g=>?_
 obtain⟨o',d,ep',i,b,_,j⟩:=H
 rw[<- iN (f.symm.trans i)] at b
 have e:es=d:=(Data.dict.inj (g.symm.trans b)).1
 show(iT K a).bind _=_
 rw[c,e];exact j n
theorem oo {a:QK} {n:Str} (h:AG K a n=QD): ∃m,base.Ns a m/\m n=QC:=by
 have h:(match (generalizing:=false) iT K a with
  |some es=>es.toList.all (λe=>Bj (λJ=>QD) e.key)&&nsFind es n==QC
  |none=>QE)=QD:=h
 rcases b:iT K a with _|es
 ·rw[b] at h;exact SP h
 ·rw[b] at h
  refine mf (wu X b) λo ep c d=>?_
  exact⟨λx=>nsFind es x,⟨o,es,ep,c,d,λe b=>mf (qQ (L9.mp (a2 h).1 e (Array.mem_def.mp b))) λk t q J=>⟨k,t,q⟩,λJ=>rfl⟩,eq_of_beq (a2 h).2⟩
theorem zO {cd:QG} {q:Str} (h:wd K cd q=QD):base.CodeRec cd q:=by
 refine aU (l6 h) λc b h=>?_
 refine aU (kq h) λo f h=>?_
 refine aU (pI h) λvs d h=>?_
 refine aU (rV h) λv a h=>?_
 refine mf (qQ h) λq' t e h=>?_
 rw[e,eq_of_beq h] at a
 exact⟨c,o,vs,t,b,X _ _ f,d,a⟩
theorem CC {W7:List V} {np:Nat} {dV:QG} (h:BB K W7 np dV=QD):(W7=[]/\dV= .none)\/ ∃dt t n,dV= .ref dt/\W7=[.int 0]/\np=3/\base.get? dt=QA ({cls:= .type "tuple",data:= .seq #[.int 0 t] n}:Obj):=by
 refine o2 h (λh=> .inl ⟨nP (a2 h).1,eq_of_beq (a2 h).2⟩) λh=> .inr ?_
 refine aU (l6 (a3 h).2.2) λdt j b=>?_
 refine aU (kq b) λo g b=>?_
 obtain⟨cls,c,data,a⟩:=o
 refine mf (wq (a4 b).2.2.2) λvs n f r=>?_
 obtain⟨x⟩:=a
 obtain⟨l⟩:=vs
 have k:cls= .type "tuple" :=eq_of_beq (a4 b).1
 have m:c=QC:=eq_of_beq (a4 b).2.1
 have p:x=[]:=nP (a4 b).2.2.1
 have f:data= .seq ⟨l⟩ n:=f
 rw[k,m,p,f] at g
 have w:l1 (Bh (· ==0)) l=QD:=r
 have s: ∃t,l=[.int 0 t]:=u1 l w λv d=>by
  refine mf (qP d) λi t e u=>?_
  exact⟨t,by rw[e,eq_of_beq u]⟩
 obtain⟨t,q⟩:=s
 rw[q] at g
 refine⟨dt,t,n,j,u1 W7 (a3 h).1 λv d=>?_,eq_of_beq (a3 h).2.1,X _ _ g⟩
 rcases v<;>first|exact SP d|exact By (λi=>[V.int i]) (eq_of_beq d)
theorem EJ {f:Nat} {fn:Fn} {vs:List Str} (h:BK K (W9 f) fn=QD) (k:Iw fn vs (y6 K f)=QD): ∃as ds body sc vs,FnAt (GG w os gens base K) f fn as ds body sc vs:=by
 refine aU (kq h) λo c h=>?_
 obtain⟨cls,dict,b,slots⟩:=o
 refine aU (uH h) λF e h=>?_
 have e:b= .func F:=e
 rw[e] at c
 have v:y6 K f=QA (F.params,F.body,F.scope):=by
  show(match (generalizing:=false) K.lookup (W9 f) with
   |some ⟨J,J0,.func F,J1⟩=>QA (F.params,F.body,F.scope)
   |_=>QC)=_
  rw[c]
 rw[v] at k
 obtain⟨name,qual,a,g,sc,E,cl,dV,kV,doc,pm,an,cdv,ct,i⟩:=F
 obtain⟨po,as,va,W,kd,Y,ds⟩:=a
 obtain⟨body,x⟩: ∃body,g= .stmts body:=by
  rcases g<;>first|exact⟨_,rfl⟩|exact SP k
 rw[x] at k c
 obtain⟨⟨N,O,P,Q,R,S⟩,U,V⟩:=(⟨a6 (a3 k).1,(a3 k).2⟩:_/\_)
 refine D5 (a6 S) λy z A B C D=>?_
 refine me (a3 V) λl1 l2 Z=>?_
 refine B9 (a5 h) λH I G L M=>?_
 have l:po=[]:=nP N
 have m:va=QC:=eU O
 have p:W=[]:=nP P
 have q:kd=[]:=nP Q
 have r:Y=QC:=eU R
 have s:E=mainGlobals:=eq_of_beq H
 have t:i=builtinsNs:=eq_of_beq I
 have u:cl=[]:=nP G
 rw[l,m,p,q,r,s,t,u] at c
 refine⟨as,ds,body,sc,vs,λT j=>j _ name qual dV kV doc pm cdv ct an (X _ _ c) rfl (zO X L) (CC X M),eq_of_beq y,eq_of_beq z,de A,eq_of_beq B,nt C,nt D,U,λn d=>?_,de l2,λn d=>?_⟩
 ·exact o2 (L9.mp l1 n d) (λh=> .inl (eq_of_beq h)) λh=> .inr (eq_of_beq h)
 ·exact List.contains_iff_mem.mp (L9.mp Z (n,.cell) (ix d))
theorem Cu {C:QK} {cd:Q1} (h:clsIn K C=QA cd): ∃c0 dd sl,base.get? C=QA {cls:=c0,dict:=dd,data:= .cls cd,slots:=sl}:=by
 delta clsIn at h
 revert h
 generalize q:K.lookup C=x
 rcases x with _|⟨c0,dd,d,sl⟩
 ·exact fX
 ·cases d<;>first|exact fX|(intro h;cases h;exact⟨_,_,_,X _ _ q⟩)
theorem Bd: ∀{l:List QG},sG K l=QD->Q8 base tu l:=by
 intro l
 induction l with
 |nil=>intro h;exact SP h
 |cons v tl ih=>
  intro h
  refine o2 h (λh=>?_) λh=>?_
  ·rw[eq_of_beq h];exact .base
  ·refine aU (l6 h) λA e h=>?_
   refine aU (AI h) λcd d h=>?_
   refine aU (oo X (a2 h).1) λm a b=>?_
   obtain⟨_,_,_,c⟩:=Cu X d
   rw[e]
   exact .own c a b (ih (a2 h).2)
omit X in
theorem LL {sl:Array (Option QG)} {v:Option QG} (h:sl.size=6) (h4:sl[4]?=QA v): ∃a b c d e,sl= #[a,b,c,d,v,e]:=by
 obtain⟨l⟩:=sl
 have h:l.length=6:=h
 have h4:l[4]?=QA v:=Oj.symm.trans h4
 rcases l with _|⟨a,_|⟨b,_|⟨c,_|⟨d,_|⟨x,_|⟨e,_|⟨_,_⟩⟩⟩⟩⟩⟩⟩<;>try (cases h;done)
 exact⟨a,b,c,d,e,by rw[show x=v from iN h4]⟩
omit X in
theorem wI {k:Nat} (h:ZO k=QD):k∈GX:=by
 refine o2 h (λh=>o2 h (λh=>o2 h (λh=>o2 h (λh=>?_) λh=>?_) λh=>?_) λh=>?_) λh=>?_<;>(rw[eq_of_beq h];decide)
theorem Ew {k:Nat} (h:BE K k=QD):D0 (GG w os gens base K) k:=by
 refine aU (kq h) λo n h=>?_
 obtain⟨cls,d,c,b⟩:=o
 refine aU (wo h) λq e h=>?_
 have e:c= .cls q:=e
 rw[e] at n
 refine D5 (a6 (a2 h).1) λx y z r A B=>?_
 obtain⟨name,a,f,ns,G,C,H,p,t,g,i⟩:=q
 obtain⟨x0,x1,I,J,L,es⟩:=LL (eq_of_beq (a2 r).1) (eq_of_beq (a2 r).2)
 have l:f.head?=QA (.ref (nL k)):=eq_of_beq y
 rcases f with _|⟨v,u⟩
 ·exact nomatch l
 ·rw[show v= .ref (nL k) from iN l,show cls= .type "type" from eq_of_beq x,show i=QE from nt z,show b=_ from es] at n
  refine aU (oo X A) λm E F=>?_
  have s:=(a2 h).2
  rw[show v= .ref (nL k) from iN l] at s
  exact⟨⟨name,G,ns,a,u,C,H,p,t,g,d,x0,x1,I,J,L,m⟩,X _ _ n,E,F,Bd X B,λj D=>eq_of_beq (L9.mp s j (wI D))⟩
omit X in
theorem EP {a b:Bool} (h:(!a||b)=QD) (ha:a=QD):b=QD:=by rw[ha] at h;exact h
omit X in
theorem Ee {c:Nat} {b:Bool} (h:(c !=c||b)=QD):b=QD:=o2 h (λh=>absurd rfl (bne_iff_ne.mp h)) id
theorem Em {c:Nat} (h:Bx K c=QD):Cl (GG w os gens base K) c:=by
 refine B9 (a5 h) λb k l n o=>?_
 refine B9 (a5 b) λd e g i j=>?_
 refine⟨d,eq_of_beq e,eq_of_beq g,eq_of_beq i,j,k,λf s p a=>?_,λm s f a r=>?_,λf q=>?_⟩
 ·have:=jq l a
  exact eq_of_beq (EP this p)
 ·have h:(c !=c||(match (generalizing:=false) nm.U0[m]? with|some s=>findIn K (.ref (nL c)) s==QA (QA (.ref (W9 f)))|none=>QD))=QD:=L9.mp n _ (m8 r)
  rw[a] at h
  exact eq_of_beq (Ee h)
 ·exact eq_of_beq (Ee (L9.mp o _ (m7 q)))
theorem EL {v:V} {x:Option QG} (h:xa v x=QD): ∃val,x=QA val/\ ∀l,RO (GG w os gens base K) l v val:=by
 rcases v<;>try exact SP h
 ·refine aU (rV h) λv e h=>?_
  refine mf (qP h) λi t b h=>?_
  exact⟨v,e,λl=>by rw[b,eq_of_beq h];exact .int _ _⟩
 ·refine aU (rV h) λv e h=>?_
  refine mf (yX h) λa t b h=>?_
  refine⟨v,e,λl=>?_⟩
  have:=RO.RT (G:=GG w os gens base K) (w:=l) _ t (de (a2 h).2)
  rw[<- (eq_of_beq (a2 h).1)] at this ⊢
  rw[b];exact this
theorem Cb (hc:DV K=QD) (hB:(wQ.zipIdx.map λp=>y6 K p.2)=B1.map Bb) (Hg:base.Ns mainGlobals mg) (Hb:base.Ns builtinsNs mb):Gn (GG w os gens base K) mg mb/\ ∀f fn,P.fns f=QA fn-> ∃as ds body sc vs,FnAt (GG w os gens base K) f fn as ds body sc vs:=by
 obtain⟨F,hc⟩:=a2 hc
 refine D5 (a6 hc) λhc Q y A B C=>?_
 refine D5 (a6 hc) λhc I L M N O=>?_
 refine me (a3 hc) λc1 G H=>?_
 have g:=xX X Hg I
 have b:=xX X Hb L
 have E: ∀f,keepIn K (.ref (W9 f))=QD/\(typeIn K (.ref (W9 f))==QA (.type "function"))=QD:=λf=>a2 (L9.mp Q _ (zX f))
 have cl: ∀c,(∃p∈attrL,p.1=c)->Cl (GG w os gens base K) c:=λc h=>aU h λp l e=>e▸Em X (L9.mp A p l)
 have D: ∀c m f,P.U0 c m=QA f->(f<131/\(∃j,P.at_ c j=QD))/\ ∀n j,nm.U0[m]?=QA n->P.at_ c j=QD->nm.attr[j]?≠QA n:=λc m f h=>by
  refine me (a3 (L9.mp st1 _ (m8 h))) λs t u=>?_
  refine aU (NP.mp t) λp l e=>?_
  refine⟨⟨de s,p.2.headD 0,NP.mpr ⟨p,l,e⟩⟩,λn j d a e=>?_⟩
  have u:(match (generalizing:=false) nm.U0[m]? with|some n=>nm.attr.zipIdx.all (λp=>!P.at_ c p.2||p.1 !=n)|none=>QD)=QD:=u
  rw[d] at u
  exact bne_iff_ne.mp (EP (jq u e) a) rfl
 refine⟨⟨⟨X,(oo X H).imp λJ z=>z,?_,λc f h=>cl c (Cd h),λf J=>eq_of_beq (E f).2⟩,Hg,Hb,λf n a d=>?_,λc n d=>?_,λk n v V d=>?_,λf J=>(E f).1,λc=>L9.mp y _ (zJ c),λc m f h=>(D c m f h).1.1,λc m f n j h d R=>(D c m f h).2 n j d R,
  λc f h=>?_,λc m f h=>(D c m f h).1.2,λx=>?_,λk S=>Ew X (L9.mp C k (wI S))⟩,λf fn a=>?_⟩
 rotate_right
 ·have a:wQ[f]?=QA fn:=a
  have e:(wQ.zipIdx.map λp=>y6 K p.2)[f]?=(B1.map Bb)[f]?:=By (·[f]?) hB
  rw[OU,List.getElem?_zipIdx,a,OU] at e
  refine aU (MV.mp e.symm) λq U e=>?_
  have m:((fn,q),f)∈gf:=List.mk_mem_zipIdx_iff_getElem?.mpr (NY.mpr ⟨a,U⟩)
  have k:=L9.mp Cc _ m
  refine EJ X (vs:=Fu f) (jq F (x:=fn) (i:=f) a) ?_
  have e:Bb q=y6 K (0+f):=e
  rw[Pp] at e
  rw[<- e];exact k
 ·obtain⟨o,T⟩:=Mv.mp G
  exact Mv.mpr ⟨o,X _ _ T⟩
 ·have h:(match (generalizing:=false) nm.fn[f]? with|some n=>decide (f<131)&&BZ K 3 n==QA (.ref (W9 f))|none=>QD)=QD:=L9.mp M f (List.contains_iff_mem.mp a)
  rw[d] at h
  exact⟨de (a2 h).1,(g n).symm.trans (eq_of_beq (a2 h).2)⟩
 ·exact(g n).symm.trans (eq_of_beq (jq N d))
 ·have h:(match (generalizing:=false) tD[k]? with|some v=>xa v (BZ K 3 n)|none=>QD)=QD:=jq O d
  rw[show tD[k]?=QA v from V] at h
  refine aU (EL X (w:=w) (os:=os) (gens:=gens) h) λval e r=>?_
  exact⟨val,(g n).symm.trans e,r⟩
 ·obtain⟨s,t⟩:=a2 (L9.mp LM _ (m7 h))
  refine aU (NP.mp t) λp l e=>?_
  exact⟨cl c ⟨p,l,eq_of_beq e⟩,de s⟩
 ·obtain⟨s,t⟩:=a2 (L9.mp B x (by rcases x<;>repeat (first|exact .head _|apply List.Mem.tail)))
  exact⟨(g _).symm.trans (eq_of_beq s),(b _).symm.trans (eq_of_beq t)⟩
end
end
section
set_option tactic.hygienic true
open PySem.W PySem.Calls PyProof.Rows
theorem uk {M:RE} {t:Sem PySem.Fin} {R:RA->QH->Prop} {s:QH} (h:RU M callerA t (λfin s'=> ∃f,fin= .done f/\R (.ok f) s') (λe s'=>R (.error e) s') s) (p:Pos):
  Sem.wp M ⟨.builtin "claim.caller" {},QC,QC,[],QC⟩ t (Sem.finPost M ⟨.builtin "claim.caller" {},QC,QC,[],QC⟩ R) (λe J s'=>R (.error e) s') p s:=by
 refine PK M _ t (λfin p' s' h'=>?_) (λJ J J h'=>h') p s (h _ p caller_in (λJ J=>rfl) λx c=>nomatch c)
 refine aU h' λf a b=>?_;subst a
 exact b
theorem Ds {r:RowW} {tree:List QG->Sem PySem.Fin} {q:QX} {loose defs kps:List Str} {writes:Bool} {Xt:QH->Bool} {XP:(Str->Option QG)->QM->Prop} {α:Type} {Yf:QH->α} {Ya:QW->α} {YP:QW->QM->Prop} {N:Nat}
  (left:LeftO r.prog q loose Xt Yf Ya N) (hY: ∀w s,Yf s=Ya w->YP w s.heap) (hX: ∀s,Xt s=QD->XP (s.heap.nsMap mainGlobals) s.heap)
  (hRf: ∀s,Xt s=QD->RecFacts r.records s.heap) (hwr:(!writes||r.records.isEmpty)=QD) (ok:(chainsOk q&&opensWell r.prog&&(frees r&&r.within.isEmpty))=QD) (hb:r.prog.bare) (hw:r.promised)
  (pin: ∀w s,s.heap.isNs mainGlobals=QD->Ground q loose [] XP w s (s.heap.nsMap mainGlobals) (s.heap.nsMap builtinsNs) s.heap-> ∀n∈defs,isTheDefsW r.prog s.heap n)
  (call: ∀(w:QW) (s0 s1:QH) (mg mb:Str->Option QG),Ground q loose r.records XP w s0 mg mb s0.heap->YP w s0.heap-> ∀(args:List WData) (vs:List QG) (as:List QK),
   r.claim.pre args=QD->WData.layableAll args=QD->Laid r.records w s0 s1 args vs as->sysModules<s0.heap.objs.size->
    RU (model r.prog w) callerA (tree vs) (λfin s'=> ∃v,fin= .done (.ret v)/\GoodWG r.claim (classAt s0.heap) (ExcName.means s0.heap) args s1 (.ok (.ret v)) s') (λJ J=>False) s1):
  r.claim.HoldsOpenBy (λvs=>⟨tree vs,.builtin "claim.caller" {},default,[]⟩) defs kps writes:=by
 simp only[NN] at ok
 have o1:=ok.1.2
 have m:=ok.1.1
 have k6:=ok.2.2
 refine B9 (frees_parts ok.2.1) λC hu ha D hm=>?_
 refine⟨⟨hb,o1,by show r.makers.map _=[];rw[hm];rfl⟩,hw.witness,λw=>⟨(left.behind hX m w).1,λs' X=>?_⟩⟩
 refine Oh ((left.behind (XP:=λmg h=>XP mg h/\RecFacts r.records h) (λs A=>⟨hX s A,hRf s A⟩) m w).2 s' X) λs0 I=>Oh I.2.2 λs z=>?_
 have T:=z.1
 have t:=z.2.2.1
 have U:=z.2.2.2.1
 have a:=z.2.2.2.2.1
 have K:Ground q loose [] XP w s (s.heap.nsMap mainGlobals) (s.heap.nsMap builtinsNs) s.heap:=⟨a.T,a.B,a.D,a.TE,a.TD,a.W,a.X.1,a.cls,a.has,a.apart,a.once,a.K⟩
 have B:=a.X.2
 refine⟨s0,I.1,I.2.1,s,T,pin w s U K,B.1,B.2.1,?_⟩
 have t:s.gens= #[]:=Array.eq_empty_of_size_eq_zero (beq_iff_eq.mp t)
 have G:=B.ground K
 intro args Q k ord l
 refine Oh (Mv.mp (layAllW_isSome (P:=w.params) (ord:=ord) G.has args r.args s (pre_splitW Q).1)) λH j=>?_
 rcases H with⟨vs,s1⟩
 have d:=layAllW_keeps _ _ _ j
 have u:=layAllW_rest _ _ _ j
 refine kE (reads_layAllW l _ _ _ j k s1.heap (λJ J e=>e)) λas E Y p=>?_
 have L:Laid r.records w s s1 args vs as:=⟨⟨ord,l,j⟩,E,Y,p,d,u.1.trans t,u.2.2.1⟩
 have h:=call w s s1 _ _ G (hY w s z.2.2.2.2.2) args vs as Q k L G.low
 refine y5 (wp_halts_full (M:=model r.prog w) (Shared.asleep_of_life u.2.2.2 z.2.1)
  (R:=λf s'=> ∃v,f= .ok (.ret v)/\GoodWG r.claim (classAt s.heap) (ExcName.means s.heap) args s1 (.ok (.ret v)) s')
  (uk (R:=λf s'=>(∃v,f= .ok (.ret v)/\GoodWG r.claim (classAt s.heap) (ExcName.means s.heap) args s1 (.ok (.ret v)) s')/\leftWithCleanup s'.gens=QE)
   (bR h (λfin s' h=>h.elim λv h=>⟨_,h.1,⟨v,rfl,h.2⟩,leftWithCleanup_false_of_bare h.2.2.2.2⟩) λJ J z=>z.elim) default)) λn f s2 s3 A hn O hR=>?_
 refine aU hR λv F g=>?_;subst F
 have S:=(Shared.forget_eq O).1
 have Z:=(Shared.forget_eq O).2.2.2.1
 have z:=g.laid (c:=r.claim) C (List.isEmpty_iff.mp k6) (ident_freeW hu ha D) L
 have W:=z.1.congr S
 refine⟨vs,s1,j,n,_,s3,A,?_,(λJ i x V=>by rw[t] at V;simp at V),λq=>by rw[S];exact⟨namesKept_of T U kps d g.2.1.old,noTable hwr q⟩,by rw[runN_life _ _ _ hn,u.2.2.2],Shared.rest_eq (Z.trans z.2.1)⟩
 refine W.elim (λh=> .inl (Oh h λv h=>⟨v,By outcomeOf h.1,h.2.1,h.2.2.1,h.2.2.2.1,λb o y J=>h.2.2.2.2.1 b o y,h.2.2.2.2.2⟩)) λh=>h.elim λJ h=>h.elim λJ h=>h.elim λJ h=>nomatch h.1
end
section
set_option tactic.hygienic true
open PySem.W PySem.Calls PyProof.Rows
theorem pP {h:QM} {a:QK} {o:Obj}: ∀{l:List QK},(l.filterMap λa=>(h.get? a).map λo=>(a,o)).lookup a=QA o->h.get? a=QA o:=by
 intro l
 induction l with
 |nil=>exact fX
 |cons b r ih=>
  intro e
  rw[Pm] at e
  cases q:h.get? b with
  |none=>rw[q] at e;exact ih e
  |some x=>
   rw[q] at e
   replace e:List.lookup a ((b,x)::r.filterMap λa=>(h.get? a).map λo=>(a,o))=QA o:=e
   rw[Ma] at e
   split at e
   ·rename_i c;rw[beq_iff_eq.mp c,q];exact e
   ·exact ih e
def YP (_:QW) (h:QM):Prop:= ∃K:Frag,DV K=QD/\(wQ.zipIdx.map λp=>y6 K p.2)=B1.map Bb/\K.In h
section
variable {R:WRecords} {cl:Str->Option QK} {P:Q7} {ord:List QJ->List QJ} {s:QH}
theorem jX {x:WData} {xs:List WData} {r:List QG×QH} (h:layAllW R cl P ord (x::xs) s=QA r): ∃a r',layW R cl P ord x s=QA a/\layAllW R cl P ord xs a.2=QA r'/\(a.1::r'.1,r'.2)=r:=by
 revert h
 show(match layW R cl P ord x s with
   |some a=>(match layAllW R cl P ord xs a.2 with
    |some r=>QA (a.1::r.1,r.2)
    | .none=> .none)
   | .none=> .none)=QA r->_
 cases layW R cl P ord x s with
 |none=>exact fX
 |some a=>
  show(match layAllW R cl P ord xs a.2 with
    |some r=>QA (a.1::r.1,r.2)
    | .none=> .none)=QA r->_
  cases e:layAllW R cl P ord xs a.2 with
  |none=>exact fX
  |some r'=>exact λh=>⟨a,r',rfl,e,iN h⟩
theorem uW {xs:List WData} {a:QG×QH} (h:layW R cl P ord (.list xs) s=QA a): ∃r,layAllW R cl P ord xs s=QA r/\(.ref r.2.heap.objs.size,{r.2 with heap:=r.2.heap.push {cls:= .type "list",data:= .seq r.1.toArray}})=a:=by
 revert h
 show(match layAllW R cl P ord xs s with
   |some r=>QA (Value.ref r.2.heap.objs.size,{r.2 with heap:=r.2.heap.push {cls:= .type "list",data:= .seq r.1.toArray}})
   | .none=> .none)=QA a->_
 cases layAllW R cl P ord xs s with
 |none=>exact fX
 |some r=>exact λh=>⟨r,rfl,iN h⟩
end
theorem xG {R:WRecords} {cl:Str->Option QK} {P:Q7} {ord:List QJ->List QJ}: ∀{script:List Int} {s s':QH} {vs:List QG},layAllW R cl P ord (script.map WData.int) s=QA (vs,s')->s'.heap=s.heap/\ ∀(G:Gt) (l:Ld),RP G l (script.map V.int) vs:=by
 intro script
 induction script with
 |nil=>intro s s' vs h;cases h;exact⟨rfl,λJ J=> .nil⟩
 |cons i r ih=>
  intro s s' vs h
  refine dM (jX h) λa e b c d=>?_
  have b:=iN (show QA _=QA a from b)
  subst b
  obtain⟨Ui,VA⟩:=e
  cases d
  exact⟨(ih c).1,λG l=> .cons (.int _ _) ((ih c).2 G l)⟩
theorem xr {R:WRecords}: ∀{xs:List WData},WShape.hasItems R xs .int=QD-> ∃script:List Int,xs=script.map WData.int:=by
 intro xs
 induction xs with
 |nil=>exact λJ=>⟨[],rfl⟩
 |cons x r ih=>
  intro h
  have h:=Nr.mp (show(WShape.has R x .int&&WShape.hasItems R r .int)=QD from h)
  obtain⟨l,rfl⟩:=ih h.2
  have a:=h.1
  cases x with
  |int i=>exact⟨i::l,rfl⟩
  |_=>exact SP a
theorem zm {args:List WData} (h:YK.row.toRowW.claim.pre args=QD): ∃script:List Int,args=[.list (script.map WData.int)]/\script.length<=63:=by
 obtain⟨a,b⟩:=pre_splitW h
 cases args with
 |nil=>cases a
 |cons x r=>cases r with
  |cons y r=>exact SP (Nr.mp (show(WShape.has [] x (.list .int)&&WShape.hasAll [] (y::r) [])=QD from a)).2
  |nil=>
  replace a:(WShape.has [] x (.list .int)&&WShape.hasAll [] [] [])=QD:=a
  have a:=(Nr.mp a).1
  cases x with
  |list xs=>
   have a:WShape.hasItems [] xs .int=QD:=(PJ _).symm.trans (show(WShape.hasItems [] xs .int||QE)=QD from a)
   obtain⟨script,rfl⟩:=xr a
   refine⟨script,rfl,?_⟩
   replace b:WTm.holds [] (.and (.not (.lt (.lit (.int ((63:Nat):Int))) (.len (.arg 0)))) (.lit (.bool QD))) {args:=[.list (script.map WData.int)]}=QD:=b
   refine Nat.le_of_not_lt λc=>?_
   have e:less? (.int ((63:Nat):Int)) (.int (((script.map WData.int).length:Nat):Int))=QA QD:=
    By QA (iF (by rw[LZ];exact Mo.mpr c))
   unfold WTm.holds at b
   have d:WTm.value [] (.and (.not (.lt (.lit (.int ((63:Nat):Int))) (.len (.arg 0)))) (.lit (.bool QD))) {args:=[.list (script.map WData.int)]}=QA (.bool QE):=by
    dsimp only[WTm.value,List.getElem?_cons_zero]
    rw[e];rfl
   rw[d] at b
   cases b
  |_=>exact SP a
theorem left:LeftO YK.row.toRowW.prog qv jC (λJ=>QD) (λs=>(DV (eY s.heap),wQ.zipIdx.map λp=>y6 (eY s.heap) p.2)) (λJ=>(QD,B1.map Bb)) 24000:=Ay (M:=12000) (ann:=QA (.ref 6)) (λP=>by kernel_rfl) E2 rfl rfl
theorem AH (w:QW) (s:QH) (e:(DV (eY s.heap),wQ.zipIdx.map λp=>y6 (eY s.heap) p.2)=(QD,B1.map Bb)):YP w s.heap:=
 ⟨eY s.heap,By Prod.fst e,By Prod.snd e,λa o h=>pP h⟩
theorem xF (w:QW) (s0 s1:QH) (mg mb:Str->Option QG) (G:Ground qv jC YK.row.toRowW.records (λJ J=>True) w s0 mg mb s0.heap) (R3:YP w s0.heap) (args:List WData) (vs:List QG) (as:List QK)
  (ZX:YK.row.toRowW.claim.pre args=QD) (L:Laid YK.row.toRowW.records w s0 s1 args vs as):
  RU (model YK.row.toRowW.prog w) callerA (do match <- nsGet mainNs YK.row.toRowW.name with
   |some f=>do ret (<- PySem.call f vs)
   |none=>unsupported "claim.caller:no-such-global") (λfin s'=> ∃v,fin= .done (.ret v)/\GoodWG YK.row.toRowW.claim (classAt s0.heap) (ExcName.means s0.heap) args s1 (.ok (.ret v)) s') (λJ J=>False) s1:=by
 refine aU (zm ZX) λscript j B=>?_;subst j
 refine kE R3 λK s t X=>?_
 obtain⟨ord,_,q⟩:=L.laid
 refine dM (jX q) λa D A e x=>?_
 refine aU (uW A) λr C u=>?_
 have e:=iN (show QA _=QA D from e)
 subst e
 subst u
 cases x
 obtain⟨l,n⟩:=xG C
 obtain⟨vs,d⟩:=r
 dsimp only at l n L ⊢
 obtain⟨p,fns⟩:=Cb (w:=w) (os:=d.os) (gens:=d.gens) X s t G.T.g G.T.b
 have y:mg "law" =QA (.ref (W9 130)):=(p.fn 130 _ rfl rfl).2
 have g:s0.heap=d.heap:=l.symm
 have k:(d.heap.push {cls:= .type "list",data:= .seq vs.toArray}).get? d.heap.objs.size=QA (W.listOf vs.toArray 0):=MP _ rfl
 refine ar (lift (wpAny_nsGet (m:=mg) (G.T.g.keeps L.keeps) ?_))
 show RU _ _ (match mg "law" with|some f=>_|none=>_) _ _ _
 rw[y]
 refine ar (bR (Ax p fns (script:=script) (aX 0x180FA02400060FC1400 rfl B) (n _) L.keeps (by rw[g];show d.heap.objs.size<=(d.heap.push _).objs.size;rw[P4];exact aX 6616414224384 rfl) k (by show s0.heap.get? _=QC;rw[g];exact cX _) ⟨rfl,rfl⟩) (λv s' z=>?_) λJ J z=>z)
 refine B9 z λi z1 z2 z3 z4=>?_;subst i
 refine az ⟨_,rfl,.inl ⟨_,.bool QD,[],rfl,λcls=>rfl,.bool QD,by kernel_rfl,λJ=>⟨.nil,λa h=>nomatch h⟩⟩,.of_keep λb o h=>?_,z3,.of_eq (z4.trans L.gens)⟩
 by_cases c:b=d.heap.objs.size
 ·subst c
  rw[z2];exact k.symm.trans h
 ·refine z1 b o ?_
  show s0.heap.get? b=QA o
  rw[g]
  exact(Heap.get?_push_ne _ _ _ c).symm.trans h
end
section
set_option tactic.hygienic true
open PySem.W PySem.Calls PyProof.Rows
theorem holds:PySem.Challenge.rw_xm0830_01.Holds:=holds_law ws λa=>⟨a,Fj,Ds (r:=YK.row.toRowW) (YP:=YP) (XP:=λJ J=>True) left AH (λJ J=>trivial) (λs J=>recFacts_of rfl) rfl LK bare Fj
 (λw s h G n i=>by
  obtain⟨d,kwd,e,f,g⟩:=zP
  obtain rfl:n=YK.row.toRowW.name:=LS.mp i
  exact pinned_of_view h G e f g)
 λw k l j mb G b args vs as c J L J=>xF w k l j mb G b args vs as c L⟩
end
end RK.Internal
end
theorem PySem.Challenge.cw_xm0830_01_holds : PySem.Challenge.rw_xm0830_01.Holds :=
 RK.Internal.holds
