import PyProof.Rows.All
import Wide.All
import OpenK.AllK
import Wide.FinOn
import Lean
import PySem.Challenge.RW_nt0578_01
open PySem.Str renaming ofString→F7,empty→Rx
open Nat renaming le_trans→Oz,lt_of_lt_of_le→OE,le_refl→OF,le_add_right→OL,le_of_eq→OP,le_of_lt→O0,lt_succ_of_le→O8,lt_of_le_of_lt→Pd,ne_of_lt→Pf,ne_of_gt→Pg,le_succ_of_le→Pq,lt_irrefl→Pv,zero_add→Py,mul_le_mul_left→PA,add_sub_cancel'→PB,add_le_add_left→PC,zero_le→PF,add_comm→PK,lt_of_lt_of_eq→PP,add_right_comm→PQ,lt_succ_self→PR,add_le_add_right→PU,add_le_add→PV,le_add_left→PW,add_assoc→PY,two_pow_pos→P5,succ_add_eq_add_succ→P7,lt_add_of_pos_right→Qf,not_lt_zero→Qk,le_of_lt_succ→Qn,le_succ→Qt,succ_le_succ→Qv,lt_trans→QA,not_lt→QE,log2_lt→QG,add_zero→QL,lt_or_gt_of_ne→QS,lt_succ_of_lt→QZ,lt_of_sub_pos→Q0,min_le_right→Q9,lt_log2_self→Ra,log2_self_le→Rb,eq_zero_of_not_pos→Rd,sub_self→Rg,pow_succ→Rh,le_of_ble_eq_true→Rl,pow_le_pow_right→Rq,pos_of_ne_zero→Ry,eq_zero_or_pos→Rz,mod_lt→RB,testBit_eq_decide_div_mod_eq→RF,succ_pos→RJ,div_eq_of_lt→RM,sub_lt_left_of_lt_add→RY,testBit_mod_two_pow→R4,le_of_succ_le_succ→R7,lt_or_ge→Sc,le_sub_one_of_lt→Si,sub_lt_sub_left→Sl,sub_add_cancel→Sq,lt_of_succ_lt→Sw,blt→SC,ble→SE,zero_lt_succ→SF,succ_ne_self→SG,not_lt_of_le→SH,mod_eq_of_lt→SI,min_eq_right→SJ,le_of_not_lt→SK,mul_add_div→SN,min_eq_left→SO,div_add_mod→SP
open List renaming length_append→OA,append_assoc→OB,mem_of_getElem?→OC,getElem?_eq_getElem→OD,getD_eq_getElem?_getD→OG,getElem?_eq_some_iff→OH,length_map→OJ,replicate→OM,append_nil→OO,length_cons→OQ,range→OT,getElem?_append_right→OU,length_set→OW,mem_cons→OY,mem_singleton→OZ,map_cons→O1,map_append→O2,size_toArray→O3,getElem?_append_left→O4,getElem?_map→O5,all_eq_true→O6,getElem?_set_ne→O7,mem_append→O9,eq_nil_of_length_eq_zero→Pc,nil_append→Ph,getElem?_set_self→Pl,mem_map→Pm,getElem?_eq_none→Pp,nodup_cons→Pu,prefix_refl→Pw,map_congr_left→Pz,prefix_append→PH,mem_filter→PL,lookup_cons→PO,map_map→PX,nodup_append→PZ,sum_cons→P9,take_succ_cons→Qb,getElem_of_mem→Qc,pairwise_singleton→Qd,not_mem_nil→Qe,range_succ_eq_map→Qh,reverse_cons→Qm,drop_zero→Qp,getElem_mem→Qq,cons_append→Qr,pairwise_iff_getElem→Qs,find?_cons→Qw,length_eq_zero_iff→Qx,mem_append_right→QB,getElem?_toArray→QC,contains_iff_mem→QD,length_reverse→QI,drop_succ_cons→QJ,zip_cons_cons→QO,getElem?_drop→QP,mem_range→QQ,mem_or_eq_of_mem_set→QW,drop_eq_getElem_cons→QX,getElem?_cons_succ→Q3,length_drop→Q4,isEmpty_iff→Q5,getElem_set→Q6,getElem_inj→Q7,drop_eq_nil_of_le→Rc,range_succ→Re,length_nil→Rf,pairwise_append→Rm,mem_of_mem_take→Rn,mem_append_left→Ro,getElem?_of_mem→Rp,replicate_succ→Rt,getElem?_range→Ru,flatMap_cons→RD,mem_reverse→RK,filter_cons→RL,of_mem_zip→RN,forIn_cons→RO,take_zero→RU,drop_drop→RV,filterMap_cons_some→RZ,contains_eq_any_beq→R0,drop_nil→R2,any_cons→R3,take_of_length_le→R5,length_pos_of_mem→R6,take_eq_take_min→R8,set_getElem_self→R9,set_append_right→Sa,length_filter_le→Sb,range_eq_range'→Se,mem_of_mem_drop→Sf,getElem_toArray→Sg,range'→Sh,flatMap_append→Sj,pairwise_pair→Sn,pairwise_cons→So,length_range→Sr,getElem?_set→Ss,ext_getElem?→Su,any_eq_false→Sv,map_reverse→Sx,getElem_map→Sy,drop→SB,nil_prefix→SL,forIn_nil→SQ,take_nil→SX,set_comm→SY,map_take→SZ,all_cons→S0,set_set→S3,map_set→S4,map_nil→S5,isEmpty→S6
open Int renaming toNat_natCast→ON,natCast_nonneg→OS,toNat_of_nonneg→Pj,ofNat_lt→Pn,le_trans→Pt,eq_ofNat_of_zero_le→PI,add_le_add_right→PJ,ofNat_le→P8,lt_of_lt_of_le→Qy,lt_trans→QM,le_of_eq→QN,fdiv_eq_ediv_of_nonneg→QR,add_sub_cancel→QU,ofNat_sub→Q1,toNat_le→Ri,ediv_one→Rj,not_lt→Rk,sub_le_sub→Rs,lt_of_le_of_lt→RA,one_mul→RQ,natCast_add→RT,fmod_eq_emod_of_nonneg→RX,le_of_lt→Sd,add_lt_add_right→Sk,max_eq_right→SM,natCast_mul→SR,min_eq_left→SS,le_antisymm→ST,add_nonneg→S1,add_assoc→S7
open PySem.Heap renaming get?_push_of_some→OV,get?_push_size→Pe,ExtBut→PN,get?_update_self→Ql,lt_size→Qu,get?_update_ne→Rv,SameBut→RE
open Bool renaming and_eq_true_iff→Pi,and_eq_true→Px,false_ne_true→Qi,not_eq_true'→Qz,or_eq_true→QH,or_eq_true_iff→QK,not_eq_true→Sz,and_false→SU
open Option renaming any→Pk,isNone_iff_eq_none→Qo,isSome_iff_exists→QV,bind_eq_some_iff→QY,map_eq_some_iff→Q2,getD_none→RC,none→RH,bind_some→Sm,map_some→Sp,some→SW,map→S2
open Array renaming replicate_append_replicate→Po,replicate→PG,length_toList→Qa,append_assoc→Qg,append_empty→Rw,size_push→SA
open PySem.Builtin renaming bitAnd→PD,bitOr→Qj,divisionGoesByPylong→RG
open And renaming imp_right→PS
open PySem.Obj renaming mapBytearray→Q8,putName→RP
open Prod renaming ext→SV
open PySem PySem.W PyProof.Rows PySem.Calls
set_option Elab.async false
set_option maxRecDepth 100000
set_option linter.all false
set_option genInjectivity false
set_option genSizeOf false
set_option bootstrap.genMatcherCode false
set_option compiler.extract_closed false
namespace Mine.Internal
local macro_rules
 | `(mutual #where $cs* end) => do
  let x ← `(noncomputable def x := 0)
  let m := x.raw[0]
  let k := (List.range m.getNumArgs).findIdx fun i => m[i].getNumArgs != 0
  return Lean.mkNullNode (cs.map fun c =>
   let c := Id.run (c.raw.rewriteBottomUp (·.setInfo .none))
   let d := c[1]
   if d.isOfKind ``Lean.Parser.Command.definition||d.isOfKind ``Lean.Parser.Command.abbrev then c.setArg 0 (c[0].setArg k m[k]) else c)
 | `(#check ($k:ident,$xs,*)) => do
  let cs ← xs.getElems.mapM fun x => match x.raw.isNatLit? with
   | some n => `(command| theorem $(Lean.mkIdent (.str `hd s!"tw{(Lean.Name.str `Mine.Internal.hd s!"{k.getId}_1_{n}").hash}")) : True := trivial)
   | none => Lean.Macro.throwUnsupported
  return Lean.mkNullNode (cs.map fun c => Id.run (c.raw.rewriteBottomUp (·.setInfo .none)))
section
mutual #where
variable {P:Prop}
end
section
mutual #where
variable {p q r s t u v w l:Prop}
theorem ba(h:p/\q)(k:p->q->P):P:=h.elim k
theorem dN(h:p/\q/\r)(k:p->q->r->P):P:=h.elim fun x h=>ba h (k x)
theorem sn(h:p/\q/\r/\s)(k:p->q->r->s->P):P:=h.elim fun x h=>dN h (k x)
theorem tT(h:p/\q/\r/\s/\t)(k:p->q->r->s->t->P):P:=h.elim fun x h=>sn h (k x)
theorem IK(h:p/\q/\r/\s/\t/\u)(k:p->q->r->s->t->u->P):P:=h.elim fun x h=>tT h (k x)
theorem NA(h:p/\q/\r/\s/\t/\u/\v)(k:p->q->r->s->t->u->v->P):P:=h.elim fun x h=>IK h (k x)
theorem Nz(h:p/\q/\r/\s/\t/\u/\v/\w)(k:p->q->r->s->t->u->v->w->P):P:=h.elim fun x h=>NA h (k x)
theorem GK(h:p/\q/\r/\s/\t/\u/\v/\w/\l)(k:p->q->r->s->t->u->v->w->l->P):P:=h.elim fun x h=>Nz h (k x)
theorem bT(h:p)(k:q)(m:r):p/\q/\r:=⟨h,k,m⟩
theorem oK(h:p)(k:q)(m:r)(n:s):p/\q/\r/\s:=⟨h,k,m,n⟩
theorem ID(h:p)(k:q)(m:r)(n:s)(o:t):p/\q/\r/\s/\t:=⟨h,k,m,n,o⟩
end
end
section
mutual #where
variable {A:Type} {p q r s t u v w:A->Prop}
theorem b7(h:∃a,p a)(k:∀a,p a->P):P:=h.elim k
theorem aZ(h:∃a,p a/\q a)(k:∀a,p a->q a->P):P:=h.elim fun x h=>ba h (k x)
theorem eZ(h:∃a,p a/\q a/\r a)(k:∀a,p a->q a->r a->P):P:=h.elim fun x h=>dN h (k x)
theorem vc(h:∃a,p a/\q a/\r a/\s a)(k:∀a,p a->q a->r a->s a->P):P:=h.elim fun x h=>sn h (k x)
theorem IJ(h:∃a,p a/\q a/\r a/\s a/\t a)(k:∀a,p a->q a->r a->s a->t a->P):P:=h.elim fun x h=>tT h (k x)
theorem Ny(h:∃a,p a/\q a/\r a/\s a/\t a/\u a)(k:∀a,p a->q a->r a->s a->t a->u a->P):P:=h.elim fun x h=>IK h (k x)
theorem N9(h:∃a,p a/\q a/\r a/\s a/\t a/\u a/\v a)(k:∀a,p a->q a->r a->s a->t a->u a->v a->P):P:=h.elim fun x h=>NA h (k x)
theorem N8(h:∃a,p a/\q a/\r a/\s a/\t a/\u a/\v a/\w a)(k:∀a,p a->q a->r a->s a->t a->u a->v a->w a->P):P:=h.elim fun x h=>Nz h (k x)
theorem bN(a:A)(h:p a)(k:q a):∃a,p a/\q a:=⟨a,h,k⟩
theorem jb(a:A)(h:p a)(k:q a)(m:r a):∃a,p a/\q a/\r a:=⟨a,h,k,m⟩
theorem DM(a:A)(h:p a)(k:q a)(m:r a)(n:s a):∃a,p a/\q a/\r a/\s a:=⟨a,h,k,m,n⟩
theorem MA(a:A)(h:p a)(k:q a)(m:r a)(n:s a)(o:t a):∃a,p a/\q a/\r a/\s a/\t a:=⟨a,h,k,m,n,o⟩
theorem NW(a:A)(h:p a)(k:q a)(m:r a)(n:s a)(o:t a)(j:u a):∃a,p a/\q a/\r a/\s a/\t a/\u a:=⟨a,h,k,m,n,o,j⟩
end
end
section
mutual #where
variable {A B:Type} {p q r s t u v:A->B->Prop}
theorem mO(h:∃a b,p a b)(k:∀a b,p a b->P):P:=h.elim fun x h=>b7 h (k x)
theorem eu(h:∃a b,p a b/\q a b)(k:∀a b,p a b->q a b->P):P:=h.elim fun x h=>aZ h (k x)
theorem fQ(h:∃a b,p a b/\q a b/\r a b)(k:∀a b,p a b->q a b->r a b->P):P:=h.elim fun x h=>eZ h (k x)
theorem dQ(h:∃a b,p a b/\q a b/\r a b/\s a b)(k:∀a b,p a b->q a b->r a b->s a b->P):P:=h.elim fun x h=>vc h (k x)
theorem zL(h:∃a b,p a b/\q a b/\r a b/\s a b/\t a b)(k:∀a b,p a b->q a b->r a b->s a b->t a b->P):P:=h.elim fun x h=>IJ h (k x)
theorem N7(h:∃a b,p a b/\q a b/\r a b/\s a b/\t a b/\u a b)(k:∀a b,p a b->q a b->r a b->s a b->t a b->u a b->P):P:=h.elim fun x h=>Ny h (k x)
theorem N6(h:∃a b,p a b/\q a b/\r a b/\s a b/\t a b/\u a b/\v a b)(k:∀a b,p a b->q a b->r a b->s a b->t a b->u a b->v a b->P):P:=h.elim fun x h=>N9 h (k x)
theorem IC(a:A)(b:B)(h:p a b):∃a b,p a b:=⟨a,b,h⟩
theorem sf(a:A)(b:B)(h:p a b)(k:q a b):∃a b,p a b/\q a b:=⟨a,b,h,k⟩
theorem lN(a:A)(b:B)(h:p a b)(k:q a b)(m:r a b):∃a b,p a b/\q a b/\r a b:=⟨a,b,h,k,m⟩
theorem lK(a:A)(b:B)(h:p a b)(k:q a b)(m:r a b)(n:s a b):∃a b,p a b/\q a b/\r a b/\s a b:=⟨a,b,h,k,m,n⟩
theorem zJ(a:A)(b:B)(h:p a b)(k:q a b)(m:r a b)(n:s a b)(o:t a b):∃a b,p a b/\q a b/\r a b/\s a b/\t a b:=⟨a,b,h,k,m,n,o⟩
theorem Nu(a:A)(b:B)(h:p a b)(k:q a b)(m:r a b)(n:s a b)(o:t a b)(j:u a b):∃a b,p a b/\q a b/\r a b/\s a b/\t a b/\u a b:=⟨a,b,h,k,m,n,o,j⟩
end
end
section
mutual #where
variable {A B C:Type} {p q r s t u v:A->B->C->Prop}
theorem DO(h:∃a b c,p a b c)(k:∀a b c,p a b c->P):P:=h.elim fun x h=>mO h (k x)
theorem fP(h:∃a b c,p a b c/\q a b c)(k:∀a b c,p a b c->q a b c->P):P:=h.elim fun x h=>eu h (k x)
theorem ws(h:∃a b c,p a b c/\q a b c/\r a b c)(k:∀a b c,p a b c->q a b c->r a b c->P):P:=h.elim fun x h=>fQ h (k x)
theorem Ck(h:∃a b c,p a b c/\q a b c/\r a b c/\s a b c)(k:∀a b c,p a b c->q a b c->r a b c->s a b c->P):P:=h.elim fun x h=>dQ h (k x)
theorem si(h:∃a b c,p a b c/\q a b c/\r a b c/\s a b c/\t a b c)(k:∀a b c,p a b c->q a b c->r a b c->s a b c->t a b c->P):P:=h.elim fun x h=>zL h (k x)
theorem u9(h:∃a b c,p a b c/\q a b c/\r a b c/\s a b c/\t a b c/\u a b c)(k:∀a b c,p a b c->q a b c->r a b c->s a b c->t a b c->u a b c->P):P:=h.elim fun x h=>N7 h (k x)
theorem zv(h:∃a b c,p a b c/\q a b c/\r a b c/\s a b c/\t a b c/\u a b c/\v a b c)(k:∀a b c,p a b c->q a b c->r a b c->s a b c->t a b c->u a b c->v a b c->P):P:=h.elim fun x h=>N6 h (k x)
theorem NV(a:A)(b:B)(c:C)(h:p a b c):∃a b c,p a b c:=⟨a,b,c,h⟩
theorem qe(a:A)(b:B)(c:C)(h:p a b c)(k:q a b c):∃a b c,p a b c/\q a b c:=⟨a,b,c,h,k⟩
theorem GG(a:A)(b:B)(c:C)(h:p a b c)(k:q a b c)(m:r a b c):∃a b c,p a b c/\q a b c/\r a b c:=⟨a,b,c,h,k,m⟩
theorem GE(a:A)(b:B)(c:C)(h:p a b c)(k:q a b c)(m:r a b c)(n:s a b c):∃a b c,p a b c/\q a b c/\r a b c/\s a b c:=⟨a,b,c,h,k,m,n⟩
theorem Cg(a:A)(b:B)(c:C)(h:p a b c)(k:q a b c)(m:r a b c)(n:s a b c)(o:t a b c):∃a b c,p a b c/\q a b c/\r a b c/\s a b c/\t a b c:=⟨a,b,c,h,k,m,n,o⟩
theorem Nt(a:A)(b:B)(c:C)(h:p a b c)(k:q a b c)(m:r a b c)(n:s a b c)(o:t a b c)(j:u a b c):∃a b c,p a b c/\q a b c/\r a b c/\s a b c/\t a b c/\u a b c:=⟨a,b,c,h,k,m,n,o,j⟩
theorem Nr(a:A)(b:B)(c:C)(h:p a b c)(k:q a b c)(m:r a b c)(n:s a b c)(o:t a b c)(j:u a b c)(x:v a b c):∃a b c,p a b c/\q a b c/\r a b c/\s a b c/\t a b c/\u a b c/\v a b c:=⟨a,b,c,h,k,m,n,o,j,x⟩
end
end
section
mutual #where
variable {A B C D:Type} {p q r s t u v:A->B->C->D->Prop}
theorem N5(h:∃a b c d,p a b c d)(k:∀a b c d,p a b c d->P):P:=h.elim fun x h=>DO h (k x)
theorem u8(h:∃a b c d,p a b c d/\q a b c d)(k:∀a b c d,p a b c d->q a b c d->P):P:=h.elim fun x h=>fP h (k x)
theorem N4(h:∃a b c d,p a b c d/\q a b c d/\r a b c d)(k:∀a b c d,p a b c d->q a b c d->r a b c d->P):P:=h.elim fun x h=>ws h (k x)
theorem MC(h:∃a b c d,p a b c d/\q a b c d/\r a b c d/\s a b c d)(k:∀a b c d,p a b c d->q a b c d->r a b c d->s a b c d->P):P:=h.elim fun x h=>Ck h (k x)
theorem GJ(h:∃a b c d,p a b c d/\q a b c d/\r a b c d/\s a b c d/\t a b c d)(k:∀a b c d,p a b c d->q a b c d->r a b c d->s a b c d->t a b c d->P):P:=h.elim fun x h=>si h (k x)
theorem GH(h:∃a b c d,p a b c d/\q a b c d/\r a b c d/\s a b c d/\t a b c d/\u a b c d)(k:∀a b c d,p a b c d->q a b c d->r a b c d->s a b c d->t a b c d->u a b c d->P):P:=h.elim fun x h=>u9 h (k x)
theorem II(h:∃a b c d,p a b c d/\q a b c d/\r a b c d/\s a b c d/\t a b c d/\u a b c d/\v a b c d)(k:∀a b c d,p a b c d->q a b c d->r a b c d->s a b c d->t a b c d->u a b c d->v a b c d->P):P:=h.elim fun x h=>zv h (k x)
theorem wG(a:A)(b:B)(c:C)(d:D)(h:p a b c d)(k:q a b c d):∃a b c d,p a b c d/\q a b c d:=⟨a,b,c,d,h,k⟩
theorem NU(a:A)(b:B)(c:C)(d:D)(h:p a b c d)(k:q a b c d)(m:r a b c d)(n:s a b c d):∃a b c d,p a b c d/\q a b c d/\r a b c d/\s a b c d:=⟨a,b,c,d,h,k,m,n⟩
theorem NT(a:A)(b:B)(c:C)(d:D)(h:p a b c d)(k:q a b c d)(m:r a b c d)(n:s a b c d)(o:t a b c d):∃a b c d,p a b c d/\q a b c d/\r a b c d/\s a b c d/\t a b c d:=⟨a,b,c,d,h,k,m,n,o⟩
theorem IB(a:A)(b:B)(c:C)(d:D)(h:p a b c d)(k:q a b c d)(m:r a b c d)(n:s a b c d)(o:t a b c d)(j:u a b c d):∃a b c d,p a b c d/\q a b c d/\r a b c d/\s a b c d/\t a b c d/\u a b c d:=⟨a,b,c,d,h,k,m,n,o,j⟩
theorem Mz(a:A)(b:B)(c:C)(d:D)(h:p a b c d)(k:q a b c d)(m:r a b c d)(n:s a b c d)(o:t a b c d)(j:u a b c d)(x:v a b c d):∃a b c d,p a b c d/\q a b c d/\r a b c d/\s a b c d/\t a b c d/\u a b c d/\v a b c d:=⟨a,b,c,d,h,k,m,n,o,j,x⟩
end
end
section
mutual #where
variable {A B C D E:Type} {p q r s t u v:A->B->C->D->E->Prop}
theorem N3(h:∃a b c d e,p a b c d e)(k:∀a b c d e,p a b c d e->P):P:=h.elim fun x h=>N5 h (k x)
theorem MB(h:∃a b c d e,p a b c d e/\q a b c d e)(k:∀a b c d e,p a b c d e->q a b c d e->P):P:=h.elim fun x h=>u8 h (k x)
theorem Nx(h:∃a b c d e,p a b c d e/\q a b c d e/\r a b c d e)(k:∀a b c d e,p a b c d e->q a b c d e->r a b c d e->P):P:=h.elim fun x h=>N4 h (k x)
theorem zK(h:∃a b c d e,p a b c d e/\q a b c d e/\r a b c d e/\s a b c d e)(k:∀a b c d e,p a b c d e->q a b c d e->r a b c d e->s a b c d e->P):P:=h.elim fun x h=>MC h (k x)
theorem N2(h:∃a b c d e,p a b c d e/\q a b c d e/\r a b c d e/\s a b c d e/\t a b c d e)(k:∀a b c d e,p a b c d e->q a b c d e->r a b c d e->s a b c d e->t a b c d e->P):P:=h.elim fun x h=>GJ h (k x)
theorem Nw(h:∃a b c d e,p a b c d e/\q a b c d e/\r a b c d e/\s a b c d e/\t a b c d e/\u a b c d e)(k:∀a b c d e,p a b c d e->q a b c d e->r a b c d e->s a b c d e->t a b c d e->u a b c d e->P):P:=h.elim fun x h=>GH h (k x)
theorem IH(h:∃a b c d e,p a b c d e/\q a b c d e/\r a b c d e/\s a b c d e/\t a b c d e/\u a b c d e/\v a b c d e)(k:∀a b c d e,p a b c d e->q a b c d e->r a b c d e->s a b c d e->t a b c d e->u a b c d e->v a b c d e->P):P:=h.elim fun x h=>II h (k x)
theorem NS(a:A)(b:B)(c:C)(d:D)(e:E)(h:p a b c d e)(k:q a b c d e):∃a b c d e,p a b c d e/\q a b c d e:=⟨a,b,c,d,e,h,k⟩
theorem My(a:A)(b:B)(c:C)(d:D)(e:E)(h:p a b c d e)(k:q a b c d e)(m:r a b c d e)(n:s a b c d e):∃a b c d e,p a b c d e/\q a b c d e/\r a b c d e/\s a b c d e:=⟨a,b,c,d,e,h,k,m,n⟩
theorem NR(a:A)(b:B)(c:C)(d:D)(e:E)(h:p a b c d e)(k:q a b c d e)(m:r a b c d e)(n:s a b c d e)(o:t a b c d e)(j:u a b c d e)(x:v a b c d e):∃a b c d e,p a b c d e/\q a b c d e/\r a b c d e/\s a b c d e/\t a b c d e/\u a b c d e/\v a b c d e:=⟨a,b,c,d,e,h,k,m,n,o,j,x⟩
end
end
section
mutual #where
variable {A B C D E F:Type} {p q r s t u v:A->B->C->D->E->F->Prop}
theorem N1(h:∃a b c d e f,p a b c d e f)(k:∀a b c d e f,p a b c d e f->P):P:=h.elim fun x h=>N3 h (k x)
theorem DN(h:∃a b c d e f,p a b c d e f/\q a b c d e f/\r a b c d e f)(k:∀a b c d e f,p a b c d e f->q a b c d e f->r a b c d e f->P):P:=h.elim fun x h=>Nx h (k x)
theorem N0(h:∃a b c d e f,p a b c d e f/\q a b c d e f/\r a b c d e f/\s a b c d e f/\t a b c d e f/\u a b c d e f)(k:∀a b c d e f,p a b c d e f->q a b c d e f->r a b c d e f->s a b c d e f->t a b c d e f->u a b c d e f->P):P:=h.elim fun x h=>Nw h (k x)
theorem IG(h:∃a b c d e f,p a b c d e f/\q a b c d e f/\r a b c d e f/\s a b c d e f/\t a b c d e f/\u a b c d e f/\v a b c d e f)(k:∀a b c d e f,p a b c d e f->q a b c d e f->r a b c d e f->s a b c d e f->t a b c d e f->u a b c d e f->v a b c d e f->P):P:=h.elim fun x h=>IH h (k x)
theorem Mx(a:A)(b:B)(c:C)(d:D)(e:E)(f:F)(h:p a b c d e f)(k:q a b c d e f)(m:r a b c d e f)(n:s a b c d e f)(o:t a b c d e f)(j:u a b c d e f)(x:v a b c d e f):∃a b c d e f,p a b c d e f/\q a b c d e f/\r a b c d e f/\s a b c d e f/\t a b c d e f/\u a b c d e f/\v a b c d e f:=⟨a,b,c,d,e,f,h,k,m,n,o,j,x⟩
end
end
section
mutual #where
variable {A B C D E F G:Type} {p:A->B->C->D->E->F->G->Prop}
theorem IF(h:∃a b c d e f g,p a b c d e f g)(k:∀a b c d e f g,p a b c d e f g->P):P:=h.elim fun x h=>N1 h (k x)
end
end
section
mutual #where
variable {A B C D E F G I:Type} {p:A->B->C->D->E->F->G->I->Prop}
theorem NZ(h:∃a b c d e f g i,p a b c d e f g i)(k:∀a b c d e f g i,p a b c d e f g i->P):P:=h.elim fun x h=>IF h (k x)
end
end
end
universe u
mutual #where
@[elab_as_elim] theorem er{α:Sort u}{motive:α->Prop}{a b:α}(h:a=b)(p:motive b):motive a:=h▸p
@[elab_as_elim] theorem el{α:Sort u}{motive:α->Prop}{a b:α}(h:b=a)(p:motive b):motive a:=h▸p
theorem tb{T G:Prop}(h:T)(k:T->G):G:=k h
theorem jF{p0 p1:Prop}(k:∀P:Prop,(p0->p1->P)->P):p0/\p1:=k _ fun h0 h1=>⟨h0,h1⟩
theorem BV{p0 p1 p2:Prop}(k:∀P:Prop,(p0->p1->p2->P)->P):p0/\p1/\p2:=k _ fun h0 h1 h2=>⟨h0,h1,h2⟩
theorem Hw{p0 p1 p2 p3:Prop}(k:∀P:Prop,(p0->p1->p2->p3->P)->P):p0/\p1/\p2/\p3:=k _ fun h0 h1 h2 h3=>⟨h0,h1,h2,h3⟩
theorem Hu{p0 p1 p2 p3 p4:Prop}(k:∀P:Prop,(p0->p1->p2->p3->p4->P)->P):p0/\p1/\p2/\p3/\p4:=k _ fun h0 h1 h2 h3 h4=>⟨h0,h1,h2,h3,h4⟩
theorem yO{a0:Type}{p0:a0->Prop}(k:∀P:Prop,(∀x0,p0 x0->P)->P):∃x0,p0 x0:=k _ fun x0 h0=>⟨x0,h0⟩
theorem ma{a0:Type}{p0 p1:a0->Prop}(k:∀P:Prop,(∀x0,p0 x0->p1 x0->P)->P):∃x0,p0 x0/\p1 x0:=k _ fun x0 h0 h1=>⟨x0,h0,h1⟩
theorem Ht{a0:Type}{p0 p1 p2:a0->Prop}(k:∀P:Prop,(∀x0,p0 x0->p1 x0->p2 x0->P)->P):∃x0,p0 x0/\p1 x0/\p2 x0:=k _ fun x0 h0 h1 h2=>⟨x0,h0,h1,h2⟩
theorem yN{a0:Type}{p0 p1 p2 p3:a0->Prop}(k:∀P:Prop,(∀x0,p0 x0->p1 x0->p2 x0->p3 x0->P)->P):∃x0,p0 x0/\p1 x0/\p2 x0/\p3 x0:=k _ fun x0 h0 h1 h2 h3=>⟨x0,h0,h1,h2,h3⟩
theorem yM{a0:Type}{a1:Type}{p0 p1 p2:a0->a1->Prop}(k:∀P:Prop,(∀x0 x1,p0 x0 x1->p1 x0 x1->p2 x0 x1->P)->P):∃x0 x1,p0 x0 x1/\p1 x0 x1/\p2 x0 x1:=k _ fun x0 x1 h0 h1 h2=>⟨x0,x1,h0,h1,h2⟩
theorem BU{a0:Type}{a1:Type}{p0 p1 p2 p3:a0->a1->Prop}(k:∀P:Prop,(∀x0 x1,p0 x0 x1->p1 x0 x1->p2 x0 x1->p3 x0 x1->P)->P):∃x0 x1,p0 x0 x1/\p1 x0 x1/\p2 x0 x1/\p3 x0 x1:=k _ fun x0 x1 h0 h1 h2 h3=>⟨x0,x1,h0,h1,h2,h3⟩
theorem uw{a0:Type}{a1:Type}{p0 p1 p2 p3 p4:a0->a1->Prop}(k:∀P:Prop,(∀x0 x1,p0 x0 x1->p1 x0 x1->p2 x0 x1->p3 x0 x1->p4 x0 x1->P)->P):∃x0 x1,p0 x0 x1/\p1 x0 x1/\p2 x0 x1/\p3 x0 x1/\p4 x0 x1:=k _ fun x0 x1 h0 h1 h2 h3 h4=>⟨x0,x1,h0,h1,h2,h3,h4⟩
theorem Hs{a0:Type}{a1:Type}{a2:Type}{p0 p1 p2:a0->a1->a2->Prop}(k:∀P:Prop,(∀x0 x1 x2,p0 x0 x1 x2->p1 x0 x1 x2->p2 x0 x1 x2->P)->P):∃x0 x1 x2,p0 x0 x1 x2/\p1 x0 x1 x2/\p2 x0 x1 x2:=k _ fun x0 x1 x2 h0 h1 h2=>⟨x0,x1,x2,h0,h1,h2⟩
theorem BT{a0:Type}{a1:Type}{a2:Type}{p0 p1 p2 p3:a0->a1->a2->Prop}(k:∀P:Prop,(∀x0 x1 x2,p0 x0 x1 x2->p1 x0 x1 x2->p2 x0 x1 x2->p3 x0 x1 x2->P)->P):∃x0 x1 x2,p0 x0 x1 x2/\p1 x0 x1 x2/\p2 x0 x1 x2/\p3 x0 x1 x2:=k _ fun x0 x1 x2 h0 h1 h2 h3=>⟨x0,x1,x2,h0,h1,h2,h3⟩
theorem yL{a0:Type}{a1:Type}{a2:Type}{p0 p1 p2 p3 p4:a0->a1->a2->Prop}(k:∀P:Prop,(∀x0 x1 x2,p0 x0 x1 x2->p1 x0 x1 x2->p2 x0 x1 x2->p3 x0 x1 x2->p4 x0 x1 x2->P)->P):∃x0 x1 x2,p0 x0 x1 x2/\p1 x0 x1 x2/\p2 x0 x1 x2/\p3 x0 x1 x2/\p4 x0 x1 x2:=k _ fun x0 x1 x2 h0 h1 h2 h3 h4=>⟨x0,x1,x2,h0,h1,h2,h3,h4⟩
theorem Hr{a0:Type}{a1:Type}{a2:Type}{a3:Type}{p0 p1 p2 p3:a0->a1->a2->a3->Prop}(k:∀P:Prop,(∀x0 x1 x2 x3,p0 x0 x1 x2 x3->p1 x0 x1 x2 x3->p2 x0 x1 x2 x3->p3 x0 x1 x2 x3->P)->P):∃x0 x1 x2 x3,p0 x0 x1 x2 x3/\p1 x0 x1 x2 x3/\p2 x0 x1 x2 x3/\p3 x0 x1 x2 x3:=k _ fun x0 x1 x2 x3 h0 h1 h2 h3=>⟨x0,x1,x2,x3,h0,h1,h2,h3⟩
theorem BS{a0:Type}{a1:Type}{a2:Type}{a3:Type}{p0 p1 p2 p3 p4:a0->a1->a2->a3->Prop}(k:∀P:Prop,(∀x0 x1 x2 x3,p0 x0 x1 x2 x3->p1 x0 x1 x2 x3->p2 x0 x1 x2 x3->p3 x0 x1 x2 x3->p4 x0 x1 x2 x3->P)->P):∃x0 x1 x2 x3,p0 x0 x1 x2 x3/\p1 x0 x1 x2 x3/\p2 x0 x1 x2 x3/\p3 x0 x1 x2 x3/\p4 x0 x1 x2 x3:=k _ fun x0 x1 x2 x3 h0 h1 h2 h3 h4=>⟨x0,x1,x2,x3,h0,h1,h2,h3,h4⟩
theorem BR{a0:Type}{a1:Type}{a2:Type}{a3:Type}{p0 p1 p2 p3 p4 p5:a0->a1->a2->a3->Prop}(k:∀P:Prop,(∀x0 x1 x2 x3,p0 x0 x1 x2 x3->p1 x0 x1 x2 x3->p2 x0 x1 x2 x3->p3 x0 x1 x2 x3->p4 x0 x1 x2 x3->p5 x0 x1 x2 x3->P)->P):∃x0 x1 x2 x3,p0 x0 x1 x2 x3/\p1 x0 x1 x2 x3/\p2 x0 x1 x2 x3/\p3 x0 x1 x2 x3/\p4 x0 x1 x2 x3/\p5 x0 x1 x2 x3:=k _ fun x0 x1 x2 x3 h0 h1 h2 h3 h4 h5=>⟨x0,x1,x2,x3,h0,h1,h2,h3,h4,h5⟩
theorem Hq{a0:Type}{a1:Type}{a2:Type}{a3:Type}{p0 p1 p2 p3 p4 p5 p6:a0->a1->a2->a3->Prop}(k:∀P:Prop,(∀x0 x1 x2 x3,p0 x0 x1 x2 x3->p1 x0 x1 x2 x3->p2 x0 x1 x2 x3->p3 x0 x1 x2 x3->p4 x0 x1 x2 x3->p5 x0 x1 x2 x3->p6 x0 x1 x2 x3->P)->P):∃x0 x1 x2 x3,p0 x0 x1 x2 x3/\p1 x0 x1 x2 x3/\p2 x0 x1 x2 x3/\p3 x0 x1 x2 x3/\p4 x0 x1 x2 x3/\p5 x0 x1 x2 x3/\p6 x0 x1 x2 x3:=k _ fun x0 x1 x2 x3 h0 h1 h2 h3 h4 h5 h6=>⟨x0,x1,x2,x3,h0,h1,h2,h3,h4,h5,h6⟩
theorem BQ{a0:Type}{a1:Type}{a2:Type}{a3:Type}{a4:Type}{p0 p1 p2:a0->a1->a2->a3->a4->Prop}(k:∀P:Prop,(∀x0 x1 x2 x3 x4,p0 x0 x1 x2 x3 x4->p1 x0 x1 x2 x3 x4->p2 x0 x1 x2 x3 x4->P)->P):∃x0 x1 x2 x3 x4,p0 x0 x1 x2 x3 x4/\p1 x0 x1 x2 x3 x4/\p2 x0 x1 x2 x3 x4:=k _ fun x0 x1 x2 x3 x4 h0 h1 h2=>⟨x0,x1,x2,x3,x4,h0,h1,h2⟩
theorem yK{a0:Type}{a1:Type}{a2:Type}{a3:Type}{a4:Type}{p0 p1 p2 p3:a0->a1->a2->a3->a4->Prop}(k:∀P:Prop,(∀x0 x1 x2 x3 x4,p0 x0 x1 x2 x3 x4->p1 x0 x1 x2 x3 x4->p2 x0 x1 x2 x3 x4->p3 x0 x1 x2 x3 x4->P)->P):∃x0 x1 x2 x3 x4,p0 x0 x1 x2 x3 x4/\p1 x0 x1 x2 x3 x4/\p2 x0 x1 x2 x3 x4/\p3 x0 x1 x2 x3 x4:=k _ fun x0 x1 x2 x3 x4 h0 h1 h2 h3=>⟨x0,x1,x2,x3,x4,h0,h1,h2,h3⟩
theorem BP{a0:Type}{a1:Type}{a2:Type}{a3:Type}{a4:Type}{p0 p1 p2 p3 p4 p5 p6:a0->a1->a2->a3->a4->Prop}(k:∀P:Prop,(∀x0 x1 x2 x3 x4,p0 x0 x1 x2 x3 x4->p1 x0 x1 x2 x3 x4->p2 x0 x1 x2 x3 x4->p3 x0 x1 x2 x3 x4->p4 x0 x1 x2 x3 x4->p5 x0 x1 x2 x3 x4->p6 x0 x1 x2 x3 x4->P)->P):∃x0 x1 x2 x3 x4,p0 x0 x1 x2 x3 x4/\p1 x0 x1 x2 x3 x4/\p2 x0 x1 x2 x3 x4/\p3 x0 x1 x2 x3 x4/\p4 x0 x1 x2 x3 x4/\p5 x0 x1 x2 x3 x4/\p6 x0 x1 x2 x3 x4:=k _ fun x0 x1 x2 x3 x4 h0 h1 h2 h3 h4 h5 h6=>⟨x0,x1,x2,x3,x4,h0,h1,h2,h3,h4,h5,h6⟩
theorem BO{a0:Type}{a1:Type}{a2:Type}{a3:Type}{a4:Type}{a5:Type}{a6:Type}{a7:Type}{p0:a0->a1->a2->a3->a4->a5->a6->a7->Prop}(k:∀P:Prop,(∀x0 x1 x2 x3 x4 x5 x6 x7,p0 x0 x1 x2 x3 x4 x5 x6 x7->P)->P):∃x0 x1 x2 x3 x4 x5 x6 x7,p0 x0 x1 x2 x3 x4 x5 x6 x7:=k _ fun x0 x1 x2 x3 x4 x5 x6 x7 h0=>⟨x0,x1,x2,x3,x4,x5,x6,x7,h0⟩
theorem fM{p0 p1 p2 P:Prop}(h:(p0/\p1)/\p2)(k:p0->p1->p2->P):P:=k (h.1.1) (h.1.2) (h.2)
theorem HU{p0 p1:Bool}{P:Prop}(h:(p0&&p1)=true)(k:p0=true->p1=true->P):P:=(Pi.mp h).elim k
theorem eJ{p0 p1 p2:Bool}{P:Prop}(h:(p0&&(p1&&p2))=true)(k:p0=true->p1=true->p2=true->P):P:=(Pi.mp h).elim fun a h=>HU h (k a)
theorem M7{p0 p1 p2 p3:Bool}{P:Prop}(h:(p0&&(p1&&(p2&&p3)))=true)(k:p0=true->p1=true->p2=true->p3=true->P):P:=(Pi.mp h).elim fun a h=>eJ h (k a)
theorem M6{p0 p1 p2 p3 p4:Bool}{P:Prop}(h:(p0&&(p1&&(p2&&(p3&&p4))))=true)(k:p0=true->p1=true->p2=true->p3=true->p4=true->P):P:=(Pi.mp h).elim fun a h=>M7 h (k a)
theorem zc{p0 p1 p2:Bool}{P:Prop}(h:((p0&&p1)&&p2)=true)(k:p0=true->p1=true->p2=true->P):P:=(Pi.mp h).elim fun h z=>HU h fun a0 a1=>k a0 a1 z
theorem z0{a:Nat}:0<=(a:Int):=by exact OS _
theorem z1{a b:Nat}(_:a<b):a≠b:=by exact Pf ‹_›
theorem z2{a b c:Nat}(_:a<b)(_:b<=c):c≠a:=by lia
theorem z3{a:Nat}:((a+1:Nat):Int)=(a:Int)+1:=by rfl
theorem z4{a b c:Nat}(_:a<=b)(_:c<=a):c<=b:=by exact Oz ‹_› ‹_›
theorem z5{a b c:Nat}(_:a<b)(_:b<=c):a≠c:=by omega
theorem z6{a:Nat}:-1000000<(a:Int):=by exact OS _
theorem z7{a b:Nat}:a+1+b=a+(b+1):=by exact PQ _ _ _
theorem z8{a b:Nat}(_:a<b):b≠a:=by exact Pg ‹_›
theorem z9{a:Nat}(_:a=0):(a:Int)=0:=by lia
theorem uX{a:Nat}(_:0<a):a≠0:=by exact Pg ‹_›
theorem uW{a:Nat}(_:0<a):0<(a:Int):=by exact Pn.mpr ‹_›
theorem zu{a:Nat}(h1:¬a=0):¬(a:Int)=0:=fun h=>h1 (Int.ofNat.inj h)
theorem zB{a b:Nat}(_:a<b):a≠b+1:=by lia
theorem Bt:¬0<((0:Nat):Int):=by simp
theorem Bs{a:Nat}:(a:Int)+1=((a+1:Nat):Int):=by rfl
theorem Br{a:Nat}:((a:Int)-0:Int).toNat=a:=by rfl
theorem Bq{a:Nat}:-4611686018427387904<(a:Int):=by exact OS _
theorem zz{a:Nat}(_:a=4):a<=100000:=by omega
theorem Bp{a:Nat}(_:¬0<a):a=0:=by exact Rd ‹_›
theorem Bo{a b:Nat}(_:a=b)(_:b<=2):a<=100000:=by lia
theorem Cb{a:Nat}:a≠a+1:=by simp
theorem Ca{a:Nat}:0+a=a:=by exact PK _ _
theorem B9{a b:Nat}:a+(b+1)=a+1+b:=by lia
theorem B8{a b:Nat}(_:a<b):a<b+1:=by exact Pq ‹_›
theorem Et{a b:Nat}(_:a<=b):a<=b:=by assumption
theorem B7{a b c:Nat}(_:a+(b+1)=c):a+1+b=c:=by lia
theorem DL{a:Nat}:¬(a:Int)<0:=by simp
theorem DK{a:Nat}(_:a<=2):a<=100000:=by exact Oz ‹_› (by decide)
theorem Bn{a b:Nat}(_:a+(b+1)<=4):a+1+b<=4:=by lia
theorem DJ{a b:Nat}(_:a<b+1)(_:¬a=b):a<b:=by lia
theorem DI{a b:Nat}(_:¬a<b):b<=a:=by exact QE.mp ‹_›
theorem DH{a b c:Nat}(_:a+(b+1)=c):a<c:=by lia
theorem DG{a b c:Nat}(_:a<b)(_:b<=c):a<c:=by exact OE ‹_› ‹_›
theorem DF{a b c:Nat}(_:a<b)(_:c=b+1):a≠c:=by lia
theorem Es{a:Nat}:a<=a+1:=by exact OL _ _
theorem Er{a:Nat}(_:a<=20):(a:Int)<=1000:=by lia
theorem Ep{a:Nat}(h1:0<a):(a:Int)-1=((a-1:Nat):Int):=(Q1 h1).symm
theorem B6{a:Nat}(_:¬0<a):¬0<(a:Int):=by lia
theorem Eo{a b c d:Nat}(h1:a<b)(h2:b<=c)(h3:c<=d):d≠a:=Pg (OE h1 (Oz h2 h3))
theorem En{a b c d e:Nat}(_:a<b)(_:c=b+1)(_:d<=e)(_:c<=d):e≠a:=by lia
theorem Iz{a:Nat}(_:a<4):a<=20:=by exact O0 (OE ‹_› (by decide))
theorem Iy{a:Nat}(_:a<4):(a:Int)<=1000:=by lia
theorem Ix{a:Nat}(_:a=0):¬1<a:=by lia
theorem Iw{a:Nat}(_:a≠0):1<=a:=by exact Ry ‹_›
theorem Iv{a:Nat}(_:a≠1)(_:¬a=0):1<a:=by lia
theorem Iu{a:Nat}(_:a<=100000):a<=16777216:=by exact Oz ‹_› (by decide)
theorem It{a:Nat}(_:a<=15):a<16:=by exact O8 ‹_›
theorem Ir{a:Nat}(_:a<=15):0+a<=15:=by lia
theorem Iq{a:Nat}(_:a<=4):a<=20:=by exact Oz ‹_› (by decide)
theorem Ip{a:Nat}(_:¬a=0):¬a=0:=by assumption
theorem Io{a b:Nat}(_:a+(b+1)<=100):a+1+b<=100:=by lia
theorem Im{a b:Nat}(_:a+(b+1)<=3):a+1+b<=3:=by lia
theorem Il{a b:Nat}(_:a+1<=b):a<=b:=by exact O0 ‹_›
theorem Ik{a b:Nat}(h1:a<b*2):a-b<b:=(Sc a b).elim (fun h=>Nat.sub_eq_zero_of_le (O0 h)▸Pd (PF a) h) (fun h=>RY h (Nat.mul_two b▸h1))
theorem KG{a b:Nat}(_:a=b)(_:b<=63):a<=63:=by lia
theorem Ij{a b c:Nat}(_:a<b):a<b+c:=by lia
theorem Ii{a b c:Nat}(_:a<b)(_:b<=c)(_:c<=a):False:=by lia
theorem DE{a b c:Nat}(_:a<b)(_:c=b+1)(_:c<=a):False:=by lia
theorem No{a:Int}(_:a<2147483647):a<2147483648:=by lia
theorem Nn{a:Int}(_:a=1∨a=2):a<4611686018427387904:=by lia
theorem Nm{a:Int}(_:a=1∨a=2):-4611686018427387904<a:=by lia
theorem Kl{a:Int}(h1:a<=7)(h2:-7<=a):-15<=a/\a<=15:=⟨Pt (by decide) h2,Pt h1 (by decide)⟩
theorem Kh{a:Int}(_:0<a):0<=a:=by exact Sd ‹_›
theorem Kd{a:Int}{b c:Nat}(_:a.toNat<=b)(_:c<a.toNat):c<b:=by exact OE ‹_› ‹_›
theorem Ih{a:Nat}:((a+1:Nat):Int)-1=(a:Int):=by simp
theorem Ig{a:Nat}:-1000000<(a:Int)+1:=Qy (by decide:(-1000000:Int)<0) (OS (a+1))
theorem J2{a:Nat}:0<1+a:=by exact OL _ _
theorem JW{a:Nat}(_:a<2):a<1000000:=by exact OE ‹_› (by decide)
theorem Eg{a:Nat}(_:a=1):(a:Int)=1:=by lia
theorem JS{a:Nat}(_:a<=20):a<=100000:=by exact Oz ‹_› (by decide)
theorem Ie{a b:Nat}:((a:Int)+1-(b:Int):Int).toNat=a+1-b:=by simp
theorem Ic{a b:Nat}(_:a+(b+1)<=15):a<16:=by lia
theorem JR{a b:Nat}(_:a+(b+1)<=20):a+1+b<=20:=by lia
theorem JN{a b:Nat}(_:a+(b+1)<=20):a<=100000:=by lia
theorem DD{a b:Nat}(_:a+(b+1)<=4):a<1000000:=by lia
theorem JL{a b:Nat}(_:a+2<=b):a<=b:=by lia
theorem JF{a b:Nat}(_:a<b):(a:Int)<(b:Int):=by exact Pn.mpr ‹_›
theorem JC{a b:Nat}(_:a<b)(_:b<=2):a<1000000:=by lia
theorem Jw{a b:Nat}(_:a<=b):(a:Int)<=(b:Int):=by exact P8.mpr ‹_›
theorem Ib{a b:Nat}(h1:a<=b)(h2:b<=3):a+(b+1-a)<=4:=Oz (OP (PB (Pq h1))) (Qv h2)
theorem Jt{a b c:Nat}(_:a+(b+1)<=c):a<c:=by lia
theorem Js{a b c:Nat}(_:a+(b+1)<=4)(_:c=4):a+(b+1)<=c:=by lia
theorem Jp{a b c:Nat}(_:a+1-b<=3)(_:c=a+1-b):c<=3:=by lia
theorem Jl{a b c d:Nat}(_:a<=b)(_:c<=d)(_:d<=a):c<=b:=by lia
theorem Nl{a:Int}(_:a<2^62):a<2^63:=by lia
theorem Nk{a:Int}(h1:a<=15):(a+15:Int).toNat<31:=O8 (Ri.mpr (PJ h1 15))
theorem Nj{a:Int}(h1:a<=7):(a+7:Int).toNat<15:=O8 (Ri.mpr (PJ h1 7))
theorem Ni{a:Int}(h1:-15<=a):(((a+15:Int).toNat:Nat):Int)-15=a:=(congrArg (· - 15) (Pj (PJ h1 15))).trans (QU a 15)
theorem Nh{a:Int}(_:0<a):a≠0:=by lia
theorem GA{a:Int}(_:0<=a):-4611686018427387904<a:=by lia
theorem Gx{a:Int}(_:1<=a):0<a:=by assumption
theorem Gk{a:Nat}:(-(-(a:Int)-1)-1:Int).toNat=a:=by lia
theorem Gd{a:Nat}:0<((a+1:Nat):Int):=by simp
theorem F8{a:Nat}:1+a-1=a:=by simp
theorem FX{a:Nat}:¬((a+1:Nat):Int)<0:=by lia
theorem FP{a:Nat}:¬0<=-(a:Int)-1:=by lia
theorem FO{a:Nat}(_:a%2<1):a%2=0:=by lia
theorem FN{a:Nat}(_:a%2≥1):a%2=1:=by lia
theorem FM{a:Nat}(_:a<2^0*2)(_:2^0<=a):a=1:=by lia
theorem FL{a:Nat}(_:a<4):(a:Int)<15:=by lia
theorem FK{a:Nat}(_:a=0):¬0<(a:Int):=by lia
theorem FJ{a:Nat}(h1:a=0∨a=1):(a:Int)=0∨(a:Int)=1:=h1.imp (congrArg Nat.cast) (congrArg Nat.cast)
theorem FH{a:Nat}(_:a<=10):a<=20:=by exact Oz ‹_› (by decide)
theorem Mv{a:Nat}(h1:a<=2):a=0∨a=1∨a=2:=(by decide:∀a≤2,a=0∨a=1∨a=2) a h1
theorem FG{a:Nat}(_:a<=2):a<=1000:=by exact Oz ‹_› (by decide)
theorem FE{a:Nat}(_:a<=2):a<=20:=by exact Oz ‹_› (by decide)
theorem FA{a:Nat}(_:a<=2):((a:Int)-0:Int).toNat=a:=by rfl
theorem Fz{a:Nat}(_:a<=2):0<=(a:Int)/\(a:Int)<=100000:=by lia
theorem Fy{a:Nat}(_:a<=2):¬13<(a:Int):=by lia
theorem Mu{a:Nat}(_:a<=3):(a:Int)<=3:=by exact P8.mpr ‹_›
theorem Fx{a:Nat}(_:a<=4):a<16:=by exact Pd ‹_› (by decide)
theorem Fw{a:Nat}(_:a<=4):a<6:=by exact Pd ‹_› (by decide)
theorem Fv{a:Nat}(_:(a:Int)<3):a<=2:=by lia
theorem Fu{a:Nat}(_:0<a):a=a-1+1:=by exact(Sq ‹_›).symm
theorem Ft{a:Nat}(_:0<a):(a:Int)≠0:=by lia
theorem Fs{a:Nat}(_:0<a):¬(a:Int)=0:=by lia
theorem Mt{a:Nat}(_:¬a=0):(a:Int)≠0:=by lia
theorem Fr{a:Nat}(_:¬a=0)(_:¬a=1):1<a:=by lia
theorem zA{a:Nat}(_:¬a=1):¬(a:Int)=1:=by lia
theorem Ms{a b:Nat}:a+b+1=a+1+b:=by exact PQ _ _ _
theorem Fq{a b:Nat}:a<a+(b+1):=by simp
theorem Fo{a b:Nat}:a≠a+1+b:=by lia
theorem Fm{a b:Nat}(_:a+(b+1)<=10):a+1+b<=10:=by lia
theorem Fk{a b:Nat}(_:a+(b+1)<=100):a<=100000:=by lia
theorem Mr{a b:Nat}(_:a+(b+1)<=1000):a+1+b<=1000:=by lia
theorem Mq{a b:Nat}(_:a+(b+1)<=1000):a<=100000:=by lia
theorem Fj{a b:Nat}(_:a+(b+1)<=3):b<=3:=by lia
theorem Fi{a b:Nat}(_:a+(b+1)<=50):a+1+b<=50:=by lia
theorem Fh{a b:Nat}(_:a+(b+1)<=50):a<=100000:=by lia
theorem Mp{a b:Nat}(_:a+1<b):b≠a+1:=by exact Pg ‹_›
theorem Fg{a b:Nat}(h1:a<b):a<=b-1:=Si h1
theorem Ff{a b:Nat}(h1:a<b):b+1-(a+1)<b+1-a:=Sl (QZ h1) (PR a)
theorem Mo{a b:Nat}(_:a<b)(_:b<=2):a<2:=by exact OE ‹_› ‹_›
theorem Fe{a b:Nat}(_:a<b)(_:b<=2):a<=1:=by lia
theorem Fd{a b:Nat}(_:a<b)(_:b<=20):a<1000000:=by lia
theorem Fc{a b:Nat}(_:a<b)(_:b<=3):a<1000000:=by lia
theorem Fa{a b:Nat}(h1:a<4)(h2:b<6):6*a+b<32:=OE (Nat.add_lt_add_of_le_of_lt (PA 6 (Qn h1)) h2) (by decide)
theorem E9{a b:Nat}(_:a=b+2):b+1<a:=by lia
theorem E8{a b:Nat}(_:a=b)(_:b<=2):a<=2:=by lia
theorem EZ{a b:Nat}(_:a=0∨a=b+1)(_:¬a=0):(a:Int)=(b:Int)+1:=by lia
theorem EY{a b:Nat}(h1:a<=b):(b:Int)-(a:Int)=((b-a:Nat):Int):=(Q1 h1).symm
theorem EX{a b:Nat}(_:a<=b-1)(_:0<b):a<b:=by lia
theorem EW{a b:Nat}(h1:a<=b)(h2:b<=14):1+a<16:=O8 (Oz (OP (PK 1 a)) (Qv (Oz h1 h2)))
theorem EU{a b:Nat}(_:a<=63*b):a<=63*(b+1):=by lia
theorem ET{a b:Nat}(_:a<=700008)(_:8*b+0=a):b<=100000:=by lia
theorem ES{a b:Nat}(_:(a:Int)<(b:Int)):a<b:=by lia
theorem ER{a b:Nat}{c:Int}(_:a+(b+1)<=c.toNat):a+1+b<=c.toNat:=by lia
theorem EQ{a b:Nat}{c:Int}(_:a+(b+1)<=c.toNat):a<c.toNat:=by lia
theorem EP{a b c:Nat}(_:a+b=c)(_:c<=300000):a+b<=700000:=by lia
theorem EO{a b c:Nat}(_:a+(b+1)<=c+1):a+1+b<=c+1:=by lia
theorem Cc{a b c:Nat}(_:a+(b+1)<=15)(_:c<=a+1):c+b<=15:=by lia
theorem EN{a b c:Nat}(_:a+(b+1)<=4)(_:c=4):a<c:=by lia
theorem EM{a b c:Nat}(_:a+0=b)(_:c<b):c<a:=by lia
theorem EL{a b c:Nat}(_:a<b+1+c):a<b+(c+1):=by lia
theorem EK{a b c:Nat}(_:a<b)(_:a=c)(_:b<=c):False:=by lia
theorem EJ{a b c:Nat}(_:a<b)(_:b<c):a≠c:=by lia
theorem EI{a b c:Nat}(_:a<b)(_:b=c):a<c:=by lia
theorem EH{a b c:Nat}(_:a<b)(_:c=b):a<c:=by lia
theorem EF{a b c:Nat}(h1:a<b)(h2:c=b+1):a<c+1:=QA h1 (QA (PP (PR b) h2.symm) (PR c))
theorem EE{a b c:Nat}(h1:a<b)(h2:c=b+2):a<c:=OE h1 (Oz (OL b 2) (OP h2.symm))
theorem ED{a b c:Nat}(_:a<b)(_:c=b+4):a<c:=by lia
theorem EC{a b c:Nat}(_:a<b)(_:c<=a)(_:b<=c):False:=by lia
theorem EB{a b c:Nat}(h1:a=b+1-c)(h2:1<=b+1-c):c+a=b+1:=h1▸PB (O0 (Q0 h2))
theorem EA{a b c:Nat}(_:a=b+1)(_:c<=b):c<a:=by lia
theorem Ez{a b c:Nat}(_:a<=b)(_:c<=a):c<=b+1:=by lia
theorem Ey{a b c d:Nat}(_:a+b+(c+1)=d+1):a+b<=d:=by lia
theorem Ex{a b c d:Nat}(_:a+b+(c+1)=d+1):a+(b+1)+c=d+1:=by lia
theorem Ew{a b c d:Nat}(_:a<b)(_:b<=c)(_:c<=d):a≠d+1:=by lia
theorem Ev{a b c d e:Nat}(h1:a<b)(h2:c=d+1)(h3:e<=d)(h4:b<=e)(h5:c<=a):False:=Pv a (OE h1 (Oz h4 (Oz h3 (Oz (Oz (Qt d) (OP h2.symm)) h5))))
theorem Eu{a b c d e:Nat}(_:a=b+1)(_:c<=d)(_:a<=c)(_:e<=b):e<=d:=by lia
theorem Mn{a:Int}:(((a.toNat:Nat):Int)-0:Int).toNat=a.toNat:=by rfl
theorem Mm{a:Int}:-1000000<((a.toNat:Nat):Int):=by exact OS _
theorem Ml{a:Int}(h1:a<1000):a<4611686018427387904:=QM h1 (by decide)
theorem Mk{a:Int}(_:a<2147483647):a<4611686018427387904:=by omega
theorem Mj{a:Int}(_:a<256)(_:0<=a):0<=a/\a<256:=by exact⟨‹_›,‹_›⟩
theorem Mi{a:Int}(_:a<2^62):a<2^64:=by omega
theorem Mh{a:Int}(h1:a=1∨a=2):a=((a.toNat:Nat):Int)/\1<=a.toNat/\a.toNat<=2:=h1.elim (fun e=>e.symm▸(by decide:(1:Int)=(((1:Int).toNat:Nat):Int)/\1<=(1:Int).toNat/\(1:Int).toNat<=2)) fun e=>e.symm▸(by decide:(2:Int)=(((2:Int).toNat:Nat):Int)/\1<=(2:Int).toNat/\(2:Int).toNat<=2)
theorem Mg{a:Int}(h1:a=1∨a=2):0<a/\a<1000:=h1.elim (fun e=>e.symm▸(by decide:(0:Int)<1/\(1:Int)<1000)) fun e=>e.symm▸(by decide:(0:Int)<2/\(2:Int)<1000)
theorem Mf{a:Int}(_:a<=10):¬10<a:=by exact Rk.mpr ‹_›
theorem Me{a:Int}(_:a<=1000):a<4611686018427387904:=by omega
theorem Md{a:Int}(_:a<=1000):a<=1000000:=by lia
theorem Mc{a:Int}(h1:a<=100000):a.toNat<=2^24:=Oz (Ri.mpr h1) (by decide)
theorem Mb{a:Int}(_:a<=5)(_:1<=a):1<=a/\a<=1000:=by lia
theorem Ma{a:Int}(h1:a<=6)(h2:1<=a):1<=a/\a<=1000:=⟨h2,Pt h1 (by decide)⟩
theorem L9{a:Int}(h1:-2^62<a):-2^64<a:=QM (by decide) h1
theorem L8{a:Int}(_:0<a):-4611686018427387904<a:=by lia
theorem L7{a:Int}(h1:0<=a):a=((a.toNat:Nat):Int):=(Pj h1).symm
theorem L6{a b:Int}(h1:a<=7)(h2:b<=7)(h3:-7<=b)(h4:-7<=a):-15<=a-b/\a-b<=15:=⟨Pt (by decide:(-15:Int)<=-7-7) (Rs h4 h2),Pt (Rs h1 h3) (by decide)⟩
theorem L5{a:Int}{b:Nat}(_:a<(b:Int)):¬(b:Int)<=a:=by exact Int.not_le.mpr ‹_›
theorem L4{a:Int}{b:Nat}(h1:a<(b:Int))(h2:b<=100000):a<2^63:=Qy h1 (Pt (P8.mpr h2) (by decide))
theorem L3{a:Int}{b:Nat}(h1:a=(b:Int)):(a-0:Int).toNat=b:=by rw [h1];rfl
theorem L0{a:Int}{b c:Nat}(_:a<(b:Int))(_:c=b):a<(c:Int):=by lia
theorem LZ{a:Nat}:a*1+0=a:=by simp
theorem LY{a:Nat}:a<a+100000:=by simp
theorem LX{a:Nat}:a<a+2:=by simp
theorem LW{a:Nat}:((a+1+1:Nat):Int)=((a+1:Nat):Int)+1:=by rfl
theorem LV{a:Nat}:2*a+1-2*a=1:=by simp
theorem LU{a:Nat}:6*a+6=6*(a+1):=by rfl
theorem LT{a:Nat}:7-((a%8:Nat):Int)=((7-a%8:Nat):Int):=(Q1 (Qn (RB a (by decide)))).symm
theorem LR{a:Nat}{P:Prop}(_:a+1+1<2):P:=by exfalso;lia
theorem LQ{a:Nat}(_:a<10):a<1000:=by exact OE ‹_› (by decide)
theorem LP{a:Nat}(_:a<2):a<=100000:=by exact O0 (OE ‹_› (by decide))
theorem LO{a:Nat}(_:a<24):(a:Int)-0<24:=by exact Pn.mpr ‹_›
theorem LN{a:Nat}(_:a<4):a<1000000:=by exact OE ‹_› (by decide)
theorem LM{a:Nat}(h1:a<8):8-(a:Int)=((8-a:Nat):Int):=(Q1 (O0 h1)).symm
theorem LL{a:Nat}(_:a=0∨a=1):a<1000000:=by lia
theorem LK{a:Nat}(h1:a=8+(a-8)):(a:Int)-8=((a-8:Nat):Int):=(Q1 (Oz (OL 8 (a-8)) (OP h1.symm))).symm
theorem LJ{a:Nat}(_:a<=10):a<=1000:=by exact Oz ‹_› (by decide)
theorem LH{a:Nat}(_:a<=10):a<=19:=by exact Oz ‹_› (by decide)
theorem LG{a:Nat}(_:a<=100):a<=100000:=by exact Oz ‹_› (by decide)
theorem LF{a:Nat}(_:a<=100):a<=700000:=by exact Oz ‹_› (by decide)
theorem LE{a:Nat}(_:a<=1000):a<=16777216:=by exact Oz ‹_› (by decide)
theorem LD{a:Nat}(_:a<=100000):a<=1099511627776:=by exact Oz ‹_› (by decide)
theorem LB{a:Nat}(_:a<=100000):¬a+1>16777216:=by lia
theorem LA{a:Nat}(_:a<=15):a<=100:=by exact Oz ‹_› (by decide)
theorem Lz{a:Nat}(_:a<=2):a<=100:=by exact Oz ‹_› (by decide)
theorem Ly{a:Nat}(_:a<=20):a<=1000:=by exact Oz ‹_› (by decide)
theorem Lx{a:Nat}(_:a<=3):¬15<(a:Int):=by lia
theorem Lw{a:Nat}(_:a<=3):¬2*2-1<(a:Int):=by lia
theorem Lu{a:Nat}(_:a<=3):¬3<(a:Int):=by omega
theorem Ls{a:Nat}(_:a<=4):a<=10:=by exact Oz ‹_› (by decide)
theorem Lq{a:Nat}(_:a<=400000):a<=500000:=by exact Oz ‹_› (by decide)
theorem Lp{a:Nat}(_:a<=500000):a<=600000:=by exact Oz ‹_› (by decide)
theorem Lo{a:Nat}(_:a<=500000):a<=700000:=by exact Oz ‹_› (by decide)
theorem Ln{a:Nat}(_:a<=600000):a<=700000:=by exact Oz ‹_› (by decide)
theorem Lm{a:Nat}(_:a<=63):a<=16777216:=by exact Oz ‹_› (by decide)
theorem Ll{a:Nat}(_:((((a=73∨a=139)∨a=172)∨a=320)∨a=887)∨((a=663∨a=705)∨a=537)∨a=831)(_:¬a=139)(_:¬a=172)(_:¬a=320)(_:¬a=537)(_:¬a=663)(_:¬a=705)(_:¬a=73)(_:¬a=831)(_:¬a=887):False:=by lia
theorem Lk{a:Nat}(_:-1=(a:Int)):False:=by contradiction
theorem Lj{a:Nat}(h1:0<a):a-1<a:=Nat.sub_lt h1 Nat.one_pos
theorem Li{a:Nat}(_:1<=a):0<a:=by assumption
theorem Lh{a:Nat}(_:1<=a):1<=(a:Int):=by exact P8.mpr ‹_›
theorem Lg{a:Nat}(_:8-(a:Int)=((8-a:Nat):Int)):0<=8-(a:Int):=by lia
theorem Lf{a:Nat}(_:¬a+1<=3):1<=a:=by lia
theorem Le{a:Nat}(_:¬a+1<=3):1<=(a:Int):=by lia
theorem Ld{a:Nat}(_:¬a+1<=3):¬((a+1:Nat):Int)<=3:=by lia
theorem Lc{a:Nat}(_:¬a<4):4<=a:=by exact QE.mp ‹_›
theorem Lb{a:Nat}(_:¬a<8):8<=a:=by exact QE.mp ‹_›
theorem La{a b:Nat}:a+(b+1)-a=b+1:=by simp
theorem K9{a b:Nat}:a+1+2*b+1=a+2+2*b:=by exact PQ _ _ _
theorem K8{a b:Nat}:((a+b:Nat):Int)+1=((a+b+1:Nat):Int):=by rfl
theorem K7{a b:Nat}:¬((a*2+b:Nat):Int)-0<0:=Rk.mpr (OS (a*2+b))
theorem KZ{a b:Nat}(_:a+b<=100000):a+b<=16777216:=by exact Oz ‹_› (by decide)
theorem KY{a b:Nat}(h1:a+(b+1)<=100000):a<=100000:=Oz (OL _ _) h1
theorem KW{a b:Nat}(_:a+(b+1)<=2):a<=1:=by lia
theorem KU{a b:Nat}(_:a+(b+1)<=3):a+b<=3:=by exact O0 ‹_›
theorem Em{a b:Nat}(_:a+(b+1)<=3):a<4:=by omega
theorem KS{a b:Nat}(_:a+(b+1)<=3):a<=3:=by lia
theorem El{a b:Nat}(_:a+(b+1)<=3):0+b<=3:=by lia
theorem KQ{a b:Nat}(_:a<b+1)(_:¬a<b):a=b:=by lia
theorem KP{a b:Nat}(_:a<b)(_:b<=4):a<1000000:=by lia
theorem KO{a b:Nat}(_:a<2)(_:b=a):a<1000000:=by exact OE ‹_› (by decide)
theorem B5{a b:Nat}(h1:a=b+1):b<=a:=Oz (Qt b) (OP h1.symm)
theorem KN{a b:Nat}(_:a=b)(_:a=0)(_:1<=b):False:=by lia
theorem KM{a b:Nat}(_:a=b)(_:a<=3):b+1<=100000:=by lia
theorem KJ{a b:Nat}(_:a=b)(_:b<=4):a<=100000:=by lia
theorem KI{a b:Nat}(_:a<=b):¬(b:Int)<(a:Int):=by lia
theorem KH{a b:Nat}(_:a<=b)(_:b<=3)(_:1<=a):a=1/\b=1∨a=1/\b=2∨a=1/\b=3∨a=2/\b=2∨a=2/\b=3∨a=3/\b=3:=by lia
theorem KF{a b:Nat}(_:a<=b)(_:b<=49):a<50:=by lia
theorem KE{a b:Nat}(h1:a<=b)(h2:0<a):((a-1:Nat):Int)+((b-a:Nat):Int)=((b-1:Nat):Int):=(RT _ _).symm.trans (congrArg Nat.cast ((PK _ _).trans (Nat.sub_add_sub_cancel h1 h2)))
theorem KD{a b:Nat}(_:a<=0):a<=b:=by lia
theorem KC{a b:Nat}(h1:0<a-b+1-1):a+1-(b+1)<a+1-b:=Sl (QZ (Q0 h1)) (PR b)
theorem KB{a b:Nat}(_:0<a-b+1-1):a-(b+1)+1=a-b:=by exact Sq ‹_›
theorem KA{a b:Nat}(h1:0<a-b+1-1):b+1<=a:=Q0 h1
theorem Kz{a b:Nat}(_:0=a+1-b)(_:1<=a+1-b):False:=by lia
theorem Ky{a b:Nat}(_:1+(a:Int)=(b:Int)):1<=b:=by omega
theorem Kx{a b:Nat}(_:¬a=b):¬a+1=b+1:=by lia
theorem Kw{a b:Nat}{c:Int}(_:a<b)(_:c<=7):(a:Int)<(b:Int):=by exact Pn.mpr ‹_›
theorem Kv{a b:Nat}{c:Int}{d:Nat}(h1:a+(b+1)<=c.toNat)(h2:c.toNat<=d):a<d:=OE (Qf (RJ b)) (Oz h1 h2)
theorem Ek{a b c:Nat}(_:a+b=c)(_:c<=300000):a<=300000:=by lia
theorem Ku{a b c:Nat}(h1:a+(b+1)=c):a<((c:Int)-0:Int).toNat:=(PP (Qf (RJ b)) h1:a<c)
theorem Kt{a b c:Nat}(h1:a+(b-c+1-1)=b)(h2:0<b-c+1-1):a=c:=Nat.add_right_cancel (h1.trans (PB (O0 (Q0 (m:=c) (n:=b) h2))).symm)
theorem Ks{a b c:Nat}(_:a+1=b+2+2*c)(_:a+2<=b):False:=by lia
theorem Kr{a b c:Nat}(_:a+2<=b)(_:a=b+2+2*c):False:=by lia
theorem Kq{a b c:Nat}(h1:a+4*b<c):a<c:=Pd (OL _ _) h1
theorem Ej{a b c:Nat}(h1:a<b+(c+1-b))(h2:b<=a):a<=c:=Qn (Nat.lt_of_not_le fun h=>SH (Nat.sub_le_sub_right h b) (RY h2 h1))
theorem Ko{a b c:Nat}(_:a<b)(_:c=b):(a:Int)<(c:Int):=by lia
theorem Kn{a b c:Nat}(_:a=b+1-c)(_:1<=b+1-c):0<0+a:=by lia
theorem Ei{a b c:Nat}(_:a=b+2)(_:c<=b):c<=a:=by lia
theorem Km{a b c:Nat}(h1:a=8*(b+1)+c):a=8+(a-8):=(PB (Oz (Oz (PW 8 (8*b)) (OL _ c)) (OP h1.symm))).symm
theorem Kk{a b c:Nat}(h1:a<=4)(h2:b<=9*c):5+a+b<=9*(c+1):=Oz (PV (PC h1 5) h2) (OP (PK 9 _))
theorem Kj{a b c:Nat}(_:a<=6)(_:b<=6*c):a+b<=6*(c+1):=by lia
theorem Ki{a b c:Nat}(h1:¬(a<=b/\b<=c)):¬(a<=b/\b<a+(c+1-a)/\b<4):=fun x=>h1 ⟨x.1,Ej x.2.1 x.1⟩
theorem Eh{a b c d:Nat}(h1:a+b<=c)(h2:d=4)(h3:c<=3):((a+b:Nat):Int)<(d:Int):=Pn.mpr (PP (O8 (Oz h1 h3)) h2.symm)
theorem Kg{a b c d:Nat}(h1:a+2+2*b<c)(h2:d+2<=a):d<=a+2+2*b/\a+2+2*b<c:=⟨Oz (Oz (OL d 2) h2) (Oz (OL a 2) (OL _ _)),h1⟩
theorem Kf{a b c d:Nat}(h1:a<b)(h2:a=c):a<=c/\c<a+(d+1)/\c<b:=h2▸⟨OF a,Qf (RJ d),h1⟩
theorem Ke{a b c d:Nat}(_:a<b)(_:b<=c)(_:c<=d):a≠d:=by lia
theorem Kc{a b c d:Nat}(h1:a=b+4)(h2:c<=b):c<=a+1+2*d:=Oz h2 (Oz (Oz (OL b 4) (OP h1.symm)) (Oz (OL a 1) (OL _ _)))
theorem Kb{a b c d:Nat}(h1:a=b)(h2:b<=10)(h3:c<=2)(h4:d<=3*a):c+d<=40:=Oz (PV h3 (Oz h4 (PA 3 (Oz (OP h1) h2)))) (by decide)
theorem Ka{a b c d:Nat}(_:a=b)(_:c=d)(_:c<=a)(_:b<=10):d<=10:=by lia
theorem J9{a b c d:Nat}(h1:a<=b)(h2:c<=3*b)(h3:d<=3*a):a<=b+1/\d<=3*a:=⟨Pq h1,h3⟩
theorem J8{a b c d:Nat}(h1:8*a-b=c+d):c<=8*a-b:=h1▸OL c d
theorem J7{a b c d e:Nat}(h1:a+(b+(c+(d+e+1)))<=300000):a+(b+(c+(d+1)))+e<=300000:=by simpa only [PY,PK e] using h1
theorem J6{a b c d e:Nat}(h1:a+(b+(c+(d+e+1)))<=300000):a<=400000:=Oz (Oz (OL _ _) h1) (by decide)
theorem J5{a b c d e:Nat}(h1:a+4*(b+1)<c)(h2:d=0)(h3:e=1):a+e+d+4*b<c:=by rw [h2,h3];exact Pd (Oz (OP (PY a 1 _)) (PC (Oz (OP (PK 1 _)) (PC (by decide:1<=4) _)) a)) h1
theorem J4{a b c d e:Nat}(h1:a<b)(h2:c=d+4)(h3:b<=d):c+2+2*e≠a:=Pg (OE h1 (Oz h3 (Oz (Oz (OL d 4) (OP h2.symm)) (Oz (OL c 2) (OL _ _)))))
theorem J3{a b c d e:Nat}(_:a<=b)(_:c<=d)(_:d<=a)(_:b<=e):c<=e:=by lia
theorem J1{a b c d e:Nat}(h1:a<=b)(h2:c<=3)(h3:d<=3*b)(h4:e<=3*a):a+1<=b+1/\e+c<=3*(a+1):=⟨Qv h1,PV h4 h2⟩
theorem JZ{a b c d e f:Nat}(_:a+(b+1)<=3)(_:c<16)(_:d<=3*c)(_:e<=63*b)(_:f<=8+d):f+(5+(a+e+1))<=63*(b+1):=by lia
theorem JY{a b c d e f:Nat}(_:a+1-b<=3)(_:c=a+1-b)(_:d<=189*e+60)(_:f<=63*c):f+d<=189*(e+1)+60:=by lia
theorem JX{a b c d e f g:Nat}(_:a+(b+1)<=15)(_:c+1-d<=3)(_:e=c+1-d)(_:f<=17*e)(_:g<=51*b+8):f+g<=51*(b+1)+8:=by lia
theorem JV{a b c d e f g:Nat}(h1:a<b)(h2:b<c)(h3:d=e)(h4:f=c+1)(h5:g=f+1)(h6:g<=e):a≠d:=Pf (QA h1 (OE h2 (Oz (Oz (Qt c) (OP h4.symm)) (Oz (Oz (Qt f) (OP h5.symm)) (Oz h6 (OP h3.symm))))))
theorem JU{a b c d e f g:Nat}(h1:a<b)(h2:c=d+1)(h3:e<=d)(h4:b<=e)(h5:c<=f)(h6:f<=g):a<g:=OE h1 (Oz h4 (Oz h3 (Oz (Oz (Qt d) (OP h2.symm)) (Oz h5 h6))))
theorem JT{a b c d e f g h:Nat}(h1:a+2+2*b=c+2+2*d)(h2:c+2+2*e<=a)(h3:f<g)(h4:d<e)(h5:h<g):f=h/\b=d:=absurd (Pd (Oz (Oz (OL a 2) (OL _ _)) (OP h1)) (OE (Nat.add_lt_add_left ((Nat.mul_lt_mul_left (by decide)).mpr h4) _) h2)) (Pv a)
theorem Ef{a b c:Nat}(h1:a+20*(b+1)+10<c):a+3+20*b+10<c:=Pd (PU (Oz (OP (PY a 3 _)) (PC (Oz (OP (PK 3 _)) (PC (by decide:3<=20) _)) a)) 10) h1
theorem JQ{a b c d:Nat}(h1:a+4*b<c)(h2:d<=b):a+4*d<c:=Pd (PC (PA 4 h2) a) h1
theorem JP{a b c d:Nat}(h1:a+20*b+10<c)(h2:d<=b):a+20*d+10<c:=Pd (PU (PC (PA 20 h2) a) 10) h1
theorem JO{a:Int}(_:a<2^62)(_:-2^62<a):a.natAbs<2^63:=by omega
theorem JM{a b:Nat}(_:a=b)(_:b<=15):a<=15:=by lia
theorem JK{a b:Nat}(_:a+(b+1)<=100000):a+1+b<=100000:=by lia
theorem JJ{a:Nat}(_:a=8+(a-8)):8<=(a:Int):=by lia
theorem JI{a b c d:Nat}(h1:a<=20)(h2:b<=700000)(h3:8*c+d=b):c+(d+a)/8<=100000:=Oz (OP (SN (by decide) c (d+a)).symm) (Oz (Nat.div_le_div_right (Oz (OP (PY _ _ _).symm) (PV (Oz (OP h3) h2) h1))) (by decide))
theorem JH{a b:Nat}(_:a<8)(_:b<=20):a+b<=900:=by lia
theorem JG{a:Nat}:8-a<=20:=Oz (Nat.sub_le 8 a) (by decide)
theorem JE{a:Nat}:8-(a:Int)<=1000:=by lia
theorem JD{a b c:Nat}(h1:a<8)(h2:8*b+a=c):(c+(8-a))%8=0:=h2▸(congrArg (· % 8) ((PY _ _ _).trans (congrArg (8*b + ·) (PB (O0 h1))))).trans (Nat.mul_mod_right 8 (b+1))
theorem JB{a:Nat}:0+(a:Int)-0=(a:Int):=by simp
theorem JA{a:Int}{b:Nat}:a+((b+1:Nat):Int)=a+1+(b:Int):=(S7 a b 1).symm.trans (Int.add_right_comm a b 1)
theorem Jz{a b c d e:Nat}(_:a+b+c+d+e<=400000):a<=500000:=by lia
theorem Jy{a b:Nat}(h1:a<=3)(h2:1<=b):0+(a+1-b)<=3:=Oz (OP (Py _)) (Oz (Nat.sub_le_sub_left h2 (a+1)) h1)
theorem Jx{a b c:Nat}(_:a+b=c)(_:c<=300000):a<=400000:=by lia
theorem Ee{a b c:Nat}(_:a+b<=c):(a:Int)<=(c:Int):=by lia
theorem Ed{a b c:Nat}(_:a+b<=c):¬(c:Int)<((a+b:Nat):Int):=by lia
theorem B4{a:Nat}(_:a<=2):(a:Int)<=1000:=by lia
theorem Jv{a b c:Nat}(_:a+1-b<=3)(_:c=a+1-b):0+c<=3:=by lia
theorem Ju{a b:Nat}(h1:a+(b+1)<=600000):a+1+b<=600000:=Oz (OP (P7 a b)) h1
theorem Jr{a b:Nat}(_:a<=3)(_:1<=b):a+1<=3+b:=by lia
theorem Ec{a b c d e:Nat}(h1:a+(b+1)<=15)(h2:c<=a)(h3:d<=3)(h4:e<=3*c):e+d<=100000:=Oz (PV h4 h3) (Oz (PU (PA 3 (Oz h2 (Oz (OL _ _) h1))) 3) (by decide))
theorem Jq{a b c d e:Nat}(h1:a+(b+1)<=15)(h2:c<=a)(h3:d<=3)(h4:e<=3*c):¬937<((e+d:Nat):Int):=Rk.mpr (P8.mpr (Oz (PV h4 h3) (Oz (PU (PA 3 (Oz h2 (Oz (OL _ _) h1))) 3) (by decide))))
theorem Eb{a b c:Nat}(h1:a+(b+1)<=15)(h2:c<=a):c+1+b<=15:=Oz (OP (P7 c b)) (Oz (PU h2 _) h1)
theorem Ea{a b c:Nat}(_:a<=3)(_:b<=3*c):b+a<=3*(c+1):=by lia
theorem Jo{a b c:Nat}(h1:a+b=c)(h2:c<=300000):a<=500000:=Oz (Oz (OL a b) (Oz (OP h1) h2)) (by decide)
theorem Jn{a:Int}(h1:-7<=a):(((a+7:Int).toNat:Nat):Int)-7=a:=(congrArg (· - 7) (Pj (PJ h1 7))).trans (QU a 7)
theorem D9{a b:Nat}(h1:a<b)(h2:b=4):a<1000000:=OE h1 (Oz (OP h2) (by decide))
theorem D8{a b c:Nat}(h1:a+(b+1)<=c):a+1+b<=c:=Oz (OP (P7 a b)) h1
theorem Jm{a b:Nat}(h1:a+1<=b):a<=b-1:=Si h1
theorem Jk{a b:Nat}(_:a+1<=b):(b:Int)-1=((b-1:Nat):Int):=by lia
theorem Jj{a:Nat}(_:a<=1)(_:1<a):False:=by lia
theorem Ji{a:Nat}(_:a=1):a<=1:=by omega
theorem Jh{a:Nat}:((a-a:Nat):Int)=0:=by simp
theorem Jg{a b:Nat}(h1:a<=b):(a:Int)+((b-a:Nat):Int)=(b:Int):=(RT _ _).symm.trans (congrArg Nat.cast (PB h1))
theorem Jf{a b:Nat}(h1:a<=17*b):a<=17*(b+1):=Oz h1 (OL _ 17)
theorem Je{a b c d:Nat}(h1:a<=17*b)(h2:c<=4)(h3:d<=8):d+(5+(c+a))<=17*(b+1):=Oz (PV h3 (PC (PV h2 h1) 5)) (OP ((PY 8 5 _).symm.trans ((PY 13 4 _).symm.trans (PK 17 _))))
theorem Jd{a b c d:Nat}(h1:a<=15)(h2:b<=3*a)(h3:c<=8+b):c<=189*d+60:=Oz h3 (Oz (PC (Oz h2 (PA 3 h1)) 8) (Oz (by decide:8+3*15<=60) (PW 60 _)))
theorem Jc{a b:Nat}(_:0<a)(_:0<a->b=1):b<=100000:=by lia
theorem Jb{a b:Nat}(_:a<=100)(_:b<=9*a):b<=700000:=by lia
theorem Ja{a b:Nat}(h1:a<=15)(h2:b<=189*a+60):b<=300000:=Oz h2 (Oz (PU (PA 189 h1) 60) (by decide))
theorem I9{a:Int}{b:Nat}(_:a=(b:Int)):-1000000<a:=by lia
theorem D7{a b:Nat}(_:a=b+2):b<=a:=by lia
theorem D6{a:Int}(_:a=((a.toNat:Nat):Int)):-4611686018427387904<a:=by lia
theorem D5{a:Int}:0+a.toNat<=a.toNat:=by simp
theorem I8{a:Nat}:0+a<=a:=by simp
theorem B3{a b:Int}(_:a<b)(_:0<=a):b≠0:=by lia
theorem I7{a:Int}(_:¬a<3):0<=a-3:=by lia
theorem I6{a:Int}(h1:a<6):a-3<2^62:=QM (Int.sub_lt_sub_right h1 3) (by decide)
theorem I5{a:Int}(_:a<2)(_:0<=a):1+a=1∨1+a=2:=by omega
theorem I4{a b:Int}(h1:a<b)(h2:b<=5)(h3:0<=a):1<=1+a/\1+a<=5:=⟨Int.le_add_of_nonneg_right h3,Pt (QN (Int.add_comm 1 a)) (Pt (Int.add_one_le_of_lt h1) h2)⟩
theorem I3{a b:Int}(_:a<b)(_:b<=6)(_:0<=a):1<=1+a/\1+a<=6:=by lia
theorem DZ{a b c d:Nat}(_:a<=b)(_:c<=a)(_:b<=d):c<=d:=by lia
theorem DY{a b c:Nat}(_:a=b+4)(_:c<=b):c<=a:=by lia
theorem DX{a:Int}(_:a<2)(_:0<=a)(_:¬a=1):a=0:=by lia
theorem DV{a b c:Nat}(_:a=b+1)(_:c<=b):c<=a:=by lia
theorem Gz{a b c d:Nat}(_:a<b)(_:c=d+4)(_:b<=d):c≠a:=by lia
theorem Gy{a b c d:Nat}(h1:a+2+2*b<=c)(h2:a=c+2+2*d):False:=Pv a (OE (OE (Qf (by decide:0<2)) (OL _ _)) (Oz h1 (Oz (Oz (OL c 2) (OL _ _)) (OP h2.symm))))
theorem Gw{a b c:Nat}(_:a<b)(_:c<=a):c<=b:=by omega
theorem Gv{a b c d:Nat}(h1:a<b)(h2:c<d+1∨c=d+1/\a<0):c<d∨c=d/\a<b:=h2.elim (fun h=>(Nat.lt_or_eq_of_le (Qn h)).imp id (fun e=>⟨e,h1⟩)) (fun h=>absurd h.2 (Qk _))
theorem Gu{a b c:Nat}(h1:a+b+(c+1)<=24):a+b<24:=OE (Qf (RJ c)) h1
theorem Gs{a b c:Nat}{d:Int}(h1:a+b+c<=100)(h2:b=d.toNat):a+d.toNat<=100:=h2▸Oz (OL _ _) h1
theorem Gr{a:Int}(_:0<=a):-1000000<a:=by omega
theorem Gq{a b c:Nat}{d:Int}(h1:a+b+c<=100)(h2:b=d.toNat):d<1000000:=RA (Ri.mp (Oz (OP h2.symm) (Oz (Oz (PW b a) (OL _ c)) h1))) (by decide)
theorem Gp{a:Int}:(a-0:Int).toNat=a.toNat:=by simp
theorem Go{a b c d e f:Nat}(h1:a<b)(h2:c=d)(h3:e=b+1)(h4:f=e+1)(h5:f<=d):a<c+1:=OE h1 (Oz (Oz (Qt b) (OP h3.symm)) (Oz (Oz (Qt e) (OP h4.symm)) (Oz h5 (Oz (OP h2.symm) (Qt c)))))
theorem Gn{a b:Nat}(_:¬a=b):¬(a:Int)=(b:Int):=by lia
theorem Gm{a b c d:Nat}(h1:a+1<=b)(h2:b<c)(h3:b<a+1+d):a<=b/\b<a+(d+1)/\b<c:=⟨Nat.le_of_succ_le h1,PP h3 (P7 a d),h2⟩
theorem Gl{a b c:Nat}(h1:a<=b)(h2:c<=a)(h3:b<=3):c<=a/\a<c+(b+1-c)/\a<4:=⟨h2,PP (O8 h1) (PB (Oz h2 (Pq h1))).symm,O8 (Oz h1 h3)⟩
theorem Gj{a:Nat}(_:(a:Int)≠0):¬a=0:=by lia
theorem Gi{a b:Nat}(h1:a<=b)(h2:b<=3):a<4:=O8 (Oz h1 h2)
theorem Gh{a b:Nat}(_:a+1<=b)(_:b<=a):False:=by lia
theorem Gg{a b:Nat}(_:a<4)(_:¬a<=b):b+1<=3:=by lia
theorem Gf{a:Nat}(_:a<4):a<=3:=by exact Qn ‹_›
theorem Ge{a b:Nat}(_:a<=3)(_:b<=3):b+(a+0)<=6:=by lia
theorem Gc{a:Nat}(_:a<=3):a+0<=6:=by exact Oz ‹_› (by decide)
theorem Gb{a b:Nat}{P:Prop}(_:a+1+b=0):P:=by exfalso;lia
theorem Ga{a b:Nat}(_:a=b+1):b≠a:=by lia
theorem F9{a b c d e:Nat}(_:a<=b)(_:c<=d)(_:d<=e)(_:e<=a):c<=b:=by lia
theorem Bv{a b c d e f:Nat}(h1:a<b)(h2:c<=d)(h3:b<=e)(h4:e<=f)(h5:f<=c):d≠a:=Pg (OE h1 (Oz h3 (Oz h4 (Oz h5 h2))))
theorem F6{a b:Nat}(_:a<=2)(_:b<=2):a+2*b<=10:=by lia
theorem Bu{a b c d:Nat}(_:a<b)(_:c<=d)(_:b<=c):d≠a:=by lia
theorem F5{a b:Nat}(_:a=b)(_:1<=b):0<a:=by lia
theorem F4{a b c d e:Nat}(h1:a+20*(b+1)+10<c)(h2:d=0)(h3:e=3):a+e+d+20*b+10<c:=h2▸h3▸Ef h1
theorem F3{a:Nat}{P:Prop}(_:a=0)(_:0<a):P:=by exfalso;lia
theorem F1{a b c:Nat}(h1:a<50)(h2:b<=4)(h3:c<=4*a):c+b<=100000:=Oz (PV h3 h2) (Oz (PU (PA 4 (O0 h1)) 4) (by decide))
theorem F0{a:Int}(h1:-7<=a):a=(((a+7:Int).toNat:Nat):Int)-7:=((congrArg (· - 7) (Pj (PJ h1 7))).trans (QU a 7)).symm
theorem FZ{a:Nat}:¬a+1=0:=by lia
theorem FY{a b:Nat}(h1:a=b)(h2:a<=2):b<=100000:=Oz (Oz (OP h1.symm) h2) (by decide)
theorem FV{a b c d e:Nat}(_:a<b)(_:c=b+1)(_:c<=d)(_:d<=e)(_:e<=a):False:=by lia
theorem FU{a b c d e:Nat}(_:a<b)(_:c<=a)(_:d<=e)(_:e<=c)(_:b<=d):False:=by lia
theorem FT{a b c d:Nat}(_:a<b)(_:c<=a)(_:d<=c)(_:b<=d):False:=by lia
theorem FS{a b:Nat}(_:a<b)(_:b<=a):False:=by lia
theorem FQ{a b c d e f g:Nat}(h1:a<b)(h2:c<=d)(h3:b<=e)(h4:e<=f)(h5:f<=g)(h6:g<=c):d≠a:=Pg (OE h1 (Oz h3 (Oz h4 (Oz h5 (Oz h6 h2)))))
theorem BA{α:Type}{x:Option α}{a b:α}(h:x=some a)(k:x=some b):a=b:=Option.some.inj (h.symm.trans k)
theorem ui{α:Type}{xs:List α}{n:Nat}(h:xs.length=n+1){P:Prop}(k:∀a ys,xs=a::ys->ys.length=n->P):P:=by
 cases xs with
 | nil=>exact Nat.noConfusion h
 | cons a ys=>exact k a ys rfl (Nat.succ.inj h)
theorem Os{P:Int->Prop}{n m:Nat}(h:∀k:Fin n,P ((k.val:Nat) - (m:Int))){v:Int}(a:0<=v+m)(b:v+m<n):P v:=by
 have e:(((v+m).toNat)) - m=v:=by rw [Pj a,QU]
 exact e▸h ⟨(v+m).toNat,(Int.toNat_lt a).mpr b⟩
theorem HD{P:Int->Prop}(h:∀k:Fin 15,P ((k.val:Nat) - 7)){v:Int}(a:-7<=v/\v<=7):P v:=Os h (PJ a.1 7) (RA (PJ a.2 7) (by decide))
theorem u7:∀x≤7,-7<=((x:Nat):Int)/\((x:Nat):Int)<=7/\-7<=-((x:Nat):Int)/\-((x:Nat):Int)<=7:=by decide
theorem MS{P:Fin 3->Prop}(a:P 0)(b:P 1)(c:P 2)(t:Fin 3):P t:=
 ((by decide:∀t:Fin 3,t=0∨t=1∨t=2) t).elim (fun e=>e▸a) fun h=>h.elim (fun e=>e▸b) fun e=>e▸c
theorem aJ{α:Type}{x:α}{G:Prop}(h:RH=SW x):G:=nomatch h
theorem tY{α:Type}{x:α}{G:Prop}(h:SW x=RH):G:=nomatch h
theorem ae{G:Prop}(h:false=true):G:=Bool.noConfusion h
inductive V where
 | none | bool (b:Bool) | int (i:Int) | str (s:Str) | bytes (b:Array UInt8) | type (n:String) | bi (id:String) | top (a:Nat) | obj (i:Nat)
inductive O where
 | list (xs:List V) | tuple (xs:List V) | inst (C:Nat) (fs:List (Nat×V)) | barr (bs:Array UInt8) | rng (a b c:Int)
 | dict (es:List (Int×V)) | set (ks:List Int) | tdict (es:List (Nat×(Int×Int)×V))
def O.kd(o:O):Nat:=match o with
 | .list _=>0 | .tuple _=>1 | .barr _=>2 | .rng _ _ _=>3 | .dict _=>4 | .set _=>5 | .tdict _=>6 | .inst C _=>C+7
theorem fS{o:O}(h:SE 7 o.kd=false:=by rfl):∀C fs,o≠.inst C fs:=fun C fs e=>ae (h.symm.trans (Nat.ble_eq_true_of_le (show 7<=o.kd by exact er e (PW 7 C))))
theorem ju{α:Type}{a:α}{P:Prop}(h:a∈([]:List α)):P:=(Qe h).elim
abbrev Fp:=List (Nat×Nat)
inductive F2{α β:Type}(R:α->β->Prop):List α->List β->Prop
 | nil:F2 R [] []
 | cons {a b l k}:R a b->F2 R l k->F2 R (a::l) (b::k)
theorem F2.nil_inv{α β:Type}{R:α->β->Prop}{k:List β}(r:F2 R [] k):k=[]:=by cases r;rfl
theorem F2.inv{α β:Type}{R:α->β->Prop}{a:α}{l:List α}{k:List β}(r:F2 R (a::l) k):∃b k',k=b::k'/\R a b/\F2 R l k':=by refine yM fun _ kK=>?_;cases r with | cons x y=>exact kK _ _ rfl x y
def VR(φ:Fp)(x:V)(v:Value):Prop:=match x with
 | .none=>v=.none
 | .bool b=>v=.bool b
 | .int i=>∃t,v=.int i t
 | .str s=>∃t,v=.str s t
 | .bytes b=>∃t,v=.bytes b t
 | .type n=>v=.type n
 | .bi i=>v=.builtin i
 | .top a=>v=.ref a
 | .obj i=>∃p,φ[i]? = some p/\v=.ref p.1
end
section
mutual #where
variable {φ φ':Fp} {x:V} {v:Value} {xs ys:List V} {vs us:List Value}
theorem VR.none:VR φ .none .none:=rfl
theorem VR.bool(b):VR φ (.bool b) (.bool b):=rfl
theorem VR.int(i t):VR φ (.int i) (.int i t):=⟨t,rfl⟩
theorem VR.str(s t):VR φ (.str s) (.str s t):=⟨t,rfl⟩
theorem VR.bytes(b t):VR φ (.bytes b) (.bytes b t):=⟨t,rfl⟩
theorem VR.type(n):VR φ (.type n) (.type n):=rfl
theorem VR.bi(i):VR φ (.bi i) (.builtin i):=rfl
theorem VR.top(a):VR φ (.top a) (.ref a):=rfl
theorem VR.obj{i p}(h:φ[i]? = some p):VR φ (.obj i) (.ref p.1):=bN p h rfl
theorem jK(h:φ <+: φ'){i:Nat}{p:Nat×Nat}(e:φ[i]? = some p):φ'[i]? = some p:=by
 refine b7 h fun t q_a=>el q_a ?_;exact er (O4 (OH.mp e).1) e
theorem VR.mono(h:φ <+: φ')(r:VR φ x v):VR φ' x v:=by
 cases x with
 | obj i=>exact r.imp fun p e=>⟨jK h e.1,e.2⟩
 | _=>exact r
abbrev d8(φ:Fp):List V->List Value->Prop:=F2 (VR φ)
theorem dY{α β:Type}{R S:α->β->Prop}(h:∀a b,R a b->S a b){l:List α}{k:List β}(r:F2 R l k):F2 S l k:=by
 induction r with
 | nil=>exact .nil
 | cons a _ ih=>exact .cons (h _ _ a) ih
theorem d8.mono(h:φ <+: φ')(r:d8 φ xs vs):d8 φ' xs vs:=dY (fun _ _=>VR.mono h) r
theorem F2.length{α β:Type}{R:α->β->Prop}{l:List α}{k:List β}(r:F2 R l k):k.length=l.length:=by
 induction r with
 | nil=>rfl
 | cons _ _ ih=>exact congrArg Nat.succ ih
theorem d8.length(r:d8 φ xs vs):vs.length=xs.length:=F2.length r
theorem d8.get(r:d8 φ xs vs):∀ {i:Nat} {x:V},xs[i]? = some x->∃v,vs[i]? = some v/\VR φ x v:=by
 induction r with
 | nil=>exact fun e=>aJ e
 | cons a _ ih=>
  intro i x e;cases i with
  | zero=>exact bN _ rfl (Option.some.inj e▸a)
  | succ i=>exact ih e
theorem d8.append(r:d8 φ xs vs)(q:d8 φ ys us):d8 φ (xs++ys) (vs++us):=by
 induction r with
 | nil=>exact q
 | cons a _ ih=>exact .cons a ih
theorem d8.set(r:d8 φ xs vs)(q:VR φ x v):∀i,d8 φ (xs.set i x) (vs.set i v):=by
 induction r with
 | nil=>exact fun _=>.nil
 | cons a b ih=>intro i;cases i with
  | zero=>exact .cons q b
  | succ i=>exact .cons a (ih i)
theorem d8.drop(r:d8 φ xs vs):∀i,d8 φ (xs.drop i) (vs.drop i):=by
 induction r with
 | nil=>intro i;refine er R2 ?_;exact er R2 .nil
 | cons a b ih=>intro i;cases i with
  | zero=>exact .cons a b
  | succ i=>exact ih i
theorem d8.take(r:d8 φ xs vs):∀i,d8 φ (xs.take i) (vs.take i):=by
 induction r with
 | nil=>intro i;refine er SX ?_;exact er SX .nil
 | cons a b ih=>intro i;cases i with
  | zero=>exact .nil
  | succ i=>exact .cons a (ih i)
theorem d8.rev(r:d8 φ xs vs):d8 φ xs.reverse vs.reverse:=by
 induction r with
 | nil=>exact .nil
 | cons a _ ih=>refine er Qm ?_;exact er Qm (d8.append ih (.cons a .nil))
theorem d8.replicate(r:VR φ x v):∀n,d8 φ (OM n x) (OM n v):=by
 intro m_;induction m_ with
 | zero=>
  exact .nil
 | succ n ih_=>
  exact .cons r (ih_)
end
end
mutual #where
def o0:List Str:=[F7 "ident",F7 "across",F7 "down",F7 "quant",F7 "kind",F7 "precision",F7 "height",F7 "width",F7 "components",F7 "n",F7 "many",F7 "planes",F7 "counts",F7 "symbols",F7 "rows",F7 "codes",F7 "full",F7 "rest",F7 "size",F7 "source",F7 "at",F7 "scan",F7 "sink",F7 "key",F7 "run",F7 "table",F7 "reader",F7 "before",F7 "tables",F7 "kept",F7 "places",F7 "dc_slots",F7 "ac_slots",F7 "start",F7 "end",F7 "high",F7 "low",F7 "known",F7 "writer",F7 "get",F7 "put",F7 "most_across",F7 "most_down",F7 "mcus_across",F7 "mcus_down",F7 "plane_size",F7 "blocks",F7 "padded",F7 "code",F7 "read",F7 "pad",F7 "octets",F7 "left",F7 "bit",F7 "bits",F7 "put_run",F7 "put_value",F7 "finish",F7 "put_bits",F7 "last_new",F7 "correct",F7 "pass_by",F7 "new_value",F7 "is_alone",F7 "follow",F7 "is_complete",F7 "symbol",F7 "append",F7 "bit_length",F7 "add"]
def nm(i:Nat):Str:=o0[i]?.getD Rx
theorem tF:o0.Nodup:=by decide +kernel
theorem xU{i j:Nat}(hi:i<70)(hj:j<70)(e:nm i=nm j):i=j:=by
 unfold nm at e;rw [OD (by assumption),OD (by assumption)] at e;simp only [Option.getD_some] at e;exact(Q7 tF).mp e
def FR(φ:Fp)(p:Nat×V)(e:DictEntry):Prop:=p.1<70/\(∃t,e.key=.str (nm p.1) t)/\VR φ p.2 e.val
theorem FR.mono{φ φ':Fp}(h:φ <+: φ'){p:Nat×V}{e:DictEntry}(r:FR φ p e):FR φ' p e:=bT r.1 r.2.1 (r.2.2.mono h)
def KV(φ:Fp)(p:Int×V)(q:Int×Value):Prop:=p.1=q.1/\VR φ p.2 q.2
def TD(φ:Fp)(p:Nat×(Int×Int)×V)(q:List Int×Addr×Value):Prop:=q.1=[p.2.1.1,p.2.1.2]/\(∃c,φ[p.1]? = some (q.2.1,c))/\VR φ p.2.2 q.2.2
def Nf(prog:Program)(w:World)(o:Obj)(S:Int->Bool)(n:Nat):Prop:=
 ∃es ep t,o.ExactSet/\o.data=.set es ep t/\ElemsOf (intKind prog w) es.toList/\(∀k,S k=true↔∃e,e∈es.toList/\(intKind prog w).is k e.snd=true)/\es.size<scanBound/\t.fits es.size=true/\es.size=n
abbrev iK(c:String)(vs:List Value)(n:Nat):Obj:=⟨.type c,none,.seq vs.toArray n,#[]⟩
def OX(φ:Fp)(o:O)(x:Obj):Prop:=match o with
 | .inst _ _=>False
 | .list xs=>∃vs n,x=iK "list" vs n/\d8 φ xs vs
 | .tuple xs=>∃vs n,x=iK "tuple" vs n/\d8 φ xs vs
 | .barr bs=>x=⟨.type "bytearray",none,.bytearray bs 0,#[]⟩
 | .rng i j k=>∃t u v,x=⟨.type "range",none,.fields #[.int i t,.int j u,.int k v],#[]⟩
 | .dict es=>∃kvs,(∀prog w,x.IsDictOf (intKind prog w) kvs)/\F2 (KV φ) es kvs
 | .set ks=>∃n,(∀prog w,Nf prog w x (fun k=>ks.contains k) n)/\n<=ks.length
 | .tdict es=>∃xs ds n,x.ExactDict/\x.data=.dict ds n/\(∀prog w,ds.toList=xs.map (entryOfKey (tupleKind (intKind prog w))))/\(xs.map (·.1)).Nodup/\F2 (TD φ) es xs
def OI(h:Heap)(φ:Fp)(C:Nat)(fs:List (Nat×V))(p:Nat×Nat):Prop:=∃es n,h.get? p.2=some (dictOf es n)/\F2 (FR φ) fs es
def OR(h:Heap)(φ:Fp)(o:O)(p:Nat×Nat):Prop:=
 (p.2<=p.1/\(∃x,h.get? p.1=some x)/\∃x,h.get? p.2=some x)/\match o with
 | .inst C fs=>p.2<p.1/\h.get? p.1=some (instObj C p.2)/\OI h φ C fs p
 | o=>p.2=p.1/\∃x,h.get? p.1=some x/\OX φ o x
end
section
mutual #where
variable {h h':Heap} {φ φ':Fp} {o:O} {p:Nat×Nat}
theorem OR.ex(r:OR h φ o p):p.2<=p.1/\(∃x,h.get? p.1=some x)/\∃x,h.get? p.2=some x:=r.1
theorem OR.le(r:OR h φ o p):p.2<=p.1:=r.ex.1
theorem OX.mono(hp:φ <+: φ'){x:Obj}(r:OX φ o x):OX φ' o x:=by
 cases o with
 | list=>exact r.imp fun _=>Exists.imp fun _=>PS (d8.mono hp)
 | tuple=>exact r.imp fun _=>Exists.imp fun _=>PS (d8.mono hp)
 | dict=>exact r.imp fun _=>PS (dY fun _ _ q=>⟨q.1,q.2.mono hp⟩)
 | tdict=>exact r.imp fun _=>Exists.imp fun _=>Exists.imp fun _=>PS (PS (PS (PS (dY fun _ _ q=>⟨q.1,q.2.1.imp fun _ z=>jK hp z,q.2.2.mono hp⟩))))
 | _=>exact r
theorem OR.keeps(hp:φ <+: φ')(r:OR h φ o p)(k1:∀x,h.get? p.1=some x->h'.get? p.1=some x)(k2:∀x,h.get? p.2=some x->h'.get? p.2=some x):OR h' φ' o p:=by
 refine⟨(bT r.1.1 (r.1.2.1.imp k1) (r.1.2.2.imp k2)),?_⟩;cases o with
 | inst=>exact r.2.imp_right (And.imp (k1 _) (Exists.imp fun _=>Exists.imp fun _=>And.imp (k2 _) (dY fun _ _=>FR.mono hp)))
 | _=>exact r.2.imp_right (Exists.imp fun x=>And.imp (k1 x) (OX.mono hp))
theorem OR.one{a:Nat}{x:Obj}(hi:∀C fs,o≠.inst C fs)(e:h.get? a=some x)(r:OX φ o x):OR h φ o (a,a):=by
 refine⟨⟨OF _,⟨_,e⟩,_,e⟩,?_⟩;cases o with
 | inst C fs=>exact(hi C fs rfl).elim
 | _=>exact⟨rfl,_,e,r⟩
theorem OR.get(hi:∀C fs,o≠.inst C fs)(r:OR h φ o p):p.2=p.1/\∃x,h.get? p.1=some x/\OX φ o x:=by
 refine jF fun _ kK=>?_;cases o with
 | inst C fs=>exact(hi C fs rfl).elim
 | _=>exact ba r.2 kK
theorem OR.inst{C:Nat}{fs:List (Nat×V)}{es:List DictEntry}{n a d:Nat}(e1:h.get? a=some (instObj C d))(e2:h.get? d=some (dictOf es n))(r:F2 (FR φ) fs es)(l:d<a):OR h φ (.inst C fs) (a,d):=
 ⟨⟨O0 l,⟨_,e1⟩,_,e2⟩,l,e1,_,_,e2,r⟩
theorem OR.list{a n:Nat}{xs:List V}{vs:List Value}(e:h.get? a=some (iK "list" vs n))(r:d8 φ xs vs):OR h φ (.list xs) (a,a):=.one fS e (sf _ _ rfl r)
theorem OR.tuple{a n:Nat}{xs:List V}{vs:List Value}(e:h.get? a=some (iK "tuple" vs n))(r:d8 φ xs vs):OR h φ (.tuple xs) (a,a):=.one fS e (sf _ _ rfl r)
end
end
mutual #where
def fV(φ:Fp)(b:Nat):Prop:=∃p∈φ,b=p.1∨b=p.2
def cX(h:Heap)(x:Nat):Prop:=∀(b:Nat) (o:Obj),h.get? b=some o->b<x
theorem bw{h:Heap}:cX h h.objs.size:=fun _ _ e=>Qu e
theorem cX.le{h:Heap}{x y:Nat}(a:cX h x)(l:x<=y):cX h y:=fun b o e=>OE (a b o e) l
structure mh(B:Heap)(φ:Fp)(H:List O)(h:Heap):Prop where
 len:φ.length=H.length
 at_:∀(i:Nat) (o:O) (p:Nat×Nat),H[i]? = some o->φ[i]? = some p->OR h φ o p
 low:∀p∈φ,cX B p.2
 sep:φ.Pairwise fun p q=>p.1<q.2
end
section
mutual #where
variable {B:Heap} {φ φ':Fp} {H:List O} {h h':Heap}
theorem mh.getp(R:mh B φ H h){i:Nat}{p:Nat×Nat}(e:φ[i]? = some p):∃o,H[i]? = some o/\OR h φ o p:=by
 refine ma fun _ kK=>?_;haveI l:=(OH.mp e).1;haveI q:H[i]? = some (H[i]'(by exact el R.len l)):=OD _;exact kK _ q (R.at_ i _ p q e)
theorem mh.mem(R:mh B φ H h){p:Nat×Nat}(hp:p∈φ):∃o,OR h φ o p:=by
 refine yO fun _ kK=>b7 (Rp hp) fun i e=>aZ (R.getp e) fun o _ r=>kK o r
theorem mh.own_ex(R:mh B φ H h){b:Nat}(hb:fV φ b):∃x,h.get? b=some x:=by
 refine yO fun _ kK=>aZ hb fun p hp e=>b7 (R.mem hp) fun o r=>?_;rcases e with rfl | rfl
 ·exact b7 r.ex.2.1 kK
 ·exact b7 r.ex.2.2 kK
theorem mh.own_low(R:mh B φ H h){b:Nat}(hb:fV φ b):cX B b:=by
 refine aZ hb fun p hp e=>b7 (R.mem hp) fun o r=>?_;haveI:=R.low p hp;rcases e with rfl | rfl
 ·exact this.le r.le
 ·exact this
theorem rS{a b c d:Nat}(l1:a<=b)(l2:c<=d)(q:b<c):b≠d/\b≠c/\a≠d/\a≠c:=
 haveI h:=Pd l1 q
 oK (Pf (OE q l2)) (Pf q) (Pf (OE h l2)) (Pf h)
theorem xH{α:Type}{P:α->α->Prop}{l:List α}(h:l.Pairwise P){i j:Nat}{p q:α}(e1:l[i]? = some p)(e2:l[j]? = some q)(n:i<j):P p q:=
 (OH.mp e1).elim fun hi q1=>(OH.mp e2).elim fun hj q2=>q1▸q2▸Qs.mp h i j hi hj n
theorem mh.apart(R:mh B φ H h){i j:Nat}{p q:Nat×Nat}(e1:φ[i]? = some p)(e2:φ[j]? = some q)(n:i≠j):p.1≠q.1/\p.1≠q.2/\p.2≠q.1/\p.2≠q.2:=by
 refine aZ (R.getp e1) fun _ _ r1=>aZ (R.getp e2) fun _ _ r2=>(QS n).elim (fun q=>rS r1.le r2.le (xH R.sep e1 e2 q)) fun q=>sn (rS r2.le r1.le (xH R.sep e2 e1 q)) fun a b c d=>oK a.symm c.symm b.symm d.symm
theorem mh.ext(R:mh B φ H h)(k:∀b o,h.get? b=some o->fV φ b->h'.get? b=some o):mh B φ H h' where
 len:=R.len
 at_:=fun i o p e1 e2=>by
  haveI hp:=OC e2;exact(R.at_ i o p e1 e2).keeps (Pw _) (fun x q=>k _ _ q (bN p hp (.inl rfl))) fun x q=>k _ _ q (bN p hp (.inr rfl))
 low:=R.low
 sep:=R.sep
theorem mh.push(R:mh B φ H h)(ob:Obj):mh B φ H (h.push ob):=R.ext (fun _ _ e _=>OV _ e)
theorem mh.add(R:mh B φ H h){o:O}{p:Nat×Nat}(r:OR h (φ++[p]) o p)(hn:∀q∈φ,q.1<p.2)(hb:cX B p.2):mh B (φ++[p]) (H++[o]) h where
 len:=by simp [R.len]
 at_:=fun i o' p' e1 e2=>by
  by_cases hi:i<φ.length
  ·rw [O4 (by exact el R.len hi)] at e1;rw [O4 hi] at e2;exact(R.at_ i o' p' e1 e2).keeps (PH _ _) (fun _ e=>e) fun _ e=>e
  ·rw [OU (by exact el R.len (DI hi))] at e1;rw [OU (DI hi)] at e2;haveI e1:=OC e1;haveI e2:=OC e2;simp only [OZ] at e1 e2;refine er e1 ?_;exact er e2 r
 low:=fun q hq=>by
  rcases O9.mp hq with hq | hq
  ·exact R.low q hq
  ·exact er (OZ.mp hq) hb
 sep:=by
  refine Rm.mpr ?_;refine bT R.sep (Qd _ _) (fun q hq q' hq'=>?_);exact er (OZ.mp hq') (hn q hq)
theorem mh.all_lt(R:mh B φ H h){n:Nat}(hn:cX h n):∀q∈φ,q.1<n/\q.2<n:=fun q hq=>by
 refine b7 (R.mem hq) fun o r=>dN r.ex fun _ q_a q_b=>b7 q_a fun x e=>b7 q_b fun y e'=>⟨hn _ _ e,hn _ _ e'⟩
theorem mh.upd(R:mh B φ H h){i:Nat}{p:Nat×Nat}{o':O}(e:φ[i]? = some p)(r:OR h' φ o' p)(k:∀b x,h.get? b=some x->b≠p.1->b≠p.2->h'.get? b=some x):mh B φ (H.set i o') h' where
 len:=by simp [R.len]
 at_:=fun j o q e1 e2=>by
  by_cases hj:i=j
  ·subst hj;replace e2:=e▸e2;refine el (Option.some.inj e2) ?_;replace e1:=(Pl (by exact el R.len ((OH.mp e).1)))▸e1;exact el (Option.some.inj e1) r
  ·replace e1:=(O7 hj)▸e1;refine sn (R.apart e e2 hj) fun a1 a2 a3 a4=>(R.at_ j o q e1 e2).keeps (Pw _) (fun x y=>k _ _ y (Ne.symm a1) (Ne.symm a3)) fun x y=>k _ _ y (Ne.symm a2) (Ne.symm a4)
 low:=R.low
 sep:=R.sep
end
end
mutual #where
structure bZ(W:Nat->Prop)(φ φ':Fp)(s s':Shared):Prop where
 pre:φ <+: φ'
 new:∀p∈φ',p∈φ∨(cX s.heap p.2/\(∀q∈φ,q.1<p.2/\q.2<p.2)/\p.2<=p.1)
 keep:∀b o,s.heap.get? b=some o->¬fV φ b->¬W b->s'.heap.get? b=some o
 wex:∀b o,W b->s.heap.get? b=some o->∃o',s'.heap.get? b=some o'
 os:s'.os=s.os
 gens:∃k,s'.gens=s.gens++PG k .finished
def fL:Nat->Prop:=fun _=>False
end
section
mutual #where
variable {W:Nat->Prop} {φ φ' φ'':Fp} {s s' s'':Shared}
theorem bZ.refl:bZ W φ φ s s:=⟨Pw _,fun _ h=>.inl h,fun _ _ e _ _=>e,fun _ o _ e=>⟨o,e⟩,rfl,0,rfl⟩
theorem bZ.own(X:bZ W φ φ' s s'){b:Nat}{o:Obj}(hb:s.heap.get? b=some o)(n:¬fV φ b):¬fV φ' b:=fun y_1=>aZ y_1 fun p hp e=>by
 rcases X.new p hp with q | ⟨q1,q2,q3⟩
 ·exact n (bN p q e)
 ·haveI:=q1 _ _ hb;rcases e with rfl | rfl<;>lia
theorem bZ.trans(X:bZ W φ φ' s s')(Y:bZ W φ' φ'' s' s''):bZ W φ φ'' s s'' where
 pre:=X.pre.trans Y.pre
 new:=fun p hp=>by
  rcases Y.new p hp with q | ⟨q1,q2,q3⟩
  ·exact X.new p q
  ·refine .inr (bT (fun b o e=>?_) (fun q hq=>q2 q (X.pre.subset hq)) q3);by_cases w:W b
   ·refine b7 (X.wex b o w e) fun o' e'=>q1 _ _ e'
   ·by_cases n:fV φ b
    ·refine aZ n fun q hq e1=>?_;haveI:=q2 q (X.pre.subset hq);rcases e1 with rfl | rfl
     ·exact this.1
     ·exact this.2
    ·exact q1 _ _ (X.keep b o e n w)
 keep:=fun b o e n w=>Y.keep b o (X.keep b o e n w) (X.own e n) w
 wex:=fun b o w e=>by
  refine b7 (X.wex b o w e) fun o' e'=>Y.wex b o' w e'
 os:=Y.os.trans X.os
 gens:=by
  refine b7 Y.gens fun k' e'=>b7 X.gens fun k e=>⟨k+k',by refine er e' (er e ?_);refine er Qg (er Po ?_);rfl⟩
theorem bZ.weaken{W':Nat->Prop}(X:bZ W φ φ' s s')(h:∀b,W b->W' b)(h':∀b o,W' b->s.heap.get? b=some o->∃o',s'.heap.get? b=some o'):bZ W' φ φ' s s':=
 { X with keep:=fun b o e n w=>X.keep b o e n fun q=>w (h b q),wex:=h' }
theorem bZ.toks{tk:Nat}(X:bZ W φ φ' s s'):bZ W φ φ' s { s' with toks:=tk }:=⟨X.pre,X.new,X.keep,X.wex,X.os,X.gens⟩
theorem bZ.grow{h':Heap}{tk:Nat}(k:∀b o,s.heap.get? b=some o->¬fV φ b->h'.get? b=some o):bZ fL φ φ s { s with heap:=h',toks:=tk }:=
 ⟨Pw _,fun _ h=>.inl h,fun b o e n _=>k b o e n,fun _ _ w _=>w.elim,rfl,0,rfl⟩
end
end
section
mutual #where
def i6:List String:=["bytearray.__contains__","bytearray.__mod__","bytearray.__rmod__","_struct.pack_into.held","bytearray.find.held"]++Builtin.Bytes.decodersThatHold
def dZ:Code->Bool
 | .builtin id _=>!i6.contains id
 | _=>true
structure p9(X:Ctx->Prop):Prop where
 enter:∀(Γ:Ctx) (c:Code) (h:Option Value) (p:Pos),X Γ->dZ c=true->X (Γ.enter c h p)
 goto:∀(Γ:Ctx) (c:Code),X Γ->dZ c=true->X (Γ.goto c)
def iq(Γ:Ctx):Prop:=dZ Γ.code=true/\∀c∈Γ.below,dZ c.1=true
theorem eR:p9 iq where
 enter:=fun Γ c h p x hc=>⟨hc,fun q hq=>by
  rcases OY.mp hq with rfl | hq
  ·exact x.1
  ·exact x.2 q hq⟩
 goto:=fun Γ c x hc=>⟨hc,x.2⟩
variable {X:Ctx->Prop}
def bC{α:Type}(X:Ctx->Prop)(M:Model)(A:Around)(t:Sem α)(Q:α->Shared->Prop)(s:Shared):Prop:=
 ∀(Γ:Ctx) (p:Pos),Γ.In A->X Γ->Sem.wp M Γ t (fun a _ s'=>Q a s') (fun _ _ _=>False) p s
def Cx(R:Flow->Shared->Prop)(r:Result)(s':Shared):Prop:=match r with
 | .ok f=>R f s'
 | .error _=>False
def cB(X:Ctx->Prop)(M:Model)(A:Around)(c:Code)(R:Flow->Shared->Prop)(s:Shared):Prop:=
 ∀(Γ:Ctx) (p:Pos),Γ.code=c->Γ.Below A->X Γ->wpCode M Γ (Cx R) p s
end
section
mutual #where
variable {α β:Type} {M:Model} {A:Around} {s:Shared}
theorem aK{t:Sem α}{Q:α->Shared->Prop}(h:wpAny M A t Q (fun _ _=>False) s):bC X M A t Q s:=fun Γ p hΓ _=>h Γ p hΓ
theorem aq{a:α}{Q:α->Shared->Prop}(h:Q a s):bC X M A (pure a) Q s:=fun _ _ _ _=>h
theorem aH{t:Sem α}{Q Q':α->Shared->Prop}(h:bC X M A t Q s)(k:∀a s',Q a s'->Q' a s'):bC X M A t Q' s:=
 fun Γ p hΓ x=>Sem.wp_mono M Γ t (fun a _ s'=>k a s') (fun _ _ _ e=>e) p s (h Γ p hΓ x)
theorem am{m:Sem α}{f:α->Sem β}{Q:β->Shared->Prop}(h:bC X M A m (fun a s'=>bC X M A (f a) Q s') s):bC X M A (m >>= f) Q s:=fun Γ p hΓ x=>by
 rw [Sem.wp_bind'];exact Sem.wp_mono M Γ m (fun a p' s' h'=>h' Γ p' hΓ x) (fun _ _ _ h'=>h') p s (h Γ p hΓ x)
theorem ax{m:Sem α}{f:α->Sem β}{Q:β->Shared->Prop}(h:wpAny M A m (fun a s'=>bC X M A (f a) Q s') (fun _ _=>False) s):bC X M A (m >>= f) Q s:=am (aK h)
theorem aO{vs:List Value}{m:Sem α}{Q:α->Shared->Prop}(h:bC X M A m Q s):bC X M A (holding vs m) Q s:=fun Γ p hΓ x=>by rw [Sem.wp_holding];exact h Γ p hΓ x
theorem cT{m:Sem α}{k:Value->Sem Unit}{Q:α->Shared->Prop}(h:bC X M A m Q s):bC X M A (m.onRaise k) Q s:=fun Γ p hΓ x=>by
 rw [Sem.wp_onRaise];exact Sem.wp_mono M Γ m (fun _ _ _ h'=>h') (fun _ _ _ h'=>h'.elim) p s (h Γ p hΓ x)
theorem az{pos:Pos}{f:Unit->Sem β}{Q:β->Shared->Prop}(h:bC X M A (f ()) Q s):bC X M A (standAt pos >>= f) Q s:=ax (wpAny_standAt h)
theorem zH{c:Prop}[Decidable c]{a b:Sem α}{Q:α->Shared->Prop}(h:if c then bC X M A a Q s else bC X M A b Q s):bC X M A (if c then a else b) Q s:=by split<;>simp_all
theorem eI{c:Code}{R R':Flow->Shared->Prop}(h:cB X M A c R s)(k:∀f s',R f s'->R' f s'):cB X M A c R' s:=fun Γ p hc hΓ x=>
 wpCode_mono (fun r s' q=>by cases r with | ok f=>exact k f s' q | error e=>exact q) (h Γ p hc hΓ x)
theorem tP(xk:p9 X){c:Code}{Q:Flow->Shared->Prop}(hc:cB X M A c Q s)(hcl:dZ c=true):bC X M A (run c) Q s:=fun Γ p hΓ x=>by
 rw [Sem.wp_run];refine wpCode_mono (fun r s' q=>?_) (hc _ p rfl (hΓ.enter c none p (by intro z;exact aJ z)) (xk.enter _ _ _ _ x hcl));cases r with
 | ok f=>exact q
 | error e=>exact q
theorem f9(xk:p9 X){f:Value}{pos:List Value}{kw:List (Str×Value)}{Q:Value->Shared->Prop}
  (hc:cB X M A (.call f ⟨pos,kw⟩) (fun fl s'=>match fl with | .ret v=>Q v s' | _=>False) s):bC X M A (call f pos kw) Q s:=fun Γ p hΓ x=>by
 refine(?_:Sem.wp M Γ (runValue _) _ _ p s);rw [Sem.wp_runValue];refine wpCode_mono (fun r s' q=>?_) (hc _ p rfl (hΓ.enter _ none p (by intro z;exact aJ z)) (xk.enter _ _ _ _ x rfl));cases r with
 | ok f=>cases f<;>exact q
 | error e=>exact q
theorem jI(xk:p9 X){c:Code}{env:Env}{Q:Flow->Shared->Prop}(hc:cB X M A c Q s)(hcl:dZ c=true):bC X M A (runOwn c env) Q s:=by
 exact cT (tP xk hc hcl)
theorem bK(xk:p9 X){c:Code}{R:Flow->Shared->Prop}
  (h:bC X M (A.under c) (M.den c) (fun fin s'=>match fin with | .done f=>R f s' | .again c'=>c'.quiet=true/\dZ c'=true/\cB X M A c' R s') s):cB X M A c R s:=fun Γ p hc hΓ x=>by
 rewrite [wpCode_iff_wp];refine er hc ?_;refine Sem.wp_mono M Γ _ (fun fin p' s' h'=>?_) (fun _ _ _ h'=>h'.elim) p s (h Γ p (hc▸hΓ.in) x);cases fin with
 | done f=>exact h'
 | again c'=>exact⟨h'.1,h'.2.2 (Γ.goto c') p' rfl (hΓ.goto c') (xk.goto _ _ x h'.2.1)⟩
theorem j0(xk:p9 X){c:Code}{R:Flow->Shared->Prop}(hq:c.quiet=true)(hcl:dZ c=true)(I:Nat->Shared->Prop)
  (turn:∀n s,I n s->bC X M (A.under c) (M.den c) (fun fin s'=>match fin with
    | .done f=>R f s'
    | .again c'=>(c'=c/\∃m,m<n/\I m s')∨(c'.quiet=true/\dZ c'=true/\cB X M A c' R s')) s)
  (n:Nat) (h:I n s):cB X M A c R s:=by
 induction n using Nat.strongRecOn generalizing s with
 | ind n ih=>
  refine bK xk (aH (turn n s h) fun fin s' hf=>?_);cases fin with
  | done f=>exact hf
  | again c'=>
   rcases hf with ⟨rfl,m,hm,hI⟩ | hf
   ·exact bT hq hcl (ih m hm hI)
   ·exact hf
end
end
section
mutual #where
variable {prog:Program} {w:World} {A:Around} {s:Shared}
theorem rJ(xk:p9 X){stmts:List Stmt}{env:Env}{R:Flow->Shared->Prop}(h:bC X (model prog w) A (execs stmts env) R s):cB X (model prog w) A (.block stmts env) R s:=by
 refine bK xk ?_;exact am (cT (aH h fun f s' h'=>aq h'))
theorem my(xk:p9 X){test:Expr}{body orelse:List Stmt}{env:Env}{R:Flow->Shared->Prop}(I:Nat->Shared->Prop)
  (turn:∀n s,I n s->bC X (model prog w) A (isTrue test env (eval test env)) (fun b s₂=>
    if b then bC X (model prog w) A (execs body env) (fun f s₃=>match f with
      | .next | .cont=>∃m,m<n/\I m s₃
      | .brk=>R .next s₃
      | .ret v=>R (.ret v) s₃) s₂
    else bC X (model prog w) A (execs orelse env) R s₂) s)
  (n:Nat) (h:I n s):cB X (model prog w) A (.whileLoop test body orelse env) R s:=by
 refine j0 xk rfl rfl I (fun n s hI=>?_) n h;refine(?_:bC _ _ A ((whileTurn test body orelse env).onRaise (fun x=>do noteFrame x env;theTreesLotGoes x)) _ s);refine cT ?_;refine am (aH (turn n s hI) fun b s₂ h₂=>?_);cases b with
 | false=>
  exact am (aH h₂ fun f s₃ h₃=>aq h₃)
 | true=>
  refine am (aH h₂ fun f s₃ h₃=>?_);cases f with
  | next=>exact aq (.inl ⟨rfl,h₃⟩)
  | cont=>exact aq (.inl ⟨rfl,h₃⟩)
  | brk=>exact aq h₃
  | ret v=>exact aq h₃
theorem jG(xk:p9 X){target:Expr}{it:Value}{body:List Stmt}{env:Env}{R:Flow->Shared->Prop}(I:Nat->Shared->Prop)
  (turn:∀n s,I n s->bC X (model prog w) A (pyNext it) (fun r s₁=>match r with
   | none=>R .next s₁
   | some v=>bC X (model prog w) A (letOwnedTupleGo target it v) (fun _ s₁'=>
     bC X (model prog w) A (assign target env v) (fun _ s₂=>bC X (model prog w) A (execs body env) (fun f s₃=>match f with
      | .next | .cont=>∃m,m<n/\I m s₃
      | .brk=>R .next s₃
      | .ret v=>R (.ret v) s₃) s₂) s₁') s₁) s)
  (n:Nat) (h:I n s):cB X (model prog w) A (.forLoop target it body [] env) R s:=by
 refine j0 xk rfl rfl I (fun n s hI=>?_) n h;refine(?_:bC _ _ A ((forTurn target it body [] env).onRaise (fun x=>do noteFrame x env;theTreesLotGoes x)) _ s);refine cT ?_;refine az (am (cT (aH (turn n s hI) fun r s₁ h₁=>?_)));cases r with
 | none=>exact aq (.inr (bT rfl rfl (rJ xk (aq h₁))))
 | some v=>
  refine am (aH h₁ fun _ s₁' h₁'=>?_);refine am (aH h₁' fun _ s₂ h₂=>am (aH h₂ fun f s₃ h₃=>?_));cases f with
  | next=>exact aq (.inl ⟨rfl,h₃⟩)
  | cont=>exact aq (.inl ⟨rfl,h₃⟩)
  | brk=>exact aq h₃
  | ret v=>exact aq h₃
theorem tB(xk:p9 X){body:List Stmt}{env:Env}{R:Flow->Shared->Prop}
  (h:bC X (model prog w) (A.deeper env) (execs body env) (fun f s'=>R (.ret (match f with | .ret v=>v | _=>.none)) s') s):cB X (model prog w) A (.func body env) R s:=by
 refine bK xk ?_;refine(?_:bC _ _ (A.deeper env) (do point;match ← (execs body env).onRaise (leaving env) with | .ret v=>ret v | _=>ret .none) _ s)
 refine ax (wpAny_point (am (cT (aH h fun f s' h'=>?_))));cases f<;>exact aq h'
theorem jt(xk:p9 X){a:Addr}{args:Args}{o:Obj}{fd:FuncData}{body:List Stmt}{R:Flow->Shared->Prop}(hroom:A.depth<recursionLimit)(ho:s.heap.get? a=some o)
  (hd':o.data=.func fd) (hco:fd.scope.isCoroutine=false) (hgen:fd.scope.isGenerator=false) (hbody:fd.body=.stmts body) (hcd:s.heap.CodeRec fd.code fd.qualname)
  (h:wpAny (model prog w) A.in1 (bindArgs fd args) (fun binds s₁=>wpAny (model prog w) A.in1 (newFunctionEnv fd.scope fd.globals fd.closure binds (fd.qualname++".<locals>.") (some a) fd.code none fd.builtins)
    (fun env s₂=>s₂.heap.NoLimit/\cB X (model prog w) A (.func body env) R s₂) (fun _ _=>False) s₁) (fun _ _=>False) s):cB X (model prog w) A (.call (.ref a) args) R s:=by
 refine bK xk ?_;refine(?_:bC _ _ A.in1 (callAny (.ref a) args) _ s);refine MC hcd fun c oc vs tq hc hoc hdc hq=>ax (wpAny_load ho ?_);refine er hd' ?_;refine(?_:bC _ _ _ (callFunction _ _ _) _ _);delta callFunction;refine er hgen (er hco ?_);refine er hbody (er hc ?_);rw [hc] at h;refine ax (wpAny_field hoc hdc hq (ax (wpAny_pure ?_)));exact ax (wpAny_mono h (fun binds s₁ h₁=>ax (wpAny_mono h₁ (fun env s₂ h₂=>ax (wpAny_enterFrame h₂.1 hroom
  (aq (bT rfl rfl h₂.2)))) fun _ _ h'=>h')) fun _ _ h'=>h')
theorem lF(xk:p9 X){R:Flow->Shared->Prop}{a:Addr}{o:Obj}{fd:FuncData}{body:List Stmt}{vals:List Value}{binds:List (Str×Value)}
  (hroom:A.depth<recursionLimit) (ho:s.heap.get? a=some o) (hdata:o.data=.func fd) (hlim:s.heap.NoLimit) (hcd:s.heap.CodeRec fd.code fd.qualname)
  (hbody:fd.body=.stmts body) (hbind:bindArgs fd ⟨vals,[]⟩=pure binds) (hclo:fd.closure=[])
  (hkind:∀x∈binds,fd.scope.names.lookup x.1=some .local∨(fd.scope.names.lookup x.1=some .cell/\((cellsFrom (s.heap.objs.size+1) fd.scope.names []).lookup x.1).isSome=true))
  (h:∀s₁,InCallC s (callEnvC fd s.heap.objs.size a).locals (bindL (callEnvC fd s.heap.objs.size a).kindOf binds fun _=>none) (callEnvC fd s.heap.objs.size a).cells
    (bindC (callEnvC fd s.heap.objs.size a).kindOf binds fun _=>none) s₁->
   bC X (model prog w) (A.deeper (callEnvC fd s.heap.objs.size a)) (execs body (callEnvC fd s.heap.objs.size a)) (fun f s'=>R (.ret (match f with | .ret v=>v | _=>.none)) s') s₁)
  (hco:fd.scope.isCoroutine=false) (hgen:fd.scope.isGenerator=false) (hk:fd.scope.kind=.function):cB X (model prog w) A (.call (.ref a) ⟨vals,[]⟩) R s:=by
 refine jt xk hroom ho hdata hco hgen hbody hcd ?_;refine er hbind (er hclo ?_);refine wpAny_pure (wpAny_newFunctionEnv_cells hk hkind fun env he s' x=>?_);subst he;exact⟨hlim.keeps x.toInCall.keep,tB xk (h s' x)⟩
end
end
end
mutual #where
structure be where
 prog:Program
 w:World
 K:Frag
 h₀:Heap
 mg:Str->Option Value
 mb:Str->Option Value
 kin:K.In h₀
 g:h₀.Ns mainGlobals mg
 b:h₀.Ns builtinsNs mb
 lim:h₀.NoLimit
 bi:∀x:Str,x≠"__name__"→mb x=bootBuiltins x
 X:Ctx->Prop
 xok:p9 X
 bar:Prop
abbrev be.B(S:be):Heap:=S.h₀
abbrev be.M(S:be):Model:=model S.prog S.w
structure St(S:be)(φ:Fp)(H:List O)(s:Shared):Prop where
 base:∀(b:Nat) (o:Obj),S.h₀.get? b=some o->s.heap.get? b=some o
 rel:mh S.B φ H s.heap
structure eT(A:Around)(n:Nat):Prop where
 hd:A.handled=none
 dp:A.depth+4*n<recursionLimit
 un:A.units+20*n+10<cLine
theorem eT.room{A:Around}{n:Nat}(a:eT A n):A.depth<recursionLimit:=by haveI:=a.dp;exact Kq this
theorem eT.in1{A:Around}{n:Nat}(a:eT A (n+1)):eT A.in1 n:=⟨a.hd,by haveI:=a.dp;refine(?_:A.depth+4*n<_);lia,by haveI:=a.un;refine(?_:A.units+1+20*n+10<_);lia⟩
theorem eT.un1{A:Around}{n:Nat}(a:eT A n):A.units+1<cLine:=by haveI:=a.un;lia
theorem eT.call{A:Around}{n:Nat}{env:Env}(a:eT A (n+1)):eT (A.deeper env) n:=⟨a.hd,by haveI:=a.dp;refine(?_:A.depth+1+4*n<_);lia,by haveI:=a.un;exact Ef this⟩
end
section
mutual #where
variable {S:be} {φ φ':Fp} {H H':List O} {s s':Shared} {W:Nat->Prop}
theorem St.kin(t:St S φ H s):S.K.In s.heap:=S.kin.keeps t.base
theorem St.lim(t:St S φ H s):s.heap.NoLimit:=S.lim.keeps t.base
theorem St.g(t:St S φ H s):s.heap.Ns mainGlobals S.mg:=S.g.keeps t.base
theorem St.b(t:St S φ H s):s.heap.Ns builtinsNs S.mb:=S.b.keeps t.base
theorem St.low(t:St S φ H s){b:Nat}{o:Obj}(e:S.h₀.get? b=some o):¬fV φ b:=fun q=>by
 exact Pv _ (t.rel.own_low q _ _ e)
theorem St.ext(t:St S φ H s)(X:bZ W φ φ' s s')(hw:∀b,W b->cX S.B b)(r:mh S.B φ' H' s'.heap):St S φ' H' s':=
 ⟨fun b o e=>X.keep b o (t.base b o e) (t.low e) fun q=>by
  exact Pv _ (hw b q _ _ e),r⟩
theorem St.toks(t:St S φ H s)(tk:Nat):St S φ H { s with toks:=tk }:=⟨t.base,t.rel⟩
theorem ue:∀b,fL b->cX S.B b:=fun _ h=>h.elim
end
end
mutual #where
inductive bF{α β:Type}(S:be)(W:Nat->Prop)(R:Fp->α->β->Prop)(φ:Fp)(s:Shared)(Q:α->List O->Prop)(b:β)(s':Shared):Prop
 | mk (φ':Fp) (H':List O) (a:α) (X:bZ W φ φ' s s') (T:St S φ' H' s') (r:R φ' a b) (q:Q a H'):bF S W R φ s Q b s'
abbrev bR(S:be)(φ:Fp)(s:Shared)(Q:V->List O->Prop):Value->Shared->Prop:=bF S fL VR φ s Q
abbrev rW(S:be)(φ:Fp)(s:Shared)(Q:Bool->List O->Prop):Bool->Shared->Prop:=bF S fL (fun _ a b=>a=b) φ s Q
abbrev rV(S:be)(φ:Fp)(s:Shared)(Q:List O->Prop):Unit->Shared->Prop:=bF S fL (fun _ (_:Unit) (_:Unit)=>True) φ s fun _ H=>Q H
end
section
mutual #where
variable {α β:Type} {S:be} {W:Nat->Prop} {R:Fp->α->β->Prop} {φ φ':Fp} {H:List O} {s s' s'':Shared} {Q:α->List O->Prop} {a:α} {b:β}
theorem bF.now(t:St S φ H s)(r:R φ a b)(q:Q a H):bF S W R φ s Q b s:=⟨φ,H,a,.refl,t,r,q⟩
theorem bF.tk(t:St S φ H s)(tk:Nat)(r:R φ a b)(q:Q a H):bF S W R φ s Q b { s with toks:=tk }:=⟨φ,H,a,bZ.refl.toks,t.toks tk,r,q⟩
theorem bF.after(X:bZ W φ φ' s s')(p:bF S W R φ' s' Q b s''):bF S W R φ s Q b s'':=
 p.casesOn fun φ₂ H₂ a Y t r q=>⟨φ₂,H₂,a,X.trans Y,t,r,q⟩
theorem bF.mono{Q':α->List O->Prop}(p:bF S W R φ s Q b s')(k:∀a H,Q a H->Q' a H):bF S W R φ s Q' b s':=
 p.casesOn fun φ₂ H₂ a Y t r q=>⟨φ₂,H₂,a,Y,t,r,k _ _ q⟩
theorem bF.grow{h':Heap}{tk:Nat}(t:St S φ H s)(k:∀b o,s.heap.get? b=some o->h'.get? b=some o)(r:R φ a b)(q:Q a H) :
  bF S fL R φ s Q b { s with heap:=h',toks:=tk }:=
 ⟨φ,H,a,.grow (fun b o e _=>k b o e),⟨fun b o e=>k b o (t.base b o e),t.rel.ext (fun b o e _=>k b o e)⟩,r,q⟩
end
end
mutual #where
theorem St.new{S:be}{φ:Fp}{H:List O}{s:Shared}(t:St S φ H s){o:O}{a tk:Nat}{h':Heap}(k:∀b x,s.heap.get? b=some x->h'.get? b=some x)
  (r:OR h' (φ++[(a,a)]) o (a,a)) (ha:cX s.heap a) :
  bZ fL φ (φ++[(a,a)]) s { s with heap:=h',toks:=tk }/\St S (φ++[(a,a)]) (H++[o]) { s with heap:=h',toks:=tk }/\VR (φ++[(a,a)]) (.obj H.length) (.ref a):=by
 refine BV fun _ kK=>kK ⟨PH _ _,fun p hp=>?_,fun b x e _ _=>k _ _ e,fun _ _ w _=>w.elim,rfl,0,rfl⟩ ⟨fun b x e=>k _ _ (t.base b x e),?_⟩ ?_
 ·rcases O9.mp hp with q | q
  ·exact .inl q
  ·exact er (OZ.mp q) (.inr (bT ha (t.rel.all_lt ha) (OF _)))
 ·exact(t.rel.ext (fun b x e _=>k b x e)).add r (fun q hq=>(t.rel.all_lt ha q hq).1) fun b x e=>ha _ _ (t.base b x e)
 ·exact .obj (p:=(a,a)) (by exact el t.rel.len List.getElem?_concat_length)
theorem iN{S:be}{φ:Fp}{H:List O}{s:Shared}(t:St S φ H s){o:O}{a tk:Nat}{h':Heap}{Q:V->List O->Prop}(k:∀b x,s.heap.get? b=some x->h'.get? b=some x)
  (r:OR h' (φ++[(a,a)]) o (a,a)) (ha:cX s.heap a) (q:Q (.obj H.length) (H++[o])):bR S φ s Q (.ref a) { s with heap:=h',toks:=tk }:=
 (t.new k r ha).elim fun X y=>⟨_,_,_,X,y.1,y.2,q⟩
theorem gn{S:be}{φ:Fp}{H:List O}{s:Shared}(t:St S φ H s){o:O}{ob:Obj}{tk:Nat}{Q:V->List O->Prop}(hi:∀C fs,o≠.inst C fs)(hd:ob.isFreed=false)(r:OX (φ++[(s.heap.objs.size,s.heap.objs.size)]) o ob)(q:Q (.obj H.length) (H++[o])) :
  bR S φ s Q (.ref s.heap.objs.size) { s with heap:=s.heap.push ob,toks:=tk }:=iN t (fun b x e=>OV _ e) (.one hi (Pe _ hd) r) bw q
theorem iM{S:be}{φ:Fp}{H:List O}{s:Shared}{vs:List Value}{xs:List V}{n tk:Nat}{Q:V->List O->Prop}(t:St S φ H s)(r:d8 φ xs vs)(q:Q (.obj H.length) (H++[.list xs])) :
  bR S φ s Q (.ref s.heap.objs.size) { s with heap:=s.heap.push (iK "list" vs n),toks:=tk }:=gn (o:=.list xs) t fS rfl (sf _ _ rfl (r.mono (PH _ _))) q
theorem xL{S:be}{φ:Fp}{H:List O}{s:Shared}{vs:List Value}{xs:List V}{n tk:Nat}{Q:V->List O->Prop}(t:St S φ H s)(r:d8 φ xs vs)(q:Q (.obj H.length) (H++[.tuple xs])) :
  bR S φ s Q (.ref s.heap.objs.size) { s with heap:=s.heap.push (iK "tuple" vs n),toks:=tk }:=gn (o:=.tuple xs) t fS rfl (sf _ _ rfl (r.mono (PH _ _))) q
structure FC where
 names:List Str
 scope:Scope
abbrev FC.kind(fc:FC)(x:Str):Option NameKind:=fc.scope.names.lookup x
abbrev aW:Type:=List (Option V)
inductive zl(fc:FC)(loc:aW)(φ:Fp)(h:Heap)(L:Nat):Prop
 | mk (m:Str->Option Value) (n:h.Ns L m) (g:∀(i:Nat) (x:Str) (y:V),fc.names[i]? = some x->fc.kind x=some .local->loc[i]? = some (some y)->∃v,m x=some v/\VR φ y v):zl fc loc φ h L
inductive sd(B:Heap)(env:Env)(loc:aW)(φ:Fp)(h:Heap)(i:Nat)(x:Str):Prop
 | mk (c:Nat) (e:env.cells.lookup x=some c) (lo:cX B c) (ne:c≠env.locals) (no:¬fV φ c) (cv:Option Value) (ic:h.IsCell c cv) (g:∀y:V,loc[i]? = some (some y)->∃v,cv=some v/\VR φ y v):sd B env loc φ h i x
structure aB(S:be)(fc:FC)(env:Env)(loc:aW)(φ:Fp)(h:Heap):Prop where
 scope:env.scope=fc.scope
 fk:fc.scope.kind=.function
 glob:env.globals=mainGlobals
 bins:env.builtins=builtinsNs
 low:cX S.B env.locals
 own:¬fV φ env.locals
 len:loc.length=fc.names.length
 nd:fc.names.Nodup
 ns:zl fc loc φ h env.locals
 cell:∀(i:Nat) (x:Str),fc.names[i]? = some x->(fc.kind x=some .cell∨fc.kind x=some .free)->sd S.B env loc φ h i x
 sep:∀(i j:Nat) (x y:Str) (c:Nat),fc.names[i]? = some x->fc.names[j]? = some y->env.cells.lookup x=some c->env.cells.lookup y=some c->i=j
theorem pF{h h':Heap}{L:Nat}{m:Str->Option Value}(n:h.Ns L m)(k:∀o,h.get? L=some o->h'.get? L=some o):h'.Ns L m:=by
 refine fP n fun o es ep e r=>qe o es ep (k _ e) r
theorem jm{h h':Heap}{c:Nat}{v:Option Value}(n:h.IsCell c v)(k:∀o,h.get? c=some o->h'.get? c=some o):h'.IsCell c v:=by
 refine aZ n fun o e d=>bN o (k _ e) d
end
section
mutual #where
variable {S:be} {fc:FC} {env:Env} {loc:aW} {φ φ':Fp} {h h':Heap} {s s':Shared}
theorem zl.keep{L:Nat}(n:zl fc loc φ h L)(hp:φ <+: φ')(k:∀o,h.get? L=some o->h'.get? L=some o):zl fc loc φ' h' L:=
 n.casesOn fun m n g=>⟨m,pF n k,fun i x y h1 h2 h3=>(g i x y h1 h2 h3).imp fun _=>PS (VR.mono hp)⟩
theorem sd.keep{i:Nat}{x:Str}(n:sd S.B env loc φ h i x)(hp:φ <+: φ')(k:∀c o,env.cells.lookup x=some c->¬fV φ c->h.get? c=some o->h'.get? c=some o/\¬fV φ' c):sd S.B env loc φ' h' i x:=by
 obtain⟨c,a1,a2,a3,a4,cv,a5,a6⟩:=n;refine aZ (id a5) fun oc ho _=>⟨c,a1,a2,a3,(k c _ a1 a4 ho).2,cv,jm a5 fun o e=>(k c o a1 a4 e).1,fun y h3=>(a6 y h3).imp fun _=>PS (VR.mono hp)⟩
theorem aB.ext(E:aB S fc env loc φ s.heap)(X:bZ fL φ φ' s s'):aB S fc env loc φ' s'.heap:=
 E.ns.casesOn fun _ hm _=>hm.elim fun _ z=>z.elim fun _ z=>z.elim fun _ z=>
  { E with own:=X.own z.1 E.own,ns:=E.ns.keep X.pre fun o e=>X.keep _ _ e E.own id,cell:=fun i x h1 h2=>(E.cell i x h1 h2).keep X.pre fun c o _ n e=>⟨X.keep _ _ e n id,X.own e n⟩ }
end
end
mutual #where
def WP{α β:Type}(S:be)(n:Nat)(fc:FC)(R:Fp->α->β->Prop)(t:Env->Sem β)(loc:aW)(H:List O)(Q:α->List O->Prop):Prop:=
 ∀(A:Around) (env:Env) (φ:Fp) (s:Shared),eT A n->St S φ H s->aB S fc env loc φ s.heap->bC S.X S.M A (t env) (bF S fL R φ s Q) s
def dG(S:be)(n:Nat)(f:V)(xs:List V)(H:List O)(Q:V->List O->Prop):Prop:=
 ∀(A:Around) (φ:Fp) (s:Shared) (vf:Value) (vs:List Value),eT A n->St S φ H s->VR φ f vf->d8 φ xs vs->bC S.X S.M A (call vf vs []) (bR S φ s Q) s
theorem dG.mono{S:be}{n:Nat}{f:V}{xs:List V}{H:List O}{Q Q':V->List O->Prop}(h:dG S n f xs H Q)(k:∀v H',Q v H'->Q' v H'):dG S n f xs H Q':=
 fun A φ s vf vs a t r rs=>aH (h A φ s vf vs a t r rs) fun _ _ p=>p.mono k
theorem eT.le{A:Around}{n m:Nat}(a:eT A n)(h:m<=n):eT A m:=⟨a.hd,by haveI:=a.dp;exact JQ this h,by haveI:=a.un;exact JP this h⟩
theorem dG.up{S:be}{n m:Nat}{f:V}{xs:List V}{H:List O}{Q:V->List O->Prop}(h:dG S n f xs H Q)(l:n<=m):dG S m f xs H Q:=
 fun A φ s vf vs a t r rs=>h A φ s vf vs (a.le l) t r rs
theorem gJ{α β:Type}{S:be}{A:Around}{R:Fp->α->β->Prop}{φ:Fp}{s:Shared}{t:Sem β}{Q:α->List O->Prop}{K:β->Shared->Prop}
  (h:bC S.X S.M A t (bF S fL R φ s Q) s) (k:∀b s' φ' H' a,bZ fL φ φ' s s'->St S φ' H' s'->R φ' a b->Q a H'->K b s'):bC S.X S.M A t K s:=
 aH h fun b s' p=>p.casesOn fun φ' H' a X T r q=>k b s' φ' H' a X T r q
theorem eC{κ α:Type}[BEq κ][LawfulBEq κ]{m:κ}{f:α}{l:List (κ×α)}(h:l.lookup m=some f):(m,f)∈l:=by
 induction l with
 | nil=>exact aJ h
 | cons p r ih=>
  cases q:m == p.1 with
  | true=>
   rw [PO,q] at h;refine er (eq_of_beq q) ?_;exact el (Option.some.inj h) (.head _)
  | false=>
   rw [PO,q] at h;exact .tail _ (ih h)
structure DU where
 C:Nat
 fields:List Nat
 meths:List (Nat×Nat)
def Hp:List DU:=[
 ⟨73,[0,1,2,3],[]⟩,
 ⟨139,[4,5,6,7,8,9],[(41,96),(42,101),(43,108),(44,115),(45,122),(46,129),(47,136)]⟩,
 ⟨172,[10,11],[(39,162),(40,169)]⟩,
 ⟨320,[12,13,14,15],[(48,310),(49,317)]⟩,
 ⟨362,[16,17,18],[(40,345),(50,352),(51,359)]⟩,
 ⟨404,[19,20],[(52,387),(53,394),(54,401)]⟩,
 ⟨495,[21,22,23,24],[(33,464),(55,471),(56,478),(48,485),(57,492)]⟩,
 ⟨537,[21,25,26,24],[(33,520),(49,527),(57,534)]⟩,
 ⟨579,[21,22,27],[(33,562),(48,569),(57,576)]⟩,
 ⟨621,[21,22],[(33,604),(48,611),(57,618)]⟩,
 ⟨663,[21,28,27,26],[(33,646),(49,653),(57,660)]⟩,
 ⟨705,[21,26],[(33,688),(49,695),(57,702)]⟩,
 ⟨768,[21,22,23,24,29],[(33,730),(58,737),(55,744),(59,751),(48,758),(57,765)]⟩,
 ⟨831,[21,25,26,24],[(33,793),(60,800),(61,807),(62,814),(49,821),(57,828)]⟩,
 ⟨887,[30,31,32,33,34,35,36],[(63,877)]⟩,
 ⟨954,[37],[(64,944),(65,951)]⟩,
 ⟨1017,[28,38],[(66,1000),(54,1007),(57,1014)]⟩]
def yW(K:Frag)(c:DU):Bool:=
 findIn K (.ref c.C) "__setattr__" == some (some (.builtin "object.__setattr__"))&&plainOver K c.C&&hasDictIn K c.C&&plainGet K c.C ""&&makesIn K c.C &&
 c.fields.all (fun f=>takerIn K c.C (nm f) == some none&&findIn K (.ref c.C) (nm f) == some none&&decide (f<70)) &&
 c.meths.all fun p=>findIn K (.ref c.C) (nm p.1) == some (some (.ref p.2))&&isFn K (.ref p.2)&&keepIn K (.ref p.2)&&decide (p.1<70)
def i4(K:Frag):Bool:=Hp.all (yW K)
def rL(C:Nat):Option DU:=Hp.find? fun c=>c.C == C
def qX(C f:Nat):Bool:=match rL C with
 | some c=>c.fields.contains f
 | none=>false
def jw(C m:Nat):Option Nat:=match rL C with
 | some c=>c.meths.lookup m
 | none=>none
structure kY(K:Frag)(c:DU):Prop where
 sa:findIn K (.ref c.C) "__setattr__" = some (some (.builtin "object.__setattr__"))
 po:plainOver K c.C=true
 hd:hasDictIn K c.C=true
 pg:plainGet K c.C "" = true
 mkk:makesIn K c.C=true
 fl:∀f∈c.fields,takerIn K c.C (nm f)=some none/\findIn K (.ref c.C) (nm f)=some none/\f<70
 mt:∀p∈c.meths,findIn K (.ref c.C) (nm p.1)=some (some (.ref p.2))/\isFn K (.ref p.2)=true/\keepIn K (.ref p.2)=true/\p.1<70
theorem v4{K:Frag}{c:DU}(e:yW K c=true):kY K c:=by
 unfold yW at e;simp only [Px,beq_iff_eq,O6,decide_eq_true_eq] at e;refine fM e fun q_b e6 e7=>fM q_b fun q_d e4 e5=>fM q_d fun e1 e2 e3=>⟨e1,e2,e3,e4,e5,fun f hf=>(bT ((e6 f hf).1.1) ((e6 f hf).1.2) ((e6 f hf).2)),fun p hp=>(oK ((e7 p hp).1.1.1) ((e7 p hp).1.1.2) ((e7 p hp).1.2) ((e7 p hp).2))⟩
theorem pW{K:Frag}{C:Nat}{c:DU}(e:i4 K=true)(h:rL C=some c):kY K c/\c.C=C:=by
 refine jF fun _ kK=>?_;haveI m:=List.mem_of_find?_eq_some h;haveI q:=List.find?_some h;exact kK (v4 (O6.mp e c m)) (beq_iff_eq.mp q)
theorem rA{K:Frag}{C f:Nat}(e:i4 K=true)(h:qX C f=true){kP:Prop}(kK:∀c,kY K c->c.C=C->f∈c.fields->kP):kP:=by
 unfold qX at h;cases hc:rL C with
 | none=>replace h:=hc▸h;exact ae h
 | some c=>replace h:=hc▸h;exact kK c (pW e hc).1 (pW e hc).2 (QD.mp h)
theorem Ah{K:Frag}{C m f:Nat}(e:i4 K=true)(h:jw C m=some f){kP:Prop}(kK:∀c,kY K c->c.C=C->(m,f)∈c.meths->kP):kP:=by
 unfold jw at h;cases hc:rL C with
 | none=>replace h:=hc▸h;exact aJ h
 | some c=>rw [hc] at h;exact kK c (pW e hc).1 (pW e hc).2 (eC h)
theorem um{φ:Fp}{f:Nat}(hf:f<70){fs:List (Nat×V)}{es:List DictEntry}(r:F2 (FR φ) fs es) :
  (∀x,fs.lookup f=some x->∃v,getL (nm f) es=some (some v)/\VR φ x v)/\(fs.lookup f=none->getL (nm f) es=some none):=by
 induction r with
 | nil=>exact⟨fun x h=>aJ h,fun _=>rfl⟩
 | @cons p e fs es r rs ih=>
  refine dN r fun hk q_a hv=>b7 q_a fun t ht=>?_;unfold getL at ih⊢;refine er PO (er Qw ?_);haveI refs:(e::es).any (·.refKey)=es.any (·.refKey):=by
   refine er R3 ?_;unfold DictEntry.refKey;refine er ht ?_;rfl
  haveI e0:e.key.isStr (nm f)=(nm p.1 == nm f):=by refine er ht ?_;rfl
  refine er e0 ?_;by_cases q:f=p.1
  ·refine er q ?_;rw [beq_self_eq_true,beq_self_eq_true];refine jF fun _ kK=>kK (fun x h=>Option.some.inj h▸(bN _ rfl hv)) fun h=>tY h
  ·refine er (beq_eq_false_iff_ne.mpr q) (er (beq_eq_false_iff_ne.mpr fun z=>q (xU hf hk z.symm)) ?_);exact er refs ih
def setF(f:Nat)(x:V):List (Nat×V)->List (Nat×V)
 | []=>[(f,x)]
 | (k,y)::r=>if k=f then (k,x)::r else (k,y)::setF f x r
theorem oP{f:Nat}{x:V}{p:Nat×V}{r:List (Nat×V)}:setF f x (p::r)=if p.1=f then (p.1,x)::r else p::setF f x r:=rfl
theorem CX{φ:Fp}{f:Nat}{hsh:Int}{tk:Tok}{x:V}{v:Value}(hf:f<70)(rv:VR φ x v){fs:List (Nat×V)}{es:List DictEntry}(r:F2 (FR φ) fs es):F2 (FR φ) (setF f x fs) (putL (nm f) hsh (.str (nm f) tk) v es):=by
 induction r with
 | nil=>exact .cons (bT hf ⟨tk,rfl⟩ rv) .nil
 | @cons p e fs es r rs ih=>
  obtain⟨k,y⟩:=p;refine dN r fun hk q_a hv=>b7 q_a fun t ht=>?_;refine er oP ?_;unfold putL;haveI e0:e.key.isStr (nm f)=(nm k == nm f):=by refine er ht ?_;rfl
  refine er e0 ?_;by_cases q:k=f
  ·refine er (if_pos q) (er q ?_);exact er (if_pos (beq_self_eq_true _)) (.cons (bT hf ⟨t,q▸ht⟩ rv) rs)
  ·refine er (if_neg q) ?_;exact er (if_neg fun z=>q (xU hk hf (eq_of_beq z))) (.cons (bT hk ⟨t,ht⟩ hv) ih)
theorem xq(f:Nat)(x:V)(fs:List (Nat×V)):(setF f x fs).length<=fs.length+1:=by
 induction fs with
 | nil=>exact OF _
 | cons p r ih=>
  refine er oP ?_;split
  ·exact Qt _
  ·exact Qv ih
theorem F2.keys{φ:Fp}{fs:List (Nat×V)}{es:List DictEntry}(r:F2 (FR φ) fs es):∀e∈es,∃x t,e.key=.str x t:=by
 induction r with
 | nil=>exact fun _ h=>(Qe h).elim
 | cons a _ ih=>exact fun e he=>(OY.mp he).elim (fun q=>q▸⟨_,a.2.1⟩) (ih e)
theorem pK{h:Heap}{C a d:Nat}{es:List DictEntry}{n:Nat}(h1:h.get? a=some (instObj C d))(h2:h.get? d=some (dictOf es n)):InstAt h a (instObj C d) C (some (dictOf es n)):=⟨h1,rfl,rfl,h2⟩
end
section
mutual #where
variable {S:be} {A:Around} {E:Value->Shared->Prop} {φ:Fp} {H:List O} {s:Shared} {i:Nat} {v:Value} {o:O}
theorem St.one(t:St S φ H s)(r:VR φ (.obj i) v)(hi:H[i]? = some o)(ni:∀C fs,o≠.inst C fs){G:Prop}(k:∀a x,v=.ref a->φ[i]? = some (a,a)->s.heap.get? a=some x->OX φ o x->G):G:=by
 refine aZ r fun q_a e w=>?_;obtain⟨a,d⟩:=q_a;refine ba ((t.rel.at_ i o _ hi e).get ni) fun z q_a=>aZ q_a fun x g r=>?_;haveI z:d=a:=z;subst z;exact k _ x w e g r
theorem St.inst(t:St S φ H s){C:Nat}{fs:List (Nat×V)}(r:VR φ (.obj i) v)(hi:H[i]? = some (.inst C fs)){G:Prop}
  (k:∀a d es n,v=.ref a->φ[i]? = some (a,d)->d<a->s.heap.get? a=some (instObj C d)->s.heap.get? d=some (dictOf es n)->F2 (FR φ) fs es->G):G:=by
 refine aZ r fun q_a e w=>?_;obtain⟨a,d⟩:=q_a;refine dN (t.rel.at_ i _ _ hi e).2 fun l g1 q_a=>eu q_a fun es n g2 rs=>k a d es n w e l g1 g2 rs
theorem bF.upd{α β:Type}{R:Fp->α->β->Prop}{Q:α->List O->Prop}{x:α}{y:β}{p:Nat×Nat}{h':Heap}{tk:Nat}(t:St S φ H s)(e:φ[i]? = some p)(r:OR h' φ o p)(k:∀b x,s.heap.get? b=some x->b≠p.1->b≠p.2->h'.get? b=some x)
  (ry:R φ x y) (q:Q x (H.set i o)):bF S fL R φ s Q y { s with heap:=h',toks:=tk }:=by
 haveI X:bZ fL φ φ s { s with heap:=h',toks:=tk }:=bZ.grow fun b x g nb=>k b x g (fun z=>nb ⟨p,OC e,.inl z⟩) fun z=>nb ⟨p,OC e,.inr z⟩;exact⟨φ,_,x,X,t.ext X ue (t.rel.upd e r k),ry,q⟩
theorem bF.same{α β:Type}{R:Fp->α->β->Prop}{Q:α->List O->Prop}{x:α}{y:β}{a:Nat}{ob:Obj}{h':Heap}{tk:Nat}(t:St S φ H s)(e:φ[i]? = some (a,a))(ni:∀C fs,o≠.inst C fs)(g:h'.get? a=some ob)(r:OX φ o ob)(k:RE a s.heap h')
  (ry:R φ x y) (q:Q x (H.set i o)):bF S fL R φ s Q y { s with heap:=h',toks:=tk }:=.upd t e (.one ni g r) (fun b x g n1 _=>(k.2 b n1).trans g) ry q
end
end
mutual #where
def Cz:V->Bool
 | .bi _=>false
 | _=>true
theorem ym{φ:Fp}{x:V}{v:Value}(r:VR φ x v)(h:Cz x=true):handedIn v=true:=by
 cases x with
 | bi i=>exact ae h
 | none | bool | type | top=>refine er r ?_;rfl
 | int | str | bytes=>refine b7 r fun _ q_a=>?_;refine er q_a ?_;rfl
 | obj=>refine aZ r fun _ _ q_a=>?_;refine er q_a ?_;rfl
theorem Ae:PlainAttrs "bytearray":=
 ⟨(bN ("bytearray.__getattribute__") (by rewrite [typeLookup_type];refine er builtinLookup_eq_fast ?_;kernel_rfl) (by decide +kernel)),by rewrite [typeLookup_type];refine er builtinLookup_eq_fast ?_;kernel_rfl⟩
theorem ew:Slot "bytearray" "append" "bytearray.append":=
 .of (owner:="bytearray") (n:="append") (by rewrite [typeLookup_type];refine er builtinLookup_eq_fast ?_;kernel_rfl) (by decide +kernel) (by decide +kernel) (by decide +kernel)
  (by first | exact .inl (by decide +kernel) | exact .inr (by decide +kernel)) (by rw [isSubtype_type];kernel_rfl)
theorem lf:typeOf (.builtin "bytearray.append")=pure (.type "method_descriptor"):=by refine(?_:builtinType _=_);refine er builtinType_eq_fast ?_;kernel_rfl
theorem kQ:entryFor table "bytearray.append" = some Builtin.«bytearray.append»:=entryFor_of_tree (by kernel_rfl)
theorem lH(a b:Value):argsOk "bytearray.append" ⟨[a,b],[]⟩:=by kernel_rfl
theorem G7:nm 67=F7 "append":=by kernel_rfl
theorem MH:nm 69=F7 "add":=by kernel_rfl
theorem MJ:nm 39=F7 "get":=by kernel_rfl
theorem MI:nm 68=F7 "bit_length":=by kernel_rfl
abbrev FF:Value->Shared->Prop:=fun _ _=>False
end
section
mutual #where
variable {S:be} {A:Around} {E:Value->Shared->Prop} {φ:Fp} {H:List O} {s:Shared} {i f C:Nat} {v u:Value} {x y:V} {fs:List (Nat×V)}
theorem Dj(ck:i4 S.K=true){Q:V->List O->Prop}{b:Bool}(t:St S φ H s)(r:VR φ (.obj i) v)(hi:H[i]? = some (.inst C fs))(hf:qX C f=true)(hl:fs.lookup f=some y)(hb:Cz y=true)(q:Q y H):wpAny S.M A (getAttr v (nm f) b) (bR S φ s Q) E s:=by
 refine t.inst r hi fun a d es n z e l g1 g2 rs=>er z ?_;refine rA ck hf fun c cf q_a hc=>dN (cf.fl f hc) fun f1 f2 f3=>aZ ((um f3 rs).1 y hl) fun u hu ru=>aZ (any_some cf.hd) fun cd hcd hdd=>?_;obtain rfl:=q_a;refine get_value t.kin (pK g1 g2) (plainGet_of cf.pg).1 ?_ (ym ru hb) (bF.tk t _ ru q);unfold findObj;refine er hcd ?_;rewrite [Sm,f2,Sm];haveI ho:PySem.W.ownOf cd (some (dictOf es n)) (nm f)=some (some u):=by unfold PySem.W.ownOf;exact er (if_pos hdd) hu
 refine er ho ?_;rfl
theorem Ct(ck:i4 S.K=true){Q:List O->Prop}(t:St S φ H s)(rx:VR φ (.obj i) v)(ry:VR φ y u)(hi:H[i]? = some (.inst C fs))(hF:qX C f=true)(hlen:fs.length<100)(q:Q (H.set i (.inst C (setF f y fs)))) :
  wpAny S.M A (setAttr v (nm f) u) (rV S φ s Q) E s:=by
 refine t.inst rx hi fun a d es n z e hl h1 h2 rs=>er z ?_;refine rA ck hF fun c cf q_a hc=>dN (cf.fl f hc) fun f1 f2 f3=>?_;obtain rfl:=q_a;have I:=pK h1 h2;refine aZ (any_some cf.hd) fun cd hcd hdd=>set_plain t.kin I cf.sa (osa_open t.kin I cf.po f1 fun b=>?_);haveI F:=CX (hsh:=PyData.keyHash S.w.params (nm f)) (tk:=s.toks+1) f3 ry rs;haveI hl2:(putL (nm f) (PyData.keyHash S.w.params (nm f)) (.str (nm f) (s.toks+1)) u es).toArray.size<=sizeLine+1:=by
  refine er O3 (er F.length ?_);exact er sizeLine_eq (Oz (xq f y fs) (Oz hlen (by decide)))
 haveI hne:=Pf hl;haveI eput:RP (nm f) (PyData.keyHash S.w.params (nm f)) (.str (nm f) (s.toks+1)) u (dictOf es n)=dictOf (putL (nm f) (PyData.keyHash S.w.params (nm f)) (.str (nm f) (s.toks+1)) u es) (putN (nm f) es n):=putName_dict _ _ _ _ _ _;haveI g2:(s.heap.update d (RP (nm f) (PyData.keyHash S.w.params (nm f)) (.str (nm f) (s.toks+1)) u)).get? d=some (dictOf (putL (nm f) (PyData.keyHash S.w.params (nm f)) (.str (nm f) (s.toks+1)) u es) (putN (nm f) es n)):=by
  exact el eput (Ql _ h2 (by refine er eput ?_;rfl))
 have keep:∀(b) (x:Obj),s.heap.get? b=some x->b≠d->(s.heap.update d (RP (nm f) (PyData.keyHash S.w.params (nm f)) (.str (nm f) (s.toks+1)) u)).get? b=some x:=fun b x q nb=>(Rv _ _ _ _ nb).trans q;haveI fin:rV S φ s Q () { s with heap:=s.heap.update d (RP (nm f) (PyData.keyHash S.w.params (nm f)) (.str (nm f) (s.toks+1)) u),toks:=s.toks+1+1 }:=bF.upd (x:=()) t e (.inst (keep _ _ h1 (Ne.symm hne)) g2 F hl) (fun b x q _ nb=>keep b x q nb) trivial q;refine wpAny_bind (wpAny_pure (wpAny_bind (wpAny_bind (wpAny_loadPart h1 (wpAny_bind (Looks.here (looks_clsIn t.kin hcd) ?_))))));refine er hdd ?_;refine wpAny_pure (wpAny_bind (wpAny_pure (wpAny_bind ?_)));refine wpAny_bind (wpAny_bind (wpAny_askSetting (wpAny_pure (wpAny_bind (wpAny_mkText (wpAny_bind (wpAny_loadPart h2 ?_)))))));dsimp only;rewrite [aRefKeyMayBeTheName_at];haveI nr:((!es.toArray.any (·.key.isStr (nm f)))&&es.toArray.any (·.refKey))=false:=by
  haveI:es.toArray.any (·.refKey)=false:=by
   refine el Array.any_toList ?_;refine Sv.mpr ?_;intro e0 he0;refine mO (rs.keys e0 he0) fun x0 t0 hx0=>?_;unfold DictEntry.refKey;exact er hx0 Qi
  refine er this ?_;rw [SU]
 refine er nr ?_;refine wpAny_updatePart h2 ?_;refine wpAny_bind (wpAny_lookBehind g2 (pastItsLine_dict hl2) ?_);exact wpAny_pure fin
def GM(S:be)(x:V)(m:Nat)(H:List O)(fv:Value):Prop:=∀ {A:Around} {φ:Fp} {s:Shared} {v:Value} {pl:Sem Bool} {Q:Value×List Value->Shared->Prop},St S φ H s->VR φ x v->Q (fv,[v]) s->wpAny S.M A (getMethod v (nm m) pl) Q FF s
theorem GM.fn(ck:i4 S.K=true){m:Nat}(hi:H[i]? = some (.inst C fs))(h1:fs.lookup m=none)(h2:jw C m=some f):GM S (.obj i) m H (.ref f)/\keepIn S.K (.ref f)=true:=by
 refine jF fun _ kK=>Ah ck h2 fun c cf q_a hc=>?_;obtain rfl:=q_a;refine sn (cf.mt _ hc) fun f1 f2 f4 f3=>kK (fun t r q=>?_) f4;refine t.inst r hi fun a d es n z e hl g1 g2 rs=>?_;subst z;refine method_fn t.kin (pK g1 g2) (plainGet_of cf.pg).1 (plainGet_of cf.pg).2 f1 (beq_iff_eq.mp f2) ?_ q;refine(?_:(lookIn (nm m) (dictOf es n)).map _=_);rewrite [lookIn_dict];refine er ((um f3 rs).2 h1) ?_;rfl
theorem GM.app{xs:List V}(hi:H[i]? = some (.list xs)):GM S (.obj i) 67 H (.builtin "list.append"):=fun t r q=>by
 refine t.one r hi fS fun a x z e g ox=>eu ox fun vs n q_a _=>?_;subst z;obtain rfl:=q_a;refine er G7 ?_;exact getMethod_builtin (bN _ g rfl) PySem.F.plainAttrs_list PySem.F.slot_list_append PySem.F.type_list_append (fun b hb=>by exact el (Value.ref.inj hb) (bN _ g rfl)) q
theorem GM.bapp{bs:Array UInt8}(hi:H[i]? = some (.barr bs)):GM S (.obj i) 67 H (.builtin "bytearray.append"):=fun t r q=>by
 refine t.one r hi fS fun a x z e g ox=>?_;obtain rfl:=ox;subst z;refine er G7 ?_;exact getMethod_builtin (bN _ g rfl) Ae ew lf (fun b hb=>by exact el (Value.ref.inj hb) (bN _ g rfl)) q
theorem GM.add{ks:List Int}(hi:H[i]? = some (.set ks)):GM S (.obj i) 69 H (.builtin "set.add"):=fun t r q=>by
 refine t.one r hi fS fun a x z e g ox=>?_;subst z;refine aZ ox fun n hs _=>DO (hs S.prog S.w) fun es ep tt z=>er MH ?_;exact getMethod_set_add (wG _ es ep tt g z) q
theorem GM.get{es:List (Int×V)}(hi:H[i]? = some (.dict es)):GM S (.obj i) 39 H (.builtin "dict.get"):=fun t r q=>by
 refine t.one r hi fS fun a x z e g ox=>?_;subst z;refine aZ ox fun kvs hd _=>eu (hd S.prog S.w) fun es ep g1 _=>er MJ ?_;exact getMethod_builtin (bN _ g g1.1) PySem.F.plainAttrs_dict PySem.F.slot_dict_get PySem.F.type_dict_get (fun b hb=>by exact el (Value.ref.inj hb) (bN _ g g1.2.1)) q
theorem GM.bitlen{a:Int}:GM S (.int a) 68 H (.builtin "int.bit_length"):=fun _ r q=>by
 refine b7 r fun t q_a=>?_;obtain rfl:=q_a;exact er MI (getMethod_builtin (name:=F7 "bit_length") (typeIs_int _ _ _) PySem.F.plainAttrs_int PySem.F.slot_int_bit_length PySem.F.type_int_bit_length (fun b hb=>Value.noConfusion hb) q)
end
end
mutual #where
def small(a:Int):Prop:=-(2^62)<a/\a<2^62
theorem mR{a:Int}(h:small a):Builtin.Int.intBits a<=64:=intBits_le_64 (L9 h.1) (Mi h.2)
theorem ki{a b:Int}(h:small b):RG a b=false:=by
 unfold RG;haveI hb:b.natAbs.log2<63:=by
  by_cases h0:b.natAbs=0
  ·refine er h0 ?_;decide
  ·refine(QG h0).mpr ?_;haveI h1:=h.1;haveI h2:=h.2;exact JO h2 h1
 haveI:¬((if (b == 0)=true then 0 else b.natAbs.log2 / 30+1)>300):=by
  split<;>lia
 simp only [decide_eq_false this,Bool.false_and]
def L1(S:be)(f:Value->Sem Value)(x:V)(H:List O)(z:V)(H':List O):Prop:=
 ∀ {A:Around} {φ:Fp} {s:Shared} {v:Value} {Q:V->List O->Prop},A.handled=none->A.units+1<cLine->St S φ H s->VR φ x v->Q z H'->wpAny S.M A (f v) (bR S φ s Q) FF s
def L2(S:be)(f:Value->Value->Sem Value)(x y:V)(H:List O)(z:V)(H':List O):Prop:=
 ∀ {A:Around} {φ:Fp} {s:Shared} {v u:Value} {Q:V->List O->Prop},A.handled=none->A.units+1<cLine->St S φ H s->VR φ x v->VR φ y u->Q z H'->wpAny S.M A (f v u) (bR S φ s Q) FF s
end
section
mutual #where
variable {S:be} {A:Around} {φ:Fp} {H:List O} {s:Shared} {i j:Nat} {v u:Value} {x y:V} {xs ys:List V} {a b c:Int}
theorem kj{Q:V->List O->Prop}{tk tk':Nat}(t:St S φ H s)(q:Q (.int a) H):bR S φ s Q (.int a tk) { s with toks:=tk' }:=bF.tk t tk' (.int _ _) q
theorem xK(h:0<=b/\b<=1000/\small a):(Builtin.Int.intBits a:Int)*b<=2^27:=by
 haveI e:=P8.mpr (mR h.2.2);exact Pt (Int.mul_le_mul_of_nonneg_right e h.1) (Pt (Int.mul_le_mul_of_nonneg_left h.2.1 (by decide)) (by decide))
theorem L2.int{f:Value->Value->Sem Value}(h:∀ {A s ta tb} {Q:Value->Shared->Prop},(∀tk tk',Q (.int c tk) { s with toks:=tk' })->wpAny S.M A (f (.int a ta) (.int b tb)) Q FF s):L2 S f (.int a) (.int b) H (.int c) H:=
 fun _ _ t r r' q=>r.elim fun _ z=>r'.elim fun _ z'=>z▸z'▸h fun _ _=>kj t q
theorem L2.add:L2 S (binaryOp .Add) (.int a) (.int b) H (.int (a+b)) H:=L2.int fun q=>add_int (q _ _)
theorem L2.sub:L2 S (binaryOp .Sub) (.int a) (.int b) H (.int (a - b)) H:=L2.int fun q=>sub_int (q _ _)
theorem L2.mul(h:small b):L2 S (binaryOp .Mult) (.int a) (.int b) H (.int (a*b)) H:=L2.int fun q=>mul_int (q _ _) (IntMulOk.of_right (mR h))
theorem L2.fdiv(h:b≠0/\small b):L2 S (binaryOp .FloorDiv) (.int a) (.int b) H (.int (a.fdiv b)) H:=L2.int fun q=>floordiv_int h.1 (q _ _) (.inl (ki h.2))
theorem L2.mod(h:b≠0):L2 S (binaryOp .Mod) (.int a) (.int b) H (.int (a.fmod b)) H:=L2.int fun q=>mod_int' h (q _ _)
theorem L2.pow(h:0<=b/\b<=1000/\small a):L2 S (binaryOp .Pow) (.int a) (.int b) H (.int (a^b.toNat)) H:=L2.int fun q=>pow_int h.1 (xK h) (q _ _)
theorem L2.shl(h:0<=b/\b<=1000/\small a):L2 S (binaryOp .LShift) (.int a) (.int b) H (.int (a*2^b.toNat)) H:=L2.int fun q=>lshift_int_small h.1 (Md h.2.1) (by haveI h1:=h.2.2.1;haveI h2:=h.2.2.2;lia) (q _ _)
theorem L2.shr(h:0<=b):L2 S (binaryOp .RShift) (.int a) (.int b) H (.int (a.fdiv (2^b.toNat))) H:=L2.int fun q=>rshift_int h (q _ _)
theorem L2.band:L2 S (binaryOp .BitAnd) (.int a) (.int b) H (.int (PD a b)) H:=L2.int fun q=>and_int (q _ _)
theorem L2.bor:L2 S (binaryOp .BitOr) (.int a) (.int b) H (.int (Qj a b)) H:=L2.int fun q=>or_int (q _ _)
theorem mU(x:Value):∀n:Nat,(OM n #[x]).foldl (fun a b=>a++b) (#[]:Array Value)=(OM n x).toArray:=by
 haveI key:∀(n) (a:Array Value),(OM n #[x]).foldl (fun a b=>a++b) a=a++(OM n x).toArray:=by
  intro n;induction n with
  | zero=>intro a;exact(Rw).symm
  | succ n ih=>
   intro a;refine er Rt (er List.foldl_cons ?_);rewrite [ih];exact er Rt (Array.toList_inj.mp (by simp))
 intro n;rewrite [key];refine er Array.empty_append ?_;rfl
theorem L2.rep(hi:H[i]? = some (.list [x]))(hl:0<=a/\a<=100000):L2 S (binaryOp .Mult) (.obj i) (.int a) H (.obj H.length) (H++[.list (OM a.toNat x)]):=fun _ _ t rx ry q=>by
 refine b7 ry fun tb q_a=>t.one rx hi fS fun l o z e ho ox=>er z ?_;refine er q_a ?_;refine eu ox fun vs n q_a rs=>fQ rs.inv fun w k' q_a r1 r2=>?_;obtain rfl:=r2.nil_inv;obtain rfl:=q_a;obtain rfl:=q_a;have hk:=Ri.mpr hl.2;refine wpAny_binaryOp_repeat_ref (by decide) ⟨_,ho,rfl⟩ (fun s'=>typeIs_int s' a tb) noFill_list_mul PySem.F.fills_int_mul PySem.F.slot_int_rmul repeat_list PySem.F.slot_int_index.lookup
  (call_meets PySem.F.slot_int_rmul (typeIs_int _ a tb) PySem.F.entry_int_rmul (PySem.F.args_int_rmul_2 _ _) (int___rmul___int_list a tb _ _ n)
   (oK ho rfl ⟨_,ho,rfl⟩ (call_meets PySem.F.slot_list_mul ⟨_,ho,rfl⟩ PySem.F.entry_list_mul (PySem.F.args_list_mul_2 _ _)
    (AutoListH.list___mul___list_int_3 _ _ n a tb (by simp [Builtin.List.listFitsIndex];lia) (by refine er (show(#[_]:Array Value).size=1 from rfl) ?_;lia) (by simp [Builtin.List.listTooLong,sizeLine];lia))
    ⟨ho,?_⟩)))
 rw [mU];exact er (if_neg (by simp)) (iM t (d8.replicate r1 _) q)
theorem L2.cat(hi:H[i]? = some (.list xs))(hj:H[j]? = some (.list ys))(hl:xs.length+ys.length<=100000):L2 S (binaryOp .Add) (.obj i) (.obj j) H (.obj H.length) (H++[.list (xs++ys)]):=fun _ _ t rx ry q=>by
 refine t.one rx hi fS fun l o z e ho ox=>t.one ry hj fS fun l' o' z' e' ho' ox'=>?_;subst z z';refine eu ox fun vs n q_a rs=>?_;obtain rfl:=q_a;refine eu ox' fun us m q_a rs'=>?_;obtain rfl:=q_a;refine concat_meets (bN _ ho rfl) (bN _ ho' rfl) noFill_list_add seq_list_add PySem.F.slot_list_add PySem.F.entry_list_add (PySem.F.args_list_add_2 _ _) (list_addW _ _ vs.toArray us.toArray n m none none #[] #[] (by refine er sizeLine_eq (er O3 ?_);refine er O3 (er rs.length ?_);exact er rs'.length (KZ hl))) (bT ho ho' ?_);rw [List.append_toArray];exact iM t (rs.append rs') q
theorem L1.neg:L1 S (unaryOp .USub) (.int a) H (.int (-a)) H:=fun _ _ t r q=>r.elim fun _ z=>z▸neg_int (kj t q)
def mW:List Str:=[F7 "progressive",F7 "arith progressive"]
def zj(h:Heap):Prop:=∃items,IsTup h 892 items/\StrsAre items.toList mW
def CM(S:be)(op:CmpOp)(x y:V)(H:List O)(r:Bool):Prop:=
 ∀ {A:Around} {φ:Fp} {s:Shared} {v u:Value} {Q:V->List O->Prop},zj S.h₀->A.units+1<cLine->St S φ H s->VR φ x v->VR φ y u->Q (.bool r) H->wpAny S.M A (compareOp op v u) (bR S φ s Q) FF s
def dW:List V->Option (List Int)
 | []=>some []
 | .int i::r=>(dW r).map (i::·)
 | _=>none
theorem CM.int{op:CmpOp}{r:Bool}(h:∀ {A s ta tb} {Q:Value->Shared->Prop},Q (.bool r) s->wpAny S.M A (compareOp op (.int a ta) (.int b tb)) Q FF s):CM S op (.int a) (.int b) H r:=
 fun _ _ t r r' q=>r.elim fun _ z=>r'.elim fun _ z'=>z▸z'▸h (bF.now t (.bool _) q)
theorem bO:CM S .Eq (.int a) (.int b) H (decide (a=b)):=CM.int fun q=>eq_int q
theorem eV:CM S .NotEq (.int a) (.int b) H (!decide (a=b)):=CM.int fun q=>ne_int q
theorem iF:CM S .Lt (.int a) (.int b) H (decide (a<b)):=CM.int fun q=>lt_int q
theorem eX:CM S .LtE (.int a) (.int b) H (decide (a<=b)):=CM.int fun q=>le_int q
theorem bt:CM S .Gt (.int a) (.int b) H (decide (b<a)):=CM.int fun q=>gt_int q
theorem v5:CM S .GtE (.int a) (.int b) H (decide (b<=a)):=CM.int fun q=>ge_int q
theorem AJ{p q:Str}:CM S .Eq (.str p) (.str q) H (decide (p=q)):=fun _ _ t r r' q=>r.elim fun _ z=>r'.elim fun _ z'=>z▸z'▸eq_str (bF.now t (.bool _) q)
theorem M0{p:Str}:CM S .In (.str p) (.top 892) H (mW.any fun x=>x == p):=fun pr _ t r r' q=>by
 refine b7 r fun ta q_a=>er r' ?_;refine er q_a ?_;refine aZ pr fun items q_a h3=>aZ q_a fun o h1 h2=>in_tuple_strs (bN o (t.base _ _ h1) h2) h3 (bF.now t (.bool _) q)
theorem HB:CM S .Is (.obj i) .none H false:=fun _ _ t r r' q=>by
 refine aZ r fun p _ q_a=>er r' ?_;exact er q_a (is_none (bF.now t (.bool _) q))
theorem M1:CM S .Is .none .none H true:=fun _ _ t r r' q=>by
 refine er r (er r' ?_);exact is_none (bF.now t (.bool _) q)
theorem MZ{ks:List Int}(hi:H[i]? = some (.set ks)):CM S .In (.int a) (.obj i) H (ks.contains a):=fun _ _ t r r' q=>by
 refine b7 r fun ta q_a=>t.one r' hi fS fun l o z e ho ox=>er z ?_;refine er q_a ?_;refine aZ ox fun n hs _=>DO (hs S.prog S.w) fun es ep tt z=>wpAny_inSet_of (by simp [intKind,Value.isInt]) rfl (wG _ es ep tt ho z) (bF.tk t _ (.bool _) q)
theorem jS{vs:List Value}(r:d8 φ xs vs):∀ {is:List Int},dW xs=some is->∃ps:List (Int×Tok),vs=ps.map (fun p=>.int p.1 p.2)/\ps.map (·.1)=is:=by
 induction r with
 | nil=>exact fun h=>bN [] rfl (Option.some.inj h)
 | @cons x v xs vs r rs ih=>
  intro is h;cases x with
  | int i=>
   refine aZ (Q2.mp (h:(dW xs).map (i::·)=some is)) fun is' h' q_a=>el q_a ?_;refine aZ (ih h') fun ps q_a q_b=>er q_a ?_;refine el q_b ?_;refine b7 r fun t q_a=>er q_a ?_;exact bN ((i,t)::ps) rfl rfl
  | _=>exact aJ h
theorem m9{vs:List Value}{is:List Int}(rs:d8 φ xs vs)(h:dW xs=some is){kP:Prop}(kK:∀(ps:Array (Int×Tok)),vs.toArray=intItems ps->ps.toList.map (·.1)=is->kP):kP:=by
 refine aZ (jS rs h) fun ps q_a e=>?_;obtain rfl:=q_a;exact kK ps.toArray (by simp [intItems]) e
theorem Dp{is js:List Int}(l:is.length=js.length):((OT is.length).all fun j=>is[j]? == js[j]?)=decide (is=js):=by
 rewrite [Bool.eq_iff_iff,O6];refine er (propext decide_eq_true_iff) ?_;constructor
 ·intro h;apply Su;intro i;by_cases q:i<is.length
  ·exact beq_iff_eq.mp (h i (QQ.mpr q))
  ·refine er (Pp (DI q)) (er (Pp (by lia)) ?_);rfl
 ·rintro rfl j _;simp
theorem De{is js:List Int}(hi:H[i]? = some (.list xs))(hj:H[j]? = some (.list ys))(h1:dW xs=some is)(h2:dW ys=some js)(hl:xs.length=ys.length):CM S .NotEq (.obj i) (.obj j) H (!decide (is=js)):=fun _ un t rx ry q=>by
 refine t.one rx hi fS fun l o z e ho ox=>t.one ry hj fS fun l' o' z' e' ho' ox'=>?_;subst z z';refine eu ox fun vs n q_a rs=>?_;obtain rfl:=q_a;refine eu ox' fun us m q_a rs'=>?_;obtain rfl:=q_a;replace hl:=rs'.length▸(rs.length▸hl);refine aZ (jS rs h1) fun ps q_a q_b=>?_;obtain rfl:=q_b;refine aZ (jS rs' h2) fun qs q_a q_b=>?_;obtain rfl:=q_a;obtain rfl:=q_b;obtain rfl:=q_a;refine(?_:wpAny _ _ (richCompare .NotEq (.ref l) (.ref l')) _ _ _);refine wpAny_richCompare_same_room ⟨_,ho,rfl⟩ (bN _ ho' rfl) PySem.F.slot_list_ne (call_meets PySem.F.slot_list_ne ⟨_,ho,rfl⟩ PySem.F.entry_list_ne (PySem.F.args_list_ne_2 _ _)
  (SeqAt.list_neAt l l' _ _ n m none none #[] #[] (by assumption) fun j=>(ps.map (·.1))[j]? == (qs.map (·.1))[j]?) (oK ho ho' (fun j h1 h2=>?_) ?_)) (Sw un)
 ·intro prog w E' Q' hq;rw [O3,OJ] at h1 h2;rw [Sg,Sg,Sy,Sy];refine wpAny_eqBool_int ?_;rw [O5,O5,OD h1,OD h2] at hq;exact hq
 ·haveI e1:((ps.map fun p=>Value.int p.1 p.2).toArray).size=(ps.map (·.1)).length:=by refine er O3 ?_;rw [OJ,OJ]
  refine er e1 ?_;exact er (Dp (by simpa using hl)) ⟨(fun z=>Value.noConfusion z),bF.now t (.bool _) q⟩
theorem HA(hi:H[i]? = some (.list xs))(hj:H[j]? = some (.list ys))(hl:xs.length≠ys.length):CM S .NotEq (.obj i) (.obj j) H true:=fun _ un t rx ry q=>by
 refine t.one rx hi fS fun l o z e ho ox=>t.one ry hj fS fun l' o' z' e' ho' ox'=>?_;subst z z';refine eu ox fun vs n q_a rs=>?_;obtain rfl:=q_a;refine eu ox' fun us m q_a rs'=>?_;obtain rfl:=q_a;rw [← rs.length,← rs'.length] at hl
 refine(?_:wpAny _ _ (richCompare .NotEq (.ref l) (.ref l')) _ _ _);exact wpAny_richCompare_same_room ⟨_,ho,rfl⟩ (bN _ ho' rfl) PySem.F.slot_list_ne (call_meets PySem.F.slot_list_ne ⟨_,ho,rfl⟩ PySem.F.entry_list_ne (PySem.F.args_list_ne_2 _ _)
  (SeqAt.list_ne_lengthsAt l l' vs.toArray us.toArray n m none none #[] #[] (by simpa using hl)) (oK ho ho' (fun z=>Value.noConfusion z) (bF.now t (.bool _) q))) (Sw un)
end
end
mutual #where
def lg(es:List (Nat×(Int×Int)×V))(k:Int×Int):Option V:=(es.find? fun e=>decide (e.2.1=k)).map (·.2.2)
def lr(H:List O)(es:List (Nat×(Int×Int)×V)):Prop:=∀e∈es,H[e.1]? = some (.tuple [.int e.2.1.1,.int e.2.1.2])
theorem m5{k:Int}{n:Nat}(h0:0<=k)(h:k.toNat<n):k<(n:Int):=by lia
theorem GO{φ:Fp}{k:Int×Int}{y:V}{es:List (Nat×(Int×Int)×V)}{xs:List (List Int×Addr×Value)}(r:F2 (TD φ) es xs):lg es k=some y->∃p:Addr×Value,atKey xs [k.1,k.2]=some p/\VR φ y p.2:=by
 induction r with
 | nil=>exact aJ
 | @cons e x es xs a r ih=>
  unfold lg atKey at ih⊢;refine er Qw ?_;refine er Qw (er a.1 ?_);by_cases q:e.2.1=k
  ·refine er q (er (decide_eq_true rfl) ?_);exact er (decide_eq_true rfl) (fun h=>bN x.2 rfl (Option.some.inj h▸a.2.2))
  ·refine er (decide_eq_false q) ?_;exact er (decide_eq_false fun z=>q (SV (List.cons.inj z).1 (List.cons.inj (List.cons.inj z).2).1)) ih
end
section
mutual #where
variable {S:be} {A:Around} {φ:Fp} {H:List O} {s:Shared} {i j:Nat} {v u:Value} {x y:V} {xs ys:List V} {a b c k:Int} {Q:V->List O->Prop}
theorem j8{vs:List Value}{p q:Int}(r:d8 φ [.int p,.int q] vs){kP:Prop}(kK:∀t1 t2,vs=[.int p t1,.int q t2]->kP):kP:=by
 refine fQ (F2.inv r) fun _ _ q_a q_b r2=>b7 q_b fun t1 q_c=>fQ r2.inv fun _ _ q_a q_b r3=>?_;obtain rfl:=r3.nil_inv;refine b7 q_b fun t2 q_c=>?_;obtain rfl:=q_c;obtain rfl:=q_a;obtain rfl:=q_c;obtain rfl:=q_a;exact kK t1 t2 rfl
theorem su{prog:Program}{w:World}{d:Nat}{p q:Int}(t:St S φ H s){b:Nat}{c:Nat}(e:φ[b]? = some (d,c))(h:H[b]? = some (.tuple [.int p,.int q])):IsTupleKey (intKind prog w) s.heap [p,q] d:=by
 refine ba (OR.get (o:=.tuple [.int p,.int q]) fS (t.rel.at_ _ _ _ h e)) fun _ q_a=>aZ q_a fun x ho q_b=>eu q_b fun vs n q_c rs=>j8 rs fun t1 t2 q_a=>?_;obtain rfl:=q_a;obtain rfl:=q_c;exact GE _ _ _ ho rfl rfl (.cons (by simp [intKind,Value.isInt]) (.cons (by simp [intKind,Value.isInt]) .nil))
def LI(S:be)(x y:V)(H:List O)(z:V):Prop:=∀ {A:Around} {φ:Fp} {s:Shared} {v u:Value} {Q:V->List O->Prop} {value slice:Expr},A.units+1<cLine->subscripted slice false v u=operate [v,u] (getItem v u)->St S φ H s->VR φ x v->VR φ y u->Q z H->
 wpAny S.M A (subscriptTail value slice v u) (bR S φ s Q) FF s
theorem LI.list(hi:H[i]? = some (.list xs))(h0:0<=k/\k<2^62)(hx:xs[k.toNat]? = some y):LI S (.obj i) (.int k) H y:=fun _ hs t rx ry q=>by
 refine b7 ry fun tk q_a=>?_;obtain rfl:=q_a;refine t.one rx hi fS fun l o z e ho ox=>?_;subst z;refine eu ox fun vs n q_a rs=>?_;obtain rfl:=q_a;refine aZ (rs.get hx) fun z' g1 g2=>tail_any (bN _ ho rfl) PySem.F.slot_list_getitem.lookup (wpAny_getItem_list ⟨_,ho,rfl,_,rfl⟩ h0.1 (Nl h0.2) (by simpa using g1) (bF.now t g2 q)) hs
theorem LI.tuple(hi:H[i]? = some (.tuple xs))(h0:0<=k/\k<2^62)(hx:xs[k.toNat]? = some y):LI S (.obj i) (.int k) H y:=fun _ hs t rx ry q=>by
 refine b7 ry fun tk q_a=>?_;obtain rfl:=q_a;refine t.one rx hi fS fun l o z e ho ox=>?_;subst z;refine eu ox fun vs n q_a rs=>?_;obtain rfl:=q_a;refine aZ (rs.get hx) fun z' g1 g2=>?_;haveI sq:seqIndex? k vs.toArray.size=some k.toNat:=by
  unfold seqIndex?;refine er (if_neg (Rk.mpr h0.1)) ?_;haveI:k<(vs.toArray.size):=m5 h0.1 (OH.mp g1).1;exact if_pos (by refine er (decide_eq_true h0.1) (er (decide_eq_true this) ?_);rfl)
 exact tail_any (bN _ ho rfl) PySem.F.slot_tuple_getitem.lookup (getItem_tuple ⟨_,ho,rfl,_,rfl⟩ (by haveI:=h0.1;omega) (Nl h0.2) sq (by simpa using g1) (bF.now t g2 q)) hs
theorem LI.bytes{bs:Array UInt8}{w:UInt8}(h0:0<=k/\bs.size<=100000)(hx:bs[k.toNat]? = some w):LI S (.bytes bs) (.int k) H (.int (w.toNat:Nat)):=fun _ hs t rx ry q=>by
 refine b7 ry fun tk q_a=>?_;obtain rfl:=q_a;obtain⟨hlt,_⟩:=Array.getElem?_eq_some_iff.mp hx;obtain⟨l⟩:=bs;refine b7 rx fun tb q_a=>?_;obtain rfl:=q_a;haveI e2:l.getD k.toNat 0=w:=by
  refine er OG (er (by simpa using hx:l[k.toNat]? = some w) ?_);rfl
 refine tail_any (by rfl) PySem.W.FB.slot_bytes_getitem.lookup (getItem_bytes (Oz h0.2 (by decide)) h0.1 (m5 h0.1 hlt) ?_) hs;exact er e2 (bF.tk t _ (.int _ _) q)
theorem LI.tdict{es:List (Nat×(Int×Int)×V)}{p q:Int}(hi:H[i]? = some (.tdict es))(hj:H[j]? = some (.tuple [.int p,.int q]))(hk:lr H es)(hx:lg es (p,q)=some y):LI S (.obj i) (.obj j) H y:=@fun A φ s v u Q value slice un hs t rx ry q=>by
 refine t.one rx hi fS fun l o z e ho ox=>?_;subst z;obtain⟨xs,ds,n,h2,h3,h4,h5,h6⟩:=ox;refine aZ (GO h6 hx) fun pr f1 f2=>aZ ry fun p_10 e2 r_11=>?_;obtain⟨qa,qc⟩:=p_10;obtain rfl:=r_11;haveI all:∀x∈xs,IsTupleKey (intKind S.prog S.w) s.heap x.1 x.2.1:=by
  clear h4 h5 f1 f2 hx hi h3;induction h6 with
  | nil=>exact fun _ h=>(Qe h).elim
  | cons a _ ih=>
   intro x hx;rcases OY.mp hx with rfl | hx
   ·refine dN a fun a1 p_12 _=>b7 p_12 fun c a2=>er a1 ?_;exact su t a2 (hk _ (.head _))
   ·exact ih (fun e he=>hk e (.tail _ he)) x hx
 haveI D:s.heap.DictOfH (tupleKind (intKind S.prog S.w)) _ _:=Nt _ _ _ ho h2 h3 (h4 _ _) all h5;exact tail_any D.typeIs PySem.F.slot_dict_getitem.lookup (wpAny_getItem_heap (knd:=tupleKind (intKind S.prog S.w)) (un) (su t e2 hj) D f1 (bF.tk t _ f2 q)) hs
def sO(k:Int)(y:V)(es:List (Int×V)):List (Int×V):=
 if (es.any fun kv=>decide (kv.1=k))=true then es.map fun kv=>if kv.1=k then (kv.1,y) else kv else es++[(k,y)]
theorem qI{φ:Fp}{u:Value}(ry:VR φ y u){es:List (Int×V)}{kvs:List (Int×Value)}(r:F2 (KV φ) es kvs):F2 (KV φ) (sO k y es) (stored kvs k u):=by
 unfold sO stored;haveI e1:(es.any fun kv=>decide (kv.1=k))=kvs.any fun kv=>decide (kv.1=k):=by
  induction r with
  | nil=>rfl
  | cons a _ ih=>refine er R3 (er R3 ?_);refine er ih (er a.1 ?_);rfl
 refine er e1 ?_;split
 ·clear e1;rename_i h;clear h;induction r with
  | nil=>exact .nil
  | @cons p q _ _ a _ ih=>
   refine .cons ?_ ih;dsimp only;refine er a.1 ?_;by_cases z:q.1=k
   ·refine er (if_pos z) ?_;exact er (if_pos z) ⟨rfl,ry⟩
   ·refine er (if_neg z) ?_;exact er (if_neg z) a
 ·clear e1;rename_i h;clear h;induction r with
  | nil=>exact .cons ⟨rfl,ry⟩ .nil
  | cons a _ ih=>exact .cons a ih
theorem oh{l:Nat}{vs:List Value}{n:Nat}{k:Int}{tk:Tok}{v:Value}{E:Value->Shared->Prop}{Q:Unit->Shared->Prop}(ho:s.heap.get? l=some ⟨.type "list",none,.seq vs.toArray n,#[]⟩)
  (h0:0<=k) (hfit:k<2^63) (hn:k<vs.length)
  (hQ:∀h',h'.get? l=some ⟨.type "list",none,.seq (vs.set k.toNat v).toArray n,#[]⟩->RE l s.heap h'->Q () { s with heap:=h' }) :
  wpAny S.M A (setItem (.ref l) (.int k tk) v) Q E s:=by
 unfold setItem;haveI hT:s.TypeIs (.ref l) "list":=bN _ ho rfl
 try with_reducible refine wpAny_holding ?_
 first | refine wpAny_bind (wpAny_pure ?_) | skip
 refine wpAny_bind (wpAny_sequenceKey hT (by decide) ?_);refine wpAny_bind (wpAny_callSpecial?_slot hT PySem.slot_list_setitem
  (wpAny_call_entry PySem.slot_list_setitem hT PySem.entry_list_setitem ?_ (PySem.args_list_setitem _ _ _)))
 refine(?_:wpAny _ _ (Builtin.List.listSubscript? (.int k tk) >>= _) _ _ s);refine wpAny_bind (wpAny_listSubscript_int (fitsIndex_of h0 hfit) ?_);clear hfit;refine b7 (PI h0) fun j q_a=>?_;obtain rfl:=q_a;haveI hj:=ES hn;haveI hx':vs.toArray[j]? = some vs[j]:=by simp [hj]
 refine wpAny_bind (wpAny_bind (wpAny_seqItemAt ho rfl (wpAny_pure ?_)));refine er hx' ?_;haveI fin:(s.heap.update l (Obj.mapSeq (·.setIfInBounds j v))).get? l=some ⟨.type "list",none,.seq (vs.set (Int.toNat (j:Int)) v).toArray n,#[]⟩:=by
  refine er (Ql _ ho rfl) ?_;simp [Obj.mapSeq]
 refine wpAny_bind (wpAny_setSeqItemAt ho rfl ?_);first
  | exact wpAny_bind (wpAny_pure (wpAny_pure (bT .none rfl (wpAny_pure (hQ _ fin (Heap.SameBut.update ..))))))
  | exact wpAny_pure (bN .none rfl (wpAny_pure (hQ _ fin (Heap.SameBut.update ..))))
theorem pJ{p p':Program}{w w':World}{o:Obj}{kvs:List (Int×Value)}(h:o.IsDictOf (intKind p w) kvs):o.IsDictOf (intKind p' w') kvs:=by
 obtain⟨es,ep,h1,h2,h3,h4,h5⟩:=h;refine zJ es ep h1 h2 (fun e he=>h3 e he) ?_ h5;revert h4;generalize es.toList=l;intro h4;clear h3 h2 h5;induction h4 with
 | nil=>exact .nil
 | cons a b _ ih=>exact .cons a b ih
theorem xi{Q:List O->Prop}(t:St S φ H s)(rx:VR φ (.obj i) v)(ri:VR φ (.int k) u){w:Value}(ry:VR φ y w)(hi:H[i]? = some (.list xs))(hl:0<=k/\k<xs.length/\xs.length<=100000)(q:Q (H.set i (.list (xs.set k.toNat y)))):wpAny S.M A (setItem v u w) (rV S φ s Q) FF s:=by
 refine b7 ri fun tk q_a=>t.one rx hi fS fun l o z e ho ox=>er z ?_;refine er q_a ?_;refine eu ox fun vs n q_a rs=>?_;obtain rfl:=q_a;haveI l:=rs.length;exact oh ho hl.1 (L4 hl.2.1 hl.2.2) (L0 hl.2.1 l) fun h' hl hb=>bF.same (o:=.list (xs.set k.toNat y)) (x:=()) t e fS hl (sf _ _ rfl (rs.set ry _)) hb trivial q
theorem xj{Q:List O->Prop}{es:List (Int×V)}(t:St S φ H s)(rx:VR φ (.obj i) v)(ri:VR φ (.int k) u){w:Value}(ry:VR φ y w)(hi:H[i]? = some (.dict es))(hl:es.length<=1000)(q:Q (H.set i (.dict (sO k y es)))):wpAny S.M A (setItem v u w) (rV S φ s Q) FF s:=by
 refine b7 ri fun tk q_a=>t.one rx hi fS fun l o z e ho ox=>er z ?_;refine er q_a ?_;refine aZ ox fun kvs hd rs=>mO (hd S.prog S.w) fun es' ep d=>wpAny_setItem_pairs (k:=k) (by simp [intKind,Value.isInt]) (qe o es' ep ho d) (fun h' hm hb=>?_) (by refine er sizeLine_eq ?_;exact er (F2.length rs) (LE hl));refine fP hm fun o' es' ep' f1 f2=>bF.same (o:=.dict (sO k y es)) (x:=()) t e fS f1 (bN _ (fun prog w=>pJ (IC es' ep' f2)) (qI ry rs)) hb trivial q
theorem za(t:St S φ H s)(rx:VR φ (.obj i) v)(ry:VR φ y u)(hi:H[i]? = some (.list xs))(hl:xs.length<=100000)(q:Q .none (H.set i (.list (xs++[y])))):wpAny S.M A (call (.builtin "list.append") [v,u]) (bR S φ s Q) FF s:=by
 refine t.one rx hi fS fun l o z e ho ox=>er z ?_;refine eu ox fun vs n q_a rs=>?_;obtain rfl:=q_a;refine wpAny_list_append_plain ⟨n,ho⟩ (fun h' hp hs=>?_) (by refine er sizeLine_eq (er O3 ?_);exact er rs.length (Iu hl));refine b7 hp fun n' ho'=>?_;rw [List.push_toArray] at ho';exact bF.same (o:=.list (xs++[y])) t e fS ho' (sf _ _ rfl (rs.append (.cons ry .nil))) hs .none q
theorem wd(t:St S φ H s)(r:VR φ (.int a) v)(q:Q (.int (Builtin.Int.intBits a:Nat)) H):wpAny S.M A (call (.builtin "int.bit_length") [v]) (bR S φ s Q) FF s:=r.elim fun ta z=>z▸
 call_gives PySem.F.slot_int_bit_length (typeIs_int _ _ _) PySem.F.entry_int_bit_length (PySem.F.args_int_bit_length_1 _) (PySem.AutoIntG2.int_bit_length_int_0 a ta) (kj t q)
theorem Dq{ks:List Int}(t:St S φ H s)(rx:VR φ (.obj i) v)(ry:VR φ (.int k) u)(hi:H[i]? = some (.set ks))(hl:ks.length<=100)(q:Q .none (H.set i (.set (ks++[k])))):wpAny S.M A (call (.builtin "set.add") [v,u]) (bR S φ s Q) FF s:=by
 refine b7 ry fun tk q_a=>t.one rx hi fS fun l o z e ho ox=>?_;subst z;refine aZ ox fun nn hs hn=>er q_a ?_;refine DO (hs S.prog S.w) fun es ep tt g=>call_set_add (by simp [intKind,Value.isInt]) rfl (wG _ es ep tt ho g) (by refine(?_:nn+1<4096);lia) fun h' hb hs'=>GH hs' fun o' es' ep' tt' f0 f1 f2 f3 f4 f5=>bF.same (o:=.set (ks++[k])) t e fS f0 (bN (if ks.contains k then nn else nn+1) (fun prog w=>(Cg es' ep' tt' f1 f2 (fun e he=>f3 e he) (fun k'=>Iff.trans ?_ (f4 k')) f5)) ?_) hb .none q
 ·simp
 ·refine er OA ?_;refine(?_:_<=ks.length+1);split<;>lia
theorem vW{es:List (Int×V)}{kvs:List (Int×Value)}(r:F2 (KV φ) es kvs):∀e,(es.find? fun e=>decide (e.1=k))=some e->∃v,valueAt kvs k=some v/\VR φ e.2 v:=by
 induction r with
 | nil=>exact fun e=>aJ
 | @cons p q _ _ a _ ih=>
  unfold valueAt at ih⊢;refine er Qw ?_;refine er a.1 (er Qw ?_);by_cases c:q.1=k
  ·exact er (decide_eq_true c) (fun e h=>bN q.2 rfl (Option.some.inj h▸a.2))
  ·exact er (decide_eq_false c) ih
theorem CU{es:List (Int×V)}{ee:Int×V}(t:St S φ H s)(rx:VR φ (.obj i) v)(ry:VR φ (.int k) u)(hi:H[i]? = some (.dict es))(he:(es.find? fun e=>decide (e.1=k))=some ee)(q:Q ee.2 H):wpAny S.M A (call (.builtin "dict.get") [v,u]) (bR S φ s Q) FF s:=by
 refine b7 ry fun tk q_a=>t.one rx hi fS fun l o z e ho ox=>er z ?_;refine aZ ox fun kvs hd rs=>mO (hd S.prog S.w) fun es' ep d=>er q_a ?_;haveI ne:(l == sysModules)=false:=by
  refine aZ S.lim fun _ q_a _=>fP q_a fun oo _ _ hoo _=>beq_eq_false_iff_ne.mpr (Pg (QA (by decide) (t.rel.low _ (OC e) _ _ hoo)))
 haveI D:s.heap.DictOf (intKind S.prog S.w) l kvs:=qe o es' ep ho d;refine aZ (vW rs _ he) fun vv q1 q2=>call_meetsIn PySem.F.slot_dict_get D.mapOf.typeIs PySem.F.entry_dict_get (PySem.F.args_dict_get_2 _ _) (meets_dict_get (intKind S.prog S.w) (k:=k) l (by simp [intKind,Value.isInt]) ne) (bN _ D.mapOf ?_);exact er q1 (bF.tk t _ q2 q)
end
end
mutual #where
inductive BI where
 | len | abs | int | min | max | sum | range | list | tuple | set
def BI.val:BI->Value
 | .len=>.builtin "len"
 | .abs=>.builtin "abs"
 | .int=>.type "int"
 | .min=>.builtin "min"
 | .max=>.builtin "max"
 | .sum=>.builtin "sum"
 | .range=>.type "range"
 | .list=>.type "list"
 | .tuple=>.type "tuple"
 | .set=>.type "set"
def jg(a b c:Int):Nat:=(Builtin.Range.rangeSize a b c).toNat
def dg(a b c:Int):List V:=(OT (jg a b c)).map fun i:Nat=>.int (a+(i:Int)*c)
def LC(S:be)(f:Value)(xs:List V)(H:List O)(z:V)(H':List O):Prop:=
 ∀ {A:Around} {φ:Fp} {s:Shared} {vs:List Value} {Q:V->List O->Prop},A.handled=none->St S φ H s->d8 φ xs vs->Q z H'->wpAny S.M A (call f vs) (bR S φ s Q) FF s
end
section
mutual #where
variable {S:be} {A:Around} {φ:Fp} {H H':List O} {s:Shared} {i j:Nat} {v u f:Value} {x y z:V} {xs ys:List V} {a b c k M:Int} {is:List Int} {Q:V->List O->Prop}
theorem LC.one(h:∀ {A:Around} {φ:Fp} {s:Shared} {v:Value} {Q:V->List O->Prop},A.handled=none->St S φ H s->VR φ x v->Q z H'->wpAny S.M A (call f [v]) (bR S φ s Q) FF s):LC S f [x] H z H':=fun hh t r q=>by
 refine fQ (F2.inv r) fun v _ q_a r1 r2=>er q_a ?_;refine er r2.nil_inv ?_;exact h hh t r1 q
theorem LC.ob{o:O}(hi:H[i]? = some o)(ni:∀C fs,o≠.inst C fs)(h:∀ {A:Around} {φ:Fp} {s:Shared} {a:Nat} {x:Obj} {Q:V->List O->Prop},A.handled=none->St S φ H s->s.heap.get? a=some x->OX φ o x->Q z H'->wpAny S.M A (call f [.ref a]) (bR S φ s Q) FF s):LC S f [.obj i] H z H':=
 LC.one fun hh t r q=>t.one r hi ni fun a x z e ho ox=>z▸h hh t ho ox q
theorem LC.ls(hi:H[i]? = some (.list xs))(h:∀ {A:Around} {φ:Fp} {s:Shared} {a n:Nat} {vs:List Value} {Q:V->List O->Prop},A.handled=none->St S φ H s->s.heap.get? a=some (iK "list" vs n)->d8 φ xs vs->Q z H'->wpAny S.M A (call f [.ref a]) (bR S φ s Q) FF s):LC S f [.obj i] H z H':=
 LC.ob hi fS fun hh t ho ox q=>Exists.elim ox fun vs ox=>ox.elim fun n ox=>h hh t (ho.trans (congrArg some ox.1)) ox.2 q
theorem HP(hi:H[i]? = some (.list xs))(hl:xs.length<=100000):LC S BI.len.val [.obj i] H (.int xs.length) H:=
 LC.ls hi fun _ t ho rs q=>call_len_list ⟨_,ho,rfl,_,rfl⟩ (by refine er O3 ?_;refine er rs.length ?_;lia) (bF.tk t _ (by refine er O3 ?_;refine er rs.length ?_;exact .int _ _) q)
theorem HO(hi:H[i]? = some (.tuple xs))(hl:xs.length<=100000):LC S BI.len.val [.obj i] H (.int xs.length) H:=LC.ob hi fS fun _ t ho ox q=>by
 refine eu ox fun vs n q_a rs=>?_;obtain rfl:=q_a;exact len_tuple ⟨_,ho,rfl,_,rfl⟩ (by refine er O3 ?_;refine er rs.length ?_;lia) (bF.tk t _ (by refine er O3 ?_;refine er rs.length ?_;exact .int _ _) q)
theorem HQ{bs:Array UInt8}(hl:bs.size<=100000):LC S BI.len.val [.bytes bs] H (.int bs.size) H:=LC.one (x:=.bytes bs) fun _ t r q=>r.elim fun _ z=>z▸len_bytes (LD hl) (bF.tk t _ (.int _ _) q)
theorem M5:LC S BI.abs.val [.int a] H (.int (a.natAbs:Nat)) H:=LC.one (x:=.int a) fun _ t r q=>r.elim fun _ z=>z▸call_abs_int fun u tk=>bF.tk t _ (by
 haveI:(if a<0 then -a else a)=(a.natAbs:Int):=by split<;>lia
 refine er this ?_;exact .int _ _) q
theorem HR:LC S BI.int.val [.int a] H (.int a) H:=LC.one (x:=.int a) fun _ t r q=>r.elim fun _ z=>z▸call_int_int (bF.now t (.int _ _) q)
theorem HS{b:Bool}:LC S BI.int.val [.bool b] H (.int (if b then 1 else 0)) H:=LC.one fun _ t r q=>by
 refine er r ?_;exact call_int_bool (bF.tk t _ (.int _ _) q)
theorem HN:LC S BI.min.val [.int a,.int b] H (.int (if b<a then b else a)) H:=fun hh t r q=>by
 refine j8 r fun _ _ q_a=>er q_a ?_;refine min_two_ints hh fun h' tk k=>?_;by_cases z:b<a
 ·rw [if_pos z] at q⊢;exact bF.grow t k (.int _ _) q
 ·rw [if_neg z] at q⊢;exact bF.grow t k (.int _ _) q
theorem ji{ps:Array (Int×Tok)}{is:List Int}(e:ps.toList.map (·.1)=is){j:Nat}(h:j<is.length):numAt ps j=is[j]:=by
 unfold numAt;subst e;simp at h;simp [h]
theorem M4(hi:H[i]? = some (.list xs))(h1:dW xs=some is)(h2:M∈is)(h3:∀a∈is,a<=M):LC S BI.max.val [.obj i] H (.int M) H:=LC.ls hi fun hh t ho rs q=>by
 refine m9 rs h1 fun ps e1 q_a=>?_;obtain rfl:=q_a;haveI lp:=R6 h2;rw [OJ,Qa] at lp;refine max_intList hh ⟨_,ho,rfl,_,congrArg (Data.seq · _) e1⟩ lp fun v h' tk hv k=>b7 (intItems_at hv) fun t' q_a=>ba (argBest_gt (numAt ps) (ps.size - 1)) fun g1 g2=>bF.grow t k ?_ q;refine er q_a ?_;generalize argBest _ _=k0 at g1 g2⊢;haveI lt:k0<(ps.toList.map (·.1)).length:=by rewrite [OJ];refine er Qa ?_;exact EX g1 lp
 haveI e:numAt ps (k0)=M:=by
  refine ST ?_ ?_
  ·refine er (ji rfl lt) ?_;exact h3 _ (Qq _)
  ·obtain⟨j,hj,rfl⟩:=Qc h2;refine el (ji rfl hj) ?_;exact g2 j (by rw [OJ,Qa] at hj;exact Fg hj)
 exact e▸.int _ _
theorem M3(hi:H[i]? = some (.list xs))(h1:dW xs=some is)(h2:M∈is)(h3:∀a∈is,M<=a):LC S BI.min.val [.obj i] H (.int M) H:=LC.ls hi fun hh t ho rs q=>by
 refine m9 rs h1 fun ps e1 q_a=>?_;obtain rfl:=q_a;haveI lp:=R6 h2;rw [OJ,Qa] at lp;refine min_intList hh ⟨_,ho,rfl,_,congrArg (Data.seq · _) e1⟩ lp fun v h' tk hv k=>b7 (intItems_at hv) fun t' q_a=>ba (argBest_lt (numAt ps) (ps.size - 1)) fun g1 g2=>bF.grow t k ?_ q;refine er q_a ?_;generalize argBest _ _=k0 at g1 g2⊢;haveI lt:k0<(ps.toList.map (·.1)).length:=by rewrite [OJ];refine er Qa ?_;exact EX g1 lp
 haveI e:numAt ps (k0)=M:=by
  refine ST ?_ ?_
  ·obtain⟨j,hj,rfl⟩:=Qc h2;refine el (ji rfl hj) ?_;exact g2 j (by rw [OJ,Qa] at hj;exact Fg hj)
  ·refine er (ji rfl lt) ?_;exact h3 _ (Qq _)
 exact e▸.int _ _
theorem M2(hi:H[i]? = some (.list xs))(h1:dW xs=some is):LC S BI.sum.val [.obj i] H (.int is.sum) H:=LC.ls hi fun hh t ho rs q=>by
 refine m9 rs h1 fun ps e1 q_a=>?_;obtain rfl:=q_a.symm;refine sum_intListG hh ⟨_,ho,rfl,_,congrArg (Data.seq · _) e1⟩ fun h' tk t' k=>bF.grow t k ?_ q;rewrite [preSum_eq];refine er (R5 (by simp)) ?_;exact .int _ _
theorem mX{tk:Tok}{t1 t2 t3:Tok}(t:St S φ H s)(q:Q (.obj H.length) (H++[.rng a b c])):bR S φ s Q (.ref s.heap.objs.size) { s with heap:=s.heap.push ⟨.type "range",none,.fields #[.int a t1,.int b t2,.int c t3],#[]⟩,toks:=tk }:=
 gn (o:=.rng a b c) t fS rfl (NV _ _ _ rfl) q
theorem HK:LC S BI.range.val [.int a] H (.obj H.length) (H++[.rng 0 a 1]):=LC.one (x:=.int a) fun _ t r q=>r.elim fun _ z=>z▸call_range_1 (mX t q)
theorem HJ:LC S BI.range.val [.int a,.int b] H (.obj H.length) (H++[.rng a b 1]):=fun _ t r q=>by
 refine j8 r fun _ _ q_a=>er q_a ?_;exact call_range_2 (mX t q)
theorem HH(h:c≠0/\small c):LC S BI.range.val [.int a,.int b,.int c] H (.obj H.length) (H++[.rng a b c]):=fun _ t r q=>by
 refine fQ (F2.inv r) fun _ _ q_a q_b r2=>b7 q_b fun t1 q_c=>er q_a ?_;refine j8 r2 fun _ _ q_a=>er q_c ?_;refine er q_a ?_;exact call_range_3 h.1 (mX t q) (.inl (ki h.2))
theorem Dh(hi:H[i]? = some (.list xs))(hl:xs.length<=100000):LC S BI.list.val [.obj i] H (.obj H.length) (H++[.list xs]):=LC.ls hi fun _ t ho rs q=>
 call_list_seq _ (.inl rfl) ho rfl rfl (fun h' c' k hn=>iN t k (.list hn (rs.mono (PH _ _))) bw q) (by refine er sizeLine_eq ?_;refine er O3 ?_;refine er rs.length ?_;exact Iu hl)
theorem Cw{acc:Array Value}{n:Nat}(h:ItemsOf (fun i v=>∃t,v=.int (a+(i:Int)*c) t) acc n):d8 φ ((OT n).map fun i=>.int (a+(i:Nat)*c)) acc.toList:=by
 refine ba h fun q_a h2=>?_;obtain⟨l⟩:=acc;refine el q_a ?_;refine er Se ?_;haveI key:∀(l:List Value) (b:Nat),(∀(j:Nat) v,l[j]? = some v->∃t,v=.int (a+((b+j:Nat):Int)*c) t)->d8 φ ((Sh b l.length).map fun i=>.int (a+(i:Nat)*c)) l:=by
  intro l;induction l with
  | nil=>exact fun b _=>.nil
  | cons x l ih=>
   intro b hb;refine .cons (hb 0 x rfl) (ih (b+1) fun j v hv=>?_);haveI:=hb (j+1) v hv
   rwa [PQ b 1 j]
 exact key l 0 fun j v hv=>by rw [Py];exact h2 j v (by simpa using hv)
theorem Dg{a b c:Int}(hi:H[i]? = some (.rng a b c))(hl:Builtin.Range.small a b c=true/\0<=Builtin.Range.rangeSize a b c/\Builtin.Range.rangeSize a b c<=100000):LC S BI.list.val [.obj i] H (.obj H.length) (H++[.list (dg a b c)]):=LC.ob hi fS fun hh t ho ox q=>by
 refine DO ox fun _ _ _ q_a=>?_;obtain rfl:=q_a;exact call_list_range hh ho hl.1 (L7 hl.2.1) (Mc hl.2.2) fun h' tk acc c' k hn hacc=>
  iN t (o:=.list (dg a b c)) k (.list (by simpa using hn) (Cw hacc)) bw q
theorem HF(hi:H[i]? = some (.list xs))(hl:xs.length<=100000):LC S BI.tuple.val [.obj i] H (.obj H.length) (H++[.tuple xs]):=LC.ls hi fun _ t ho rs q=>
 call_tuple_list ⟨_,ho,rfl,_,rfl⟩ (fun h' k=>iN t (fun b x e=>OV _ (k b x e)) (.tuple (Pe _ rfl) (rs.mono (PH _ _))) (fun b x e=>Qu (k b x e)) q) (by refine er sizeLine_eq ?_;refine er O3 ?_;refine er rs.length ?_;exact Iu hl)
theorem HG:LC S BI.set.val [] H (.obj H.length) (H++[.set []]):=fun _ t r q=>by
 refine er r.nil_inv ?_;refine call_set_0 fun led=>gn (o:=.set []) t fS rfl (bN 0 (fun prog w=>?_) (OF _)) q;exact Nr (#[]) 0 _ (bT rfl rfl rfl) rfl (fun e he=>by simp at he) (fun k=>by simp) (by decide) (rfl) rfl
end
end
set_option genCtorIdx false
mutual #where
inductive Tg where
 | one (i:Nat) | many (is:List Nat)
end
mutual
inductive C where
 | none | bool (b:Bool) | int (i:Int) | str (x:Str)
 | loc (i:Nat) | glob (k:Nat)
 | bin (op:Operator) (a b:C) | neg (a:C)
 | cmp (op:CmpOp) (a b:C)
 | ite (t:T) (a b:C)
 | att (a:C) (f:Nat)
 | sub (a i:C) | slo (a i:C) | shi (a i:C)
 | list (xs:Cs) | tup (xs:Cs)
 | comp (caps:List Nat) (elt it:C) | compIf (caps:List Nat) (elt:C) (t:T) (it:C)
 | bcall (b:BI) (xs:Cs) | fcall (k:Nat) (xs:Cs) | meth (x:C) (m:Nat) (xs:Cs)
 | barr | bytes (x:C) | dict0 | tdict (ks:List (Int×Int)) (i:Nat)
inductive Cs where
 | nil | cons (a:C) (r:Cs)
inductive T where
 | val (c:C) | not (t:T) | cmp (a:C) (ops:List CmpOp) (es:Cs) | and (ts:Ts) | or (ts:Ts)
inductive Ts where
 | nil | cons (t:T) (r:Ts)
end
mutual
inductive P where
 | asg (tg:Tg) (c:C) | comp (i:Nat) (caps:List Nat) (elt it:C) | compIf (i:Nat) (caps:List Nat) (elt:C) (t:T) (it:C)
 | setatt (o:C) (f:Nat) (v:C) | setsub (o i v:C)
 | expr (c:C) | pass | ret (c:C) | raise
 | if_ (t:T) (a b:Ps) | while_ (t:T) (a:Ps) | for_ (tg:Tg) (it:C) (a:Ps)
inductive Ps where
 | nil | cons (p:P) (r:Ps)
end
set_option genCtorIdx true
mutual #where
def BI.name:BI->Str
 | .len=>F7 "len"
 | .abs=>F7 "abs"
 | .int=>F7 "int"
 | .min=>F7 "min"
 | .max=>F7 "max"
 | .sum=>F7 "sum"
 | .range=>F7 "range"
 | .list=>F7 "list"
 | .tuple=>F7 "tuple"
 | .set=>F7 "set"
def BI.v:BI->V
 | .len=>.bi "len"
 | .abs=>.bi "abs"
 | .int=>.type "int"
 | .min=>.bi "min"
 | .max=>.bi "max"
 | .sum=>.bi "sum"
 | .range=>.type "range"
 | .list=>.type "list"
 | .tuple=>.type "tuple"
 | .set=>.type "set"
theorem BI.vr{b:BI}{φ:Fp}{v:Value}(h:VR φ b.v v):v=b.val:=by cases b<;>exact h
def dX:List (Str×V):=[(F7 "units_across",.top 28),(F7 "unit_count",.top 35),(F7 "unit_at",.top 42),(F7 "units",.top 49),(F7 "parts",.top 56),(F7 "alike",.top 183),
 (F7 "code_rows",.top 282),(F7 "check_told",.top 289),(F7 "category",.top 415),(F7 "bits_of",.top 422),(F7 "value_of",.top 429),(F7 "run_code",.top 436),(F7 "shrunk_size",.top 443),
 (F7 "check_band_progressive",.top 842),(F7 "progressive_writer",.top 849),(F7 "progressive_reader",.top 856),(F7 "PROGRESSIVE",.top 892),(F7 "blocks_of_unit",.top 897),(F7 "check_places",.top 904),
 (F7 "check_slots",.top 911),(F7 "check_band_script_rules",.top 918),(F7 "check_progressive_band",.top 925),(F7 "follow_script",.top 965),(F7 "check_script",.top 972),(F7 "is_complete",.top 979),
 (F7 "_law_source",.top 1028),(F7 "_law_draw",.top 1035),(F7 "_law_table",.top 1040),(F7 "_law_number",.top 1047),(F7 "_law_chain",.top 1052),(F7 "_law_script",.top 1057),(F7 "_law_frame",.top 1064),
 (F7 "_law_filled",.top 1069),(F7 "_law_passed",.top 1076),(F7 "Component",.top 73),(F7 "Frame",.top 139),(F7 "Grid",.top 172),(F7 "HuffTable",.top 320),(F7 "BitWriter",.top 362),(F7 "BitReader",.top 404),
 (F7 "AcFirstWriter",.top 495),(F7 "AcFirstReader",.top 537),(F7 "DcFirstWriter",.top 579),(F7 "DcRefineWriter",.top 621),(F7 "DcFirstReader",.top 663),(F7 "DcRefineReader",.top 705),(F7 "AcRefineWriter",.top 768),(F7 "AcRefineReader",.top 831),
 (F7 "Scan",.top 887),(F7 "ScriptState",.top 954),(F7 "CodeSink",.top 1017),
 (F7 "MOST_BITS",.int 16),(F7 "MOST_SYMBOLS",.int 256),(F7 "SIXTEEN_ZEROS",.int 240),(F7 "MOST_RUN",.int 32767),(F7 "MOST_CATEGORY_progressive_ac",.int 15),(F7 "MOST_CATEGORY_progressive_dc",.int 15),(F7 "MOST_KEPT",.int 937),
 (F7 "MOST_IN_SCAN",.int 4),(F7 "MOST_IN_UNIT",.int 10),(F7 "MOST_LOW",.int 13),(F7 "MOST_POINT",.int 15),(F7 "UNKNOWN",.int (-1))]
def uB:List (Str×V):=[(BI.name .len,BI.v .len),(BI.name .abs,BI.v .abs),(BI.name .int,BI.v .int),(BI.name .min,BI.v .min),(BI.name .max,BI.v .max),(BI.name .sum,BI.v .sum),(BI.name .range,BI.v .range),(BI.name .list,BI.v .list),(BI.name .tuple,BI.v .tuple),(BI.name .set,BI.v .set),
 (F7 "bytearray",.type "bytearray"),(F7 "bytes",.type "bytes")]
structure SysOK(S:be):Prop where
 ck:i4 S.K=true
 pr:zj S.h₀
 gl:∀p∈dX,∃v,S.mg p.1=some v/\∀φ,VR φ p.2 v
 bl:∀p∈uB,S.mg p.1=none/\∃v,S.mb p.1=some v/\∀φ,VR φ p.2 v
 kp:∀p∈dX,∀a,p.2=.top a->a≠892->keepIn S.K (.ref a)=true
 bapp:∀ {n:Nat} {A:Around} {φ:Fp} {s:Shared} {H:List O} {i:Nat} {bs:Array UInt8} {c:Int} {v u:Value} {Q:V->List O->Prop},S.bar->eT A n->St S φ H s->VR φ (.obj i) v->VR φ (.int c) u->H[i]? = some (.barr bs)->(0<=c/\c<256/\bs.size<=100000)->
  Q .none (H.set i (.barr (bs.push c.toNat.toUInt8)))->bC S.X S.M A (call (.builtin "bytearray.append") [v,u]) (bR S φ s Q) s
 bnew:∀ {n:Nat} {A:Around} {φ:Fp} {s:Shared} {H:List O} {Q:V->List O->Prop},S.bar->eT A n->St S φ H s->Q (.obj H.length) (H++[.barr #[]])->bC S.X S.M A (call (.type "bytearray") []) (bR S φ s Q) s
 bbyt:∀ {n:Nat} {A:Around} {φ:Fp} {s:Shared} {H:List O} {i:Nat} {bs:Array UInt8} {v:Value} {Q:V->List O->Prop},S.bar->eT A n->St S φ H s->VR φ (.obj i) v->H[i]? = some (.barr bs)->bs.size<=100000->Q (.bytes bs) H->
  bC S.X S.M A (call (.type "bytes") [v]) (bR S φ s Q) s
def kA(k:Nat):Option V:=(dX[k]?).map (·.2)
def dE(loc:aW)(i:Nat):Option V:=(loc[i]?).getD none
def sw{α:Type}(d:α)(e:Expr)(cst:Const->Nat->Pos->α:=fun _ _ _=>d)(name:Str->Pos->α:=fun _ _=>d)(bin:Expr->Operator->Expr->Pos->α:=fun _ _ _ _=>d)(un:UnaryOp->Expr->Pos->α:=fun _ _ _=>d)(cmp:Expr->List CmpOp->List Expr->Pos->α:=fun _ _ _ _=>d)(ite:Expr->Expr->Expr->Pos->α:=fun _ _ _ _=>d)(att:Expr->Str->Pos->α:=fun _ _ _=>d)(sub:Expr->Expr->Pos->α:=fun _ _ _=>d)(sli:Option Expr->Option Expr->Option Expr->Pos->α:=fun _ _ _ _=>d)(lst:List Expr->Pos->α:=fun _ _=>d)(tup:List Expr->Nat->Pos->α:=fun _ _ _=>d)(comp:Expr->List Comprehension->Scope->Pos->α:=fun _ _ _ _=>d)(call:Expr->List Expr->List Keyword->Pos->α:=fun _ _ _ _=>d)(dict:List (Option Expr)->List Expr->Pos->α:=fun _ _ _=>d)(boo:BoolOp->List Expr->Pos->α:=fun _ _ _=>d)(set:List Expr->Nat->Pos->α:=fun _ _ _=>d)(star:Expr->Pos->α:=fun _ _=>d)(scomp:Expr->List Comprehension->Scope->Pos->α:=fun _ _ _ _=>d)(dcomp:Expr->Expr->List Comprehension->Scope->Pos->α:=fun _ _ _ _ _=>d)(yld:Option Expr->Pos->α:=fun _ _=>d):α:=match e with
 | .Constant a b c=>cst a b c
 | .Name a b=>name a b
 | .BinOp a b c d=>bin a b c d
 | .UnaryOp a b c=>un a b c
 | .Compare a b c d=>cmp a b c d
 | .IfExp a b c d=>ite a b c d
 | .Attribute a b c=>att a b c
 | .Subscript a b c=>sub a b c
 | .Slice a b c d=>sli a b c d
 | .List a b=>lst a b
 | .Tuple a b c=>tup a b c
 | .ListComp a b c d=>comp a b c d
 | .Call a b c d=>call a b c d
 | .Dict a b c=>dict a b c
 | .BoolOp a b c=>boo a b c
 | .Set a b c=>set a b c
 | .Starred a b=>star a b
 | .SetComp a b c d=>scomp a b c d
 | .DictComp a b c d e=>dcomp a b c d e
 | .Yield a b=>yld a b
 | _=>d
theorem cM{α:Type}{d:α}{cst:Const->Nat->Pos->α}{name:Str->Pos->α}{bin:Expr->Operator->Expr->Pos->α}{un:UnaryOp->Expr->Pos->α}{cmp:Expr->List CmpOp->List Expr->Pos->α}{ite:Expr->Expr->Expr->Pos->α}{att:Expr->Str->Pos->α}{sub:Expr->Expr->Pos->α}{sli:Option Expr->Option Expr->Option Expr->Pos->α}{lst:List Expr->Pos->α}{tup:List Expr->Nat->Pos->α}{comp:Expr->List Comprehension->Scope->Pos->α}{call:Expr->List Expr->List Keyword->Pos->α}{dict:List (Option Expr)->List Expr->Pos->α}{boo:BoolOp->List Expr->Pos->α}{set:List Expr->Nat->Pos->α}{star:Expr->Pos->α}{scomp:Expr->List Comprehension->Scope->Pos->α}{dcomp:Expr->Expr->List Comprehension->Scope->Pos->α}{yld:Option Expr->Pos->α}{P:α->Expr->Prop}(h0:∀e,P d e)(h_cst:∀a b c,P (cst a b c) (.Constant a b c))(h_name:∀a b,P (name a b) (.Name a b))(h_bin:∀a b c d,P (bin a b c d) (.BinOp a b c d))(h_un:∀a b c,P (un a b c) (.UnaryOp a b c))(h_cmp:∀a b c d,P (cmp a b c d) (.Compare a b c d))(h_ite:∀a b c d,P (ite a b c d) (.IfExp a b c d))(h_att:∀a b c,P (att a b c) (.Attribute a b c))(h_sub:∀a b c,P (sub a b c) (.Subscript a b c))(h_sli:∀a b c d,P (sli a b c d) (.Slice a b c d))(h_lst:∀a b,P (lst a b) (.List a b))(h_tup:∀a b c,P (tup a b c) (.Tuple a b c))(h_comp:∀a b c d,P (comp a b c d) (.ListComp a b c d))(h_call:∀a b c d,P (call a b c d) (.Call a b c d))(h_dict:∀a b c,P (dict a b c) (.Dict a b c))(h_boo:∀a b c,P (boo a b c) (.BoolOp a b c))(h_set:∀a b c,P (set a b c) (.Set a b c))(h_star:∀a b,P (star a b) (.Starred a b))(h_scomp:∀a b c d,P (scomp a b c d) (.SetComp a b c d))(h_dcomp:∀a b c d e,P (dcomp a b c d e) (.DictComp a b c d e))(h_yld:∀a b,P (yld a b) (.Yield a b))(e:Expr):P (sw d e cst name bin un cmp ite att sub sli lst tup comp call dict boo set star scomp dcomp yld) e:=by
 cases e with
 | Constant=>exact h_cst _ _ _
 | Name=>exact h_name _ _
 | BinOp=>exact h_bin _ _ _ _
 | UnaryOp=>exact h_un _ _ _
 | Compare=>exact h_cmp _ _ _ _
 | IfExp=>exact h_ite _ _ _ _
 | Attribute=>exact h_att _ _ _
 | Subscript=>exact h_sub _ _ _
 | Slice=>exact h_sli _ _ _ _
 | List=>exact h_lst _ _
 | Tuple=>exact h_tup _ _ _
 | ListComp=>exact h_comp _ _ _ _
 | Call=>exact h_call _ _ _ _
 | Dict=>exact h_dict _ _ _
 | BoolOp=>exact h_boo _ _ _
 | Set=>exact h_set _ _ _
 | Starred=>exact h_star _ _
 | SetComp=>exact h_scomp _ _ _ _
 | DictComp=>exact h_dcomp _ _ _ _ _
 | Yield=>exact h_yld _ _
 | _=>exact h0 _
def qk(e:Expr):Option (Const):=sw none e (cst:=fun c k p=>some c)
theorem j5{e:Expr}{f:Const->Bool}:(qk e).any f=true->∃c k p,e=.Constant c k p/\f c=true:=cM (P:=fun o e=>Pk f o=true->∃c k p,e=.Constant c k p/\f c=true) (fun _=>ae) (by exact fun c k p h=>(qe c k p rfl h)) (fun _ _=>ae) (fun _ _ _ _=>ae) (fun _ _ _=>ae) (fun _ _ _ _=>ae) (fun _ _ _ _=>ae) (fun _ _ _=>ae) (fun _ _ _=>ae) (fun _ _ _ _=>ae) (fun _ _=>ae) (fun _ _ _=>ae) (fun _ _ _ _=>ae) (fun _ _ _ _=>ae) (fun _ _ _=>ae) (fun _ _ _=>ae) (fun _ _ _=>ae) (fun _ _=>ae) (fun _ _ _ _=>ae) (fun _ _ _ _ _=>ae) (fun _ _=>ae) e
def ib(e:Expr):Option (Str):=sw none e (name:=fun x p=>some x)
theorem dR{e:Expr}{f:Str->Bool}:(ib e).any f=true->∃x p,e=.Name x p/\f x=true:=cM (P:=fun o e=>Pk f o=true->∃x p,e=.Name x p/\f x=true) (fun _=>ae) (fun _ _ _=>ae) (by exact fun x p h=>(sf x p rfl h)) (fun _ _ _ _=>ae) (fun _ _ _=>ae) (fun _ _ _ _=>ae) (fun _ _ _ _=>ae) (fun _ _ _=>ae) (fun _ _ _=>ae) (fun _ _ _ _=>ae) (fun _ _=>ae) (fun _ _ _=>ae) (fun _ _ _ _=>ae) (fun _ _ _ _=>ae) (fun _ _ _=>ae) (fun _ _ _=>ae) (fun _ _ _=>ae) (fun _ _=>ae) (fun _ _ _ _=>ae) (fun _ _ _ _ _=>ae) (fun _ _=>ae) e
def GC(e:Expr):Option (Expr×Operator×Expr):=sw none e (bin:=fun l o r p=>some (l,o,r))
theorem zE{e:Expr}{f:Expr×Operator×Expr->Bool}:(GC e).any f=true->∃l o r p,e=.BinOp l o r p/\f (l,o,r)=true:=cM (P:=fun o e=>Pk f o=true->∃l o r p,e=.BinOp l o r p/\f (l,o,r)=true) (fun _=>ae) (fun _ _ _=>ae) (fun _ _=>ae) (by exact fun l o r p h=>(wG l o r p rfl h)) (fun _ _ _=>ae) (fun _ _ _ _=>ae) (fun _ _ _ _=>ae) (fun _ _ _=>ae) (fun _ _ _=>ae) (fun _ _ _ _=>ae) (fun _ _=>ae) (fun _ _ _=>ae) (fun _ _ _ _=>ae) (fun _ _ _ _=>ae) (fun _ _ _=>ae) (fun _ _ _=>ae) (fun _ _ _=>ae) (fun _ _=>ae) (fun _ _ _ _=>ae) (fun _ _ _ _ _=>ae) (fun _ _=>ae) e
def Mw(e:Expr):Option (UnaryOp×Expr):=sw none e (un:=fun o x p=>some (o,x))
theorem wy{e:Expr}{f:UnaryOp×Expr->Bool}:(Mw e).any f=true->∃o x p,e=.UnaryOp o x p/\f (o,x)=true:=cM (P:=fun o e=>Pk f o=true->∃o x p,e=.UnaryOp o x p/\f (o,x)=true) (fun _=>ae) (fun _ _ _=>ae) (fun _ _=>ae) (fun _ _ _ _=>ae) (by exact fun o x p h=>(qe o x p rfl h)) (fun _ _ _ _=>ae) (fun _ _ _ _=>ae) (fun _ _ _=>ae) (fun _ _ _=>ae) (fun _ _ _ _=>ae) (fun _ _=>ae) (fun _ _ _=>ae) (fun _ _ _ _=>ae) (fun _ _ _ _=>ae) (fun _ _ _=>ae) (fun _ _ _=>ae) (fun _ _ _=>ae) (fun _ _=>ae) (fun _ _ _ _=>ae) (fun _ _ _ _ _=>ae) (fun _ _=>ae) e
def Cf(e:Expr):Option (Expr×List CmpOp×List Expr):=sw none e (cmp:=fun l o r p=>some (l,o,r))
theorem tO{e:Expr}{f:Expr×List CmpOp×List Expr->Bool}:(Cf e).any f=true->∃l o r p,e=.Compare l o r p/\f (l,o,r)=true:=cM (P:=fun o e=>Pk f o=true->∃l o r p,e=.Compare l o r p/\f (l,o,r)=true) (fun _=>ae) (fun _ _ _=>ae) (fun _ _=>ae) (fun _ _ _ _=>ae) (fun _ _ _=>ae) (by exact fun l o r p h=>(wG l o r p rfl h)) (fun _ _ _ _=>ae) (fun _ _ _=>ae) (fun _ _ _=>ae) (fun _ _ _ _=>ae) (fun _ _=>ae) (fun _ _ _=>ae) (fun _ _ _ _=>ae) (fun _ _ _ _=>ae) (fun _ _ _=>ae) (fun _ _ _=>ae) (fun _ _ _=>ae) (fun _ _=>ae) (fun _ _ _ _=>ae) (fun _ _ _ _ _=>ae) (fun _ _=>ae) e
def Nq(e:Expr):Option (Expr×Expr×Expr):=sw none e (ite:=fun l o r p=>some (l,o,r))
theorem Ce{e:Expr}{f:Expr×Expr×Expr->Bool}:(Nq e).any f=true->∃l o r p,e=.IfExp l o r p/\f (l,o,r)=true:=cM (P:=fun o e=>Pk f o=true->∃l o r p,e=.IfExp l o r p/\f (l,o,r)=true) (fun _=>ae) (fun _ _ _=>ae) (fun _ _=>ae) (fun _ _ _ _=>ae) (fun _ _ _=>ae) (fun _ _ _ _=>ae) (by exact fun l o r p h=>(wG l o r p rfl h)) (fun _ _ _=>ae) (fun _ _ _=>ae) (fun _ _ _ _=>ae) (fun _ _=>ae) (fun _ _ _=>ae) (fun _ _ _ _=>ae) (fun _ _ _ _=>ae) (fun _ _ _=>ae) (fun _ _ _=>ae) (fun _ _ _=>ae) (fun _ _=>ae) (fun _ _ _ _=>ae) (fun _ _ _ _ _=>ae) (fun _ _=>ae) e
def zF(e:Expr):Option (Expr×Str×Pos):=sw none e (att:=fun l o p=>some (l,o,p))
theorem pd{e:Expr}{f:Expr×Str×Pos->Bool}:(zF e).any f=true->∃l o p,e=.Attribute l o p/\f (l,o,p)=true:=cM (P:=fun o e=>Pk f o=true->∃l o p,e=.Attribute l o p/\f (l,o,p)=true) (fun _=>ae) (fun _ _ _=>ae) (fun _ _=>ae) (fun _ _ _ _=>ae) (fun _ _ _=>ae) (fun _ _ _ _=>ae) (fun _ _ _ _=>ae) (by exact fun l o p h=>(qe l o p rfl h)) (fun _ _ _=>ae) (fun _ _ _ _=>ae) (fun _ _=>ae) (fun _ _ _=>ae) (fun _ _ _ _=>ae) (fun _ _ _ _=>ae) (fun _ _ _=>ae) (fun _ _ _=>ae) (fun _ _ _=>ae) (fun _ _=>ae) (fun _ _ _ _=>ae) (fun _ _ _ _ _=>ae) (fun _ _=>ae) e
def uZ(e:Expr):Option (Expr×Expr):=sw none e (sub:=fun l o p=>some (l,o))
theorem pb{e:Expr}{f:Expr×Expr->Bool}:(uZ e).any f=true->∃l o p,e=.Subscript l o p/\f (l,o)=true:=cM (P:=fun o e=>Pk f o=true->∃l o p,e=.Subscript l o p/\f (l,o)=true) (fun _=>ae) (fun _ _ _=>ae) (fun _ _=>ae) (fun _ _ _ _=>ae) (fun _ _ _=>ae) (fun _ _ _ _=>ae) (fun _ _ _ _=>ae) (fun _ _ _=>ae) (by exact fun l o p h=>(qe l o p rfl h)) (fun _ _ _ _=>ae) (fun _ _=>ae) (fun _ _ _=>ae) (fun _ _ _ _=>ae) (fun _ _ _ _=>ae) (fun _ _ _=>ae) (fun _ _ _=>ae) (fun _ _ _=>ae) (fun _ _=>ae) (fun _ _ _ _=>ae) (fun _ _ _ _ _=>ae) (fun _ _=>ae) e
def zD(e:Expr):Option (Option Expr×Option Expr×Option Expr):=sw none e (sli:=fun l o r p=>some (l,o,r))
theorem zC{e:Expr}{f:Option Expr×Option Expr×Option Expr->Bool}:(zD e).any f=true->∃l o r p,e=.Slice l o r p/\f (l,o,r)=true:=cM (P:=fun o e=>Pk f o=true->∃l o r p,e=.Slice l o r p/\f (l,o,r)=true) (fun _=>ae) (fun _ _ _=>ae) (fun _ _=>ae) (fun _ _ _ _=>ae) (fun _ _ _=>ae) (fun _ _ _ _=>ae) (fun _ _ _ _=>ae) (fun _ _ _=>ae) (fun _ _ _=>ae) (by exact fun l o r p h=>(wG l o r p rfl h)) (fun _ _=>ae) (fun _ _ _=>ae) (fun _ _ _ _=>ae) (fun _ _ _ _=>ae) (fun _ _ _=>ae) (fun _ _ _=>ae) (fun _ _ _=>ae) (fun _ _=>ae) (fun _ _ _ _=>ae) (fun _ _ _ _ _=>ae) (fun _ _=>ae) e
def Bw(e:Expr):Option (List Expr):=sw none e (lst:=fun l p=>some l)
theorem wz{e:Expr}{f:List Expr->Bool}:(Bw e).any f=true->∃l p,e=.List l p/\f l=true:=cM (P:=fun o e=>Pk f o=true->∃l p,e=.List l p/\f l=true) (fun _=>ae) (fun _ _ _=>ae) (fun _ _=>ae) (fun _ _ _ _=>ae) (fun _ _ _=>ae) (fun _ _ _ _=>ae) (fun _ _ _ _=>ae) (fun _ _ _=>ae) (fun _ _ _=>ae) (fun _ _ _ _=>ae) (by exact fun l p h=>(sf l p rfl h)) (fun _ _ _=>ae) (fun _ _ _ _=>ae) (fun _ _ _ _=>ae) (fun _ _ _=>ae) (fun _ _ _=>ae) (fun _ _ _=>ae) (fun _ _=>ae) (fun _ _ _ _=>ae) (fun _ _ _ _ _=>ae) (fun _ _=>ae) e
def uY(e:Expr):Option (List Expr):=sw none e (tup:=fun l k p=>some l)
theorem mC{e:Expr}{f:List Expr->Bool}:(uY e).any f=true->∃l k p,e=.Tuple l k p/\f l=true:=cM (P:=fun o e=>Pk f o=true->∃l k p,e=.Tuple l k p/\f l=true) (fun _=>ae) (fun _ _ _=>ae) (fun _ _=>ae) (fun _ _ _ _=>ae) (fun _ _ _=>ae) (fun _ _ _ _=>ae) (fun _ _ _ _=>ae) (fun _ _ _=>ae) (fun _ _ _=>ae) (fun _ _ _ _=>ae) (fun _ _=>ae) (by exact fun l k p h=>(qe l k p rfl h)) (fun _ _ _ _=>ae) (fun _ _ _ _=>ae) (fun _ _ _=>ae) (fun _ _ _=>ae) (fun _ _ _=>ae) (fun _ _=>ae) (fun _ _ _ _=>ae) (fun _ _ _ _ _=>ae) (fun _ _=>ae) e
def Bx(e:Expr):Option (Expr×List Comprehension×Scope×Pos):=sw none e (comp:=fun l g s p=>some (l,g,s,p))
theorem wB{e:Expr}{f:Expr×List Comprehension×Scope×Pos->Bool}:(Bx e).any f=true->∃l g s p,e=.ListComp l g s p/\f (l,g,s,p)=true:=cM (P:=fun o e=>Pk f o=true->∃l g s p,e=.ListComp l g s p/\f (l,g,s,p)=true) (fun _=>ae) (fun _ _ _=>ae) (fun _ _=>ae) (fun _ _ _ _=>ae) (fun _ _ _=>ae) (fun _ _ _ _=>ae) (fun _ _ _ _=>ae) (fun _ _ _=>ae) (fun _ _ _=>ae) (fun _ _ _ _=>ae) (fun _ _=>ae) (fun _ _ _=>ae) (by exact fun l g s p h=>(wG l g s p rfl h)) (fun _ _ _ _=>ae) (fun _ _ _=>ae) (fun _ _ _=>ae) (fun _ _ _=>ae) (fun _ _=>ae) (fun _ _ _ _=>ae) (fun _ _ _ _ _=>ae) (fun _ _=>ae) e
def mN(e:Expr):Option (Expr×List Expr×List Keyword×Pos):=sw none e (call:=fun f l k p=>some (f,l,k,p))
theorem qm{e:Expr}{f:Expr×List Expr×List Keyword×Pos->Bool}:(mN e).any f=true->∃g l k p,e=.Call g l k p/\f (g,l,k,p)=true:=cM (P:=fun o e=>Pk f o=true->∃g l k p,e=.Call g l k p/\f (g,l,k,p)=true) (fun _=>ae) (fun _ _ _=>ae) (fun _ _=>ae) (fun _ _ _ _=>ae) (fun _ _ _=>ae) (fun _ _ _ _=>ae) (fun _ _ _ _=>ae) (fun _ _ _=>ae) (fun _ _ _=>ae) (fun _ _ _ _=>ae) (fun _ _=>ae) (fun _ _ _=>ae) (fun _ _ _ _=>ae) (by exact fun g l k p h=>(wG g l k p rfl h)) (fun _ _ _=>ae) (fun _ _ _=>ae) (fun _ _ _=>ae) (fun _ _=>ae) (fun _ _ _ _=>ae) (fun _ _ _ _ _=>ae) (fun _ _=>ae) e
def wA(e:Expr):Option (List (Option Expr)×List Expr):=sw none e (dict:=fun l k p=>some (l,k))
theorem qj{e:Expr}{f:List (Option Expr)×List Expr->Bool}:(wA e).any f=true->∃l k p,e=.Dict l k p/\f (l,k)=true:=cM (P:=fun o e=>Pk f o=true->∃l k p,e=.Dict l k p/\f (l,k)=true) (fun _=>ae) (fun _ _ _=>ae) (fun _ _=>ae) (fun _ _ _ _=>ae) (fun _ _ _=>ae) (fun _ _ _ _=>ae) (fun _ _ _ _=>ae) (fun _ _ _=>ae) (fun _ _ _=>ae) (fun _ _ _ _=>ae) (fun _ _=>ae) (fun _ _ _=>ae) (fun _ _ _ _=>ae) (fun _ _ _ _=>ae) (by exact fun l k p h=>(qe l k p rfl h)) (fun _ _ _=>ae) (fun _ _ _=>ae) (fun _ _=>ae) (fun _ _ _ _=>ae) (fun _ _ _ _ _=>ae) (fun _ _=>ae) e
def wC(e:Expr):Option (BoolOp×List Expr):=sw none e (boo:=fun o l p=>some (o,l))
theorem qo{e:Expr}{f:BoolOp×List Expr->Bool}:(wC e).any f=true->∃o l p,e=.BoolOp o l p/\f (o,l)=true:=cM (P:=fun o e=>Pk f o=true->∃o l p,e=.BoolOp o l p/\f (o,l)=true) (fun _=>ae) (fun _ _ _=>ae) (fun _ _=>ae) (fun _ _ _ _=>ae) (fun _ _ _=>ae) (fun _ _ _ _=>ae) (fun _ _ _ _=>ae) (fun _ _ _=>ae) (fun _ _ _=>ae) (fun _ _ _ _=>ae) (fun _ _=>ae) (fun _ _ _=>ae) (fun _ _ _ _=>ae) (fun _ _ _ _=>ae) (fun _ _ _=>ae) (by exact fun o l p h=>(qe o l p rfl h)) (fun _ _ _=>ae) (fun _ _=>ae) (fun _ _ _ _=>ae) (fun _ _ _ _ _=>ae) (fun _ _=>ae) e
theorem dF{α:Type}{o:Option α}{f:α->Bool}(h:o.any f=true):∃t,o=some t/\f t=true:=by
 refine ma fun _ kK=>?_;cases o with
 | none=>exact ae h
 | some t=>exact kK t rfl h
theorem aV{a b:Bool}(h:(a&&b)=true):a=true/\b=true:=Pi.mp h
def pH(x:Str):Bool:=!(x == F7 "__debug__")&&!(x == F7 "__classdict__")
def uh(fc:FC)(i:Nat)(x:Str):Bool:=fc.names[i]? == some x&&(fc.kind x == some .local||fc.kind x == some .cell||fc.kind x == some .free)&&pH x
def yn(fc:FC)(k:Nat)(x:Str):Bool:=(dX[k]?).map (·.1) == some x&&fc.kind x == some .globalImplicit&&pH x
def Hz:Const->Bool | .none=>true | _=>false
def HC(b:Bool):Const->Bool | .bool c=>b == c | _=>false
def AU(b:Int):Const->Bool | .int c=>b == c | _=>false
def MY(b:Str):Const->Bool | .str c=>b == c | _=>false
def one?{α:Type}:List α->Option α | [x]=>some x | _=>none
theorem gL{α:Type}{l:List α}{x:α}(h:one? l=some x):l=[x]:=by
 cases l with
 | nil=>exact aJ h
 | cons y l=>cases l with
  | nil=>refine er (Option.some.inj h) ?_;rfl
  | cons _ _=>exact aJ h
def pE(e:Expr):Bool:=sw true e (call:=fun _ l _ _=>!l.isEmpty)
def uf(e:Expr):Bool:=sw true e (sli:=fun _ _ _ _=>false)
def dI(e:Expr):Bool:=sw true e (star:=fun _ _=>false)
def tR(e:Expr):Bool:=sw true e (un:=fun o _ _=>match o with | .Not=>false | _=>true) (boo:=fun _ _ _=>false) (ite:=fun _ _ _ _=>false) (cmp:=fun _ _ _ _=>false)
def ii(e:Expr):Bool:=sw true e (set:=fun _ _ _=>false)
def pG(e:Expr):Bool:=sw true e (comp:=fun _ _ _ _=>false) (scomp:=fun _ _ _ _=>false) (dcomp:=fun _ _ _ _ _=>false)
def dU(scope:Scope)(fc:FC):Scope:={ scope with names:=scope.names.map fun(n,k)=>if (k == .free&&fc.scope.kind == .function&&fc.kind n == some .cell) then (n,.cell) else (n,k) }
def gC(fc:FC)(caps:List Nat):List Str:=caps.map fun i=>fc.names[i]?.getD Rx
def eG(fc:FC)(scope:Scope)(x:Str)(caps:List Nat):FC:=⟨x::gC fc caps,dU scope fc⟩
def bx(loc:aW)(caps:List Nat)(y:Option V):aW:=y::caps.map fun i=>(loc[i]?).getD none
def cV(fc:FC)(scope:Scope)(x:Str)(caps:List Nat):Bool:=
 scope.kind == .function&&fc.scope.kind == .function&&decide ((scope.names.map (·.1)).Nodup)&&scope.names.all (fun p=>p.2 != .cell&&(p.2 != .free||(gC fc caps).contains p.1)) &&
 scope.names.lookup x == some .local&&decide ((x::gC fc caps).Nodup)&&decide caps.Nodup &&
 caps.all (fun i=>decide (i<fc.names.length)&&scope.names.lookup (fc.names[i]?.getD Rx) == some .free&&(fc.kind (fc.names[i]?.getD Rx) == some .cell||fc.kind (fc.names[i]?.getD Rx) == some .free))
def By(k:Int×Int)(e:Option Expr):Bool:=e.any fun e=>(uY e).any fun es=>match es with
 | [a,b]=>(qk a).any (AU k.1)&&(qk b).any (AU k.2)
 | _=>false
def zO(fc:FC)(i:Nat):List (Int×Int)->List (Option Expr)->List Expr->Bool
 | [],ks,vs=>ks.isEmpty&&vs.isEmpty
 | k::r,ks,vs=>match ks,vs with
  | e::ks,v::vs=>By k e&&(ib v).any (uh fc i)&&zO fc i r ks vs
  | _,_=>false
def rI(fc:FC)(caps:List Nat)(e:Expr)(f:Expr->Str->Expr->List Expr->Scope->Pos->Bool):Bool:=(Bx e).any fun t=>(one? t.2.1).any fun g=>(ib g.target).any fun x=>g.is_async == 0&&(cV fc t.2.2.1 x caps&&(ii g.iter&&f t.1 x g.iter g.ifs t.2.2.1 t.2.2.2))
theorem pV{fc:FC}{caps:List Nat}{e:Expr}{f:Expr->Str->Expr->List Expr->Scope->Pos->Bool}(h:rI fc caps e f=true){kP:Prop}(kK:∀elt x px it ifs scope pos,e=.ListComp elt [⟨.Name x px,it,ifs,0⟩] scope pos->cV fc scope x caps=true->ii it=true->f elt x it ifs scope pos=true->kP):kP:=by
 refine u8 (wB h) fun l gs sc p z h=>aZ (dF h) fun q_a y h=>?_;obtain⟨tg,it,ifs,asy⟩:=q_a;refine eu (dR h) fun x px w h=>eJ h fun h1 h2 h=>?_;haveI h1:=eq_of_beq h1;dsimp only at w y h1;haveI y:=gL y;replace z:=h1▸(w▸(y▸z));exact ba (aV h) (kK l x px it ifs sc p z h2)
end
mutual
noncomputable def fq (fc:FC):C->Expr->Bool
 | .none,e=>(qk e).any Hz
 | .bool b,e=>(qk e).any (HC b)
 | .int i,e=>(qk e).any (AU i)
 | .str x,e=>(qk e).any (MY x)
 | .loc i,e=>(ib e).any (uh fc i)
 | .glob k,e=>(ib e).any (yn fc k)
 | .bin op a b,e=>(GC e).any fun t=>t.2.1 == op&&(fq fc a t.1&&fq fc b t.2.2)
 | .neg a,e=>(Mw e).any fun t=>t.1 == .USub&&fq fc a t.2
 | .cmp op a b,e=>(Cf e).any fun t=>t.2.1 == [op]&&(one? t.2.2).any fun r=>ii r&&(fq fc a t.1&&fq fc b r)
 | .ite t a b,e=>(Nq e).any fun u=>okT fc t u.1&&(fq fc a u.2.1&&fq fc b u.2.2)
 | .att a f,e=>(zF e).any fun t=>t.2.1 == nm f&&(pE t.1&&fq fc a t.1)
 | .slo a i,e=>(uZ e).any fun t=>(zD t.2).any fun u=>u.2.1.isNone&&(u.2.2.isNone&&u.1.any fun j=>fq fc a t.1&&fq fc i j)
 | .shi a i,e=>(uZ e).any fun t=>(zD t.2).any fun u=>u.1.isNone&&(u.2.2.isNone&&u.2.1.any fun j=>fq fc a t.1&&fq fc i j)
 | .sub a i,e=>(uZ e).any fun t=>uf t.2&&(fq fc a t.1&&fq fc i t.2)
 | .list xs,e=>(Bw e).any fun es=>es.all dI&&(SE es.length 1000&&okEs fc xs es)
 | .tup xs,e=>(uY e).any fun es=>es.all dI&&(SE es.length 1000&&okEs fc xs es)
 | .comp caps elt it,e=>rI fc caps e fun l x i ifs sc _=>ifs.isEmpty&&(fq fc it i&&fq (eG fc sc x caps) elt l)
 | .compIf caps elt c it,e=>rI fc caps e fun l x i ifs sc _=>(one? ifs).any fun u=>okT (eG fc sc x caps) c u&&(fq fc it i&&fq (eG fc sc x caps) elt l)
 | .bcall b xs,e=>(mN e).any fun t=>t.2.2.1.isEmpty&&(ib t.1).any fun x=>x == b.name&&(fc.kind x == some .globalImplicit&&(pH x&&(t.2.1.all dI&&okEs fc xs t.2.1)))
 | .fcall k xs,e=>(mN e).any fun t=>t.2.2.1.isEmpty&&(ib t.1).any fun x=>yn fc k x&&(k != 16&&(t.2.1.all dI&&okEs fc xs t.2.1))
 | .meth o m xs,e=>(mN e).any fun t=>t.2.2.1.isEmpty&&(zF t.1).any fun u=>u.2.1 == nm m&&(pE u.1&&(t.2.1.all dI&&(SC t.2.1.length 30&&(u.2.2.endLine == t.2.2.2.line&&(fq fc o u.1&&okEs fc xs t.2.1)))))
 | .barr,e=>(mN e).any fun t=>t.2.2.1.isEmpty&&(ib t.1).any fun x=>x == F7 "bytearray"&&(fc.kind x == some .globalImplicit&&t.2.1.isEmpty)
 | .bytes c,e=>(mN e).any fun t=>t.2.2.1.isEmpty&&(ib t.1).any fun x=>x == F7 "bytes"&&(fc.kind x == some .globalImplicit&&(one? t.2.1).any fun y=>dI y&&fq fc c y)
 | .dict0,e=>(wA e).any fun t=>t.1.isEmpty&&t.2.isEmpty
 | .tdict ks i,e=>(wA e).any fun t=>zO fc i ks t.1 t.2&&(SE ks.length 15&&(!ks.isEmpty&&decide ks.Nodup))
noncomputable def okEs (fc:FC):Cs->List Expr->Bool
 | .nil,es=>es.isEmpty
 | .cons a r,es=>es.head?.any (fq fc a)&&okEs fc r es.tail
noncomputable def okT (fc:FC):T->Expr->Bool
 | .not t,e=>(Mw e).any fun u=>u.1 == .Not&&okT fc t u.2
 | .cmp a ops xs,e=>(Cf e).any fun t=>t.2.1 == ops&&(t.2.2.all ii&&(ops.length == t.2.2.length&&(fq fc a t.1&&okEs fc xs t.2.2)))
 | .and ts,e=>(wC e).any fun u=>u.1 == .And&&okTs fc ts u.2
 | .or ts,e=>(wC e).any fun u=>u.1 == .Or&&okTs fc ts u.2
 | .val c,e=>tR e&&fq fc c e
noncomputable def okTs (fc:FC):Ts->List Expr->Bool
 | .nil,es=>es.isEmpty
 | .cons t r,es=>es.head?.any (okT fc t)&&okTs fc r es.tail
end
mutual #where
theorem mJ{α:Type}{l:List α}(h:l.isEmpty=true):l=[]:=Q5.mp h
theorem cG{α:Type}{l:List α}{f:α->Bool}{b:Bool}(h:(l.head?.any f&&b)=true){kP:Prop}(kK:∀x,l=x::l.tail->f x=true->b=true->kP):kP:=by
 cases l with
 | nil=>exact ae h
 | cons x l=>exact ba (aV h) (kK x rfl)
theorem kU{e:Expr}{f:Expr×List Expr×List Keyword×Pos->Str->Bool}(h:((mN e).any fun t=>t.2.2.1.isEmpty&&(ib t.1).any (f t))=true){kP:Prop}(kK:∀x q es p,e=.Call (.Name x q) es [] p->f (.Name x q,es,[],p) x=true->kP):kP:=by
 refine u8 (qm h) fun g l k p z h=>ba (aV h) fun h1 h=>?_;obtain rfl:=mJ h1;refine eu (dR h) fun x q y h=>?_;dsimp only at y;subst y;exact kK x q l p z h
theorem xf{e:Expr}{f:Expr×Expr->Option Expr×Option Expr×Option Expr->Bool}(h:((uZ e).any fun t=>(zD t.2).any fun u=>f t u)=true){kP:Prop}(kK:∀e1 lo hi st q p,e=.Subscript e1 (.Slice lo hi st q) p->f (e1,.Slice lo hi st q) (lo,hi,st)=true->kP):kP:=by
 refine fP (pb h) fun e1 e2 p z h=>u8 (zC h) fun lo hi st q y h=>?_;dsimp only at y;subst y;exact kK _ _ _ _ _ _ z h
abbrev WE(S:be)(n:Nat)(fc:FC)(e:Expr)(loc:aW)(H:List O)(Q:V->List O->Prop):Prop:=WP S n fc VR (eval e) loc H Q
abbrev WT(S:be)(n:Nat)(fc:FC)(e:Expr)(loc:aW)(H:List O)(Q:Bool->List O->Prop):Prop:=WP S n fc (fun _ (a b:Bool)=>a=b) (fun env=>isTrue e env (eval e env)) loc H Q
theorem WP.mono{α β:Type}{S:be}{n:Nat}{fc:FC}{R:Fp->α->β->Prop}{t:Env->Sem β}{loc:aW}{H:List O}{Q Q':α->List O->Prop}(h:WP S n fc R t loc H Q)(k:∀a H',Q a H'->Q' a H'):WP S n fc R t loc H Q':=
 fun A env φ s a t e=>aH (h A env φ s a t e) fun _ _ p=>p.mono k
def vE(S:be)(n:Nat)(c:C)(l:aW)(H:List O)(Q:V->List O->Prop):Prop:=∀(fc:FC) (e:Expr),SysOK S->fq fc c e=true->WE S n fc e l H Q
def vT(S:be)(n:Nat)(t:T)(l:aW)(H:List O)(Q:Bool->List O->Prop):Prop:=∀(fc:FC) (e:Expr),SysOK S->okT fc t e=true->WT S n fc e l H Q
def EV(S:be)(n:Nat)(c:C)(l:aW)(H:List O)(v:V)(H':List O):Prop:=∀Q:V->List O->Prop,Q v H'->vE S n c l H Q
def qi(S:be)(n:Nat)(c:Cs)(l:aW)(H:List O)(xs:List V)(H':List O):Prop:=∀(fc:FC) (es:List Expr) (A:Around) (env:Env) (φ:Fp) (s:Shared) (K:List Value->Shared->Prop),SysOK S->okEs fc c es=true->eT A n->St S φ H s->aB S fc env l φ s.heap->
 (∀vs s1 φ1,bZ fL φ φ1 s s1->St S φ1 H' s1->d8 φ1 xs vs->xs.length=es.length->K vs s1)->bC S.X S.M A (spliced (es.map fun e=>(false,eval e env))) K s
def TV(S:be)(n:Nat)(t:T)(l:aW)(H:List O)(b:Bool)(H':List O):Prop:=∀Q:Bool->List O->Prop,Q b H'->vT S n t l H Q
def aE(S:be)(n:Nat)(f:V)(xs:List V)(H:List O)(v:V)(H':List O):Prop:=∀Q:V->List O->Prop,Q v H'->dG S n f xs H Q
theorem aE.up{S:be}{n m:Nat}{f:V}{xs:List V}{H H':List O}{v:V}(c:aE S n f xs H v H')(l:n<=m):aE S m f xs H v H':=fun Q q=>(c Q q).up l
end
section
mutual #where
variable {S:be} {n m:Nat} {fc:FC} {A:Around} {env:Env} {φ φ':Fp} {s s':Shared} {l:aW} {H H' H1 H2 H3 H4:List O} {v x y z:V} {a b c d:C} {i j k f g:Nat}
theorem br{α β:Type}{R:Fp->α->β->Prop}{t:Sem β}{Q:α->List O->Prop}(X:bZ fL φ φ' s s')(h:bC S.X S.M A t (bF S fL R φ' s' Q) s'):bC S.X S.M A t (bF S fL R φ s Q) s':=aH h fun _ _ p=>p.after X
theorem EV.run{e:Expr}(h:EV S n a l H x H1)(ok:SysOK S)(he:fq fc a e=true)(ao:eT A n)(st:St S φ H s)(eo:aB S fc env l φ s.heap){K:Value->Shared->Prop}
  (k:∀v s1 φ1,bZ fL φ φ1 s s1->St S φ1 H1 s1->aB S fc env l φ1 s1.heap->VR φ1 x v->K v s1):bC S.X S.M A (eval e env) K s:=
 gJ (h (fun v' H'=>v'=x/\H'=H1) ⟨rfl,rfl⟩ _ _ ok he A env φ s ao st eo) fun v s1 φ1 H' x' X T r q=>by
  refine ba q fun q_a q_b=>?_;obtain rfl:=q_a.symm;obtain rfl:=q_b.symm;exact k v s1 φ1 X T (eo.ext X) r
theorem TV.run{t:T}{e:Expr}{b:Bool}(h:TV S n t l H b H1)(ok:SysOK S)(he:okT fc t e=true)(ao:eT A n)(st:St S φ H s)(eo:aB S fc env l φ s.heap){K:Bool->Shared->Prop}
  (k:∀s1 φ1,bZ fL φ φ1 s s1->St S φ1 H1 s1->aB S fc env l φ1 s1.heap->K b s1):bC S.X S.M A (isTrue e env (eval e env)) K s:=
 gJ (h (fun v' H'=>v'=b/\H'=H1) ⟨rfl,rfl⟩ _ _ ok he A env φ s ao st eo) fun v s1 φ1 H' x' X T r q=>by
  refine ba q fun q_a q_b=>?_;obtain rfl:=q_a.symm;obtain rfl:=q_b.symm;subst r;exact k s1 φ1 X T (eo.ext X)
theorem ia(h:∀ {fc:FC} {e:Expr} {A:Around} {env:Env} {φ:Fp} {s:Shared} {Q:V->List O->Prop},SysOK S->fq fc a e=true->eT A n->St S φ H s->aB S fc env l φ s.heap->Q v H'->wpAny S.M A (eval e env) (bR S φ s Q) FF s):EV S n a l H v H':=
 fun _ q _ _ ok he _ _ _ _ ao st eo=>aK (h ok he ao st eo q)
theorem EV.none:EV S n .none l H .none H:=ia fun _ he _ st _ q=>by
 refine fP (j5 he) fun c k p z h=>?_;clear he;subst z;cases c with
 | none=>exact wpAny_pure (bF.now st .none q)
 | _=>exact ae h
theorem EV.bool{b:Bool}:EV S n (.bool b) l H (.bool b) H:=ia fun _ he _ st _ q=>by
 refine fP (j5 he) fun c k p z h=>?_;clear he;subst z;cases c with
 | bool c=>exact el (eq_of_beq h) (wpAny_pure (bF.now st (.bool _) q))
 | _=>exact ae h
theorem EV.int{i:Int}:EV S n (.int i) l H (.int i) H:=ia fun _ he _ st _ q=>by
 refine fP (j5 he) fun c k p z h=>?_;clear he;subst z;cases c with
 | int c=>exact el (eq_of_beq h) (wpAny_mkInt (kj st q))
 | _=>exact ae h
theorem EV.str{x:Str}:EV S n (.str x) l H (.str x) H:=ia fun _ he _ st _ q=>by
 refine fP (j5 he) fun c k p z h=>?_;clear he;subst z;cases c with
 | str c=>exact el (eq_of_beq h) (wpAny_mkText (bF.tk st _ (.str _ _) q))
 | _=>exact ae h
theorem G5{a:Bool}(h:(!a)=true):a=false:=by
 cases a with
 | false=>rfl
 | true=>exact ae h
theorem jN{x:Str}(h:pH x=true):(x == F7 "__debug__")=false/\(x == F7 "__classdict__")=false:=(aV h).imp G5 G5
theorem qS{E:Value->Shared->Prop}{x:Str}{p:Pos}{y:V}(h:uh fc i x=true)(e:dE l i=some y)(eo:aB S fc env l φ s.heap){Q:Value->Shared->Prop}(q:∀v,VR φ y v->Q v s):wpAny S.M A (eval (.Name x p) env) Q E s:=by
 refine zc h fun h1 h2 h3=>?_;have h1:=eq_of_beq h1;have hl:l[i]? = some (some y):=by
  unfold dE at e;cases e':l[i]? with
  | none=>rw [e'] at e;exact aJ e
  | some z=>rw [e'] at e;exact congrArg some e
 refine ba (jN h3) fun d1 d2=>?_;have fk:env.scope.kind=.function:=by exact er eo.scope eo.fk
 have kd:∀k,fc.kind x=some k->env.kindOf x=some k:=fun k hk=>by unfold Env.kindOf;exact er eo.scope hk
 have hc:∀h2,∃c:Nat,env.cells.lookup x=some c/\∃v,s.heap.IsCell c (some v)/\VR φ y v:=fun h2=>by
  obtain⟨c,a1,_,_,_,cv,a5,a6⟩:=eo.cell i x h1 h2;refine aZ (a6 y hl) fun v q_a r=>?_;obtain rfl:=q_a;exact⟨c,a1,v,a5,r⟩
 rcases QK.mp h2 with h2 | h2
 ·rcases QK.mp h2 with h2 | h2
  ·obtain⟨m,hm,hmv⟩:=eo.ns;refine aZ (hmv i x y h1 (eq_of_beq h2) hl) fun v e1 e2=>wpAny_Name (wpAny_loadName_local fk (kd _ (eq_of_beq h2)) hm e1 (q v e2)) d1
  ·refine aZ (hc (.inl (eq_of_beq h2))) fun c a1 q_a=>aZ q_a fun v a5 r=>wpAny_Name (wpAny_loadName_cell fk (kd _ (eq_of_beq h2)) a1 a5 (q v r)) d1
 ·refine aZ (hc (.inr (eq_of_beq h2))) fun c a1 q_a=>aZ q_a fun v a5 r=>wpAny_Name (wpAny_loadName_free fk (kd _ (eq_of_beq h2)) a1 a5 (q v r) d2) d1
theorem ad(h:dE l i=some v):EV S n (.loc i) l H v H:=ia fun _ he _ st eo q=>by
 refine eu (dR he) fun x p z h2=>?_;clear he;refine er z ?_;exact qS h2 h eo fun v r=>bF.now st r q
theorem re{x:Str}(h:(dX[k]?).map (·.1)=some x)(q:kA k=some v):(x,v)∈dX:=by
 unfold kA at q;cases e:dX[k]? with
 | none=>rw [e] at h;exact aJ h
 | some p=>
  rw [e] at h q;refine el (Option.some.inj h) (el (Option.some.inj q) ?_);exact OC e
theorem nh{x:Str}{p:Pos}(ok:SysOK S)(h:yn fc k x=true)(e:kA k=some v)(st:St S φ H s)(eo:aB S fc env l φ s.heap){Q:Value->Shared->Prop}(q:∀u,VR φ v u->Q u s):wpAny S.M A (eval (.Name x p) env) Q FF s:=by
 refine zc h fun h1 h2 h3=>aZ (ok.gl _ (re (eq_of_beq h1) e)) fun u e1 e2=>Calls.Name_function_global (by exact er eo.scope eo.fk) (by unfold Env.kindOf;exact er eo.scope (eq_of_beq h2)) (Calls.loadGlobal_global (by exact er eo.glob st.g) e1 (q u (e2 φ))) (jN h3).1
theorem nP{x:Str}{p:Pos}(ok:SysOK S)(hm:(x,v)∈uB)(hk:fc.kind x=some .globalImplicit)(hd:(x == F7 "__debug__")=false)(st:St S φ H s)(eo:aB S fc env l φ s.heap){Q:Value->Shared->Prop}(q:∀u,VR φ v u->Q u s):wpAny S.M A (eval (.Name x p) env) Q FF s:=by
 refine ba (ok.bl _ hm) fun g q_a=>aZ q_a fun u e1 e2=>Calls.Name_function_global (by exact er eo.scope eo.fk) (by unfold Env.kindOf;exact er eo.scope hk) (Calls.loadGlobal_builtin (by exact er eo.glob st.g) g (by exact er eo.bins st.b) e1 (q u (e2 φ))) hd
theorem EV.glob(h:kA k=some v):EV S n (.glob k) l H v H:=ia fun ok he _ st eo q=>by
 refine eu (dR he) fun x p z h2=>?_;clear he;refine er z ?_;exact nh ok h2 h st eo fun v r=>bF.now st r q
theorem eY{op:Operator}(ha:EV S n a l H x H1)(hb:EV S n b l H1 y H2)(hc:L2 S (binaryOp op) x y H2 z H3):EV S n (.bin op a b) l H z H3:=fun Q q fc e ok he A env φ s ao st eo=>by
 refine u8 (zE he) fun e1 o e2 p z h2=>?_;clear he;refine er z ?_;refine eJ h2 fun h3 h4 h5=>?_;obtain rfl:=eq_of_beq h3;refine am (ha.run ok h4 ao st eo fun v s1 φ1 X1 T1 E1 r1=>am (aO (hb.run ok h5 ao T1 E1 fun u s2 φ2 X2 T2 E2 r2=>?_)));exact az (br (X1.trans X2) (aK (wpAny_operating (hc ao.hd ao.un1 T2 (r1.mono X2.pre) r2 q))))
theorem EV.add{p q:Int}(ha:EV S n a l H (.int p) H1)(hb:EV S n b l H1 (.int q) H2):EV S n (.bin .Add a b) l H (.int (p+q)) H2:=eY ha hb L2.add
theorem EV.sub{p q:Int}(ha:EV S n a l H (.int p) H1)(hb:EV S n b l H1 (.int q) H2):EV S n (.bin .Sub a b) l H (.int (p - q)) H2:=eY ha hb L2.sub
theorem EV.mul{p q:Int}(ha:EV S n a l H (.int p) H1)(hb:EV S n b l H1 (.int q) H2)(h:small q):EV S n (.bin .Mult a b) l H (.int (p*q)) H2:=eY ha hb (L2.mul h)
theorem EV.fdiv{p q:Int}(ha:EV S n a l H (.int p) H1)(hb:EV S n b l H1 (.int q) H2)(h:q≠0/\small q):EV S n (.bin .FloorDiv a b) l H (.int (p.fdiv q)) H2:=eY ha hb (L2.fdiv h)
theorem EV.mod{p q:Int}(ha:EV S n a l H (.int p) H1)(hb:EV S n b l H1 (.int q) H2)(h:q≠0):EV S n (.bin .Mod a b) l H (.int (p.fmod q)) H2:=eY ha hb (L2.mod h)
theorem EV.pow{p q:Int}(ha:EV S n a l H (.int p) H1)(hb:EV S n b l H1 (.int q) H2)(h:0<=q/\q<=1000/\small p):EV S n (.bin .Pow a b) l H (.int (p^q.toNat)) H2:=eY ha hb (L2.pow h)
theorem EV.shl{p q:Int}(ha:EV S n a l H (.int p) H1)(hb:EV S n b l H1 (.int q) H2)(h:0<=q/\q<=1000/\small p):EV S n (.bin .LShift a b) l H (.int (p*2^q.toNat)) H2:=eY ha hb (L2.shl h)
theorem EV.shr{p q:Int}(ha:EV S n a l H (.int p) H1)(hb:EV S n b l H1 (.int q) H2)(h:0<=q):EV S n (.bin .RShift a b) l H (.int (p.fdiv (2^q.toNat))) H2:=eY ha hb (L2.shr h)
theorem EV.band{p q:Int}(ha:EV S n a l H (.int p) H1)(hb:EV S n b l H1 (.int q) H2):EV S n (.bin .BitAnd a b) l H (.int (PD p q)) H2:=eY ha hb L2.band
theorem EV.bor{p q:Int}(ha:EV S n a l H (.int p) H1)(hb:EV S n b l H1 (.int q) H2):EV S n (.bin .BitOr a b) l H (.int (Qj p q)) H2:=eY ha hb L2.bor
theorem EV.cat{xs ys:List V}(ha:EV S n a l H (.obj i) H1)(hb:EV S n b l H1 (.obj j) H2)(hi:H2[i]? = some (.list xs))(hj:H2[j]? = some (.list ys))(hl:xs.length+ys.length<=100000) :
  EV S n (.bin .Add a b) l H (.obj H2.length) (H2++[.list (xs++ys)]):=eY ha hb (L2.cat hi hj hl)
theorem EV.rep{x:V}{k:Int}(ha:EV S n a l H (.obj i) H1)(hb:EV S n b l H1 (.int k) H2)(hi:H2[i]? = some (.list [x]))(hl:0<=k/\k<=100000) :
  EV S n (.bin .Mult a b) l H (.obj H2.length) (H2++[.list (OM k.toNat x)]):=eY ha hb (L2.rep hi hl)
theorem EV.neg{p:Int}(ha:EV S n a l H (.int p) H1):EV S n (.neg a) l H (.int (-p)) H1:=fun Q q fc e ok he A env φ s ao st eo=>by
 refine fP (wy he) fun o e p z h2=>?_;clear he;subst z;refine ba (aV h2) fun h3 h2=>?_;obtain rfl:=eq_of_beq h3;exact am (ha.run ok h2 ao st eo fun v s1 φ1 X1 T1 E1 r1=>az (aO (br X1 (aK (L1.neg ao.hd ao.un1 T1 r1 q)))))
theorem qT{op:CmpOp}{e:Expr}(h:ii e=true)(t:Sem Value):markedBehindIn op e t=t:=by
 cases e with
 | Set=>exact ae h
 | _=>rfl
theorem vA{ops:List CmpOp}{es:List Expr}(ts:List (Sem Value))(h:es.all ii=true)(h1:ops.length=es.length)(h2:ts.length=es.length):markedEach ops es ts=ts:=by
 induction es generalizing ops ts with
 | nil=>refine er (Pc h1) (er (Pc h2) ?_);rfl
 | cons e es ih=>
  cases ops with
  | nil=>exact Nat.noConfusion h1
  | cons op ops=>cases ts with
   | nil=>exact Nat.noConfusion h2
   | cons t ts=>
    cases ops with
    | nil=>
     rw [Pc (Nat.succ.inj h1).symm] at h h2⊢;exact er (Pc (Nat.succ.inj h2)) (congrArg (·::[]) (qT (aV h).1 t))
    | cons op2 ops=>exact congrArg (t::·) (ih ts (aV h).2 (Nat.succ.inj h1) (Nat.succ.inj h2))
theorem yD:∀(es:List Expr) (env:Env),(evalEach es env).length=es.length:=by
 intro m_;induction m_ with
 | nil=>
  intro _;exact rfl
 | cons _ es ih_=>
  intro env;exact congrArg Nat.succ (ih_ env)
theorem nY{op:CmpOp}{r:Bool}(ha:EV S n a l H x H1)(hb:EV S n b l H1 y H2)(hc:CM S op x y H2 r):EV S n (.cmp op a b) l H (.bool r) H2:=fun Q q fc e ok he A env φ s ao st eo=>by
 refine u8 (tO he) fun e1 ops es p z h2=>?_;clear he;subst z;refine ba (aV h2) fun h3 h2=>aZ (dF h2) fun e2 h4 h5=>?_;haveI h4:=gL h4;clear h2;dsimp only at h4;refine er h4 ?_;obtain rfl:=eq_of_beq h3;refine eJ h5 fun h5 h6 h7=>(?_:bC _ _ _ (do compareChain p (← eval e1 env) [op] [markedBehindIn op e2 (eval e2 env)]) _ s)
 rw [qT h5];refine am (ha.run ok h6 ao st eo fun v s1 φ1 X1 T1 E1 r1=>?_);exact am (aO (hb.run ok h7 ao T1 E1 fun u s2 φ2 X2 T2 E2 r2=>az (br (X1.trans X2) (aK (wpAny_operating (hc ok.pr ao.un1 T2 (r1.mono X2.pre) r2 q))))))
theorem uU{t:T}{r:Bool}(ht:TV S n t l H r H1)(ha:EV S n (if r then a else b) l H1 v H2):EV S n (.ite t a b) l H v H2:=fun Q q fc e ok he A env φ s ao st eo=>by
 refine u8 (Ce he) fun e1 e2 e3 p z h2=>?_;clear he;refine er z ?_;refine eJ h2 fun h3 h4 h5=>am (ht.run ok h3 ao st eo fun s1 φ1 X1 T1 E1=>br X1 ?_);cases r with
 | true=>exact ha Q q _ _ ok h4 A env φ1 s1 ao T1 E1
 | false=>exact ha Q q _ _ ok h5 A env φ1 s1 ao T1 E1
theorem de{t:T}{r:Bool}(ht:TV S n t l H r H1)(hr:r=true)(ha:EV S n a l H1 v H2):EV S n (.ite t a b) l H v H2:=uU ht (by exact er (if_pos hr) ha)
theorem cP{t:T}{r:Bool}(ht:TV S n t l H r H1)(hr:r=false)(ha:EV S n b l H1 v H2):EV S n (.ite t a b) l H v H2:=uU ht (by exact er hr ha)
theorem gG{o:Expr}(h:pE o=true)(attr:Str)(env:Env)(whole:Sem Value):attributeBase o attr env whole=whole:=by
 cases o with
 | Call f args kws p=>
  cases args with
  | nil=>exact ae h
  | cons a r=>cases f<;>rfl
 | _=>rfl
theorem af{C:Nat}{fs:List (Nat×V)}(ha:EV S n a l H (.obj i) H1)(hi:H1[i]? = some (.inst C fs))(hf:qX C f=true)(hl:fs.lookup f=some y)(hb:Cz y=true):EV S n (.att a f) l H y H1:=fun Q q fc e ok he A env φ s ao st eo=>by
 refine fP (pd he) fun e1 x p z h2=>?_;clear he;refine er z ?_;refine eJ h2 fun h3 h4 h5=>?_;obtain rfl:=eq_of_beq h3;refine(?_:bC _ _ _ (do let o ← attributeBase e1 (nm f) env (eval e1 env);standAt p.atName;let r ← holding [o] (getAttr o (nm f) true);letTemporaryGo e1 o r;pure r) _ s)
 rw [gG h4];refine am (ha.run ok h5 ao st eo fun v s1 φ1 X1 T1 E1 r1=>az (br X1 (aK ?_)));exact wpAny_bind (wpAny_holding (wpAny_mono (Dj ok.ck T1 r1 hi hf hl hb q) (fun r s2 z=>wpAny_bind (wpAny_letTemporaryGo (wpAny_pure z))) fun _ _ e=>e))
theorem Co{e:Expr}(h:uf e=true)(v u:Value):subscripted e false v u=operate [v,u] (getItem v u):=by
 cases e with
 | Slice=>exact ae h
 | _=>rfl
theorem kX(ha:EV S n a l H x H1)(hb:EV S n b l H1 y H2)(hc:LI S x y H2 z):EV S n (.sub a b) l H z H2:=fun Q q fc e ok he A env φ s ao st eo=>by
 refine fP (pb he) fun e1 e2 p z h2=>?_;clear he;refine er z ?_;refine eJ h2 fun h3 h4 h5=>am (ha.run ok h4 ao st eo fun v s1 φ1 X1 T1 E1 r1=>am (aO (hb.run ok h5 ao T1 E1 fun u s2 φ2 X2 T2 E2 r2=>az (br (X1.trans X2) (aK ?_)))));exact hc ao.un1 (Co h3 _ _) T2 (r1.mono X2.pre) r2 q
theorem cA{xs:List V}{p:Int}(ha:EV S n a l H (.obj i) H1)(hb:EV S n b l H1 (.int p) H2)(hi:H2[i]? = some (.list xs))(h0:0<=p/\p<2^62)(hx:xs[p.toNat]? = some y):EV S n (.sub a b) l H y H2:=kX ha hb (LI.list hi h0 hx)
theorem mL{xs:List V}{p:Int}(ha:EV S n a l H (.obj i) H1)(hb:EV S n b l H1 (.int p) H2)(hi:H2[i]? = some (.tuple xs))(h0:0<=p/\p<2^62)(hx:xs[p.toNat]? = some y):EV S n (.sub a b) l H y H2:=kX ha hb (LI.tuple hi h0 hx)
theorem Bf{bs:Array UInt8}{p:Int}{u:UInt8}(ha:EV S n a l H (.bytes bs) H1)(hb:EV S n b l H1 (.int p) H2)(h0:0<=p/\bs.size<=100000)(hx:bs[p.toNat]? = some u):EV S n (.sub a b) l H (.int (u.toNat:Nat)) H2:=kX ha hb (LI.bytes h0 hx)
theorem mM{es:List (Nat×(Int×Int)×V)}{p q:Int}(ha:EV S n a l H (.obj i) H1)(hb:EV S n b l H1 (.obj j) H2)(hi:H2[i]? = some (.tdict es))(hj:H2[j]? = some (.tuple [.int p,.int q]))(hk:lr H2 es)(hx:lg es (p,q)=some y):EV S n (.sub a b) l H y H2:=kX ha hb (LI.tdict hi hj hk hx)
theorem xM(items:List Value):∀(k b:Nat),b+k<=items.length->(OT k).filterMap (fun j=>items[b+j]?)=(items.drop b).take k:=by
 intro k;induction k with
 | zero=>intro b _;simp
 | succ k ih=>
  intro b hb;refine er Re (er List.filterMap_append ?_);refine er (ih b (O0 ‹_›)) (er List.take_add_one ?_);haveI:items[b+k]? = some (items[b+k]'(by assumption)):=OD _;simp [QP,this]
theorem ub{items:List Value}{lo hi:Option Int}{b k:Nat}(h1:(sliceBounds lo hi none items.length).1=b)(h2:(sliceBounds lo hi none items.length).2.1=(b+k:Nat))(l:b+k<=items.length) :
  slicePick items.toArray lo hi none=((items.drop b).take k).toArray:=by
 unfold slicePick;refine er O3 ?_;refine er h1 (er h2 ?_);haveI h3:(sliceBounds lo hi none items.length).2.2=1:=rfl;refine er h3 ?_;unfold sliceRange;haveI e:(if (1:Int)>0 then if ((b):Int)<((b+k:Nat)) then (((b+k:Nat):Int) - (b)+1 - 1) / 1 else 0 else if ((b):Int)>((b+k:Nat)) then (((b)) - ((b+k:Nat)) - 1 - 1) / -1 else 0)=(k):=by
  refine er (if_pos (by decide)) ?_;rw [Rj];split<;>lia
 simp only [e];rewrite [← xM items k b l,ON];refine er List.filterMap_map ?_;haveI fe:((fun x=>items.toArray[x]?) ∘ fun k:Nat=>(((b))+1*(k:Int)).toNat)=fun j=>items[b+j]?:=by
  funext j;simp only [Function.comp,RQ,QC];congr 1
 refine er fe ?_;rfl
theorem xd{xs:List V}{v:Value}{lo hi:Option Int}{vl vu:Value}{b k:Nat}{Q:V->List O->Prop}{value slice:Expr}(t:St S φ H s)(rx:VR φ (.obj i) v)(pl:IsPart vl lo)(pu:IsPart vu hi){sl:Nat}(hs:s.heap.IsSliceOf sl vl vu .none)(hi':H[i]? = some (.list xs))(hl:xs.length<=100000)(l:b+k<=xs.length)
  (h1:(sliceBounds lo hi none xs.length).1=b) (h2:(sliceBounds lo hi none xs.length).2.1=(b+k:Nat)) (he:subscripted slice false v (.ref sl)=operate [.ref sl,v] (getItem v (.ref sl))) (q:Q (.obj H.length) (H++[.list ((xs.drop b).take k)])):wpAny S.M A (subscriptTail value slice v (.ref sl)) (bR S φ s Q) FF s:=by
 refine t.one rx hi' fS fun c o z e ho ox=>?_;subst z;refine eu ox fun vs m q_a rs=>?_;obtain rfl:=q_a;rw [← rs.length] at l hl h1 h2
 refine tail_any (bN _ ho rfl) PySem.F.slot_list_getitem.lookup (wpAny_getItem_list_slice ⟨_,ho,rfl,_,rfl⟩ hs pl pu .none (by decide) ?_ (by refine er sizeLine_eq ?_;exact er O3 (Oz ‹_› (by decide)))) he;exact er (ub h1 h2 l) (iM t ((rs.drop b).take k) q)
theorem xc{fs:Array Value}(t:St S φ H s):bZ fL φ φ s { s with heap:=s.heap.push { cls:=.type "slice",data:=.fields fs } }/\St S φ H { s with heap:=s.heap.push { cls:=.type "slice",data:=.fields fs } }:=
 ⟨bZ.grow fun b' x' e _=>OV _ e,fun b' x' e=>OV _ (t.base b' x' e),t.rel.push _⟩
theorem xY(k m:Nat):max (0:Int) (min (k:Int) m)=((min k m:Nat):Int):=by
 rcases Nat.le_total k m with h | h
 ·refine er (SS (P8.mpr h)) ?_;exact er (SO h) (SM (OS _))
 ·refine er (Int.min_eq_right (P8.mpr h)) ?_;exact er (SJ h) (SM (OS _))
theorem BC{p:Int}{m:Nat}(h:0<=p):(sliceBounds (some p) none none m).1=(min p.toNat m:Nat)/\(sliceBounds (some p) none none m).2.1=(min p.toNat m+(m - min p.toNat m):Nat):=by
 refine b7 (PI h) fun k q_a=>er (PB (Q9 _ _)) ?_;simp only [sliceBounds,RC];simp;refine er (if_neg (Rk.mpr h)) ?_;exact er q_a (xY _ _)
theorem BD{p:Int}{m:Nat}(h:0<=p):(sliceBounds none (some p) none m).2.1=(0+min p.toNat m:Nat):=by
 rw [Py];refine b7 (PI h) fun k q_a=>?_;simp only [sliceBounds,RC];simp;refine er (if_neg (Rk.mpr h)) ?_;exact er q_a (xY _ _)
theorem Cr{p:Int}{m:Nat}(h:¬0<=p):(sliceBounds none (some p) none m).2.1=(0+((m:Int)+p).toNat:Nat):=by
 have hp:=Int.not_le.mp h;have e:(if p<0 then p+(m) else p)=p+m:=if_pos hp;have e2:min (p+(m:Int)) m=p+m:=SS (Pt (PJ (Sd hp) _) (QN (Int.zero_add _)));refine Eq.trans (b:=max 0 (min (if p<0 then p+(m) else p) m)) rfl ?_;refine er e (er e2 (er (Py _) (er (Int.ofNat_toNat _) (er (Int.max_comm _ _) (er (Int.add_comm (m) p) rfl)))))
theorem GT{p:Int}{m:Nat}:(sliceBounds none (some p) none m).1=(0:Nat):=by
 simp only [sliceBounds,RC];simp
theorem yE{α:Type}{xs:List α}{k:Nat}:(xs.drop (min k xs.length)).take (xs.length - min k xs.length)=xs.drop k:=by
 refine er (R5 (by exact er Q4 (OF _))) ?_;rcases Nat.le_total k xs.length with h | h
 ·refine er (SO h) ?_;rfl
 ·refine er (SJ h) ?_;refine er List.drop_length (er (Rc h) ?_);rfl
theorem mH{α:Type}{o:Option α}(h:o.isNone=true):o=RH:=Qo.mp h
theorem xg{o:Option Expr}{b c:Bool}{f:Expr->Bool}(h:(b&&(c&&o.any f))=true):b=true/\c=true/\∃j,o=some j/\f j=true:=(aV h).imp_right fun h=>(aV h).imp_right dF
theorem tM{xs:List V}{p:Int}(ha:EV S n a l H (.obj i) H1)(hb:EV S n b l H1 (.int p) H2)(hi:H2[i]? = some (.list xs))(hl:xs.length<=100000)(h0:0<=p):EV S n (.slo a b) l H (.obj H2.length) (H2++[.list (xs.drop p.toNat)]):=fun Q q fc e ok he A env φ s ao st eo=>by
 refine xf he fun e1 lo hi' st' pq pp z h4=>?_;clear he;subst z;refine dN (xg h4) fun h5 h6 q_a=>aZ q_a fun e2 q_b h4=>?_;obtain rfl:=q_b;obtain rfl:=mH h5;obtain rfl:=mH h6;refine(?_:bC _ _ _ (do let o ← eval e1 env;let j ← holding [o] (do let l ← eval e2 env;let u ← holding [l] (pure .none);let z ← holding [l,u] (pure .none);newFields "slice" [l,u,z]);standAt pp;let r ← subscripted (.Slice (some e2) .none .none pq) (← getitemInPython o) o j;letTemporaryGo e1 o r;pure r) _ s)
 refine am (ha.run ok (aV h4).1 ao st eo fun v s1 φ1 X1 T1 E1 r1=>am (aO (am (hb.run ok (aV h4).2 ao T1 E1 fun u s2 φ2 X2 T2 E2 r2=>r2.elim fun tb z=>z▸?_))));refine aK (wpAny_bind (wpAny_holding (wpAny_pure (wpAny_bind (wpAny_holding (wpAny_pure (wpAny_newObj_type ?_)))))));refine(xc T2).elim fun X3 T3=>az (br ((X1.trans X2).trans X3) (aK ?_));exact xd T3 (r1.mono X2.pre) (.int p tb) .none (Heap.IsSliceOf.new ..) hi hl (OP (PB (Q9 _ _))) (BC h0).1 (BC h0).2 rfl (by exact er yE q)
theorem uP{ys:List V}{p:Int}(ha:EV S n a l H x H1)(hb:EV S n b l H1 (.int p) H2)(fin:∀ {A:Around} {φ:Fp} {s:Shared} {v vu:Value} {sl:Nat} {value slice:Expr} {Q:V->List O->Prop},St S φ H2 s->VR φ x v->IsPart vu (some p)->s.heap.IsSliceOf sl .none vu .none->subscripted slice false v (.ref sl)=operate [.ref sl,v] (getItem v (.ref sl))->Q (.obj H2.length) (H2++[.list ys])->wpAny S.M A (subscriptTail value slice v (.ref sl)) (bR S φ s Q) FF s):EV S n (.shi a b) l H (.obj H2.length) (H2++[.list ys]):=fun Q q fc e ok he A env φ s ao st eo=>by
 refine xf he fun e1 lo hi' st' pq pp z h4=>?_;clear he;subst z;refine dN (xg h4) fun h5 h6 q_a=>aZ q_a fun e2 q_b h4=>?_;obtain rfl:=mH h5;obtain rfl:=mH h6;obtain rfl:=q_b;refine(?_:bC _ _ _ (do let o ← eval e1 env;let j ← holding [o] (do let l ← pure .none;let u ← holding [l] (eval e2 env);let z ← holding [l,u] (pure .none);newFields "slice" [l,u,z]);standAt pp;let r ← subscripted (.Slice .none (some e2) .none pq) (← getitemInPython o) o j;letTemporaryGo e1 o r;pure r) _ s)
 refine am (ha.run ok (aV h4).1 ao st eo fun v s1 φ1 X1 T1 E1 r1=>am (aO (am (aq (am (aO (hb.run ok (aV h4).2 ao T1 E1 fun u s2 φ2 X2 T2 E2 r2=>r2.elim fun tb z=>z▸?_)))))));refine aK (wpAny_bind (wpAny_holding (wpAny_pure (wpAny_newObj_type ?_))));refine(xc T2).elim fun X3 T3=>az (br ((X1.trans X2).trans X3) (aK ?_));exact fin T3 (r1.mono X2.pre) (.int p tb) (Heap.IsSliceOf.new ..) rfl q
theorem uO{xs:List V}{p:Int}{k:Nat}(ha:EV S n a l H (.obj i) H1)(hb:EV S n b l H1 (.int p) H2)(hi:H2[i]? = some (.list xs))(hl:xs.length<=100000)(hk:0+k<=xs.length)(h1:(sliceBounds .none (some p) .none xs.length).2.1=(0+k:Nat)):EV S n (.shi a b) l H (.obj H2.length) (H2++[.list (xs.take k)]):=
 uP ha hb fun T rx pu hs he q=>xd T rx .none pu hs hi hl hk GT h1 he q
theorem Dz{xs:List V}{p:Int}(ha:EV S n a l H (.obj i) H1)(hb:EV S n b l H1 (.int p) H2)(hi:H2[i]? = some (.list xs))(hl:xs.length<=100000)(h0:0<=p):EV S n (.shi a b) l H (.obj H2.length) (H2++[.list (xs.take p.toNat)]):=by
 exact er R8 (uO ha hb hi hl (by rw [Py];exact Q9 _ _) (BD h0))
theorem Bg{xs:List V}{p:Int}(ha:EV S n a l H (.obj i) H1)(hb:EV S n b l H1 (.int p) H2)(hi:H2[i]? = some (.list xs))(hl:xs.length<=100000)(h0:¬0<=p):EV S n (.shi a b) l H (.obj H2.length) (H2++[.list (xs.take (xs.length+p).toNat)]):=
 uO ha hb hi hl (by lia) (Cr h0)
end
end
mutual #where
theorem wV{e:Expr}(h:dI e=true)(es:List Expr)(env:Env):starEach (e::es) env=(false,eval e env)::starEach es env:=by
 cases e with
 | Starred=>exact ae h
 | _=>rfl
theorem mF{es:List Expr}(h:es.all dI=true)(env:Env)(pos:Pos):backTo pos (starEach es env)=es.map fun e=>(false,eval e env):=by
 induction es with
 | nil=>rfl
 | cons e es ih=>rw [wV (aV h).1];exact congrArg ((false,eval e env)::·) (ih (aV h).2)
def zm(S:be)(f:Value):Prop:=∀h:Heap,(∀b o,S.h₀.get? b=some o->h.get? b=some o)->∃k,(k=Keeper.frame∨k=Keeper.machine∨k=Keeper.boundFrame)/\Looks S.M h (keeperOf f) k
end
section
mutual #where
variable {S:be} {n m:Nat} {fc:FC} {A:Around} {env:Env} {φ φ':Fp} {s s':Shared} {l:aW} {H H' H1 H2 H3 H4:List O} {v x y z:V} {a b c d:C} {i j k f g:Nat} {r:Cs} {xs:List V}
theorem qi.nil:qi S n .nil l H [] H:=fun _ _ _ _ _ _ _ _ he _ st _ k=>by
 obtain rfl:=mJ he;exact aq (k [] _ _ .refl st .nil rfl)
theorem qi.cons(ha:EV S n a l H x H1)(hr:qi S n r l H1 xs H2):qi S n (.cons a r) l H (x::xs) H2:=fun fc es A env φ s K ok he ao st eo k=>by
 refine cG he fun e h1 h2 h3=>?_;rw [h1] at k⊢;refine am (ha.run ok h2 ao st eo fun v s1 φ1 X1 T1 E1 r1=>am (aq (am (aO (hr _ _ _ _ _ _ _ ok h3 ao T1 E1 fun vs s2 φ2 X2 T2 r2 hl=>?_)))));exact aq (k _ s2 φ2 (X1.trans X2) T2 (.cons (r1.mono X2.pre) r2) (congrArg Nat.succ hl))
theorem EV.list{xs:List V}(hr:qi S n r l H xs H1):EV S n (.list r) l H (.obj H1.length) (H1++[.list xs]):=fun Q q fc e ok he A env φ s ao st eo=>by
 refine eu (wz he) fun es p z h2=>?_;clear he;refine er z ?_;refine(?_:bC _ _ _ (do standAt p;newList (← spliced (backTo p (starEach es env)))) _ s)
 rw [mF (aV h2).1];refine az (am (hr _ _ _ _ _ _ _ ok (aV (aV h2).2).2 ao st eo fun vs s1 φ1 X1 T1 r1 hl=>br X1 (aK ?_)));exact wpAny_newList (iM T1 r1 q) (by refine er r1.length (er hl ?_);exact er sizeLine_eq (Oz (Rl (aV (aV h2).2).1) (by decide)))
theorem bJ{xs:List V}(hr:qi S n r l H xs H1):EV S n (.tup r) l H (.obj H1.length) (H1++[.tuple xs]):=fun Q q fc e ok he A env φ s ao st eo=>by
 refine fP (mC he) fun es k p z h2=>?_;clear he;subst z;refine(?_:bC _ _ _ (do standAt p;newTuple (← spliced (backTo p (starEach es env)))) _ s)
 rw [mF (aV h2).1];refine az (am (hr _ _ _ _ _ _ _ ok (aV (aV h2).2).2 ao st eo fun vs s1 φ1 X1 T1 r1 hl=>br X1 (aK ?_)));exact wpAny_newTuple (xL T1 r1 q) (by refine er r1.length (er hl ?_);exact er sizeLine_eq (Oz (Rl (aV (aV h2).2).1) (by decide)))
theorem wD{α:Type}{vs:List Value}{m:Sem α}{Q:α->Shared->Prop}(h:bC S.X S.M A m Q s):bC S.X S.M A (m.keep vs) Q s:=fun Γ p hΓ x=>by rw [Sem.wp_keep];exact h Γ p hΓ x
theorem lG{pos:Pos}{f:Value}{first:List Value}{es:List Expr}(ok:SysOK S)(hs:es.all dI=true)(he:okEs fc r es=true)(ao:eT A n)(st:St S φ H s)(eo:aB S fc env l φ s.heap)(keep:zm S f)(h:qi S n r l H xs H1)
  {KK:Value->Shared->Prop} (fin:∀vs s' φ',bZ fL φ φ' s s'->St S φ' H1 s'->d8 φ' xs vs->bC S.X S.M A (call f (first++vs) []) KK s') :
  bC S.X S.M A (callWith pos f first (backTo pos (starEach es env)) []) KK s:=by
 rw [mF hs];unfold callWith;haveI e1:evalArgs f true (es.map fun e=>(false,eval e env)) []=(do let vs ← spliced (es.map fun e=>(false,eval e env));holding (vs++[]) (pure ⟨vs,[]⟩)):=by
  cases es with
  | nil=>rfl
  | cons e es=>rfl
 refine er e1 ?_;refine am (aO (am (h _ _ _ _ _ _ _ ok he ao st eo fun vs s1 φ1 X1 T1 r1 _=>aO (aq (az ?_)))));refine aZ (keep s1.heap T1.base) fun k hk' L=>?_;haveI np:((es.map fun e=>(false,eval e env)).any (·.1)||([]:List (Option Str×Sem Value)).any (·.1.isNone))=false:=by
  simp
 refine er np ?_;refine ax (L.here ?_);haveI tail:∀ {t:Sem Value},bC S.X S.M A t KK s1->bC S.X S.M A (t >>= fun r=>holding [r] point >>= fun _=>pure r) KK s1:=
  fun ht=>am (aH ht fun r s2 hr=>ax (wpAny_holding (wpAny_point (aq hr))))
 haveI c:=fin vs s1 φ1 X1 T1 r1;haveI marked (mk:Value):bC S.X S.M A (callMarked mk f (first++vs) []) KK s1:=wD c;have alt:∀(p:Prop) (d:Decidable p) (mk:Value),bC S.X S.M A (@ite _ p d (call f (first++vs) [] >>= fun r=>holding [r] point >>= fun _=>pure r) (callMarked mk f (first++vs) [] >>= fun r=>holding [r] point >>= fun _=>pure r)) KK s1:=fun p d mk=>by
  by_cases z:p
  ·exact er (if_pos z) (tail c)
  ·exact er (if_neg z) (tail (marked mk))
 rcases hk' with rfl | rfl | rfl
 ·exact alt _ _ _
 ·exact tail c
 ·exact alt _ _ _
theorem ux{x:Str}{q:Pos}{es:List Expr}{p:Pos}(env:Env):eval (.Call (.Name x q) es [] p) env=(do callWith p (← eval (.Name x q) env) [] (backTo p (starEach es env)) []):=rfl
theorem jk{xe:Str}{es:List Expr}{p q:Pos}{Q:V->List O->Prop}(hn:∀ {A:Around} {φ:Fp} {s:Shared} {K:Value->Shared->Prop},St S φ H s->aB S fc env l φ s.heap->(∀u,VR φ v u->K u s)->wpAny S.M A (eval (.Name xe p) env) K FF s)(ok:SysOK S)
  (hs:es.all dI=true) (he:okEs fc r es=true) (keep:∀φ u,VR φ v u->zm S u) (h:qi S n r l H xs H1) (ao:eT A n) (st:St S φ H s) (eo:aB S fc env l φ s.heap)
  (fin:∀ {φ:Fp} {s:Shared} {u vs},St S φ H1 s->VR φ v u->d8 φ xs vs->bC S.X S.M A (call u vs []) (bR S φ s Q) s):bC S.X S.M A (eval (.Call (.Name xe p) es [] q) env) (bR S φ s Q) s:=by
 rw [ux];refine am (aK (hn st eo fun u ru=>lG ok hs he ao st eo (keep _ _ ru) h fun vs s' φ' X T rs=>br X ?_));exact fin T (ru.mono X.pre) rs
theorem kt{f:Value}(h:keeperOf f=pure .machine):zm S f:=fun _ _=>bN .machine (.inr (.inl rfl)) (h▸.now)
theorem vE.fcall{a:Nat}{Q:V->List O->Prop}(hg:kA k=some (.top a))(hr:qi S n r l H xs H1)(hc:dG S n (.top a) xs H1 Q):vE S n (.fcall k r) l H Q:=fun _ _ ok he A env φ s ao st eo=>by
 refine kU he fun x pp es p z h5=>?_;clear he;refine er z ?_;refine eJ h5 fun h5 h6 h7=>ba (aV h7) fun h7 h8=>?_;haveI n892:a≠892:=fun z=>by
  subst z;haveI all:∀k,k<dX.length->(match kA k with | some (.top a)=>a == 892 | _=>false)=true->k=16:=by decide +kernel
  haveI hk:k<dX.length:=by
   unfold kA at hg;exact(OH.mp (Q2.mp hg).choose_spec.1).1
  replace h6:=(all k hk (by refine er hg ?_;rfl))▸h6;exact ae h6
 refine jk (fun st eo q=>nh ok h5 hg st eo q) ok h7 h8 (fun φ u ru=>?_) hr ao st eo fun T ru rs=>hc A _ _ _ _ ao T ru rs;exact er ru (fun h hb=>keeps_K (ok.kp _ (re (eq_of_beq (aV (aV h5).1).1) hg) a rfl n892) h (S.kin.keeps hb))
theorem EV.fcall{a:Nat}{r:Cs}{xs:List V}(hg:kA k=some (.top a))(hr:qi S n r l H xs H1)(hc:aE S m (.top a) xs H1 v H2)(hm:m<=n):EV S n (.fcall k r) l H v H2:=fun Q q=>vE.fcall hg hr (hc.up hm Q q)
theorem AY(b:BI):zm S b.val:=by cases b<;>exact kt rfl
def BI.ix:BI->Nat | .len=>0 | .abs=>1 | .int=>2 | .min=>3 | .max=>4 | .sum=>5 | .range=>6 | .list=>7 | .tuple=>8 | .set=>9
theorem Df(b:BI):(b.name,b.v)∈uB:=OC (i:=b.ix) (by cases b<;>rfl)
theorem bS{B:BI}(hr:qi S n r l H xs H1)(hb:LC S B.val xs H1 v H2):EV S n (.bcall B r) l H v H2:=fun Q q fc e ok he A env φ s ao st eo=>by
 refine kU he fun x pp es p z h5=>?_;clear he;subst z;refine eJ h5 fun h5 h6 h7=>?_;obtain rfl:=eq_of_beq h5;refine eJ h7 fun h7 h8 h9=>jk (fun st eo q=>nP ok (Df B) (eq_of_beq h6) (jN h7).1 st eo q) ok h8 h9 (fun φ u ru=>BI.vr ru▸AY B) hr ao st eo fun T ru rs=>er (BI.vr ru) ?_;exact aK (hb ao.hd T rs q)
theorem EV.barr(hS:S.bar):EV S n .barr l H (.obj H.length) (H++[.barr #[]]):=fun Q q fc e ok he A env φ s ao st eo=>by
 refine kU he fun x pp es p z h6=>?_;clear he;subst z;refine eJ h6 fun h6 g7 h4=>?_;obtain rfl:=eq_of_beq h6;obtain rfl:=mJ h4;refine jk (fun st eo q=>nP ok (OC (i:=10) rfl) (eq_of_beq g7) (by decide +kernel) st eo q) ok rfl rfl (fun φ u ru=>?_) qi.nil ao st eo fun T ru rs=>?_
 ·exact er ru (kt rfl)
 ·refine er ru ?_;exact er rs.nil_inv (ok.bnew hS ao T q)
theorem EV.bytes(hS:S.bar){bs:Array UInt8}(ha:EV S n a l H (.obj i) H1)(hi:H1[i]? = some (.barr bs))(hl:bs.size<=100000):EV S n (.bytes a) l H (.bytes bs) H1:=fun Q q fc e ok he A env φ s ao st eo=>by
 refine kU he fun x pp es p z h6=>?_;clear he;subst z;refine eJ h6 fun h6 g7 h8=>?_;obtain rfl:=eq_of_beq h6;refine aZ (dF h8) fun y h8 h9=>?_;obtain rfl:=gL h8;refine ba (aV h9) fun h10 h11=>jk (r:=.cons a .nil) (fun st eo q=>nP ok (OC (i:=11) rfl) (eq_of_beq g7) (by decide +kernel) st eo q) ok (show(dI y&&true)=true by refine er h10 ?_;rfl) (show(fq fc a y&&true)=true by refine er h11 ?_;rfl) (fun φ u ru=>?_) (qi.cons ha .nil) ao st eo fun T ru rs=>?_
 ·exact er ru (kt rfl)
 ·obtain rfl:=ru.symm;refine fQ (F2.inv rs) fun w _ q_a r1 r2=>er q_a ?_;exact er r2.nil_inv (ok.bbyt hS ao T r1 hi hl q)
theorem Ai{o:Expr}{name:Str}{es:List Expr}{ap p:Pos}(hb:pE o=true)(hs:es.all dI=true)(hl:es.length<30)(hp:(ap.endLine == p.line)=true)(env:Env) :
  eval (.Call (.Attribute o name ap) es [] p) env=(do
   let ov ← eval o env
   standAt ap.atName
   let (f,first) ← holding [ov] (getMethod ov name (do return (← importBound o env).getD true))
   let cp ← (pure p:Sem Pos)
   callWith cp f first (backTo p (starEach es env)) []):=by
 refine(?_:(do
   let ov ← attributeBase o name env (eval o env)
   standAt ap.atName
   methodCall o name ap p env ov (es.length+0) (backTo p (starEach es env)) [])=_)
 rw [gG hb,mF hs];haveI fm:methodCallForm (es.length+0) (es.map fun e=>(false,eval e env)) []=true:=by
  unfold methodCallForm;simp [hl]
 haveI mp:methodCallPos true o env ap p=pure p:=by
  unfold methodCallPos;simp [hp]
 unfold methodCall;refine er fm (er mp ?_);rfl
theorem vE.meth{fv:Value}{Q:V->List O->Prop}(ho:EV S n a l H x H1)(hg:SysOK S->GM S x m H1 fv/\zm S fv)(hr:qi S n r l H1 xs H2)
  (fin:∀ {A:Around} {φ:Fp} {s:Shared} {u:Value} {vs:List Value},SysOK S->eT A n->St S φ H2 s->VR φ x u->d8 φ xs vs->bC S.X S.M A (call fv (u::vs) []) (bR S φ s Q) s):vE S n (.meth a m r) l H Q:=fun _ _ ok he A env φ s ao st eo=>by
 refine u8 (qm he) fun fe es kw p z h2=>?_;clear he;refine er z ?_;refine ba (aV h2) fun h3 h2=>fP (pd h2) fun oe nn ap z h5=>?_;clear h2;dsimp only at z;refine er z ?_;obtain rfl:=mJ h3;refine eJ h5 fun h5 h6 h7=>eJ h7 fun h7 h8 h9=>eJ h9 fun h9 h10 h11=>er (eq_of_beq h5:nn=nm m) ?_;rw [Ai h6 h7 (Nat.blt_eq.mp h8) h9];refine am (ho.run ok h10 ao st eo fun v s1 φ1 X1 T1 E1 r1=>az (br X1 ?_));refine ax (wpAny_holding ((hg ok).1 T1 r1 (ax (wpAny_pure ?_))));exact lG ok h7 h11 ao T1 E1 (hg ok).2 hr fun vs s' φ' X2 T2 rs=>br X2 (fin ok ao T2 (r1.mono X2.pre) rs)
theorem EV.meth{C:Nat}{fs:List (Nat×V)}{r:Cs}{xs:List V}(ho:EV S n a l H (.obj i) H1)(hi:H1[i]? = some (.inst C fs))(h1:fs.lookup k=RH)(h2:jw C k=some f)(hr:qi S n r l H1 xs H2)(hc:aE S m (.top f) (.obj i::xs) H2 v H3)(hm:m<=n) :
  EV S n (.meth a k r) l H v H3:=fun Q q=>vE.meth ho (fun ok=>(GM.fn ok.ck hi h1 h2).imp_right fun kp h hb=>keeps_K kp h (S.kin.keeps hb)) hr fun _ ao T ru rs=>hc.up hm Q q _ _ _ _ _ ao T rfl (.cons ru rs)
theorem EV.bitlen{p:Int}(ho:EV S n a l H (.int p) H1):EV S n (.meth a 68 .nil) l H (.int (Builtin.Int.intBits p:Nat)) H1:=fun Q q=>vE.meth ho (fun _=>⟨GM.bitlen,kt rfl⟩) .nil fun _ ao T ru rs=>by
 exact er rs.nil_inv (aK (wd T ru q))
theorem EV.m1{fv:Value}{r:C}(ho:EV S n a l H x H1)(hr:EV S n r l H1 y H2)(hg:GM S x m H1 fv)(hk:keeperOf fv=pure .machine)
  (fin:∀ {A:Around} {φ:Fp} {s:Shared} {u w:Value} {Q:V->List O->Prop},SysOK S->eT A n->St S φ H2 s->VR φ x u->VR φ y w->Q z H3->bC S.X S.M A (call fv [u,w] []) (bR S φ s Q) s):EV S n (.meth a m (.cons r .nil)) l H z H3:=fun Q q=>
 vE.meth ho (fun _=>⟨hg,kt hk⟩) (.cons hr .nil) fun ok ao T ru rs=>by
  refine fQ (F2.inv rs) fun w _ q_a r1 r2=>er q_a ?_;exact er r2.nil_inv (fin ok ao T ru r1 q)
theorem EV.app{xs:List V}{r:C}(ho:EV S n a l H (.obj i) H1)(hr:EV S n r l H1 y H2){x0:List V}(h0:H1[i]? = some (.list x0))(hi:H2[i]? = some (.list xs))(hl:xs.length<=100000):EV S n (.meth a 67 (.cons r .nil)) l H .none (H2.set i (.list (xs++[y]))):=
 EV.m1 ho hr (GM.app h0) rfl fun _ _ T ru rw q=>aK (za T ru rw hi hl q)
theorem EV.bapp(hS:S.bar){bs bs0:Array UInt8}{r:C}{p:Int}(ho:EV S n a l H (.obj i) H1)(hr:EV S n r l H1 (.int p) H2)(h0:H1[i]? = some (.barr bs0))(hi:H2[i]? = some (.barr bs))(hl:0<=p/\p<256/\bs.size<=100000) :
  EV S n (.meth a 67 (.cons r .nil)) l H .none (H2.set i (.barr (bs.push p.toNat.toUInt8))):=EV.m1 ho hr (GM.bapp h0) rfl fun ok ao T ru rw q=>ok.bapp hS ao T ru rw hi hl q
theorem Bi{ks ks0:List Int}{r:C}{p:Int}(ho:EV S n a l H (.obj i) H1)(hr:EV S n r l H1 (.int p) H2)(h0:H1[i]? = some (.set ks0))(hi:H2[i]? = some (.set ks))(hl:ks.length<=100):EV S n (.meth a 69 (.cons r .nil)) l H .none (H2.set i (.set (ks++[p]))):=
 EV.m1 ho hr (GM.add h0) rfl fun _ _ T ru rw q=>aK (Dq T ru rw hi hl q)
theorem Bm{es:List (Int×V)}{es0:List (Int×V)}{r:C}{p:Int}{e:Int×V}(ho:EV S n a l H (.obj i) H1)(hr:EV S n r l H1 (.int p) H2)(h0:H1[i]? = some (.dict es0))(hi:H2[i]? = some (.dict es))(he:(es.find? fun e=>decide (e.1=p))=some e):EV S n (.meth a 39 (.cons r .nil)) l H e.2 H2:=
 EV.m1 ho hr (GM.get h0) rfl fun _ _ T ru rw q=>aK (CU T ru rw hi he q)
theorem zt:EV S n .dict0 l H (.obj H.length) (H++[.dict []]):=ia fun _ he _ st _ q=>by
 refine fP (qj he) fun ks vs p z h2=>?_;clear he;subst z;cases mJ (aV h2).1;cases mJ (aV h2).2;refine wpAny_Dict_empty (gn (o:=.dict []) st fS rfl (bN [] (fun prog w=>?_) .nil) q);exact zJ (#[]) 0 (bT rfl rfl rfl) rfl (fun e he=>by simp at he) .nil (by decide)
theorem bW{xs:List V}(ha:EV S n a l H (.obj i) H1)(hi:H1[i]? = some (.list xs))(hl:xs.length<=100000):EV S n (.bcall .len (.cons a .nil)) l H (.int xs.length) H1:=bS (.cons ha .nil) (HP hi hl)
theorem Bl{xs:List V}(ha:EV S n a l H (.obj i) H1)(hi:H1[i]? = some (.tuple xs))(hl:xs.length<=100000):EV S n (.bcall .len (.cons a .nil)) l H (.int xs.length) H1:=bS (.cons ha .nil) (HO hi hl)
theorem uT{bs:Array UInt8}(ha:EV S n a l H (.bytes bs) H1)(hl:bs.size<=100000):EV S n (.bcall .len (.cons a .nil)) l H (.int bs.size) H1:=bS (.cons ha .nil) (HQ hl)
theorem EV.abs{p:Int}(ha:EV S n a l H (.int p) H1):EV S n (.bcall .abs (.cons a .nil)) l H (.int (p.natAbs:Nat)) H1:=bS (.cons ha .nil) M5
theorem fW{p:Int}(ha:EV S n a l H (.int p) H1):EV S n (.bcall .int (.cons a .nil)) l H (.int p) H1:=bS (.cons ha .nil) HR
theorem uV{p:Bool}(ha:EV S n a l H (.bool p) H1):EV S n (.bcall .int (.cons a .nil)) l H (.int (if p then 1 else 0)) H1:=bS (.cons ha .nil) HS
theorem uQ{p q:Int}(ha:EV S n a l H (.int p) H1)(hb:EV S n b l H1 (.int q) H2):EV S n (.bcall .min (.cons a (.cons b .nil))) l H (.int (if q<p then q else p)) H2:=bS (.cons ha (.cons hb .nil)) HN
theorem uR{xs:List V}{is:List Int}{M:Int}(ha:EV S n a l H (.obj i) H1)(hi:H1[i]? = some (.list xs))(h1:dW xs=some is)(h2:M∈is)(h3:∀a∈is,a<=M):EV S n (.bcall .max (.cons a .nil)) l H (.int M) H1:=bS (.cons ha .nil) (M4 hi h1 h2 h3)
theorem Bk{xs:List V}{is:List Int}{M:Int}(ha:EV S n a l H (.obj i) H1)(hi:H1[i]? = some (.list xs))(h1:dW xs=some is)(h2:M∈is)(h3:∀a∈is,M<=a):EV S n (.bcall .min (.cons a .nil)) l H (.int M) H1:=bS (.cons ha .nil) (M3 hi h1 h2 h3)
theorem uN{xs:List V}{is:List Int}(ha:EV S n a l H (.obj i) H1)(hi:H1[i]? = some (.list xs))(h1:dW xs=some is):EV S n (.bcall .sum (.cons a .nil)) l H (.int is.sum) H1:=bS (.cons ha .nil) (M2 hi h1)
theorem bV{p:Int}(ha:EV S n a l H (.int p) H1):EV S n (.bcall .range (.cons a .nil)) l H (.obj H1.length) (H1++[.rng 0 p 1]):=bS (.cons ha .nil) HK
theorem jo{p q:Int}(ha:EV S n a l H (.int p) H1)(hb:EV S n b l H1 (.int q) H2):EV S n (.bcall .range (.cons a (.cons b .nil))) l H (.obj H2.length) (H2++[.rng p q 1]):=bS (.cons ha (.cons hb .nil)) HJ
theorem Bj{p q r:Int}(ha:EV S n a l H (.int p) H1)(hb:EV S n b l H1 (.int q) H2)(hc:EV S n c l H2 (.int r) H3)(h:r≠0/\small r):EV S n (.bcall .range (.cons a (.cons b (.cons c .nil)))) l H (.obj H3.length) (H3++[.rng p q r]):=bS (.cons ha (.cons hb (.cons hc .nil))) (HH h)
theorem fK{xs:List V}(ha:EV S n a l H (.obj i) H1)(hi:H1[i]? = some (.list xs))(hl:xs.length<=100000):EV S n (.bcall .list (.cons a .nil)) l H (.obj H1.length) (H1++[.list xs]):=bS (.cons ha .nil) (Dh hi hl)
theorem zo{p q r:Int}(ha:EV S n a l H (.obj i) H1)(hi:H1[i]? = some (.rng p q r))(hl:Builtin.Range.small p q r=true/\0<=Builtin.Range.rangeSize p q r/\Builtin.Range.rangeSize p q r<=100000):EV S n (.bcall .list (.cons a .nil)) l H (.obj H1.length) (H1++[.list (dg p q r)]):=bS (.cons ha .nil) (Dg hi hl)
theorem uM{xs:List V}(ha:EV S n a l H (.obj i) H1)(hi:H1[i]? = some (.list xs))(hl:xs.length<=100000):EV S n (.bcall .tuple (.cons a .nil)) l H (.obj H1.length) (H1++[.tuple xs]):=bS (.cons ha .nil) (HF hi hl)
theorem Bh:EV S n (.bcall .set .nil) l H (.obj H.length) (H++[.set []]):=bS .nil HG
end
end
mutual #where
theorem tf{e:Expr}(hv:tR e=true)(env:Env)(m:Sem Value):isTrue e env m=(do let v ← m;standAt e.pos;holding [v] (truthy v)):=by
 cases e with
 | UnaryOp op x p=>cases op<;>first | rfl | exact ae hv
 | BoolOp | IfExp | Compare=>exact ae hv
 | _=>rfl
def CH(S:be)(n:Nat)(ops:List CmpOp)(c:Cs)(l:aW)(x:V)(H:List O)(b:Bool)(H':List O):Prop:=∀(fc:FC) (es:List Expr) (A:Around) (env:Env) (φ:Fp) (s:Shared) (p:Pos) (v:Value) (Q:Bool->List O->Prop),SysOK S->okEs fc c es=true->eT A n->St S φ H s->aB S fc env l φ s.heap->VR φ x v->Q b H'->
 bC S.X S.M A (testChain p v ops (evalEach es env)) (rW S φ s Q) s
def bq(S:be)(n:Nat)(ts:Ts)(l:aW)(H:List O)(b:Bool)(H':List O):Prop:=∀(fc:FC) (es:List Expr) (A:Around) (env:Env) (φ:Fp) (s:Shared) (Q:Bool->List O->Prop),SysOK S->okTs fc ts es=true->eT A n->St S φ H s->aB S fc env l φ s.heap->Q b H'->
 bC S.X S.M A (allTrue .And es env) (rW S φ s Q) s
def fg(S:be)(n:Nat)(ts:Ts)(l:aW)(H:List O)(b:Bool)(H':List O):Prop:=∀(fc:FC) (es:List Expr) (A:Around) (env:Env) (φ:Fp) (s:Shared) (Q:Bool->List O->Prop),SysOK S->okTs fc ts es=true->eT A n->St S φ H s->aB S fc env l φ s.heap->Q b H'->
 bC S.X S.M A (allTrue .Or es env) (rW S φ s Q) s
end
section
mutual #where
variable {S:be} {n m:Nat} {fc:FC} {A:Around} {env:Env} {φ φ':Fp} {s s':Shared} {l:aW} {H H' H1 H2 H3 H4:List O} {v x y z w:V} {a b c d:C} {op o1 o2 o3:CmpOp} {r r2 r3:Bool} {ts:Ts} {t:T}
theorem iO{Q:Bool->List O->Prop}(X:bZ fL φ φ' s s')(T:St S φ' H s')(q:Q r H):rW S φ s Q r s':=⟨_,_,_,X,T,rfl,q⟩
theorem TV.val(h:EV S n a l H (.bool r) H1):TV S n (.val a) l H r H1:=fun Q q fc e ok he A env φ s ao st eo=>by
 refine(?_:bC _ _ _ (isTrue e env (eval e env)) _ s);refine ba (aV he) fun hv he=>?_;rw [tf hv];refine am (h.run ok he ao st eo fun v s1 φ1 X1 T1 E1 r1=>az (aO (aK ?_)));exact er r1 (wpAny_truthy_bool (iO X1 T1 q))
theorem TV.not(h:TV S n t l H r H1):TV S n (.not t) l H (!r) H1:=fun Q q fc e ok he A env φ s ao st eo=>by
 refine fP (wy he) fun o e p z h2=>?_;clear he;subst z;refine ba (aV h2) fun h3 h2=>?_;obtain rfl:=eq_of_beq h3;exact am (h.run ok h2 ao st eo fun s1 φ1 X1 T1 E1=>aq (iO X1 T1 q))
theorem CH.last(hb:EV S n b l H y H1)(hc:CM S op x y H1 r):CH S n [op] (.cons b .nil) l x H r H1:=fun fc es A env φ s p v Q ok he ao st eo rx q=>by
 refine cG he fun e z h2 h3=>?_;haveI z:=(mJ h3)▸z;clear he h3;refine er z ?_;refine am (aO (hb.run ok h2 ao st eo fun u s1 φ1 X1 T1 E1 r1=>az (aK (wpAny_bind (wpAny_operating (wpAny_mono (hc (Q:=fun v' H'=>v'=.bool r/\H'=H1) ok.pr ao.un1 T1 (rx.mono X1.pre) r1 ⟨rfl,rfl⟩) (fun c s2 z=>?_) fun _ _ e=>e))))));obtain⟨φ2,H2,w,X2,T2,r2,rfl,rfl⟩:=z;exact er r2 (wpAny_holding (wpAny_truthy_bool (iO (X1.trans X2) T2 q)))
theorem CH.more{ops:List CmpOp}{cs:Cs}(hb:EV S n b l H y H1)(hc:CM S op x y H1 true)(hr:CH S n (o2::ops) (.cons c cs) l y H1 r H2):CH S n (op::o2::ops) (.cons b (.cons c cs)) l x H r H2:=fun fc es A env φ s p v Q ok he ao st eo rx q=>by
 refine cG he fun e z h2 h3=>cG h3 fun e2 z2 _ _=>?_;rw [z2] at z h3;refine er z ?_;haveI e1:testChain p v (op::o2::ops) (evalEach (e::e2::es.tail.tail) env)=(do
   let rv ← holding [v] (eval e env)
   standAt p
   let c ← holding [v,rv] (compareOp op v rv)
   release [v,rv] [c]
   if ← holding [c,rv] (truthy c) then testChain p rv (o2::ops) (evalEach (e2::es.tail.tail) env) else pure false):=rfl
 refine er e1 ?_;refine am (aO (hb.run ok h2 ao st eo fun u s1 φ1 X1 T1 E1 r1=>az (ax (wpAny_holding (wpAny_mono (hc (Q:=fun v' H'=>v'=.bool true/\H'=H1) ok.pr ao.un1 T1 (rx.mono X1.pre) r1 ⟨rfl,rfl⟩) (fun c s2 z=>?_) fun _ _ e=>e)))));obtain⟨φ2,H2',w,X2,T2,r2,rfl,rfl⟩:=z;exact er r2 (ax (wpAny_release (ax (wpAny_holding (wpAny_truthy_bool (br (X1.trans X2) (hr _ _ _ _ _ _ _ _ _ ok h3 ao T2 (E1.ext X2) (r1.mono X2.pre) q)))))))
theorem TV.chain{ops:List CmpOp}{cs:Cs}(ha:EV S n a l H x H1)(hc:CH S n ops cs l x H1 r H2):TV S n (.cmp a ops cs) l H r H2:=fun Q q fc e ok he A env φ s ao st eo=>by
 refine u8 (tO he) fun e1 ops' es p z h2=>?_;clear he;subst z;refine ba (aV h2) fun h3 h4=>eJ h4 fun h5 h6 h7=>ba (aV h7) fun h7 h8=>?_;clear h2 h4;refine(?_:bC _ _ _ (do testChain p (← eval e1 env) ops' (markedEach ops' es (evalEach es env))) _ s)
 obtain rfl:=eq_of_beq h3;exact er (vA _ h5 (eq_of_beq h6) (yD es env)) (am (ha.run ok h7 ao st eo fun v s1 φ1 X1 T1 E1 r1=>br X1 (hc _ _ _ _ _ _ _ _ _ ok h8 ao T1 E1 r1 q)))
theorem ag(ha:EV S n a l H x H1)(hb:EV S n b l H1 y H2)(hc:CM S op x y H2 r):TV S n (.cmp a [op] (.cons b .nil)) l H r H2:=.chain ha (.last hb hc)
theorem kV(ha:EV S n a l H x H1)(hb:EV S n b l H1 y H2)(h1:CM S o1 x y H2 r)(hc:EV S n c l H2 z H3)(h2:CM S o2 y z H3 r2)(hh:r=true) :
  TV S n (.cmp a [o1,o2] (.cons b (.cons c .nil))) l H r2 H3:=.chain ha (.more hb (hh▸h1) (.last hc h2))
theorem Be(ha:EV S n a l H x H1)(hb:EV S n b l H1 y H2)(h1:CM S o1 x y H2 r)(hc:EV S n c l H2 z H3)(h2:CM S o2 y z H3 r2)
  (hd:EV S n d l H3 w H4) (h3:CM S o3 z w H4 r3) (hh:r=true) (hh2:r2=true):TV S n (.cmp a [o1,o2,o3] (.cons b (.cons c (.cons d .nil)))) l H r3 H4:=.chain ha (.more hb (hh▸h1) (.more hc (hh2▸h2) (.last hd h3)))
theorem bh(h:bq S n ts l H r H1):TV S n (.and ts) l H r H1:=fun Q q fc e ok he A env φ s ao st eo=>by
 refine fP (qo he) fun o es p z h2=>?_;clear he;subst z;cases eq_of_beq (aV h2).1;exact h _ _ _ _ _ _ _ ok (aV h2).2 ao st eo q
theorem fJ(h:fg S n ts l H r H1):TV S n (.or ts) l H r H1:=fun Q q fc e ok he A env φ s ao st eo=>by
 refine fP (qo he) fun o es p z h2=>?_;clear he;subst z;cases eq_of_beq (aV h2).1;exact h _ _ _ _ _ _ _ ok (aV h2).2 ao st eo q
theorem all_cons{o:BoolOp}{e:Expr}{es:List Expr}:allTrue o (e::es) env=(do
    match o,← isTrue e env (eval e env) with
    | .And,false=>pure false
    | .Or,true=>pure true
    | _,_=>allTrue o es env):=rfl
theorem bq.nil:bq S n .nil l H true H:=fun _ _ _ _ _ _ _ _ he _ st _ q=>by
 exact er (mJ he) (aq (iO .refl st q))
theorem bq.yes(ht:TV S n t l H r H1)(hr:r=true)(h:bq S n ts l H1 r2 H2):bq S n (.cons t ts) l H r2 H2:=fun _ es _ _ _ _ _ ok he ao st eo q=>by
 refine cG he fun e z h2 h3=>?_;subst hr;refine er z ?_;exact er all_cons (am (ht.run ok h2 ao st eo fun s1 φ1 X1 T1 E1=>br X1 (h _ _ _ _ _ _ _ ok h3 ao T1 E1 q)))
theorem bq.no(ht:TV S n t l H r H1)(hr:r=false):bq S n (.cons t ts) l H false H1:=fun _ es _ _ _ _ _ ok he ao st eo q=>by
 refine cG he fun e z h2 h3=>?_;subst hr;refine er z ?_;exact er all_cons (am (ht.run ok h2 ao st eo fun s1 φ1 X1 T1 E1=>aq (iO X1 T1 q)))
theorem fg.nil:fg S n .nil l H false H:=fun _ _ _ _ _ _ _ _ he _ st _ q=>by
 exact er (mJ he) (aq (iO .refl st q))
theorem fg.no(ht:TV S n t l H r H1)(hr:r=false)(h:fg S n ts l H1 r2 H2):fg S n (.cons t ts) l H r2 H2:=fun _ es _ _ _ _ _ ok he ao st eo q=>by
 refine cG he fun e z h2 h3=>?_;subst hr;refine er z ?_;exact er all_cons (am (ht.run ok h2 ao st eo fun s1 φ1 X1 T1 E1=>br X1 (h _ _ _ _ _ _ _ ok h3 ao T1 E1 q)))
theorem fg.yes(ht:TV S n t l H r H1)(hr:r=true):fg S n (.cons t ts) l H true H1:=fun _ es _ _ _ _ _ ok he ao st eo q=>by
 refine cG he fun e z h2 h3=>?_;subst hr;refine er z ?_;exact er all_cons (am (ht.run ok h2 ao st eo fun s1 φ1 X1 T1 E1=>aq (iO X1 T1 q)))
end
end
mutual #where
def jR(o:O):Option (List V):=match o with
 | .list xs=>some xs
 | .tuple xs=>some xs
 | .rng a b c=>if Builtin.Range.small a b c=true/\0<=Builtin.Range.rangeSize a b c then some (dg a b c) else none
 | _=>none
def bG(x:V)(H:List O):Option (List V):=match x with
 | .obj i=>(H[i]?).bind jR
 | _=>none
def Dw(h:Heap)(I a k:Nat)(o:O):Prop:=match o with
 | .list _=>h.IsListIter I a k
 | .tuple _=>h.IsTupleIter I a k
 | .rng a b c=>IsRangeIter h I (a+(k:Int)*c) (Builtin.Range.rangeSize a b c - k) c
 | _=>False
inductive cD(φ:Fp)(H:List O)(h:Heap)(I:Nat)(x:V)(k:Nat):Prop
 | mk (i:Nat) (p:Nat×Nat) (o:O) (e:x=.obj i) (ep:φ[i]? = some p) (hi:H[i]? = some o) (it:Dw h I p.1 k o):cD φ H h I x k
theorem Dw.keep{h h':Heap}{I a k:Nat}{o:O}(r:Dw h I a k o)(kp:∀o,h.get? I=some o->h'.get? I=some o):Dw h' I a k o:=by
 cases o with
 | list=>exact r.imp fun o=>And.imp_left (kp o)
 | tuple=>exact r.imp fun o=>And.imp_left (kp o)
 | rng=>exact kp _ r
 | _=>exact r
theorem cD.keep{φ φ':Fp}{H H':List O}{h h':Heap}{I:Nat}{x:V}{k:Nat}(r:cD φ H h I x k)(hp:φ <+: φ')(same:∀i,x=.obj i->H'[i]? = H[i]?)(kp:∀o,h.get? I=some o->h'.get? I=some o):cD φ' H' h' I x k:=
 r.casesOn fun i p o e ep hi it=>⟨i,p,o,e,jK hp ep,(same i e).trans hi,it.keep kp⟩
def aG(x:V)(H H':List O):Prop:=match x with
 | .obj i=>H'[i]? = H[i]?
 | _=>True
theorem ku{x:V}{H H':List O}(h:aG x H H'):bG x H'=bG x H:=by
 cases x with
 | obj i=>exact congrArg (Option.bind · jR) h
 | _=>rfl
end
section
mutual #where
variable {S:be} {A:Around} {E:Value->Shared->Prop} {φ φ':Fp} {H:List O} {s s':Shared} {x:V} {v:Value} {all:List V} {I k:Nat} {fc:FC} {env:Env} {loc:aW} {h h':Heap}
theorem St.but{tk:Nat}(t:St S φ H s)(k:PN I s.heap h')(n:¬fV φ I)(b:S.h₀.get? I=none):St S φ H { s with heap:=h',toks:=tk }:=
 ⟨fun b' o e=>k b' o (fun z=>by obtain rfl:=z.symm;rw [b] at e;exact aJ e) (t.base b' o e),t.rel.ext fun b' o e w=>k b' o (fun z=>n (z▸w)) e⟩
theorem jQ{Q:Value->Shared->Prop}(t:St S φ H s)(rx:VR φ x v)(e:bG x H=some all)
  (q:∀h',(∀b o,s.heap.get? b=some o->h'.get? b=some o)->cD φ H h' s.heap.objs.size x 0->Q (.ref s.heap.objs.size) { s with heap:=h' }):wpAny S.M A (pyIter v) Q E s:=by
 cases x with
 | obj i=>
  refine aZ (QY.mp (e:(H[i]?).bind jR=some all)) fun o hi ho=>t.one rx hi (fun C fs z=>by subst z;exact aJ ho) fun a x z ep g ox=>?_;subst z;have q':∀ob:Obj,Dw (s.heap.push ob) s.heap.objs.size a 0 o->Q (.ref s.heap.objs.size) { s with heap:=s.heap.push ob }:=fun ob it=>q _ (fun b o e=>OV _ e) ⟨i,_,o,rfl,ep,hi,it⟩;cases o with
  | list=>
   refine eu ox fun vs n q_a rs=>?_;obtain rfl:=q_a;exact wpAny_pyIter_list ⟨_,g,rfl,_,rfl⟩ (q' _ (jb _ (Pe _ rfl) rfl rfl))
  | tuple=>
   refine eu ox fun vs n q_a rs=>?_;obtain rfl:=q_a;exact wpAny_pyIter_tuple ⟨_,g,rfl,_,rfl⟩ (q' _ (jb _ (Pe _ rfl) rfl rfl))
  | rng a b c=>
   refine DO ox fun _ _ _ q_a=>?_;obtain rfl:=q_a;haveI hs:Builtin.Range.small a b c=true:=by
    by_cases hs:Builtin.Range.small a b c=true/\0<=Builtin.Range.rangeSize a b c
    ·exact hs.1
    ·exact aJ ((if_neg hs).symm.trans ho)
   refine wpAny_pyIter_range g hs (q' _ ?_);refine(?_:IsRangeIter _ _ (a+((0))*c) (Builtin.Range.rangeSize a b c - ((0):Int)) c);refine er (by simp:a+((0))*c=a) ?_;exact er (by simp:Builtin.Range.rangeSize a b c - ((0))=Builtin.Range.rangeSize a b c) (Pe _ rfl)
  | _=>exact aJ ho
 | _=>exact aJ e
theorem t7{a b c:Int}(h:jR (.rng a b c)=some all):all=dg a b c:=by
 by_cases hs:Builtin.Range.small a b c=true/\0<=Builtin.Range.rangeSize a b c
 ·exact Option.some.inj (h.symm.trans (if_pos hs))
 ·exact aJ ((if_neg hs).symm.trans h)
theorem cD.elim(t:St S φ H s)(r:cD φ H s.heap I x k)(e:bG x H=some all):∃a o ob,jR o=some all/\s.heap.get? a=some ob/\OX φ o ob/\Dw s.heap I a k o/\∀h' k',Dw h' I a k' o->cD φ H h' I x k':=by
 refine yL fun _ kK=>?_;obtain⟨i,p,o,rfl,ep,hi,it⟩:=r;refine ba ((t.rel.at_ i o p hi ep).get (fun C fs z=>by subst z;exact it)) fun _ q_a=>?_;have ho:jR o=some all:=by
  haveI e:(H[i]?).bind jR=some all:=e;rw [hi] at e;exact e
 refine aZ q_a fun ob g ox=>kK p.1 o ob ho g ox it fun h' k' it'=>⟨i,p,o,rfl,ep,hi,it'⟩
theorem jM{y:V}{Q:Option Value->Shared->Prop}(t:St S φ H s)(r:cD φ H s.heap I x k)(e:bG x H=some all)(hk:all[k]? = some y)
  (q:∀h' tk u,VR φ y u->PN I s.heap h'->cD φ H h' I x (k+1)->Q (some u) { s with heap:=h',toks:=tk }):wpAny S.M A (pyNext (.ref I)) Q E s:=by
 refine si (r.elim t e) fun a o ob ho g ox it mk=>?_;cases o with
 | list=>
  refine eu ox fun vs n q_a rs=>?_;obtain rfl:=q_a;obtain rfl:=Option.some.inj ho;refine aZ (rs.get hk) fun u g1 g2=>wpAny_pyNext_list_item it ⟨_,g,rfl,_,rfl⟩ (by simpa using g1) fun h' it' sb=>q h' s.toks u g2 sb.extBut (mk _ _ it')
 | tuple=>
  refine eu ox fun vs n q_a rs=>?_;obtain rfl:=q_a;obtain rfl:=Option.some.inj ho;refine aZ (rs.get hk) fun u g1 g2=>wpAny_pyNext_tuple_item it ⟨_,g,rfl,_,rfl⟩ (by simpa using g1) fun h' it' sb=>q h' s.toks u g2 sb.extBut (mk _ _ it')
 | rng a b c=>
  obtain rfl:=t7 ho;have hn:k<jg a b c:=by simpa [dg] using (OH.mp hk).1
  haveI hy:y=.int (a+(k)*c):=by
   simp [dg,hn] at hk;exact hk.symm
  subst hy;refine wpAny_pyNext_range_item it (by unfold jg at hn;lia) fun h' it' sb=>q h' _ _ (.int _ _) sb.extBut (mk _ _ ?_);haveI e1:a+(k)*c+c=a+((k+1:Nat))*c:=by
   rw [RT,Int.add_mul];simp [S7]
  haveI e2:Builtin.Range.rangeSize a b c - (k) - 1=Builtin.Range.rangeSize a b c - ((k+1)):=by lia
  refine(?_:IsRangeIter _ _ _ _ _);refine el e1 ?_;exact el e2 it'
 | _=>exact it.elim
theorem lD(hh:A.handled=none){Q:Option Value->Shared->Prop}(t:St S φ H s)(r:cD φ H s.heap I x k)(e:bG x H=some all)(hk:all.length<=k)
  (q:∀h',PN I s.heap h'->Q none { s with heap:=h' }):wpAny S.M A (pyNext (.ref I)) Q E s:=by
 refine si (r.elim t e) fun a o ob ho g ox it _=>?_;cases o with
 | list=>
  refine eu ox fun vs n q_a rs=>?_;obtain rfl:=q_a;obtain rfl:=Option.some.inj ho;exact wpAny_pyNext_list_end hh it ⟨_,g,rfl,_,rfl⟩ (by rw [QC];exact Pp (by rw [rs.length];exact hk)) q
 | tuple=>
  refine eu ox fun vs n q_a rs=>?_;obtain rfl:=q_a;obtain rfl:=Option.some.inj ho;exact wpAny_pyNext_tuple_end hh it ⟨_,g,rfl,_,rfl⟩ (by rw [QC];exact Pp (by rw [rs.length];exact hk)) q
 | rng a b c=>
  obtain rfl:=t7 ho;have hn:jg a b c<=k:=by simpa [dg] using hk
  exact wpAny_pyNext_range_end hh it (by unfold jg at hn;lia) q
 | _=>exact it.elim
theorem sH{Q:Value->Shared->Prop}(r:cD φ H s.heap I x k)(q:Q (.ref I) s):wpAny S.M A (pyIter (.ref I)) Q E s:=by
 obtain⟨i,p,o,_,_,_,it⟩:=r;cases o with
 | list=>exact wpAny_pyIter_listiter it q
 | tuple=>exact wpAny_pyIter_tupleiter it q
 | rng=>exact wpAny_pyIter_rangeiter it q
 | _=>exact it.elim
theorem cD.ex(r:cD φ H h I x k):∃o,h.get? I=some o/\∃n fs,o.cls=.type n/\o.data=.fields fs/\["enumerate","zip","dict_itemiterator","dict_reverseitemiterator","odict_iterator","itertools.zip_longest","itertools.pairwise"].contains n=false:=by
 refine ma fun _ kK=>?_;obtain⟨i,p,o,_,_,_,it⟩:=r;cases o with
 | list=>refine eZ it fun o a b c=>?_;exact kK o a (lN _ _ b c (by decide +kernel))
 | tuple=>refine eZ it fun o a b c=>?_;exact kK o a (lN _ _ b c (by decide +kernel))
 | rng=>exact kK _ it (lN _ _ rfl rfl (by decide +kernel))
 | _=>exact it.elim
theorem lj{target:Expr}{u:Value}{Q:Unit->Shared->Prop}(r:cD φ H s.heap I x k)(q:Q () s):wpAny S.M A (letOwnedTupleGo target (.ref I) u) Q E s:=by
 refine aZ r.ex fun o ho q_a=>fQ q_a fun n fs h1 h2 h3=>?_;have body:wpAny S.M A (do
  let (.ref r,.ref a):=(Value.ref I,u) | return
  let o ← load r
  match o.cls,o.data with
  | .type n,.fields vs=>
   if ["enumerate","zip","dict_itemiterator","dict_reverseitemiterator","odict_iterator","itertools.zip_longest","itertools.pairwise"].contains n&&vs[0]? == some (rawInt a) then
    rule "for.unpacks-the-owned-tuple"
    updateField r 0 .none
  | _,_=>pure ()) Q E s:=by
  cases u with
  | ref a=>
   obtain⟨oc,od,odt,osl⟩:=o;refine wpAny_bind (wpAny_load ho ?_);dsimp only at h1 h2;subst h1 h2;dsimp only;exact er h3 (wpAny_pure q)
  | _=>exact wpAny_pure q
 cases target with
 | Tuple=>exact body
 | List=>exact body
 | _=>exact wpAny_pure q
def IW(fc:FC)(env:Env)(I:Nat):Prop:=env.locals≠I/\∀(i:Nat) (x:Str) (c:Nat),fc.names[i]? = some x->(fc.kind x=some .cell∨fc.kind x=some .free)->env.cells.lookup x=some c->c≠I
theorem aB.outs(eo:aB S fc env loc φ h)(n1:∀o,h.get? I=some o->(∀es ep,o.data≠.dict es ep)/\∀v,o.data≠.cell v):IW fc env I:=by
 refine⟨?_,fun i x c h1 h2 h3=>?_⟩
 ·rintro rfl;obtain⟨m,⟨o,es,ep,e,d,_⟩,_⟩:=eo.ns;exact(n1 o e).1 _ _ d
 ·rintro rfl;obtain⟨c',a1,_,_,_,cv,⟨o,e,d⟩,_⟩:=eo.cell i x h1 h2;obtain rfl:=Option.some.inj (a1.symm.trans h3);exact(n1 o e).2 _ d
theorem aB.out(eo:aB S fc env loc φ h)(n:h.get? I=none):IW fc env I:=eo.outs fun o e=>tY (e.symm.trans n)
theorem qV(eo:aB S fc env loc φ h)(r:cD φ H h I x k):IW fc env I:=by
 refine aZ r.ex fun o ho q_a=>fQ q_a fun nn fs h1 h2 _=>eo.outs fun o' e=>?_;have e':=h2.symm.trans (congrArg Obj.data (BA ho e));exact⟨fun c d e=>Data.noConfusion (e'.trans e),fun c e=>Data.noConfusion (e'.trans e)⟩
theorem aB.but(eo:aB S fc env loc φ h)(k:PN I h h')(out:IW fc env I):aB S fc env loc φ h':=
 { eo with ns:=eo.ns.keep (Pw _) fun o e=>k _ _ out.1 e,cell:=fun i x h1 h2=>(eo.cell i x h1 h2).keep (Pw _) fun c o e n g=>⟨k _ _ (out.2 i x c h1 h2 e) g,n⟩ }
theorem bZ.but{W:Nat->Prop}{tk:Nat}(X:bZ W φ φ' s s')(k:PN I s'.heap h')(n:s.heap.get? I=none):bZ W φ φ' s { s' with heap:=h',toks:=tk } where
 pre:=X.pre
 new:=X.new
 keep:=fun b o e n' w=>k b o (fun z=>by subst z;rw [n] at e;exact aJ e) (X.keep b o e n' w)
 wex:=fun b o w e=>(X.wex b o w e).imp fun o' e'=>k b o' (fun z=>by subst z;rw [n] at e;exact aJ e) e'
 os:=X.os
 gens:=X.gens
theorem cq{a:Nat}(k:cX h a):h.get? a=none:=by
 cases e:h.get? a with
 | none=>rfl
 | some o=>exact absurd (k _ _ e) (Pv _)
theorem bZ.above{a:Nat}(X:bZ fL φ φ' s s')(t:St S φ' H s')(ab:cX s'.heap a):cX s.heap a:=fun b o e=>by
 by_cases w:fV φ b
 ·refine aZ w fun q hq e1=>?_;haveI:=t.rel.all_lt ab q (X.pre.subset hq);rcases e1 with rfl | rfl
  ·exact this.1
  ·exact this.2
 ·exact ab _ _ (X.keep b o e w id)
end
end
section
mutual #where
variable {X:Ctx->Prop} {M:Model} {A:Around} {s:Shared} {env:Env}
theorem qp{α:Type}{m:Sem α}{Q:Except Value α->Shared->Prop}(h:bC X M A m (fun a s'=>Q (.ok a) s') s):bC X M A m.attempt Q s:=fun Γ p hΓ x=>by
 rw [Sem.wp_attempt];exact Sem.wp_mono M Γ m (fun _ _ _ h'=>h') (fun _ _ _ h'=>h'.elim) p s (h Γ p hΓ x)
def oZ(X:Ctx->Prop)(M:Model)(A:Around)(use:Option (Value->Sem Unit))(K:Value->Shared->Prop)(acc:Value)(C:Nat)(s':Shared):Prop:=match use with
 | none=>∃m,s'.heap.Ns C m/\∀h',RE C s'.heap h'->K acc { s' with heap:=h' }
 | some u=>bC X M A (u acc) (fun _ s''=>∃m,s''.heap.Ns C m/\∀h',RE C s''.heap h'->K .none { s'' with heap:=h' }) s'
theorem j6(xk:p9 X){e:Expr}{scope:Scope}{pos:Pos}{newAcc first:Sem Value}{g:Comprehension}{gs:List Comprehension}{cl:List (Str×Addr)}{use:Option (Value->Sem Unit)}{K:Value->Shared->Prop}
  (hcl:clausesOf e=g::gs) (hs:∀x,foldedSetIterable g.iter env x=pure x) (hclos:closureFor scope env=pure cl)
  (hkind:scope.kind=.function) (hnames:∀x∈scope.names,x.2=.local->scope.names.lookup x.1=some .local)
  (h:bC X M A first (fun x s₁=>bC X M A (pyIter x) (fun it s₂=>bC X M A newAcc (fun acc s₃=>
   bC X M A (newFunctionEnv scope env.globals cl [] env.qual none .none (some env)) (fun cenv s₄=>
    cB X M A (.compStart e 0 it acc { cenv with scope:=relabel scope env }) (fun _ s'=>oZ X M A use K acc cenv.locals s') s₄) s₃) s₂) s₁) s) :
  bC X M A (comprehension e scope env pos newAcc false first use) K s:=by
 unfold comprehension;refine er hclos (er hcl ?_);haveI stand:∀ {α:Type} {c:Prop} [Decidable c] {pos:Pos} {k:PUnit->Sem α} {Q:α->Shared->Prop} {s:Shared},bC X M A (k ()) Q s->bC X M A (if c then (standAt pos >>= k) else k ()) Q s:=by
  intro α c _ pos k Q s h;split
  ·exact az h
  ·exact h
 refine am (aH h fun x s₁ h₁=>az ?_);refine ax (wpAny_of_eq (hs x) ?_);refine am (aO (aH h₁ fun it s₂ h₂=>stand (am (aH h₂ fun acc s₃ h₃=>am (aq (am (aH h₃ fun cenv s₄ h₄=>?_)))))));have hv:∀x∈(scope.names.filter fun x=>(x.2 == .local||x.2 == .cell)&&x.1 != (".0":Str)).reverse,x.2=.local->
   Env.kindOf { cenv with scope:=relabel scope env } x.1=some .local:=fun x hx hl=>lookup_relabel_local (hnames x (PL.mp (RK.mp hx)).1 hl)
 haveI hv':∀x∈(scope.names.filter fun x=>(x.2 == .local||x.2 == .cell)&&x.1 != (".0":Str)).reverse.drop 1++(scope.names.filter fun x=>(x.2 == .local||x.2 == .cell)&&x.1 != (".0":Str)).reverse.take 1,
   x.2=.local->Env.kindOf { cenv with scope:=relabel scope env } x.1=some .local:=fun x hx hl=>by
  rcases O9.mp hx with h1 | h1
  ·exact hv x (Sf h1) hl
  ·exact hv x (Rn h1) hl
 refine aO (am (qp (aO (tP xk (eI h₄ fun f s' hr=>?_) rfl))));cases use with
 | none=>
  refine aZ hr fun m hn hr=>ax (wpAny_holding (wpAny_comp_letGo hkind _ s' m hv hn fun h' m' _ hs'=>aq (hr h' hs')))
 | some u=>
  refine ax (wpAny_rule (am (aO (aH hr fun _ s'' hr'=>?_))));refine aZ hr' fun m hn hr'=>ax (wpAny_comp_letGo hkind _ s'' m hv' hn fun h' m' _ hs'=>aq (hr' h' hs'))
end
end
section
mutual #where
variable {X:Ctx->Prop} {prog:Program} {w:World} {A:Around} {s:Shared}
theorem mz(xk:p9 X){elt target iter:Expr}{ifs:List Expr}{scope:Scope}{pos:Pos}{it acc:Value}{env:Env}{R:Flow->Shared->Prop}
  (h0:cB X (model prog w) A (.compLoop (.ListComp elt [⟨target,iter,ifs,0⟩] scope pos) 0 it acc env) R s)
  (h:wpAny (model prog w) A (pyIter it) (fun it' s'=>cB X (model prog w) A (.compLoop (.ListComp elt [⟨target,iter,ifs,0⟩] scope pos) 0 it' acc env) R s') (fun _ _=>False) s) :
  cB X (model prog w) A (.compStart (.ListComp elt [⟨target,iter,ifs,0⟩] scope pos) 0 it acc env) R s:=by
 refine bK xk ?_;refine cT ?_;refine ax (wpAny_askSetting (zH ?_));split
 ·first
   | exact am (aq (aq (bT rfl rfl h0)))
   | exact aq ⟨rfl,rfl,h0⟩
 ·first
   | exact ax (wpAny_rule (az (ax (wpAny_mono h (fun it' s' h'=>aq (bT rfl rfl h')) fun _ _ x=>x))))
theorem nL(xk:p9 X){elt target iter:Expr}{ifs:List Expr}{scope:Scope}{pos:Pos}{it acc:Value}{env:Env}{R:Flow->Shared->Prop}(I:Nat->Shared->Prop)
  (turn:∀n s,I n s->bC X (model prog w) A (pyNext it) (fun r s₁=>match r with
   | none=>R .next s₁
   | some v=>bC X (model prog w) A (letOwnedTupleGo target it v) (fun _ s₁=>bC X (model prog w) A (assign target env v) (fun _ s₂=>
     bC X (model prog w) A (forIn ifs true fun c r=>if r=true then do let ok ← isTrue c env (eval c env);pure (ForInStep.yield ok) else pure (ForInStep.yield r)) (fun ok s₃=>
      if ok=true then bC X (model prog w) A (eval elt env) (fun x s₄=>
       bC X (model prog w) A (call (.builtin "list.append") [acc,x]) (fun _ s₅=>∃m,m<n/\I m s₅) s₄) s₃
      else ∃m,m<n/\I m s₃) s₂) s₁) s₁) s)
  (n:Nat) (h:I n s) :
  cB X (model prog w) A (.compLoop (.ListComp elt [⟨target,iter,ifs,0⟩] scope pos) 0 it acc env) R s:=by
 refine j0 xk rfl rfl I (fun n s hI=>?_) n h;refine(?_:bC _ _ A ((compTurn (.ListComp elt [⟨target,iter,ifs,0⟩] scope pos) 0 it acc env).onRaise (fun x=>do noteFrame x env;theTreesLotGoes x)) _ s);refine cT ?_;rw [compTurn_list];refine az (am (aH (turn n s hI) fun r s₁ h₁=>?_));cases r with
 | none=>exact aq h₁
 | some v=>
  refine am (aH h₁ fun _ s₁' h₁'=>am (aH h₁' fun _ s₂ h₂=>am (aH h₂ fun ok s₃ h₃=>?_)));cases ok with
  | false=>exact aq (.inl ⟨rfl,h₃⟩)
  | true=>exact am (am (aH h₃ fun x s₄ h₄=>am (aH h₄ fun _ s₅ h₅=>aq (aq (.inl ⟨rfl,h₅⟩)))))
end
end
mutual #where
def kS(scope:Scope)(env:Env):List (Str×Addr):=((scope.names.filter fun p=>p.2 == .free).map fun p=>(p.1,(env.cells.lookup p.1).getD 0)).reverse
theorem oJ{scope:Scope}{env:Env}(h:∀p∈scope.names,p.2=.free->∃c,env.cells.lookup p.1=some c):closureFor scope env=pure (kS scope env):=by
 haveI key:∀(l:List (Str×NameKind)) (cs:List (Str×Addr)),(∀p∈l,p.2=.free->∃c,env.cells.lookup p.1=some c)->
   (forIn l cs fun(p:Str×NameKind) cs=>(if (p.2 == NameKind.free)=true then do let c ← cellOf env p.1;pure (ForInStep.yield ((p.1,c)::cs)) else pure (ForInStep.yield cs):Sem (ForInStep (List (Str×Addr))))) =
    (pure (((l.filter fun p=>p.2 == .free).map fun p=>(p.1,(env.cells.lookup p.1).getD 0)).reverse++cs):Sem _):=by
  intro l;induction l with
  | nil=>intro cs _;rfl
  | cons p l ih=>
   intro cs hl;rw [RO];by_cases q:(p.2 == NameKind.free)=true
   ·refine b7 (hl p (.head _) (by simpa using q)) fun c hc=>er (if_pos q) ?_;haveI hcell:cellOf env p.1=pure c:=by unfold cellOf;refine er hc ?_;rfl
    refine er hcell ?_;refine(?_:(forIn l ((p.1,c)::cs) _:Sem _)=_);refine er (ih _ fun p' hp'=>hl p' (.tail _ hp')) ?_;simp [q,hc]
   ·refine er (if_neg q) ?_;refine(?_:(forIn l cs _:Sem _)=_);refine er (ih _ fun p' hp'=>hl p' (.tail _ hp')) ?_;simp [q]
 haveI:=key scope.names [] h;rw [OO] at this;show(forIn scope.names [] _ >>= fun r=>pure r)=_;refine er this ?_;rfl
theorem gM{α:Type}{x:Str}{a:α}{l:List (Str×α)}(h:(l.map (·.1)).Nodup)(m:(x,a)∈l):l.lookup x=some a:=by
 induction l with
 | nil=>exact nomatch m
 | cons p l ih=>
  rw [O1,Pu] at h;refine er PO ?_;rcases OY.mp m with e | m2
  ·refine el e ?_;rw [beq_self_eq_true]
  ·exact er (beq_eq_false_iff_ne.mpr fun e:x=p.1=>h.1 (e▸Pm.mpr (bN _ m2 rfl))) (ih h.2 m2)
theorem nM{scope:Scope}{env:Env}(nd:(scope.names.map (·.1)).Nodup){x:Str}:(kS scope env).lookup x=if scope.names.lookup x=some .free then some ((env.cells.lookup x).getD 0) else none:=by
 split;haveI nd2:((kS scope env).map (·.1)).Nodup:=by
  refine er Sx ?_;refine List.pairwise_reverse.mpr (List.Pairwise.imp Ne.symm ?_);refine er PX ?_;haveI:((fun p:Str×Addr=>p.1) ∘ fun p:Str×NameKind=>(p.1,(env.cells.lookup p.1).getD 0))=fun p=>p.1:=rfl;exact er this (List.Nodup.sublist (List.Sublist.map _ List.filter_sublist) nd)
 ·rename_i h;refine gM nd2 ?_;refine er (propext RK) ?_;refine Pm.mpr ?_;exact bN (x,.free) (PL.mpr ⟨eC h,rfl⟩) rfl
 ·rename_i h;cases e:(kS scope env).lookup x with
  | none=>rfl
  | some c=>
   have m:=eC e;unfold kS at m;rw [RK,Pm] at m;refine aZ m fun p hp e1=>?_;obtain⟨pn,pk⟩:=p;refine ba (PL.mp hp) fun hp1 hp2=>?_;haveI hk:pk=.free:=by simpa using hp2
   subst hk;cases e1;exact absurd (gM nd hp1) h
theorem mn{f:Str->NameKind->NameKind}{x:Str}:∀(l:List (Str×NameKind)),(l.map fun(p:Str×NameKind)=>(p.1,f p.1 p.2)).lookup x=(l.lookup x).map (f x):=by
 intro l;induction l with
 | nil=>
  exact rfl
 | cons it_ l ih_=>
  obtain⟨y,b⟩:=it_;refine er O1 ?_;refine er PO (er PO ?_);cases q:x == y with
  | true=>refine er (eq_of_beq q) ?_;rfl
  | false=>exact ih_
theorem fX{scope:Scope}{fc:FC}{x:Str}:(dU scope fc).names.lookup x=(scope.names.lookup x).map fun k=>if (k == .free&&fc.scope.kind == .function&&fc.kind x == some .cell) then .cell else k:=by
 haveI e:(dU scope fc).names=scope.names.map fun(p:Str×NameKind)=>(p.1,(fun n k=>if (k == .free&&fc.scope.kind == .function&&fc.kind n == some .cell) then NameKind.cell else k) p.1 p.2):=by
  refine Pz fun p _=>?_;dsimp only;split<;>rfl
 exact er e (mn (f:=fun n k=>if (k == NameKind.free&&fc.scope.kind == .function&&fc.kind n == some .cell) then NameKind.cell else k) _)
def d9(fc:FC)(env:Env)(b:Nat):Prop:=b=env.locals∨∃(i:Nat) (x:Str),fc.names[i]? = some x/\(fc.kind x=some .cell∨fc.kind x=some .free)/\env.cells.lookup x=some b
end
section
mutual #where
variable {S:be} {A:Around} {E:Value->Shared->Prop} {φ:Fp} {H:List O} {s:Shared} {fc:FC} {env:Env} {loc:aW}
theorem aB.set_local{i:Nat}{x:Str}{y:V}{v:Value}{h h':Heap}(eo:aB S fc env loc φ h)(hx:fc.names[i]? = some x)(hk:fc.kind x=some .local)(r:VR φ y v)
  {m:Str->Option Value} (hm:∀(i:Nat) (x:Str) (y:V),fc.names[i]? = some x->fc.kind x=some .local->loc[i]? = some (some y)->∃v,m x=some v/\VR φ y v) (hn:h'.Ns env.locals fun z=>if z=x then some v else m z)
  (hs:PN env.locals h h'):aB S fc env (loc.set i (some y)) φ h':=by
 refine⟨eo.scope,eo.fk,eo.glob,eo.bins,eo.low,eo.own,by simp [eo.len],eo.nd,⟨_,hn,fun j z w h1 h2 h3=>?_⟩,fun j z h1 h2=>?_,eo.sep⟩
 ·by_cases q:z=x
  ·obtain rfl:=q.symm;haveI ij:i=j:=by
    obtain⟨l2,e2⟩:=OH.mp h1;obtain⟨l1,e1⟩:=OH.mp hx;exact(Q7 eo.nd).mp (e1.trans e2.symm)
   subst ij;replace h3:=(Pl (by exact er eo.len ((OH.mp hx).1)))▸h3;cases h3;exact bN v (if_pos rfl) r
  ·haveI ij:i≠j:=by rintro rfl;replace h1:=hx▸h1;obtain rfl:=Option.some.inj h1;exact q rfl
   rw [O7 ij] at h3;refine aZ (hm j z w h1 h2 h3) fun v' a b=>bN v' (by exact er (if_neg q) a) b
 ·obtain⟨c,a1,a2,a3,a4,cv,a5,a6⟩:=eo.cell j z h1 h2;haveI ij:i≠j:=by
   rintro rfl;replace h1:=hx▸h1;obtain rfl:=Option.some.inj h1;replace h2:=hk▸h2;rcases h2 with h2 | h2<;>exact absurd h2 (by decide)
  refine⟨c,a1,a2,a3,a4,cv,jm a5 fun o e=>hs _ _ a3 e,fun w h3=>?_⟩;rw [O7 ij] at h3;exact a6 w h3
theorem aB.set_cell{i:Nat}{x:Str}{y:V}{v:Value}{h h':Heap}{c:Nat}(eo:aB S fc env loc φ h)(hx:fc.names[i]? = some x)(hk:fc.kind x=some .cell∨fc.kind x=some .free)(r:VR φ y v)
  (hc:env.cells.lookup x=some c) (hn:h'.IsCell c (some v)) (hs:PN c h h'):aB S fc env (loc.set i (some y)) φ h':=by
 obtain⟨c',b1,b2,b3,b4,_⟩:=eo.cell i x hx hk;obtain⟨m,hm,hl⟩:=eo.ns;haveI ec:=Option.some.inj (b1.symm.trans hc);subst ec;refine⟨eo.scope,eo.fk,eo.glob,eo.bins,eo.low,eo.own,by simp [eo.len],eo.nd,⟨m,pF hm fun o e=>hs _ _ (Ne.symm b3) e,fun j z w h1 h2 h3=>?_⟩,fun j z h1 h2=>?_,eo.sep⟩
 ·haveI ij:i≠j:=by
   rintro rfl;replace h1:=hx▸h1;obtain rfl:=Option.some.inj h1;replace hk:=h2▸hk;rcases hk with hk | hk<;>exact absurd hk (by decide)
  rw [O7 ij] at h3;exact hl j z w h1 h2 h3
 ·by_cases ij:i=j
  ·subst ij;replace h1:=hx▸h1;refine el (Option.some.inj h1) ?_;refine⟨_,hc,b2,b3,b4,some v,hn,fun w h3=>?_⟩;replace h3:=(Pl (by exact er eo.len ((OH.mp hx).1)))▸h3;cases h3;exact bN v rfl r
  ·obtain⟨d,a1,a2,a3,a4,cv,a5,a6⟩:=eo.cell j z h1 h2;haveI ne:d≠c':=fun q=>ij (eo.sep i j x z c' hx h1 hc (q▸a1));refine⟨d,a1,a2,a3,a4,cv,jm a5 fun o e=>hs _ _ ne e,fun w h3=>?_⟩;rw [O7 ij] at h3;exact a6 w h3
theorem lQ{i:Nat}{x:Str}{y:V}{v:Value}{Q:Unit->Shared->Prop}(eo:aB S fc env loc φ s.heap)(hx:fc.names[i]? = some x)(hk:fc.kind x=some .local∨fc.kind x=some .cell)(r:VR φ y v)
  (q:∀a h' tk,d9 fc env a->(fc.kind x=some .local->a=env.locals)->(∃o,s.heap.get? a=some o)->(∃o,h'.get? a=some o)->PN a s.heap h'->¬fV φ a->S.h₀.get? a=none->
   aB S fc env (loc.set i (some y)) φ h'->Q () { s with heap:=h',toks:=tk }):wpAny S.M A (storeName env x v) Q E s:=by
  rcases hk with hk | hk
  ·obtain⟨m,hm,hl⟩:=eo.ns;refine fP (id hm) fun oL _ _ hoL _=>wpAny_storeName_local (by unfold Env.kindOf;exact er eo.scope hk) hm (fun h' hn hs=>?_) (by refine er eo.scope (er eo.fk ?_);rfl);refine fP (id hn) fun oL' _ _ hoL' _=>q env.locals h' _ (.inl rfl) (fun _=>rfl) ⟨_,hoL⟩ ⟨_,hoL'⟩ hs.extBut eo.own (cq eo.low) (eo.set_local hx hk r hl hn hs.extBut)
  ·obtain⟨c,a1,a2,a3,a4,cv,a5,a6⟩:=eo.cell i x hx (.inl hk);refine wpAny_storeName_cell (by exact er eo.scope eo.fk) (by unfold Env.kindOf;exact er eo.scope hk) a1 a5 fun h' hn hs=>aZ (id a5) fun oc hoc _=>aZ (id hn) fun oc' hoc' _=>q c h' s.toks (.inr (lN i x hx (.inl hk) a1)) (fun z=>by rw [hk] at z;exact absurd z (by decide)) ⟨_,hoc⟩ ⟨_,hoc'⟩ hs.extBut a4 (cq a2) (eo.set_cell hx (.inl hk) r a1 hn hs.extBut)
theorem j2{i:Nat}{x:Str}{p:Pos}{y:V}{v:Value}{Q:Unit->Shared->Prop}(eo:aB S fc env loc φ s.heap)(hx:fc.names[i]? = some x)(hk:fc.kind x=some .local∨fc.kind x=some .cell)(r:VR φ y v)
  (q:∀a h' tk,d9 fc env a->(fc.kind x=some .local->a=env.locals)->(∃o,s.heap.get? a=some o)->(∃o,h'.get? a=some o)->PN a s.heap h'->¬fV φ a->S.h₀.get? a=none->
   aB S fc env (loc.set i (some y)) φ h'->Q () { s with heap:=h',toks:=tk }):wpAny S.M A (assign (.Name x p) env v) Q E s:=wpAny_assign_Name (lQ eo hx hk r q)
theorem nQ{i:Nat}{x:Str}{y:V}{v:Value}{Q:Unit->Shared->Prop}(eo:aB S fc env loc φ s.heap)(hx:fc.names[i]? = some x)(hk:fc.kind x=some .local∨fc.kind x=some .cell)(r:VR φ y v)
  (q:∀a h' tk,d9 fc env a->(fc.kind x=some .local->a=env.locals)->(∃o,s.heap.get? a=some o)->(∃o,h'.get? a=some o)->PN a s.heap h'->¬fV φ a->S.h₀.get? a=none->
   aB S fc env (loc.set i (some y)) φ h'->Q () { s with heap:=h',toks:=tk }):wpAny S.M A (bindName env x v) Q E s:=by
 exact wpAny_bind (wpAny_holding (wpAny_point (wpAny_bind (lQ eo hx hk r fun a h' tk a1 a2 a3 a4 a5 a6 a7 a8=>wpAny_point (q a h' tk a1 a2 a3 a4 a5 a6 a7 a8)))))
theorem yS{scope:Scope}{x:Str}{caps:List Nat}{C:Nat}{h':Heap}{m:Str->Option Value}(ok:cV fc scope x caps=true)(st:St S φ H s)(eo:aB S fc env loc φ s.heap)(ab:cX s.heap C)
  (k:∀b o,s.heap.get? b=some o->h'.get? b=some o) (hn:h'.Ns C m):aB S (eG fc scope x caps) (compEnvC scope (kS scope env) C env) (bx loc caps none) φ h':=by
 unfold cV at ok;simp only [Px,O6,beq_iff_eq,bne_iff_ne,QH,decide_eq_true_eq] at ok;refine fM ok fun q_b k6 k7=>fM q_b fun q_d k4 k5=>fM q_d fun q_f k2 k3=>ba q_f fun k1 k0=>?_;haveI scp:relabel scope env=dU scope fc:=by
  unfold relabel dU Env.kindOf FC.kind;refine er eo.scope ?_;rfl
 have nm_of:∀(j) (z:Str),(x::gC fc caps)[j]? = some z->j=0/\z=x∨∃j' i,j=j'+1/\caps[j']? = some i/\fc.names[i]? = some z/\scope.names.lookup z=some .free/\(fc.kind z=some .cell∨fc.kind z=some .free):=by
  intro j z h;cases j with
  | zero=>simp at h;exact .inl ⟨rfl,h.symm⟩
  | succ j=>
   right;rw [Q3,gC,O5,Q2] at h;refine aZ h fun i hi q_a=>el q_a ?_;refine fM (k7 i (OC hi)) fun c1 c2 c3=>zJ j i rfl hi ?_ c2 c3;refine er (OD c1) ?_;rfl
 have cells:∀(z:Str),scope.names.lookup z=some .free->∀(i:Nat),fc.names[i]? = some z->(fc.kind z=some .cell∨fc.kind z=some .free)->∃c,env.cells.lookup z=some c/\(kS scope env).lookup z=some c:=by
  intro z h1 i h2 h3;obtain⟨c,a1,_⟩:=eo.cell i z h2 h3;exact bN c a1 (by refine er (nM k2) ?_;refine er (if_pos h1) (er a1 ?_);rfl)
 refine⟨scp,k1,eo.glob,eo.bins,fun b o e=>ab b o (st.base b o e),fun w=>?_,by simp [bx,eG,gC],k5,⟨m,hn,fun i z y h1 h2 h3=>?_⟩,fun i z h1 h2=>?_,fun i j z z' c h1 h2 h3 h4=>?_⟩
 ·refine b7 (st.rel.own_ex w) fun o e=>Pv _ (ab _ _ e)
 ·rcases nm_of i z h1 with ⟨rfl,rfl⟩ | ⟨j,i',rfl,c1,c2,c3,c4⟩
  ·simp [bx] at h3
  ·exfalso;haveI:(dU scope fc).names.lookup z=some .local:=h2;rw [fX,c3] at this;simp only [Sp,Option.some.injEq] at this;split at this<;>exact absurd this (by decide)
 ·rcases nm_of i z h1 with ⟨rfl,rfl⟩ | ⟨j,i',rfl,c1,c2,c3,c4⟩
  ·exfalso;haveI h2:(dU scope fc).names.lookup z=some .cell∨(dU scope fc).names.lookup z=some .free:=h2;rw [fX,k4] at h2;exact nomatch h2
  ·refine aZ (cells z c3 i' c2 c4) fun c a1 a2=>?_;obtain⟨c',b1,b2,b3,b4,cv,b5,b6⟩:=eo.cell i' z c2 c4;obtain rfl:=Option.some.inj (a1.symm.trans b1);refine aZ (id b5) fun oc hoc _=>⟨c,a2,b2,Pf (ab _ _ hoc),b4,cv,jm b5 fun o e=>k _ _ e,fun y h3=>b6 y ?_⟩;simp only [bx,Q3,O5,c1,Sp,Option.some.injEq] at h3;haveI il:i'<loc.length:=by exact er eo.len ((OH.mp c2).1)
   rw [OD il] at h3⊢;simpa using h3
 ·have none_x:∀c,(kS scope env).lookup x=some c->False:=fun c e=>by
   rw [nM k2,if_neg (by refine er k4 ?_;simp)] at e;exact aJ e
  rcases nm_of i z h1 with ⟨rfl,rfl⟩ | ⟨i1,i',rfl,c1,c2,c3,c4⟩
  ·exact(none_x _ h3).elim
  ·rcases nm_of j z' h2 with ⟨rfl,rfl⟩ | ⟨j1,j',rfl,d1,d2,d3,d4⟩
   ·exact(none_x _ h4).elim
   ·refine aZ (cells z c3 i' c2 c4) fun e1 e2 e3=>aZ (cells z' d3 j' d2 d4) fun f1 f2 f3=>?_;haveI h3:=h3;haveI h4:=h4;replace h3:=e3▸h3;replace h4:=f3▸h4;obtain rfl:=(Option.some.inj h3).symm;obtain rfl:=(Option.some.inj h4).symm;haveI ij:=eo.sep i' j' z z' _ c2 d2 e2 f2;obtain⟨l1,g1⟩:=OH.mp c1;subst ij;obtain⟨l2,g2⟩:=OH.mp d1;haveI:=(Q7 k6).mp (g1.trans g2.symm);refine er this ?_;rfl
end
end
mutual #where
def M8(acc:Nat)(y:V)(H:List O)(Q:List O->Prop):Prop:=∃xs,H[acc]? = some (.list xs)/\xs.length<=100000/\Q (H.set acc (.list (xs++[y])))
def i9(f:V->List O->(V->List O->Prop)->Prop)(c:V->List O->(Bool->List O->Prop)->Prop)(ok:List O->Prop)(acc:Nat):List V->List O->(List O->Prop)->Prop
 | [],H,Q=>ok H/\Q H
 | x::r,H,Q=>ok H/\c x H fun b H1=>if b then f x H1 fun y H2=>M8 acc y H2 fun H3=>i9 f c ok acc r H3 Q else i9 f c ok acc r H1 Q
theorem i9.ok{f:V->List O->(V->List O->Prop)->Prop}{c:V->List O->(Bool->List O->Prop)->Prop}{ok:List O->Prop}{acc:Nat}{l:List V}{H:List O}{Q:List O->Prop}(h:i9 f c ok acc l H Q):ok H:=by
 cases l with
 | nil=>exact h.1
 | cons _ _=>exact h.1
def yR(ifs:List Expr)(env:Env):Sem Bool:=forIn ifs true fun c r=>if r=true then do let ok ← isTrue c env (eval c env);pure (ForInStep.yield ok) else pure (ForInStep.yield r)
def nZ(S:be)(n:Nat)(fc:FC)(lc:V->aW)(ifs:List Expr)(c:V->List O->(Bool->List O->Prop)->Prop):Prop:=∀(y:V) (H:List O) (K:Bool->List O->Prop),c y H K->∀(A:Around) (env:Env) (φ:Fp) (s:Shared),eT A n->St S φ H s->aB S fc env (lc y) φ s.heap->bC S.X S.M A (yR ifs env) (rW S φ s K) s
end
section
mutual #where
variable {S:be} {A:Around} {φ φ':Fp} {H H1:List O} {s s':Shared} {fc:FC} {env:Env} {loc:aW} {n:Nat} {f:V->List O->(V->List O->Prop)->Prop} {c:V->List O->(Bool->List O->Prop)->Prop} {lc:V->aW}
theorem rF:nZ S n fc lc [] fun _ H K=>K true H:=fun _ _ _ h _ _ _ _ _ st _=>by
 unfold yR;exact er SQ (aq (iO .refl st h))
theorem yQ{t:T}{e:Expr}(ok:SysOK S)(he:okT fc t e=true):nZ S n fc lc [e] fun y H K=>vT S n t (lc y) H K:=fun _ _ _ h A env φ s ao st eo=>by
 unfold yR;rw [RO];refine am (am (aH (h _ _ ok he A env φ s ao st eo) fun b s1 p=>aq (aq p)))
theorem aB.drop0{l:aW}{y:Option V}{h:Heap}(eo:aB S fc env (y::l) φ h):aB S fc env (none::l) φ h:=
 { eo with
  len:=eo.len
  ns:=eo.ns.casesOn fun m hm g=>⟨m,hm,fun i x y h1 h2 h3=>by
   cases i with
   | zero=>exact aJ (Option.some.inj h3)
   | succ i=>exact g (i+1) x y h1 h2 h3⟩
  cell:=fun i x h1 h2=>(eo.cell i x h1 h2).casesOn fun c a1 a2 a3 a4 cv a5 a6=>⟨c,a1,a2,a3,a4,cv,a5,fun y h3=>by
   cases i with
   | zero=>exact aJ (Option.some.inj h3)
   | succ i=>exact a6 y h3⟩ }
theorem pM{it:Expr}(h:ii it=true)(env:Env)(z:Value):foldedSetIterable it env z=pure z:=by
 cases it with
 | Set=>exact ae h
 | _=>rfl
inductive DC(S:be)(φ:Fp)(s:Shared)(cfc:FC)(cenv:Env)(cl:aW)(I:Nat)(xv:V)(φ0:Fp)(f:V->List O->(V->List O->Prop)->Prop)(c:V->List O->(Bool->List O->Prop)->Prop)(okk:List O->Prop)(acc:Nat)(all:List V)(QF:List O->Prop)(nn:Nat)(s':Shared):Prop
 | mk (φ':Fp) (H':List O) (k:Nat) (hk:k<=all.length) (e:nn=all.length+1 - k) (X:bZ fL φ φ' s s') (T:St S φ' H' s') (E:aB S cfc cenv cl φ' s'.heap) (J:cD φ' H' s'.heap I xv k) (P:φ0 <+: φ') (N:¬fV φ' I) (V:i9 f c okk acc (all.drop k) H' QF) :
  DC S φ s cfc cenv cl I xv φ0 f c okk acc all QF nn s'
theorem be.fresh{a:Nat}(t:St S φ H s)(ab:cX s.heap a):S.h₀.get? a=none:=cq fun b o e=>ab b o (t.base b o e)
theorem ky{h':Heap}{tk:Nat}(t:St S φ H s)(k:∀b o,s.heap.get? b=some o->h'.get? b=some o):bZ fL φ φ s { s with heap:=h',toks:=tk }/\St S φ H { s with heap:=h',toks:=tk }:=
 ⟨bZ.grow fun b o e _=>k b o e,fun b o e=>k b o (t.base b o e),t.rel.ext fun b o e _=>k b o e⟩
theorem AP{scope:Scope}{x:Str}{caps:List Nat}{h:Heap}(sc:cV fc scope x caps=true)(eo:aB S fc env loc φ h){kP:Prop}(kK:closureFor scope env=pure (kS scope env)->(scope.kind == .function)=true->(scope.names.map (·.1)).Nodup->(∀p∈scope.names,p.2≠.cell)->scope.names.lookup x=some .local->kP):kP:=by
 unfold cV at sc;refine zc sc fun sc _ k7=>zc sc fun sc k4 _=>zc sc fun sc k2 k3=>?_;have k3:=O6.mp k3;refine kK (oJ fun p hp hf=>?_) (aV sc).1 (of_decide_eq_true k2) (fun p hp=>bne_iff_ne.mp (aV (k3 p hp)).1) (eq_of_beq k4);haveI m:=(aV (k3 p hp)).2;replace m:=hf▸m;refine aZ (Pm.mp (QD.mp m)) fun i hi e=>ba (aV (O6.mp k7 i hi)) fun c1 c3=>?_;rw [e] at c3;haveI e2:fc.names[i]? = some p.1:=by refine el e (er (OD (of_decide_eq_true (aV c1).1)) ?_);rfl
 obtain⟨c,a1,_⟩:=eo.cell i p.1 e2 ((QK.mp c3).imp eq_of_beq eq_of_beq);exact⟨c,a1⟩
theorem vZ{elt it:Expr}{x:Str}{px:Pos}{ifs:List Expr}{scope:Scope}{pos:Pos}{cfc:FC}{cenv:Env}{cl:aW}{QF:List O->Prop}{xv:V}{all:List V}{φ0:Fp}{H0:List O}{s0:Shared}{I acc D:Nat}{R:Shared->Prop}
  (ao:eT A n) (hx:cfc.names[0]? = some x) (kx:cfc.kind x=some .local) (hf:∀y H K,f y H K->WE S n cfc elt (some y::cl) H K) (hc:nZ S n cfc (fun y=>some y::cl) ifs c)
  (X0:bZ fL φ φ0 s s0) (T0:St S φ0 H0 s0) (E0:aB S cfc cenv (none::cl) φ0 s0.heap) (J0:cD φ0 H0 s0.heap I xv 0) (nI:¬fV φ0 I) (hI0:S.h₀.get? I=none) (sI:s.heap.get? I=none) (sC:s.heap.get? cenv.locals=none) (rD:VR φ0 (.obj acc) (.ref D)) (hall:bG xv H1=some all) (V0:i9 f c (aG xv H1) acc all H0 QF)
  (fin:∀φ' s' H',bZ fL φ φ' s s'->St S φ' H' s'->VR φ' (.obj acc) (.ref D)->QF H'->aB S cfc cenv (none::cl) φ' s'.heap->R s') :
  cB S.X S.M A (.compLoop (.ListComp elt [⟨.Name x px,it,ifs,0⟩] scope pos) 0 (.ref I) (.ref D) cenv) (fun _ s'=>R s') s0:=by
 refine nL S.xok (DC S φ s cfc cenv (none::cl) I xv φ0 f c (aG xv H1) acc all QF) (fun nn s' h=>?_) (all.length+1) ⟨_,_,0,PF _,rfl,X0,T0,E0,J0,Pw _,nI,V0⟩;obtain⟨φ',H',k,hk,rfl,X',T',E',J',P',N',V'⟩:=h;haveI okk:=V'.ok;haveI hall':=(ku okk).trans hall;have outI:=qV E' J';by_cases hlt:k<all.length
 ·replace V':=(QX hlt)▸V';refine aK (jM T' J' hall' (OD hlt) fun h5 tk5 u ru eb5 it5=>?_);refine aK (lj it5 (aK ?_));have T5:=T'.but (tk:=tk5) eb5 N' hI0;have X5:=X'.but (tk:=tk5) eb5 sI;refine j2 (E'.but eb5 outI) hx (.inl kx) ru fun a h6 tk6 _ ha _ _ eb6 no6 a06 E6=>?_;obtain rfl:=ha kx;haveI T6:=T5.but (tk:=tk6) eb6 no6 a06;haveI X6:=X5.but (tk:=tk6) eb6 sC;have it6:=it5.keep (Pw _) (fun _ _=>rfl) fun o e=>eb6 _ _ (Ne.symm outI.1) e;haveI E6:aB S cfc cenv (some all[k]::cl) φ' h6:=E6;change bZ fL φ φ' s { s' with heap:=h6,toks:=tk6 } at X6;change St S φ' H' { s' with heap:=h6,toks:=tk6 } at T6;generalize hs6:({ s' with heap:=h6,toks:=tk6 }:Shared)=s6 at T6 X6⊢;haveI e6:s6.heap=h6:=by refine el hs6 ?_;rfl
  rw [← e6] at it6 E6;refine aZ it6.ex fun o6 ho6 _=>?_;have after:∀ {φ7:Fp} {H7:List O} {s7:Shared},bZ fL φ' φ7 s6 s7->St S φ7 H7 s7->i9 f c (aG xv H1) acc (all.drop (k+1)) H7 QF->
    ∃m,m<all.length+1 - k/\DC S φ s cfc cenv (none::cl) I xv φ0 f c (aG xv H1) acc all QF m s7:=fun {φ7 H7 s7} X7 T7 V7=>
   ⟨all.length+1 - (k+1),Ff hlt,φ7,H7,k+1,hlt,rfl,X6.trans X7,T7,(E6.ext X7).drop0,it6.keep X7.pre (fun i e=>by
    subst e;haveI ok7:=V7.ok;exact(ok7).trans (okk).symm) (fun o e=>X7.keep _ _ e N' id),P'.trans X7.pre,X7.own ho6 N',V7⟩
  refine gJ (hc _ _ _ V'.2 A _ φ' s6 ao T6 E6) fun b s7 φ7 H7 b' X7 T7 r7 q7=>?_;subst r7;cases b' with
  | false=>exact after X7 T7 q7
  | true=>
   refine gJ (hf _ _ _ q7 A _ φ7 s7 ao T7 (E6.ext X7)) fun yv s8 φ8 H8 y X8 T8 r8 q8=>eZ q8 fun xs g hl q=>gJ (aK (za T8 (rD.mono (P'.trans (X7.pre.trans X8.pre))) r8 g hl q)) fun _ s9 φ9 H9 z X9 T9 r9 q9=>after ((X7.trans X8).trans X9) T9 q9
 ·have hk':=SK hlt;refine aK (lD ao.hd T' J' hall' hk' fun h5 eb5=>?_);replace V':=(Rc hk')▸V';exact fin φ' _ H' (X'.but eb5 sI) (T'.but eb5 N' hI0) (rD.mono P') V'.2 (E'.but eb5 outI)
theorem oY{elt it:Expr}{x:Str}{px:Pos}{ifs:List Expr}{scope:Scope}{pos fp:Pos}{caps:List Nat}{use:Option (Value->Sem Unit)}{K:Value->Shared->Prop}{QF:List O->Prop}{a:C}{xv:V}{all:List V}
  (ok:SysOK S) (sc:cV fc scope x caps=true) (hns:ii it=true) (ao:eT A n) (st:St S φ H s) (eo:aB S fc env loc φ s.heap) (hit:EV S n a loc H xv H1) (hok:fq fc a it=true) (hall:bG xv H1=some all)
  (hf:∀y H K,f y H K->WE S n (eG fc scope x caps) elt (bx loc caps (some y)) H K) (hc:nZ S n (eG fc scope x caps) (fun y=>bx loc caps (some y)) ifs c)
  (V0:i9 f c (aG xv H1) H1.length all (H1++[.list []]) QF)
  (fin:∀φ' s' H' va C,bZ fL φ φ' s s'->St S φ' H' s'->VR φ' (.obj H1.length) va->QF H'->cX s.heap C->¬fV φ' C->S.h₀.get? C=none->(∃m,s'.heap.Ns C m)->oZ S.X S.M A use K va C s') :
  bC S.X S.M A (comprehension (.ListComp elt [⟨.Name x px,it,ifs,0⟩] scope pos) scope env fp (newList []) false (eval it env) use) K s:=by
 refine AP sc eo fun hclos k1 k2 k3 k4=>j6 S.xok rfl (pM hns env) hclos (eq_of_beq k1) (fun p hp hl=>gM k2 (by exact el hl hp)) ?_;refine hit.run ok hok ao st eo fun v s1 φ1 X1 T1 E1 r1=>aK (jQ T1 r1 hall fun h2 kp2 it2=>?_);haveI aI:cX s1.heap s1.heap.objs.size:=bw;generalize s1.heap.objs.size=I at it2 aI⊢;haveI nI:¬fV φ1 I:=fun w=>by refine b7 (T1.rel.own_ex w) fun o e=>?_;exact Pv _ (aI _ _ e)
 have hI0:=be.fresh T1 aI;have sI:=cq (X1.above T1 aI);refine ba (ky (tk:=s1.toks) T1 kp2) fun X2 T2=>?_;haveI X12:=X1.trans X2;refine aK (wpAny_newList ?_ (by simp [sizeLine_eq]));have g3:=Pe h2 (o:=iK "list" [] 0) rfl;have n3:=T2.new (tk:=s1.toks) (h':=h2.push (iK "list" [] 0)) (fun b x e=>OV _ e) (.list g3 .nil) (bw (h:=h2));refine dN n3 fun X3 T3 r3=>?_;haveI it3:cD (φ1++[(h2.objs.size,h2.objs.size)]) (H1++[.list []]) (h2.push (iK "list" [] 0)) I xv 0:=it2.keep (PH _ _) (fun i e=>by
  subst e;refine aZ (QY.mp (hall)) fun o e _=>O4 (OH.mp e).1) fun o e=>OV _ e
 haveI X13:=X12.trans X3;haveI nI3:¬fV (φ1++[(h2.objs.size,h2.objs.size)]) I:=by
  refine aZ it2.ex fun o ho _=>X3.own ho nI
 change bZ fL φ (φ1++[(h2.objs.size,h2.objs.size)]) s { s1 with heap:=h2.push (iK "list" [] 0) } at X13;change St S (φ1++[(h2.objs.size,h2.objs.size)]) (H1++[.list []]) { s1 with heap:=h2.push (iK "list" [] 0) } at T3;refine aK ?_;refine wpAny_newFunctionEnv (fun p hp=>k3 p hp) (by intro y hy;exact(Qe hy).elim) (fun h4 hns hsb=>?_) (eq_of_beq k1);haveI aC:cX (h2.push (iK "list" [] 0)) (h2.push (iK "list" [] 0)).objs.size:=bw;generalize (h2.push (iK "list" [] 0)).objs.size=C at hns hsb aC⊢;have kp4:=fun b o e=>hsb.extBut b o (Pf (aC b o e)) (OV _ e);generalize h2.objs.size=D at T3 X3 r3 it3 nI3 X13⊢;refine ba (ky (tk:=s1.toks+([]:List (Str×Value)).length) T3 kp4) fun X4 T4=>?_;haveI ec4:=yS sc T3 (eo.ext X13) aC kp4 hns;haveI it4:=it3.keep (Pw _) (fun _ _=>rfl) fun o e=>kp4 _ _ e;haveI aCs:=X13.above T3 aC;haveI kx:(eG fc scope x caps).kind x=some .local:=by
  refine(?_:(dU scope fc).names.lookup x=_);refine er fX (er k4 ?_);rfl
 haveI loop:=vZ (it:=it) (px:=px) (scope:=scope) (pos:=pos) ao rfl kx hf hc (X13.trans X4) T4 ec4 it4 nI3 hI0 sI (cq aCs) r3 hall V0
  fun φ' s' H' X T r q E=>fin φ' s' H' _ C X T r q aCs E.own (be.fresh T3 aC) (E.ns.casesOn fun m hm _=>⟨m,hm⟩)
 exact mz S.xok loop (sH it4 loop)
end
end
mutual #where
inductive Fl where
 | next | brk | cont | ret (v:V)
def Oy(φ:Fp)(f:Fl)(g:Flow):Prop:=match f with
 | .next=>g=.next
 | .brk=>g=.brk
 | .cont=>g=.cont
 | .ret x=>∃v,g=.ret v/\VR φ x v
inductive fU(S:be)(fc:FC)(env:Env)(φ:Fp)(s:Shared)(Q:Fl->aW->List O->Prop)(fl:Flow)(s':Shared):Prop
 | mk (φ':Fp) (H':List O) (loc':aW) (fa:Fl) (X:bZ (d9 fc env) φ φ' s s') (T:St S φ' H' s') (E:aB S fc env loc' φ' s'.heap) (r:Oy φ' fa fl) (q:Q fa loc' H'):fU S fc env φ s Q fl s'
def WS(S:be)(n:Nat)(fc:FC)(st:Stmt)(loc:aW)(H:List O)(Q:Fl->aW->List O->Prop):Prop:=
 ∀(A:Around) (env:Env) (φ:Fp) (s:Shared),eT A n->St S φ H s->aB S fc env loc φ s.heap->bC S.X S.M A (exec st env) (fU S fc env φ s Q) s
def Du(S:be)(n:Nat)(fc:FC)(ss:List Stmt)(loc:aW)(H:List O)(Q:Fl->aW->List O->Prop):Prop:=
 ∀(A:Around) (env:Env) (φ:Fp) (s:Shared),eT A n->St S φ H s->aB S fc env loc φ s.heap->bC S.X S.M A (execs ss env) (fU S fc env φ s Q) s
def fF(loc:aW):List Nat->List V->aW
 | i::is,y::ys=>fF (loc.set i (some y)) is ys
 | _,_=>loc
def GN(t:Tg)(y:V)(loc:aW)(H:List O)(Q:aW->Prop):Prop:=match t with
 | .one i=>Q (loc.set i (some y))
 | .many is=>∃j ys,y=.obj j/\H[j]? = some (.tuple ys)/\ys.length=is.length/\Q (fF loc is ys)
def mY(fc:FC)(i:Nat)(e:Expr):Bool:=(ib e).any fun x=>fc.names[i]? == some x&&(fc.kind x == some .local||fc.kind x == some .cell)
def fj(fc:FC):List Nat->List Expr->Bool
 | [],es=>es.isEmpty
 | i::is,es=>es.head?.any (mY fc i)&&fj fc is es.tail
def oi(fc:FC)(t:Tg)(e:Expr):Bool:=match t with
 | .one i=>mY fc i e
 | .many is=>(uY e).any fun es=>fj fc is es&&decide is.Nodup
def th(e:Expr):Str:=sw Rx e (name:=fun x _=>x)
def qA(e:Expr):Bool:=swappedStores.match_5 (fun _=>Bool) e (fun _ _=>true) fun _=>false
def qz(fc:FC)(ts vs:List Expr):Option (Option (List Str)):=
  if (!(ts.length == 2||ts.length == 3)||vs.length != ts.length||ScopeKind.function != ScopeKind.function)=true then some none
  else if (vs.any qA)=true then some none
  else
   let line:=(ts.head?.map (·.pos.line)).getD 0
   let names:=ts.filterMap fun e=>swappedStores.match_8 (fun _=>Option Str) e (fun id pos=>if (fc.kind id == some .local&&pos.line == line)=true then some id else none) fun _=>none
   if (names.length != ts.length||names.eraseDups.length != names.length)=true then some none
   else if vs.all (foldedForSure 8)=true then some none
   else if vs.all (constantsAlone 8)=true then none
   else some (some names)
def wT(fc:FC)(t value:Expr):Bool:=match uY t,uY value with
 | some ts,some vs=>(match qz fc ts vs with
   | some none=>true
   | some (some ns)=>ns == ts.map th
   | none=>false)
 | _,_=>true
theorem Ac{α β:Type}{c c':Prop}[Decidable c][Decidable c'](hc:c'↔c){x r:α}{y:Option α}{f:α->β}{m m':β}(h:(if c then some x else y)=some r)(hx:m=f x)(hy:y=some r->m'=f r):(if c' then m else m')=f r:=by
 by_cases z:c
 ·rw [if_pos z] at h;refine er (if_pos (hc.mpr z)) ?_;refine er hx (er (Option.some.inj h) ?_);rfl
 ·rw [if_neg z] at h;exact er (if_neg fun q=>z (hc.mp q)) (hy h)
end
section
mutual #where
variable {S:be} {A:Around} {φ φ':Fp} {H H':List O} {s s':Shared} {fc:FC} {env:Env} {loc:aW} {n:Nat} {Q:Fl->aW->List O->Prop} {h:Heap}
theorem aB.notOwn(eo:aB S fc env loc φ h):∀b,d9 fc env b->¬fV φ b:=fun b w=>by
 rcases w with rfl | ⟨i,x,h1,h2,h3⟩
 ·exact eo.own
 ·obtain⟨c,a1,a2,a3,a4,_⟩:=eo.cell i x h1 h2;exact el (Option.some.inj (a1.symm.trans h3)) a4
theorem bZ.toW(X:bZ fL φ φ' s s')(eo:aB S fc env loc φ s.heap):bZ (d9 fc env) φ φ' s s':=
 X.weaken (fun _ w=>w.elim) fun b o w e=>⟨o,X.keep b o e (eo.notOwn b w) id⟩
theorem bZ.butW{W:Nat->Prop}{h':Heap}{tk a:Nat}(hw:W a)(ex:∃o,h'.get? a=some o)(k:PN a s.heap h'):bZ W φ φ s { s with heap:=h',toks:=tk } where
 pre:=Pw _
 new:=fun _ h=>.inl h
 keep:=fun b o e _ w=>k b o (fun z=>w (z▸hw)) e
 wex:=fun b o _ e=>by
  by_cases q:b=a
  ·exact er q ex
  ·exact⟨o,k b o q e⟩
 os:=rfl
 gens:=⟨0,Rw.symm⟩
theorem fU.after{f:Flow}{s'':Shared}(X:bZ (d9 fc env) φ φ' s s')(p:fU S fc env φ' s' Q f s''):fU S fc env φ s Q f s'':=p.casesOn fun φ2 H2 l2 fa X2 T2 E2 r2 q2=>⟨φ2,H2,l2,fa,X.trans X2,T2,E2,r2,q2⟩
theorem fU.mono{Q':Fl->aW->List O->Prop}{f:Flow}(p:fU S fc env φ s Q f s')(k:∀f l H',Q f l H'->Q' f l H'):fU S fc env φ s Q' f s':=p.casesOn fun φ2 H2 l2 fa X2 T2 E2 r2 q2=>⟨φ2,H2,l2,fa,X2,T2,E2,r2,k _ _ _ q2⟩
theorem lU{t:Sem Flow}(X:bZ (d9 fc env) φ φ' s s')(h:bC S.X S.M A t (fU S fc env φ' s' Q) s'):bC S.X S.M A t (fU S fc env φ s Q) s':=aH h fun _ _ p=>p.after X
theorem WS.mono{st:Stmt}{Q':Fl->aW->List O->Prop}(h:WS S n fc st loc H Q)(k:∀f l H',Q f l H'->Q' f l H'):WS S n fc st loc H Q':=fun A env φ s a t e=>aH (h A env φ s a t e) fun _ _ p=>p.mono k
theorem Du.mono{st:List Stmt}{Q':Fl->aW->List O->Prop}(h:Du S n fc st loc H Q)(k:∀f l H',Q f l H'->Q' f l H'):Du S n fc st loc H Q':=fun A env φ s a t e=>aH (h A env φ s a t e) fun _ _ p=>p.mono k
theorem aB.block(eo:aB S fc env loc φ h):env.blockKind=.function:=by
 unfold Env.blockKind;refine er eo.scope (er eo.fk ?_);rfl
theorem pj{i:Nat}{e:Expr}{y:V}{v:Value}(hn:mY fc i e=true)(st:St S φ H s)(eo:aB S fc env loc φ s.heap)(r:VR φ y v){E:Value->Shared->Prop}{K:Unit->Shared->Prop}
  (k:∀s',bZ (d9 fc env) φ φ s s'->St S φ H s'->aB S fc env (loc.set i (some y)) φ s'.heap->K () s'):wpAny S.M A (assign e env v) K E s/\wpAny S.M A (bindName env (th e) v) K E s:=by
 refine jF fun _ kK=>eu (dR hn) fun x p z hn=>?_;subst z;haveI h1:=eq_of_beq (aV hn).1;haveI h2:=(QK.mp (aV hn).2).imp eq_of_beq eq_of_beq;exact kK (j2 eo h1 h2 r fun a h' tk w _ _ ex' eb no a0 eo'=>k _ (bZ.butW w ex' eb) (st.but eb no a0) eo') (nQ eo h1 h2 r fun a h' tk w _ _ ex' eb no a0 eo'=>k _ (bZ.butW w ex' eb) (st.but eb no a0) eo')
theorem qr{f:Expr->Value->Sem Unit}{E:Value->Shared->Prop}(hf:∀ {i:Nat} {e:Expr} {y:V} {v:Value} {loc:aW} {s:Shared} {K:Unit->Shared->Prop},mY fc i e=true->St S φ H s->aB S fc env loc φ s.heap->VR φ y v->
   (∀s',bZ (d9 fc env) φ φ s s'->St S φ H s'->aB S fc env (loc.set i (some y)) φ s'.heap->K () s')->wpAny S.M A (f e v) K E s){ys:List V}{vs:List Value}(r:d8 φ ys vs) :
  ∀ {is:List Nat} {es:List Expr} {loc:aW} {s:Shared} (_:fj fc is es=true) (_:ys.length=is.length) (_:St S φ H s) (_:aB S fc env loc φ s.heap) {K:Unit->Shared->Prop} (_:∀s',bZ (d9 fc env) φ φ s s'->St S φ H s'->aB S fc env (fF loc is ys) φ s'.heap->K () s'),
  wpAny S.M A (assignInOrder (es.map f) vs) K E s:=by
 induction r with
 | nil=>
  intro is es loc s ok hl st eo K k;cases is with
  | nil=>exact er (mJ ok) (wpAny_pure (k s .refl st eo))
  | cons _ _=>exact(Nat.noConfusion hl:False).elim
 | cons ry rs ih=>
  intro is es loc s ok hl st eo K k;cases is with
  | nil=>exact(Nat.noConfusion hl:False).elim
  | cons i is=>
   refine cG ok fun e z h1 h2=>er z ?_;exact PyProof.Rows.assignInOrder_cons (hf h1 st eo ry fun s' X1 T1 E1=>ih h2 (Nat.succ.inj hl) T1 E1 fun s'' X2 T2 E2=>k s'' (X1.trans X2) T2 E2)
theorem jv:∀ {is:List Nat} {es:List Expr},fj fc is es=true->assignEach es env=es.map (fun e=>(false,assign e env))/\es.length=is.length:=by
 intro is;induction is with
 | nil=>intro es ok;exact er (mJ ok) ⟨rfl,rfl⟩
 | cons i is ih=>
  intro es ok;refine cG ok fun e z h1 h2=>eu (dR h1) fun x p y _=>ba (ih h2) fun g1 g2=>er z ?_;refine er y ?_;refine jF fun _ kK=>kK (congrArg ((false,assign (.Name x p) env)::·) g1) (congrArg Nat.succ g2)
theorem wO{y:V}{v:Value}{j:Nat}{ys:List V}(st:St S φ H s)(r:VR φ y v)(e:y=.obj j)(hj:H[j]? = some (.tuple ys)){kP:Prop}(kK:∀a vs m,v=.ref a->s.heap.get? a=some (iK "tuple" vs m)->d8 φ ys vs->kP):kP:=by
 subst e;refine st.one r hj fS fun a x z _ g ox=>eu ox fun vs m q_a rs=>?_;obtain rfl:=q_a;exact kK a vs m z g rs
theorem j9(hh:A.handled=none){t:Tg}{e:Expr}{y:V}{v:Value}(ok:oi fc t e=true)(st:St S φ H s)(eo:aB S fc env loc φ s.heap)(r:VR φ y v){QT:aW->Prop}(q:GN t y loc H QT)
  {E:Value->Shared->Prop} {K:Unit->Shared->Prop} (k:∀s' loc',bZ (d9 fc env) φ φ s s'->St S φ H s'->aB S fc env loc' φ s'.heap->QT loc'->K () s'):wpAny S.M A (assign e env v) K E s:=by
 cases t with
 | one i=>exact(pj ok st eo r fun s' X T E=>k s' _ X T E q).1
 | many is=>
  refine fP (mC ok) fun es kk p z ok=>ba (aV ok) fun ok _=>dQ q fun j ys e hj hl q=>wO st r e hj fun a vs m q_a ho rs=>er q_a ?_;refine er z ?_;refine ba (jv ok) fun n1 n2=>wpAny_assign_Tuple hh ⟨_,ho,rfl,_,rfl⟩ (by rewrite [n1,OJ,O3,rs.length,hl];refine er n2 ?_;rfl) (by refine er n1 ?_;simp) fun h' eb=>ba (ky (tk:=s.toks) st fun b o e=>eb b o (Pf (Qu e)) e) fun X1 T1=>er n1 ?_;exact er PX (qr (fun h1 h2 h3 h4 h5=>(pj h1 h2 h3 h4 h5).1) rs ok hl T1 (eo.ext X1) fun s' X2 T2 E2=>k s' _ ((X1.toW eo).trans X2) T2 E2 q)
theorem qy(eo:aB S fc env loc φ h){ts vs:List Expr}{k k2:Nat}{p p2:Pos}{r:Option (List Str)}(e:qz fc ts vs=some r):swappedStores [.Tuple ts k p] (.Tuple vs k2 p2) env=pure r:=by
 delta swappedStores;refine er eo.block ?_;haveI hk:fc.kind=env.kindOf:=funext fun z=>by unfold Env.kindOf FC.kind;refine er eo.scope ?_;rfl
 delta qz at e;rw [hk] at e;refine Ac .rfl e rfl fun e=>Ac (c:=vs.any qA=true) .rfl e rfl fun e=>Ac .rfl e rfl fun e=>Ac .rfl e rfl fun e=>?_;by_cases c:vs.all (constantsAlone 8)=true
 ·exact aJ ((if_pos c).symm.trans e)
 ·exact(if_neg c).trans (congrArg pure (Option.some.inj ((if_neg c).symm.trans e)))
end
end
mutual #where
def Bz{α:Type}(d:α)(e:Stmt)(asg:List Expr->Expr->Pos->α:=fun _ _ _=>d)(expr:Expr->Pos->α:=fun _ _=>d)(pas:Pos->α:=fun _=>d)(ret:Option Expr->Pos->α:=fun _ _=>d)(ifs:Expr->List Stmt->List Stmt->Pos->α:=fun _ _ _ _=>d)(whl:Expr->List Stmt->List Stmt->Pos->α:=fun _ _ _ _=>d)(fors:Expr->Expr->List Stmt->List Stmt->Pos->α:=fun _ _ _ _ _=>d):α:=match e with
 | .Assign a b c=>asg a b c
 | .Expr a b=>expr a b
 | .Pass a=>pas a
 | .Return a b=>ret a b
 | .If a b c d=>ifs a b c d
 | .While a b c d=>whl a b c d
 | .For a b c d e=>fors a b c d e
 | _=>d
theorem fE{α:Type}{d:α}{asg:List Expr->Expr->Pos->α}{expr:Expr->Pos->α}{pas:Pos->α}{ret:Option Expr->Pos->α}{ifs:Expr->List Stmt->List Stmt->Pos->α}{whl:Expr->List Stmt->List Stmt->Pos->α}{fors:Expr->Expr->List Stmt->List Stmt->Pos->α}{P:α->Stmt->Prop}(h0:∀e,P d e)(h_asg:∀a b c,P (asg a b c) (.Assign a b c))(h_expr:∀a b,P (expr a b) (.Expr a b))(h_pas:∀a,P (pas a) (.Pass a))(h_ret:∀a b,P (ret a b) (.Return a b))(h_ifs:∀a b c d,P (ifs a b c d) (.If a b c d))(h_whl:∀a b c d,P (whl a b c d) (.While a b c d))(h_fors:∀a b c d e,P (fors a b c d e) (.For a b c d e))(e:Stmt):P (Bz d e asg expr pas ret ifs whl fors) e:=by
 cases e with
 | Assign=>exact h_asg _ _ _
 | Expr=>exact h_expr _ _
 | Pass=>exact h_pas _
 | Return=>exact h_ret _ _
 | If=>exact h_ifs _ _ _ _
 | While=>exact h_whl _ _ _ _
 | For=>exact h_fors _ _ _ _ _
 | _=>exact h0 _
def sJ(e:Stmt):Option (List Expr×Expr×Pos):=Bz none e (asg:=fun t e p=>some (t,e,p))
theorem zY{s:Stmt}{f:List Expr×Expr×Pos->Bool}:(sJ s).any f=true->∃t e p,s=.Assign t e p/\f (t,e,p)=true:=fE (P:=fun o s=>Pk f o=true->∃t e p,s=.Assign t e p/\f (t,e,p)=true) (fun _=>ae) (by exact fun t e p h=>(qe t e p rfl h)) (fun _ _=>ae) (fun _=>ae) (fun _ _=>ae) (fun _ _ _ _=>ae) (fun _ _ _ _=>ae) (fun _ _ _ _ _=>ae) s
def xz(e:Stmt):Option (Expr):=Bz none e (expr:=fun e p=>some e)
theorem qF{s:Stmt}{f:Expr->Bool}:(xz s).any f=true->∃e p,s=.Expr e p/\f e=true:=fE (P:=fun o s=>Pk f o=true->∃e p,s=.Expr e p/\f e=true) (fun _=>ae) (fun _ _ _=>ae) (by exact fun e p h=>(sf e p rfl h)) (fun _=>ae) (fun _ _=>ae) (fun _ _ _ _=>ae) (fun _ _ _ _=>ae) (fun _ _ _ _ _=>ae) s
def BF(e:Stmt):Option (Pos):=Bz none e (pas:=fun p=>some p)
theorem xy{s:Stmt}{f:Pos->Bool}:(BF s).any f=true->∃p,s=.Pass p/\f p=true:=fE (P:=fun o s=>Pk f o=true->∃p,s=.Pass p/\f p=true) (fun _=>ae) (fun _ _ _=>ae) (fun _ _=>ae) (by exact fun p h=>(bN p rfl h)) (fun _ _=>ae) (fun _ _ _ _=>ae) (fun _ _ _ _=>ae) (fun _ _ _ _ _=>ae) s
def GU(e:Stmt):Option (Option Expr):=Bz none e (ret:=fun e p=>some e)
theorem zX{s:Stmt}{f:Option Expr->Bool}:(GU s).any f=true->∃e p,s=.Return e p/\f e=true:=fE (P:=fun o s=>Pk f o=true->∃e p,s=.Return e p/\f e=true) (fun _=>ae) (fun _ _ _=>ae) (fun _ _=>ae) (fun _=>ae) (by exact fun e p h=>(sf e p rfl h)) (fun _ _ _ _=>ae) (fun _ _ _ _=>ae) (fun _ _ _ _ _=>ae) s
def NC(e:Stmt):Option (Expr×List Stmt×List Stmt):=Bz none e (ifs:=fun t a b p=>some (t,a,b))
theorem Cu{s:Stmt}{f:Expr×List Stmt×List Stmt->Bool}:(NC s).any f=true->∃t a b p,s=.If t a b p/\f (t,a,b)=true:=fE (P:=fun o s=>Pk f o=true->∃t a b p,s=.If t a b p/\f (t,a,b)=true) (fun _=>ae) (fun _ _ _=>ae) (fun _ _=>ae) (fun _=>ae) (fun _ _=>ae) (by exact fun t a b p h=>(wG t a b p rfl h)) (fun _ _ _ _=>ae) (fun _ _ _ _ _=>ae) s
def xw(e:Stmt):Option (Expr×List Stmt×List Stmt):=Bz none e (whl:=fun t a b p=>some (t,a,b))
theorem vm{s:Stmt}{f:Expr×List Stmt×List Stmt->Bool}:(xw s).any f=true->∃t a b p,s=.While t a b p/\f (t,a,b)=true:=fE (P:=fun o s=>Pk f o=true->∃t a b p,s=.While t a b p/\f (t,a,b)=true) (fun _=>ae) (fun _ _ _=>ae) (fun _ _=>ae) (fun _=>ae) (fun _ _=>ae) (fun _ _ _ _=>ae) (by exact fun t a b p h=>(wG t a b p rfl h)) (fun _ _ _ _ _=>ae) s
def Cv(e:Stmt):Option (Expr×Expr×List Stmt×List Stmt):=Bz none e (fors:=fun t i a b p=>some (t,i,a,b))
theorem pA{s:Stmt}{f:Expr×Expr×List Stmt×List Stmt->Bool}:(Cv s).any f=true->∃t i a b p,s=.For t i a b p/\f (t,i,a,b)=true:=fE (P:=fun o s=>Pk f o=true->∃t i a b p,s=.For t i a b p/\f (t,i,a,b)=true) (fun _=>ae) (fun _ _ _=>ae) (fun _ _=>ae) (fun _=>ae) (fun _ _=>ae) (fun _ _ _ _=>ae) (fun _ _ _ _=>ae) (by exact fun t i a b p h=>(NS t i a b p rfl h)) s
def wI(fc:FC)(i:Nat)(t:Expr)(scope:Scope)(cl l:Nat):Bool:=(ib t).any fun y=>fc.names[i]? == some y&&(fc.kind y == some .local&&!(scope.names.any fun(n,k)=>n == y&&(k == .local||k == .cell)))
def sT(t:Expr):Nat:=sw 0 t (name:=fun _ p=>p.line)
end
mutual
noncomputable def IN (fc:FC):P->Stmt->Bool
 | .asg tg c,s=>(sJ s).any fun t=>(one? t.1).any fun u=>oi fc tg u&&(pG t.2.1&&(wT fc u t.2.1&&fq fc c t.2.1))
 | .comp i caps elt it,s=>(sJ s).any fun t=>(one? t.1).any fun u=>rI fc caps t.2.1 fun l x j ifs sc pos=>wI fc i u sc pos.line t.2.2.line&&(sT u == pos.line&&(ifs.isEmpty&&(fq fc it j&&fq (eG fc sc x caps) elt l)))
 | .compIf i caps elt c it,s=>(sJ s).any fun t=>(one? t.1).any fun u=>rI fc caps t.2.1 fun l x j ifs sc pos=>wI fc i u sc pos.line t.2.2.line&&(sT u == pos.line&&((one? ifs).any fun w=>okT (eG fc sc x caps) c w&&(fq fc it j&&fq (eG fc sc x caps) elt l)))
 | .setatt o f v,s=>(sJ s).any fun t=>(one? t.1).any fun u=>(zF u).any fun a=>a.2.1 == nm f&&(fq fc o a.1&&fq fc v t.2.1)
 | .setsub o i v,s=>(sJ s).any fun t=>(one? t.1).any fun u=>(uZ u).any fun a=>fq fc o a.1&&(fq fc i a.2&&fq fc v t.2.1)
 | .expr c,s=>(xz s).any fun e=>pG e&&fq fc c e
 | .pass,s=>(BF s).any fun _=>true
 | .ret c,s=>(GU s).any fun o=>o.any (fq fc c)
 | .raise,_=>true
 | .if_ t a b,s=>(NC s).any fun u=>okT fc t u.1&&(okSs fc a u.2.1&&okSs fc b u.2.2)
 | .while_ t a,s=>(xw s).any fun u=>u.2.2.isEmpty&&(okT fc t u.1&&okSs fc a u.2.1)
 | .for_ tg it a,s=>(Cv s).any fun u=>u.2.2.2.isEmpty&&(oi fc tg u.1&&(ii u.2.1&&(fq fc it u.2.1&&okSs fc a u.2.2.1)))
noncomputable def okSs (fc:FC):Ps->List Stmt->Bool
 | .nil,ss=>ss.isEmpty
 | .cons p r,ss=>ss.head?.any (IN fc p)&&okSs fc r ss.tail
end
mutual #where
def bH(S:be)(n:Nat)(p:Ps)(l:aW)(H:List O)(Q:Fl->aW->List O->Prop):Prop:=∀(fc:FC) (ss:List Stmt),SysOK S->okSs fc p ss=true->Du S n fc ss l H Q
def vS(S:be)(n:Nat)(p:P)(l:aW)(H:List O)(Q:Fl->aW->List O->Prop):Prop:=∀(fc:FC) (st:Stmt),SysOK S->IN fc p st=true->WS S n fc st l H Q
abbrev KR(S:be)(n:Nat)(R:Ps)(Q:Fl->aW->List O->Prop):Fl->aW->List O->Prop:=fun f l H1=>match f with
 | .next=>bH S n R l H1 Q
 | .brk=>Q .brk l H1
 | .cont=>Q .cont l H1
 | .ret v=>Q (.ret v) l H1
end
section
mutual #where
variable {S:be} {n m:Nat} {fc:FC} {A:Around} {env:Env} {φ φ':Fp} {s s':Shared} {l l' l1 l2:aW} {H H' H1 H2 H3 H4:List O} {v x y z:V} {a b c d:C} {i j k f g:Nat} {R:Ps} {Q:Fl->aW->List O->Prop}
theorem W.nil(q:Q .next l H):bH S n .nil l H Q:=fun fc ss _ he A env φ s ao st eo=>by
 exact er (mJ he) (aq ⟨φ,H,l,.next,.refl,st,eo,rfl,q⟩)
theorem W.step{p:P}(h:vS S n p l H (KR S n R Q)):bH S n (.cons p R) l H Q:=fun fc ss ok he A env φ s ao t eo=>by
 refine cG he fun st z h1 h2=>er z ?_;haveI e1:execs (st::ss.tail) env=(do match ← exec st env with | .next=>execs ss.tail env | f=>pure f):=rfl
 refine er e1 ?_;refine am (aH (h fc st ok h1 A env φ s ao t eo) fun fl s1 p=>?_);obtain⟨φ1,H1,l1,fa,X1,T1,E1,r1,q1⟩:=p;cases fa with
 | next=>obtain rfl:=r1;exact lU X1 (q1 fc ss.tail ok h2 A env φ1 s1 ao T1 E1)
 | brk=>obtain rfl:=r1;exact aq ⟨φ1,H1,l1,.brk,X1,T1,E1,rfl,q1⟩
 | cont=>obtain rfl:=r1;exact aq ⟨φ1,H1,l1,.cont,X1,T1,E1,rfl,q1⟩
 | ret v=>refine aZ r1 fun w q_a r=>?_;exact er q_a (aq ⟨φ1,H1,l1,.ret v,X1,T1,E1,(bN w rfl r),q1⟩)
theorem ko{Q:Fl->aW->List O->Prop}(X:bZ fL φ φ' s s')(T:St S φ' H s')(eo:aB S fc env l φ s.heap)(q:Q .next l H):fU S fc env φ s Q .next s':=⟨_,_,l,.next,X.toW eo,T,eo.ext X,rfl,q⟩
theorem qw{e:Expr}(hc:pG e=true)(t:Option Expr)(l:Nat):swapsWith e t l env=pure false:=by
 cases e with
 | ListComp=>exact ae hc
 | SetComp=>exact ae hc
 | DictComp=>exact ae hc
 | _=>rfl
theorem uI(hc:vE S n c l H fun _ H1=>bH S n R l H1 Q):bH S n (.cons (.expr c) R) l H Q:=W.step fun _ _ ok he A env φ s ao st eo=>by
 refine eu (qF he) fun e p z h2=>?_;clear he;refine er z ?_;haveI e1:exec (.Expr e p) env=(do
  standAt p
  if interactive env then printExpr (eval e env)
  else if ← swapsWith e none p.line env then do evalThenUse e env fun _=>point;pure .next
  else do dropValue e p (← eval e env)):=rfl
 haveI hi:interactive env=false:=by unfold interactive;refine er eo.scope (er eo.fk ?_);rfl
 refine er e1 (er hi ?_);refine az ?_;rw [qw (aV h2).1];refine am (aq ?_);exact am (gJ (hc _ _ ok (aV h2).2 A env φ s ao st eo) fun v s1 φ1 H1 x X1 T1 r1 q1=>aK (wpAny_dropValue (ko X1 T1 eo q1)))
theorem aP(hc:EV S n c l H v H1)(h:bH S n R l H1 Q):bH S n (.cons (.expr c) R) l H Q:=uI (hc _ h)
theorem Bd{a:Nat}{r:Cs}{xs:List V}{P:V->List O->Prop}(hg:kA k=some (.top a))(hr:qi S n r l H xs H1)(hc:dG S m (.top a) xs H1 P)(hm:m<=n)(h:∀v H2,P v H2->bH S n R l H2 Q):bH S n (.cons (.expr (.fcall k r)) R) l H Q:=
 uI (vE.fcall hg hr ((hc.up hm).mono h))
theorem tL(h:bH S n R l H Q):bH S n (.cons .pass R) l H Q:=W.step fun _ _ _ he A env φ s ao st eo=>by
 refine aZ (xy he) fun p z _=>er z ?_;show bC _ _ _ (do standAt p;pure Flow.next) _ _;exact az (aq (ko .refl st eo h))
theorem W.ret(hc:EV S n c l H v H1)(h:Q (.ret v) l H1):bH S n (.cons (.ret c) R) l H Q:=W.step fun _ _ ok he A env φ s ao st eo=>by
 refine eu (zX he) fun e p z h2=>?_;clear he;subst z;refine aZ (dF h2) fun e q_a h2=>er q_a ?_;show bC _ _ _ (do standAt p;return Flow.ret (← eval e env)) _ _
 exact az (am (hc.run ok h2 ao st eo fun v s1 φ1 X1 T1 E1 r1=>aq ⟨φ1,H1,l,.ret _,X1.toW eo,T1,E1,(bN v rfl r1),h⟩))
theorem BX{t:T}{A B:Ps}{r:Bool}(ht:TV S n t l H r H1)(h:bH S n (if r then A else B) l H1 (KR S n R Q)):bH S n (.cons (.if_ t A B) R) l H Q:=W.step fun _ _ ok he A env φ s ao st eo=>by
 refine u8 (Cu he) fun te aa bb p z h2=>?_;clear he;refine er z ?_;refine ba (aV h2) fun h3 h4=>?_;show bC _ _ _ (do standAt p;if ← isTrue te env (eval te env) then execs aa env else execs bb env) _ _
 refine az (am (ht.run ok h3 ao st eo fun s1 φ1 X1 T1 E1=>lU (X1.toW eo) ?_));cases r with
 | true=>exact h _ _ ok (aV h4).1 _ _ _ _ ao T1 E1
 | false=>exact h _ _ ok (aV h4).2 _ _ _ _ ao T1 E1
theorem bE{t:T}{A B:Ps}{r:Bool}(ht:TV S n t l H r H1)(hr:r=true)(h:bH S n A l H1 (KR S n R Q)):bH S n (.cons (.if_ t A B) R) l H Q:=BX ht (by exact er (if_pos hr) h)
theorem jH{t:T}{A B:Ps}{r:Bool}(ht:TV S n t l H r H1)(hr:r=false)(h:bH S n B l H1 (KR S n R Q)):bH S n (.cons (.if_ t A B) R) l H Q:=BX ht (by exact er hr h)
theorem ay{t:T}{A:Ps}{r:Bool}(ht:TV S n t l H r H1)(hr:r=false)(h:bH S n R l H1 Q):bH S n (.cons (.if_ t A .nil) R) l H Q:=jH ht hr (W.nil h)
theorem nS{s:Stmt}{f:List Expr×Expr×Pos->Expr->Bool}(h:((sJ s).any fun t=>(one? t.1).any (f t))=true){kP:Prop}(kK:∀t e p,s=.Assign [t] e p->f ([t],e,p) t=true->kP):kP:=by
 refine fP (zY h) fun ts e p z h=>aZ (dF h) fun t y h=>?_;dsimp only at y;haveI y:=gL y;subst y;exact kK t e p z h
theorem nK{t value:Expr}{p:Pos}(h1:swapsWithSole [t] value p.line env=pure false)(h2:(assignEach [t] env).map (·.2)=[assign t env]):exec (.Assign [t] value p) env=(do
  standAt p
  let v ← eval value env
  assignStores env v (← swappedStores [t] value env) [assign t env]):=by
 haveI e1:exec (.Assign [t] value p) env=(do
  standAt p
  if ← swapsWithSole [t] value p.line env then do
   evalThenUse value env fun v=>assignAll v ((assignEach [t] env).map (·.2))
   pure Flow.next
  else do
   let v ← eval value env
   assignStores env v (← swappedStores [t] value env) ((assignEach [t] env).map (·.2))):=rfl
 refine er e1 ?_;refine er h1 (er h2 ?_);rfl
theorem tU{tg:Tg}{t:Expr}(ok:oi fc tg t=true):(∃i x p,tg=.one i/\t=.Name x p)∨∃is ts k p,tg=.many is/\t=.Tuple ts k p/\fj fc is ts=true/\is.Nodup:=by
 cases tg with
 | one i=>refine eu (dR ok) fun x p z _=>?_;exact .inl (qe i x p rfl z)
 | many is=>refine fP (mC ok) fun ts k p z h=>?_;exact .inr (NU is ts k p rfl z ((aV h).1) (of_decide_eq_true (aV h).2))
theorem Cm{tg:Tg}{t:Expr}(ok:oi fc tg t=true):(assignEach [t] env).map (·.2)=[assign t env]:=by
 rcases tU ok with ⟨_,_,_,_,rfl⟩ | ⟨_,_,_,_,_,rfl,_⟩<;>rfl
theorem zQ{h:Heap}{ts:List Expr}{kk:Nat}{p:Pos}{e:Expr}(eo:aB S fc env l φ h)(sw:wT fc (.Tuple ts kk p) e=true):swappedStores [.Tuple ts kk p] e env=pure none∨swappedStores [.Tuple ts kk p] e env=pure (some (ts.map th)):=by
 cases e with
 | Tuple vs k2 p2=>
  haveI sw:(match qz fc ts vs with
   | some none=>true
   | some (some ns)=>ns == ts.map th
   | none=>false)=true:=sw
  cases hr:qz fc ts vs with
  | none=>replace sw:=hr▸sw;exact ae sw
  | some r=>cases r with
   | none=>exact .inl (qy eo hr)
   | some ns=>replace sw:=hr▸sw;exact .inr (eq_of_beq sw▸qy eo hr)
 | _=>exact .inl rfl
theorem sF{i:Nat}{v:Option V}{is:List Nat}{ys:List V}{loc:aW}(h:i∉is):fF (loc.set i v) is ys=(fF loc is ys).set i v:=by
 induction is generalizing ys loc with
 | nil=>rfl
 | cons j is ih=>cases ys with
  | nil=>rfl
  | cons y ys=>
   refine(?_:fF ((loc.set i v).set j (some y)) is ys=_);exact er (SY _ _ ((fun e=>h (e▸.head _):i≠j))) (ih fun m=>h (.tail _ m))
theorem qC{i:Nat}{y:V}{is:List Nat}{ys:List V}{loc:aW}(h:ys.length=is.length):fF loc (is++[i]) (ys++[y])=(fF loc is ys).set i (some y):=by
 induction is generalizing ys loc with
 | nil=>refine er (Pc h) ?_;rfl
 | cons j is ih=>cases ys with
  | nil=>exact Nat.noConfusion h
  | cons z ys=>exact ih (Nat.succ.inj h)
theorem mS{is:List Nat}{ys:List V}{loc:aW}(nd:is.Nodup)(h:ys.length=is.length):fF loc is.reverse ys.reverse=fF loc is ys:=by
 induction is generalizing ys loc with
 | nil=>refine er (Pc h) ?_;rfl
 | cons i is ih=>cases ys with
  | nil=>exact Nat.noConfusion h
  | cons y ys=>
   rw [Pu] at nd;refine er Qm ?_;refine er Qm (er (qC (by refine er QI ?_;exact er QI (Nat.succ.inj h))) ?_);exact er (ih nd.2 (Nat.succ.inj h)) ((sF nd.1).symm)
theorem pD{i:Nat}{e:Expr}(he:mY fc i e=true):∀ {is:List Nat} {es:List Expr},fj fc is es=true->fj fc (is++[i]) (es++[e])=true:=by
 intro is es;induction is generalizing es with
 | nil=>
  intro h;exact er (mJ h) (Pi.mpr ⟨he,rfl⟩)
 | cons j is ih_=>
  intro h;refine cG h fun d z h1 h2=>er z ?_;exact Pi.mpr ⟨h1,ih_ h2⟩
theorem qO:∀ {is:List Nat} {es:List Expr},fj fc is es=true->fj fc is.reverse es.reverse=true:=by
 intro is es;induction is generalizing es with
 | nil=>
  intro h;refine er (mJ h) ?_;rfl
 | cons i is ih_=>
  intro h;refine cG h fun d z h1 h2=>er Qm ?_;refine er z ?_;exact er Qm (pD h1 (ih_ h2))
theorem vS.asgT{tg:Tg}(hc:EV S n c l H v H1)(h:GN tg v l H1 fun l'=>Q .next l' H1):vS S n (.asg tg c) l H Q:=fun fc st ok he A env φ s ao st eo=>by
 refine nS he fun t e p z h2=>?_;clear he;subst z;refine eJ h2 fun k1 k2 h2=>ba (aV h2) fun k3 k4=>er (nK (qw k2 _ _) (Cm k1)) ?_;refine az (am (hc.run ok k4 ao st eo fun w s1 φ1 X1 T1 E1 r1=>?_));have plain:bC S.X S.M A (assignStores env w none [assign t env]) (fU S fc env φ s Q) s1:=by
  show bC _ _ _ (do assign t env w;pure Flow.next) _ _;exact aK (wpAny_bind (j9 ao.hd k1 T1 E1 r1 h fun s2 l2 X2 T2 E2 q2=>wpAny_pure ⟨φ1,H1,l2,.next,(X1.toW eo).trans X2,T2,E2,rfl,q2⟩))
 rcases tU k1 with ⟨i,x,pp,rfl,rfl⟩ | ⟨is,ts,kk,pp,rfl,rfl,on,nd⟩
 ·exact am (aq plain)
 ·rcases zQ eo k3 with hs | hs<;>refine er hs ?_
  ·exact am (aq plain)
  refine am (aq ?_);show bC _ _ _ (do rule "assign.swapped-stores";let items ← unpackItems w (ts.map th).length none;assignInOrder ((ts.map th).reverse.map fun n=>bindName env n) items.reverse;pure Flow.next) _ _
  refine dQ h fun j ys e hj hl q=>wO T1 r1 e hj fun a vs m q_a ho rs=>?_;have ln:(ts.map th).length=vs.toArray.size:=by rewrite [OJ];refine er O3 (er rs.length ?_);exact er hl ((jv (env:=env) on).2)
  refine er q_a (er ln ?_);refine aK (wpAny_bind (wpAny_rule (wpAny_bind (wpAny_unpackItems_tuple ao.hd ⟨_,ho,rfl,_,rfl⟩ fun h' eb=>?_))));refine ba (ky (tk:=s1.toks) T1 fun b o e=>eb b o (Pf (Qu e)) e) fun X2 T2=>el Sx ?_;refine er PX ?_;refine wpAny_bind (qr (fun h1 h2 h3 h4 h5=>(pj h1 h2 h3 h4 h5).2) rs.rev (qO on) (by refine er QI ?_;exact er QI hl) T2 (E1.ext X2) fun s3 X3 T3 E3=>wpAny_pure ?_);rw [mS nd hl] at E3;exact⟨φ1,H1,_,.next,((X1.trans X2).toW eo).trans X3,T3,E3,rfl,q⟩
theorem W.asgT{tg:Tg}(hc:EV S n c l H v H1)(h:GN tg v l H1 fun l'=>bH S n R l' H1 Q):bH S n (.cons (.asg tg c) R) l H Q:=W.step (vS.asgT hc h)
theorem aD(hc:EV S n c l H v H1)(h:bH S n R (l.set i (some v)) H1 Q):bH S n (.cons (.asg (.one i) c) R) l H Q:=W.asgT hc h
theorem cL{is:List Nat}{ys:List V}(hc:EV S n c l H (.obj j) H1)(hj:H1[j]? = some (.tuple ys))(hl:ys.length=is.length)(h:bH S n R (fF l is ys) H1 Q):bH S n (.cons (.asg (.many is) c) R) l H Q:=W.asgT hc (lK _ _ rfl hj hl h)
theorem w9{o e:Expr}{x:Str}{pp:Pos}{k:Nat}:swapsWithSole [.Attribute o x pp] e k env=pure false:=by cases e<;>rfl
theorem wZ{o i e:Expr}{pp:Pos}{k:Nat}:swapsWithSole [.Subscript o i pp] e k env=pure false:=by cases e<;>rfl
theorem aN{C:Nat}{fs:List (Nat×V)}(hv:EV S n c l H y H1)(ho:EV S n a l H1 (.obj i) H2)(hi:H2[i]? = some (.inst C fs))(hf:qX C f=true)(hl:SC fs.length 100=true)(h:bH S n R l (H2.set i (.inst C (setF f y fs))) Q) :
  bH S n (.cons (.setatt a f c) R) l H Q:=W.step fun fc st ok he A env φ s ao st eo=>by
 refine nS he fun t e p z h2=>?_;clear he;subst z;refine fP (pd h2) fun o x pp z h2=>ba (aV h2) fun k1 h2=>er z ?_;refine er (show x=nm f from eq_of_beq k1) (er (nK w9 rfl) ?_);refine az (am (hv.run ok (aV h2).2 ao st eo fun v s1 φ1 X1 T1 E1 r1=>?_));refine am (aq ?_);refine er (show swappedStores [.Attribute o (nm f) pp] e env=pure none from rfl) ?_;show bC _ _ _ (do (do let ov ← holding [v] (eval o env);standAt pp.atName;holding [v,ov] (setAttr ov (nm f) v);release [v,ov] []);pure Flow.next) _ _
 refine am (am (aO (ho.run ok (aV h2).1 ao T1 E1 fun u s2 φ2 X2 T2 E2 r2=>az (ax (wpAny_holding ?_)))));refine wpAny_mono (Ct (E:=FF) (Q:=fun H=>bH S n R l H Q) ok.ck T2 r2 (r1.mono X2.pre) hi hf (Nat.blt_eq.mp hl) h) (fun _ s3 z=>?_) fun _ _ e=>e;obtain⟨φ3,H3,_,X3,T3,_,q3⟩:=z;exact aK (wpAny_release (aq (ko ((X1.trans X2).trans X3) T3 eo q3)))
theorem A8(o i:Expr)(pp:Pos)(v:Value):∃r:Value->Value->List Value,assign (.Subscript o i pp) env v=(do
  let ov ← holding [v] (eval o env)
  let iv ← holding [v,ov] (eval i env)
  standAt pp
  holding [v,ov,iv] (setItem ov iv v)
  release (r ov iv) []):=⟨_,rfl⟩
theorem rU(hv:EV S n c l H y H1)(ho:EV S n a l H1 x H2)(hp:EV S n b l H2 z H3)(hs:∀ {A:Around} {φ:Fp} {s:Shared} {v j u:Value},St S φ H3 s->VR φ x v->VR φ z j->VR φ y u->wpAny S.M A (setItem v j u) (rV S φ s fun H=>bH S n R l H Q) FF s) :
  bH S n (.cons (.setsub a b c) R) l H Q:=W.step fun fc st ok he A env φ s ao st eo=>by
 refine nS he fun t e p z h2=>?_;clear he;subst z;refine fP (pb h2) fun o i pp z h2=>ba (aV h2) fun k1 h2=>er z ?_;refine er (nK wZ rfl) ?_;refine az (am (hv.run ok (aV h2).2 ao st eo fun v s1 φ1 X1 T1 E1 r1=>?_));refine am (aq ?_);refine er (show swappedStores [.Subscript o i pp] e env=pure none from rfl) ?_;show bC _ _ _ (do assign (.Subscript o i pp) env v;pure Flow.next) _ _;refine b7 (A8 (env:=env) o i pp v) fun rl er=>?_;rw [er];refine am (am (aO (ho.run ok k1 ao T1 E1 fun u s2 φ2 X2 T2 E2 r2=>am (aO (hp.run ok (aV h2).1 ao T2 E2 fun w s3 φ3 X3 T3 E3 r3=>az (ax (wpAny_holding ?_)))))));refine wpAny_mono (hs T3 (r2.mono X3.pre) r3 (r1.mono (X2.pre.trans X3.pre))) (fun _ s4 z=>?_) fun _ _ e=>e;obtain⟨φ4,H4,_,X4,T4,_,q4⟩:=z;exact aK (wpAny_release (aq (ko (((X1.trans X2).trans X3).trans X4) T4 eo q4)))
theorem dm{xs:List V}{p:Int}(hv:EV S n c l H y H1)(ho:EV S n a l H1 (.obj i) H2)(hp:EV S n b l H2 (.int p) H3)(hi:H3[i]? = some (.list xs))(hl:0<=p/\p<xs.length/\xs.length<=100000)(h:bH S n R l (H3.set i (.list (xs.set p.toNat y))) Q) :
  bH S n (.cons (.setsub a b c) R) l H Q:=rU hv ho hp fun t rx rz ry=>xi t rx rz ry hi hl h
theorem wo{es:List (Int×V)}{p:Int}(hv:EV S n c l H y H1)(ho:EV S n a l H1 (.obj i) H2)(hp:EV S n b l H2 (.int p) H3)(hi:H3[i]? = some (.dict es))(hl:es.length<=1000)(h:bH S n R l (H3.set i (.dict (sO p y es))) Q) :
  bH S n (.cons (.setsub a b c) R) l H Q:=rU hv ho hp fun t rx rz ry=>xj t rx rz ry hi hl h
end
end
mutual #where
def B0(S:be)(n:Nat)(elt:C)(caps:List Nat)(l:aW)(ok:List O->Prop)(acc:Nat)(all:List V)(H H':List O):Prop:=
 ∀Q:List O->Prop,Q H'->i9 (fun y H K=>vE S n elt (bx l caps (some y)) H K) (fun _ H K=>K true H) ok acc all H Q
def Ia(S:be)(n:Nat)(elt:C)(t:T)(caps:List Nat)(l:aW)(ok:List O->Prop)(acc:Nat)(all:List V)(H H':List O):Prop:=
 ∀Q:List O->Prop,Q H'->i9 (fun y H K=>vE S n elt (bx l caps (some y)) H K) (fun y H K=>vT S n t (bx l caps (some y)) H K) ok acc all H Q
def iG(body:aW->List O->(Fl->aW->List O->Prop)->Prop)(tg:Tg)(ok:List O->Prop):List V->aW->List O->(Fl->aW->List O->Prop)->Prop
 | [],loc,H,Q=>ok H/\Q .next loc H
 | y::r,loc,H,Q=>ok H/\GN tg y loc H fun loc1=>body loc1 H fun f loc2 H2=>match f with
   | .next=>iG body tg ok r loc2 H2 Q
   | .cont=>iG body tg ok r loc2 H2 Q
   | .brk=>Q .next loc2 H2
   | .ret v=>Q (.ret v) loc2 H2
theorem iG.ok{body:aW->List O->(Fl->aW->List O->Prop)->Prop}{tg:Tg}{ok:List O->Prop}{all:List V}{l:aW}{H:List O}{Q:Fl->aW->List O->Prop}(h:iG body tg ok all l H Q):ok H:=by
 cases all with
 | nil=>exact h.1
 | cons _ _=>exact h.1
inductive Dy(S:be)(fc:FC)(env:Env)(φ:Fp)(s:Shared)(I:Nat)(xv:V)(body:aW->List O->(Fl->aW->List O->Prop)->Prop)(tg:Tg)(okk:List O->Prop)(all:List V)(Q:Fl->aW->List O->Prop)(nn:Nat)(s':Shared):Prop
 | mk (φ':Fp) (H':List O) (l':aW) (k:Nat) (hk:k<=all.length) (e:nn=all.length+1 - k) (X:bZ (d9 fc env) φ φ' s s') (T:St S φ' H' s') (E:aB S fc env l' φ' s'.heap) (J:cD φ' H' s'.heap I xv k) (N:¬fV φ' I) (V:iG body tg okk (all.drop k) l' H' Q) :
  Dy S fc env φ s I xv body tg okk all Q nn s'
def Dt(test:aW->List O->(Bool->List O->Prop)->Prop)(body:aW->List O->(Fl->aW->List O->Prop)->Prop)(loc:aW)(H:List O)(Q:Fl->aW->List O->Prop):Prop:=
 ∃(I:Nat->aW->List O->Prop) (k:Nat),I k loc H/\∀k loc H,I k loc H->test loc H fun b H1=>if b then body loc H1 fun f loc2 H2=>match f with
   | .next=>∃m,m<k/\I m loc2 H2
   | .cont=>∃m,m<k/\I m loc2 H2
   | .brk=>Q .next loc2 H2
   | .ret v=>Q (.ret v) loc2 H2
  else Q .next loc H1
inductive HW(S:be)(fc:FC)(env:Env)(φ:Fp)(s:Shared)(I:Nat->aW->List O->Prop)(m:Nat)(s':Shared):Prop
 | mk (φ':Fp) (H':List O) (l':aW) (X:bZ (d9 fc env) φ φ' s s') (T:St S φ' H' s') (E:aB S fc env l' φ' s'.heap) (J:I m l' H'):HW S fc env φ s I m s'
end
section
mutual #where
variable {S:be} {n m:Nat} {fc:FC} {A:Around} {env:Env} {φ φ':Fp} {s s':Shared} {l l' l1 l2:aW} {H H' H1 H2 H3 H4:List O} {v x y z:V} {a b c d:C} {i j k f g:Nat} {R:Ps} {Q:Fl->aW->List O->Prop} {it elt:C} {caps:List Nat} {all:List V}
theorem EV.comp(hit:EV S n it l H v H1)(ha:bG v H1=some all)(hc:B0 S n elt caps l (aG v H1) H1.length all (H1++[.list []]) H2):EV S n (.comp caps elt it) l H (.obj H1.length) H2:=fun Q q fc e ok he A env φ s ao st eo=>by
 refine pV he fun el x px i ifs scope pos z sc ns h2=>?_;clear he;subst z;refine ba (aV h2) fun h3 g2=>?_;clear h2;refine er (mJ h3) ?_;refine(?_:bC _ _ _ (comprehension (.ListComp el [⟨.Name x px,i,[],0⟩] scope pos) scope env i.pos (newList []) false (eval i env) .none) _ s);refine oY ok sc ns ao st eo hit (aV g2).1 ha (fun y H K h=>h _ _ ok (aV g2).2) rF (hc _ q) fun φ' s' H' va C X' T' r' q' aC nC c0 hm=>b7 hm fun m hm=>bN m hm (fun h' hs=>⟨φ',H',.obj H1.length,X'.but hs.extBut (cq aC),T'.but hs.extBut nC c0,r',q'⟩)
theorem rH{t el ie:Expr}{xn:Str}{px:Pos}{ifs:List Expr}{scope:Scope}{pos p:Pos}{ff:V->List O->(V->List O->Prop)->Prop}{cc:V->List O->(Bool->List O->Prop)->Prop}{Q:Fl->aW->List O->Prop}
  (ok:SysOK S) (sc:cV fc scope xn caps=true) (ns:ii ie=true) (hu:wI fc k t scope pos.line p.line=true) (hl:(sT t == pos.line)=true) (ao:eT A n) (st:St S φ H s) (eo:aB S fc env l φ s.heap) (hit:EV S n it l H v H1) (hok:fq fc it ie=true) (ha:bG v H1=some all)
  (hf:∀y H K,ff y H K->WE S n (eG fc scope xn caps) el (bx l caps (some y)) H K) (hc:nZ S n (eG fc scope xn caps) (fun y=>bx l caps (some y)) ifs cc)
  (V0:i9 ff cc (aG v H1) H1.length all (H1++[.list []]) fun H2=>Q .next (l.set k (some (.obj H1.length))) H2):bC S.X S.M A (exec (.Assign [t] (.ListComp el [⟨.Name xn px,ie,ifs,0⟩] scope pos) p) env) (fU S fc env φ s Q) s:=by
 refine eu (dR hu) fun y py z hu=>eJ hu fun u1 u2 u4=>?_;haveI u1:=eq_of_beq u1;have u2:=eq_of_beq u2;obtain rfl:=z.symm;haveI hsw:swapsWith (.ListComp el [⟨.Name xn px,ie,ifs,0⟩] scope pos) (some (.Name y py)) p.line env=pure true:=by
  haveI e1:swapsWith (.ListComp el [⟨.Name xn px,ie,ifs,0⟩] scope pos) (some (.Name y py)) p.line env=(pure (env.blockKind == .function&&env.kindOf y == some .local&&py.line == pos.line
   && !(scope.names.any fun(n,k)=>n == y&&(k == .local||k == .cell))):Sem Bool):=rfl
  haveI hk:env.kindOf y=some .local:=by unfold Env.kindOf;exact er eo.scope u2
  haveI hp:(py.line == pos.line)=true:=hl;refine er e1 ?_;refine er u4 (er hp ?_);refine er eo.block (er hk ?_);rfl
 refine er (exec_Assign_Name_used _ _ _ _ hsw) ?_;refine az (am ?_);refine(?_:bC _ _ _ (do let _ ← comprehension (.ListComp el [⟨.Name xn px,ie,ifs,0⟩] scope pos) scope env ie.pos (newList []) false (eval ie env) (some (assign (.Name y py) env))) _ s)
 refine am (aH (oY ok sc ns ao st eo hit hok ha hf hc V0 fun φ' s' H' va C X' T' r' q' aC nC c0 hm=>?_) fun _ s' hq=>aq (aq hq));refine b7 hm fun m hm=>aK (j2 (eo.ext X') u1 (.inl u2) r' fun a h' tk w hea ex ex' eb no a0 eo'=>?_);haveI hC:C≠a:=by
  exact er (hea u2) (eo.ns.casesOn fun m' hn _=>hn.elim fun o' hn=>hn.elim fun _ hn=>hn.elim fun _ hn=>Pg (aC _ _ hn.1))
 refine bN m (pF hm fun o e=>eb _ _ hC e) (fun h'' hs=>?_);haveI sC:=cq aC;exact⟨φ',H',_,.next,((X'.toW eo).trans (bZ.butW w ex' eb)).but hs.extBut sC,(T'.but eb no a0).but hs.extBut nC c0,eo'.but hs.extBut (eo.out sC),rfl,q'⟩
theorem W.comp(hit:EV S n it l H v H1)(ha:bG v H1=some all)(hc:B0 S n elt caps l (aG v H1) H1.length all (H1++[.list []]) H2)(h:bH S n R (l.set i (some (.obj H1.length))) H2 Q) :
  bH S n (.cons (.comp i caps elt it) R) l H Q:=W.step fun _ _ ok he A env φ s ao st eo=>by
 refine nS he fun t e p z h2=>pV h2 fun el x px ie ifs scope pos y sc ns h2=>?_;dsimp only at y;clear he;subst z;refine eJ h2 fun h3 h4 h2=>ba (aV h2) fun h5 g2=>?_;clear h2;obtain rfl:=mJ h5;exact er y (rH ok sc ns h3 h4 ao st eo hit (aV g2).1 ha (fun y H K h=>h _ _ ok (aV g2).2) rF (hc _ h))
theorem zg{t:T}(hit:EV S n it l H v H1)(ha:bG v H1=some all)(hc:Ia S n elt t caps l (aG v H1) H1.length all (H1++[.list []]) H2)(h:bH S n R (l.set i (some (.obj H1.length))) H2 Q) :
  bH S n (.cons (.compIf i caps elt t it) R) l H Q:=W.step fun _ _ ok he A env φ s ao st eo=>by
 refine nS he fun tt e p z h2=>pV h2 fun el x px ie ifs scope pos y sc ns h2=>?_;dsimp only at y;clear he;subst z;refine eJ h2 fun h3 h4 h2=>aZ (dF h2) fun w h5 h6=>ba (aV h6) fun h6 h7=>?_;obtain rfl:=gL h5;exact er y (rH ok sc ns h3 h4 ao st eo hit (aV h7).1 ha (fun y H K h=>h _ _ ok (aV h7).2) (yQ ok h6) (hc _ h))
theorem zf{t:T}{B:Ps}(h:Dt (fun l H K=>vT S n t l H K) (fun l H K=>bH S n B l H K) l H (KR S n R Q)):bH S n (.cons (.while_ t B) R) l H Q:=W.step fun fc st ok he A env φ s ao st eo=>by
 refine u8 (vm he) fun te body els p z h2=>?_;clear he;subst z;obtain⟨h3,h2⟩:=aV h2;refine eu h fun I k hI step=>az (jI S.xok (my S.xok (HW S fc env φ s I) (fun m s1 hs=>?_) k ⟨φ,H,l,.refl,st,eo,hI⟩) rfl);obtain rfl:=mJ h3;obtain⟨φ1,H1,l1,X1,T1,E1,I1⟩:=hs;refine gJ (step m l1 H1 I1 _ _ ok (aV h2).1 A env φ1 s1 ao T1 E1) fun b s2 φ2 H2 b' X2 T2 r2 q2=>?_;subst r2;have X2':=X1.trans (X2.toW E1);cases b' with
 | true=>
  rw [if_pos rfl] at q2⊢;refine aH (q2 _ _ ok (aV h2).2 A env φ2 s2 ao T2 (E1.ext X2)) fun fl s3 hp=>?_;obtain⟨φ3,H3,l3,fa,X3,T3,E3,r3,q3⟩:=hp;cases fa with
  | next=>cases r3;exact q3.imp fun m'=>PS fun hI'=>⟨φ3,H3,l3,X2'.trans X3,T3,E3,hI'⟩
  | cont=>cases r3;exact q3.imp fun m'=>PS fun hI'=>⟨φ3,H3,l3,X2'.trans X3,T3,E3,hI'⟩
  | brk=>exact er r3 ⟨φ3,H3,l3,.next,X2'.trans X3,T3,E3,rfl,q3⟩
  | ret r=>obtain⟨w,rfl,r3⟩:=r3;exact⟨φ3,H3,l3,.ret r,X2'.trans X3,T3,E3,⟨w,rfl,r3⟩,q3⟩
 | false=>
  rw [if_neg Qi] at q2⊢;exact aq ⟨φ2,H2,l1,.next,X2',T2,E1.ext X2,rfl,q2⟩
theorem bk{tg:Tg}{B:Ps}(hit:EV S n it l H v H1)(ha:bG v H1=some all)(h:iG (fun l H K=>bH S n B l H K) tg (aG v H1) all l H1 (KR S n R Q)):bH S n (.cons (.for_ tg it B) R) l H Q:=W.step fun fc st ok he A env φ s ao st eo=>by
 refine MB (pA he) fun t ie body els p z h2=>?_;clear he;subst z;refine eJ h2 fun h3 h4 h2=>?_;obtain rfl:=mJ h3;refine eJ h2 fun h5 h6 h7=>?_;clear h2;refine az (am (hit.run ok h6 ao st eo fun u s1 φ1 X1 T1 E1 r1=>ax (wpAny_of_eq (pM h5 env u) (az (ax (wpAny_holding (jQ T1 r1 ha fun h2 kp2 it2=>?_)))))));haveI aI:cX s1.heap s1.heap.objs.size:=bw;generalize s1.heap.objs.size=I at it2 aI⊢;haveI nI:¬fV φ1 I:=fun w=>by obtain⟨o,e⟩:=T1.rel.own_ex w;exact Pv _ (aI _ _ e)
 haveI hI0:=be.fresh T1 aI;have sI:=cq (X1.above T1 aI);refine ba (ky T1 kp2) fun X2 T2=>jI S.xok (jG S.xok (Dy S fc env φ s I v (fun l H K=>bH S n B l H K) tg (aG v H1) all (KR S n R Q)) (fun nn s' hi=>?_) (all.length+1)
   ⟨φ1,H1,l,0,PF _,rfl,(X1.trans X2).toW eo,T2,E1.ext X2,it2,nI,h⟩) rfl
 obtain⟨φ',H',l',k,hk,rfl,X',T',E',J',N',V'⟩:=hi;haveI okk:=V'.ok;haveI ha':=(ku okk).trans ha;have outI:=qV E' J';by_cases hlt:k<all.length
 ·replace V':=(QX hlt)▸V';refine aK (jM T' J' ha' (OD hlt) fun h5 tk5 u ru eb5 it5=>?_);refine aK (lj it5 (aK ?_));have T5:=T'.but (tk:=tk5) eb5 N' hI0;have X5:=X'.but (tk:=tk5) eb5 sI;refine j9 ao.hd h4 T5 (E'.but eb5 outI) ru V'.2 fun s6 l6 X6 T6 E6 q6=>aH (q6 _ _ ok h7 A env φ' s6 ao T6 E6) fun fl s7 hp=>?_;obtain⟨φ7,H7,l7,fa,X7,T7,E7,r7,q7⟩:=hp;haveI X57:=X6.trans X7;haveI XX:=X5.trans X57;haveI go:iG (fun l H K=>bH S n B l H K) tg (aG v H1) (all.drop (k+1)) l7 H7 (KR S n R Q)->∃m,m<all.length+1 - k/\Dy S fc env φ s I v (fun l H K=>bH S n B l H K) tg (aG v H1) all (KR S n R Q) m s7:=fun V7=>by
   obtain⟨o5,ho5,_⟩:=it5.ex;refine⟨all.length+1 - (k+1),Ff hlt,φ7,H7,l7,k+1,hlt,rfl,XX,T7,E7,it5.keep X57.pre (fun i e=>?_) (fun o e=>X57.keep _ _ e N' fun w=>?_),X57.own ho5 N',V7⟩
   ·haveI ok7:=V7.ok;subst e;exact(ok7).trans (okk).symm
   ·rcases w with e | ⟨i,x,g1,g2,g3⟩
    ·exact outI.1 e.symm
    ·exact outI.2 i x I g1 g2 g3 rfl
  cases fa with
  | next=>cases r7;exact go q7
  | cont=>cases r7;exact go q7
  | brk=>exact er r7 ⟨φ7,H7,l7,.next,XX,T7,E7,rfl,q7⟩
  | ret r=>obtain⟨w,rfl,r7⟩:=r7;exact⟨φ7,H7,l7,.ret r,XX,T7,E7,⟨w,rfl,r7⟩,q7⟩
 ·have hk':=SK hlt;refine aK (lD ao.hd T' J' ha' hk' fun h5 eb5=>?_);replace V':=(Rc hk')▸V';exact⟨φ',H',l',.next,X'.but eb5 sI,T'.but eb5 N' hI0,E'.but eb5 outI,rfl,V'.2⟩
end
end
section
mutual #where
variable {X:Ctx->Prop} {prog:Program} {w:World} {A:Around} {s:Shared}
theorem du(xk:p9 X){id:String}{args:Args}{b:Builtin}{R:Flow->Shared->Prop}(hq:(Code.builtin id args).quiet=true)(hcl:dZ (.builtin id args)=true)(hb:entryFor table id=some b)
  (h:wpAny (model prog w) A.in1 (checkBuiltinCall id args) (fun _ s₁=>bC X (model prog w) (A.under (.builtin id args)) (b args)
   (fun fin s'=>match fin with | .done f=>R f s' | .again c'=>c'.quiet=true/\dZ c'=true/\cB X (model prog w) A c' R s') s₁) (fun _ _=>False) s) :
  cB X (model prog w) A (.call (.builtin id) args) R s:=by
 refine bK xk ?_;refine(?_:bC _ _ A.in1 (do checkBuiltinCall id args;again (.builtin id args)) _ _);refine ax (wpAny_mono h (fun _ s₁ h₁=>aq (bT hq hcl (bK xk ?_))) fun _ _ h'=>h');refine(?_:bC _ _ _ (match entryFor table id with | some b=>b args | none=>unsupported ((withoutEnding? id "#data").getD id)) _ s₁);exact er hb h₁
def xC(Q:Value->Shared->Prop)(f:Flow)(s':Shared):Prop:=match f with
 | .ret v=>Q v s'
 | _=>False
theorem G9(xk:p9 X){C fI:Nat}{K:Frag}{rest:List Value}{Q:Value->Shared->Prop}(KX:K.In s.heap)(hm:makesIn K C=true)(hi:findIn K (.ref C) "__init__" = some (some (.ref fI)))(hf:typeIn K (.ref fI)=some (.type "function"))
  (hq:cB X (model prog w) (A.under (.builtin "type.__call__" ⟨.ref C::rest,[]⟩)) (.call (.ref fI) ⟨.ref (s.heap.objs.size+1)::rest,[]⟩) (xC fun v s'=>v=.none/\Q (.ref (s.heap.objs.size+1)) s')
   { s with heap:=(s.heap.push emptyDict).push (instObj C s.heap.objs.size) }):cB X (model prog w) A (.call (.ref C) ⟨rest,[]⟩) (xC Q) s:=by
 haveI Y:=makes_of (M:=model prog w) KX hm;haveI hi':=looks_findIn (M:=model prog w) KX hi;obtain⟨h,g,d,t,os⟩:=s;haveI hb:=fun self=>bind_fn (M:=model prog w) KX self hf;haveI Y':=Y;obtain⟨⟨oc,od,cd,sl,hC,e1,e2,e4⟩,made,base,self,top,call,typ⟩:=Y;refine bK xk (aK ?_);refine nd_load hC ?_;refine(?_:wpAny _ _ (callAny.viaDunder (.ref C) _) _ _ _);refine wpAny_bind (call.at ?_);dsimp only;rw [tc_bind];refine wpAny_bind (wpAny_pure (wpAny_bind (wpAny_pure ?_)));refine wpAny_pure (a:=Fin.again (.call (.builtin "type.__call__") ⟨.ref C::rest,[]⟩)) (bT rfl rfl ?_);refine du xk (Code.quiet_builtin _ (by decide +kernel)) ((by decide +kernel:(!i6.contains "type.__call__")=true)) entry_typeCall (check_slot tc_kind tc_split typ (tc_args _ _ _) ?_);unfold Builtin.«type.__call__»;dsimp only;refine er (if_neg ((Qi:¬(Value.ref C == Value.type "type")=true))) ?_;haveI hmro:Looks (model prog w) h (mroOf (.ref C)) cd.mro:=((Looks.ld hC).andThen .now).andThen .now;refine ax (hmro.here ?_);simp only [e4,Bool.false_eq_true,if_false];refine ax (made.here ?_);refine ax (wpAny_pure ?_);refine ax (wpAny_holding (wpAny_call (new_K Y' hi' (.inl rfl) ?_)));haveI k:∀b o,h.get? b=some o->((h.push emptyDict).push (instObj C h.objs.size)).get? b=some o:=fun b o e=>OV _ (OV _ e);haveI hx:((h.push emptyDict).push (instObj C h.objs.size)).get? (h.objs.size+1)=some (instObj C h.objs.size):=by heap_get
 haveI t1:Looks (model prog w) ((h.push emptyDict).push (instObj C h.objs.size)) (typeOf (.ref (h.objs.size+1))) (.ref C):=(Looks.ld hx).andThen .now;haveI s1:=self.keeps k;haveI i1:=hi'.keeps k;haveI b1:=(hb (.ref (h.objs.size+1))).keeps k;haveI inst:Looks (model prog w) ((h.push emptyDict).push (instObj C h.objs.size)) (isInstance (.ref (h.objs.size+1)) (.ref C)) true:=by
  intro A' Q' E' s' hk hq';refine wpAny_bind (t1 _ _ _ _ hk ?_);exact s1 _ _ _ _ hk hq'
 refine ax (inst.here ?_);haveI sp:Looks (model prog w) ((h.push emptyDict).push (instObj C h.objs.size)) (specialOf (.ref (h.objs.size+1)) "__init__") (some (.ref fI)):=by
  intro A' Q' E' s' hk hq';exact wpAny_bind (t1 _ _ _ _ hk (i1 _ _ _ _ hk hq'))
 refine am (aO (ax (sp.here ?_)));refine aO (ax (b1.here ?_));refine am (f9 xk (eI hq fun f s' z=>?_));cases f with
 | ret v=>
  obtain⟨rfl,z⟩:=z;exact aq (aq z)
 | _=>exact z.elim
end
end
mutual #where
theorem mm{names:List Str}{vals:List Value}(hl:vals.length=names.length){x:Str}(hx:x∈names):((names.zip vals).lookup x).isSome=true:=by
 induction names generalizing vals with
 | nil=>exact nomatch hx
 | cons y names ih=>
  cases vals with
  | nil=>exact Nat.noConfusion hl
  | cons v vals=>
   refine er QO (er PO ?_);split
   ·rfl
   ·rename_i q;refine ih (by simpa using hl) ?_;rcases OY.mp hx with rfl | h
    ·simp at q
    ·exact h
theorem ou{names:List Str}{vals:List Value}(hl:vals.length=names.length)(nd:names.Nodup):(names.filterMap fun x=>((names.zip vals).lookup x).map fun v=>(x,v))=names.zip vals:=by
 haveI key:∀(pre:List (Str×Value)) (names:List Str) (vals:List Value),vals.length=names.length->names.Nodup->(∀p∈pre,p.1∉names)->
   (names.filterMap fun x=>((pre++names.zip vals).lookup x).map fun v=>(x,v))=names.zip vals:=by
  intro pre names;induction names generalizing pre with
  | nil=>intro vals _ _ _;rfl
  | cons y names ih=>
   intro vals hl nd hp;cases vals with
   | nil=>exact Nat.noConfusion hl
   | cons v vals=>
    have nd:=Pu.mp nd;haveI e1:(pre++(y::names).zip (v::vals)).lookup y=some v:=by
     haveI:∀(pre:List (Str×Value)),(∀p∈pre,p.1≠y)->(pre++(y,v)::names.zip vals).lookup y=some v:=by
      intro pre;induction pre with
      | nil=>intro _;simp
      | cons p pre ih2=>
       obtain⟨p1,p2⟩:=p;intro h;refine er Qr (er PO ?_);haveI:(y == p1)=false:=beq_eq_false_iff_ne.mpr (Ne.symm (h _ (.head _)));exact er this (ih2 fun q hq=>h q (.tail _ hq))
     exact this pre fun p hp' e=>hp p hp' (e▸.head _)
    refine er QO (er (RZ (b:=(y,v)) (by refine er e1 ?_;rfl)) ?_);congr 1;haveI e2:pre++(y,v)::names.zip vals=(pre++[(y,v)])++names.zip vals:=by simp
    refine er e2 ?_;refine ih (pre++[(y,v)]) vals (by simpa using hl) nd.2 fun p hp'=>?_;rcases O9.mp hp' with h | h
    ·exact fun m=>hp p h (.tail _ m)
    ·exact er (OZ.mp h) nd.1
 haveI:=key [] names vals hl nd (by simp);simpa using this
theorem bn{b:Bool}{α:Type}{x y r:α}(h:b=false)(k:y=r):(if b=true then x else y)=r:=by exact er h k
theorem fb{α β γ:Type}{l:List α}{i:β}{f:α->β->Sem (ForInStep β)}{k:β->Sem γ}{r:Sem γ}(h:l=[])(q:k i=r):(do let s ← forIn l i f;k s)=r:=by exact er h q
theorem y0{nm qn:Str}{x1 ar x4:List Arg}{x3 x5:Option Arg}{kd:List (Option Expr)}{df:List Expr}{body:FuncBody}{sc:Scope}{g:Addr}{cl:List (Str×Addr)}{x6 y1 y2 y3 y4 y5:Value}{an:Option Addr}{bu:Addr}{names:List Str}{vals:List Value}(h1:x1=[])(h2:ar.map (·.arg)=names)(h3:x3=none)(h4:x4=[])(h5:x5=none)
  (h6:x6=.none) (hl:vals.length=names.length) (nd:names.Nodup):bindArgs ⟨nm,qn,⟨x1,ar,x3,x4,kd,x5,df⟩,body,sc,g,cl,x6,y1,y2,y3,an,y4,y5,bu⟩ ⟨vals,[]⟩=pure (names.zip vals):=by
 subst h1 h3 h4 h5 h6;refine bn ?_ (bn ?_ (fb ?_ ?_))
 ·refine Eq.trans rfl ?_;refine er h2 ?_;refine er hl (er (decide_eq_false (Pv _)) ?_);rfl
 ·refine er h2 ?_;show(!(List.filter (fun n=>((names.zip vals).lookup n).isNone) (names.take (names.length - (SB (0 - names.length) ([]:List Value)).length))).isEmpty)=false;refine er (List.filter_eq_nil_iff.mpr fun x hx=>by refine er (Option.isNone_eq_false_iff.mpr (mm hl (Rn hx))) ?_;decide) ?_;rfl
 ·show List.zip _ (SB _ [])=[];refine er R2 (er List.zip_nil_right ?_);rfl
 ·refine er h2 ?_;show pure (f:=Sem) (List.filterMap _ (names++[]))=_;rw [OO];exact congrArg (pure) (ou hl nd)
theorem uA{fd:FuncData}{names:List Str}{vals:List Value}(h1:fd.params.posonlyargs=[])(h2:fd.params.args.map (·.arg)=names)(h3:fd.params.vararg=none)(h4:fd.params.kwonlyargs=[])(h5:fd.params.kwarg=none)
  (h6:fd.defaults=.none) (hl:vals.length=names.length) (nd:names.Nodup):bindArgs fd ⟨vals,[]⟩=pure (names.zip vals):=by
 obtain⟨_,_,⟨_,ar,_,_,_,_,_⟩,_,_,_,_,_,_,_,_,_,_,_,_⟩:=fd;exact y0 h1 h2 h3 h4 h5 h6 hl nd
def pO(g:Bool)(K:Frag)(a:Nat)(ps ls:List Str)(chk:FC->List Stmt->Bool):Bool:=match K.lookup a with
 | some ⟨_,_,.func fd,_⟩=>
  (match fd.body with | .stmts body=>chk ⟨ps++ls,fd.scope⟩ body | _=>false)&&fd.params.posonlyargs.isEmpty&&(fd.params.args.map (·.arg) == ps)&&fd.params.vararg.isNone&&fd.params.kwonlyargs.isEmpty&&fd.params.kwarg.isNone &&
  (fd.defaults == .none)&&decide (fd.globals=mainGlobals)&&decide (fd.builtins=builtinsNs)&&fd.closure.isEmpty&&codeIn K fd.code fd.qualname&&(fd.scope.kind == .function)&&(fd.scope.isGenerator == g)&&!fd.scope.isCoroutine &&
  decide (ps++ls).Nodup&&ps.all (fun x=>fd.scope.names.lookup x == some .local||fd.scope.names.lookup x == some .cell)&&ls.all (fun x=>fd.scope.names.lookup x != some .free)
 | _=>false
def rn(K:Frag)(a:Nat)(ps ls:List Str)(chk:FC->List Stmt->Bool):Bool:=pO false K a ps ls chk
def dA(Q:V->List O->Prop)(f:Fl)(_:aW)(H:List O):Prop:=match f with
 | .next=>Q .none H
 | .ret v=>Q v H
 | _=>False
theorem we{kindOf:Str->Option NameKind}{x:Str}:∀ {binds:List (Str×Value)} {m:Str->Option Value},(∀p∈binds,p.1≠x)->bindL kindOf binds m x=m x:=by
 intro binds m;induction binds generalizing m with
 | nil=>
  intro _;exact rfl
 | cons it_ r ih_=>
  obtain⟨y,v⟩:=it_;intro h;refine er (ih_ fun p hp=>h p (.tail _ hp)) ?_;split
  ·exact if_neg (Ne.symm (h _ (.head _)))
  ·rfl
theorem wg{kindOf:Str->Option NameKind}{x:Str}:∀ {binds:List (Str×Value)} {m:Str->Option Value},(∀p∈binds,p.1≠x)->bindC kindOf binds m x=m x:=by
 intro binds m;induction binds generalizing m with
 | nil=>
  intro _;exact rfl
 | cons it_ r ih_=>
  obtain⟨y,v⟩:=it_;intro h;refine er (ih_ fun p hp=>h p (.tail _ hp)) ?_;split
  ·rfl
  ·exact if_neg (Ne.symm (h _ (.head _)))
theorem wx{names:List Str}{vals:List Value}{x:Str}(h:x∉names):∀p∈names.zip vals,p.1≠x:=fun p hp e=>h (e▸(RN hp).1)
theorem wf{kindOf:Str->Option NameKind}{x:Str}{v:Value}(hk:kindOf x=some .local){names:List Str}{vals:List Value}{i:Nat}{m:Str->Option Value}(nd:names.Nodup)(h1:names[i]? = some x)(h2:vals[i]? = some v):bindL kindOf (names.zip vals) m x=some v:=by
 induction names generalizing vals i m with
 | nil=>exact aJ h1
 | cons y names ih=>cases vals with
  | nil=>exact aJ h2
  | cons w vals=>
   rw [Pu] at nd;refine er QO ?_;cases i with
   | zero=>
    obtain rfl:=(Option.some.inj h1).symm;refine er (Option.some.inj h2) ?_;refine er (we (wx nd.1)) ?_;rewrite [if_pos hk];refine er (if_pos rfl) ?_;rfl
   | succ i=>exact ih nd.2 h1 h2
theorem wh{kindOf:Str->Option NameKind}{x:Str}{v:Value}(hk:kindOf x=some .cell){names:List Str}{vals:List Value}{i:Nat}{m:Str->Option Value}(nd:names.Nodup)(h1:names[i]? = some x)(h2:vals[i]? = some v):bindC kindOf (names.zip vals) m x=some v:=by
 induction names generalizing vals i m with
 | nil=>exact aJ h1
 | cons y names ih=>cases vals with
  | nil=>exact aJ h2
  | cons w vals=>
   rw [Pu] at nd;refine er QO ?_;cases i with
   | zero=>
    obtain rfl:=(Option.some.inj h1).symm;refine er (Option.some.inj h2) ?_;refine er (wg (wx nd.1)) ?_;rewrite [if_neg (by refine er hk ?_;decide)];refine er (if_pos rfl) ?_;rfl
   | succ i=>exact ih nd.2 h1 h2
end
section
mutual #where
variable {S:be} {A:Around} {φ φ':Fp} {H H':List O} {s s':Shared} {fc:FC} {env:Env} {loc:aW} {n:Nat}
theorem bZ.dropW{W:Nat->Prop}{s0:Shared}(X0:bZ fL φ φ s0 s)(X:bZ W φ φ' s s')(h:∀b,W b->s0.heap.get? b=none):bZ fL φ φ' s0 s' where
 pre:=X.pre
 new:=fun p hp=>by
  rcases X.new p hp with q | ⟨q1,q2,q3⟩
  ·exact .inl q
  ·refine .inr (bT (fun b o e=>?_) q2 q3);by_cases w:fV φ b
   ·refine aZ w fun q hq e1=>?_;rcases e1 with rfl | rfl
    ·exact(q2 q hq).1
    ·exact(q2 q hq).2
   ·exact q1 _ _ (X0.keep b o e w id)
 keep:=fun b o e n _=>X.keep b o (X0.keep b o e n id) n fun w=>by rw [h b w] at e;exact aJ e
 wex:=fun _ _ w=>w.elim
 os:=X.os.trans X0.os
 gens:=by
  refine b7 X0.gens fun k e=>b7 X.gens fun k' e'=>⟨k+k',by refine er e' (er e ?_);refine er Qg (er Po ?_);rfl⟩
theorem GV{α:Type}{f:α->Nat}{l:List α}(h:l.Pairwise fun x y=>f x≠f y){p q:α}(m1:p∈l)(m2:q∈l)(e:f p=f q):p=q:=by
 induction l with
 | nil=>exact nomatch m1
 | cons a l ih=>
  replace h:=So.mp h;refine(OY.mp m1).elim (fun e1=>(OY.mp m2).elim (fun e2=>e1.trans e2.symm) fun m2=>?_) fun m1=>(OY.mp m2).elim (fun e2=>?_) fun m2=>ih h.2 m1 m2
  ·exact absurd ((congrArg f e1).symm.trans e) (h.1 _ m2)
  ·exact absurd ((congrArg f e2).symm.trans e.symm) (h.1 _ m1)
theorem sS{l:List (Str×Addr)}(h:l.Pairwise fun x y=>x.2≠y.2){x y:Str}{c:Nat}(h1:l.lookup x=some c)(h2:l.lookup y=some c):x=y:=congrArg Prod.fst (GV h (eC h1) (eC h2) rfl)
theorem yu{a:Nat}{ps ls:List Str}{fd:FuncData}{xs:List V}{vs:List Value}{s₁:Shared}(st:St S φ H s)(rs:d8 φ xs vs)(hl:xs.length=ps.length)(c8:fd.globals=mainGlobals)(c9:fd.builtins=builtinsNs)(c12:fd.scope.kind=.function)(c15:(ps++ls).Nodup)
  (c17:∀x∈ls,fd.scope.names.lookup x≠some .free) (c16:∀x∈ps,fd.scope.names.lookup x=some .local∨fd.scope.names.lookup x=some .cell)
  (ic:InCallC s (callEnvC fd s.heap.objs.size a).locals (bindL (callEnvC fd s.heap.objs.size a).kindOf (ps.zip vs) fun _=>none) (callEnvC fd s.heap.objs.size a).cells (bindC (callEnvC fd s.heap.objs.size a).kindOf (ps.zip vs) fun _=>none) s₁) :
  bZ fL φ φ s s₁/\St S φ H s₁/\aB S ⟨ps++ls,fd.scope⟩ (callEnvC fd s.heap.objs.size a) (xs.map some++OM ls.length none) φ s₁.heap/\(∀b,d9 ⟨ps++ls,fd.scope⟩ (callEnvC fd s.heap.objs.size a) b->s.heap.get? b=none):=by
 refine Hw fun _ kK=>?_;haveI lv:=rs.length;have nps:=(PZ.mp c15).1;refine mO ic.toInCall.same fun h1 tk1 e1=>?_;have X0:bZ fL φ φ s s₁:=by refine er e1 ?_;exact bZ.grow fun b o e _=>by haveI:=ic.toInCall.keep b o e;rw [e1] at this;exact this
 haveI T1:St S φ H s₁:=by
  refine⟨fun b o e=>ic.toInCall.keep b o (st.base b o e),st.rel.ext fun b o e _=>ic.toInCall.keep b o e⟩
 haveI kd:∀z,(callEnvC fd s.heap.objs.size a).kindOf z=fd.scope.names.lookup z:=fun _=>rfl;have lo_c:∀z c,(callEnvC fd s.heap.objs.size a).cells.lookup z=some c->s.heap.objs.size<c:=fun z c e=>ic.above z c (eC e);have fresh:∀c:Nat,s.heap.objs.size<=c->s.heap.get? c=none:=fun c hc=>cq (bw.le hc);have notOwn:∀c:Nat,s.heap.objs.size<=c->¬fV φ c:=fun c hc w=>by
  refine b7 (st.rel.own_ex w) fun o e=>?_;rw [fresh c hc] at e;exact aJ e
 have abv:∀c:Nat,s.heap.objs.size<=c->cX S.B c:=fun c hc b o e=>OE (Qu (st.base b o e)) hc;have par:∀(i:Nat) (x:Str) (y:V),(ps++ls)[i]? = some x->(xs.map some++OM ls.length (none:Option V))[i]? = some (some y)->ps[i]? = some x/\xs[i]? = some y:=by
  intro i x y g1 g2;by_cases hi:i<xs.length
  ·rw [O4 (by simpa using hi)] at g2;rw [O4 (EI hi hl)] at g1;exact⟨g1,by simpa using g2⟩
  ·rw [OU (by simpa using hi)] at g2;haveI:=OC g2;simp at this
 refine kK X0 T1 ⟨rfl,c12,c8,c9,abv _ (OF _),notOwn _ (OF _),by simp [hl],c15,⟨_,ic.toInCall.ns,fun i x y g1 g2 g3=>?_⟩,fun i x g1 g2=>?_,fun i j x y c g1 g2 g3 g4=>?_⟩ fun b w=>?_
 ·refine ba (par i x y g1 g3) fun p1 p2=>aZ (rs.get p2) fun v v1 v2=>bN v (wf ((kd x).trans g2) nps p1 v1) v2
 ·have hcell:fd.scope.names.lookup x=some .cell:=by
   rcases g2 with g2 | g2
   ·exact g2
   ·exfalso;rcases O9.mp (OC g1) with m | m
    ·rcases c16 x m with q | q
     ·exact absurd (q.symm.trans g2) (by simp)
     ·exact absurd (q.symm.trans g2) (by decide)
    ·exact c17 x m g2
  haveI sm:=cellsFrom_some fd.scope.names (s.heap.objs.size+1) [] (.inl hcell);refine b7 (QV.mp sm) fun c hc=>?_;have hc:(callEnvC fd s.heap.objs.size a).cells.lookup x=some c:=hc;have lo:=lo_c x c hc;refine⟨c,hc,abv c (O0 lo),Pg lo,notOwn c (O0 lo),_,ic.cell x c hc,fun y g3=>?_⟩;refine ba (par i x y g1 g3) fun p1 p2=>aZ (rs.get p2) fun v v1 v2=>bN v (wh ((kd x).trans hcell) nps p1 v1) v2
 ·haveI e:=sS ic.apart g3 g4;subst e;obtain⟨l1,q1⟩:=OH.mp g1;obtain⟨l2,q2⟩:=OH.mp g2;exact(Q7 c15).mp (q1.trans q2.symm)
 ·rcases w with rfl | ⟨i,x,g1,g2,g3⟩
  ·exact fresh _ (OF _)
  ·exact fresh _ (O0 (lo_c x b g3))
theorem uo{a:Nat}{ps ls:List Str}{chk:FC->List Stmt->Bool}(h:rn S.K a ps ls chk=true){xs:List V}{vs:List Value}{Q:V->List O->Prop}(ao:eT A (n+1))(st:St S φ H s)(rs:d8 φ xs vs)(hl:xs.length=ps.length)
  (hb:∀fc body,fc.names=ps++ls->chk fc body=true->Du S n fc body (xs.map some++OM ls.length none) H (dA Q)):cB S.X S.M A (.call (.ref a) ⟨vs,[]⟩) (xC (bR S φ s Q)) s:=by
 unfold rn pO at h;split at h
 ·rename_i oc od fd osl hK;simp only [Px,beq_iff_eq,decide_eq_true_eq,Qz,Q5,Qo,O6,QH,bne_iff_ne] at h;obtain⟨⟨⟨⟨⟨⟨⟨⟨⟨⟨⟨⟨⟨⟨⟨⟨c1,c2⟩,c3⟩,c4⟩,c5⟩,c6⟩,c7⟩,c8⟩,c9⟩,c10⟩,c11⟩,c12⟩,c13⟩,c14⟩,c15⟩,c16⟩,c17⟩:=h;split at c1
  ·rename_i body hbd;haveI lv:=rs.length;haveI hbind:bindArgs fd ⟨vs,[]⟩=pure (ps.zip vs):=uA c2 c3 c4 c5 c6 c7 (by lia) (PZ.mp c15).1;refine lF S.xok ao.room (st.kin _ _ hK) rfl st.lim (codeRec_of st.kin c11) hbd hbind c10 (fun p hp=>?_) (fun s₁ ic=>?_) c14 c13 c12
   ·rcases c16 p.1 (RN hp).1 with q | q
    ·exact .inl q
    ·exact .inr ⟨q,cellsFrom_some _ _ _ (.inl q)⟩
   ·refine sn (yu st rs hl c8 c9 c12 c15 c17 c16 ic) fun X0 T1 eo hW=>aH (hb ⟨ps++ls,fd.scope⟩ body rfl c1 _ _ φ s₁ ao.call T1 eo) fun fl s2 pp=>?_;obtain⟨φ2,H2,l2,fa,X2,T2,E2,r2,q2⟩:=pp;haveI XX:=X0.dropW X2 hW;cases fa with
    | next=>exact er r2 ⟨φ2,H2,.none,XX,T2,.none,q2⟩
    | ret r=>obtain⟨w,rfl,r2⟩:=r2;exact⟨φ2,H2,_,XX,T2,r2,q2⟩
    | brk=>exact q2.elim
    | cont=>exact q2.elim
  ·exact ae c1
 ·exact ae h
theorem AT{a:Nat}{ps ls:List Str}{chk:FC->List Stmt->Bool}(h:rn S.K a ps ls chk=true){xs:List V}{Q:V->List O->Prop}(hl:xs.length=ps.length)
  (hb:∀fc body,fc.names=ps++ls->chk fc body=true->Du S n fc body (xs.map some++OM ls.length none) H (dA Q)):dG S (n+1) (.top a) xs H Q:=fun A φ s vf vs ao st rf rs=>by
 refine er rf ?_;refine f9 S.xok (eI (uo h ao st rs hl hb) fun f s' z=>?_);cases f<;>exact z
theorem yY{C fI:Nat}{ps ls:List Str}{chk:FC->List Stmt->Bool}(hm:makesIn S.K C=true)(hi:findIn S.K (.ref C) "__init__" = some (some (.ref fI)))(hf:typeIn S.K (.ref fI)=some (.type "function"))(h:rn S.K fI ps ls chk=true)
  {xs:List V} {Q:V->List O->Prop} (hl:xs.length+1=ps.length)
  (hb:∀fc body,fc.names=ps++ls->chk fc body=true->Du S n fc body ((V.obj H.length::xs).map some++OM ls.length none) (H++[.inst C []]) (dA fun v H'=>v=.none/\Q (.obj H.length) H')):dG S (n+2) (.top C) xs H Q:=fun A φ s vf vs ao st rf rs=>by
 refine er rf ?_;have k:∀b o,s.heap.get? b=some o->((s.heap.push emptyDict).push (instObj C s.heap.objs.size)).get? b=some o:=fun b o e=>OV _ (OV _ e);haveI h1:((s.heap.push emptyDict).push (instObj C s.heap.objs.size)).get? (s.heap.objs.size+1)=some (instObj C s.heap.objs.size):=by
  haveI:=Pe (h:=s.heap.push emptyDict) (o:=instObj C s.heap.objs.size) rfl
  rwa [Heap.size_push] at this
 haveI h2:((s.heap.push emptyDict).push (instObj C s.heap.objs.size)).get? s.heap.objs.size=some (dictOf [] 0):=OV _ (Pe _ rfl);have hlt:s.heap.objs.size<s.heap.objs.size+1:=PR _;have R1:OR ((s.heap.push emptyDict).push (instObj C s.heap.objs.size)) (φ++[(s.heap.objs.size+1,s.heap.objs.size)]) (.inst C []) (s.heap.objs.size+1,s.heap.objs.size):=.inst h1 h2 .nil hlt
 let s1:Shared:={ s with heap:=(s.heap.push emptyDict).push (instObj C s.heap.objs.size) }
 have T1:St S (φ++[(s.heap.objs.size+1,s.heap.objs.size)]) (H++[.inst C []]) s1:=
  ⟨fun b x e=>k _ _ (st.base b x e),(st.rel.ext (fun b x e _=>k b x e)).add R1 (fun q hq=>(st.rel.all_lt bw q hq).1) fun b x e=>Qu (st.base b x e)⟩
 have X1:bZ fL φ (φ++[(s.heap.objs.size+1,s.heap.objs.size)]) s s1:=by
  refine⟨PH _ _,fun p hp=>?_,fun b x e _ _=>k _ _ e,fun _ _ w _=>w.elim,rfl,0,rfl⟩;rcases O9.mp hp with q | q
  ·exact .inl q
  ·exact er (OZ.mp q) (.inr (bT bw (st.rel.all_lt bw) (O0 hlt)))
 have v1:VR (φ++[(s.heap.objs.size+1,s.heap.objs.size)]) (.obj H.length) (.ref (s.heap.objs.size+1)):=by
  haveI e:(φ++[(s.heap.objs.size+1,s.heap.objs.size)])[H.length]? = some (s.heap.objs.size+1,s.heap.objs.size):=by refine el st.rel.len ?_;simp
  exact .obj e
 refine f9 S.xok (eI (G9 (Q:=bR S φ s Q) S.xok st.kin hm hi hf ?_) fun f s' z=>?_)
 ·have wt:(Code.builtin "type.__call__" ⟨.ref C::vs,[]⟩).weight=1:=by kernel_rfl
  have wu:(Code.builtin "type.__call__" ⟨.ref C::vs,[]⟩).cUnits=1:=by kernel_rfl
  have ao1:eT (A.under (.builtin "type.__call__" ⟨.ref C::vs,[]⟩)) (n+1):=⟨ao.hd,by
    haveI:=ao.dp;refine(?_:A.depth+(Code.builtin "type.__call__" ⟨.ref C::vs,[]⟩).weight+4*(n+1)<_);refine er wt ?_;lia,by
    haveI:=ao.un;refine(?_:A.units+(Code.builtin "type.__call__" ⟨.ref C::vs,[]⟩).cUnits+20*(n+1)+10<_);refine er wu ?_;lia⟩
  refine eI (uo h ao1 T1 (.cons v1 (rs.mono (PH _ _))) (by assumption) hb) fun f s' z=>?_;cases f with
  | ret v=>
   obtain⟨φ2,H2,y,X2,T2,r2,rfl,q2⟩:=z;obtain rfl:=r2;exact⟨rfl,φ2,H2,_,X1.trans X2,T2,v1.mono X2.pre,q2⟩
  | _=>exact z.elim
 ·cases f<;>exact z
end
end
mutual #where
structure Fn where
 ps:List Str
 ls:List Str
 body:Ps
def yw(K:Frag)(a:Nat)(F:Fn):Bool:=rn K a F.ps F.ls fun fc ss=>okSs fc F.body ss
end
section
mutual #where
variable {S:be} {n:Nat}
theorem pN(ok:SysOK S){a:Nat}{F:Fn}(h:yw S.K a F=true){xs:List V}{H:List O}{Q:V->List O->Prop}(hl:xs.length=F.ps.length)(q:bH S n F.body (xs.map some++OM F.ls.length none) H (dA Q)) :
  dG S (n+1) (.top a) xs H Q:=AT h hl fun fc body _ hc=>q fc body ok hc
def tD(K:Frag)(C fI:Nat)(F:Fn):Bool:=makesIn K C&&(findIn K (.ref C) "__init__" == some (some (.ref fI))&&(typeIn K (.ref fI) == some (.type "function")&&yw K fI F))
theorem yV(ok:SysOK S){C fI:Nat}{F:Fn}(h:tD S.K C fI F=true){xs:List V}{H:List O}{Q:V->List O->Prop}(hl:xs.length+1=F.ps.length)
  (q:bH S n F.body ((V.obj H.length::xs).map some++OM F.ls.length none) (H++[.inst C []]) (dA fun v H'=>v=.none/\Q (.obj H.length) H')):dG S (n+2) (.top C) xs H Q:=by
 refine eJ h fun h1 h2 h=>ba (aV h) fun h3 h4=>yY h1 (eq_of_beq h2) (eq_of_beq h3) h4 hl fun fc body _ hc=>q fc body ok hc
end
end
mutual #where
def gP(k:Int×Int):O:=.tuple [.int k.1,.int k.2]
def mP(v:V):Nat->List (Int×Int)->List (Nat×(Int×Int)×V)
 | _,[]=>[]
 | j,k::ks=>(j,k,v)::mP v (j+1) ks
theorem rN{i:Int}{e:Expr}(h:(qk e).any (AU i)=true){kP:Prop}(kK:∀k p,e=.Constant (.int i) k p->kP):kP:=by
 refine fP (j5 h) fun c k p z h=>?_;cases c with
 | int j=>obtain rfl:=eq_of_beq h;exact kK k p z
 | _=>exact ae h
theorem oN{k:Int×Int}{e:Option Expr}(h:By k e=true){kP:Prop}(kK:∀k1 p1 k2 p2 k3 p3,e=some (.Tuple [.Constant (.int k.1) k1 p1,.Constant (.int k.2) k2 p2] k3 p3)->kP):kP:=by
 refine aZ (dF h) fun e q_a h=>fP (mC h) fun es k3 p3 q_b h=>?_;rcases es with _ | ⟨a,_ | ⟨b,_ | ⟨c,es⟩⟩⟩
 ·exact ae h
 ·exact ae h
 ·refine ba (aV h) fun h1 h2=>rN h1 fun k1 p1 q_c=>rN h2 fun k2 p2 q_d=>kK k1 p1 k2 p2 k3 p3 (by refine er q_a (er q_b ?_);refine er q_c (er q_d ?_);rfl)
 ·exact ae h
theorem wQ{fc:FC}{i:Nat}{ks:List (Int×Int)}:∀ {keys:List (Option Expr)} {vs:List Expr},zO fc i ks keys vs=true->keys.all (·.isSome)=true/\keys.length=vs.length/\keys.length=ks.length:=by
 induction ks with
 | nil=>intro keys vs h;cases mJ (aV h).1;cases mJ (aV h).2;exact bT rfl rfl rfl
 | cons k r ih=>
  intro keys vs h;cases keys with
  | nil=>exact ae h
  | cons e keys=>cases vs with
   | nil=>exact ae h
   | cons v vs=>
    refine ba (aV h) fun h1 h=>dN (ih h) fun a b c=>oN (aV h1).1 fun _ _ _ _ _ _ q_a=>er q_a ?_;exact bT a (congrArg Nat.succ b) (congrArg Nat.succ c)
end
section
mutual #where
variable {S:be} {n:Nat} {fc:FC} {loc:aW} {φ:Fp} {H:List O} {s:Shared} {env:Env} {A:Around} {E:Value->Shared->Prop} {i:Nat} {y:V} {pos:Pos}
theorem vw(e:dE loc i=some y){kk:Int×Int}{k1 k2 k3:Nat}{p1 p2 p3 p:Pos}{x:Str}{rest:Sem (List (Value×Value))}(o3:uh fc i x=true)(st:St S φ H s)(eo:aB S fc env loc φ s.heap)
  {Q:List (Value×Value)->Shared->Prop} (q:∀(a:Nat) (v:Value) s1,bZ fL φ (φ++[(a,a)]) s s1->St S (φ++[(a,a)]) (H++[gP kk]) s1->VR (φ++[(a,a)]) y v->wpAny S.M A rest (fun r s2=>Q ((.ref a,v)::r) s2) E s1) :
  wpAny S.M A (do
    let kv ← eval (.Tuple [.Constant (.int kk.1) k1 p1,.Constant (.int kk.2) k2 p2] k3 p3) env
    let vv ← holding [kv] (do let x ← eval (.Name x p) env;standAt pos;pure x)
    return (kv,vv)::(← holding [kv,vv] rest)) Q E s:=by
 haveI tup:∀ {Q:Value->Shared->Prop},(∀s1,bZ fL φ (φ++[(s.heap.objs.size,s.heap.objs.size)]) s s1->St S (φ++[(s.heap.objs.size,s.heap.objs.size)]) (H++[gP kk]) s1->Q (.ref s.heap.objs.size) s1)->
   wpAny S.M A (eval (.Tuple [.Constant (.int kk.1) k1 p1,.Constant (.int kk.2) k2 p2] k3 p3) env) Q E s:=by
  intro Q hq;refine(?_:wpAny _ _ (do standAt p3;newTuple (← spliced [(false,eval (.Constant (.int kk.1) k1 p1) env),(false,eval (.Constant (.int kk.2) k2 p2) env)])) _ _ _)
  refine wpAny_bind (wpAny_standAt (wpAny_bind (Calls.spliced_cons ?_)));refine wpAny_mkInt (Calls.spliced_cons ?_);refine wpAny_mkInt (Calls.spliced_nil ?_);refine dN (st.new (tk:=s.toks+1+1) (o:=gP kk) (h':=s.heap.push (iK "tuple" [Value.int kk.1 s.toks,Value.int kk.2 (s.toks+1)] 0)) (fun b x e=>OV _ e)
   (.tuple (Pe _ rfl) (.cons (.int _ _) (.cons (.int _ _) .nil))) bw) fun X T _=>?_
  refine wpAny_newTuple ?_ (by simp [sizeLine_eq]);exact hq _ X T
 refine wpAny_bind (tup fun s1 X1 T1=>wpAny_bind (wpAny_holding (wpAny_bind ?_)));refine qS o3 e (eo.ext X1) fun v rv=>wpAny_bind (wpAny_standAt (wpAny_pure ?_));exact wpAny_bind (wpAny_holding (wpAny_mono (q _ v s1 X1 T1 rv) (fun r s2 hq=>wpAny_pure hq) fun _ _ e=>e))
abbrev wl(as:List (Nat×Value)):Fp:=as.map fun p=>(p.1,p.1)
theorem vt(e:dE loc i=some y){ks:List (Int×Int)}:∀ {keys:List (Option Expr)} {vs:List Expr} {φ:Fp} {H:List O} {s:Shared} (_:zO fc i ks keys vs=true) (_:St S φ H s) (_:aB S fc env loc φ s.heap)
  {Q:List (Value×Value)->Shared->Prop} (_:∀(as:List (Nat×Value)) (s':Shared),as.length=ks.length->bZ fL φ (φ++wl as) s s'->St S (φ++wl as) (H++ks.map gP) s'->(∀p∈as,VR (φ++wl as) y p.2)->Q (as.map fun p=>(.ref p.1,p.2)) s'),
  wpAny S.M A (evalPairs (pairTrees keys vs env pos)) Q E s:=by
 induction ks with
 | nil=>
  intro keys vs φ H s ok st eo Q q;cases mJ (aV ok).1;cases mJ (aV ok).2;exact wpAny_pure (q [] s rfl (by exact er (show φ++wl []=φ from OO _) .refl) (by refine er (show φ++wl []=φ from OO _) (er S5 ?_);rw [OO];exact st) fun _ h=>(Qe h).elim)
 | cons k r ih=>
  intro keys vs φ H s ok st eo Q q;cases keys with
  | nil=>exact ae ok
  | cons e keys=>cases vs with
   | nil=>exact ae ok
   | cons v vs=>
    refine ba (aV ok) fun h1 h3=>eu (dR (aV h1).2) fun x p z h2=>oN (aV h1).1 fun k1 p1 k2 p2 k3 p3 q_a=>?_;clear ok h1;refine er z ?_;obtain rfl:=q_a;refine vw e h2 st eo fun a v s1 X1 T1 rv=>ih h3 T1 (eo.ext X1) fun as s2 hl X2 T2 hv=>?_;rw [show φ++[(a,a)]++wl as=φ++wl ((a,v)::as) from OB ..] at X2 T2 hv;rw [OB ..] at T2;refine q ((a,v)::as) s2 (congrArg Nat.succ hl) (X1.trans X2) T2 fun p hp=>?_;rcases OY.mp hp with rfl | hp
    ·exact rv.mono X2.pre
    ·exact hv p hp
theorem tG{K:Type}[DecidableEq K]{xs:List (K×Addr×Value)}{k:K}(h:k∉xs.map (·.1)):atKey xs k=none:=by
 refine er (propext Option.map_eq_none_iff) ?_;refine List.find?_eq_none.mpr ?_;intro x hx;simp only [decide_eq_true_eq];rintro rfl;exact h (Pm.mpr (bN x hx rfl))
def Ap(ks:List (Int×Int))(as:List (Nat×Value)):List (List Int×Addr×Value):=(ks.zip as).map fun p=>([p.1.1,p.1.2],p.2.1,p.2.2)
theorem vh(un:A.units<cLine){d:Nat}{prog:Program}{w:World}:∀(as:List (Nat×Value)) (ks:List (Int×Int)) (xs:List (List Int×Addr×Value)) (s:Shared) {Q:PUnit->Shared->Prop} (_:as.length=ks.length) (_:xs.length+as.length<=100)
  (_:s.heap.DictOfH (tupleKind (intKind prog w)) d xs) (_:∀(j:Nat) (k:Int×Int) (a:Nat×Value),ks[j]? = some k->as[j]? = some a->IsTupleKey (intKind prog w) s.heap [k.1,k.2] a.1/\a.1≠d)
  (_:ks.Nodup) (_:∀k∈ks,[k.1,k.2]∉xs.map (·.1))
  (_:∀h' tk,h'.DictOfH (tupleKind (intKind prog w)) d (xs++Ap ks as)->PN d s.heap h'->Q ⟨⟩ { s with heap:=h',toks:=tk }),
  wpAny (model prog w) A (storeAll d (as.map fun p=>(.ref p.1,p.2))) Q E s:=by
 intro as;induction as with
 | nil=>
  intro ks xs s Q hl _ hD _ _ _ q;replace q:=(Pc hl.symm)▸q;unfold storeAll;refine er S5 ?_;exact er SQ (wpAny_pure (q s.heap s.toks (by refine er (show Ap [] []=[] from rfl) ?_;rw [OO];exact hD) fun _ _ _ e=>e))
 | cons a as ih=>
  intro ks xs s Q hl hs hD hk nd hn q;cases ks with
  | nil=>exact Nat.noConfusion hl
  | cons k ks=>
   have nd:=Pu.mp nd;unfold storeAll;refine er O1 ?_;rw [RO];haveI h0:=hk 0 k a rfl rfl;refine wpAny_bind (wpAny_bind (wpAny_dictSet_heap un h0.1 hD (fun h1 hD1 sb=>wpAny_pure ?_) (by refine er sizeLine_eq ?_;simp at hs;lia)));rw [storedH_new (tG (hn k (.head _)))] at hD1;refine ih ks (xs++[([k.1,k.2],a.1,a.2)]) _ (by simpa using hl) (by simp at hs⊢;exact Io hs) hD1 (fun j k' a' h1 h2=>?_) nd.2 (fun k' hk'=>?_) fun h' tk hD' eb=>q h' tk (by simpa [Ap] using hD') fun b o nb e=>eb b o nb (sb.extBut b o nb e)
   ·haveI:=hk (j+1) k' a' (by assumption) (by assumption);refine ba this fun q_a g3=>fP q_a fun o its nn g1 g2=>⟨(qe o its nn ((sb.2 _ g3).trans g1) g2),g3⟩
   ·refine er O2 (er (propext O9) ?_);rintro(m | m)
    ·exact hn k' (.tail _ hk') m
    ·simp at m;exact nd.1 (by haveI:k=k':=SV m.1.symm m.2.symm;exact er this hk')
theorem EV.tdict{l:aW}{ks:List (Int×Int)}{v:V}(e:dE l i=some v):EV S n (.tdict ks i) l H (.obj H.length) (H++[.tdict (mP v (H.length+1) ks)]++ks.map fun k=>.tuple [.int k.1,.int k.2]):=fun Q q fc ee ok he A env φ s ao st eo=>by
 refine fP (qj he) fun keys vs p z h2=>?_;clear he;subst z;refine eJ h2 fun ok h15 h2=>ba (aV h2) fun hne nd=>?_;have nd:=of_decide_eq_true nd;refine dN (wQ ok) fun l1 l2 l3=>?_;have hl15:=Rl h15;refine dN (st.new (tk:=s.toks) (o:=.tdict []) (h':=s.heap.push ⟨.type "dict",.none,.dict #[],#[]⟩) (fun b x e=>OV _ e)
  (.one fS (Pe _ rfl) (Cg [] (#[]) 0 (bT rfl rfl rfl) rfl (fun _ _=>rfl) .nil .nil)) bw) fun X1 T1 r1=>?_
 refine aK (wpAny_Dict_any l1 l2 (by intro z;subst z;cases ks with
  | nil=>exact ae hne
  | cons _ _=>exact(Nat.noConfusion l3:False).elim) (JM l3 hl15) ?_)
 generalize hd:s.heap.objs.size=d at X1 T1 r1⊢;refine vt e ok T1 (eo.ext X1) fun as s2 hla X2 T2 hv=>?_;have kAt:∀(j) (k:Int×Int) (a:Nat×Value),ks[j]? = some k->as[j]? = some a->(φ++[(d,d)]++wl as)[H.length+1+j]? = some (a.1,a.1)/\(H++[.tdict []]++ks.map gP)[H.length+1+j]? = some (gP k):=by
  intro j k a h1 h2;constructor
  ·refine er (OU (by simp [st.rel.len])) ?_;simp [st.rel.len,h2]
  ·refine er (OU (by simp)) ?_;simp [h1]
 have dget:(φ++[(d,d)]++wl as)[H.length]? = some (d,d):=by
  rewrite [OB,OU (OP st.rel.len)];refine er st.rel.len ?_;rw [Rg];rfl
 haveI hO:(H++[O.tdict []]++ks.map gP)[H.length]? = some (.tdict []):=by
  rewrite [OB];refine er (OU (OF _)) ?_;rw [Rg];rfl
 haveI D0:s2.heap.DictOfH (tupleKind (intKind S.prog S.w)) d []:=by
  refine ba (OR.get (o:=.tdict []) fS (T2.rel.at_ _ _ _ hO dget)) fun _ q_a=>aZ q_a fun o g q_b=>si q_b fun xs ds n a2 a3 a4 a5 a6=>?_;obtain rfl:=a6.nil_inv;exact Nt o ds n g a2 a3 (a4 _ _) (fun _ h=>(Qe h).elim) a5
 refine vh (by haveI:=ao.un1;exact O0 ‹_›) as ks [] s2 hla (by refine er Rf ?_;rewrite [Py];exact er hla (LA hl15)) D0 (fun j k a h1 h2=>?_) nd (fun _ _=>Qe) fun h' tk hD eb=>?_
 ·refine ba (kAt j k a h1 h2) fun g1 g2=>⟨su T2 g1 g2,fun z=>(T2.rel.apart dget g1 Fo).1 z.symm⟩
 ·refine u9 hD fun o es ep f1 f2 f3 f4 f5 f6=>?_;haveI gen:∀(ks':List (Int×Int)) (as':List (Nat×Value)) (m),as'.length=ks'.length->(∀(j) (a:Nat×Value),as'[j]? = some a->(φ++[(d,d)]++wl as)[m+j]? = some (a.1,a.1))->(∀a∈as',a∈as)->F2 (TD (φ++[(d,d)]++wl as)) (mP v m ks') (Ap ks' as'):=by
   intro ks';induction ks' with
   | nil=>exact fun as' m hl _ _=>.nil
   | cons k ks' ih=>
    intro as' m hl hg hm;cases as' with
    | nil=>exact(Nat.noConfusion hl:False).elim
    | cons a as'=>
     refine .cons (bT rfl ⟨_,hg 0 a rfl⟩ (hv a (hm a (.head _)))) (ih as' (m+1) (Nat.succ.inj hl) (fun j a' h'=>?_) fun a' h'=>hm a' (.tail _ h'));rw [PQ];exact hg (j+1) a' h'
  haveI F:=gen ks as (H.length+1) hla (fun j a h'=>by
   haveI:j<ks.length:=by haveI:=(OH.mp h').1;exact EI this hla
   exact(kAt j (ks[j]) a (OD this) h').1) fun a h'=>h'
  have R':=T2.rel.upd (o':=.tdict (mP v (H.length+1) ks)) dget (.one fS f1 (Cg _ _ _ f2 f3 (fun _ _=>f4) (by assumption) (by assumption))) fun b x e n1 _=>eb b x n1 e;haveI X3:bZ fL (φ++[(d,d)]++wl as) (φ++[(d,d)]++wl as) s2 { s2 with heap:=h',toks:=tk }:=bZ.grow fun b x e nb=>eb b x (fun z=>nb (bN _ (OC dget) (.inl z))) e;haveI eH:(H++[O.tdict []]++ks.map gP).set H.length (.tdict (mP v (H.length+1) ks))=H++[.tdict (mP v (H.length+1) ks)]++ks.map gP:=by
   rewrite [OB];refine er (Sa _ _ (OF _)) ?_;rw [Rg,OB];rfl
  rw [eH] at R';exact⟨_,_,_,(X1.trans X2).trans X3,T2.ext X3 ue R',r1.mono X2.pre,q⟩
end
end
section
mutual #where
variable {S:be} {n:Nat} {l l1:aW} {H H1:List O} {R:Ps} {Q:Fl->aW->List O->Prop}
def qg(S:be)(n:Nat)(t:T)(A:Ps)(k:Nat):aW->List O->Fl->aW->List O->Prop:=
 Nat.rec (fun l H f l1 H1=>(TV S n t l H false H1/\f=.next/\l1=l)∨∃Hb v,TV S n t l H true Hb/\f=.ret v/\∀Q:Fl->aW->List O->Prop,Q f l1 H1->bH S n A l Hb Q)
  (fun _ ih l H f l1 H1=>∃lb Hb Hc,TV S n t l H true Hb/\(∀Q:Fl->aW->List O->Prop,Q .next lb Hc->bH S n A l Hb Q)/\ih lb Hc f l1 H1) k
end
section
mutual #where
variable {t:T} {A:Ps} {la lb lc:aW} {Ha Hb Hc Hd:List O} {f:Fl} {v:V} {ka:Nat}
theorem qg.stop(h:TV S n t la Ha false Hb):qg S n t A 0 la Ha .next la Hb:=.inl (bT h rfl rfl)
theorem qg.ret(h:TV S n t la Ha true Hb)(q:∀Q:Fl->aW->List O->Prop,Q (.ret v) lb Hc->bH S n A la Hb Q):qg S n t A 0 la Ha (.ret v) lb Hc:=.inr (lN Hb v h rfl q)
theorem qg.step(h:TV S n t la Ha true Hb)(q:∀Q:Fl->aW->List O->Prop,Q .next lb Hc->bH S n A la Hb Q)(r:qg S n t A ka lb Hc f lc Hd):qg S n t A (ka+1) la Ha f lc Hd:=(GG lb Hb Hc h q r)
end
end
mutual #where
theorem eS{t:T}{A:Ps}{k:Nat}{f:Fl}(h:qg S n t A k l H f l1 H1)(q:KR S n R Q f l1 H1):bH S n (.cons (.while_ t A) R) l H Q:=by
 refine zf (sf (fun k l H=>qg S n t A k l H f l1 H1) k h (fun k l H hI=>?_));cases k with
 | zero=>
  refine hI.elim (fun h=>dN h fun ht e e'=>ht _ ?_) fun h=>fQ h fun Hb v ht e hA=>ht _ (hA _ ?_)
  ·exact e▸e'▸q
  ·refine er e ?_;replace q:=e▸q;exact q
 | succ k=>exact ws hI fun lb Hb Hc ht hA hr=>ht _ (hA _ (bN _ (PR _) hr))
theorem i7{t:T}{A:Ps}{k:Nat}(h:qg S n t A k l H .next l1 H1)(q:bH S n R l1 H1 Q):bH S n (.cons (.while_ t A) R) l H Q:=eS h q
end
end
mutual #where
def nB:Fn:=⟨[F7 "frame",F7 "scan"],[],(.cons (.if_ (.val (.meth (.loc 1) 63 .nil)) (.cons (.ret (.sub (.meth (.loc 0) 46 (.cons (.sub (.att (.loc 1) 30) (.int 0)) .nil)) (.int 0))) .nil) .nil) (.cons (.ret (.meth (.loc 0) 43 .nil)) .nil))⟩
def pQ:Fn:=⟨[F7 "frame",F7 "scan"],[F7 "across",F7 "down"],(.cons (.if_ (.val (.meth (.loc 1) 63 .nil)) (.cons (.asg (.many [2,3]) (.meth (.loc 0) 46 (.cons (.sub (.att (.loc 1) 30) (.int 0)) .nil))) (.cons (.ret (.bin .Mult (.loc 2) (.loc 3))) .nil)) .nil) (.cons (.ret (.bin .Mult (.meth (.loc 0) 43 .nil) (.meth (.loc 0) 44 .nil))) .nil))⟩
def oU:Fn:=⟨[F7 "frame",F7 "scan",F7 "x",F7 "y"],[F7 "found",F7 "place",F7 "component",F7 "down",F7 "across",F7 "spot"],(.cons (.if_ (.val (.meth (.loc 1) 63 .nil)) (.cons (.ret (.list (.cons (.tup (.cons (.int 0) (.cons (.sub (.att (.loc 1) 30) (.int 0)) (.cons (.loc 2) (.cons (.loc 3) .nil))))) .nil))) .nil) .nil) (.cons (.asg (.one 4) (.list .nil)) (.cons (.for_ (.one 5) (.bcall .range (.cons (.bcall .len (.cons (.att (.loc 1) 30) .nil)) .nil)) (.cons (.asg (.one 6) (.sub (.att (.loc 0) 8) (.sub (.att (.loc 1) 30) (.loc 5)))) (.cons (.for_ (.one 7) (.bcall .range (.cons (.att (.loc 6) 2) .nil)) (.cons (.for_ (.one 8) (.bcall .range (.cons (.att (.loc 6) 1) .nil)) (.cons (.asg (.one 9) (.tup (.cons (.bin .Add (.bin .Mult (.loc 2) (.att (.loc 6) 1)) (.loc 8)) (.cons (.bin .Add (.bin .Mult (.loc 3) (.att (.loc 6) 2)) (.loc 7)) .nil)))) (.cons (.expr (.meth (.loc 4) 67 (.cons (.tup (.cons (.loc 5) (.cons (.sub (.att (.loc 1) 30) (.loc 5)) (.cons (.sub (.loc 9) (.int 0)) (.cons (.sub (.loc 9) (.int 1)) .nil))))) .nil))) .nil))) .nil)) .nil))) (.cons (.ret (.loc 4)) .nil))))⟩
def Az:Fn:=⟨[F7 "many",F7 "size"],[],(.cons (.ret (.bin .FloorDiv (.bin .Sub (.bin .Add (.loc 0) (.loc 1)) (.int 1)) (.loc 1))) .nil)⟩
def lz:Fn:=⟨[F7 "self",F7 "ident",F7 "across",F7 "down",F7 "quant"],[],(.cons (.setatt (.loc 0) 0 (.loc 1)) (.cons (.setatt (.loc 0) 1 (.loc 2)) (.cons (.setatt (.loc 0) 2 (.loc 3)) (.cons (.setatt (.loc 0) 3 (.loc 4)) .nil))))⟩
def pS:Fn:=⟨[F7 "self",F7 "kind",F7 "precision",F7 "height",F7 "width",F7 "components",F7 "n"],[],(.cons (.setatt (.loc 0) 4 (.loc 1)) (.cons (.setatt (.loc 0) 5 (.loc 2)) (.cons (.setatt (.loc 0) 6 (.loc 3)) (.cons (.setatt (.loc 0) 7 (.loc 4)) (.cons (.setatt (.loc 0) 8 (.loc 5)) (.cons (.setatt (.loc 0) 9 (.loc 6)) .nil))))))⟩
def jp:Fn:=⟨[F7 "self"],[],(.cons (.ret (.bcall .max (.cons (.comp [] (.att (.loc 0) 1) (.att (.loc 0) 8)) .nil))) .nil)⟩
def kL:Fn:=⟨[F7 "self"],[],(.cons (.ret (.bcall .max (.cons (.comp [] (.att (.loc 0) 2) (.att (.loc 0) 8)) .nil))) .nil)⟩
def jq:Fn:=⟨[F7 "self"],[],(.cons (.ret (.fcall 4 (.cons (.att (.loc 0) 7) (.cons (.bin .Mult (.att (.loc 0) 9) (.meth (.loc 0) 41 .nil)) .nil)))) .nil)⟩
def kM:Fn:=⟨[F7 "self"],[],(.cons (.ret (.fcall 4 (.cons (.att (.loc 0) 6) (.cons (.bin .Mult (.att (.loc 0) 9) (.meth (.loc 0) 42 .nil)) .nil)))) .nil)⟩
def jV:Fn:=⟨[F7 "self",F7 "place"],[F7 "component",F7 "width"],(.cons (.asg (.one 2) (.sub (.att (.loc 0) 8) (.loc 1))) (.cons (.asg (.one 3) (.fcall 4 (.cons (.bin .Mult (.att (.loc 0) 7) (.att (.loc 2) 1)) (.cons (.meth (.loc 0) 41 .nil) .nil)))) (.cons (.ret (.tup (.cons (.loc 3) (.cons (.fcall 4 (.cons (.bin .Mult (.att (.loc 0) 6) (.att (.loc 2) 2)) (.cons (.meth (.loc 0) 42 .nil) .nil))) .nil)))) .nil)))⟩
def nH:Fn:=⟨[F7 "self",F7 "place"],[F7 "width",F7 "height"],(.cons (.asg (.many [2,3]) (.meth (.loc 0) 45 (.cons (.loc 1) .nil))) (.cons (.ret (.tup (.cons (.fcall 4 (.cons (.loc 2) (.cons (.att (.loc 0) 9) .nil))) (.cons (.fcall 4 (.cons (.loc 3) (.cons (.att (.loc 0) 9) .nil))) .nil)))) .nil))⟩
def nF:Fn:=⟨[F7 "self",F7 "place"],[F7 "component"],(.cons (.asg (.one 2) (.sub (.att (.loc 0) 8) (.loc 1))) (.cons (.ret (.tup (.cons (.bin .Mult (.meth (.loc 0) 43 .nil) (.att (.loc 2) 1)) (.cons (.bin .Mult (.meth (.loc 0) 44 .nil) (.att (.loc 2) 2)) .nil)))) .nil))⟩
def l8:Fn:=⟨[F7 "self",F7 "frame"],[F7 "place",F7 "across",F7 "down"],(.cons (.setatt (.loc 0) 10 (.bin .Mult (.att (.loc 1) 9) (.att (.loc 1) 9))) (.cons (.setatt (.loc 0) 11 (.list .nil)) (.cons (.for_ (.one 2) (.bcall .range (.cons (.bcall .len (.cons (.att (.loc 1) 8) .nil)) .nil)) (.cons (.asg (.many [3,4]) (.meth (.loc 1) 47 (.cons (.loc 2) .nil))) (.cons (.expr (.meth (.att (.loc 0) 11) 67 (.cons (.comp [3] (.bin .Mult (.list (.cons .none .nil)) (.loc 1)) (.bcall .range (.cons (.loc 4) .nil))) .nil))) .nil))) .nil)))⟩
def tu:Fn:=⟨[F7 "self",F7 "place",F7 "x",F7 "y"],[F7 "row"],(.cons (.asg (.one 4) (.sub (.sub (.sub (.att (.loc 0) 11) (.loc 1)) (.loc 3)) (.loc 2))) (.cons (.ret (.ite (.cmp (.loc 4) [.Is] (.cons .none .nil)) (.bin .Mult (.list (.cons (.int 0) .nil)) (.att (.loc 0) 10)) (.loc 4))) .nil))⟩
def tr:Fn:=⟨[F7 "self",F7 "place",F7 "x",F7 "y",F7 "row"],[],(.cons (.setsub (.sub (.sub (.att (.loc 0) 11) (.loc 1)) (.loc 3)) (.loc 2) (.bcall .list (.cons (.loc 4) .nil))) .nil)⟩
def ur:Fn:=⟨[F7 "one",F7 "other",F7 "frame"],[F7 "place",F7 "across",F7 "down",F7 "y",F7 "x"],(.cons (.for_ (.one 3) (.bcall .range (.cons (.bcall .len (.cons (.att (.loc 2) 8) .nil)) .nil)) (.cons (.asg (.many [4,5]) (.meth (.loc 2) 46 (.cons (.loc 3) .nil))) (.cons (.for_ (.one 6) (.bcall .range (.cons (.loc 5) .nil)) (.cons (.for_ (.one 7) (.bcall .range (.cons (.loc 4) .nil)) (.cons (.if_ (.cmp (.meth (.loc 0) 39 (.cons (.loc 3) (.cons (.loc 7) (.cons (.loc 6) .nil)))) [.NotEq] (.cons (.meth (.loc 1) 39 (.cons (.loc 3) (.cons (.loc 7) (.cons (.loc 6) .nil)))) .nil)) (.cons (.ret (.bool false)) .nil) .nil) .nil)) .nil)) .nil))) (.cons (.ret (.bool true)) .nil))⟩
def lZ:Fn:=⟨[F7 "counts"],[F7 "rows",F7 "code",F7 "place",F7 "size",F7 "many"],(.cons (.asg (.one 1) (.list .nil)) (.cons (.asg (.many [2,3]) (.tup (.cons (.int 0) (.cons (.int 0) .nil)))) (.cons (.for_ (.one 4) (.bcall .range (.cons (.int 1) (.cons (.bin .Add (.bcall .len (.cons (.loc 0) .nil)) (.int 1)) .nil))) (.cons (.asg (.one 5) (.sub (.loc 0) (.bin .Sub (.loc 4) (.int 1)))) (.cons (.expr (.meth (.loc 1) 67 (.cons (.tup (.cons (.loc 2) (.cons (.loc 5) (.cons (.loc 3) .nil)))) .nil))) (.cons (.asg (.one 2) (.bin .Add (.loc 2) (.loc 5))) (.cons (.asg (.one 3) (.bin .Add (.loc 3) (.loc 5))) (.cons (.if_ (.and (.cons (.cmp (.loc 2) [.GtE] (.cons (.bin .Pow (.int 2) (.loc 4)) .nil)) (.cons (.cmp (.loc 5) [.Gt] (.cons (.int 0) .nil)) .nil))) (.cons .raise .nil) .nil) (.cons (.asg (.one 2) (.bin .Mult (.loc 2) (.int 2))) .nil))))))) (.cons (.ret (.loc 1)) .nil))))⟩
def kH:Fn:=⟨[F7 "counts",F7 "symbols"],[F7 "met",F7 "symbol"],(.cons (.if_ (.or (.cons (.cmp (.bcall .len (.cons (.loc 0) .nil)) [.NotEq] (.cons (.glob 51) .nil)) (.cons (.cmp (.bcall .min (.cons (.loc 0) .nil)) [.Lt] (.cons (.int 0) .nil)) .nil))) (.cons .raise .nil) .nil) (.cons (.if_ (.or (.cons (.cmp (.bcall .sum (.cons (.loc 0) .nil)) [.NotEq] (.cons (.bcall .len (.cons (.loc 1) .nil)) .nil)) (.cons (.cmp (.bcall .len (.cons (.loc 1) .nil)) [.Gt] (.cons (.glob 52) .nil)) .nil))) (.cons .raise .nil) .nil) (.cons (.asg (.one 2) (.bcall .set .nil)) (.cons (.for_ (.one 3) (.loc 1) (.cons (.if_ (.cmp (.loc 3) [.In] (.cons (.loc 2) .nil)) (.cons .raise .nil) .nil) (.cons (.expr (.meth (.loc 2) 69 (.cons (.loc 3) .nil))) .nil))) .nil))))⟩
def gw:Fn:=⟨[F7 "self",F7 "counts",F7 "symbols"],[F7 "size",F7 "first",F7 "many",F7 "place",F7 "k"],(.cons (.expr (.fcall 7 (.cons (.loc 1) (.cons (.loc 2) .nil)))) (.cons (.setatt (.loc 0) 12 (.bcall .tuple (.cons (.loc 1) .nil))) (.cons (.setatt (.loc 0) 13 (.bcall .tuple (.cons (.loc 2) .nil))) (.cons (.setatt (.loc 0) 14 (.fcall 6 (.cons (.att (.loc 0) 12) .nil))) (.cons (.setatt (.loc 0) 15 .dict0) (.cons (.for_ (.one 3) (.bcall .range (.cons (.int 1) (.cons (.bin .Add (.glob 51) (.int 1)) .nil))) (.cons (.asg (.many [4,5,6]) (.sub (.att (.loc 0) 14) (.bin .Sub (.loc 3) (.int 1)))) (.cons (.for_ (.one 7) (.bcall .range (.cons (.loc 5) .nil)) (.cons (.setsub (.att (.loc 0) 15) (.sub (.att (.loc 0) 13) (.bin .Add (.loc 6) (.loc 7))) (.tup (.cons (.bin .Add (.loc 4) (.loc 7)) (.cons (.loc 3) .nil)))) .nil)) .nil))) .nil))))))⟩
def ly:Fn:=⟨[F7 "self",F7 "symbol"],[F7 "found"],(.cons (.asg (.one 2) (.meth (.att (.loc 0) 15) 39 (.cons (.loc 1) .nil))) (.cons (.if_ (.cmp (.loc 2) [.Is] (.cons .none .nil)) (.cons .raise .nil) .nil) (.cons (.ret (.loc 2)) .nil)))⟩
def gv:Fn:=⟨[F7 "self",F7 "reader"],[F7 "code",F7 "first",F7 "many",F7 "place"],(.cons (.asg (.one 2) (.int 0)) (.cons (.for_ (.many [3,4,5]) (.att (.loc 0) 14) (.cons (.asg (.one 2) (.bin .Add (.bin .Mult (.loc 2) (.int 2)) (.meth (.loc 1) 53 .nil))) (.cons (.if_ (.cmp (.bin .Sub (.loc 2) (.loc 3)) [.Lt] (.cons (.loc 4) .nil)) (.cons (.ret (.sub (.att (.loc 0) 13) (.bin .Sub (.bin .Add (.loc 5) (.loc 2)) (.loc 3)))) .nil) .nil) .nil))) (.cons .raise .nil)))⟩
def lA:Fn:=⟨[F7 "self"],[],(.cons (.setatt (.loc 0) 16 .barr) (.cons (.setatt (.loc 0) 17 (.int 0)) (.cons (.setatt (.loc 0) 18 (.int 0)) .nil)))⟩
def im:Fn:=⟨[F7 "self",F7 "value",F7 "size"],[],(.cons (.if_ (.or (.cons (.cmp (.loc 2) [.Lt] (.cons (.int 0) .nil)) (.cons (.not (.cmp (.int 0) [.LtE,.Lt] (.cons (.loc 1) (.cons (.bin .LShift (.int 1) (.loc 2)) .nil)))) .nil))) (.cons .raise .nil) .nil) (.cons (.setatt (.loc 0) 17 (.bin .BitOr (.bin .LShift (.att (.loc 0) 17) (.loc 2)) (.loc 1))) (.cons (.setatt (.loc 0) 18 (.bin .Add (.att (.loc 0) 18) (.loc 2))) (.cons (.while_ (.cmp (.att (.loc 0) 18) [.GtE] (.cons (.int 8) .nil)) (.cons (.setatt (.loc 0) 18 (.bin .Sub (.att (.loc 0) 18) (.int 8))) (.cons (.expr (.meth (.att (.loc 0) 16) 67 (.cons (.bin .RShift (.att (.loc 0) 17) (.att (.loc 0) 18)) .nil))) (.cons (.setatt (.loc 0) 17 (.bin .BitAnd (.att (.loc 0) 17) (.bin .Sub (.bin .LShift (.int 1) (.att (.loc 0) 18)) (.int 1)))) .nil)))) .nil))))⟩
def mw:Fn:=⟨[F7 "self"],[],(.cons (.if_ (.cmp (.att (.loc 0) 18) [.Gt] (.cons (.int 0) .nil)) (.cons (.expr (.meth (.loc 0) 40 (.cons (.bin .Sub (.bin .LShift (.int 1) (.bin .Sub (.int 8) (.att (.loc 0) 18))) (.int 1)) (.cons (.bin .Sub (.int 8) (.att (.loc 0) 18)) .nil)))) .nil) .nil) .nil)⟩
def jW:Fn:=⟨[F7 "self"],[],(.cons (.ret (.bytes (.att (.loc 0) 16))) .nil)⟩
def lC:Fn:=⟨[F7 "self",F7 "octets"],[],(.cons (.setatt (.loc 0) 19 (.loc 1)) (.cons (.setatt (.loc 0) 20 (.int 0)) .nil))⟩
def lB:Fn:=⟨[F7 "self"],[],(.cons (.ret (.bin .Sub (.bin .Mult (.int 8) (.bcall .len (.cons (.att (.loc 0) 19) .nil))) (.att (.loc 0) 20))) .nil)⟩
def mx:Fn:=⟨[F7 "self"],[F7 "found"],(.cons (.if_ (.cmp (.att (.loc 0) 20) [.GtE] (.cons (.bin .Mult (.int 8) (.bcall .len (.cons (.att (.loc 0) 19) .nil))) .nil)) (.cons .raise .nil) .nil) (.cons (.asg (.one 1) (.bin .BitAnd (.bin .RShift (.sub (.att (.loc 0) 19) (.bin .RShift (.att (.loc 0) 20) (.int 3))) (.bin .Sub (.int 7) (.bin .BitAnd (.att (.loc 0) 20) (.int 7)))) (.int 1))) (.cons (.setatt (.loc 0) 20 (.bin .Add (.att (.loc 0) 20) (.int 1))) (.cons (.ret (.loc 1)) .nil))))⟩
def gz:Fn:=⟨[F7 "self",F7 "size"],[F7 "found",F7 "turn"],(.cons (.if_ (.cmp (.loc 1) [.Gt] (.cons (.meth (.loc 0) 52 .nil) .nil)) (.cons .raise .nil) .nil) (.cons (.asg (.one 2) (.int 0)) (.cons (.for_ (.one 3) (.bcall .range (.cons (.loc 1) .nil)) (.cons (.asg (.one 2) (.bin .Add (.bin .Mult (.loc 2) (.int 2)) (.meth (.loc 0) 53 .nil))) .nil)) (.cons (.ret (.loc 2)) .nil))))⟩
def tp:Fn:=⟨[F7 "v"],[],(.cons (.ret (.meth (.bcall .abs (.cons (.loc 0) .nil)) 68 .nil)) .nil)⟩
def vN:Fn:=⟨[F7 "v",F7 "size"],[],(.cons (.if_ (.cmp (.loc 0) [.Lt] (.cons (.int 0) .nil)) (.cons (.ret (.bin .Sub (.bin .Add (.loc 0) (.bin .Pow (.int 2) (.loc 1))) (.int 1))) .nil) .nil) (.cons (.ret (.loc 0)) .nil))⟩
def tm:Fn:=⟨[F7 "bits",F7 "size"],[],(.cons (.if_ (.and (.cons (.cmp (.loc 1) [.Gt] (.cons (.int 0) .nil)) (.cons (.cmp (.loc 0) [.Lt] (.cons (.bin .Pow (.int 2) (.bin .Sub (.loc 1) (.int 1))) .nil)) .nil))) (.cons (.ret (.bin .Add (.bin .Sub (.loc 0) (.bin .Pow (.int 2) (.loc 1))) (.int 1))) .nil) .nil) (.cons (.ret (.loc 0)) .nil))⟩
def tn:Fn:=⟨[F7 "run"],[F7 "size"],(.cons (.asg (.one 1) (.bin .Sub (.meth (.loc 0) 68 .nil) (.int 1))) (.cons (.ret (.tup (.cons (.bin .Mult (.int 16) (.loc 1)) (.cons (.loc 1) .nil)))) .nil))⟩
def oy:Fn:=⟨[F7 "value",F7 "low"],[],(.cons (.ret (.bin .RShift (.bcall .abs (.cons (.loc 0) .nil)) (.loc 1))) .nil)⟩
def iX:Fn:=⟨[F7 "self",F7 "scan",F7 "sink"],[],(.cons (.setatt (.loc 0) 21 (.loc 1)) (.cons (.setatt (.loc 0) 22 (.loc 2)) (.cons (.setatt (.loc 0) 23 (.tup (.cons (.int 1) (.cons (.sub (.att (.loc 1) 32) (.int 0)) .nil)))) (.cons (.setatt (.loc 0) 24 (.int 0)) .nil))))⟩
def iD:Fn:=⟨[F7 "self"],[],(.cons (.setatt (.loc 0) 24 (.int 0)) .nil)⟩
def b9:Fn:=⟨[F7 "self"],[F7 "symbol",F7 "size"],(.cons (.if_ (.cmp (.att (.loc 0) 24) [.Gt] (.cons (.int 0) .nil)) (.cons (.asg (.many [1,2]) (.fcall 11 (.cons (.att (.loc 0) 24) .nil))) (.cons (.expr (.meth (.att (.loc 0) 22) 66 (.cons (.att (.loc 0) 23) (.cons (.loc 1) .nil)))) (.cons (.if_ (.cmp (.loc 2) [.Gt] (.cons (.int 0) .nil)) (.cons (.expr (.meth (.att (.loc 0) 22) 54 (.cons (.bin .Sub (.att (.loc 0) 24) (.bin .Pow (.int 2) (.loc 2))) (.cons (.loc 2) .nil)))) .nil) .nil) (.cons (.setatt (.loc 0) 24 (.int 0)) .nil)))) .nil) .nil)⟩
def fN:Fn:=⟨[F7 "self",F7 "zeros",F7 "value"],[F7 "size"],(.cons (.expr (.meth (.loc 0) 55 .nil)) (.cons (.while_ (.cmp (.loc 1) [.Gt] (.cons (.int 15) .nil)) (.cons (.expr (.meth (.att (.loc 0) 22) 66 (.cons (.att (.loc 0) 23) (.cons (.glob 53) .nil)))) (.cons (.asg (.one 1) (.bin .Sub (.loc 1) (.int 16))) .nil))) (.cons (.asg (.one 3) (.fcall 8 (.cons (.loc 2) .nil))) (.cons (.if_ (.cmp (.loc 3) [.Gt] (.cons (.glob 55) .nil)) (.cons .raise .nil) .nil) (.cons (.expr (.meth (.att (.loc 0) 22) 66 (.cons (.att (.loc 0) 23) (.cons (.bin .Add (.bin .Mult (.int 16) (.loc 1)) (.loc 3)) .nil)))) (.cons (.expr (.meth (.att (.loc 0) 22) 54 (.cons (.fcall 9 (.cons (.loc 2) (.cons (.loc 3) .nil))) (.cons (.loc 3) .nil)))) .nil))))))⟩
def bY:Fn:=⟨[F7 "self",F7 "place",F7 "row"],[F7 "zeros",F7 "k",F7 "size"],(.cons (.asg (.one 3) (.int 0)) (.cons (.for_ (.one 4) (.bcall .range (.cons (.att (.att (.loc 0) 21) 33) (.cons (.bin .Add (.att (.att (.loc 0) 21) 34) (.int 1)) .nil))) (.cons (.asg (.one 5) (.fcall 12 (.cons (.sub (.loc 2) (.loc 4)) (.cons (.att (.att (.loc 0) 21) 36) .nil)))) (.cons (.if_ (.cmp (.loc 5) [.Eq] (.cons (.int 0) .nil)) (.cons (.asg (.one 3) (.bin .Add (.loc 3) (.int 1))) .nil) (.cons (.expr (.meth (.loc 0) 56 (.cons (.loc 3) (.cons (.ite (.cmp (.sub (.loc 2) (.loc 4)) [.Gt] (.cons (.int 0) .nil)) (.loc 5) (.neg (.loc 5))) .nil)))) (.cons (.asg (.one 3) (.int 0)) .nil))) .nil))) (.cons (.if_ (.cmp (.loc 3) [.Gt] (.cons (.int 0) .nil)) (.cons (.setatt (.loc 0) 24 (.bin .Add (.att (.loc 0) 24) (.int 1))) (.cons (.if_ (.cmp (.att (.loc 0) 24) [.Eq] (.cons (.glob 54) .nil)) (.cons (.expr (.meth (.loc 0) 55 .nil)) .nil) .nil) .nil)) .nil) .nil)))⟩
def hJ:Fn:=⟨[F7 "self"],[],(.cons (.expr (.meth (.loc 0) 55 .nil)) (.cons (.ret (.meth (.att (.loc 0) 22) 57 .nil)) .nil))⟩
def iY:Fn:=⟨[F7 "self",F7 "scan",F7 "tables"],[],(.cons (.setatt (.loc 0) 21 (.loc 1)) (.cons (.setatt (.loc 0) 25 (.sub (.loc 2) (.tup (.cons (.int 1) (.cons (.sub (.att (.loc 1) 32) (.int 0)) .nil))))) (.cons (.setatt (.loc 0) 26 .none) (.cons (.setatt (.loc 0) 24 (.int 0)) .nil))))⟩
def iE:Fn:=⟨[F7 "self",F7 "octets"],[],(.cons (.setatt (.loc 0) 24 (.int 0)) (.cons (.setatt (.loc 0) 26 (.fcall 39 (.cons (.loc 1) .nil))) .nil))⟩
def dy:Fn:=⟨[F7 "self",F7 "place",F7 "row"],[F7 "found",F7 "k",F7 "end",F7 "symbol",F7 "zeros",F7 "size"],(.cons (.asg (.one 3) (.bcall .list (.cons (.loc 2) .nil))) (.cons (.if_ (.cmp (.att (.loc 0) 24) [.Gt] (.cons (.int 0) .nil)) (.cons (.setatt (.loc 0) 24 (.bin .Sub (.att (.loc 0) 24) (.int 1))) (.cons (.ret (.loc 3)) .nil)) .nil) (.cons (.asg (.many [4,5]) (.tup (.cons (.att (.att (.loc 0) 21) 33) (.cons (.att (.att (.loc 0) 21) 34) .nil)))) (.cons (.while_ (.cmp (.loc 4) [.LtE] (.cons (.loc 5) .nil)) (.cons (.asg (.one 6) (.meth (.att (.loc 0) 25) 49 (.cons (.att (.loc 0) 26) .nil))) (.cons (.asg (.many [7,8]) (.tup (.cons (.bin .RShift (.loc 6) (.int 4)) (.cons (.bin .BitAnd (.loc 6) (.int 15)) .nil)))) (.cons (.if_ (.and (.cons (.cmp (.loc 8) [.Eq] (.cons (.int 0) .nil)) (.cons (.cmp (.loc 7) [.Lt] (.cons (.int 15) .nil)) .nil))) (.cons (.setatt (.loc 0) 24 (.bin .Sub (.bin .Pow (.int 2) (.loc 7)) (.int 1))) (.cons (.if_ (.cmp (.loc 7) [.Gt] (.cons (.int 0) .nil)) (.cons (.setatt (.loc 0) 24 (.bin .Add (.att (.loc 0) 24) (.meth (.att (.loc 0) 26) 54 (.cons (.loc 7) .nil)))) .nil) .nil) (.cons (.ret (.loc 3)) .nil))) .nil) (.cons (.asg (.one 4) (.bin .Add (.loc 4) (.loc 7))) (.cons (.if_ (.cmp (.loc 4) [.Gt] (.cons (.loc 5) .nil)) (.cons .raise .nil) .nil) (.cons (.if_ (.cmp (.loc 8) [.Gt] (.cons (.int 0) .nil)) (.cons (.setsub (.loc 3) (.loc 4) (.bin .Mult (.fcall 10 (.cons (.meth (.att (.loc 0) 26) 54 (.cons (.loc 8) .nil)) (.cons (.loc 8) .nil))) (.bin .Pow (.int 2) (.att (.att (.loc 0) 21) 36)))) .nil) .nil) (.cons (.asg (.one 4) (.bin .Add (.loc 4) (.int 1))) .nil)))))))) (.cons (.ret (.loc 3)) .nil)))))⟩
def hN:Fn:=⟨[F7 "self"],[],(.cons (.if_ (.cmp (.att (.loc 0) 24) [.Gt] (.cons (.int 0) .nil)) (.cons .raise .nil) .nil) .nil)⟩
def iV:Fn:=⟨[F7 "self",F7 "scan",F7 "sink"],[],(.cons (.setatt (.loc 0) 21 (.loc 1)) (.cons (.setatt (.loc 0) 22 (.loc 2)) (.cons (.setatt (.loc 0) 27 (.list .nil)) .nil)))⟩
def iz:Fn:=⟨[F7 "self"],[],(.cons (.setatt (.loc 0) 27 (.bin .Mult (.list (.cons (.int 0) .nil)) (.bcall .len (.cons (.att (.att (.loc 0) 21) 30) .nil)))) .nil)⟩
def dv:Fn:=⟨[F7 "self",F7 "place",F7 "row"],[F7 "value",F7 "difference",F7 "size"],(.cons (.asg (.one 3) (.bin .RShift (.sub (.loc 2) (.int 0)) (.att (.att (.loc 0) 21) 36))) (.cons (.asg (.one 4) (.bin .Sub (.loc 3) (.sub (.att (.loc 0) 27) (.loc 1)))) (.cons (.setsub (.att (.loc 0) 27) (.loc 1) (.loc 3)) (.cons (.asg (.one 5) (.fcall 8 (.cons (.loc 4) .nil))) (.cons (.expr (.meth (.att (.loc 0) 22) 66 (.cons (.tup (.cons (.int 0) (.cons (.sub (.att (.att (.loc 0) 21) 31) (.loc 1)) .nil))) (.cons (.loc 5) .nil)))) (.cons (.if_ (.cmp (.loc 5) [.Gt] (.cons (.int 0) .nil)) (.cons (.expr (.meth (.att (.loc 0) 22) 54 (.cons (.fcall 9 (.cons (.loc 4) (.cons (.loc 5) .nil))) (.cons (.loc 5) .nil)))) .nil) .nil) .nil))))))⟩
def gY:Fn:=⟨[F7 "self"],[],(.cons (.ret (.meth (.att (.loc 0) 22) 57 .nil)) .nil)⟩
def ir:Fn:=⟨[F7 "self",F7 "scan",F7 "sink"],[],(.cons (.setatt (.loc 0) 21 (.loc 1)) (.cons (.setatt (.loc 0) 22 (.loc 2)) .nil))⟩
def gU:Fn:=⟨[F7 "self"],[],(.cons .pass .nil)⟩
def iu:Fn:=⟨[F7 "self",F7 "place",F7 "row"],[],(.cons (.expr (.meth (.att (.loc 0) 22) 54 (.cons (.bin .BitAnd (.bin .RShift (.sub (.loc 2) (.int 0)) (.att (.att (.loc 0) 21) 36)) (.int 1)) (.cons (.int 1) .nil)))) .nil)⟩
def gx:Fn:=⟨[F7 "self"],[],(.cons (.ret (.meth (.att (.loc 0) 22) 57 .nil)) .nil)⟩
def iW:Fn:=⟨[F7 "self",F7 "scan",F7 "tables"],[],(.cons (.setatt (.loc 0) 21 (.loc 1)) (.cons (.setatt (.loc 0) 28 (.loc 2)) (.cons (.setatt (.loc 0) 27 (.list .nil)) (.cons (.setatt (.loc 0) 26 .none) .nil))))⟩
def iA:Fn:=⟨[F7 "self",F7 "octets"],[],(.cons (.setatt (.loc 0) 27 (.bin .Mult (.list (.cons (.int 0) .nil)) (.bcall .len (.cons (.att (.att (.loc 0) 21) 30) .nil)))) (.cons (.setatt (.loc 0) 26 (.fcall 39 (.cons (.loc 1) .nil))) .nil))⟩
def dx:Fn:=⟨[F7 "self",F7 "place",F7 "row"],[F7 "size"],(.cons (.asg (.one 3) (.meth (.sub (.att (.loc 0) 28) (.tup (.cons (.int 0) (.cons (.sub (.att (.att (.loc 0) 21) 31) (.loc 1)) .nil)))) 49 (.cons (.att (.loc 0) 26) .nil))) (.cons (.if_ (.cmp (.loc 3) [.Gt] (.cons (.glob 56) .nil)) (.cons .raise .nil) .nil) (.cons (.if_ (.cmp (.loc 3) [.Gt] (.cons (.int 0) .nil)) (.cons (.setsub (.att (.loc 0) 27) (.loc 1) (.bin .Add (.sub (.att (.loc 0) 27) (.loc 1)) (.fcall 10 (.cons (.meth (.att (.loc 0) 26) 54 (.cons (.loc 3) .nil)) (.cons (.loc 3) .nil))))) .nil) .nil) (.cons (.ret (.bin .Add (.list (.cons (.bin .Mult (.sub (.att (.loc 0) 27) (.loc 1)) (.bin .Pow (.int 2) (.att (.att (.loc 0) 21) 36))) .nil)) (.bcall .list (.cons (.slo (.loc 2) (.int 1)) .nil)))) .nil))))⟩
def gZ:Fn:=⟨[F7 "self"],[],(.cons .pass .nil)⟩
def iy:Fn:=⟨[F7 "self",F7 "scan"],[],(.cons (.setatt (.loc 0) 21 (.loc 1)) (.cons (.setatt (.loc 0) 26 .none) .nil))⟩
def gV:Fn:=⟨[F7 "self",F7 "octets"],[],(.cons (.setatt (.loc 0) 26 (.fcall 39 (.cons (.loc 1) .nil))) .nil)⟩
def iw:Fn:=⟨[F7 "self",F7 "place",F7 "row"],[],(.cons (.if_ (.cmp (.meth (.att (.loc 0) 26) 53 .nil) [.Eq] (.cons (.int 0) .nil)) (.cons (.ret (.bcall .list (.cons (.loc 2) .nil))) .nil) .nil) (.cons (.ret (.bin .Add (.list (.cons (.bin .BitOr (.sub (.loc 2) (.int 0)) (.bin .Pow (.int 2) (.att (.att (.loc 0) 21) 36))) .nil)) (.bcall .list (.cons (.slo (.loc 2) (.int 1)) .nil)))) .nil))⟩
def gy:Fn:=⟨[F7 "self"],[],(.cons .pass .nil)⟩
def iB:Fn:=⟨[F7 "self",F7 "scan",F7 "sink"],[],(.cons (.setatt (.loc 0) 21 (.loc 1)) (.cons (.setatt (.loc 0) 22 (.loc 2)) (.cons (.setatt (.loc 0) 23 (.tup (.cons (.int 1) (.cons (.sub (.att (.loc 1) 32) (.int 0)) .nil)))) (.cons (.setatt (.loc 0) 24 (.int 0)) (.cons (.setatt (.loc 0) 29 (.list .nil)) .nil)))))⟩
def g6:Fn:=⟨[F7 "self"],[],(.cons (.setatt (.loc 0) 24 (.int 0)) (.cons (.setatt (.loc 0) 29 (.list .nil)) .nil))⟩
def dC:Fn:=⟨[F7 "self",F7 "some"],[F7 "bit"],(.cons (.for_ (.one 2) (.loc 1) (.cons (.expr (.meth (.att (.loc 0) 22) 54 (.cons (.loc 2) (.cons (.int 1) .nil)))) .nil)) .nil)⟩
def bB:Fn:=⟨[F7 "self"],[F7 "symbol",F7 "size"],(.cons (.if_ (.cmp (.att (.loc 0) 24) [.Gt] (.cons (.int 0) .nil)) (.cons (.asg (.many [1,2]) (.fcall 11 (.cons (.att (.loc 0) 24) .nil))) (.cons (.expr (.meth (.att (.loc 0) 22) 66 (.cons (.att (.loc 0) 23) (.cons (.loc 1) .nil)))) (.cons (.if_ (.cmp (.loc 2) [.Gt] (.cons (.int 0) .nil)) (.cons (.expr (.meth (.att (.loc 0) 22) 54 (.cons (.bin .Sub (.att (.loc 0) 24) (.bin .Pow (.int 2) (.loc 2))) (.cons (.loc 2) .nil)))) .nil) .nil) (.cons (.expr (.meth (.loc 0) 58 (.cons (.att (.loc 0) 29) .nil))) (.cons (.setatt (.loc 0) 24 (.int 0)) (.cons (.setatt (.loc 0) 29 (.list .nil)) .nil)))))) .nil) .nil)⟩
def dD:Fn:=⟨[F7 "self",F7 "row"],[F7 "last",F7 "k"],(.cons (.asg (.one 2) (.bin .Sub (.att (.att (.loc 0) 21) 33) (.int 1))) (.cons (.for_ (.one 3) (.bcall .range (.cons (.att (.att (.loc 0) 21) 33) (.cons (.bin .Add (.att (.att (.loc 0) 21) 34) (.int 1)) .nil))) (.cons (.if_ (.cmp (.fcall 12 (.cons (.sub (.loc 1) (.loc 3)) (.cons (.att (.att (.loc 0) 21) 36) .nil))) [.Eq] (.cons (.int 1) .nil)) (.cons (.asg (.one 2) (.loc 3)) .nil) .nil) .nil)) (.cons (.ret (.loc 2)) .nil)))⟩
def bj:Fn:=⟨[F7 "self",F7 "place",F7 "row"],[F7 "last",F7 "zeros",F7 "here",F7 "k",F7 "size"],(.cons (.asg (.many [3,4,5]) (.tup (.cons (.meth (.loc 0) 59 (.cons (.loc 2) .nil)) (.cons (.int 0) (.cons (.list .nil) .nil))))) (.cons (.for_ (.one 6) (.bcall .range (.cons (.att (.att (.loc 0) 21) 33) (.cons (.bin .Add (.att (.att (.loc 0) 21) 34) (.int 1)) .nil))) (.cons (.asg (.one 7) (.fcall 12 (.cons (.sub (.loc 2) (.loc 6)) (.cons (.att (.att (.loc 0) 21) 36) .nil)))) (.cons (.if_ (.cmp (.loc 7) [.Eq] (.cons (.int 0) .nil)) (.cons (.asg (.one 4) (.bin .Add (.loc 4) (.int 1))) .nil) (.cons (.while_ (.and (.cons (.cmp (.loc 4) [.Gt] (.cons (.int 15) .nil)) (.cons (.cmp (.loc 6) [.LtE] (.cons (.loc 3) .nil)) .nil))) (.cons (.expr (.meth (.loc 0) 55 .nil)) (.cons (.expr (.meth (.att (.loc 0) 22) 66 (.cons (.att (.loc 0) 23) (.cons (.glob 53) .nil)))) (.cons (.expr (.meth (.loc 0) 58 (.cons (.loc 5) .nil))) (.cons (.asg (.many [4,5]) (.tup (.cons (.bin .Sub (.loc 4) (.int 16)) (.cons (.list .nil) .nil)))) .nil))))) (.cons (.if_ (.cmp (.loc 7) [.Gt] (.cons (.int 1) .nil)) (.cons (.expr (.meth (.loc 5) 67 (.cons (.bin .BitAnd (.loc 7) (.int 1)) .nil))) .nil) (.cons (.expr (.meth (.loc 0) 55 .nil)) (.cons (.expr (.meth (.att (.loc 0) 22) 66 (.cons (.att (.loc 0) 23) (.cons (.bin .Add (.bin .Mult (.int 16) (.loc 4)) (.int 1)) .nil)))) (.cons (.expr (.meth (.att (.loc 0) 22) 54 (.cons (.ite (.cmp (.sub (.loc 2) (.loc 6)) [.Gt] (.cons (.int 0) .nil)) (.int 1) (.int 0)) (.cons (.int 1) .nil)))) (.cons (.expr (.meth (.loc 0) 58 (.cons (.loc 5) .nil))) (.cons (.asg (.many [4,5]) (.tup (.cons (.int 0) (.cons (.list .nil) .nil)))) .nil)))))) .nil))) .nil))) (.cons (.if_ (.or (.cons (.cmp (.loc 4) [.Gt] (.cons (.int 0) .nil)) (.cons (.cmp (.loc 5) [.NotEq] (.cons (.list .nil) .nil)) .nil))) (.cons (.setatt (.loc 0) 24 (.bin .Add (.att (.loc 0) 24) (.int 1))) (.cons (.setatt (.loc 0) 29 (.bin .Add (.att (.loc 0) 29) (.loc 5))) (.cons (.if_ (.or (.cons (.cmp (.att (.loc 0) 24) [.Eq] (.cons (.glob 54) .nil)) (.cons (.cmp (.bcall .len (.cons (.att (.loc 0) 29) .nil)) [.Gt] (.cons (.glob 57) .nil)) .nil))) (.cons (.expr (.meth (.loc 0) 55 .nil)) .nil) .nil) .nil))) .nil) .nil)))⟩
def gA:Fn:=⟨[F7 "self"],[],(.cons (.expr (.meth (.loc 0) 55 .nil)) (.cons (.ret (.meth (.att (.loc 0) 22) 57 .nil)) .nil))⟩
def iC:Fn:=⟨[F7 "self",F7 "scan",F7 "tables"],[],(.cons (.setatt (.loc 0) 21 (.loc 1)) (.cons (.setatt (.loc 0) 25 (.sub (.loc 2) (.tup (.cons (.int 1) (.cons (.sub (.att (.loc 1) 32) (.int 0)) .nil))))) (.cons (.setatt (.loc 0) 26 .none) (.cons (.setatt (.loc 0) 24 (.int 0)) .nil))))⟩
def g9:Fn:=⟨[F7 "self",F7 "octets"],[],(.cons (.setatt (.loc 0) 24 (.int 0)) (.cons (.setatt (.loc 0) 26 (.fcall 39 (.cons (.loc 1) .nil))) .nil))⟩
def fZ:Fn:=⟨[F7 "self",F7 "row",F7 "k"],[F7 "more"],(.cons (.if_ (.and (.cons (.cmp (.meth (.att (.loc 0) 26) 53 .nil) [.Eq] (.cons (.int 1) .nil)) (.cons (.cmp (.bin .BitAnd (.fcall 12 (.cons (.sub (.loc 1) (.loc 2)) (.cons (.att (.att (.loc 0) 21) 36) .nil))) (.int 1)) [.Eq] (.cons (.int 0) .nil)) .nil))) (.cons (.asg (.one 3) (.bin .Pow (.int 2) (.att (.att (.loc 0) 21) 36))) (.cons (.setsub (.loc 1) (.loc 2) (.ite (.cmp (.sub (.loc 1) (.loc 2)) [.Gt] (.cons (.int 0) .nil)) (.bin .Add (.sub (.loc 1) (.loc 2)) (.loc 3)) (.bin .Sub (.sub (.loc 1) (.loc 2)) (.loc 3)))) .nil)) .nil) .nil)⟩
def dH:Fn:=⟨[F7 "self",F7 "row",F7 "k",F7 "zeros"],[],(.cons (.while_ (.cmp (.loc 2) [.LtE] (.cons (.att (.att (.loc 0) 21) 34) .nil)) (.cons (.if_ (.cmp (.sub (.loc 1) (.loc 2)) [.NotEq] (.cons (.int 0) .nil)) (.cons (.expr (.meth (.loc 0) 60 (.cons (.loc 1) (.cons (.loc 2) .nil)))) .nil) (.cons (.if_ (.cmp (.loc 3) [.Eq] (.cons (.int 0) .nil)) (.cons (.ret (.loc 2)) .nil) (.cons (.asg (.one 3) (.bin .Sub (.loc 3) (.int 1))) .nil)) .nil)) (.cons (.asg (.one 2) (.bin .Add (.loc 2) (.int 1))) .nil))) (.cons (.ret (.loc 2)) .nil))⟩
def fG:Fn:=⟨[F7 "self",F7 "symbol"],[],(.cons (.if_ (.cmp (.loc 1) [.Eq] (.cons (.glob 53) .nil)) (.cons (.ret (.int 0)) .nil) .nil) (.cons (.if_ (.cmp (.bin .BitAnd (.loc 1) (.int 15)) [.NotEq] (.cons (.int 1) .nil)) (.cons .raise .nil) .nil) (.cons (.ret (.ite (.cmp (.meth (.att (.loc 0) 26) 53 .nil) [.Eq] (.cons (.int 1) .nil)) (.bin .Pow (.int 2) (.att (.att (.loc 0) 21) 36)) (.neg (.bin .Pow (.int 2) (.att (.att (.loc 0) 21) 36))))) .nil)))⟩
def bz:Fn:=⟨[F7 "self",F7 "place",F7 "row"],[F7 "found",F7 "k",F7 "end",F7 "symbol",F7 "zeros",F7 "value"],(.cons (.asg (.many [3,4,5]) (.tup (.cons (.bcall .list (.cons (.loc 2) .nil)) (.cons (.att (.att (.loc 0) 21) 33) (.cons (.att (.att (.loc 0) 21) 34) .nil))))) (.cons (.while_ (.and (.cons (.cmp (.att (.loc 0) 24) [.Eq] (.cons (.int 0) .nil)) (.cons (.cmp (.loc 4) [.LtE] (.cons (.loc 5) .nil)) .nil))) (.cons (.asg (.one 6) (.meth (.att (.loc 0) 25) 49 (.cons (.att (.loc 0) 26) .nil))) (.cons (.asg (.one 7) (.bin .RShift (.loc 6) (.int 4))) (.cons (.if_ (.and (.cons (.cmp (.bin .BitAnd (.loc 6) (.int 15)) [.Eq] (.cons (.int 0) .nil)) (.cons (.cmp (.loc 7) [.Lt] (.cons (.int 15) .nil)) .nil))) (.cons (.setatt (.loc 0) 24 (.bin .Pow (.int 2) (.loc 7))) (.cons (.if_ (.cmp (.loc 7) [.Gt] (.cons (.int 0) .nil)) (.cons (.setatt (.loc 0) 24 (.bin .Add (.att (.loc 0) 24) (.meth (.att (.loc 0) 26) 54 (.cons (.loc 7) .nil)))) .nil) .nil) .nil)) (.cons (.asg (.one 8) (.meth (.loc 0) 62 (.cons (.loc 6) .nil))) (.cons (.asg (.one 4) (.meth (.loc 0) 61 (.cons (.loc 3) (.cons (.loc 4) (.cons (.loc 7) .nil))))) (.cons (.if_ (.cmp (.loc 4) [.Gt] (.cons (.loc 5) .nil)) (.cons .raise .nil) .nil) (.cons (.setsub (.loc 3) (.loc 4) (.loc 8)) (.cons (.asg (.one 4) (.bin .Add (.loc 4) (.int 1))) .nil)))))) .nil)))) (.cons (.if_ (.cmp (.att (.loc 0) 24) [.Gt] (.cons (.int 0) .nil)) (.cons (.expr (.meth (.loc 0) 61 (.cons (.loc 3) (.cons (.loc 4) (.cons (.bin .Add (.loc 5) (.int 1)) .nil))))) (.cons (.setatt (.loc 0) 24 (.bin .Sub (.att (.loc 0) 24) (.int 1))) .nil)) .nil) (.cons (.ret (.loc 3)) .nil))))⟩
def gB:Fn:=⟨[F7 "self"],[],(.cons (.if_ (.cmp (.att (.loc 0) 24) [.Gt] (.cons (.int 0) .nil)) (.cons .raise .nil) .nil) .nil)⟩
def gS:Fn:=⟨[F7 "scan",F7 "n"],[],(.cons (.if_ (.or (.cons (.cmp (.att (.loc 0) 33) [.Lt] (.cons (.int 0) .nil)) (.cons (.cmp (.att (.loc 0) 33) [.Gt] (.cons (.att (.loc 0) 34) .nil)) (.cons (.cmp (.att (.loc 0) 34) [.Gt] (.cons (.bin .Sub (.bin .Mult (.loc 1) (.loc 1)) (.int 1)) .nil)) .nil)))) (.cons .raise .nil) .nil) (.cons (.if_ (.and (.cons (.cmp (.att (.loc 0) 33) [.Eq] (.cons (.int 0) .nil)) (.cons (.cmp (.att (.loc 0) 34) [.NotEq] (.cons (.int 0) .nil)) .nil))) (.cons .raise .nil) .nil) (.cons (.if_ (.and (.cons (.cmp (.att (.loc 0) 33) [.Gt] (.cons (.int 0) .nil)) (.cons (.cmp (.bcall .len (.cons (.att (.loc 0) 30) .nil)) [.NotEq] (.cons (.int 1) .nil)) .nil))) (.cons .raise .nil) .nil) (.cons (.if_ (.or (.cons (.cmp (.att (.loc 0) 36) [.Lt] (.cons (.int 0) .nil)) (.cons (.cmp (.att (.loc 0) 36) [.Gt] (.cons (.int 13) .nil)) (.cons (.and (.cons (.cmp (.att (.loc 0) 35) [.NotEq] (.cons (.int 0) .nil)) (.cons (.cmp (.att (.loc 0) 35) [.NotEq] (.cons (.bin .Add (.att (.loc 0) 36) (.int 1)) .nil)) .nil))) .nil)))) (.cons .raise .nil) .nil) .nil))))⟩
def iS:Fn:=⟨[F7 "scan",F7 "n",F7 "sink"],[],(.cons (.expr (.fcall 13 (.cons (.loc 0) (.cons (.loc 1) .nil)))) (.cons (.if_ (.cmp (.att (.loc 0) 33) [.Eq] (.cons (.int 0) .nil)) (.cons (.ret (.ite (.cmp (.att (.loc 0) 35) [.Eq] (.cons (.int 0) .nil)) (.fcall 42 (.cons (.loc 0) (.cons (.loc 2) .nil))) (.fcall 43 (.cons (.loc 0) (.cons (.loc 2) .nil))))) .nil) .nil) (.cons (.ret (.ite (.cmp (.att (.loc 0) 35) [.Eq] (.cons (.int 0) .nil)) (.fcall 40 (.cons (.loc 0) (.cons (.loc 2) .nil))) (.fcall 46 (.cons (.loc 0) (.cons (.loc 2) .nil))))) .nil)))⟩
def iT:Fn:=⟨[F7 "scan",F7 "n",F7 "tables"],[],(.cons (.expr (.fcall 13 (.cons (.loc 0) (.cons (.loc 1) .nil)))) (.cons (.if_ (.cmp (.att (.loc 0) 33) [.Eq] (.cons (.int 0) .nil)) (.cons (.ret (.ite (.cmp (.att (.loc 0) 35) [.Eq] (.cons (.int 0) .nil)) (.fcall 44 (.cons (.loc 0) (.cons (.loc 2) .nil))) (.fcall 45 (.cons (.loc 0) .nil)))) .nil) .nil) (.cons (.ret (.ite (.cmp (.att (.loc 0) 35) [.Eq] (.cons (.int 0) .nil)) (.fcall 41 (.cons (.loc 0) (.cons (.loc 2) .nil))) (.fcall 47 (.cons (.loc 0) (.cons (.loc 2) .nil))))) .nil)))⟩
def rC:Fn:=⟨[F7 "self",F7 "places",F7 "dc_slots",F7 "ac_slots",F7 "start",F7 "end",F7 "high",F7 "low"],[],(.cons (.setatt (.loc 0) 30 (.loc 1)) (.cons (.setatt (.loc 0) 31 (.loc 2)) (.cons (.setatt (.loc 0) 32 (.loc 3)) (.cons (.setatt (.loc 0) 33 (.loc 4)) (.cons (.setatt (.loc 0) 34 (.loc 5)) (.cons (.setatt (.loc 0) 35 (.loc 6)) (.cons (.setatt (.loc 0) 36 (.loc 7)) .nil)))))))⟩
def mr:Fn:=⟨[F7 "self"],[],(.cons (.ret (.cmp .Eq (.bcall .len (.cons (.att (.loc 0) 30) .nil)) (.int 1))) .nil)⟩
def lx:Fn:=⟨[F7 "frame",F7 "scan"],[],(.cons (.if_ (.val (.meth (.loc 1) 63 .nil)) (.cons (.ret (.int 1)) .nil) .nil) (.cons (.ret (.bcall .sum (.cons (.comp [0] (.bin .Mult (.att (.sub (.att (.loc 1) 8) (.loc 0)) 1) (.att (.sub (.att (.loc 1) 8) (.loc 0)) 2)) (.att (.loc 1) 30)) .nil))) .nil))⟩
def iU:Fn:=⟨[F7 "frame",F7 "scan"],[F7 "ahead",F7 "place"],(.cons (.if_ (.not (.cmp (.int 1) [.LtE,.LtE] (.cons (.bcall .len (.cons (.att (.loc 1) 30) .nil)) (.cons (.glob 58) .nil)))) (.cons .raise .nil) .nil) (.cons (.asg (.one 2) (.neg (.int 1))) (.cons (.for_ (.one 3) (.att (.loc 1) 30) (.cons (.if_ (.not (.cmp (.int 0) [.LtE,.Lt] (.cons (.loc 3) (.cons (.bcall .len (.cons (.att (.loc 0) 8) .nil)) .nil)))) (.cons .raise .nil) .nil) (.cons (.if_ (.cmp (.loc 3) [.LtE] (.cons (.loc 2) .nil)) (.cons .raise .nil) .nil) (.cons (.asg (.one 2) (.loc 3)) .nil)))) (.cons (.if_ (.cmp (.fcall 17 (.cons (.loc 0) (.cons (.loc 1) .nil))) [.Gt] (.cons (.glob 59) .nil)) (.cons .raise .nil) .nil) .nil))))⟩
def jz:Fn:=⟨[F7 "frame",F7 "scan"],[F7 "most",F7 "slot"],(.cons (.if_ (.or (.cons (.cmp (.bcall .len (.cons (.att (.loc 1) 31) .nil)) [.NotEq] (.cons (.bcall .len (.cons (.att (.loc 1) 30) .nil)) .nil)) (.cons (.cmp (.bcall .len (.cons (.att (.loc 1) 32) .nil)) [.NotEq] (.cons (.bcall .len (.cons (.att (.loc 1) 30) .nil)) .nil)) .nil))) (.cons .raise .nil) .nil) (.cons (.asg (.one 2) (.ite (.cmp (.att (.loc 0) 4) [.Eq] (.cons (.str (F7 "baseline")) .nil)) (.int 1) (.int 3))) (.cons (.for_ (.one 3) (.bin .Add (.bcall .list (.cons (.att (.loc 1) 31) .nil)) (.bcall .list (.cons (.att (.loc 1) 32) .nil))) (.cons (.if_ (.not (.cmp (.int 0) [.LtE,.LtE] (.cons (.loc 3) (.cons (.loc 2) .nil)))) (.cons .raise .nil) .nil) .nil)) .nil)))⟩
def oC:Fn:=⟨[F7 "frame",F7 "scan"],[F7 "last"],(.cons (.asg (.one 2) (.bin .Sub (.bin .Mult (.att (.loc 0) 9) (.att (.loc 0) 9)) (.int 1))) (.cons (.if_ (.cmp (.att (.loc 0) 4) [.Eq] (.cons (.str (F7 "lossless")) .nil)) (.cons (.if_ (.or (.cons (.not (.cmp (.int 1) [.LtE,.LtE] (.cons (.att (.loc 1) 33) (.cons (.int 7) .nil)))) (.cons (.cmp (.att (.loc 1) 34) [.NotEq] (.cons (.int 0) .nil)) (.cons (.cmp (.att (.loc 1) 35) [.NotEq] (.cons (.int 0) .nil)) (.cons (.not (.cmp (.int 0) [.LtE,.LtE] (.cons (.att (.loc 1) 36) (.cons (.glob 61) .nil)))) .nil))))) (.cons .raise .nil) .nil) .nil) (.cons (.if_ (.cmp (.att (.loc 0) 4) [.In] (.cons (.glob 16) .nil)) (.cons (.expr (.fcall 21 (.cons (.loc 1) (.cons (.loc 2) .nil)))) .nil) (.cons (.if_ (.or (.cons (.cmp (.att (.loc 1) 33) [.NotEq] (.cons (.int 0) .nil)) (.cons (.cmp (.att (.loc 1) 34) [.NotEq] (.cons (.loc 2) .nil)) (.cons (.cmp (.att (.loc 1) 35) [.NotEq] (.cons (.int 0) .nil)) (.cons (.cmp (.att (.loc 1) 36) [.NotEq] (.cons (.int 0) .nil)) .nil))))) (.cons .raise .nil) .nil) .nil)) .nil)) .nil))⟩
def cK:Fn:=⟨[F7 "scan",F7 "last"],[],(.cons (.if_ (.not (.cmp (.int 0) [.LtE,.LtE,.LtE] (.cons (.att (.loc 0) 33) (.cons (.att (.loc 0) 34) (.cons (.loc 1) .nil))))) (.cons .raise .nil) .nil) (.cons (.if_ (.and (.cons (.cmp (.att (.loc 0) 33) [.Eq] (.cons (.int 0) .nil)) (.cons (.cmp (.att (.loc 0) 34) [.NotEq] (.cons (.int 0) .nil)) .nil))) (.cons .raise .nil) .nil) (.cons (.if_ (.and (.cons (.cmp (.att (.loc 0) 33) [.NotEq] (.cons (.int 0) .nil)) (.cons (.not (.val (.meth (.loc 0) 63 .nil))) .nil))) (.cons .raise .nil) .nil) (.cons (.if_ (.not (.cmp (.int 0) [.LtE,.LtE] (.cons (.att (.loc 0) 36) (.cons (.glob 60) .nil)))) (.cons .raise .nil) .nil) (.cons (.if_ (.and (.cons (.cmp (.att (.loc 0) 35) [.NotEq] (.cons (.int 0) .nil)) (.cons (.cmp (.att (.loc 0) 35) [.NotEq] (.cons (.bin .Add (.att (.loc 0) 36) (.int 1)) .nil)) .nil))) (.cons .raise .nil) .nil) .nil)))))⟩
def jU:Fn:=⟨[F7 "self",F7 "frame"],[],(.cons (.setatt (.loc 0) 37 (.comp [1] (.bin .Mult (.list (.cons (.glob 62) .nil)) (.bin .Mult (.att (.loc 1) 9) (.att (.loc 1) 9))) (.att (.loc 1) 8))) .nil)⟩
def eQ:Fn:=⟨[F7 "self",F7 "frame",F7 "scan"],[F7 "last",F7 "start",F7 "place",F7 "row",F7 "at"],(.cons (.asg (.one 3) (.bin .Sub (.bin .Mult (.att (.loc 1) 9) (.att (.loc 1) 9)) (.int 1))) (.cons (.asg (.one 4) (.ite (.cmp (.att (.loc 1) 4) [.Eq] (.cons (.str (F7 "lossless")) .nil)) (.int 0) (.att (.loc 2) 33))) (.cons (.for_ (.one 5) (.att (.loc 2) 30) (.cons (.asg (.one 6) (.sub (.att (.loc 0) 37) (.loc 5))) (.cons (.if_ (.and (.cons (.cmp (.loc 4) [.Gt] (.cons (.int 0) .nil)) (.cons (.cmp (.sub (.loc 6) (.int 0)) [.Eq] (.cons (.glob 62) .nil)) .nil))) (.cons .raise .nil) .nil) (.cons (.for_ (.one 7) (.bcall .range (.cons (.loc 4) (.cons (.bin .Add (.bcall .min (.cons (.att (.loc 2) 34) (.cons (.loc 3) .nil))) (.int 1)) .nil))) (.cons (.if_ (.and (.cons (.cmp (.att (.loc 2) 35) [.Eq] (.cons (.int 0) .nil)) (.cons (.cmp (.sub (.loc 6) (.loc 7)) [.NotEq] (.cons (.glob 62) .nil)) .nil))) (.cons .raise .nil) .nil) (.cons (.if_ (.and (.cons (.cmp (.att (.loc 2) 35) [.NotEq] (.cons (.int 0) .nil)) (.cons (.cmp (.sub (.loc 6) (.loc 7)) [.NotEq] (.cons (.att (.loc 2) 35) .nil)) .nil))) (.cons .raise .nil) .nil) (.cons (.setsub (.loc 6) (.loc 7) (.att (.loc 2) 36)) .nil)))) .nil)))) .nil)))⟩
def dB:Fn:=⟨[F7 "self",F7 "is_lossless"],[F7 "row",F7 "low"],(.cons (.for_ (.one 2) (.att (.loc 0) 37) (.cons (.for_ (.one 3) (.loc 2) (.cons (.if_ (.or (.cons (.cmp (.loc 3) [.Eq] (.cons (.glob 62) .nil)) (.cons (.and (.cons (.cmp (.loc 3) [.NotEq] (.cons (.int 0) .nil)) (.cons (.not (.val (.loc 1))) .nil))) .nil))) (.cons (.ret (.bool false)) .nil) .nil) .nil)) .nil)) (.cons (.ret (.bool true)) .nil))⟩
def ik:Fn:=⟨[F7 "frame",F7 "scans"],[F7 "state",F7 "scan"],(.cons (.asg (.one 2) (.fcall 49 (.cons (.loc 0) .nil))) (.cons (.for_ (.one 3) (.loc 1) (.cons (.expr (.fcall 18 (.cons (.loc 0) (.cons (.loc 3) .nil)))) (.cons (.expr (.fcall 19 (.cons (.loc 0) (.cons (.loc 3) .nil)))) (.cons (.expr (.fcall 20 (.cons (.loc 0) (.cons (.loc 3) .nil)))) (.cons (.expr (.meth (.loc 2) 64 (.cons (.loc 0) (.cons (.loc 3) .nil)))) .nil))))) (.cons (.ret (.loc 2)) .nil)))⟩
def nE:Fn:=⟨[F7 "frame",F7 "scans"],[],(.cons (.if_ (.cmp (.bcall .len (.cons (.loc 1) .nil)) [.Eq] (.cons (.int 0) .nil)) (.cons .raise .nil) .nil) (.cons (.expr (.fcall 22 (.cons (.loc 0) (.cons (.loc 1) .nil)))) .nil))⟩
def oA:Fn:=⟨[F7 "frame",F7 "scans"],[],(.cons (.ret (.meth (.fcall 22 (.cons (.loc 0) (.cons (.loc 1) .nil))) 65 (.cons (.cmp .Eq (.att (.loc 0) 4) (.str (F7 "lossless"))) .nil))) .nil)⟩
def mu:Fn:=⟨[F7 "self",F7 "tables"],[],(.cons (.setatt (.loc 0) 28 (.loc 1)) (.cons (.setatt (.loc 0) 38 (.fcall 38 .nil)) .nil))⟩
def kN:Fn:=⟨[F7 "self",F7 "key",F7 "s"],[F7 "bits",F7 "size"],(.cons (.asg (.many [3,4]) (.meth (.sub (.att (.loc 0) 28) (.loc 1)) 48 (.cons (.loc 2) .nil))) (.cons (.expr (.meth (.att (.loc 0) 38) 40 (.cons (.loc 3) (.cons (.loc 4) .nil)))) .nil))⟩
def mv:Fn:=⟨[F7 "self",F7 "v",F7 "size"],[],(.cons (.expr (.meth (.att (.loc 0) 38) 40 (.cons (.loc 1) (.cons (.loc 2) .nil)))) .nil)⟩
def kO:Fn:=⟨[F7 "self"],[F7 "found"],(.cons (.expr (.meth (.att (.loc 0) 38) 50 .nil)) (.cons (.asg (.one 1) (.meth (.att (.loc 0) 38) 51 .nil)) (.cons (.setatt (.loc 0) 38 (.fcall 38 .nil)) (.cons (.ret (.loc 1)) .nil))))⟩
def jA:Fn:=⟨[F7 "script"],[F7 "cell",F7 "size",F7 "mixed",F7 "one"],(.cons (.asg (.one 1) (.ite (.cmp (.bcall .len (.cons (.loc 0) .nil)) [.Gt] (.cons (.int 0) .nil)) (.sub (.loc 0) (.int 0)) (.int 0))) (.cons (.asg (.one 2) (.bcall .abs (.cons (.bcall .int (.cons (.loc 1) .nil)) .nil))) (.cons (.asg (.one 3) (.bin .Add (.bin .Mod (.bcall .int (.cons (.loc 2) .nil)) (.int 2147483629)) (.bin .Mult (.int 17) (.bcall .int (.cons (.cmp .Lt (.loc 1) (.int 0)) .nil))))) (.cons (.for_ (.one 4) (.shi (.loc 0) (.int 20)) (.cons (.asg (.one 3) (.bin .Mod (.bcall .int (.cons (.bin .Add (.bin .Add (.bin .Mult (.loc 3) (.int 48271)) (.bcall .abs (.cons (.bcall .int (.cons (.loc 4) .nil)) .nil))) (.int 11)) .nil)) (.int 2147483647))) .nil)) (.cons (.ret (.list (.cons (.bin .Mult (.loc 2) (.bcall .int (.cons (.cmp .GtE (.loc 2) (.bin .Pow (.int 10) (.int 18))) .nil))) (.cons (.loc 3) .nil)))) .nil)))))⟩
def rB:Fn:=⟨[F7 "source",F7 "many"],[F7 "found"],(.cons (.if_ (.cmp (.sub (.loc 0) (.int 0)) [.Gt] (.cons (.int 0) .nil)) (.cons (.asg (.one 2) (.bin .Mod (.bcall .int (.cons (.sub (.loc 0) (.int 0)) .nil)) (.loc 1))) (.cons (.setsub (.loc 0) (.int 0) (.bin .FloorDiv (.sub (.loc 0) (.int 0)) (.loc 1))) (.cons (.ret (.loc 2)) .nil))) .nil) (.cons (.setsub (.loc 0) (.int 1) (.bin .Mod (.bcall .int (.cons (.bin .Add (.bin .Mult (.sub (.loc 0) (.int 1)) (.int 48271)) (.int 11)) .nil)) (.int 2147483647))) (.cons (.ret (.bin .Mod (.bcall .int (.cons (.bin .FloorDiv (.bin .Mod (.bcall .int (.cons (.bin .Mult (.sub (.loc 0) (.int 1)) (.sub (.loc 0) (.int 1))) .nil)) (.int 2147483629)) (.int 16)) .nil)) (.loc 1))) .nil)))⟩
def kI:Fn:=⟨[F7 "runs"],[F7 "symbols",F7 "zeros",F7 "size"],(.cons (.asg (.one 1) (.list .nil)) (.cons (.for_ (.one 2) (.bcall .range (.cons (.loc 0) .nil)) (.cons (.asg (.one 1) (.bin .Add (.loc 1) (.comp [2] (.bin .Add (.bin .Mult (.int 16) (.loc 1)) (.loc 0)) (.bcall .range (.cons (.int 6) .nil))))) .nil)) (.cons (.asg (.one 3) (.ite (.cmp (.loc 0) [.Eq] (.cons (.int 4) .nil)) (.int 5) (.int 7))) (.cons (.ret (.fcall 37 (.cons (.comp [1,3] (.ite (.cmp (.loc 0) [.Eq] (.cons (.bin .Sub (.loc 2) (.int 1)) .nil)) (.bcall .len (.cons (.loc 1) .nil)) (.int 0)) (.bcall .range (.cons (.int 16) .nil))) (.cons (.loc 1) .nil)))) .nil))))⟩
def oE:Fn:=⟨[F7 "source"],[F7 "kind"],(.cons (.asg (.one 1) (.fcall 26 (.cons (.loc 0) (.cons (.int 6) .nil)))) (.cons (.if_ (.cmp (.loc 1) [.Lt] (.cons (.int 3) .nil)) (.cons (.ret (.int 0)) .nil) .nil) (.cons (.ret (.bin .Mult (.bin .Add (.int 1) (.fcall 26 (.cons (.loc 0) (.cons (.sub (.list (.cons (.int 1) (.cons (.int 2) (.cons (.int 7) .nil)))) (.bin .Sub (.loc 1) (.int 3))) .nil)))) (.bin .Sub (.int 1) (.bin .Mult (.int 2) (.fcall 26 (.cons (.loc 0) (.cons (.int 2) .nil))))))) .nil)))⟩
def kJ:Fn:=⟨[F7 "places",F7 "start",F7 "end",F7 "top"],[F7 "slots",F7 "found",F7 "low"],(.cons (.comp 4 [] (.bcall .min (.cons (.loc 0) (.cons (.int 1) .nil))) (.loc 0)) (.cons (.asg (.one 5) (.list .nil)) (.cons (.for_ (.one 6) (.bcall .range (.cons (.loc 3) (.cons (.neg (.int 1)) (.cons (.neg (.int 1)) .nil)))) (.cons (.expr (.meth (.loc 5) 67 (.cons (.fcall 48 (.cons (.loc 0) (.cons (.loc 4) (.cons (.loc 4) (.cons (.loc 1) (.cons (.loc 2) (.cons (.ite (.cmp (.loc 6) [.Eq] (.cons (.loc 3) .nil)) (.int 0) (.bin .Add (.loc 6) (.int 1))) (.cons (.loc 6) .nil)))))))) .nil))) .nil)) (.cons (.ret (.loc 5)) .nil))))⟩
def eM:Fn:=⟨[F7 "source",F7 "many"],[F7 "together",F7 "lots",F7 "firsts",F7 "chains",F7 "places",F7 "chain",F7 "place",F7 "edge",F7 "start",F7 "end",F7 "found",F7 "at"],(.cons (.asg (.one 2) (.cmp .Eq (.fcall 26 (.cons (.loc 0) (.cons (.int 2) .nil))) (.int 0))) (.cons (.asg (.one 3) (.ite (.val (.loc 2)) (.list (.cons (.bcall .list (.cons (.bcall .range (.cons (.loc 1) .nil)) .nil)) .nil)) (.comp [] (.list (.cons (.loc 0) .nil)) (.bcall .range (.cons (.loc 1) .nil))))) (.cons (.asg (.many [4,5]) (.tup (.cons (.list .nil) (.cons (.list .nil) .nil)))) (.cons (.for_ (.one 6) (.loc 3) (.cons (.asg (.one 7) (.fcall 29 (.cons (.loc 6) (.cons (.int 0) (.cons (.int 0) (.cons (.fcall 26 (.cons (.loc 0) (.cons (.int 3) .nil))) .nil)))))) (.cons (.expr (.meth (.loc 4) 67 (.cons (.sub (.loc 7) (.int 0)) .nil))) (.cons (.expr (.meth (.loc 5) 67 (.cons (.slo (.loc 7) (.int 1)) .nil))) .nil)))) (.cons (.for_ (.one 8) (.bcall .range (.cons (.loc 1) .nil)) (.cons (.asg (.one 9) (.bin .Add (.int 1) (.fcall 26 (.cons (.loc 0) (.cons (.int 3) .nil))))) (.cons (.for_ (.many [10,11]) (.list (.cons (.tup (.cons (.int 1) (.cons (.loc 9) .nil))) (.cons (.tup (.cons (.bin .Add (.loc 9) (.int 1)) (.cons (.int 3) .nil))) .nil))) (.cons (.if_ (.cmp (.loc 10) [.LtE] (.cons (.loc 11) .nil)) (.cons (.expr (.meth (.loc 5) 67 (.cons (.fcall 29 (.cons (.list (.cons (.loc 8) .nil)) (.cons (.loc 10) (.cons (.loc 11) (.cons (.fcall 26 (.cons (.loc 0) (.cons (.int 3) .nil))) .nil))))) .nil))) .nil) .nil) .nil)) .nil))) (.cons (.asg (.one 12) (.loc 4)) (.cons (.compIf 5 [] (.loc 0) (.cmp (.loc 0) [.NotEq] (.cons (.list .nil) .nil)) (.loc 5)) (.cons (.while_ (.cmp (.loc 5) [.NotEq] (.cons (.list .nil) .nil)) (.cons (.asg (.one 13) (.fcall 26 (.cons (.loc 0) (.cons (.bcall .len (.cons (.loc 5) .nil)) .nil)))) (.cons (.expr (.meth (.loc 12) 67 (.cons (.sub (.sub (.loc 5) (.loc 13)) (.int 0)) .nil))) (.cons (.setsub (.loc 5) (.loc 13) (.slo (.sub (.loc 5) (.loc 13)) (.int 1))) (.cons (.compIf 5 [] (.loc 0) (.cmp (.loc 0) [.NotEq] (.cons (.list .nil) .nil)) (.loc 5)) .nil))))) (.cons (.ret (.loc 12)) .nil)))))))))⟩
def pR:Fn:=⟨[F7 "source"],[F7 "wide",F7 "many",F7 "components",F7 "high",F7 "across"],(.cons (.asg (.many [1,2]) (.tup (.cons (.bin .Add (.int 1) (.fcall 26 (.cons (.loc 0) (.cons (.int 2) .nil)))) (.cons (.bin .Add (.int 1) (.fcall 26 (.cons (.loc 0) (.cons (.int 2) .nil)))) .nil)))) (.cons (.asg (.one 3) (.shi (.list (.cons (.fcall 34 (.cons (.int 1) (.cons (.loc 1) (.cons (.int 1) (.cons (.int 0) .nil))))) (.cons (.fcall 34 (.cons (.int 2) (.cons (.int 1) (.cons (.int 1) (.cons (.int 0) .nil))))) .nil))) (.loc 2))) (.cons (.asg (.many [4,5]) (.ite (.cmp (.sub (.loc 0) (.int 0)) [.Gt] (.cons (.int 0) .nil)) (.tup (.cons (.int 6) (.cons (.int 5) .nil))) (.tup (.cons (.int 2) (.cons (.int 3) .nil))))) (.cons (.ret (.fcall 35 (.cons (.str (F7 "progressive")) (.cons (.int 8) (.cons (.bin .Add (.int 1) (.fcall 26 (.cons (.loc 0) (.cons (.loc 4) .nil)))) (.cons (.bin .Add (.int 1) (.fcall 26 (.cons (.loc 0) (.cons (.loc 5) .nil)))) (.cons (.loc 3) (.cons (.int 2) .nil)))))))) .nil))))⟩
def jC:Fn:=⟨[F7 "source",F7 "frame"],[F7 "grid",F7 "place",F7 "across",F7 "down",F7 "y",F7 "x"],(.cons (.asg (.one 2) (.fcall 36 (.cons (.loc 1) .nil))) (.cons (.for_ (.one 3) (.bcall .range (.cons (.bcall .len (.cons (.att (.loc 1) 8) .nil)) .nil)) (.cons (.asg (.many [4,5]) (.meth (.loc 1) 47 (.cons (.loc 3) .nil))) (.cons (.for_ (.one 6) (.bcall .range (.cons (.loc 5) .nil)) (.cons (.for_ (.one 7) (.bcall .range (.cons (.loc 4) .nil)) (.cons (.expr (.meth (.loc 2) 40 (.cons (.loc 3) (.cons (.loc 7) (.cons (.loc 6) (.cons (.comp [0] (.fcall 28 (.cons (.loc 1) .nil)) (.bcall .range (.cons (.int 4) .nil))) .nil)))))) .nil)) .nil)) .nil))) (.cons (.ret (.loc 2)) .nil)))⟩
def BL:Fn:=⟨[F7 "script"],[F7 "source",F7 "frame",F7 "table",F7 "grid",F7 "known",F7 "scans",F7 "tables",F7 "scan"],(.cons (.asg (.one 1) (.fcall 25 (.cons (.loc 0) .nil))) (.cons (.asg (.many [2,3]) (.tup (.cons (.fcall 31 (.cons (.loc 1) .nil)) (.cons (.fcall 27 (.cons (.int 4) .nil)) .nil)))) (.cons (.asg (.many [4,5]) (.tup (.cons (.fcall 32 (.cons (.loc 1) (.cons (.loc 2) .nil))) (.cons (.fcall 36 (.cons (.loc 2) .nil)) .nil)))) (.cons (.asg (.one 6) (.fcall 30 (.cons (.loc 1) (.cons (.bcall .len (.cons (.att (.loc 2) 8) .nil)) .nil)))) (.cons (.expr (.fcall 23 (.cons (.loc 2) (.cons (.loc 6) .nil)))) (.cons (.if_ (.or (.cons (.not (.val (.fcall 24 (.cons (.loc 2) (.cons (.loc 6) .nil))))) (.cons (.val (.fcall 24 (.cons (.loc 2) (.cons (.shi (.loc 6) (.neg (.int 1))) .nil)))) .nil))) (.cons (.ret (.bool false)) .nil) .nil) (.cons (.asg (.one 7) (.tdict [(0,0),(0,1),(1,0),(1,1)] 3)) (.cons (.for_ (.one 8) (.loc 6) (.cons (.expr (.fcall 33 (.cons (.loc 2) (.cons (.loc 8) (.cons (.loc 4) (.cons (.loc 5) (.cons (.loc 7) .nil))))))) .nil)) (.cons (.ret (.fcall 5 (.cons (.loc 4) (.cons (.loc 5) (.cons (.loc 2) .nil))))) .nil)))))))))⟩
def uq:List (Nat×Fn):=[(28,nB),(35,pQ),(42,oU),(56,Az),(96,jp),(101,kL),(108,jq),(115,kM),(122,jV),(129,nH),(136,nF),(162,tu),(169,tr),(183,ur),(282,lZ),(289,kH),(310,ly),(317,gv),(345,im),(352,mw),(359,jW),(387,lB),(394,mx),(401,gz),(415,tp),(422,vN),(429,tm),(436,tn),(443,oy),(464,iD),(471,b9),(478,fN),(485,bY),(492,hJ),(520,iE),(527,dy),(534,hN),(562,iz),(569,dv),(576,gY),(604,gU),(611,iu),(618,gx),(646,iA),(653,dx),(660,gZ),(688,gV),(695,iw),(702,gy),(730,g6),(737,dC),(744,bB),(751,dD),(758,bj),(765,gA),(793,g9),(800,fZ),(807,dH),(814,fG),(821,bz),(828,gB),(842,gS),(849,iS),(856,iT),(877,mr),(897,lx),(904,iU),(911,jz),(918,oC),(925,cK),(944,eQ),(951,dB),(965,ik),(972,nE),(979,oA),(1000,kN),(1007,mv),(1014,kO),(1028,jA),(1035,rB),(1040,kI),(1047,oE),(1052,kJ),(1057,eM),(1064,pR),(1069,jC),(1083,BL)]
def tC:List (Nat×Nat×Fn):=[(73,70,lz),(139,91,pS),(172,155,l8),(320,303,gw),(362,338,lA),(404,380,lC),(495,457,iX),(537,513,iY),(579,555,iV),(621,597,ir),(663,639,iW),(705,681,iy),(768,723,iB),(831,786,iC),(887,870,rC),(954,937,jU),(1017,993,mu)]
structure OKl(S:be):Prop extends SysOK S where
 fns:∀(i a:Nat) (F:Fn),uq[i]? = some (a,F)->yw S.K a F=true
 cls:∀(i C fI:Nat) (F:Fn),tC[i]? = some (C,fI,F)->tD S.K C fI F=true
structure OK(S:be):Prop extends OKl S where
 bar:S.bar
end
section
mutual #where
variable {S:be} {n:Nat} {H H':List O} {v:V} {xs:List V}
theorem OKl.fnW(ok:OKl S)(i:Nat){a:Nat}{F:Fn}(h:uq[i]? = some (a,F)){Q:V->List O->Prop}(hl:xs.length=F.ps.length)(q:bH S n F.body (xs.map some++OM F.ls.length none) H (dA Q)):dG S (n+1) (.top a) xs H Q:=pN ok.toSysOK (ok.fns i a F h) hl q
theorem OKl.fnD(ok:OKl S)(i:Nat){a:Nat}{F:Fn}(h:uq[i]? = some (a,F))(hl:xs.length=F.ps.length)(q:∀Q:V->List O->Prop,Q v H'->bH S n F.body (xs.map some++OM F.ls.length none) H (dA Q)):aE S (n+1) (.top a) xs H v H':=fun Q hq=>pN ok.toSysOK (ok.fns i a F h) hl (q Q hq)
theorem OKl.clsD(ok:OKl S)(i:Nat){C fI:Nat}{F:Fn}(h:tC[i]? = some (C,fI,F))(hl:xs.length+1=F.ps.length)
  (q:∀Q:V->List O->Prop,Q .none H'->bH S n F.body ((V.obj H.length::xs).map some++OM F.ls.length none) (H++[.inst C []]) (dA Q)):aE S (n+2) (.top C) xs H (.obj H.length) H':=fun Q hq=>yV ok.toSysOK (ok.cls i C fI F h) hl (q _ ⟨rfl,hq⟩)
end
end
section
mutual #where
variable {H H' H1 E:List O} {i j:Nat} {o o':O} {G:Nat->O->Prop}
theorem ah(h:H[i]? = some o):(H++E)[i]? = some o:=by
 exact er (O4 (OH.mp h).1) h
theorem aj:(H++[o])[H.length]? = some o:=by simp
theorem aM(h:i<H.length):(H.set i o)[i]? = some o:=Pl h
theorem cj(n:j≠i)(h:H[i]? = some o):(H.set j o')[i]? = some o:=by exact er (O7 n) h
theorem aA(h:H[i]? = some o):i<H.length:=(OH.mp h).1
theorem pz:(H++[o']).set H.length o=H++[o]:=by simp
theorem zU(h:i<H.length):(H++E).set i o=H.set i o++E:=List.set_append_left _ _ h
structure Kp(G:Nat->O->Prop)(H H':List O):Prop where
 len:H.length<=H'.length
 at_:∀i o,H[i]? = some o->G i o->H'[i]? = some o
abbrev cg:=Kp fun _ _=>True
theorem Kp.refl:Kp G H H:=⟨OF _,fun _ _ h _=>h⟩
theorem Kp.trans(a:Kp G H H1)(b:Kp G H1 H'):Kp G H H':=⟨Oz a.len b.len,fun i o h g=>b.at_ i o (a.at_ i o h g) g⟩
theorem Kp.app(a:Kp G H H1):Kp G H (H1++E):=⟨by exact er OA (Oz a.len (OL _ _)),fun i o h g=>ah (a.at_ i o h g)⟩
theorem Kp.set(a:Kp G H H1)(n:∀o,H[i]? = some o->¬G i o):Kp G H (H1.set i o'):=⟨by exact er OW a.len,fun j o h g=>by
 by_cases q:i=j
 ·subst q;exact absurd g (n o h)
 ·exact cj q (a.at_ j o h g)⟩
theorem Kp.setN(a:Kp G H H1)(n:H.length<=i):Kp G H (H1.set i o'):=a.set fun _ h=>absurd (aA h) (QE.mpr n)
theorem Kp.setO(a:Kp G H H1)(e:H[i]? = some o)(n:¬G i o):Kp G H (H1.set i o'):=a.set fun _ h=>by replace h:=e▸h;exact el (Option.some.inj h) n
theorem Kp.mono{G':Nat->O->Prop}(a:Kp G H H')(h:∀i o,G' i o->G i o):Kp G' H H':=⟨a.len,fun i o e g=>a.at_ i o e (h i o g)⟩
theorem Kp.get(a:Kp G H H')(h:H[i]? = some o)(g:G i o):H'[i]? = some o:=a.at_ i o h g
theorem Kp.pre(a:cg H H'):Kp G H H':=a.mono fun _ _ _=>trivial
theorem Kp.pget(a:cg H H')(h:H[i]? = some o):H'[i]? = some o:=a.at_ i o h trivial
end
end
mutual #where
theorem av{a:Int}(h1:-4611686018427387904<a)(h2:a<4611686018427387904):small a:=⟨h1,h2⟩
def et(id a:Int):O:=.inst 73 [(0,.int id),(1,.int a),(2,.int 1),(3,.int 0)]
def iR(h w:Int)(cl:Nat):O:=.inst 139 [(4,.str (F7 "progressive")),(5,.int 8),(6,.int h),(7,.int w),(8,.obj cl),(9,.int 2)]
theorem hn{H:List O}{i j:Nat}{a b:O}(h:H[i]? = some a)(k:H[j]? = some b)(n:a≠b):i≠j:=fun e=>n (Option.some.inj (h.symm.trans (e▸k)))
theorem hk{H:List O}{i j:Nat}{a b:O}(h:H[i]? = some a)(k:H[j]? = some b)(n:(a.kd == b.kd)=false:=by rfl):i≠j:=hn h k fun e=>ae (n.symm.trans (by exact er e (beq_self_eq_true _)))
end
section
mutual #where
variable {S:be} {n:Nat} {H H' H1:List O} {i:Nat} {l:aW} {v:V}
def zs(xs:List Int):List V:=xs.map .int
def cQ(a:Int)(n:Nat):List V:=(OT n).map fun i:Nat=>.int (a+i)
theorem fits{x:Int}(h:-4000000<x/\x<4000000):Builtin.Range.rangeFitsLong x=true:=(Px _ _).mpr ⟨decide_eq_true (Pt (by decide) (Sd h.1)),decide_eq_true (QM h.2 (by decide))⟩
theorem ND{a b x:Int}(ha:-1000000<a)(hb:b<1000000)(e:x=(if a<b then b - a - 1+1 else 0)):0<=x/\x<=2000000:=by
 by_cases h:a<b
 ·rw [if_pos h] at e;omega
 ·rw [if_neg h] at e;refine er e ?_;decide
theorem M9{p q r s t u:Bool}(a:p=true)(b:q=true)(c:r=true)(d:s=true)(e:u=true):(p&&q&&r&&s&&(t||u))=true:=by
 refine er a ?_;refine er b (er c ?_);obtain rfl:=d;obtain rfl:=e;cases t<;>rfl
theorem oQ{a b c:Int}(ha:-1000000<a/\a<1000000)(hb:-1000000<b/\b<1000000)(hc:c=1∨c = -1):Builtin.Range.small a b c=true/\0<=Builtin.Range.rangeSize a b c/\Builtin.Range.rangeSize a b c<=2000000:=by
 haveI w:∀ {x:Int},-1000000<x/\x<1000000->Builtin.Range.rangeFitsLong x=true:=fun h=>fits ⟨QM (by decide) h.1,QM h.2 (by decide)⟩;have hs:0<=Builtin.Range.rangeSize a b c/\Builtin.Range.rangeSize a b c<=2000000:=by
  rcases hc with rfl | rfl
  ·exact ND ha.1 hb.2 (by rewrite [Builtin.Range.rangeSize];refine er (if_pos (by decide)) ?_;rw [Rj])
  ·exact ND hb.1 ha.2 (by rewrite [Builtin.Range.rangeSize,if_neg (by decide)];refine er (show -(-1)=1 from rfl) ?_;rw [Rj])
 refine⟨M9 (w ha) (w hb) ?_ (fits ⟨Qy (by decide) hs.1,RA hs.2 (by decide)⟩) ?_,hs⟩
 ·rcases hc with rfl | rfl<;>decide
 ·rcases hc with rfl | rfl
  ·exact w (er (Int.add_zero b) hb)
  ·exact w (er (Int.add_zero b) hb)
theorem xA{a b:Int}:dg a b 1=cQ a (b - a).toNat:=by
 unfold dg cQ jg Builtin.Range.rangeSize;refine er (if_pos (by decide)) ?_;rw [Rj];haveI e:(if a<b then b - a - 1+1 else 0).toNat=(b - a).toNat:=by split<;>lia
 refine er e ?_;simp
theorem oT{a b c:Int}(h:H[i]? = some (.rng a b c))(ha:-1000000<a/\a<1000000)(hb:-1000000<b/\b<1000000)(hc:c=1∨c = -1):bG (.obj i) H=some (dg a b c):=by
 refine dN (oQ ha hb hc) fun h1 h2 h3=>?_;unfold bG;dsimp only;exact er h (if_pos ⟨h1,h2⟩)
theorem aX{a b:Int}(h:H[i]? = some (.rng a b 1))(ha:-1000000<a/\a<1000000)(hb:-1000000<b/\b<1000000):bG (.obj i) H=some (cQ a (b - a).toNat):=by
 refine er (oT h ha hb (.inl rfl)) (er xA ?_);rfl
theorem aU{xs:List V}(h:H[i]? = some (.list xs)):bG (.obj i) H=some xs:=by unfold bG;dsimp only;refine er h ?_;rfl
theorem eE:∀xs:List Int,dW (zs xs)=some xs:=by
 intro m_;induction m_ with
 | nil=>
  exact rfl
 | cons x xs ih_=>
  refine(?_:(dW (zs xs)).map (x::·)=_);refine er ih_ ?_;rfl
theorem qD{all:List V}{E:List O}(h:bG v H=some all):aG v H (H++E):=by
 cases v with
 | obj i=>
  unfold bG at h;dsimp only at h;exact(QY.mp h).elim fun o e=>(ah e.1).trans e.1.symm
 | _=>trivial
theorem rK{elt:C}{caps:List Nat}{all:List V}(ha:bG v H=some all){rest outs done:List V}(r:F2 (fun y u=>∀xs,EV S n elt (bx l caps (some y)) (H++[.list xs]) u (H++[.list xs])) rest outs)(hl:done.length+rest.length<=1000) :
  B0 S n elt caps l (aG v H) H.length rest (H++[.list done]) (H++[.list (done++outs)]):=by
 induction r generalizing done with
 | nil=>exact fun Q q=>⟨qD ha,by rw [OO] at q;exact q⟩
 | cons r _ ih=>
  rename_i u _ _;rw [OQ] at hl;refine fun Q q=>⟨qD ha,?_⟩;refine r done _ (jb _ aj (by lia) ?_);exact er pz (ih (by refine er OA ?_;refine(?_:_+1+_<=_);lia) Q (by rw [OB];exact q))
theorem i8{it elt:C}{caps:List Nat}{all outs:List V}(hit:EV S n it l H v H1)(ha:bG v H1=some all)(he:F2 (fun y u=>∀xs,EV S n elt (bx l caps (some y)) (H1++[.list xs]) u (H1++[.list xs])) all outs)(hl:all.length<=1000) :
  EV S n (.comp caps elt it) l H (.obj H1.length) (H1++[.list outs]):=EV.comp hit ha (by simpa using rK ha (done:=[]) he (by simpa using hl))
theorem C0{α β γ δ:Type}{R:γ->δ->Prop}{f:α->γ}{g:β->δ}{xs:List α}{ys:List β}(r:F2 (fun a b=>R (f a) (g b)) xs ys):F2 R (xs.map f) (ys.map g):=by
 induction r with
 | nil=>exact .nil
 | cons a _ ih=>exact .cons a ih
theorem nJ{α β:Type}{R:α->β->Prop}{xs:List α}{ys:List β}{i:Nat}{b:β}(r:F2 R xs ys):ys[i]? = some b->∃a,xs[i]? = some a/\R a b:=by
 induction r generalizing i with
 | nil=>exact nofun
 | cons a _ ih=>cases i with
  | zero=>exact fun h=>bN _ rfl (Option.some.inj h▸a)
  | succ i=>exact ih
structure FD where
 wide:Int
 two:Bool
 w:Int
 h:Int
def FD.comps(F:FD):List (Int×Int):=if F.two then [(1,F.wide),(2,1)] else [(1,F.wide)]
structure FD.OK(F:FD):Prop where
 wide:F.wide=1∨F.wide=2
 w:1<=F.w/\F.w<=5
 h:1<=F.h/\F.h<=6
theorem tj{x:Int}{n:Nat}(h1:1<=x)(h2:x<=n):∃a:Fin n,x=(a.val:Nat)+1:=⟨⟨(x - 1).toNat,by omega⟩,by refine(?_:x=((x - 1).toNat)+1);refine er (Pj (Int.sub_nonneg_of_le h1)) ?_;rw [Int.sub_add_cancel]⟩
theorem FD.OK.all{F:FD}(o:F.OK){p:FD->Bool}(k:∀(a:Fin 2) (t:Bool) (w:Fin 5) (h:Fin 6),p ⟨(a.val:Nat)+1,t,(w.val:Nat)+1,(h.val:Nat)+1⟩=true):p F=true:=by
 obtain⟨wide,t,w,h⟩:=F;refine b7 (tj (n:=5) o.w.1 o.w.2) fun b e2=>b7 (tj (n:=2) (x:=wide) (o.wide.elim (fun e=>QN e.symm) fun e=>Pt (by decide) (QN e.symm)) (o.wide.elim (fun e=>Pt (QN e) (by decide)) fun e=>QN e)) fun a e1=>b7 (tj (n:=6) o.h.1 o.h.2) fun c e3=>?_;dsimp only at e1 e2 e3;refine er e1 (er e2 ?_);exact er e3 (k a t b c)
structure aQ(R:Nat->Prop)(H:List O)(f:Nat)(F:FD):Prop where
 ok:F.OK
 ex:∃cl cs,(R f/\R cl)/\H[f]? = some (iR F.h F.w cl)/\H[cl]? = some (.list (cs.map .obj))/\F2 (fun(c:Nat) (p:Int×Int)=>R c/\H[c]? = some (et p.1 p.2)) cs F.comps
def fD:O->Bool
 | .list _ | .tuple _ | .dict _ | .tdict _ | .set _ | .rng _ _ _=>true
 | .inst C _=>C == 73||C == 139||C == 172||C == 320||C == 887
 | .barr _=>false
theorem F2.imp{α β:Type}{R T:α->β->Prop}(h:∀a b,R a b->T a b){xs:List α}{ys:List β}(r:F2 R xs ys):F2 T xs ys:=dY h r
theorem aQ.keep{R:Nat->Prop}{G:Nat->O->Prop}{f:Nat}{F:FD}(a:aQ R H f F)(k:Kp G H H')(g:∀i o,R i->fD o=true->G i o):aQ R H' f F:=by
 obtain⟨ok,cl,cs,⟨r1,r2⟩,h1,h2,h3⟩:=a;exact⟨ok,cl,cs,⟨r1,r2⟩,k.get h1 (g _ _ r1 rfl),k.get h2 (g _ _ r2 rfl),h3.imp fun c p y_18=>ba y_18 fun q1 q2=>⟨q1,k.get q2 (g _ _ q1 rfl)⟩⟩
theorem aQ.app{R:Nat->Prop}{f:Nat}{F:FD}{E:List O}(a:aQ R H f F):aQ R (H++E) f F:=a.keep (Kp.app .refl) fun _ _ _ _=>trivial
theorem aQ.region{R R':Nat->Prop}{f:Nat}{F:FD}(a:aQ R H f F)(h:∀i,i<H.length->R i->R' i):aQ R' H f F:=by
 obtain⟨ok,cl,cs,⟨r1,r2⟩,h1,h2,h3⟩:=a;exact⟨ok,cl,cs,⟨h _ (aA h1) r1,h _ (aA h2) r2⟩,h1,h2,h3.imp fun c p y_20=>ba y_20 fun q1 q2=>⟨h _ (aA q2) q1,q2⟩⟩
theorem FD.OK.acr{F:FD}(o:F.OK){p:Int×Int}(h:p∈F.comps):p.2=F.wide∨p.2=1:=by
 unfold FD.comps at h;split at h<;>simp at h<;>rcases h with rfl | rfl<;>simp
theorem FD.OK.acr'{F:FD}(o:F.OK){p:Int×Int}(h:p∈F.comps):p.2=1∨p.2=2:=by
 rcases o.acr h with q | q
 ·exact er q o.wide
 ·exact .inl q
theorem FD.first{F:FD}:(1,F.wide)∈F.comps:=by unfold FD.comps;split<;>simp
def FD.accs(F:FD):O:=.list (zs (F.comps.map (·.2)))
def FD.ones(F:FD):O:=.list (zs (F.comps.map fun _=>1))
theorem rG{T:V->V->Prop}{g:Int×Int->Int}{cs:List Nat}{F:FD}{P:Nat->Int×Int->Prop}(r:F2 P cs F.comps)(h:∀c p,P c p->T (.obj c) (.int (g p))):F2 T (cs.map .obj) (zs (F.comps.map g)):=by
 unfold zs;exact er PX (C0 (r.imp h))
theorem lE{P:Nat->Int×Int->Prop}{cs:List Nat}{F:FD}(r:F2 P cs F.comps):cs.length<=2:=by
 haveI:=r.length;unfold FD.comps at this;split at this<;>simp at this<;>lia
variable {R:Nat->Prop} {f:Nat} {F:FD}
theorem gq(ok:OKl S)(a:aQ R H f F):aE S 1 (.top 96) [.obj f] H (.int F.wide) (H++[F.accs]):=ok.fnD 4 rfl rfl fun Q q=>by
 obtain⟨o,cl,cs,_,h1,h2,h3⟩:=a;refine W.ret (uR (i8 (af (ad rfl) h1 rfl rfl rfl) (aU h2) (rG h3 fun c p hp xs=>af (ad rfl) (ah hp.2) rfl rfl rfl) ?_) aj (eE _) ?_ ?_) q
 ·haveI:=lE h3;simp;exact FG this
 ·exact Pm.mpr (bN _ FD.first rfl)
 ·intro x hx;refine aZ (Pm.mp hx) fun p hp q_a=>el q_a ?_;haveI:=o.wide;rcases o.acr hp with q | q<;>refine er q ?_<;>lia
theorem iP(ok:OKl S)(a:aQ R H f F):aE S 1 (.top 101) [.obj f] H (.int 1) (H++[F.ones]):=ok.fnD 5 rfl rfl fun Q q=>by
 obtain⟨o,cl,cs,_,h1,h2,h3⟩:=a;refine W.ret (uR (i8 (af (ad rfl) h1 rfl rfl rfl) (aU h2) (rG h3 fun c p hp xs=>af (ad rfl) (ah hp.2) rfl rfl rfl) ?_) aj (eE _) ?_ ?_) q
 ·haveI:=lE h3;simp;exact FG this
 ·exact Pm.mpr (bN _ FD.first rfl)
 ·intro x hx;refine aZ (Pm.mp hx) fun p hp q_a=>er q_a ?_;exact Int.le_refl _
end
end
section
mutual #where
variable {S:be} {n:Nat} {H H' H1 H2:List O} {i:Nat} {l:aW} {v y:V} {a b:C}
theorem aS{xs:List V}{p:Nat}(ha:EV S n a l H (.obj i) H1)(hb:EV S n b l H1 (.int (p:Int)) H2)(hi:H2[i]? = some (.list xs))(h0:p<1000000)(hx:xs[p]? = some y):EV S n (.sub a b) l H y H2:=
 cA ha hb hi ⟨z0,by lia⟩ (by rw [ON];exact hx)
theorem nV{xs:List V}{p:Nat}(ha:EV S n a l H (.obj i) H1)(hb:EV S n b l H1 (.int (p:Int)) H2)(hi:H2[i]? = some (.tuple xs))(h0:p<1000000)(hx:xs[p]? = some y):EV S n (.sub a b) l H y H2:=
 mL ha hb hi ⟨z0,by lia⟩ (by rw [ON];exact hx)
theorem bc{α:Type}{xs:List α}{p:Nat}{x:α}(h:xs[p]? = some x):p<xs.length:=(OH.mp h).1
theorem ez(ok:OKl S){m s:Int}(h:0<s/\s<1000):aE S 1 (.top 56) [.int m,.int s] H (.int ((m+s - 1).fdiv s)) H:=ok.fnD 3 rfl rfl fun Q q=>
 W.ret (EV.fdiv (EV.sub (EV.add (ad rfl) (ad rfl)) EV.int) (ad rfl) ⟨Nh h.1,av (L8 h.1) (Ml h.2)⟩) q
theorem W.setF{n:Nat}{l:aW}{H:List O}{v:V}{c:C}{C f k:Nat}{fs:List (Nat×V)}{R:Ps}{Q:Fl->aW->List O->Prop}(hs:dE l 0=some (.obj k))(hv:EV S n c l (H++[.inst C fs]) v (H++[.inst C fs]))(hk:k=H.length)(hf:qX C f=true)(hl:SC fs.length 100=true)(h:bH S n R l (H++[.inst C (setF f v fs)]) Q):bH S n (.cons (.setatt (.loc 0) f c) R) l (H++[.inst C fs]) Q:=by
 subst hk;refine aN hv (ad hs) aj hf hl ?_;exact er pz h
theorem oX(ok:OKl S){i a:Int}:aE S 2 (.top 73) [.int i,.int a,.int 1,.int 0] H (.obj H.length) (H++[et i a]):=ok.clsD 0 rfl rfl fun Q q=>
 W.setF rfl (ad rfl) rfl rfl rfl <| W.setF rfl (ad rfl) rfl rfl rfl <| W.setF rfl (ad rfl) rfl rfl rfl <| W.setF rfl (ad rfl) rfl rfl rfl <| W.nil q
theorem ti(ok:OKl S){h w:Int}{cl:Nat}:aE S 2 (.top 139) [.str (F7 "progressive"),.int 8,.int h,.int w,.obj cl,.int 2] H (.obj H.length) (H++[iR h w cl]):=ok.clsD 1 rfl rfl fun Q q=>
 W.setF rfl (ad rfl) rfl rfl rfl <| W.setF rfl (ad rfl) rfl rfl rfl <| W.setF rfl (ad rfl) rfl rfl rfl <| W.setF rfl (ad rfl) rfl rfl rfl <| W.setF rfl (ad rfl) rfl rfl rfl <| W.setF rfl (ad rfl) rfl rfl rfl <| W.nil q
def FD.mA(F:FD):Int:=(F.w+2*F.wide - 1).fdiv (2*F.wide)
def FD.mD(F:FD):Int:=(F.h+2*1 - 1).fdiv (2*1)
def FD.pw(F:FD)(a:Int):Int:=(F.w*a+F.wide - 1).fdiv F.wide
def FD.ph(F:FD):Int:=(F.h*1+1 - 1).fdiv 1
def FD.bA(F:FD)(a:Int):Int:=(F.pw a+2 - 1).fdiv 2
def FD.bD(F:FD):Int:=(F.ph+2 - 1).fdiv 2
variable {R:Nat->Prop} {f:Nat} {F:FD}
theorem aQ.place{p:Nat}{q:Int×Int}(a:aQ R H f F)(h:F.comps[p]? = some q):∃cl cs c,H[f]? = some (iR F.h F.w cl)/\H[cl]? = some (.list cs)/\cs[p]? = some (.obj c)/\H[c]? = some (et q.1 q.2)/\p<2/\cs.length=F.comps.length/\F.comps.length<=2:=by
 obtain⟨o,cl,cs,_,h1,h2,h3⟩:=a;obtain⟨c,e,_,e'⟩:=nJ h3 h;haveI l:=lE h3;haveI l':=bc e;exact Nr cl _ c h1 h2 (by refine er O5 (er e ?_);rfl) e' (OE ‹_› ‹_›) (by rw [OJ];exact h3.length.symm) (by exact er h3.length l)
theorem eA(ok:OKl S)(a:aQ R H f F):aE S 2 (.top 108) [.obj f] H (.int F.mA) (H++[F.accs]):=ok.fnD 6 rfl rfl fun Q q=>by
 refine u9 (a.place (p:=0) (by unfold FD.comps;split<;>rfl)) fun cl cs c h1 h2 h3 h4 h5 _=>?_;haveI o:=a.ok.wide;exact W.ret (EV.fcall rfl (.cons (af (ad rfl) h1 rfl rfl rfl) (.cons (EV.mul (af (ad rfl) h1 rfl rfl rfl) (EV.meth (ad rfl) h1 rfl rfl .nil (gq ok a) (by decide)) (av (Nm o) (Nn o))) .nil))
  (ez ok (by lia)) (by decide)) q
theorem iQ(ok:OKl S)(a:aQ R H f F):aE S 2 (.top 115) [.obj f] H (.int F.mD) (H++[F.ones]):=ok.fnD 7 rfl rfl fun Q q=>by
 refine u9 (a.place (p:=0) (by unfold FD.comps;split<;>rfl)) fun cl cs c h1 h2 h3 h4 h5 _=>W.ret (EV.fcall rfl (.cons (af (ad rfl) h1 rfl rfl rfl) (.cons (EV.mul (af (ad rfl) h1 rfl rfl rfl) (EV.meth (ad rfl) h1 rfl rfl .nil (iP ok a) (by decide)) (av (by simp) (by simp))) .nil))
  (ez ok (by simp)) (by decide)) q
def FD.jP(F:FD)(a:Int)(H:List O):List O:=H++[F.accs]++[F.ones]++[.tuple [.int (F.pw a),.int F.ph]]
def FD.jB(F:FD)(a:Int)(H:List O):List O:=F.jP a H++[.tuple [.int (F.bA a),.int F.bD]]
def FD.jD(F:FD)(a:Int)(H:List O):List O:=H++[F.accs]++[F.ones]++[.tuple [.int (F.mA*a),.int (F.mD*1)]]
theorem ml(ok:OKl S)(a:aQ R H f F){p:Nat}{q:Int×Int}(h:F.comps[p]? = some q):aE S 2 (.top 122) [.obj f,.int p] H (.obj (H++[F.accs]++[F.ones]).length) (F.jP q.2 H):=ok.fnD 8 rfl rfl fun Q hq=>by
 refine u9 (a.place h) fun cl cs c h1 h2 h3 h4 h5 _=>?_;haveI o:=a.ok.wide;haveI o2:=a.ok.acr' (OC h);refine aD (aS (af (ad rfl) h1 rfl rfl rfl) (ad rfl) h2 (JW h5) h3) ?_;refine aD (EV.fcall rfl (.cons (EV.mul (af (ad rfl) h1 rfl rfl rfl) (af (ad rfl) h4 rfl rfl rfl) (av (Nm o2) (Nn o2))) (.cons (EV.meth (ad rfl) h1 rfl rfl .nil (gq ok a) (by decide)) .nil)) (ez ok (Mg o)) (by decide)) ?_;exact W.ret (bJ (.cons (ad rfl) (.cons (EV.fcall rfl (.cons (EV.mul (af (ad rfl) (ah h1) rfl rfl rfl) (af (ad rfl) (ah h4) rfl rfl rfl) (av (by simp) (by simp))) (.cons (EV.meth (ad rfl) (ah h1) rfl rfl .nil (iP ok a.app) (by decide)) .nil)) (ez ok (by simp)) (by decide)) .nil))) hq
theorem i5(ok:OKl S)(a:aQ R H f F){p:Nat}{q:Int×Int}(h:F.comps[p]? = some q):aE S 3 (.top 129) [.obj f,.int p] H (.obj (F.jP q.2 H).length) (F.jB q.2 H):=ok.fnD 9 rfl rfl fun Q hq=>by
 refine u9 (a.place h) fun cl cs c h1 h2 h3 h4 h5 _=>?_;haveI g1:(F.jP q.2 H)[f]? = some (iR F.h F.w cl):=ah (ah (ah h1));refine cL (EV.meth (ad rfl) h1 rfl rfl (.cons (ad rfl) .nil) (ml ok a h) (by decide)) aj rfl ?_;exact W.ret (bJ (.cons (EV.fcall rfl (.cons (ad rfl) (.cons (af (ad rfl) g1 rfl rfl rfl) .nil)) (ez ok (by decide)) (by decide)) (.cons (EV.fcall rfl (.cons (ad rfl) (.cons (af (ad rfl) g1 rfl rfl rfl) .nil)) (ez ok (by decide)) (by decide)) .nil))) hq
theorem lV(ok:OKl S)(a:aQ R H f F){p:Nat}{q:Int×Int}(h:F.comps[p]? = some q):aE S 3 (.top 136) [.obj f,.int p] H (.obj (H++[F.accs]++[F.ones]).length) (F.jD q.2 H):=ok.fnD 10 rfl rfl fun Q hq=>by
 refine u9 (a.place h) fun cl cs c h1 h2 h3 h4 h5 _=>?_;haveI o2:=a.ok.acr' (OC h);refine aD (aS (af (ad rfl) h1 rfl rfl rfl) (ad rfl) h2 (JW h5) h3) ?_;exact W.ret (bJ (.cons (EV.mul (EV.meth (ad rfl) h1 rfl rfl .nil (eA ok a) (by decide)) (af (ad rfl) (ah h4) rfl rfl rfl) (av (by lia) (by lia))) (.cons (EV.mul (EV.meth (ad rfl) (ah h1) rfl rfl .nil (iQ ok a.app) (by decide)) (af (ad rfl) (ah (ah h4)) rfl rfl rfl) (av (by simp) (by simp))) .nil))) hq
end
end
mutual #where
def nb:Nat->Nat->List Bool
 | 0,_=>[]
 | n+1,v=>v.testBit n::nb n v
theorem jj{n v:Nat}:nb (n+1) v=v.testBit n::nb n v:=rfl
theorem ug{v:Nat}:nb 0 v=[]:=rfl
theorem cI:∀n v,(nb n v).length=n:=by
 intro m_;induction m_ with
 | zero=>
  intro _;exact rfl
 | succ n ih_=>
  intro v;exact congrArg Nat.succ (ih_ v)
theorem qR(n v:Nat):∀m,nb (m+n) v=nb m (v / 2^n)++nb n v:=by
 intro m_;induction m_ with
 | zero=>
  rw [Py];rfl
 | succ m ih_=>
  rw [PQ];refine er jj (er jj (er Qr (er ih_ ?_)));rewrite [Nat.testBit_div_two_pow];refine er (PK m n) ?_;rfl
theorem xW{n v u:Nat}:∀ {k},k<=n->v % 2^n=u % 2^n->nb k v=nb k u:=by
 intro k;induction k with
 | zero=>
  intro _ _;exact rfl
 | succ k ih_=>
  intro h e;refine er jj (er jj (er (ih_ (Il h) e) ?_));haveI h1:=R4 v n k;haveI h2:=R4 u n k;rw [e] at h1;rw [h1] at h2;simp [show k<n by assumption] at h2;refine er h2 ?_;rfl
theorem sR(n v:Nat):nb n (v % 2^n)=nb n v:=xW (OF _) (Nat.mod_mod _ _)
theorem CA{m n a v:Nat}(h:v<2^n):nb (m+n) (a*2^n||| v)=nb m a++nb n v:=by
 haveI e:a*2^n||| v=2^n*a+v:=by rw [Nat.mul_comm];exact(Nat.two_pow_add_eq_or_of_lt h a).symm
 refine er e ?_;rewrite [qR,SN (P5 n)];refine er (RM h) ?_;rw [QL];congr 1;rw [← sR,Nat.mul_add_mod,sR]
theorem G3{m n a v:Nat}(ha:a<2^m)(h:v<2^n):a*2^n||| v<2^(m+n):=by
 apply Nat.or_lt_two_pow
 ·rw [Nat.pow_add];exact Nat.mul_lt_mul_of_pos_right ha (P5 n)
 ·exact OE h (Rq (by decide) (PW _ _))
def gu(bs:Array UInt8):List Bool:=bs.toList.flatMap fun u=>nb 8 u.toNat
theorem vM(bs:Array UInt8)(u:UInt8):gu (bs.push u)=gu bs++nb 8 u.toNat:=by simp [gu]
theorem nq(bs:Array UInt8):(gu bs).length=8*bs.size:=by
 unfold gu;obtain⟨l⟩:=bs;simp only [O3];induction l with
 | nil=>rfl
 | cons u l ih=>refine er RD ?_;refine er OA (er ih ?_);rewrite [cI];exact er OQ (PK _ _)
theorem xV:∀ {n v i:Nat},i<n->(nb n v)[i]? = some (v.testBit (n - 1 - i))
 | n+1,v,0,_=>by rfl
 | n+1,v,i+1,h=>by
  refine er jj (er Q3 (er (xV (Qn ‹_›)) ?_));congr 2;lia
theorem yx{bs:Array UInt8}{i:Nat}{b:Bool}(h:(gu bs)[i]? = some b):∃u,bs[i / 8]? = some u/\b=u.toNat.testBit (7 - i % 8):=by
 unfold gu at h;obtain⟨l⟩:=bs;simp only at h;refine er QC ?_;induction l generalizing i with
 | nil=>exact aJ h
 | cons u l ih=>
  rw [RD] at h;by_cases c:i<8
  ·rw [O4 (by rw [cI];exact c),xV c] at h;refine er (SI c) ?_;exact er (RM c) (bN u rfl (by simpa using h.symm))
  ·rw [OU (by rw [cI];exact Lb c),cI] at h;refine aZ (ih h) fun w h1 h2=>bN w ?_ ?_
   ·exact er (Nat.div_eq_sub_div (by decide) (QE.mp c)) h1
   ·exact er (Nat.mod_eq_sub_mod (QE.mp c)) h2
def tW:Nat->List Bool->Nat
 | a,[]=>a
 | a,b::r=>tW (a*2+b.toNat) r
theorem wY{v:Nat}:∀ {n a:Nat},a=v / 2^n->tW a (nb n v)=v:=by
 intro n a;induction n generalizing a with
 | zero=>
  intro h;exact er h (Nat.div_one v)
 | succ n ih_=>
  intro h;refine er h ?_;refine ih_ ?_;refine er RF ?_;haveI:=SP (v / 2^n) 2;rw [Nat.div_div_eq_div_mul,← Rh] at this
  haveI h2:(v / 2^n) % 2<2:=RB _ (by decide);haveI h3:(decide ((v / 2^n) % 2=1)).toNat=(v / 2^n) % 2:=by
   rcases Sc ((v / 2^n) % 2) 1 with q | q
   ·haveI:(v / 2^n) % 2=0:=FO q;refine er this ?_;rfl
   ·haveI:(v / 2^n) % 2=1:=FN q;refine er this ?_;rfl
  refine er h3 ?_;rw [Nat.mul_comm];exact this
theorem oO{n v:Nat}(h:v<2^n):tW 0 (nb n v)=v:=wY (RM h).symm
theorem rR(a b:Nat):PD (a:Int) (b:Int)=((a &&& b:Nat):Int):=by
 unfold PD;simp
theorem AV(a b:Nat):Qj (a:Int) (b:Int)=((a||| b:Nat):Int):=by
 unfold Qj PD Builtin.bitNot;haveI h1:decide ((0:Int)<=-(a) - 1)=false:=decide_eq_false FP;haveI h2:decide ((0:Int)<=-(b) - 1)=false:=decide_eq_false FP;refine er h1 (er h2 ?_);haveI e1:(-(-(a:Int) - 1) - 1).toNat=a:=Gk;have e2:(-(-(b:Int) - 1) - 1).toNat=b:=Gk;simp only [e1,e2];lia
theorem zT(a n:Nat):(a:Int)*2^((n:Int)).toNat=((a*2^n:Nat):Int):=by
 rw [ON];push_cast;rfl
theorem jd(a n:Nat):((a:Int)).fdiv (2^((n:Int)).toNat)=((a / 2^n:Nat):Int):=by
 rewrite [ON];refine er (show((2:Int)^n)=((2^n)) by push_cast;rfl) (er (QR _ (OS _)) ?_);rfl
theorem gK(n:Nat):(2:Int)^((n:Int)).toNat=((2^n:Nat):Int):=by rw [ON];push_cast;rfl
theorem m6(a n:Nat):PD (a:Int) (1*2^((n:Int)).toNat - 1)=((a % 2^n:Nat):Int):=by
 rewrite [RQ,gK];haveI h:=P5 n;refine er (Ep h:((2^n:Nat)) - 1=((2^n - 1:Nat):Int)) ?_;rw [rR,Nat.and_two_pow_sub_one_eq_mod]
theorem pZ(a:Nat):PD (a:Int) 1=((a % 2:Nat):Int):=by
 refine er (show(1:Int)=((1:Nat)) from rfl) ?_;rw [rR,Nat.and_one_is_mod]
theorem qt(a n:Nat):(a.testBit n).toNat=a / 2^n % 2:=by
 refine er RF ?_;rcases Sc ((a / 2^n) % 2) 1 with q | q
 ·haveI:(a / 2^n) % 2=0:=FO q;refine er this ?_;rfl
 ·haveI:(a / 2^n) % 2=1:=FN q;refine er this ?_;rfl
abbrev WH(S:be)(n:Nat)(t:T)(A:Ps)(k:Nat)(l:aW)(H:List O)(l1:aW)(H1:List O):Prop:=qg S n t A k l H .next l1 H1
def Ps.get:Ps->Nat->P
 | .cons p _,0=>p
 | .cons _ r,n+1=>r.get n
 | .nil,_=>.pass
def P.wt:P->T
 | .while_ t _=>t
 | _=>.and .nil
def P.b1:P->Ps
 | .while_ _ a=>a
 | .for_ _ _ a=>a
 | .if_ _ a _=>a
 | _=>.nil
def Ps.from:Ps->Nat->Ps
 | r,0=>r
 | .cons _ r,n+1=>r.from n
 | .nil,_=>.nil
def dz(S:be)(n:Nat)(A:Ps)(tg:Tg)(ok:List O->Prop)(all:List V)(l:aW)(H:List O)(l':aW)(H':List O):Prop:=∀Q:Fl->aW->List O->Prop,Q .next l' H'->iG (fun l H K=>bH S n A l H K) tg ok all l H Q
def G6:O->Bool
 | .barr _=>false
 | .inst C _=>C != 362
 | _=>true
abbrev GB:Nat->O->Prop:=fun _ o=>G6 o=true
def qf(b rest size:Nat):O:=.inst 362 [(16,.obj b),(17,.int rest),(18,.int size)]
def n0(H:List O)(w b:Nat)(st:List Bool):Prop:=∃(full:Array UInt8) (rest size:Nat),H[w]? = some (qf b rest size)/\H[b]? = some (.barr full)/\size<8/\rest<2^size/\gu full++nb size rest=st
def wv(bs:Array UInt8)(at_:Nat):O:=.inst 404 [(19,.bytes bs),(20,.int at_)]
def bP(H:List O)(r:Nat)(st:List Bool):Prop:=∃(bs:Array UInt8) (at_:Nat),H[r]? = some (wv bs at_)/\(gu bs).drop at_=st/\bs.size<=100000/\at_<=8*bs.size
end
section
mutual #where
variable {S:be} {n:Nat} {H H' H1 H2:List O} {i:Nat} {l:aW} {v y:V} {a b:C} {t:T}
theorem TV.eq{r r':Bool}(h:TV S n t l H r H1)(e:r=r'):TV S n t l H r' H1:=e▸h
theorem au{p q:Int}(h:EV S n a l H (.int p) H1)(e:p=q):EV S n a l H (.int q) H1:=e▸h
theorem n0.keep{G:Nat->O->Prop}{w b:Nat}{st:List Bool}(x:n0 H w b st)(k:Kp G H H')(g1:∀fs,G w (.inst 362 fs))(g2:∀bs,G b (.barr bs)):n0 H' w b st:=by
 refine ws x fun full rest size h1 h2 h3=>GG full rest size (k.get h1 (g1 _)) (k.get h2 (g2 _)) h3
theorem bP.keep{G:Nat->O->Prop}{r:Nat}{st:List Bool}(x:bP H r st)(k:Kp G H H')(g:∀fs,G r (.inst 404 fs)):bP H' r st:=by
 refine eu x fun bs at_ h1 h2=>sf bs at_ (k.get h1 (g _)) h2
theorem tE{st:List Bool}{full:Array UInt8}{rest size:Nat}(h:gu full++nb size rest=st):8*full.size+size=st.length:=by
 refine el h (er OA ?_);rw [nq,cI]
abbrev GW:P:=im.body.get 3
theorem xI(hS:S.bar){w b s:Nat}(hl:dE l 0=some (.obj w)):∀(k:Nat) (full:Array UInt8) (rest size:Nat) (H:List O),H[w]? = some (qf b rest size)->H[b]? = some (.barr full)->size=8*k+s->s<8->rest<2^size->full.size+k<=100000->size<=900->∀(kP:Prop),(∀H',WH S n GW.wt GW.b1 k l H l H'->n0 H' w b (gu full++nb size rest)->Kp GB H H'->kP)->kP:=by
 intro m_;induction m_ with
 | zero=>
  intro full rest size H h1 h2 hs hs8 hr hf hz;intro _ kK;refine kK H (.stop (TV.eq (ag (af (ad hl) h1 rfl rfl rfl) EV.int v5) (decide_eq_false (by lia)))) (Cg full rest size h1 h2 (by lia) hr rfl) .refl
 | succ k ih_=>
  intro full rest size H h1 h2 hs hs8 hr hf hz;intro _ kK;have ne:=hk h1 h2;have w0:=aA h1;haveI b0:=aA h2;have hz8:=Km hs;have byte:rest / 2^(size - 8)<256:=by
   rewrite [Nat.div_lt_iff_lt_mul (P5 _),show 256=2^8 from rfl,← Nat.pow_add];exact el hz8 hr
  haveI A1:(H.set w (qf b rest (size - 8)))[w]? = some (qf b rest (size - 8)):=aM w0;haveI A2:(H.set w (qf b rest (size - 8)))[b]? = some (.barr full):=cj ne h2;haveI B1:((H.set w (qf b rest (size - 8))).set b (.barr (full.push (rest / 2^(size - 8)).toUInt8)))[w]? = some (qf b rest (size - 8)):=cj (Ne.symm ne) A1;refine ih_ (full.push (rest / 2^(size - 8)).toUInt8) (rest % 2^(size - 8)) (size - 8) (((H.set w (qf b rest (size - 8))).set b (.barr (full.push (rest / 2^(size - 8)).toUInt8))).set w (qf b (rest % 2^(size - 8)) (size - 8)))
   (aM (by simpa using w0)) (cj ne (aM (by simpa using b0))) (by lia) hs8 (RB _ (P5 _)) (by rw [SA];exact JK hf) (by lia) _ fun H' c d e=>?_
  refine kK H' (.step (TV.eq (ag (af (ad hl) h1 rfl rfl rfl) EV.int v5) (decide_eq_true (JJ hz8))) (fun Q q=>?_) c) ?_ ?_
  ·refine aN (au (EV.sub (af (ad hl) h1 rfl rfl rfl) EV.int) (LK hz8)) (ad hl) h1 rfl rfl ?_;refine aP (EV.bapp hS (af (ad hl) A1 rfl rfl rfl) (au (EV.shr (af (ad hl) A1 rfl rfl rfl) (af (ad hl) A1 rfl rfl rfl) (OS _)) (jd rest (size - 8))) A2 A2 (bT (OS _) (Pn.mpr byte) (KY hf))) ?_;rw [ON];exact aN (au (EV.band (af (ad hl) B1 rfl rfl rfl) (EV.sub (EV.shl EV.int (af (ad hl) B1 rfl rfl rfl) (bT (OS _) (by lia) (av (by decide) (by decide)))) EV.int)) (m6 rest (size - 8))) (ad hl) B1 rfl rfl (W.nil q)
  ·rw [vM,OB] at d;haveI e1:(rest / 2^(size - 8)).toUInt8.toNat=rest / 2^(size - 8):=by
    exact er UInt8.toNat_ofNat' (SI byte)
   rw [e1,sR,← qR,← hz8] at d;exact d
  ·exact Kp.trans (Kp.setO (Kp.setO (Kp.setO .refl h1 nofun) h2 nofun) h1 nofun) e
theorem mV(ok:OK S){w b v z:Nat}{st:List Bool}(x:n0 H w b st)(hv:v<2^z)(hz:z<=20)(hst:st.length<=700000){kP:Prop}(kK:∀H',aE S 1 (.top 345) [.obj w,.int v,.int z] H .none H'->n0 H' w b (st++nb z v)->Kp GB H H'->kP):kP:=by
 refine si x fun full rest size h1 h2 h3 h4 h5=>?_;haveI len:=tE h5;have w0:=aA h1;haveI ne:=hk h1 h2;haveI A1:(H.set w (qf b (rest*2^z||| v) size))[w]? = some (qf b (rest*2^z||| v) size):=aM w0;haveI hr:=G3 h4 hv;haveI h20:=OE hv (Rq (by decide) hz);haveI hr8:=OE h4 (Rq (by decide) (O0 ‹_›));refine xI (n:=0) (l:=[.obj w,.int v,.int z].map some) ok.bar rfl ((size+z) / 8) full (rest*2^z||| v) (size+z) ((H.set w (qf b (rest*2^z||| v) size)).set w (qf b (rest*2^z||| v) (size+z)))
  (aM (by simpa using w0)) (cj ne (cj ne h2)) (SP (size+z) 8).symm (RB _ (by decide)) hr (JI hz hst len) (JH h3 hz) _ fun H' c d e=>?_
 refine kK H' (ok.fnD 18 rfl rfl fun Q q=>?_) ?_ ?_
 ·refine ay (fJ (fg.no (ag (ad rfl) EV.int iF) (decide_eq_false DL) (fg.no (TV.eq (TV.not (kV EV.int (ad rfl) eX (EV.shl EV.int (ad rfl) (bT (z0) (Er hz) (av (by decide) (by decide)))) iF (decide_eq_true z0))) ?_) rfl fg.nil))) rfl ?_
  ·rw [decide_eq_true];rfl;rw [RQ,gK];exact_mod_cast hv
  ·refine aN (au (EV.bor (EV.shl (af (ad rfl) h1 rfl rfl rfl) (ad rfl) (bT (z0) (Er hz) (av Bq (by lia)))) (ad rfl)) (by rw [zT,AV])) (ad rfl) h1 rfl rfl ?_;refine aN (au (EV.add (af (ad rfl) A1 rfl rfl rfl) (ad rfl)) rfl) (ad rfl) A1 rfl rfl ?_;exact i7 c (W.nil q)
 ·rw [CA hv] at d;refine el h5 ?_;rw [OB];exact d
 ·exact Kp.trans (Kp.setO (Kp.setO .refl h1 nofun) h1 nofun) e
end
end
mutual #where
def tZ(t w:Nat):O:=.inst 1017 [(28,.obj t),(38,.obj w)]
def a9(H:List O)(k t w b:Nat)(st:List Bool):Prop:=H[k]? = some (tZ t w)/\n0 H w b st
abbrev GS:Nat->O->Prop:=fun _ o=>fD o=true
def MQ:O->Bool
 | .inst C _=>C == 663||C == 705||C == 537||C == 831
 | _=>false
abbrev GF:Nat->O->Prop:=fun _ o=>fD o=true∨MQ o=true
theorem GF.GS:∀(i:Nat) (o:O),Internal.GS i o->Internal.GF i o:=fun _ _ h=>.inl h
end
section
mutual #where
variable {S:be} {n:Nat} {H H' H1 H2 E E':List O} {i:Nat} {l:aW} {v y:V} {c:C} {t:T} {R:Ps} {Q:Fl->aW->List O->Prop}
theorem bg{C f:Nat}{fs:List (Nat×V)}(hs:dE l 0=some (.obj H.length))(hv:EV S n c l (H++[.inst C fs]++E) v H1)(h1:H1=H++[.inst C fs]++E')(hf:qX C f=true)(hl:SC fs.length 100=true)
  (h:bH S n R l (H++[.inst C (Internal.setF f v fs)]++E') Q):bH S n (.cons (.setatt (.loc 0) f c) R) l (H++[.inst C fs]++E) Q:=by
 subst h1;refine aN hv (ad hs) (ah aj) hf hl ?_;refine er (zU (by simp)) ?_;exact er pz h
theorem W.start{o:O}(h:bH S n R l (H++[o]++[]) Q):bH S n R l (H++[o]) Q:=by rw [OO] at h;exact h
theorem yZ(ok:OK S):aE S 2 (.top 362) [] H (.obj H.length) (H++[qf (H.length+1) 0 0]++[.barr #[]]):=ok.clsD 4 rfl rfl fun Q q=>by
 refine W.start (bg (E':=[.barr #[]]) rfl (EV.barr ok.bar) (by simp) rfl rfl ?_);haveI e:(H++[O.inst 362 []]++[]).length=H.length+1:=by simp
 refine bg rfl EV.int rfl rfl rfl (bg rfl EV.int rfl rfl rfl (W.nil ?_));exact er e q
theorem v8:n0 (H++[qf (H.length+1) 0 0]++[.barr #[]]) H.length (H.length+1) []:=by
 refine Cg (#[]) 0 0 (ah aj) ?_ (by decide) (by decide) rfl;refine er (OU (by simp)) ?_;simp
theorem xh(ok:OK S){t:Nat}{kP:Prop}(kK:∀H',aE S 4 (.top 1017) [.obj t] H (.obj H.length) H'->a9 H' H.length t (H.length+1) (H.length+2) []->cg H H'->kP):kP:=by
 have e:∀o:O,(H++[o]).length=H.length+1:=by simp
 refine kK (H++[tZ t (H.length+1)]++[qf (H.length+2) 0 0,.barr #[]]) (ok.clsD 16 rfl rfl fun Q q=>?_) ⟨ah aj,?_⟩ (.app (.app .refl))
 ·refine W.start (bg rfl (ad rfl) rfl rfl rfl ?_);refine bg (E':=[qf (H.length+2) 0 0,.barr #[]]) rfl (EV.fcall rfl .nil (yZ ok) (by decide)) ?_ rfl rfl (W.nil ?_)
  ·simp
  ·rw [OO,e];exact q
 ·haveI:=v8 (H:=H++[tZ t (H.length+1)]);rw [e,OB] at this;exact this
theorem xQ(ok:OK S){w b:Nat}{st:List Bool}(x:n0 H w b st)(hst:st.length<=700000){kP:Prop}(kK:∀H' pad,aE S 2 (.top 352) [.obj w] H .none H'->n0 H' w b (st++pad)->(st++pad).length % 8=0->pad.length<=8->Kp GB H H'->kP):kP:=by
 refine si (id x) fun full rest size h1 h2 h3 h4 h5=>?_;haveI len:=tE h5;by_cases hz:0<size
 ·haveI h2p:=P5 (8 - size);refine mV ok x (Lj h2p) JG hst fun H' c1 c2 c3=>kK H' (nb (8 - size) (2^(8 - size) - 1)) (ok.fnD 19 rfl rfl fun Q q=>?_) c2 ?_ (by rw [cI];exact Nat.sub_le _ _) c3
  ·refine bE (ag (af (ad rfl) h1 rfl rfl rfl) EV.int bt) (decide_eq_true (uW hz)) ?_;haveI s8:=LM h3;refine aP (EV.meth (ad rfl) h1 rfl rfl (.cons (au (EV.sub (EV.shl EV.int (EV.sub EV.int (af (ad rfl) h1 rfl rfl rfl)) (bT (Lg s8) (JE) (av (by decide) (by decide)))) EV.int) ?_) (.cons (au (EV.sub EV.int (af (ad rfl) h1 rfl rfl rfl)) s8) .nil)) c1 (by decide)) (W.nil (W.nil q));refine er s8 ?_;rw [RQ,gK];exact Ep h2p
  ·refine er OA ?_;rw [cI];exact JD h3 len
 ·refine kK H [] (ok.fnD 19 rfl rfl fun Q q=>?_) (by simpa using x) (by simp;lia) (by simp) .refl;exact ay (ag (af (ad rfl) h1 rfl rfl rfl) EV.int bt) (decide_eq_false (B6 hz)) (W.nil q)
theorem qP(ok:OK S){w b:Nat}{st:List Bool}(x:n0 H w b st)(hst:st.length<=700008)(h8:st.length % 8=0):∃bs,aE S 1 (.top 359) [.obj w] H (.bytes bs) H/\gu bs=st/\bs.size<=100000:=by
 refine si (id x) fun full rest size h1 h2 h3 h4 h5=>?_;haveI len:=tE h5;have hz:size=0:=by lia
 subst hz;exact jb full (ok.fnD 20 rfl rfl fun Q q=>W.ret (EV.bytes ok.bar (af (ad rfl) h1 rfl rfl rfl) h2 (ET hst len)) q) (by rw [← h5];exact(OO _).symm) (ET hst len)
theorem CT{C:Nat}(h:(C == 73||C == 139||C == 172||C == 320||C == 887)=true):(C != 362)=true:=by
 refine bne_iff_ne.mpr fun e=>absurd (e▸h) (by decide)
theorem GB.GS:∀(i:Nat) (o:O),Internal.GS i o->Internal.GB i o:=fun i o h=>by
 cases o with
 | inst C fs=>exact CT h
 | barr bs=>exact h
 | _=>rfl
theorem GB.GF:∀(i:Nat) (o:O),Internal.GF i o->Internal.GB i o:=fun i o h=>by
 rcases h with h | h
 ·exact GB.GS i o h
 ·cases o with
  | inst C fs=>
   haveI h:(C == 663||C == 705||C == 537||C == 831)=true:=h
   refine(?_:(C != 362)=true);simp at h⊢;lia
  | _=>exact ae h
theorem IP{C:Nat}{fs:List (Nat×V)}{i:Nat}(h:(C == 73||C == 139||C == 172||C == 320||C == 887||C == 663||C == 705||C == 537||C == 831)=false):¬Internal.GF i (.inst C fs):=fun z=>by
 haveI z:(C == 73||C == 139||C == 172||C == 320||C == 887)=true∨(C == 663||C == 705||C == 537||C == 831)=true:=z
 simp at h z;exact Ll z h.1.1.1.1.1.1.1.2 h.1.1.1.1.1.1.2 h.1.1.1.1.1.2 h.1.2 h.1.1.1.2 h.1.1.2 h.1.1.1.1.1.1.1.1 h.2 h.1.1.1.1.2
theorem fT(ok:OK S){k t w b:Nat}{st:List Bool}(x:a9 H k t w b st)(hst:st.length<=700000){kP:Prop}(kK:∀H' bs pad,aE S 3 (.top 1014) [.obj k] H (.bytes bs) H'->gu bs=st++pad->bs.size<=100000->Kp Internal.GF H H'->kP):kP:=by
 refine ba x fun x1 x2=>fP (id x2) fun _ _ _ hw _=>xQ ok x2 hst fun H1 pad c1 d1 d2 d3 d4=>fP (id d1) fun _ _ _ hw1 _=>eZ (qP ok d1 (by simp;lia) d2) fun bs c2 e1 e2=>?_;haveI x1':=d4.get x1 rfl;refine kK ((H1++[qf (H1.length+1) 0 0]++[O.barr #[]]).set k (tZ t H1.length)) bs pad (ok.fnD 77 rfl rfl fun Q q=>?_) e1 e2 ?_
 ·refine aP (EV.meth (af (ad rfl) x1 rfl rfl rfl) hw rfl rfl .nil c1 (by decide)) ?_;refine aD (EV.meth (af (ad rfl) x1' rfl rfl rfl) hw1 rfl rfl .nil c2 (by decide)) ?_;refine aN (EV.fcall rfl .nil (yZ ok) (by decide)) (ad rfl) (ah (ah x1')) rfl rfl (W.ret (ad rfl) q)
 ·exact Kp.setO (.app (.app (d4.mono GB.GF))) x1 (IP rfl)
theorem dK(ok:OK S){k t w b v z:Nat}{st:List Bool}(x:a9 H k t w b st)(hv:v<2^z)(hz:z<=20)(hst:st.length<=700000){kP:Prop}(kK:∀H',aE S 2 (.top 1007) [.obj k,.int v,.int z] H .none H'->a9 H' k t w b (st++nb z v)->Kp GB H H'->kP):kP:=by
 refine ba x fun x1 x2=>fP (id x2) fun _ _ _ hw _=>mV ok x2 hv hz hst fun H1 c1 d1 d2=>kK H1 (ok.fnD 76 rfl rfl fun Q q=>aP (EV.meth (af (ad rfl) x1 rfl rfl rfl) hw rfl rfl (.cons (ad rfl) (.cons (ad rfl) .nil)) c1 (by decide)) (W.nil q)) ⟨d2.get x1 rfl,d1⟩ d2
def cZ:List Int:=(OT 24).map fun j:Nat=>(((16*(j / 6)+j % 6:Nat)):Int)
def eL:List (Int×Int×Int):=[(0,0,0),(0,0,0),(0,0,0),(0,0,0),(0,24,0),(48,0,24),(96,0,24),(192,0,24),(384,0,24),(768,0,24),(1536,0,24),(3072,0,24),(6144,0,24),(12288,0,24),(24576,0,24),(49152,0,24)]
def vg(cn sy rw cd:Nat):O:=.inst 320 [(12,.obj cn),(13,.obj sy),(14,.obj rw),(15,.obj cd)]
def bQ(R:Nat->Prop)(H:List O)(tb:Nat):Prop:=∃cn sy rw cd rs es,(R tb/\R sy/\R rw/\R cd)/\H[tb]? = some (vg cn sy rw cd)/\H[sy]? = some (.tuple (zs cZ))/\H[rw]? = some (.list (rs.map .obj))/\
 F2 (fun(r:Nat) (p:Int×Int×Int)=>R r/\H[r]? = some (.tuple [.int p.1,.int p.2.1,.int p.2.2])) rs eL/\H[cd]? = some (.dict es)/\
 ∀(j:Nat) (s:Int),cZ[j]? = some s->∃c,(es.find? fun e=>decide (e.1=s))=some (s,.obj c)/\R c/\H[c]? = some (.tuple [.int j,.int 5])
theorem bQ.keep{R:Nat->Prop}{G:Nat->O->Prop}{tb:Nat}(a:bQ R H tb)(k:Kp G H H')(g:∀i o,R i->fD o=true->G i o):bQ R H' tb:=by
 refine IG a fun cn sy rw cd rs es q_a h1 h2 h3 h4 h5 h6=>sn q_a fun r1 r2 r3 r4=>Mx cn sy rw cd rs es (oK r1 r2 r3 r4) (k.get h1 (g _ _ r1 rfl)) (k.get h2 (g _ _ r2 rfl)) (k.get h3 (g _ _ r3 rfl)) (h4.imp fun c p y_26=>ba y_26 fun q1 q2=>⟨q1,k.get q2 (g _ _ q1 rfl)⟩) (k.get h5 (g _ _ r4 rfl)) (fun j s hj=>by
  refine eZ (h6 j s hj) fun c q1 q2 q3=>(jb c q1 q2 (k.get q3 (g _ _ q2 rfl))))
theorem bQ.region{R R':Nat->Prop}{tb:Nat}(a:bQ R H tb)(h:∀i,i<H.length->R i->R' i):bQ R' H tb:=by
 refine IG a fun cn sy rw cd rs es q_a h1 h2 h3 h4 h5 h6=>sn q_a fun r1 r2 r3 r4=>Mx cn sy rw cd rs es (oK (h _ (aA h1) r1) (h _ (aA h2) r2) (h _ (aA h3) r3) (h _ (aA h5) r4)) h1 h2 h3 (h4.imp fun c p y_27=>ba y_27 fun q1 q2=>⟨h _ (aA q2) q1,q2⟩) h5 (fun j s hj=>by
  refine eZ (h6 j s hj) fun c q1 q2 q3=>(jb c q1 (h _ (aA q3) q2) q3))
def kZ(z s:Nat):Int:=((16*z+s:Nat):Int)
theorem wS{z s:Nat}(hz:z<4)(hs:s<6):cZ[6*z+s]? = some (kZ z s):=(by decide +kernel:∀z<4,∀s<6,cZ[6*z+s]? = some (kZ z s)) z hz s hs
theorem v3(ok:OK S){R:Nat->Prop}{tb z s:Nat}(a:bQ R H tb)(hz:z<4)(hs:s<6){kP:Prop}(kK:∀c,aE S 1 (.top 310) [.obj tb,.int (kZ z s)] H (.obj c) H->H[c]? = some (.tuple [.int ((6*z+s:Nat):Int),.int 5])->kP):kP:=by
 refine IG a fun cn sy rw cd rs es _ h1 h2 h3 h4 h5 h6=>eZ (h6 _ _ (wS hz hs)) fun c q1 q2 q3=>kK c (ok.fnD 16 rfl rfl fun Q q=>?_) q3;exact aD (Bm (af (ad rfl) h1 rfl rfl rfl) (ad rfl) h5 h5 q1) <| ay (ag (ad rfl) EV.none HB) rfl <| W.ret (ad rfl) q
def wR(k0 k1 k2 k3 tb:Nat):List (Nat×(Int×Int)×V):=[(k0,(0,0),.obj tb),(k1,(0,1),.obj tb),(k2,(1,0),.obj tb),(k3,(1,1),.obj tb)]
def cC(R:Nat->Prop)(H:List O)(t:Nat):Prop:=∃tb k0 k1 k2 k3,(R t/\R k0/\R k1/\R k2/\R k3)/\H[t]? = some (.tdict (wR k0 k1 k2 k3 tb))/\lr H (wR k0 k1 k2 k3 tb)/\bQ R H tb
theorem cC.keep{R:Nat->Prop}{G:Nat->O->Prop}{t:Nat}(a:cC R H t)(k:Kp G H H')(g:∀i o,R i->fD o=true->G i o):cC R H' t:=by
 refine zK a fun tb k0 k1 k2 k3 q_a h1 h2 h3=>tT q_a fun r1 r2 r3 r4 r5=>My tb k0 k1 k2 k3 (ID r1 r2 r3 r4 r5) (k.get h1 (g _ _ r1 rfl)) (fun e he=>?_) (h3.keep k g);haveI:=h2 e he;refine k.get this (g _ _ ?_ rfl);simp [wR] at he;rcases he with rfl | rfl | rfl | rfl<;>assumption
theorem cC.region{R R':Nat->Prop}{t:Nat}(a:cC R H t)(h:∀i,i<H.length->R i->R' i):cC R' H t:=by
 refine zK a fun tb k0 k1 k2 k3 q_a h1 h2 h3=>tT q_a fun r1 r2 r3 r4 r5=>?_;haveI g:=fun e he=>aA (h2 e he);exact My tb k0 k1 k2 k3 (ID (h _ (aA h1) r1) (h _ (g _ (.head _)) r2) (h _ (g _ (.tail _ (.head _))) r3) (h _ (g _ (.tail _ (.tail _ (.head _)))) r4) (h _ (g _ (.tail _ (.tail _ (.tail _ (.head _))))) r5)) h1 h2 (h3.region h)
def yh(d s:Int):Prop:=(d=0∨d=1)/\(s=0∨s=1)
theorem pm{d s:Int}(h:yh d s)(k0 k1 k2 k3 tb:Nat):lg (wR k0 k1 k2 k3 tb) (d,s)=some (.obj tb):=by
 obtain⟨rfl | rfl,rfl | rfl⟩:=h<;>rfl
theorem gf(ok:OK S){R:Nat->Prop}{k t w b z s kk:Nat}{d sl:Int}{st:List Bool}(x:a9 H k t w b st)(tt:cC R H t)(hk:H[kk]? = some (.tuple [.int d,.int sl]))(hd:yh d sl)(hz:z<4)(hs:s<6)(hst:st.length<=700000){kP:Prop}(kK:∀H',aE S 2 (.top 1000) [.obj k,.obj kk,.int (kZ z s)] H .none H'->a9 H' k t w b (st++nb 5 (6*z+s))->Kp GB H H'->kP):kP:=by
 refine ba x fun x1 x2=>zK tt fun tb k0 k1 k2 k3 _ h1 h2 h3=>fP (id x2) fun _ _ _ hw _=>DN h3 fun cn _ _ _ _ _ _ h0 _=>v3 ok h3 hz hs fun c q1 q2=>mV ok x2 (Fa hz hs) (by decide) hst fun H1 c1 d1 d2=>kK H1 (ok.fnD 75 rfl rfl fun Q q=>?_) ⟨d2.get x1 rfl,d1⟩ d2;refine cL (EV.meth (mM (af (ad rfl) x1 rfl rfl rfl) (ad rfl) h1 hk h2 (pm hd ..)) h0 rfl rfl (.cons (ad rfl) .nil) q1 (by decide)) q2 rfl ?_;exact aP (EV.meth (af (ad rfl) x1 rfl rfl rfl) hw rfl rfl (.cons (ad rfl) (.cons (ad rfl) .nil)) c1 (by decide)) (W.nil q)
end
end
mutual #where
def xT:O->Bool
 | .inst C _=>C != 404
 | _=>true
abbrev GR:Nat->O->Prop:=fun _ o=>xT o=true
theorem GR.GS:∀(i:Nat) (o:O),Internal.GS i o->Internal.GR i o:=fun i o h=>by
 cases o with
 | inst C fs=>
  have h:(C == 73||C == 139||C == 172||C == 320||C == 887)=true:=h
  refine(?_:(C != 404)=true);simp at h⊢;lia
 | _=>rfl
end
section
mutual #where
variable {S:be} {n:Nat} {H H' H1 H2 E E':List O} {i:Nat} {l:aW} {v y:V} {c:C} {t:T}
theorem pB(ok:OK S){bs:Array UInt8}:aE S 2 (.top 404) [.bytes bs] H (.obj H.length) (H++[wv bs 0]):=ok.clsD 5 rfl rfl fun Q q=>
 W.setF rfl (ad rfl) rfl rfl rfl <| W.setF rfl EV.int rfl rfl rfl <| W.nil q
theorem vD(ok:OK S){r at_:Nat}{bs:Array UInt8}(h:H[r]? = some (wv bs at_))(hs:bs.size<=100000):aE S 1 (.top 387) [.obj r] H (.int (8*bs.size - at_)) H:=ok.fnD 21 rfl rfl fun Q q=>
 W.ret (EV.sub (EV.mul EV.int (uT (af (ad rfl) h rfl rfl rfl) hs) (av Bq (by lia))) (af (ad rfl) h rfl rfl rfl)) q
theorem d7(ok:OK S){r:Nat}{b:Bool}{st:List Bool}(x:bP H r (b::st)):∃H',aE S 1 (.top 394) [.obj r] H (.int b.toNat) H'/\bP H' r st/\Kp GR H H':=by
 refine Ht fun _ kK=>dQ x fun bs at_ h1 h2 h3 h4=>?_;have hb:(gu bs)[at_]? = some b:=by
  haveI:=QP (xs:=gu bs) (i:=at_) (j:=0);rw [h2] at this;simpa using this.symm
 refine aZ (yx hb) fun u hu e=>?_;have hl:at_<8*bs.size:=by rw [← nq];exact bc hb
 refine kK (H.set r (wv bs (at_+1))) (ok.fnD 22 rfl rfl fun Q q=>?_) (lK bs (at_+1) (aM (aA h1)) ?_ h3 (by assumption)) (Kp.setO .refl h1 nofun)
 ·refine ay (ag (af (ad rfl) h1 rfl rfl rfl) (EV.mul EV.int (uT (af (ad rfl) h1 rfl rfl rfl) h3) (av Bq (by lia))) v5) (decide_eq_false (by lia)) ?_;haveI e1:((at_:Int)).fdiv (2^(3:Int).toNat)=((at_ / 8:Nat)):=jd at_ 3;haveI e2:PD (at_) 7=((at_ % 8:Nat)):=m6 at_ 3;haveI e3:(7:Int) - ((at_ % 8))=((7 - at_ % 8:Nat)):=LT;refine aD (au (EV.band (au (EV.shr (Bf (af (ad rfl) h1 rfl rfl rfl) (au (EV.shr (af (ad rfl) h1 rfl rfl rfl) EV.int (by decide)) e1) ⟨OS _,h3⟩ (by rw [ON];exact hu))
   (au (EV.sub EV.int (au (EV.band (af (ad rfl) h1 rfl rfl rfl) EV.int) e2)) e3) (OS _)) (jd _ _)) EV.int) (q:=(b.toNat:Int)) ?_) ?_
  ·rewrite [pZ];refine er e ?_;rw [qt]
  ·exact aN (au (EV.add (af (ad rfl) h1 rfl rfl rfl) EV.int) Bs) (ad rfl) h1 rfl rfl (W.ret (ad rfl) q)
 ·refine el RV (er h2 ?_);rfl
theorem cN{r:Nat}{st:List Bool}(x:bP H r st):∃bs at_,H[r]? = some (wv bs at_):=eu x fun bs at_ h _=>(IC bs at_ h)
abbrev BW:Ps:=(gz.body.get 2).b1
theorem wc(ok:OK S){r k:Nat}{z:Int}{H0:List O}(h0:H0[k]? = some (.rng 0 z 1)):∀(st rest:List Bool) (a:Nat) (all:List V) (x:V) (H:List O) (l:aW),l=[some (.obj r),some (.int z),some (.int a),some x]∨l=[some (.obj r),some (.int z),some (.int a),none]->all.length=st.length->bP H r (st++rest)->H[k]? = some (.rng 0 z 1)->∀(kP:Prop),(∀H' l',(dz S 1 BW (.one 3) (aG (.obj k) H0) all l H l' H')->dE l' 2=some (.int (tW a st))->bP H' r rest->Kp GR H H'->kP)->kP:=by
 intro m_;induction m_ with
 | nil=>
  intro rest a all x H l hl hn hr hk;intro _ kK;cases all with
  | nil=>
   refine kK H l (fun Q q=>⟨hk.trans h0.symm,q⟩) ?_ hr .refl;rcases hl with rfl | rfl<;>rfl
  | cons=>exact Nat.noConfusion hn
 | cons b st ih_=>
  intro rest a all x H l hl hn hr hk;intro _ kK;cases all with
  | nil=>exact Nat.noConfusion hn
  | cons y all=>
   refine eZ (d7 ok (st:=st++rest) hr) fun H1 c1 d1 d2=>mO (cN hr) fun bs at_ e=>ih_ rest (a*2+b.toNat) all y H1 [some (.obj r),some (.int z),some (.int (a*2+b.toNat:Nat)),some y] (.inl rfl) (by simpa using hn) d1 (d2.get hk rfl) _ fun H' l' f e1 e2 e3=>kK H' l' (fun Q q=>⟨hk.trans h0.symm,?_⟩) e1 e2 (d2.trans e3);haveI hl':(l.set 3 (some y))=[some (.obj r),some (.int z),some (.int a),some y]:=by rcases hl with rfl | rfl<;>rfl
   refine(?_:bH S 1 BW (l.set 3 (some y)) H _);exact er hl' (aD (au (EV.add (EV.mul (ad rfl) EV.int (av (by decide) (by decide))) (EV.meth (ad rfl) e rfl rfl .nil c1 (by decide))) (by push_cast;rfl)) (W.nil (f Q q)))
theorem jn(ok:OK S){r z v:Nat}{st:List Bool}(x:bP H r (nb z v++st))(hv:v<2^z)(hz:z<=20){kP:Prop}(kK:∀H',aE S 2 (.top 401) [.obj r,.int z] H (.int v) H'->bP H' r st->Kp GR H H'->kP):kP:=by
 refine dQ (id x) fun bs at_ h1 h2 h3 h4=>?_;have hl:z<=8*bs.size - at_:=by
  haveI:=congrArg List.length h2;rw [Q4,nq,OA,cI] at this;exact J8 this
 haveI x':bP (H++[.rng 0 z 1]) r (nb z v++st):=lK bs at_ (ah h1) h2 h3 h4;refine wc ok aj (nb z v) st 0 (cQ 0 (((z:Int) - 0).toNat)) .none (H++[.rng 0 z 1]) [some (.obj r),some (.int z),some (.int (0:Nat)),none] (.inr rfl) (by simp [cQ,cI]) x' aj _ fun H' l' f e1 e2 e3=>kK H' (ok.fnD 23 rfl rfl fun Q q=>?_) e2 ((Kp.app .refl).trans e3);refine ay (ag (ad rfl) (EV.meth (ad rfl) h1 rfl rfl .nil (vD ok h1 h3) (by decide)) bt) (decide_eq_false (by omega)) ?_;refine aD EV.int (bk (bV (ad rfl)) (aX aj ⟨by decide,by decide⟩ ⟨z6,by lia⟩) ?_);exact f _ (W.ret (ad e1) (by exact er (oO hv) q))
end
end
section
mutual #where
variable {S:be} {n:Nat} {H H' H1 H2 E E':List O} {i:Nat} {l:aW} {v y:V} {c:C} {t:T}
abbrev xF:Ps:=(gv.body.get 1).b1
theorem hP{α β:Type}{R:α->β->Prop}{xs:List α}{y:β}{ys:List β}(h:F2 R xs (y::ys)):∃x xs',xs=x::xs'/\R x y/\F2 R xs' ys:=by
 refine yM fun _ kK=>?_;cases h with
 | cons a r=>exact kK _ _ rfl a r
def MG(tb rd code:Nat)(a b c:Option V):aW:=[some (.obj tb),some (.obj rd),some (.int code),a,b,c]
theorem jh{tb rd code r:Nat}{b:Bool}{x y z:Option V}{rest:List V}{H0:List O}{k:Nat}{Q:Fl->aW->List O->Prop}{bs:Array UInt8}{at_:Nat}(e:H[rd]? = some (wv bs at_))(c1:aE S 1 (.top 394) [.obj rd] H (.int b.toNat) H1)(hrow:H[r]? = some (.tuple [.int 0,.int 0,.int 0]))(hk:H[k]? = H0[k]?)
  (h:iG (fun l H K=>bH S 1 xF l H K) (.many [3,4,5]) (aG (.obj k) H0) rest (MG tb rd (code*2+b.toNat) (some (.int 0)) (some (.int 0)) (some (.int 0))) H1 Q) :
  iG (fun l H K=>bH S 1 xF l H K) (.many [3,4,5]) (aG (.obj k) H0) (.obj r::rest) (MG tb rd code x y z) H Q:=by
 refine⟨hk,?_⟩;refine lK _ _ rfl hrow rfl ?_;refine aD (au (EV.add (EV.mul (ad rfl) EV.int (av (by decide) (by decide))) (EV.meth (ad rfl) e rfl rfl .nil c1 (by decide))) (by push_cast;rfl)) ?_;exact ay (ag (EV.sub (ad rfl) (ad rfl)) (ad rfl) iF) (decide_eq_false K7) (W.nil h)
theorem xE{tb rd sy code r j:Nat}{s:Int}{b:Bool}{x y z:Option V}{rest:List V}{H0:List O}{k:Nat}{Q:Fl->aW->List O->Prop}{cn rw cd:Nat}{bs:Array UInt8}{at_:Nat}(e:H[rd]? = some (wv bs at_))(c1:aE S 1 (.top 394) [.obj rd] H (.int b.toNat) H1)(hrow:H[r]? = some (.tuple [.int 0,.int 24,.int 0]))(hk:H[k]? = H0[k]?)
  (htb:H1[tb]? = some (vg cn sy rw cd)) (hsy:H1[sy]? = some (.tuple (zs cZ))) (hj:code*2+b.toNat=j) (hs:cZ[j]? = some s) (h:∀l1,Q (.ret (.int s)) l1 H1) :
  iG (fun l H K=>bH S 1 xF l H K) (.many [3,4,5]) (aG (.obj k) H0) (.obj r::rest) (MG tb rd code x y z) H Q:=by
 haveI j24:j<24:=by haveI:=bc hs;simpa [cZ] using this
 refine⟨hk,?_⟩;refine lK _ _ rfl hrow rfl ?_;refine aD (au (q:=(j:Int)) (EV.add (EV.mul (ad rfl) EV.int (av (by decide) (by decide))) (EV.meth (ad rfl) e rfl rfl .nil c1 (by decide))) (by refine el hj ?_;push_cast;rfl)) ?_;refine bE (ag (EV.sub (ad rfl) (ad rfl)) (ad rfl) iF) (decide_eq_true (LO j24)) ?_;exact W.ret (nV (af (ad rfl) htb rfl rfl rfl) (au (EV.sub (EV.add (ad rfl) (ad rfl)) (ad rfl)) JB) hsy (OE ‹_› (by decide)) (by refine er O5 (er hs ?_);rfl)) (h _)
theorem fC(ok:OK S){R:Nat->Prop}{tb rd z s:Nat}{st:List Bool}(a:bQ R H tb)(x:bP H rd (nb 5 (6*z+s)++st))(hz:z<4)(hs:s<6) :
  ∃H',aE S 2 (.top 317) [.obj tb,.obj rd] H (.int (kZ z s)) H'/\bP H' rd st/\Kp GR H H':=by
 refine IG a fun cn sy rw cd rs es _ h1 h2 h3 h4 h5 h6=>?_;unfold eL at h4;obtain⟨r0,rs,rfl,q0,h4⟩:=hP h4;obtain⟨r1,rs,rfl,q1,h4⟩:=hP h4;obtain⟨r2,rs,rfl,q2,h4⟩:=hP h4;obtain⟨r3,rs,rfl,q3,h4⟩:=hP h4;refine fQ (hP h4) fun r4 rs r_25 q4 h4=>?_;obtain rfl:=r_25;haveI ej:=wS hz hs;haveI hlt:6*z+s<2^5:=Fa hz hs;haveI sp:=oO hlt;generalize hcode:6*z+s=w at *;simp only [jj] at x sp;refine mO (cN x) fun _ _ e0=>eZ (d7 ok x) fun H1 c1 x k1=>mO (cN x) fun _ _ e1=>eZ (d7 ok x) fun H2 c2 x k2=>?_;have k2:=k1.trans k2;refine mO (cN x) fun _ _ e2=>eZ (d7 ok x) fun H3 c3 x k3=>?_;have k3:=k2.trans k3;refine mO (cN x) fun _ _ e3=>eZ (d7 ok x) fun H4 c4 x k4=>mO (cN x) fun _ _ e4=>?_;have k4:=k3.trans k4;refine eZ (d7 ok x) fun H5 c5 x k5=>?_;haveI k5:=k4.trans k5;refine jb H5 (ok.fnD 17 rfl rfl fun Q q=>?_) x k5;refine aD EV.int (bk (af (ad rfl) h1 rfl rfl rfl) (aU h3) ?_);refine jh e0 c1 q0.2 rfl ?_;refine jh e1 c2 (k1.get q1.2 rfl) ((k1.get h3 rfl).trans h3.symm) ?_;refine jh e2 c3 (k2.get q2.2 rfl) ((k2.get h3 rfl).trans h3.symm) ?_;refine jh e3 c4 (k3.get q3.2 rfl) ((k3.get h3 rfl).trans h3.symm) ?_;exact xE e4 c5 (k4.get q4.2 rfl) ((k4.get h3 rfl).trans h3.symm) (k5.get h1 rfl) (k5.get h2 rfl) sp ej fun l5=>q
def cat(v:Int):Nat:=Builtin.Int.intBits ((v.natAbs:Nat):Int)
def bo(v:Int)(z:Nat):Int:=if v<0 then v+2^z - 1 else v
def vo(b:Int)(z:Nat):Int:=if 0<z/\b<2^(z - 1) then b - 2^z+1 else b
theorem rM(ok:OK S){v:Int}:aE S 1 (.top 415) [.int v] H (.int (cat v)) H:=ok.fnD 24 rfl rfl fun Q q=>W.ret (EV.bitlen (EV.abs (ad rfl))) q
theorem uz(ok:OK S){v:Int}{z:Nat}(hz:z<=20):aE S 1 (.top 422) [.int v,.int z] H (.int (bo v z)) H:=ok.fnD 25 rfl rfl fun Q q=>by
 unfold bo at q;by_cases h:v<0
 ·rw [if_pos h] at q;exact bE (ag (ad rfl) EV.int iF) (decide_eq_true h) (W.ret (EV.sub (EV.add (ad rfl) (au (EV.pow EV.int (ad rfl) (bT (z0) (Er hz) (av (by decide) (by decide)))) (by rw [ON]))) EV.int) q)
 ·rw [if_neg h] at q;exact ay (ag (ad rfl) EV.int iF) (decide_eq_false h) (W.ret (ad rfl) q)
theorem tQ(ok:OK S){b:Int}{z:Nat}(hz:z<=20):aE S 1 (.top 429) [.int b,.int z] H (.int (vo b z)) H:=ok.fnD 26 rfl rfl fun Q q=>by
 unfold vo at q;by_cases h0:0<z
 ·haveI e1:∀l,EV S 0 (.bin .Pow (.int 2) (.bin .Sub (.loc 1) (.int 1))) ([V.int b,V.int z].map some++l) H (.int (2^(z - 1))) H:=fun l=>
   au (EV.pow EV.int (au (EV.sub (ad rfl) EV.int) (Ep h0)) (bT (OS _) (by lia) (av (by decide) (by decide)))) (by rw [ON])
  by_cases h:b<2^(z - 1)
  ·rw [if_pos ⟨h0,h⟩] at q;exact bE (bh (bq.yes (ag (ad rfl) EV.int bt) (decide_eq_true (uW h0)) (bq.yes (ag (ad rfl) (e1 _) iF) (decide_eq_true h) bq.nil))) rfl
    (W.ret (EV.add (EV.sub (ad rfl) (au (EV.pow EV.int (ad rfl) (bT (z0) (Er hz) (av (by decide) (by decide)))) (by rw [ON]))) EV.int) q)
  ·rw [if_neg fun x=>h x.2] at q;exact ay (bh (bq.yes (ag (ad rfl) EV.int bt) (decide_eq_true (uW h0)) (bq.no (ag (ad rfl) (e1 _) iF) (decide_eq_false h)))) rfl (W.ret (ad rfl) q)
 ·rw [if_neg fun x=>h0 x.1] at q;exact ay (bh (bq.no (ag (ad rfl) EV.int bt) (decide_eq_false (B6 h0)))) rfl (W.ret (ad rfl) q)
theorem qG(ok:OK S){r:Nat}(hr:0<r)(hl:r<16):aE S 1 (.top 436) [.int r] H (.obj H.length) (H++[.tuple [.int (kZ r.log2 0),.int r.log2]]):=ok.fnD 27 rfl rfl fun Q q=>by
 haveI e:((Builtin.Int.intBits (r)):Int) - 1=((r.log2)):=by
  unfold Builtin.Int.intBits;exact er (if_neg (by simp;exact Pg ‹_›)) Ih
 have l4:r.log2<4:=(QG (uX hr)).mpr hl;refine aD (au (EV.sub (EV.bitlen (ad rfl)) EV.int) e) (W.ret (bJ (.cons (au (EV.mul EV.int (ad rfl) (av Bq (by lia))) ?_) (.cons (ad rfl) .nil))) q);exact rfl
theorem eO(ok:OK S){v:Int}{low:Nat}:aE S 1 (.top 443) [.int v,.int low] H (.int ((v.natAbs / 2^low:Nat):Int)) H:=ok.fnD 28 rfl rfl fun Q q=>
 W.ret (au (EV.shr (EV.abs (ad rfl)) (ad rfl) z0) (jd _ _)) q
end
end
mutual #where
structure SD where
 places:List Nat
 start:Nat
 end_:Nat
 high:Nat
 low:Nat
def fY(xs:List Nat):List V:=xs.map fun p:Nat=>.int p
def iL(pl sl:Nat)(sc:SD):O:=.inst 887 [(30,.obj pl),(31,.obj sl),(32,.obj sl),(33,.int sc.start),(34,.int sc.end_),(35,.int sc.high),(36,.int sc.low)]
structure SD.OK(F:FD)(sc:SD):Prop where
 pl:sc.places=[0]∨(F.two=true/\(sc.places=[1]∨sc.places=[0,1]))
 bd:(sc.start=0/\sc.end_=0)∨(1<=sc.start/\sc.start<=sc.end_/\sc.end_<=3/\sc.places.length=1)
 lo:sc.low<=2
 hi:sc.high=0∨sc.high=sc.low+1
def aY(R:Nat->Prop)(H:List O)(s:Nat)(sc:SD):Prop:=∃pl sl,(R s/\R pl/\R sl)/\H[s]? = some (iL pl sl sc)/\H[pl]? = some (.list (fY sc.places))/\H[sl]? = some (.list (fY sc.places))
structure ze(sc:SD)(it:Nat×List Int):Prop where
 p:it.1<sc.places.length
 len:it.2.length=4
 bd:∀x∈it.2,-7<=x/\x<=7
end
section
mutual #where
variable {S:be} {n:Nat} {H H' H1 H2 E E':List O} {i:Nat} {l l1:aW} {v y:V} {c:C} {t:T} {R:Nat->Prop} {sc:SD} {s:Nat} {F:FD}
theorem aY.keep{G:Nat->O->Prop}(a:aY R H s sc)(k:Kp G H H')(g:∀i o,R i->fD o=true->G i o):aY R H' s sc:=by
 refine dQ a fun pl sl q_a h1 h2 h3=>dN q_a fun r1 r2 r3=>lK pl sl (bT r1 r2 r3) (k.get h1 (g _ _ r1 rfl)) (k.get h2 (g _ _ r2 rfl)) (k.get h3 (g _ _ r3 rfl))
theorem aY.region{R':Nat->Prop}(a:aY R H s sc)(h:∀i,i<H.length->R i->R' i):aY R' H s sc:=by
 refine dQ a fun pl sl q_a h1 h2 h3=>dN q_a fun r1 r2 r3=>lK pl sl (bT (h _ (aA h1) r1) (h _ (aA h2) r2) (h _ (aA h3) r3)) h1 h2 h3
theorem dV{xs:List Nat}{p q:Nat}(h:xs[p]? = some q):(fY xs)[p]? = some (.int q):=by refine er O5 (er h ?_);rfl
theorem cO{xs:List Nat}:(fY xs).length=xs.length:=by simp [fY]
theorem cY{xs:List Int}{p:Nat}{q:Int}(h:xs[p]? = some q):(zs xs)[p]? = some (.int q):=by refine er O5 (er h ?_);rfl
theorem ci{xs:List Int}:(zs xs).length=xs.length:=by simp [zs]
theorem k8{xs:List Int}{p:Nat}{q:Int}:(zs xs).set p (.int q)=zs (xs.set p q):=by unfold zs;refine er S4 ?_;rfl
theorem ww{xs ys:List Int}:zs xs++zs ys=zs (xs++ys):=by unfold zs;refine er O2 ?_;rfl
theorem zy{xs:List Int}{k:Nat}:(zs xs).drop k=zs (xs.drop k):=by unfold zs;refine er List.map_drop ?_;rfl
theorem SD.OK.slot(o:sc.OK F){p:Nat}(h:p<sc.places.length):∃q,sc.places[p]? = some q/\(q=0∨q=1):=by
 rcases o.pl with e | ⟨_,e | e⟩<;>rw [e] at h⊢<;>simp at h
 refine ma fun _ kK=>?_
 ·subst h;exact kK _ rfl (.inl rfl)
 ·exact er h (bN _ rfl (.inr rfl))
 ·rcases p with _ | _ | p
  ·exact bN _ rfl (.inl rfl)
  ·exact bN _ rfl (.inr rfl)
  ·exact LR h
theorem SD.OK.plen(o:sc.OK F):1<=sc.places.length/\sc.places.length<=2:=by
 rcases o.pl with e | ⟨_,e | e⟩<;>refine er e ?_<;>simp
def oa(v:Int)(low:Nat):Int:=v.fdiv (2^low)
def ev(d:Int):List Bool:=nb (cat d) (bo d (cat d)).toNat
theorem vals:∀k:Fin 31,let d:Int:=(k) - 15;cat d<=4/\0<=bo d (cat d)/\(bo d (cat d)).toNat<2^cat d/\vo (bo d (cat d)) (cat d)=d/\(cat d=0->d=0):=by decide +kernel
theorem k9{d:Int}(h:-15<=d/\d<=15):cat d<=4/\0<=bo d (cat d)/\(bo d (cat d)).toNat<2^cat d/\vo (bo d (cat d)) (cat d)=d/\(cat d=0->d=0):=by
 refine Hu fun _ kK=>?_;haveI:=vals ⟨(d+15).toNat,Nk h.2⟩;haveI e:=Ni h.1;rw [e] at this;exact tT this kK
theorem pv{v:Int}{low:Nat}(h:-7<=v/\v<=7)(hl:low<=2):-7<=oa v low/\oa v low<=7:=HD (P:=fun v=>∀low≤2,-7<=oa v low/\oa v low<=7) (by decide +kernel) h low hl
def io(low:Nat):List Int->List (Nat×List Int)->List Bool
 | _,[]=>[]
 | bf,(p,r)::rest=>nb 5 (cat (oa (r.headD 0) low - bf.getD p 0))++ev (oa (r.headD 0) low - bf.getD p 0)++io low (bf.set p (oa (r.headD 0) low)) rest
theorem jY{low:Nat}{bf:List Int}{p:Nat}{r:List Int}{rest:List (Nat×List Int)}:io low bf ((p,r)::rest)=nb 5 (cat (oa (r.headD 0) low - bf.getD p 0))++ev (oa (r.headD 0) low - bf.getD p 0)++io low (bf.set p (oa (r.headD 0) low)) rest:=rfl
def DS(s k bf:Nat):O:=.inst 579 [(21,.obj s),(22,.obj k),(27,.obj bf)]
structure cW(R:Nat->Prop)(H:List O)(F:FD)(s t:Nat)(sc:SD):Prop where
 sc:aY R H s sc
 tt:cC R H t
theorem cW.keep{G:Nat->O->Prop}{t:Nat}(a:cW R H F s t sc)(k:Kp G H H')(g:∀i o,R i->fD o=true->G i o):cW R H' F s t sc:=⟨a.sc.keep k g,a.tt.keep k g⟩
structure lJ(sc:SD)(bf:List Int):Prop where
 len:bf.length=sc.places.length
 bd:∀x∈bf,-7<=x/\x<=7
theorem lJ.get{bf:List Int}(b:lJ sc bf){p:Nat}(h:p<sc.places.length):∃u,bf[p]? = some u/\bf.getD p 0=u/\-7<=u/\u<=7:=by
 refine yN fun _ kK=>?_;haveI e:bf[p]? = some (bf[p]'(by exact er b.len h)):=OD _;refine ba (b.bd _ (Qq _)) (kK _ e ?_);refine er OG (er e ?_);rfl
theorem lJ.set{bf:List Int}(b:lJ sc bf){p:Nat}{u:Int}(h:-7<=u/\u<=7):lJ sc (bf.set p u):=⟨by exact er OW b.len,fun x hx=>by
 rcases QW hx with q | rfl
 ·exact b.bd x q
 ·exact h⟩
def DW(T:List Bool)(sc:SD)(d s k t w b bf:Nat)(rem:List (Nat×List Int))(H:List O):Prop:=
 H[d]? = some (DS s k bf)/\∃bs st,lJ sc bs/\H[bf]? = some (.list (zs bs))/\a9 H k t w b st/\st++io sc.low bs rem=T
abbrev GX(bf:Nat):Nat->O->Prop:=fun i o=>fD o=true/\i≠bf
theorem GB.X{bf:Nat}:∀(i:Nat) (o:O),GX bf i o->Internal.GB i o:=fun i o h=>GB.GS i o h.1
theorem ke{r:List Int}(h:r.length=4)(b:∀x∈r,-7<=x/\x<=7):∃x xs,r=x::xs/\r.headD 0=x/\-7<=x/\x<=7:=by
 refine BU fun _ kK=>?_;cases r with
 | nil=>exact Nat.noConfusion h
 | cons x xs=>exact ba (b x (.head _)) (kK x xs rfl rfl)
theorem zr{m:Nat}{f:V}{xs:List V}{p q:Int}(h:aE S m f xs H (.int p) H1)(e:p=q):aE S m f xs H (.int q) H1:=e▸h
theorem AE(ok:OK S){T:List Bool}{d k t w b bf r p:Nat}{row:List Int}{rem:List (Nat×List Int)}(o:sc.OK F)(hT:T.length<=700000)(wa:cW R H F s t sc)(hR:∀i,R i->i≠bf)(x:DW T sc d s k t w b bf ((p,row)::rem) H)(hi:ze sc (p,row))(hr:H[r]? = some (.list (zs row))){kP:Prop}(kK:∀H',aE S 3 (.top 569) [.obj d,.int p,.obj r] H .none H'->DW T sc d s k t w b bf rem H'->Kp (GX bf) H H'->kP):kP:=by
 refine ba x fun h1 q_a=>dQ q_a fun bs st hb h2 h3 h4=>dQ wa.sc fun pl sl _ c1 c2 c3=>fQ (ke hi.len hi.bd) fun v vs q_a hv v1=>?_;obtain rfl:=q_a;refine eZ (hb.get hi.p) fun u u1 u2 u3=>aZ (o.slot hi.p) fun q q1 q2=>?_;rw [jY] at h4;replace h4:=u2▸(hv▸h4);have sb:=pv v1 o.lo;generalize hy:oa v sc.low=y at h4 sb;have xb:-15<=y - u/\y - u<=15:=⟨Pt (by decide:(-15:Int)<=-7-7) (Rs sb.1 u3.2),Pt (Rs sb.2 u3.1) (by decide)⟩;generalize hx:y - u=x at h4 xb;refine tT (k9 xb) fun e1 e2 e3 e4 e5=>?_;haveI lq:=congrArg List.length h4;simp only [OA,ev,cI] at lq;haveI plen:=o.plen;have n1:=hk h2 h1;have kx:=h3.1;have n2:=hk h2 kx;refine ws (id h3.2) fun _ _ _ y1 y2 _=>?_;haveI n3:=hk h2 y1;haveI n4:=hk h2 y2;have bl:=aA h2;have Ha:Kp (fun i _=>i≠bf) H (H.set bf (.list (zs (bs.set p (y))))):=Kp.setO .refl h2 (fun z=>z rfl);haveI s1:a9 (H.set bf (.list (zs (bs.set p (y))))++[.tuple [.int 0,.int q]]) k t w b st:=⟨ah (cj n2 kx),(h3.2.keep Ha (fun _=>Ne.symm n3) (fun _=>Ne.symm n4)).keep (G:=fun _ _=>True) (Kp.app .refl) (fun _=>trivial) (fun _=>trivial)⟩;haveI t1:cC R (H.set bf (.list (zs (bs.set p (y))))++[.tuple [.int 0,.int q]]) t:=(wa.tt.keep Ha fun i _ ri _=>hR i ri).keep (Kp.app .refl) fun _ _ _ _=>trivial;refine gf ok s1 t1 aj ⟨.inl rfl,q2.imp (congrArg Nat.cast) (congrArg Nat.cast)⟩ (z:=0) (by decide) (Pd e1 (by decide)) (by lia) fun H1 a1 a2 a3=>?_;have d0:=a3.get (ah (cj n1 h1)) rfl;haveI f0:=a3.get (ah (aM bl)) rfl;refine dK ok a2 e3 (by lia) (by refine er OA ?_;rw [cI];lia) fun H2 b1 b2 b3=>?_;haveI hz6:6*0+cat (x)=cat (x):=PK _ _;have fin:∀H3,Kp GB H1 H3->a9 H3 k t w b (st++nb 5 (cat (x))++ev (x))->DW T sc d s k t w b bf rem H3/\Kp (GX bf) H H3:=fun H3 k3 s3=>by
  refine⟨⟨k3.get d0 rfl,_,_,hb.set sb,k3.get f0 rfl,s3,?_⟩,(Kp.app (Ha.mono fun i o g=>g.2)).trans ((a3.trans k3).mono GB.X)⟩;refine el h4 ?_;simp only [OB]
 have body:∀ {Q:V->List O->Prop},bH S 2 (.cons (.if_ (.cmp (.loc 5) [.Gt] (.cons (.int 0) .nil)) (.cons (.expr (.meth (.att (.loc 0) 22) 54 (.cons (.fcall 9 (.cons (.loc 4) (.cons (.loc 5) .nil))) (.cons (.loc 5) .nil)))) .nil) .nil) .nil)
   [some (.obj d),some (.int p),some (.obj r),some (.int (y)),some (.int (x)),some (.int (cat (x)))] H1 (dA Q)->
   bH S 2 dv.body ([V.obj d,.int p,.obj r].map some++OM dv.ls.length none) H (dA Q):=fun hq=>by
  refine aD (au (q:=y) (EV.shr (cA (ad rfl) EV.int hr ⟨by decide,by decide⟩ rfl) (af (af (ad rfl) h1 rfl rfl rfl) c1 rfl rfl rfl) (OS _)) (by rw [ON];exact hy)) ?_;refine aD (au (EV.sub (ad rfl) (aS (af (ad rfl) h1 rfl rfl rfl) (ad rfl) h2 (by haveI:=hi.p;lia) (cY u1))) hx) ?_;haveI l1:=bc u1;refine dm (ad rfl) (af (ad rfl) h1 rfl rfl rfl) (ad rfl) h2 (bT (OS _) (by exact er ci (Pn.mpr ‹_›)) (by refine er ci (er hb.len ?_);lia)) ?_;rewrite [ON];refine er k8 ?_;refine aD (EV.fcall rfl (.cons (ad rfl) .nil) (rM ok) (by decide)) ?_;refine aP (EV.meth (af (ad rfl) (cj n1 h1) rfl rfl rfl) (cj n2 kx) rfl rfl (.cons (bJ (.cons EV.int (.cons (aS (af (af (ad rfl) (cj n1 h1) rfl rfl rfl) (cj (Ne.symm ?_) c1) rfl rfl rfl) (ad rfl) (cj (Ne.symm ?_) c3) (by haveI:=hi.p;lia) (dV q1)) .nil))) (.cons (au (ad rfl) (congrArg Nat.cast (Py _).symm)) .nil)) a1 (by decide)) ?_
  ·refine fQ wa.sc fun _ _ q_a w1 _=>ba q_a fun r1 _=>?_;exact hR _ r1
  ·refine dQ wa.sc fun _ _ q_a w1 _ _=>dN q_a fun _ _ r3=>?_;replace w1:=c1▸w1;cases w1;exact hR _ r3
  ·exact hq
 by_cases hz:0<cat (x)
 ·refine ba (fin H2 b3 (by rw [hz6] at b2;exact b2)) fun D K=>kK H2 (ok.fnD 38 rfl rfl fun Q q=>body ?_) D K;refine bE (ag (ad rfl) EV.int bt) (decide_eq_true (Pn.mpr ‹_›)) ?_;exact aP (EV.meth (af (ad rfl) d0 rfl rfl rfl) a2.1 rfl rfl (.cons (EV.fcall rfl (.cons (ad rfl) (.cons (ad rfl) .nil)) (zr (uz ok (Oz e1 (by decide))) (by refine er (Pj e2) ?_;rfl)) (by decide)) (.cons (ad rfl) .nil)) b1 (by decide)) (W.nil (W.nil q))
 ·haveI c0:=Rd ‹_›;haveI ev0:ev (x)=[]:=by unfold ev;refine er c0 ?_;rfl
  refine ba (fin H1 .refl (by rewrite [ev0,OO];exact el hz6 a2)) fun D K=>kK H1 (ok.fnD 38 rfl rfl fun Q q=>body ?_) D K;exact ay (ag (ad rfl) EV.int bt) (decide_eq_false (fun h=>hz (Pn.mp h))) (W.nil q)
end
end
section
mutual #where
variable {S:be} {n:Nat} {H H' H1 H2 E E':List O} {i:Nat} {l l1:aW} {v y:V} {c:C} {t:T} {R:Nat->Prop} {sc:SD} {s:Nat} {F:FD}
theorem gm{α:Type}{xs:List α}{p:Nat}{u:α}(h:xs[p]? = some u):xs.set p u=xs:=by
 apply Su;intro i;refine er Ss ?_;split
 ·rename_i e;subst e;split
  ·exact h.symm
  ·rename_i q;exact absurd (bc h) q
 ·rfl
theorem bP.app{r:Nat}{st:List Bool}(x:bP H r st):bP (H++E) r st:=x.keep (G:=fun _ _=>True) (Kp.app .refl) fun _=>trivial
theorem cC.app{t:Nat}(x:cC R H t):cC R (H++E) t:=x.keep (Kp.app .refl) fun _ _ _ _=>trivial
theorem GR.X{bf:Nat}:∀(i:Nat) (o:O),GX bf i o->Internal.GR i o:=fun i o h=>GR.GS i o h.1
def IU(s t bf rd:Nat):O:=.inst 663 [(21,.obj s),(28,.obj t),(27,.obj bf),(26,.obj rd)]
def DR(sc:SD)(d s t bf rd:Nat)(rem:List (Nat×List Int))(H:List O):Prop:=
 H[d]? = some (IU s t bf rd)/\∃bs tail,lJ sc bs/\H[bf]? = some (.list (zs bs))/\bP H rd (io sc.low bs rem++tail)
def BN(H:List O)(x:Int)(kr:List Int):List O:=H++[O.list [.int x]]++[O.list (zs (kr.drop 1))]++[O.list (zs (kr.drop 1))]
theorem yG{Q:V->List O->Prop}{P:Ps}{a:C}{r:Nat}{kr:List Int}{x:Int}(hx:EV S n a l H (.int x) H)(hl:dE l 2=some (.obj r))(hr:H[r]? = some (.list (zs kr)))(hk:kr.length=4)
  (h:Q (.obj (BN H x kr).length) (BN H x kr++[O.list (zs (x::kr.drop 1))])) :
  bH S n (.cons (.ret (.bin .Add (.list (.cons a .nil)) (.bcall .list (.cons (.slo (.loc 2) (.int 1)) .nil)))) P) l H (dA Q):=by
 haveI l3:(zs (kr.drop 1)).length=3:=by refine er ci ?_;refine er Q4 (er hk ?_);rfl
 haveI e1:EV S n (.slo (.loc 2) (.int 1)) l (H++[.list [.int x]]) (.obj (H++[O.list [.int x]]).length) (H++[.list [.int x]]++[.list (zs (kr.drop 1))]):=by
  haveI:=tM (S:=S) (n:=n) (ad hl) EV.int (ah (E:=[.list [.int x]]) hr) (by exact er ci (zz hk)) (p:=1) (by decide);rw [(rfl:(1:Int).toNat=1),zy] at this;exact this
 exact W.ret (EV.cat (EV.list (.cons hx .nil)) (fK e1 aj (by lia)) (ah (ah aj)) aj (by refine er l3 ?_;refine(?_:1+3<=100000);decide)) h
theorem uu{x:Int}{kr:List Int}:H.length<=(BN H x kr).length:=by simp [BN]
theorem yH{x:Int}{kr:List Int}{G:Nat->O->Prop}(k:Kp G H' H):Kp G H' (BN H x kr++E):=.app (.app (.app (.app k)))
theorem DR.app{d t bf rd:Nat}{rem:List (Nat×List Int)}(x:DR sc d s t bf rd rem H):DR sc d s t bf rd rem (H++E):=by
 refine ba x fun h1 q_a=>fQ q_a fun bs tail h2 h3 h4=>⟨ah h1,bs,tail,h2,ah h3,h4.app⟩
theorem DR.app'{d t bf rd:Nat}{rem:List (Nat×List Int)}{x:Int}{kr:List Int}(h:DR sc d s t bf rd rem H):DR sc d s t bf rd rem (BN H x kr++E):=h.app.app.app.app
theorem AF(ok:OK S){d t bf rd r p:Nat}{row kr:List Int}{rem:List (Nat×List Int)}(o:sc.OK F)(wa:cW R H F s t sc)(hR:∀i,R i->i≠bf)(x:DR sc d s t bf rd ((p,row)::rem) H)(hi:ze sc (p,row))(hr:H[r]? = some (.list (zs kr)))(hb:r≠bf)(hk:kr.length=4) :
  ∃H' c,aE S 3 (.top 653) [.obj d,.int p,.obj r] H (.obj c) H'/\H'[c]? = some (.list (zs (oa (row.headD 0) sc.low*2^sc.low::kr.drop 1)))/\H.length<=c/\DR sc d s t bf rd rem H'/\Kp (GX bf) H H':=by
 refine ba x fun h1 q_a=>fQ q_a fun bs tail hbf h2 h3=>dQ wa.sc fun pl sl q_a c1 c2 c3=>dN q_a fun rr1 rr2 rr3=>fQ (ke hi.len hi.bd) fun v0 vs q_a hv v1=>er q_a ?_;refine eZ (hbf.get hi.p) fun u u1 u2 u3=>aZ (o.slot hi.p) fun q q1 q2=>?_;rw [jY] at h3;replace h3:=u2▸(hv▸h3);refine er hv ?_;refine uw fun _ kK=>?_;have sb:=pv v1 o.lo;generalize hV:oa v0 sc.low=v at *;refine tT (k9 (d:=v - u) (by omega)) fun e1 e2 e3 e4 e5=>?_;haveI plen:=o.plen;haveI olo:=o.lo;have pp:=hi.p;have hz6:6*0+cat (v - u)=cat (v - u):=PK _ _;haveI h3':bP (H++[.tuple [.int 0,.int q]]) rd (nb 5 (6*0+cat (v - u))++(ev (v - u)++(io sc.low (bs.set p v) rem++tail))):=by
  refine er hz6 ?_;simp only [OB] at h3;exact h3.app
 refine zK (wa.tt.app) fun tb k0 k1 k2 k3 _ t1 t2 t3=>eZ (fC ok t3 h3' (by decide) (by lia)) fun H1 a1 a2 a3=>DN t3 fun _ _ _ _ _ _ _ t0 _=>mO (cN a2) fun _ _ rd0=>?_;have d0:=a3.get (ah h1) rfl;have f0:=a3.get (ah h2) rfl;refine jn ok a2 e3 (by lia) fun H2 b1 b2 b3=>?_;have K1:Kp (GX bf) H H1:=(Kp.app .refl).trans (a3.mono GR.X);have fin:∀H3,Kp GR H1 H3->bP H3 rd (io sc.low (bs.set p v) rem++tail)->∀H4,H4=H3.set bf (.list (zs (bs.set p v)))->DR sc d s t bf rd rem H4/\Kp (GX bf) H H4/\H4[r]? = some (.list (zs kr))/\H4[d]? = some (IU s t bf rd)/\H4[bf]? = some (.list (zs (bs.set p v)))/\H4[s]? = some (iL pl sl sc):=fun H3 k3 r3 H4 e=>by
  have f3:=k3.get f0 rfl;subst e;have kk:Kp (fun i _=>i≠bf) H3 (H3.set bf (.list (zs (bs.set p v)))):=Kp.setO .refl f3 (fun z=>z rfl);haveI n1:d≠bf:=by first | exact Internal.hk h1 h2 | exact Internal.hk h2 h1
  have n2:rd≠bf:=by
   rintro rfl;refine mO (cN r3) fun _ _ z=>?_;rw [z] at f3;exact nomatch f3
  have dd:=kk.get (k3.get d0 rfl) n1;haveI ff:(H3.set bf (.list (zs (bs.set p v))))[bf]? = some (.list (zs (bs.set p v))):=aM (aA f3);have K:=K1.trans ((k3.mono GR.X).trans (kk.mono fun i o g=>g.2));exact⟨⟨dd,_,tail,hbf.set sb,ff,r3.keep kk fun _=>n2⟩,K,K.get hr ⟨rfl,hb⟩,dd,ff,K.get c1 ⟨rfl,hR _ rr1⟩⟩
 have main:∀H3,Kp GR H1 H3->bP H3 rd (io sc.low (bs.set p v) rem++tail)->∀H4,H4=H3.set bf (.list (zs (bs.set p v)))->(∀Q:Fl->aW->List O->Prop,(bH S 2 (dx.body.from 3) [some (.obj d),some (.int p),some (.obj r),some (.int (cat (v - u)))] H4 Q)->bH S 2 (dx.body.from 2) [some (.obj d),some (.int p),some (.obj r),some (.int (cat (v - u)))] H1 Q)->
   ∃H' c,aE S 3 (.top 653) [.obj d,.int p,.obj r] H (.obj c) H'/\H'[c]? = some (.list (zs (v*2^sc.low::kr.drop 1)))/\H.length<=c/\DR sc d s t bf rd rem H'/\Kp (GX bf) H H':=fun H3 k3 r3 H4 e hw=>by
  refine IK (fin H3 k3 r3 H4 e) fun D K g1 g2 g3 g4=>?_;have bl:=hbf.len;refine⟨_,_,ok.fnD 44 rfl rfl fun Q hq=>?_,aj (H:=BN H4 (v*2^sc.low) kr),Oz K.len uu,D.app',yH K⟩
  ·refine aD (EV.meth (mM (af (ad rfl) h1 rfl rfl rfl) (bJ (.cons EV.int (.cons (aS (af (af (ad rfl) h1 rfl rfl rfl) c1 rfl rfl rfl) (ad rfl) c3 (by lia) (dV q1)) .nil))) t1 aj t2 (pm ⟨.inl rfl,by lia⟩ ..)) t0 rfl rfl (.cons (af (ad rfl) (ah h1) rfl rfl rfl) .nil) a1 (by decide)) ?_;refine ay (ag (ad rfl) (EV.glob rfl) bt) (decide_eq_false (by unfold kZ;lia)) ?_;have es:kZ 0 (cat (v - u))=(cat (v - u)):=by unfold kZ;lia
   refine er es ?_;refine hw _ ?_;have ex:EV S 2 (.bin .Mult (.sub (.att (.loc 0) 27) (.loc 1)) (.bin .Pow (.int 2) (.att (.att (.loc 0) 21) 36))) [some (.obj d),some (.int p),some (.obj r),some (.int (cat (v - u)))] H4 (.int (v*2^sc.low)) H4:=by
    refine EV.mul (aS (af (ad rfl) g2 rfl rfl rfl) (ad rfl) g3 (by lia) (cY ?_)) (au (EV.pow EV.int (af (af (ad rfl) g2 rfl rfl rfl) g4 rfl rfl rfl) ⟨OS _,by lia,av (by decide) (by decide)⟩) (by rw [ON])) ?_
    ·exact Pl (by lia)
    ·have:sc.low=0∨sc.low=1∨sc.low=2:=by lia
     rcases this with z | z | z<;>refine er z ?_<;>exact av (by decide) (by decide)
   exact yG ex rfl g1 hk hq
 have f1:=f0;have bl:=hbf.len;by_cases hz:0<cat (v - u)
 ·refine zL (main H2 b3 b2 _ rfl fun Q hq=>?_) kK;refine bE (ag (ad rfl) EV.int bt) (decide_eq_true (Pn.mpr ‹_›)) ?_;refine dm (au (q:=v) (EV.add (aS (af (ad rfl) d0 rfl rfl rfl) (ad rfl) f1 (by lia) (cY u1)) (EV.fcall rfl (.cons (EV.meth (af (ad rfl) d0 rfl rfl rfl) rd0 rfl rfl (.cons (ad rfl) .nil) b1 (by decide)) (.cons (ad rfl) .nil)) (tQ ok (by lia)) (by decide))) ?_)
   (af (ad rfl) (b3.get d0 rfl) rfl rfl rfl) (ad rfl) (b3.get f1 rfl) ⟨OS _,by refine er ci ?_;lia,by refine er ci ?_;lia⟩ ?_
  ·refine er (Pj e2) (er e4 ?_);lia
  ·rewrite [ON];exact er k8 (W.nil hq)
 ·have c0:=Rd ‹_›;have ev0:ev (v - u)=[]:=by unfold ev;refine er c0 ?_;rfl
  have vu:v=u:=by have:=e5 c0;lia
  refine zL (main H1 .refl ?_ _ rfl fun Q hq=>?_) kK
  ·rw [ev0,Ph] at a2;exact a2
  ·refine ay (ag (ad rfl) EV.int bt) (decide_eq_false (by lia)) ?_;have e:H1.set bf (.list (zs (bs.set p v)))=H1:=by refine er vu ?_;refine er (gm u1) (er (gm f1) ?_);rfl
   replace hq:=e▸hq;exact hq
end
end
section
mutual #where
variable {S:be} {n:Nat} {H H' H1 H2 E E':List O} {i:Nat} {l l1:aW} {v y:V} {c:C} {t:T} {R:Nat->Prop} {sc:SD} {s:Nat} {F:FD}
def b1(v:Int)(low:Nat):Bool:=decide (oa v low % 2=1)
def jE(low:Nat)(items:List (Nat×List Int)):List Bool:=items.map fun p=>b1 (p.2.headD 0) low
def IM(s k:Nat):O:=.inst 621 [(21,.obj s),(22,.obj k)]
def RW(T:List Bool)(sc:SD)(d s k t w b:Nat)(rem:List (Nat×List Int))(H:List O):Prop:=
 H[d]? = some (IM s k)/\∃st,a9 H k t w b st/\st++jE sc.low rem=T
theorem xR:∀k:Fin 31,PD ((k:Nat) - 15:Int) 1=((decide (((k:Nat) - 15:Int) % 2=1)).toNat:Nat):=by decide +kernel
theorem Ag{d:Int}(h:-15<=d/\d<=15):PD d 1=((decide (d % 2=1)).toNat:Nat):=by
 haveI:=xR ⟨(d+15).toNat,Nk h.2⟩;haveI e:=Ni h.1;replace this:=e▸this;exact this
theorem ML(b:Bool):nb 1 b.toNat=[b]:=by cases b<;>rfl
theorem zZ(ok:OK S){T:List Bool}{d k t w b r p:Nat}{row:List Int}{rem:List (Nat×List Int)}(o:sc.OK F)(hT:T.length<=700000)(wa:aY R H s sc)(x:RW T sc d s k t w b ((p,row)::rem) H)(hi:ze sc (p,row))(hr:H[r]? = some (.list (zs row))){kP:Prop}(kK:∀H',aE S 3 (.top 611) [.obj d,.int p,.obj r] H .none H'->RW T sc d s k t w b rem H'->Kp GB H H'->kP):kP:=by
 refine ba x fun h1 q_a=>aZ q_a fun st h3 h4=>fQ (ke hi.len hi.bd) fun v vs q_a hv v1=>dQ wa fun pl sl _ c1 c2 c3=>?_;haveI sb:=pv v1 o.lo;obtain rfl:=q_a;have e4:st++[b1 v sc.low]++jE sc.low rem=T:=by refine el h4 ?_;simp [jE]
 haveI lq:=congrArg List.length e4;simp only [OA] at lq;refine dK ok (v:=(b1 v sc.low).toNat) (z:=1) h3 (by cases b1 v sc.low<;>decide) (by decide) (by lia) fun H2 a1 a2 a3=>?_;rw [ML] at a2;refine kK H2 (ok.fnD 41 rfl rfl fun Q q=>?_) ⟨a3.get h1 rfl,_,a2,e4⟩ a3;refine aP (EV.meth (af (ad rfl) h1 rfl rfl rfl) h3.1 rfl rfl (.cons (au (EV.band (au (EV.shr (cA (ad rfl) EV.int hr ⟨by decide,by decide⟩ rfl) (af (af (ad rfl) h1 rfl rfl rfl) c1 rfl rfl rfl) (OS _)) (by rw [ON];rfl)) EV.int) (Ag (by lia))) (.cons EV.int .nil)) a1 (by decide)) (W.nil q)
def MF(s rd:Nat):O:=.inst 705 [(21,.obj s),(26,.obj rd)]
def RR(sc:SD)(d s rd:Nat)(rem:List (Nat×List Int))(H:List O):Prop:=H[d]? = some (MF s rd)/\∃tail,bP H rd (jE sc.low rem++tail)
def IQ(low:Nat)(row kr:List Int):List Int:=if b1 (row.headD 0) low then Qj (kr.headD 0) (2^low)::kr.drop 1 else kr
theorem Aa(ok:OK S){d rd r p:Nat}{row kr:List Int}{rem:List (Nat×List Int)}(o:sc.OK F)(wa:aY R H s sc)(x:RR sc d s rd ((p,row)::rem) H)(hr:H[r]? = some (.list (zs kr)))(hk:kr.length=4) :
  ∃H' c,aE S 2 (.top 695) [.obj d,.int p,.obj r] H (.obj c) H'/\H'[c]? = some (.list (zs (IQ sc.low row kr)))/\H.length<=c/\RR sc d s rd rem H'/\Kp GR H H':=by
 refine ba x fun h1 q_a=>dQ wa fun pl sl _ c1 c2 c3=>b7 q_a fun tail h3=>mO (cN h3) fun _ _ e0=>?_;haveI olo:=o.lo;refine eZ (d7 ok (b:=b1 (row.headD 0) sc.low) (st:=jE sc.low rem++tail) h3) fun H1 a1 a2 a3=>?_;have d0:=a3.get h1 rfl;have s0:=a3.get c1 rfl;have r0:=a3.get hr rfl;unfold IQ;by_cases hb:b1 (row.headD 0) sc.low=true
 ·refine er (if_pos hb) ?_;obtain⟨k0,ks,rfl,hk0⟩:∃k0 ks,kr=k0::ks/\kr.headD 0=k0:=by cases kr with
   | nil=>exact Nat.noConfusion hk
   | cons a b=>exact sf a b rfl rfl
  refine uw fun _ kK=>er hk0 ?_;refine kK _ _ (ok.fnD 47 rfl rfl fun Q hq=>?_) (aj (H:=BN H1 (Qj k0 (2^sc.low)) (k0::ks))) (Oz a3.len uu) ⟨ah (ah (ah (ah d0))),tail,a2.app.app.app.app⟩ (yH a3);refine ay (ag (EV.meth (af (ad rfl) h1 rfl rfl rfl) e0 rfl rfl .nil a1 (by decide)) EV.int bO) (decide_eq_false (by refine er hb ?_;decide)) ?_;exact yG (EV.bor (cA (ad rfl) EV.int r0 ⟨by decide,by decide⟩ rfl) (au (EV.pow EV.int (af (af (ad rfl) d0 rfl rfl rfl) s0 rfl rfl rfl) (bT (OS _) (by lia) (av (by decide) (by decide)))) (by rw [ON]))) rfl r0 hk hq
 ·refine er (if_neg hb) ?_;have hb:b1 (row.headD 0) sc.low=false:=by simpa using hb
  refine zJ (H1++[.list (zs kr)]) H1.length (ok.fnD 47 rfl rfl fun Q hq=>?_) aj a3.len ⟨ah d0,tail,a2.app⟩ (.app a3);refine bE (ag (EV.meth (af (ad rfl) h1 rfl rfl rfl) e0 rfl rfl .nil a1 (by decide)) EV.int bO) (decide_eq_true (by refine er hb ?_;decide)) ?_;exact W.ret (fK (ad rfl) r0 (by exact er ci (zz hk))) hq
end
end
mutual #where
def qv(v:Int)(low:Nat):Int:=if 0<v then ((v.natAbs / 2^low:Nat):Int) else -((v.natAbs / 2^low:Nat):Int)
def fl(run:Nat):List Bool:=if 0<run then nb 5 (6*run.log2+0)++nb run.log2 (run - 2^run.log2) else []
def cr(low:Nat):Nat->Nat->List Int->List Bool×Nat×Nat
 | run,z,[]=>([],run,z)
 | run,z,v::vs=>if v.natAbs / 2^low=0 then cr low run (z+1) vs else (fl run++(nb 5 (6*z+cat (qv v low))++(ev (qv v low)++(cr low 0 0 vs).1)),(cr low 0 0 vs).2)
theorem cU{low run z:Nat}{v:Int}{vs:List Int}:cr low run z (v::vs)=if v.natAbs / 2^low=0 then cr low run (z+1) vs else (fl run++(nb 5 (6*z+cat (qv v low))++(ev (qv v low)++(cr low 0 0 vs).1)),(cr low 0 0 vs).2):=rfl
def rO(p:Nat×Nat):Nat:=if 0<p.2 then p.1+1 else p.1
def band(sc:SD)(row:List Int):List Int:=(row.drop sc.start).take (sc.end_+1 - sc.start)
def iZ(sc:SD):Nat->List (Nat×List Int)->List Bool
 | run,[]=>fl run
 | run,it::rest=>(cr sc.low run 0 (band sc it.2)).1++iZ sc (rO (cr sc.low run 0 (band sc it.2)).2) rest
abbrev mi(low:Nat)(vs:List Int):Prop:=∀v∈vs,v.natAbs / 2^low=0
def lm(sc:SD):List (Nat×List Int)->Nat
 | []=>0
 | it::rest=>if mi sc.low (band sc it.2) then lm sc rest+1 else 0
theorem fA{sc:SD}{run:Nat}{it:Nat×List Int}{rest:List (Nat×List Int)}:iZ sc run (it::rest)=(cr sc.low run 0 (band sc it.2)).1++iZ sc (rO (cr sc.low run 0 (band sc it.2)).2) rest:=rfl
theorem jl{sc:SD}{it:Nat×List Int}{rest:List (Nat×List Int)}:lm sc (it::rest)=if mi sc.low (band sc it.2) then lm sc rest+1 else 0:=rfl
theorem yA{low:Nat}:∀ {run z:Nat} {vs:List Int},mi low vs->cr low run z vs=([],run,z+vs.length):=by
 intro run z vs;induction vs generalizing run z with
 | nil=>
  intro _;exact rfl
 | cons v vs ih_=>
  intro h;refine er cU (er (if_pos (h v (.head _))) (er (ih_ fun u hu=>h u (.tail _ hu)) ?_));congr 2;exact z7
theorem vQ{low:Nat}:∀ {run z:Nat} {vs:List Int},¬mi low vs->cr low run z vs=(fl run++(cr low 0 z vs).1,(cr low 0 z vs).2):=by
 intro run z vs;induction vs generalizing run z with
 | nil=>
  intro h;exact absurd (fun _ h=>ju h) h
 | cons v vs ih_=>
  intro h;refine er cU (er cU ?_);by_cases e:v.natAbs / 2^low=0
  ·refine er (if_pos e) (er (if_pos e) ?_);exact ih_ fun q=>h fun u hu=>by
    rcases OY.mp hu with rfl | hu
    ·exact e
    ·exact q u hu
  ·refine er (if_neg e) (er (if_neg e) ?_);simp [fl]
theorem A4:∀e≤3,∀s≤e,min (e+1 - s) (4 - s)=e+1 - s/\1<=e+1 - s/\(1<=s->e+1 - s<=3):=by decide
theorem gF{sc:SD}{F:FD}(o:sc.OK F){row:List Int}(h:row.length=4):(band sc row).length=sc.end_+1 - sc.start/\1<=sc.end_+1 - sc.start/\sc.end_+1 - sc.start<=3:=by
 refine er List.length_take ?_;refine er Q4 (er h ?_);refine o.bd.elim (fun q=>er q.1 (er q.2 (by decide))) fun q=>dN (A4 _ q.2.2.1 _ q.2.1) fun a b c=>bT a b (c q.1)
theorem C5{sc:SD}{F:FD}(o:sc.OK F){run:Nat}{it:Nat×List Int}{rest:List (Nat×List Int)}(h:it.2.length=4)(z:mi sc.low (band sc it.2)):iZ sc run (it::rest)=iZ sc (run+1) rest:=by
 haveI:=gF o h;refine er fA (er (yA z) ?_);rw [Ph,rO];refine er (if_pos (Kn this.1 this.2.1)) ?_;rfl
theorem AD{sc:SD}{run:Nat}{it:Nat×List Int}{rest:List (Nat×List Int)}(z:¬mi sc.low (band sc it.2)):iZ sc run (it::rest)=fl run++iZ sc 0 (it::rest):=by
 refine er fA ?_;refine er (vQ z) (er fA ?_);simp [OB]
theorem Ao{sc:SD}:∀rest,lm sc rest<=rest.length:=by
 intro m_;induction m_ with
 | nil=>
  exact OF _
 | cons it rest ih_=>
  refine er jl ?_;haveI:=ih_;split<;>simp<;>exact Et this
theorem CL{sc:SD}:∀(rest:List (Nat×List Int)),∀it∈rest.take (lm sc rest),mi sc.low (band sc it.2):=by
 intro m_;induction m_ with
 | nil=>
  intro it h;simp [lm] at h
 | cons a rest ih_=>
  intro it h;rw [jl] at h;by_cases z:mi sc.low (band sc a.2)
  ·replace h:=Qb▸((if_pos z)▸h);rcases OY.mp h with rfl | h
   ·exact z
   ·exact ih_ it h
  ·rw [if_neg z] at h;exact nomatch h
theorem vV{sc:SD}{F:FD}(o:sc.OK F):∀ {rest:List (Nat×List Int)} {run:Nat},(∀it∈rest,it.2.length=4)->iZ sc run rest=fl (run+lm sc rest)++iZ sc 0 (rest.drop (lm sc rest)):=by
 intro rest run;induction rest generalizing run with
 | nil=>
  intro _;refine(?_:fl run=fl (run+0)++fl 0);simp [fl]
 | cons it rest ih_=>
  intro h;by_cases z:mi sc.low (band sc it.2)
  ·refine er (C5 o (h it (.head _)) z) (er (ih_ fun a ha=>h a (.tail _ ha)) ?_);refine er jl (er (if_pos z) ?_);refine er QJ (er (z7:run+1+lm sc rest=run+(lm sc rest+1)) ?_);rfl
  ·refine er jl (er (if_neg z) ?_);rw [QL];exact er Qp (AD z)
theorem xG{v:Int}{low:Nat}(h:-7<=v/\v<=7):-7<=qv v low/\qv v low<=7:=by
 haveI h7:=HD (P:=fun v=>v.natAbs<=7) (by decide) h;refine sn (u7 _ (Oz (Nat.div_le_self _ (2^low)) h7)) fun a b c d=>?_;unfold qv;by_cases hz:0<v
 ·exact er (if_pos hz) ⟨a,b⟩
 ·exact er (if_neg hz) ⟨c,d⟩
theorem tx{low:Nat}:∀ {run z:Nat} {vs:List Int},(cr low run z vs).2.1<=run:=by
 intro run z vs;induction vs generalizing run z with
 | nil=>
  exact OF _
 | cons v vs ih_=>
  refine er cU ?_;split
  ·exact ih_
  ·exact Oz ih_ (PF _)
def dq(low:Nat):List Int->Nat->List Int->List Int
 | found,_,[]=>found
 | found,k,v::vs=>dq low (if v.natAbs / 2^low=0 then found else found.set k (qv v low*2^low)) (k+1) vs
theorem cE{low:Nat}{found:List Int}{k:Nat}{v:Int}{vs:List Int}:dq low found k (v::vs)=dq low (if v.natAbs / 2^low=0 then found else found.set k (qv v low*2^low)) (k+1) vs:=rfl
theorem Cj{low:Nat}:∀ {found:List Int} {k:Nat} {vs:List Int},mi low vs->dq low found k vs=found:=by
 intro found k vs;induction vs generalizing found k with
 | nil=>
  intro _;exact rfl
 | cons v vs ih_=>
  intro h;exact er cE (er (ih_ fun u hu=>h u (.tail _ hu)) (if_pos (h v (.head _))))
theorem j7{low:Nat}:∀ {found:List Int} {k:Nat} {vs:List Int},(dq low found k vs).length=found.length:=by
 intro found k vs;induction vs generalizing found k with
 | nil=>
  exact rfl
 | cons v vs ih_=>
  refine er ih_ ?_;split
  ·rfl
  ·exact OW
def nA(sc:SD)(row kr:List Int):List Int:=dq sc.low kr sc.start (band sc row)
theorem bp{a:Int}{n:Nat}:cQ a (n+1)=.int a::cQ (a+1) n:=by
 unfold cQ;refine er Qh ?_;refine er O1 (er PX ?_);congr 1
 ·simp
 ·apply Pz;intro i _;simp only [Function.comp];congr 1;exact JA
theorem fH{xs:List Int}{k m:Nat}(h:k+(m+1)<=xs.length){kP:Prop}(kK:∀v,xs[k]? = some v->(xs.drop k).take (m+1)=v::(xs.drop (k+1)).take m->kP):kP:=by
 haveI e:xs[k]? = some (xs[k]'(Jt h)):=OD _;refine kK _ e ?_;refine er (QX (Jt h)) (er Qb ?_);rfl
theorem nu(run:Nat)(h:run<16):(fl run).length<=8:=by
 unfold fl;by_cases h0:0<run
 ·haveI l4:run.log2<4:=(QG (uX h0)).mpr h;refine er (if_pos h0) (er OA ?_);rw [cI,cI];lia
 ·refine er (if_neg h0) ?_;simp
end
section
mutual #where
variable {S:be} {n:Nat} {H H' H1 H2 E E':List O} {i:Nat} {l l1:aW} {v y:V} {c:C} {t:T} {R:Nat->Prop} {sc:SD} {s:Nat} {F:FD}
def A7(s k kk run:Nat):O:=.inst 495 [(21,.obj s),(22,.obj k),(23,.obj kk),(24,.int run)]
def zx(d s k t w b kk run:Nat)(st:List Bool)(H:List O):Prop:=H[d]? = some (A7 s k kk run)/\(∃q:Nat,(q=0∨q=1)/\H[kk]? = some (.tuple [.int 1,.int q]))/\a9 H k t w b st
theorem pI{q:Nat}(h:q=0∨q=1):yh 1 q:=⟨.inr rfl,FJ h⟩
theorem a9.keep{G:Nat->O->Prop}{k t w b:Nat}{st:List Bool}(x:a9 H k t w b st)(kp:Kp G H H')(g0:∀fs,G k (.inst 1017 fs))(g1:∀fs,G w (.inst 362 fs))(g2:∀bs,G b (.barr bs)):a9 H' k t w b st:=⟨kp.get x.1 (g0 _),x.2.keep kp g1 g2⟩
theorem a9.app{k t w b:Nat}{st:List Bool}(x:a9 H k t w b st):a9 (H++E) k t w b st:=x.keep (G:=fun _ _=>True) (Kp.app .refl) (fun _=>trivial) (fun _=>trivial) fun _=>trivial
theorem a9.set{k t w b d C:Nat}{fs:List (Nat×V)}{o:O}{st:List Bool}(x:a9 H k t w b st)(h:H[d]? = some (.inst C fs))(hC:C≠1017/\C≠362):a9 (H.set d o) k t w b st:=by
 refine x.keep (G:=fun i _=>i≠d) (Kp.setO .refl h (fun z=>z rfl)) (fun _=>?_) (fun _=>?_) (fun _=>?_)
 ·rintro rfl;replace h:=x.1▸h;cases h;exact hC.1 rfl
 ·rintro rfl;refine fP x.2 fun _ _ _ e _=>?_;replace h:=e▸h;cases h;exact hC.2 rfl
 ·rintro rfl;refine ws x.2 fun _ _ _ _ e _=>?_;rw [e] at h;exact nomatch h
theorem uD(ok:OK S){d k t w b kk run:Nat}{st:List Bool}(tt:cC R H t)(x:zx d s k t w b kk run st H)(hr:run<16)(hT:st.length<=600000){kP:Prop}(kK:∀H',aE S 3 (.top 471) [.obj d] H .none H'->zx d s k t w b kk 0 (st++fl run) H'->Kp GF H H'->kP):kP:=by
 refine dN x fun h1 q_a h3=>aZ q_a fun q hq h2=>?_;by_cases h0:0<run
 ·haveI l4:run.log2<4:=(QG (uX h0)).mpr hr;haveI p2:=Rb (uX h0);haveI p3:run<2^(run.log2+1):=Ra;rw [Rh] at p3;haveI rs:=qG (H:=H) ok h0 hr;generalize hg:run.log2=g at *;haveI K1:cg H (H++[.tuple [.int (kZ g 0),.int g]]):=.app .refl;refine gf ok (h3.app (E:=[.tuple [.int (kZ g 0),.int g]])) tt.app (ah h2) (pI hq) (s:=0) l4 (by decide) (Ln hT) fun H1 a1 a2 a3=>?_;have d0:=a3.get (ah h1) rfl;refine dK ok a2 (Ik p3) (Iz l4) (by refine er OA ?_;rw [cI];lia) fun H2 c1 c2 c3=>?_;haveI e2:fl run=nb 5 (6*g+0)++nb g (run - 2^g):=by unfold fl;refine er (if_pos h0) (er hg ?_);rfl
  have fin:∀H3,Kp GB H1 H3->a9 H3 k t w b (st++fl run)->zx d s k t w b kk 0 (st++fl run) (H3.set d (A7 s k kk 0))/\Kp GF H (H3.set d (A7 s k kk 0)):=fun H3 k3 s3=>by
   have d3:=k3.get d0 rfl;have n1:=hk h2 h1;refine⟨(bT (aM (aA d3)) (bN q hq (cj (Ne.symm n1) (k3.get (a3.get (ah h2) rfl) rfl))) (s3.set d3 (by decide))),?_⟩;exact Kp.setO ((Kp.app .refl).trans ((a3.trans k3).mono GB.GF)) h1 (IP rfl)
  have body:∀ {Q:V->List O->Prop} {H3:List O},Kp GB H1 H3->bH S 2 (((b9.body.get 0).b1).from 2) [some (.obj d),some (.int (kZ g 0)),some (.int g)] H1 (KR S 2 .nil (dA Q))->bH S 2 b9.body ([V.obj d].map some++OM b9.ls.length none) H (dA Q):=fun k3 hq'=>by
   refine bE (ag (af (ad rfl) h1 rfl rfl rfl) EV.int bt) (decide_eq_true (Pn.mpr ‹_›)) ?_;refine cL (EV.fcall rfl (.cons (af (ad rfl) h1 rfl rfl rfl) .nil) rs (by decide)) aj rfl ?_;exact aP (EV.meth (af (ad rfl) (ah h1) rfl rfl rfl) (ah h3.1) rfl rfl (.cons (af (ad rfl) (ah h1) rfl rfl rfl) (.cons (ad rfl) .nil)) a1 (by decide)) hq'
  by_cases hz:0<g
  ·refine ba (fin H2 c3 (by refine er e2 ?_;rw [← OB];exact c2)) fun D K=>kK _ (ok.fnD 30 rfl rfl fun Q q'=>body c3 ?_) D K
   refine bE (ag (ad rfl) EV.int bt) (decide_eq_true (uW hz)) ?_;refine aP (EV.meth (af (ad rfl) d0 rfl rfl rfl) a2.1 rfl rfl (.cons (au (EV.sub (af (ad rfl) d0 rfl rfl rfl) (au (EV.pow EV.int (ad rfl) (bT (z0) (Iy l4) (av (by decide) (by decide)))) (gK g))) (EY p2)) (.cons (ad rfl) .nil)) c1 (by decide)) (W.nil ?_);exact aN EV.int (ad rfl) (c3.get d0 rfl) rfl rfl (W.nil (W.nil q'))
  ·haveI g0:=Bp hz;refine ba (fin H1 .refl (by refine er e2 (er g0 ?_);rw [ug,OO];rw [g0] at a2;exact a2)) fun D K=>kK _ (ok.fnD 30 rfl rfl fun Q q'=>body .refl ?_) D K;exact ay (ag (ad rfl) EV.int bt) (decide_eq_false (FK g0)) (aN EV.int (ad rfl) d0 rfl rfl (W.nil (W.nil q')))
 ·haveI r0:=Bp h0;subst r0;refine kK H (ok.fnD 30 rfl rfl fun Q q'=>?_) (bT h1 (bN q hq h2) (by simpa [fl] using h3)) .refl;exact ay (ag (af (ad rfl) h1 rfl rfl rfl) EV.int bt) (decide_eq_false Bt) (W.nil q')
theorem Di(ok:OK S){d k t w b kk run:Nat}{st:List Bool}(tt:cC R H t)(x:zx d s k t w b kk run st H)(hr:run<16)(hT:st.length<=600000){kP:Prop}(kK:∀H',aE S 3 (.top 471) [.obj d] H .none H'->zx d s k t w b kk 0 (st++fl run) H'->Kp GS H H'->kP):kP:=by
 refine uD ok tt x hr hT fun H' a b c=>kK H' a b (c.mono GF.GS)
theorem y6(ok:OK S){d k t w b kk run z:Nat}{x:Int}{st:List Bool}(tt:cC R H t)(h:zx d s k t w b kk run st H)(hr:run<16)(hT:st.length<=500000)(hz:z<4)(hx:-7<=x/\x<=7){kP:Prop}(kK:∀H',aE S 4 (.top 478) [.obj d,.int z,.int x] H .none H'->zx d s k t w b kk 0 (st++(fl run++(nb 5 (6*z+cat x)++ev x))) H'->Kp GS H H'->kP):kP:=by
 refine Di ok tt h hr (Lp hT) fun H1 a1 a2 a3=>?_;haveI fll:=nu run hr;refine tT (k9 (Kl hx.2 hx.1)) fun e1 e2 e3 e4 e5=>?_;haveI tt1:=tt.keep a3 fun _ _ _ h=>h;refine dN a2 fun h1 q_a h3=>aZ q_a fun q hq h2=>gf ok h3 tt1 h2 (pI hq) hz (Fw e1) (by refine er OA ?_;lia) fun H2 b1 b2 b3=>dK ok b2 e3 (Iq e1) (by refine er OA (er OA ?_);rw [cI];lia) fun H3 c1 c2 c3=>?_;haveI d2:=b3.get h1 rfl;refine kK H3 (ok.fnD 31 rfl rfl fun Q q'=>?_) (bT (c3.get d2 rfl) (bN q hq (c3.get (b3.get h2 rfl) rfl)) (by rw [OB,OB] at c2;exact c2)) (a3.trans ((b3.trans c3).mono GB.GS));refine aP (EV.meth (ad rfl) h.1 rfl rfl .nil a1 (by decide)) ?_;refine i7 (.stop (TV.eq (ag (ad rfl) EV.int bt) (decide_eq_false (by lia)))) ?_;refine aD (EV.fcall rfl (.cons (ad rfl) .nil) (rM ok) (by decide)) ?_;refine ay (ag (ad rfl) (EV.glob rfl) bt) (decide_eq_false (by lia)) ?_;refine aP (EV.meth (af (ad rfl) h1 rfl rfl rfl) h3.1 rfl rfl (.cons (af (ad rfl) h1 rfl rfl rfl) (.cons (au (EV.add (EV.mul EV.int (ad rfl) (av Bq (by lia))) (ad rfl)) (by push_cast;rfl)) .nil)) b1 (by decide)) ?_;exact aP (EV.meth (af (ad rfl) d2 rfl rfl rfl) b2.1 rfl rfl (.cons (EV.fcall rfl (.cons (ad rfl) (.cons (ad rfl) .nil)) (zr (uz ok (Iq e1)) (by refine er (Pj e2) ?_;rfl)) (by decide)) (.cons (ad rfl) .nil)) c1 (by decide)) (W.nil q')
end
end
mutual #where
theorem dz.succ{S:be}{n:Nat}{A:Ps}{tg:Tg}{ok:List O->Prop}{k m:Nat}{l l':aW}{H H':List O}(b:dz S n A tg ok (.int k::cQ ((k+1:Nat):Int) m) l H l' H'):dz S n A tg ok (cQ k (m+1)) l H l' H':=by
 exact er bp b
end
section
mutual #where
variable {S:be} {n:Nat} {H H' H1 H2 E E':List O} {i:Nat} {l l1:aW} {v y:V} {c:C} {t:T} {R:Nat->Prop} {sc:SD} {s:Nat} {F:FD}
abbrev Ot:Ps:=(bY.body.get 1).b1
theorem A5(ok:OK S){d p k t w b kk r j:Nat}{row:List Int}{H0:List O}{o:O}(h0:H0[j]? = some o)(ho:fD o=true)(hrow:row.length=4)(hb:∀x∈row,-7<=x/\x<=7):∀(m k0 run z:Nat) (st:List Bool) (H:List O) (x y:Option V) {res:List Bool×Nat×Nat},k0+m<=4->z+m<=3->run<16->
  cW R H F s t sc->zx d s k t w b kk run st H->H[r]? = some (.list (zs row))->H[j]? = some o->cr sc.low run z ((row.drop k0).take m)=res->(st++res.1).length<=400000->
  ∃H' x' y',dz S 4 Ot (.one 4) (aG (.obj j) H0) (cQ k0 m) [some (.obj d),some (.int p),some (.obj r),some (.int z),x,y] H [some (.obj d),some (.int p),some (.obj r),some (.int res.2.2),x',y'] H'/\
   zx d s k t w b kk res.2.1 (st++res.1) H'/\Kp GS H H':=by
 intro m_;induction m_ with
 | zero=>
  intro k0 run z st H x y res _ _ _ wa aw hr hj e _;haveI e:([],run,z)=res:=e;exact el e (GG H x y (fun Q q=>⟨hj.trans h0.symm,q⟩) (by rw [OO];exact aw) .refl)
 | succ m ih_=>
  intro k0 run z st H x y res hk hz hru wa aw hr hj e hl;refine Hs fun _ kK=>dQ wa.sc fun pl sl _ c1 c2 c3=>fH (Js hk hrow) fun v e1 e2=>?_;rw [e2] at e;rw [cU] at e;haveI hv:=hb v (OC e1);have size:EV S 4 (.fcall 12 (.cons (.sub (.loc 2) (.loc 4)) (.cons (.att (.att (.loc 0) 21) 36) .nil))) [some (.obj d),some (.int p),some (.obj r),some (.int z),some (.int k0),y] H (.int ((v.natAbs / 2^sc.low:Nat):Int)) H:=
   EV.fcall rfl (.cons (aS (ad rfl) (ad rfl) hr (DD hk) (cY e1)) (.cons (af (af (ad rfl) aw.1 rfl rfl rfl) c1 rfl rfl rfl) .nil)) (eO ok) (by decide)
  by_cases hs:v.natAbs / 2^sc.low=0
  ·rw [if_pos hs] at e;refine ws (ih_ (k0+1) run (z+1) st H (some (.int k0)) (some (.int ((v.natAbs / 2^sc.low:Nat):Int))) (Bn hk) (Im hz) hru wa aw hr hj e hl) fun H' x' y' f a1 a2=>kK H' x' y' (dz.succ fun Q q=>⟨hj.trans h0.symm,aD size (bE (ag (ad rfl) EV.int bO) (decide_eq_true (z9 hs)) ?_)⟩) a1 a2;exact aD (au (EV.add (ad rfl) EV.int) Bs) (W.nil (W.nil (f Q q)))
  ·rw [if_neg hs] at e;subst e;dsimp only at hl;rw [← OB,← OB,← OB] at hl;haveI hl':=hl;rw [OA,OA,OA,OA] at hl';haveI qb:=xG (low:=sc.low) hv;refine y6 ok wa.tt aw hru (Jz hl') (Em hz) qb fun H1 a1 a2 a3=>?_;rw [OB (st++fl run)] at hl;refine ws (ih_ (k0+1) 0 0 _ H1 (some (.int k0)) (some (.int ((v.natAbs / 2^sc.low):Int))) (Bn hk) (El hz) (by decide) (wa.keep a3 fun _ _ _ h=>h) a2 (a3.get hr rfl) (a3.get hj ho) rfl
    (by rw [← OB];exact hl)) fun H' x' y' f b1 b2=>?_
   refine kK H' x' y' (dz.succ fun Q q=>⟨hj.trans h0.symm,aD size (jH (ag (ad rfl) EV.int bO) (decide_eq_false (zu hs)) ?_)⟩) ?_ (a3.trans b2)
   ·haveI arg:EV S 4 (.ite (.cmp (.sub (.loc 2) (.loc 4)) [.Gt] (.cons (.int 0) .nil)) (.loc 5) (.neg (.loc 5))) [some (.obj d),some (.int p),some (.obj r),some (.int z),some (.int k0),some (.int ((v.natAbs / 2^sc.low:Nat):Int))] H (.int (qv v sc.low)) H:=by
     unfold qv;by_cases h:0<v
     ·exact er (if_pos h) (de (ag (aS (ad rfl) (ad rfl) hr (DD hk) (cY e1)) EV.int bt) (decide_eq_true h) (ad rfl))
     ·exact er (if_neg h) (cP (ag (aS (ad rfl) (ad rfl) hr (DD hk) (cY e1)) EV.int bt) (decide_eq_false h) (EV.neg (ad rfl)))
    exact aP (EV.meth (ad rfl) aw.1 rfl rfl (.cons (ad rfl) (.cons arg .nil)) a1 (by decide)) (aD (au EV.int rfl) (W.nil (W.nil (f Q q))))
   ·simpa only [OB] using b1
def AW(T:List Bool)(sc:SD)(d s k t w b kk:Nat)(rem:List (Nat×List Int))(H:List O):Prop:=∃run st,zx d s k t w b kk run st H/\st++iZ sc run rem=T/\run+rem.length<=15
theorem uy{low:Nat}{run z:Nat}{vs:List Int}:rO (cr low run z vs).2<=run+1:=by
 haveI:=tx (low:=low) (run:=run) (z:=z) (vs:=vs);unfold rO;split<;>lia
theorem A6(ok:OK S){T:List Bool}{d k t w b kk r p:Nat}{row:List Int}{rem:List (Nat×List Int)}(o:sc.OK F)(hT:T.length<=300000)(wa:cW R H F s t sc)(x:AW T sc d s k t w b kk ((p,row)::rem) H)(hs:1<=sc.start)(hi:ze sc (p,row))(hr:H[r]? = some (.list (zs row))){kP:Prop}(kK:∀H',aE S 5 (.top 485) [.obj d,.int p,.obj r] H .none H'->AW T sc d s k t w b kk rem H'->Kp GS H H'->kP):kP:=by
 refine fQ x fun run st aw hT' hn=>dQ wa.sc fun pl sl _ c1 c2 c3=>?_;have hbd:1<=sc.start/\sc.start<=sc.end_/\sc.end_<=3:=by rcases o.bd with q | q<;>lia
 rw [fA,← OB] at hT';haveI lq:=congrArg List.length hT';have lq:=OA▸lq;haveI bl:=uy (low:=sc.low) (run:=run) (z:=0) (vs:=band sc row);simp only [OQ] at hn;unfold band at hT' lq bl;refine ws (A5 (p:=p) (row:=row) ok aj rfl hi.len hi.bd (sc.end_+1 - sc.start) sc.start run 0 st (H++[.rng sc.start (sc.end_+1) 1]) none none (Ib hbd.2.1 hbd.2.2) (Jy hbd.2.2 hbd.1) (Ic hn)
  (wa.keep (Kp.app .refl) fun _ _ _ _=>trivial) (bT (ah aw.1) (aw.2.1.imp fun _ h=>⟨h.1,ah h.2⟩) aw.2.2.app) (ah hr) aj rfl (by dsimp only at lq;exact Jx lq hT)) fun H1 x' y' f a1 a2=>?_
 dsimp only at hT' bl;generalize cr sc.low run 0 ((row.drop sc.start).take (sc.end_+1 - sc.start))=e at *;obtain⟨e0,run',z'⟩:=e;unfold rO at hT' bl;dsimp only at *;haveI pre:∀ {Q:V->List O->Prop},bH S 4 (bY.body.from 2) [some (.obj d),some (.int p),some (.obj r),some (.int z'),x',y'] H1 (dA Q)->bH S 4 bY.body ([V.obj d,.int p,.obj r].map some++OM bY.ls.length none) H (dA Q):=fun hq=>by
  haveI en:((sc.end_)+1 - (sc.start:Int)).toNat=sc.end_+1 - sc.start:=Ie;refine aD (au EV.int rfl) (bk (jo (af (af (ad rfl) aw.1 rfl rfl rfl) c1 rfl rfl rfl) (EV.add (af (af (ad rfl) aw.1 rfl rfl rfl) c1 rfl rfl rfl) EV.int)) (aX aj ⟨z6,by lia⟩ ⟨Ig,by lia⟩) ?_);exact er en (f _ hq)
 haveI K0:=(Kp.app .refl).trans a2;by_cases hz:0<z'
 ·rw [if_pos hz] at hT' bl;refine kK (H1.set d (A7 s k kk (run'+1))) (ok.fnD 32 rfl rfl fun Q q=>pre ?_) (lN (run'+1) (st++e0) (bT (aM (aA a1.1)) ?_ (a1.2.2.set a1.1 (by decide))) hT' (by lia)) (Kp.setO K0 aw.1 nofun)
  ·refine bE (ag (ad rfl) EV.int bt) (decide_eq_true (Pn.mpr ‹_›)) ?_;refine aN (au (EV.add (af (ad rfl) a1.1 rfl rfl rfl) EV.int) rfl) (ad rfl) a1.1 rfl rfl ?_;exact ay (ag (af (ad rfl) (aM (aA a1.1)) rfl rfl rfl) (EV.glob rfl) bO) (decide_eq_false (by lia)) (W.nil (W.nil q))
  ·refine aZ a1.2.1 fun q h1 h2=>bN q h1 (cj (hk a1.1 h2) h2)
 ·rw [if_neg hz] at hT' bl;exact kK H1 (ok.fnD 32 rfl rfl fun Q q=>pre (ay (ag (ad rfl) EV.int bt) (decide_eq_false (B6 hz)) (W.nil q))) (lN run' (st++e0) a1 hT' (Cc hn bl)) K0
theorem wk(ok:OK S){T:List Bool}{d k t w b kk:Nat}(hT:T.length<=300000)(tt:cC R H t)(x:AW T sc d s k t w b kk [] H) :
  ∃H' bs pad,aE S 4 (.top 492) [.obj d] H (.bytes bs) H'/\gu bs=T++pad/\bs.size<=100000/\Kp GF H H':=by
 refine BT fun _ kK=>fQ x fun run st aw hT' hn=>?_;haveI e:st++fl run=T:=hT';haveI lq:=congrArg List.length e;replace lq:=OA▸lq;refine uD ok tt aw (by simp at hn;exact It hn) (by lia) fun H1 a1 a2 a3=>fT ok a2.2.2 (by exact er OA (EP lq hT)) fun H2 bs pad b1 b2 b3 b4=>kK H2 bs pad (ok.fnD 33 rfl rfl fun Q q=>?_) (by refine er b2 (er e ?_);rfl) b3 (a3.trans b4);refine aP (EV.meth (ad rfl) aw.1 rfl rfl .nil a1 (by decide)) ?_;exact W.ret (EV.meth (af (ad rfl) a2.1 rfl rfl rfl) a2.2.2.1 rfl rfl .nil b1 (by decide)) q
end
end
section
mutual #where
variable {S:be} {n:Nat} {H H' H1 H2 E E':List O} {i:Nat} {l l1:aW} {v y:V} {c:C} {t:T} {R:Nat->Prop} {sc:SD} {s:Nat} {F:FD}
theorem mE{g s:Nat}(h:s<16):(kZ g s).fdiv (2^(4:Int).toNat)=(g:Int):=by
 haveI:=jd (16*g+s) 4;haveI:(16*g+s) / 2^4=g:=by lia
 refine(jd (16*g+s) 4).trans ?_;refine er this ?_;rfl
theorem kc{g s:Nat}(h:s<16):PD (kZ g s) 15=(s:Int):=by
 haveI:(16*g+s) % 2^4=s:=by lia
 refine(m6 (16*g+s) 4).trans ?_;refine er this ?_;rfl
def o4(s tb rd run:Nat):O:=.inst 537 [(21,.obj s),(25,.obj tb),(26,.obj rd),(24,.int run)]
abbrev zw:P:=dy.body.get 3
theorem bP.set{r d C:Nat}{fs:List (Nat×V)}{o:O}{st:List Bool}(x:bP H r st)(h:H[d]? = some (.inst C fs))(hC:C≠404):bP (H.set d o) r st:=by
 refine x.keep (G:=fun i _=>i≠d) (Kp.setO .refl h (fun z=>z rfl)) (fun _=>?_);rintro rfl;refine mO (cN x) fun _ _ e=>?_;replace h:=e▸h;cases h;exact hC rfl
theorem bP.setL{r d:Nat}{xs:List V}{o:O}{st:List Bool}(x:bP H r st)(h:H[d]? = some (.list xs)):bP (H.set d o) r st:=by
 refine x.keep (G:=fun i _=>i≠d) (Kp.setO .refl h (fun z=>z rfl)) (fun _=>?_);rintro rfl;refine mO (cN x) fun _ _ e=>?_;rw [e] at h;exact nomatch h
theorem Dl(ok:OK S){d p tb rd r fo k run:Nat}{st:List Bool}{a b c:Option V}(tbl:bQ R H tb)(h1:H[d]? = some (o4 s tb rd 0))(hr:0<run)(hr16:run<16)(x:bP H rd (fl run++st))(hk:k<=sc.end_){kP:Prop}(kK:∀l' H',qg S 4 zw.wt zw.b1 0 [some (.obj d),some (.int p),some (.obj r),some (.obj fo),some (.int k),some (.int sc.end_),a,b,c] H (.ret (.obj fo)) l' H'->H'[d]? = some (o4 s tb rd (run - 1))->bP H' rd st->Kp GS H H'->kP):kP:=by
 have l4:run.log2<4:=(QG (uX hr)).mpr hr16;haveI p3:run<2^(run.log2+1):=Ra;haveI p2:=Rb (uX hr);rw [Rh] at p3;unfold fl at x;rw [if_pos hr] at x;generalize hg:run.log2=g at *;haveI p1:=P5 g;rw [OB] at x;refine DN tbl fun _ _ _ _ _ _ _ t0 _=>eZ (fC ok tbl x l4 (by decide)) fun H1 a1 a2 a3=>?_;haveI d1:=a3.get h1 rfl;haveI tok:bP (H1++[.tuple [.int g,.int (0:Nat)]]) rd (nb g (run - 2^g)++st):=a2.app;have d2:(H1++[.tuple [.int g,.int (0)]])[d]? = some (o4 s tb rd 0):=ah d1;have K1:Kp GS H (H1++[.tuple [.int g,.int (0)]]):=.app (a3.mono GR.GS);generalize hH2:H1++[O.tuple [.int g,.int (0:Nat)]]=H2 at *;have tok3:=tok.set (o:=o4 s tb rd (2^g - 1)) d2 (by decide);have d3:(H2.set d (o4 s tb rd (2^g - 1)))[d]? = some (o4 s tb rd (2^g - 1)):=aM (aA d2);haveI K3:Kp GS H (H2.set d (o4 s tb rd (2^g - 1))):=Kp.setO K1 h1 nofun;refine mO (cN tok3) fun _ _ rd3=>?_;have pre:∀ {P:Fl->aW->List O->Prop},bH S 4 ((zw.b1.get 2).b1.from 1) [some (.obj d),some (.int p),some (.obj r),some (.obj fo),some (.int k),some (.int sc.end_),some (.int (kZ g 0)),some (.int g),some (.int (0:Nat))] (H2.set d (o4 s tb rd (2^g - 1))) (KR S 4 (zw.b1.from 3) P)->
   bH S 4 zw.b1 [some (.obj d),some (.int p),some (.obj r),some (.obj fo),some (.int k),some (.int sc.end_),a,b,c] H P:=fun hq=>by
  refine aD (EV.meth (af (ad rfl) h1 rfl rfl rfl) t0 rfl rfl (.cons (af (ad rfl) h1 rfl rfl rfl) .nil) a1 (by decide)) ?_;refine cL (bJ (.cons (au (EV.shr (ad rfl) EV.int (by decide)) (mE (by decide))) (.cons (au (EV.band (ad rfl) EV.int) (kc (by decide))) .nil))) aj rfl ?_;refine er hH2 ?_;refine bE (bh (bq.yes (ag (ad rfl) EV.int bO) (decide_eq_true rfl) (bq.yes (ag (ad rfl) EV.int iF) (decide_eq_true (FL l4)) bq.nil))) rfl ?_;refine aN (au (EV.sub (au (EV.pow EV.int (ad rfl) (bT (z0) (Iy l4) (av (by decide) (by decide)))) (gK g)) EV.int) (Ep p1)) (ad rfl) d2 rfl rfl hq
 have cond:TV S 4 zw.wt [some (.obj d),some (.int p),some (.obj r),some (.obj fo),some (.int k),some (.int sc.end_),a,b,c] H true H:=TV.eq (ag (ad rfl) (ad rfl) eX) (decide_eq_true (Jw hk));by_cases hz:0<g;refine jn ok tok3 (Ik p3) (Iz l4) fun H4 b1 b2 b3=>?_
 ·have d4:=b3.get d3 rfl;refine kK [some (.obj d),some (.int p),some (.obj r),some (.obj fo),some (.int k),some (.int sc.end_),some (.int (kZ g 0)),some (.int g),some (.int (0:Nat))] (H4.set d (o4 s tb rd (run - 1))) (.ret cond fun Q q=>pre ?_) (aM (aA d4)) (b2.set d4 (by decide)) (Kp.setO (K3.trans (b3.mono GR.GS)) h1 nofun);refine bE (ag (ad rfl) EV.int bt) (decide_eq_true (uW hz)) ?_;refine aN (au (EV.add (af (ad rfl) d3 rfl rfl rfl) (EV.meth (af (ad rfl) d3 rfl rfl rfl) rd3 rfl rfl (.cons (ad rfl) .nil) b1 (by decide))) (KE p2 p1)) (ad rfl) d4 rfl rfl ?_;exact W.nil (W.ret (ad rfl) q)
 ·have g0:=Bp hz;subst g0;haveI r1:=FM p3 p2;subst r1;refine kK [some (.obj d),some (.int p),some (.obj r),some (.obj fo),some (.int k),some (.int sc.end_),some (.int (kZ 0 0)),some (.int 0),some (.int (0:Nat))] _ (.ret cond fun Q q=>pre ?_) d3 tok3 K3;exact ay (ag (ad rfl) EV.int bt) (decide_eq_false Bt) (W.ret (ad rfl) q)
theorem y7(ok:OK S){d p tb rd r fo k z:Nat}{x:Int}{st:List Bool}{a b c:Option V}{found:List Int}(o:sc.OK F)(wa:aY R H s sc)(hR:∀i,R i->i≠fo)(tbl:bQ R H tb)(h1:H[d]? = some (o4 s tb rd 0))(hf:H[fo]? = some (.list (zs found)))(hl:found.length=4)
  (xx:bP H rd (nb 5 (6*z+cat x)++(ev x++st))) (hz:z<4) (hx:-7<=x/\x<=7) (hx0:x≠0) (hk:k+z<=sc.end_) (he:sc.end_<=3) :
  ∃a' b' c' H',TV S 4 zw.wt [some (.obj d),some (.int p),some (.obj r),some (.obj fo),some (.int k),some (.int sc.end_),a,b,c] H true H/\
   (∀Q:Fl->aW->List O->Prop,Q .next [some (.obj d),some (.int p),some (.obj r),some (.obj fo),some (.int (k+z+1:Nat)),some (.int sc.end_),a',b',c'] H'->bH S 4 zw.b1 [some (.obj d),some (.int p),some (.obj r),some (.obj fo),some (.int k),some (.int sc.end_),a,b,c] H Q)/\
   H'[d]? = some (o4 s tb rd 0)/\H'[fo]? = some (.list (zs (found.set (k+z) (x*2^sc.low))))/\bP H' rd st/\Kp (GX fo) H H':=by
 refine BR fun _ kK=>tT (k9 (Kl hx.2 hx.1)) fun e1 e2 e3 e4 e5=>eZ (fC ok tbl xx hz (Fw e1)) fun H1 a1 a2 a3=>?_;haveI cp:0<cat x:=by
  rcases Rz (cat x) with q | q
  ·exact absurd (e5 q) hx0
  ·exact q
 refine DN tbl fun _ _ _ _ _ _ _ t0 _=>?_;have d1:=a3.get h1 rfl;refine dQ wa fun pl sl q_a c1 c2 c3=>ba q_a fun r1 _=>?_;haveI K1:Kp GR H (H1++[.tuple [.int z,.int (cat x)]]):=.app a3;refine mO (cN (a2.app (E:=[.tuple [.int z,.int (cat x)]]))) fun _ _ rd2=>jn ok (a2.app (E:=[.tuple [.int z,.int (cat x)]])) e3 (Iq e1) fun H2 b1 b2 b3=>?_;have K2:=K1.trans b3;have dd:(H1++[.tuple [.int z,.int (cat x)]])[d]? = some (o4 s tb rd 0):=ah d1;have f2:=K2.get hf rfl;have s2:=K2.get c1 rfl;have n1:fo≠d:=by first | exact Internal.hk h1 hf | exact Internal.hk hf h1
 have d2:=b3.get dd rfl;have olo:=o.lo;refine kK (some (.int (kZ z (cat x)))) (some (.int z)) (some (.int (cat x))) (H2.set fo (.list (zs (found.set (k+z) (x*2^sc.low))))) (TV.eq (ag (ad rfl) (ad rfl) eX) (decide_eq_true (Ee hk))) (fun Q q=>?_) (cj n1 d2) (aM (aA f2)) (b2.setL f2) (Kp.setO (K2.mono GR.X) hf (fun z=>z.2 rfl));refine aD (EV.meth (af (ad rfl) h1 rfl rfl rfl) t0 rfl rfl (.cons (af (ad rfl) h1 rfl rfl rfl) .nil) a1 (by decide)) ?_;refine cL (bJ (.cons (au (EV.shr (ad rfl) EV.int (by decide)) (mE (Fx e1))) (.cons (au (EV.band (ad rfl) EV.int) (kc (Fx e1))) .nil))) aj rfl ?_;refine ay (bh (bq.no (ag (ad rfl) EV.int bO) (decide_eq_false (Fs cp)))) rfl ?_;refine aD (au (q:=((k+z:Nat):Int)) (EV.add (ad rfl) (ad rfl)) rfl) ?_;refine ay (ag (ad rfl) (ad rfl) bt) (decide_eq_false (Ed hk)) ?_;refine bE (ag (ad rfl) EV.int bt) (decide_eq_true (uW cp)) ?_;refine dm (EV.mul (au (EV.fcall rfl (.cons (EV.meth (af (ad rfl) dd rfl rfl rfl) rd2 rfl rfl (.cons (ad rfl) .nil) b1 (by decide)) (.cons (ad rfl) .nil)) (tQ ok (Iq e1)) (by decide)) (by refine er (Pj e2) (er e4 ?_);rfl))
  (au (EV.pow EV.int (af (af (ad rfl) d2 rfl rfl rfl) s2 rfl rfl rfl) (bT (z0) (B4 olo) (av (by decide) (by decide)))) (by rw [ON])) ?_) (ad rfl) (ad rfl) f2 (bT (OS _) (by exact er ci (Eh hk hl he)) (by exact er ci (zz hl))) ?_
 ·haveI:sc.low=0∨sc.low=1∨sc.low=2:=Mv olo;rcases this with z | z | z<;>refine er z ?_<;>exact av (by decide) (by decide)
 ·rewrite [ON];exact er k8 (W.nil (aD (au (EV.add (ad rfl) EV.int) K8) (W.nil q)))
end
end
section
mutual #where
variable {S:be} {n:Nat} {H H' H1 H2 E E':List O} {i:Nat} {l l1:aW} {v y:V} {c:C} {t:T} {R:Nat->Prop} {sc:SD} {s:Nat} {F:FD}
theorem Kp.fresh{fo:Nat}(a:Kp GS H H1)(b:Kp (GX fo) H1 H')(h:H.length<=fo):Kp GS H H':=⟨Oz a.len b.len,fun i o e g=>b.at_ i o (a.at_ i o e g) ⟨g,by haveI:=aA e;exact z5 this h⟩⟩
theorem Ba(ok:OK S){d p tb rd r fo:Nat}{rest:List (Nat×List Int)}{tail:List Bool}(o:sc.OK F)(hR:∀i,R i->i≠fo)(he:sc.end_<=3)(h4:∀it∈rest,it.2.length=4)(h14:rest.length<=14):∀(vs:List Int) (k z:Nat) (found:List Int) (H:List O) (a b c:Option V),
  k+z+vs.length=sc.end_+1->z+vs.length<=3->(∀v∈vs,-7<=v/\v<=7)->aY R H s sc->bQ R H tb->H[d]? = some (o4 s tb rd 0)->H[fo]? = some (.list (zs found))->found.length=4->
  bP H rd ((cr sc.low 0 z vs).1++(iZ sc (rO (cr sc.low 0 z vs).2) rest++tail))->
  ∃cnt f l' H' run,qg S 4 zw.wt zw.b1 cnt [some (.obj d),some (.int p),some (.obj r),some (.obj fo),some (.int k),some (.int sc.end_),a,b,c] H f l' H'/\((f=.next/\dE l' 3=some (.obj fo))∨f=.ret (.obj fo))/\H'[d]? = some (o4 s tb rd run)/\
   H'[fo]? = some (.list (zs (dq sc.low found (k+z) vs)))/\(run<=rest.length/\∀it∈rest.take run,mi sc.low (band sc it.2))/\bP H' rd (iZ sc 0 (rest.drop run)++tail)/\Kp (GX fo) H H':=by
 intro m_;induction m_ with
 | nil=>
  intro k z found H a b c hk hz hv wa tbl h1 hf hl x;refine BP fun _ kK=>?_;haveI bn:rO (cr sc.low 0 z []).2=if 0<z then 1 else 0:=rfl
  haveI en:(cr sc.low 0 z []).1=[]:=rfl;rw [bn,en,Ph] at x;simp only [Rf,QL] at hk hz;by_cases z0:0<z
  ·rw [if_pos z0,vV o h4,OB] at x;haveI ll:=Ao (sc:=sc) rest;refine Dl ok tbl h1 J2 (EW ll h14) x (by lia) fun l' H' w d' x' K=>kK 0 _ l' H' (lm sc rest) w (.inr rfl) (by replace d':=(F8:1+lm sc rest - 1=lm sc rest)▸d';exact d') (K.get hf rfl) ⟨ll,CL rest⟩ x' (K.mono fun _ _ h=>h.1)
  ·rw [if_neg z0] at x;refine kK 0 .next _ H 0 (.stop (TV.eq (ag (ad rfl) (ad rfl) eX) (decide_eq_false (by lia)))) (.inl ⟨rfl,rfl⟩) h1 hf ⟨PF _,by simp⟩ (by exact er Qp x) .refl
 | cons v vs ih_=>
  intro k z found H a b c hk hz hv wa tbl h1 hf hl x;refine BP fun _ kK=>?_;simp only [OQ] at hk hz;have vb:=hv v (.head _);have hvs:=fun u hu=>hv u (.tail _ hu);by_cases e:v.natAbs / 2^sc.low=0
  ·rw [cU,if_pos e] at x;refine N2 (ih_ k (z+1) found H a b c (Ex hk) (Im hz) hvs wa tbl h1 hf hl x) fun cnt f l' H' run w q1 q2 q3 q4=>dN q4 (kK cnt f l' H' run w q1 q2 ?_);exact er cE (er (if_pos e) q3)
  ·rw [cU,if_neg e] at x;have f0:fl 0=[]:=rfl;dsimp only at x;rw [f0,Ph,OB,OB] at x;have qb:=xG (low:=sc.low) vb;have q0:qv v sc.low≠0:=by
    unfold qv;generalize v.natAbs / 2^sc.low=w at *;split<;>lia
   refine GH (y7 (p:=p) (r:=r) (a:=a) (b:=b) (c:=c) ok o wa hR tbl h1 hf hl x (Em hz) qb q0 (Ey hk) he) fun a' b' c' H2 w1 w2 d2 f2 x2 K2=>IH (ih_ (k+z+1) 0 (found.set (k+z) (qv v sc.low*2^sc.low)) H2 a' b' c' (by lia) (El hz) hvs
    (wa.keep K2 fun i _ ri g=>⟨g,hR i ri⟩) (tbl.keep K2 fun i _ ri g=>⟨g,hR i ri⟩) d2 f2 (by exact er OW hl) x2) fun cnt f l' H' run w q1 q2 q3 q4 q5 q6=>?_
   refine kK (cnt+1) f l' H' run (.step w1 w2 w) q1 q2 ?_ q4 q5 (K2.trans q6);exact er cE (er (if_neg e) q3)
def AR(sc:SD)(d s tb rd:Nat)(rem:List (Nat×List Int))(H:List O):Prop:=∃run tail,H[d]? = some (o4 s tb rd run)/\(run<=rem.length/\∀it∈rem.take run,mi sc.low (band sc it.2))/\bP H rd (iZ sc 0 (rem.drop run)++tail)
theorem uC{row:List Int}(h:∀x∈row,-7<=x/\x<=7):∀x∈band sc row,-7<=x/\x<=7:=fun x hx=>h x (Sf (Rn hx))
theorem A9(ok:OK S){d tb rd r p:Nat}{row kr:List Int}{rem:List (Nat×List Int)}(o:sc.OK F)(hs:1<=sc.start)(wa:aY R H s sc)(tbl:bQ R H tb)(x:AR sc d s tb rd ((p,row)::rem) H)(hi:ze sc (p,row))(h4:∀it∈rem,it.2.length=4)(h14:rem.length<=14)(hr:H[r]? = some (.list (zs kr)))(hk:kr.length=4){kP:Prop}(kK:∀H' c,aE S 5 (.top 527) [.obj d,.int p,.obj r] H (.obj c) H'->H'[c]? = some (.list (zs (nA sc row kr)))->H.length<=c->AR sc d s tb rd rem H'->Kp GS H H'->kP):kP:=by
 refine fQ x fun run tail h1 q_a hx=>?_;have f0:EV S 4 (.bcall .list (.cons (.loc 2) .nil)) ([V.obj d,.int p,.obj r].map some++OM dy.ls.length none) H (.obj H.length) (H++[.list (zs kr)]):=fK (ad rfl) hr (by exact er ci (zz hk));have hbd:1<=sc.start/\sc.start<=sc.end_/\sc.end_<=3:=o.bd.elim (fun q=>absurd q.1 (Pg hs)) fun q=>⟨q.1,q.2.1,q.2.2.1⟩;by_cases r0:0<run;refine ba q_a fun h2 h3=>?_
 ·obtain⟨run,rfl⟩:∃k,run=k+1:=⟨run - 1,Fu r0⟩;replace h3:=Qb▸h3;have hz:=h3 _ (.head _);have n1:d≠H.length:=by haveI:=aA h1;exact z1 this
  have dd:(H++[.list (zs kr)])[d]? = some (o4 s tb rd (run+1)):=ah h1;refine kK ((H++[O.list (zs kr)]).set d (o4 s tb rd run)) H.length (ok.fnD 35 rfl rfl fun Q q=>?_) ?_ (OF _) (lN run tail (aM (aA dd)) ⟨by simpa using h2,fun it hit=>h3 it (.tail _ hit)⟩ ?_) (Kp.setO (.app .refl) h1 nofun)
  ·refine aD f0 (bE (ag (af (ad rfl) dd rfl rfl rfl) EV.int bt) (decide_eq_true Gd) ?_);exact aN (au (EV.sub (af (ad rfl) dd rfl rfl rfl) EV.int) Ih) (ad rfl) dd rfl rfl (W.ret (ad rfl) q)
  ·unfold nA;exact er (Cj hz) (cj n1 aj)
  ·rw [QJ] at hx;exact hx.app.set dd (by decide)
 ·have r00:=Bp r0;subst r00;rw [Qp,fA,OB] at hx;haveI bl:(band sc row).length=_/\_:=gF o hi.len;haveI dd:(H++[.list (zs kr)]++[.tuple [.int sc.start,.int sc.end_]])[d]? = some (o4 s tb rd 0):=ah (ah h1);refine dQ (id wa) fun pl sl q_a c1 c2 c3=>ba q_a fun rr _=>?_;haveI K0:cg H (H++[.list (zs kr)]++[.tuple [.int sc.start,.int sc.end_]]):=.app (.app .refl);refine IH (Ba (R:=fun i=>R i/\i<H.length) ok (p:=p) (r:=r) o (fun i hi=>Pf hi.2) hbd.2.2 h4 h14 (band sc row) sc.start 0 kr (H++[.list (zs kr)]++[.tuple [.int sc.start,.int sc.end_]]) none none none
   (by omega) (Jv bl.2.2 bl.1) (uC hi.bd) ((wa.region (fun i hi ri=>⟨ri,hi⟩)).keep K0 fun _ _ _ _=>trivial) ((tbl.region (fun i hi ri=>⟨ri,hi⟩)).keep K0 fun _ _ _ _=>trivial) dd (ah aj) hk hx.app.app) fun cnt f l' H' run w q1 q2 q3 q4 q5 q6=>?_
  refine kK H' H.length (ok.fnD 35 rfl rfl fun Q q=>?_) q3 (OF _) (lN run tail q2 q4 q5) (Kp.fresh K0.pre q6 (OF _));refine aD f0 (ay (ag (af (ad rfl) (ah h1) rfl rfl rfl) EV.int bt) (decide_eq_false Bt) ?_);refine cL (bJ (.cons (af (af (ad rfl) (ah h1) rfl rfl rfl) (ah c1) rfl rfl rfl) (.cons (af (af (ad rfl) (ah h1) rfl rfl rfl) (ah c1) rfl rfl rfl) .nil))) aj rfl ?_;rcases q1 with ⟨rfl,ql⟩ | rfl
  ·exact eS w (W.ret (ad ql) q)
  ·exact eS w q
theorem wm(ok:OK S){d tb rd:Nat}(x:AR sc d s tb rd [] H):aE S 1 (.top 534) [.obj d] H .none H:=by
 refine fQ x fun run tail h1 q_a _=>ba q_a fun h2 _=>?_;haveI r0:run=0:=by simpa using h2
 subst r0;exact ok.fnD 36 rfl rfl fun Q q=>ay (ag (af (ad rfl) h1 rfl rfl rfl) EV.int bt) (decide_eq_false Bt) (W.nil q)
end
end
mutual #where
def sz(v:Int)(low:Nat):Nat:=v.natAbs / 2^low
def kG(run:Nat)(kept:List Bool):List Bool:=if 0<run then fl run++kept else []
def bM(low:Nat):Nat->List Bool->Nat->List Bool->List Int->List Bool×(Nat×List Bool)×Nat×List Bool
 | run,kept,z,here,[]=>([],(run,kept),z,here)
 | run,kept,z,here,v::vs=>if sz v low=0 then bM low run kept (z+1) here vs else if 1<sz v low then bM low run kept z (here++[decide (sz v low % 2=1)]) vs
  else (kG run kept++(nb 5 (6*z+1)++(decide (0<v)::(here++(bM low 0 [] 0 [] vs).1))),(bM low 0 [] 0 [] vs).2)
theorem eF{low run:Nat}{kept:List Bool}{z:Nat}{here:List Bool}{v:Int}{vs:List Int}:bM low run kept z here (v::vs)=if sz v low=0 then bM low run kept (z+1) here vs else if 1<sz v low then bM low run kept z (here++[decide (sz v low % 2=1)]) vs else (kG run kept++(nb 5 (6*z+1)++(decide (0<v)::(here++(bM low 0 [] 0 [] vs).1))),(bM low 0 [] 0 [] vs).2):=rfl
def ip(p:(Nat×List Bool)×Nat×List Bool):Nat×List Bool:=if 0<p.2.1∨p.2.2≠[] then (p.1.1+1,p.1.2++p.2.2) else p.1
def jX(sc:SD):Nat×List Bool->List (Nat×List Int)->List Bool
 | st,[]=>kG st.1 st.2
 | st,it::rest=>(bM sc.low st.1 st.2 0 [] (band sc it.2)).1++jX sc (ip (bM sc.low st.1 st.2 0 [] (band sc it.2)).2) rest
theorem fz{sc:SD}{st:Nat×List Bool}{it:Nat×List Int}{rest:List (Nat×List Int)}:jX sc st (it::rest)=(bM sc.low st.1 st.2 0 [] (band sc it.2)).1++jX sc (ip (bM sc.low st.1 st.2 0 [] (band sc it.2)).2) rest:=rfl
abbrev old(low:Nat)(vs:List Int):Prop:=∀v∈vs,sz v low≠1
def dL(low:Nat):List Int->List Bool
 | []=>[]
 | v::vs=>if 1<sz v low then decide (sz v low % 2=1)::dL low vs else dL low vs
def nz(low:Nat):List Int->Nat
 | []=>0
 | v::vs=>if sz v low=0 then nz low vs+1 else nz low vs
def md(sc:SD):List (Nat×List Int)->List Bool
 | []=>[]
 | it::rest=>dL sc.low (band sc it.2)++md sc rest
theorem tA{sc:SD}{it:Nat×List Int}{rest:List (Nat×List Int)}:md sc (it::rest)=dL sc.low (band sc it.2)++md sc rest:=rfl
def eP(sc:SD):List (Nat×List Int)->Nat
 | []=>0
 | it::rest=>if old sc.low (band sc it.2) then eP sc rest+1 else 0
theorem gO{sc:SD}{it:Nat×List Int}{rest:List (Nat×List Int)}:eP sc (it::rest)=if old sc.low (band sc it.2) then eP sc rest+1 else 0:=rfl
theorem fB{low:Nat}{v:Int}{vs:List Int}:dL low (v::vs)=if 1<sz v low then decide (sz v low % 2=1)::dL low vs else dL low vs:=rfl
theorem fR{low:Nat}{v:Int}{vs:List Int}:nz low (v::vs)=if sz v low=0 then nz low vs+1 else nz low vs:=rfl
theorem yP{low:Nat}:∀ {vs us:List Int},dL low (vs++us)=dL low vs++dL low us:=by
 intro vs us;induction vs generalizing us with
 | nil=>
  exact rfl
 | cons v vs ih_=>
  refine er Qr (er fB ?_);refine er ih_ (er fB ?_);split<;>rfl
theorem Cy{low:Nat}:∀ {vs us:List Int},nz low (vs++us)=nz low vs+nz low us:=by
 intro vs us;induction vs generalizing us with
 | nil=>
  exact(Py _).symm
 | cons v vs ih_=>
  refine er Qr (er fR ?_);refine er ih_ (er fR ?_);split<;>lia
theorem mK{low:Nat}:∀ {vs:List Int},old low vs->(dL low vs).length+nz low vs=vs.length:=by
 intro vs;induction vs with
 | nil=>
  intro _;exact rfl
 | cons v vs ih_=>
  intro h;haveI ih:=ih_ fun u hu=>h u (.tail _ hu);haveI h1:=h v (.head _);refine er fB (er fR ?_);by_cases e:sz v low=0
  ·refine er (if_neg (Ix e)) (er (if_pos e) ?_);simp;lia
  ·refine er (if_pos (Iv h1 e)) (er (if_neg e) ?_);simp;lia
theorem oV{low:Nat}:∀ {run:Nat} {kept:List Bool} {z:Nat} {here:List Bool} {vs:List Int},old low vs->bM low run kept z here vs=([],(run,kept),z+nz low vs,here++dL low vs):=by
 intro run kept z here vs;induction vs generalizing run kept z here with
 | nil=>
  intro _;exact congrArg (fun h=>(([]:List Bool),(run,kept),z,h)) (OO here).symm
 | cons v vs ih_=>
  intro h;haveI ho:old low vs:=fun u hu=>h u (.tail _ hu);haveI h1:=h v (.head _);refine er eF (er fB (er fR ?_));by_cases e:sz v low=0
  ·refine er (if_pos e) (er (if_pos e) ?_);refine er (if_neg (Ix e)) (er (ih_ ho) ?_);congr 3;exact z7
  ·refine er (if_neg e) ?_;refine er (if_pos (Iv h1 e)) (er (if_neg e) ?_);refine er (if_pos (Iv h1 e)) (er (ih_ ho) ?_);rw [OB];rfl
theorem vO{low:Nat}:∀ {run:Nat} {kept:List Bool} {z:Nat} {here:List Bool} {vs:List Int},¬old low vs->bM low run kept z here vs=(kG run kept++(bM low 0 [] z here vs).1,(bM low 0 [] z here vs).2):=by
 intro run kept z here vs;induction vs generalizing run kept z here with
 | nil=>
  intro h;exact absurd (fun _ h=>ju h) h
 | cons v vs ih_=>
  intro h;refine er eF (er eF ?_);by_cases e:sz v low=0
  ·refine er (if_pos e) (er (if_pos e) ?_);exact ih_ fun q=>h fun u hu=>by
    rcases OY.mp hu with rfl | hu
    ·lia
    ·exact q u hu
  ·refine er (if_neg e) (er (if_neg e) ?_);by_cases e2:1<sz v low
   ·refine er (if_pos e2) (er (if_pos e2) ?_);exact ih_ fun q=>h fun u hu=>by
     rcases OY.mp hu with rfl | hu
     ·exact Pg ‹_›
     ·exact q u hu
   ·refine er (if_neg e2) (er (if_neg e2) ?_);simp [kG]
theorem v9{low run:Nat}{kept:List Bool}{z:Nat}{here:List Bool}{vs:List Int}(h:old low vs)(h0:0<z∨here≠[]∨vs≠[]):ip (bM low run kept z here vs).2=(run+1,kept++(here++dL low vs)):=by
 refine er (oV h) ?_;unfold ip;dsimp only;haveI:=mK h;rw [if_pos];rcases h0 with q | q | q
 ·left;lia
 ·right;simp [q]
 ·rcases Rz (nz low vs) with e | e
  ·right;intro z;haveI hc:=(List.append_eq_nil_iff.mp z).2;haveI hc:(dL low vs).length=0:=by refine er hc ?_;rfl
   haveI:vs.length=0:=by lia
   exact q (Qx.mp this)
  ·left;lia
theorem qU{sc:SD}:∀rest,eP sc rest<=rest.length:=by
 intro m_;induction m_ with
 | nil=>
  exact OF _
 | cons it rest ih_=>
  refine er gO ?_;haveI:=ih_;split<;>simp<;>exact Et this
theorem vF{sc:SD}:∀(rest:List (Nat×List Int)),∀it∈rest.take (eP sc rest),old sc.low (band sc it.2):=by
 intro m_;induction m_ with
 | nil=>
  intro it h;exact nomatch h
 | cons a rest ih_=>
  intro it h;rw [gO] at h;by_cases z:old sc.low (band sc a.2)
  ·replace h:=Qb▸((if_pos z)▸h);rcases OY.mp h with rfl | h
   ·exact z
   ·exact ih_ it h
  ·rw [if_neg z] at h;exact nomatch h
theorem A3{sc:SD}{F:FD}(o:sc.OK F){row:List Int}(h:row.length=4):band sc row≠[]:=by
 intro e;haveI:=gF o h;rw [e] at this;simp at this;exact Kz this.1 this.2.1
theorem vR{sc:SD}{F:FD}(o:sc.OK F):∀ {rest:List (Nat×List Int)} {run:Nat} {kept:List Bool},(∀it∈rest,it.2.length=4)->jX sc (run,kept) rest=kG (run+eP sc rest) (kept++md sc (rest.take (eP sc rest)))++jX sc (0,[]) (rest.drop (eP sc rest)):=by
 intro rest run kept;induction rest generalizing run kept with
 | nil=>
  intro _;refine(?_:kG run kept=kG (run+0) (kept++[])++kG 0 []);simp [kG]
 | cons it rest ih_=>
  intro h;by_cases z:old sc.low (band sc it.2);haveI hb:=A3 o (h it (.head _))
  ·rewrite [fz];refine er (v9 z (.inr (.inr hb))) (er (oV z) ?_);rewrite [Ph];refine er (ih_ fun a ha=>h a (.tail _ ha)) (er gO ?_);refine er (if_pos z) (er Qb ?_);refine er QJ (er (z7:run+1+eP sc rest=run+(eP sc rest+1)) ?_);refine er tA ?_;simp only [OB,Ph]
  ·rewrite [gO,if_neg z];rewrite [QL];refine er RU ?_;refine er Qp (er fz ?_);refine er fz (er (vO z) ?_);refine(?_:_=kG run (kept++[])++_);rw [OO,OB]
end
section
mutual #where
variable {S:be} {n:Nat} {H H' H1 H2 E E':List O} {i:Nat} {l l1:aW} {v y:V} {c:C} {t:T} {R:Nat->Prop} {sc:SD} {s:Nat} {F:FD}
def zb(bs:List Bool):List V:=zs (bs.map fun b=>(b.toNat:Int))
theorem iI{bs:List Bool}:(zb bs).length=bs.length:=by simp [zb,zs]
theorem B2{a b:List Bool}:zb a++zb b=zb (a++b):=by unfold zb;refine er ww (er O2 ?_);rfl
def j4(s k kk run kp:Nat):O:=.inst 768 [(21,.obj s),(22,.obj k),(23,.obj kk),(24,.int run),(29,.obj kp)]
def tN(d s k t w b kk run:Nat)(kept:List Bool)(st:List Bool)(H:List O):Prop:=∃kp,H[d]? = some (j4 s k kk run kp)/\(∃q:Nat,(q=0∨q=1)/\H[kk]? = some (.tuple [.int 1,.int q]))/\H[kp]? = some (.list (zb kept))/\a9 H k t w b st
abbrev Ob:Ps:=(dC.body.get 0).b1
theorem Ad(ok:OK S){d x k t w b kk run kp:Nat}{xs:List V}{H0:List O}(h0:H0[x]? = some (.list xs)):∀(bs:List Bool) (st:List Bool) (H:List O) (y:Option V),H[d]? = some (j4 s k kk run kp)->a9 H k t w b st->H[x]? = some (.list xs)->st.length+bs.length<=600000->∀(kP:Prop),(∀H' y',dz S 2 Ob (.one 2) (aG (.obj x) H0) (zb bs) [some (.obj d),some (.obj x),y] H [some (.obj d),some (.obj x),y'] H'->a9 H' k t w b (st++bs)->Kp GB H H'->kP)->kP:=by
 intro m_;induction m_ with
 | nil=>
  intro st H y h1 h2 h3 _;intro _ kK;exact kK H y (fun Q q=>⟨h3.trans h0.symm,q⟩) (by rw [OO];exact h2) .refl
 | cons c bs ih_=>
  intro st H y h1 h2 h3 hl;refine dK ok (v:=c.toNat) (z:=1) h2 (by cases c<;>decide) (by decide) (by lia) fun H1 a1 a2 a3=>?_;intro _ kK;rw [ML] at a2;refine ih_ (st++[c]) H1 (some (.int c.toNat)) (a3.get h1 rfl) a2 (a3.get h3 rfl) (by refine er OA ?_;simp;exact Ju hl) _ fun H' y' f b1 b2=>?_;rw [OB] at b1;refine kK H' y' (fun Q q=>⟨h3.trans h0.symm,?_⟩) b1 (a3.trans b2);exact aP (EV.meth (af (ad rfl) h1 rfl rfl rfl) h2.1 rfl rfl (.cons (ad rfl) (.cons EV.int .nil)) a1 (by decide)) (W.nil (f Q q))
theorem uc(ok:OK S){d x k t w b kk run kp:Nat}{bs st:List Bool}(h1:H[d]? = some (j4 s k kk run kp))(h2:a9 H k t w b st)(h3:H[x]? = some (.list (zb bs)))(hl:st.length+bs.length<=600000){kP:Prop}(kK:∀H',aE S 3 (.top 737) [.obj d,.obj x] H .none H'->a9 H' k t w b (st++bs)->Kp GB H H'->kP):kP:=by
 refine Ad ok h3 bs st H none h1 h2 h3 hl _ fun H' y' f a b=>kK H' (ok.fnD 50 rfl rfl fun Q q=>bk (ad rfl) (aU h3) (f _ (W.nil q))) a b
theorem pP{run:Nat}{kept:List Bool}(h:run<16):(kG run kept).length<=8+kept.length:=by
 haveI:=nu run h;unfold kG;split<;>simp;assumption
theorem uv(ok:OK S){d k t w b kk run:Nat}{kept st:List Bool}(tt:cC R H t)(x:tN d s k t w b kk run kept st H)(hr:run<16)(hk:kept.length<=3*run)(hT:st.length<=500000){kP:Prop}(kK:∀H',aE S 4 (.top 744) [.obj d] H .none H'->tN d s k t w b kk 0 [] (st++kG run kept) H'->Kp GF H H'->kP):kP:=by
 refine vc x fun kp h1 q_a h4 h3=>aZ q_a fun q hq h2=>?_;by_cases h0:0<run
 ·have l4:run.log2<4:=(QG (uX h0)).mpr hr;haveI p2:=Rb (uX h0);haveI p3:run<2^(run.log2+1):=Ra;rw [Rh] at p3;haveI rs:=qG (H:=H) ok h0 hr;generalize hg:run.log2=g at *;refine gf ok (h3.app (E:=[.tuple [.int (kZ g 0),.int g]])) tt.app (ah h2) (pI hq) (s:=0) l4 (by decide) (Lo hT) fun H1 a1 a2 a3=>dK ok a2 (Ik p3) (Iz l4) (by refine er OA ?_;rw [cI];lia) fun H2 c1 c2 c3=>?_;haveI d0:=a3.get (ah h1) rfl;haveI p0:=a3.get (ah h4) rfl;haveI fll:=nu run hr;have e3:kG run kept=fl run++kept:=if_pos h0;have e2:fl run=nb 5 (6*g+0)++nb g (run - 2^g):=by unfold fl;refine er (if_pos h0) (er hg ?_);rfl
  have fin:∀H3,Kp GB H1 H3->a9 H3 k t w b (st++fl run)->∃H',(∀Q:V->List O->Prop,Q .none H'->bH S 3 (((bB.body.get 0).b1).from 3) [some (.obj d),some (.int (kZ g 0)),some (.int g)] H3 (KR S 3 .nil (dA Q)))/\tN d s k t w b kk 0 [] (st++kG run kept) H'/\Kp GF H H':=fun H3 k3 s3=>by
   have d3:=k3.get d0 rfl;haveI p3:=k3.get p0 rfl;refine uc ok d3 s3 p3 (by refine er OA ?_;lia) fun H4 b1 b2 b3=>?_;rw [OB,← e3] at b2
   have n1:kk≠d:=by first | exact Internal.hk h1 h2 | exact Internal.hk h2 h1
   haveI d4:=b3.get d3 rfl;haveI d5:((H4.set d (j4 s k kk 0 kp))++[.list []])[d]? = some (j4 s k kk 0 kp):=ah (aM (aA d4));haveI l5:(H4.set d (j4 s k kk 0 kp)).length≠d:=by refine er OW ?_;haveI:=aA d4;exact z8 this
   refine jb (((H4.set d (j4 s k kk 0 kp))++[O.list []]).set d (j4 s k kk 0 (H4.set d (j4 s k kk 0 kp)).length)) (fun Q q'=>?_) (DM _ (aM (aA d5)) (bN q hq (cj (Ne.symm n1) (ah (cj (Ne.symm n1) (b3.get (k3.get (a3.get (ah h2) rfl) rfl) rfl))))) (cj (Ne.symm l5) aj) (((b2.set d4 (by decide)).app).set d5 (by decide))) ?_
   ·refine aP (EV.meth (ad rfl) d3 rfl rfl (.cons (af (ad rfl) d3 rfl rfl rfl) .nil) b1 (by decide)) ?_;refine aN (au EV.int rfl) (ad rfl) d4 rfl rfl ?_;exact aN (EV.list .nil) (ad rfl) d5 rfl rfl (W.nil (W.nil q'))
   ·exact Kp.setO (.app (Kp.setO ((Kp.app .refl).trans ((a3.trans (k3.trans b3)).mono GB.GF)) h1 (IP rfl))) h1 (IP rfl)
  have body:∀ {Q:V->List O->Prop},bH S 3 (((bB.body.get 0).b1).from 2) [some (.obj d),some (.int (kZ g 0)),some (.int g)] H1 (KR S 3 .nil (dA Q))->bH S 3 bB.body ([V.obj d].map some++OM bB.ls.length none) H (dA Q):=fun hq'=>by
   refine bE (ag (af (ad rfl) h1 rfl rfl rfl) EV.int bt) (decide_eq_true (Pn.mpr ‹_›)) ?_;refine cL (EV.fcall rfl (.cons (af (ad rfl) h1 rfl rfl rfl) .nil) rs (by decide)) aj rfl ?_;exact aP (EV.meth (af (ad rfl) (ah h1) rfl rfl rfl) (ah h3.1) rfl rfl (.cons (af (ad rfl) (ah h1) rfl rfl rfl) (.cons (ad rfl) .nil)) a1 (by decide)) hq'
  by_cases hz:0<g
  ·refine eZ (fin H2 c3 (by refine er e2 ?_;rw [← OB];exact c2)) fun H' w D K=>kK _ (ok.fnD 51 rfl rfl fun Q q'=>body ?_) D K
   refine bE (ag (ad rfl) EV.int bt) (decide_eq_true (uW hz)) ?_;refine aP (EV.meth (af (ad rfl) d0 rfl rfl rfl) a2.1 rfl rfl (.cons (au (EV.sub (af (ad rfl) d0 rfl rfl rfl) (au (EV.pow EV.int (ad rfl) (bT (z0) (Iy l4) (av (by decide) (by decide)))) (gK g))) (EY p2)) (.cons (ad rfl) .nil)) c1 (by decide)) (W.nil ?_);exact w Q q'
  ·haveI g0:=Bp hz;refine eZ (fin H1 .refl (by refine er e2 (er g0 ?_);rw [ug,OO];rw [g0] at a2;exact a2)) fun H' w D K=>kK _ (ok.fnD 51 rfl rfl fun Q q'=>body ?_) D K;exact ay (ag (ad rfl) EV.int bt) (decide_eq_false (FK g0)) (w Q q')
 ·have r0:=Bp h0;subst r0;have k0:kept=[]:=Qx.mp (by lia);subst k0;refine kK H (ok.fnD 51 rfl rfl fun Q q'=>?_) (DM kp h1 (bN q hq h2) h4 (by simpa [kG] using h3)) .refl;exact ay (ag (af (ad rfl) h1 rfl rfl rfl) EV.int bt) (decide_eq_false Bt) (W.nil q')
theorem C9(ok:OK S){d k t w b kk run:Nat}{kept st:List Bool}(tt:cC R H t)(x:tN d s k t w b kk run kept st H)(hr:run<16)(hk:kept.length<=3*run)(hT:st.length<=500000){kP:Prop}(kK:∀H',aE S 4 (.top 744) [.obj d] H .none H'->tN d s k t w b kk 0 [] (st++kG run kept) H'->Kp GS H H'->kP):kP:=by
 refine uv ok tt x hr hk hT fun H' a b c=>kK H' a b (c.mono GF.GS)
abbrev Of:Ps:=(dD.body.get 1).b1
theorem Al(ok:OK S){d r j pl sl k kk run kp:Nat}{row:List Int}{o:O}(h1:H[d]? = some (j4 s k kk run kp))(hs:H[s]? = some (iL pl sl sc))(hr:H[r]? = some (.list (zs row)))(hj:H[j]? = some o)(hrow:row.length=4):∀(m k0:Nat) (x:Int) (y:Option V),k0+m<=4->∀(kP:Prop),(∀x' y',dz S 2 Of (.one 3) (aG (.obj j) H) (cQ k0 m) [some (.obj d),some (.obj r),some (.int x),y] H [some (.obj d),some (.obj r),some (.int x'),y'] H->kP)->kP:=by
 intro m_;induction m_ with
 | zero=>
  intro k0 x y _;intro _ kK;exact kK x y fun Q q=>⟨rfl,q⟩
 | succ m ih_=>
  intro k0 x y hk;refine fH (Js hk hrow) fun v e1 e2=>er bp ?_;intro _ kK;haveI size:EV S 2 (.fcall 12 (.cons (.sub (.loc 1) (.loc 3)) (.cons (.att (.att (.loc 0) 21) 36) .nil))) [some (.obj d),some (.obj r),some (.int x),some (.int k0)] H (.int ((v.natAbs / 2^sc.low):Int)) H:=
   EV.fcall rfl (.cons (aS (ad rfl) (ad rfl) hr (DD hk) (cY e1)) (.cons (af (af (ad rfl) h1 rfl rfl rfl) hs rfl rfl rfl) .nil)) (eO ok) (by decide)
  haveI e:(((k0+1:Nat):Int))=(k0)+1:=z3;by_cases hc:((v.natAbs / 2^sc.low):Int)=1
  ·refine ih_ (k0+1) k0 (some (.int k0)) (Bn hk) _ fun x' y' f=>?_;rw [e] at f;exact kK x' y' fun Q q=>⟨rfl,bE (ag size EV.int bO) (decide_eq_true hc) (aD (ad rfl) (W.nil (W.nil (f Q q))))⟩
  ·refine ih_ (k0+1) x (some (.int k0)) (Bn hk) _ fun x' y' f=>?_;rw [e] at f;exact kK x' y' fun Q q=>⟨rfl,ay (ag size EV.int bO) (decide_eq_false hc) (W.nil (f Q q))⟩
theorem Ak(ok:OK S){d r k kk run kp:Nat}{row:List Int}(h1:H[d]? = some (j4 s k kk run kp))(wa:aY R H s sc)(hr:H[r]? = some (.list (zs row)))(hrow:row.length=4)(hb:1<=sc.start/\sc.start<=sc.end_/\sc.end_<=3){kP:Prop}(kK:∀x,aE S 3 (.top 751) [.obj d,.obj r] H (.int x) (H++[.rng sc.start (sc.end_+1) 1])->kP):kP:=by
 refine dQ wa fun pl sl _ c1 c2 c3=>Al (H:=H++[.rng sc.start (sc.end_+1) 1]) ok (ah h1) (ah c1) (ah hr) aj hrow (sc.end_+1 - sc.start) sc.start (sc.start - 1) none (Ib hb.2.1 hb.2.2) _ fun x' y' f=>kK x' (ok.fnD 52 rfl rfl fun Q q=>?_);refine aD (EV.sub (af (af (ad rfl) h1 rfl rfl rfl) c1 rfl rfl rfl) EV.int) ?_;haveI en:((sc.end_)+1 - (sc.start:Int)).toNat=sc.end_+1 - sc.start:=Ie;refine bk (jo (af (af (ad rfl) h1 rfl rfl rfl) c1 rfl rfl rfl) (EV.add (af (af (ad rfl) h1 rfl rfl rfl) c1 rfl rfl rfl) EV.int)) (aX aj ⟨z6,by lia⟩ ⟨Ig,by lia⟩) ?_;exact er en (f _ (W.ret (ad rfl) q))
end
end
section
mutual #where
variable {S:be} {n:Nat} {H H' H1 H2 E E':List O} {i:Nat} {l l1:aW} {v y:V} {c:C} {t:T} {R:Nat->Prop} {sc:SD} {s:Nat} {F:FD}
abbrev GY(Y:Nat->Prop):Nat->O->Prop:=fun i o=>fD o=true/\Y i
def DB(d s k t w b kk run:Nat)(kept:List Bool)(st:List Bool)(hx:Nat)(H:List O):Prop:=∃kp,kp≠hx/\H[d]? = some (j4 s k kk run kp)/\(∃q:Nat,(q=0∨q=1)/\H[kk]? = some (.tuple [.int 1,.int q]))/\H[kp]? = some (.list (zb kept))/\a9 H k t w b st
theorem DB.r{d k t w b kk run hx:Nat}{kept st:List Bool}(x:DB d s k t w b kk run kept st hx H):tN d s k t w b kk run kept st H:=aZ x fun kp _ h=>⟨kp,h⟩
theorem tN.app{d k t w b kk run:Nat}{kept st:List Bool}(x:tN d s k t w b kk run kept st H):tN d s k t w b kk run kept st (H++E):=by
 refine vc x fun kp h1 q_a h4 h3=>aZ q_a fun q hq h2=>DM kp (ah h1) (bN q hq (ah h2)) (ah h4) h3.app
theorem tN.fr{d k t w b kk run hx:Nat}{kept st:List Bool}(x:tN d s k t w b kk run kept st H)(h:H.length<=hx):DB d s k t w b kk run kept st hx (H++E):=by
 refine vc x fun kp h1 q_a h4 h3=>aZ q_a fun q hq h2=>MA kp (z5 (aA h4) h) (ah h1) (bN q hq (ah h2)) (ah h4) h3.app
theorem a9.setL{k t w b d:Nat}{xs:List V}{o:O}{st:List Bool}(x:a9 H k t w b st)(h:H[d]? = some (.list xs)):a9 (H.set d o) k t w b st:=by
 refine x.keep (G:=fun i _=>i≠d) (Kp.setO .refl h (fun z=>z rfl)) (fun _=>?_) (fun _=>?_) (fun _=>?_)
 ·exact hk x.1 h
 ·rintro rfl;refine fP x.2 fun _ _ _ e _=>?_;rw [e] at h;exact nomatch h
 ·rintro rfl;refine ws x.2 fun _ _ _ _ e _=>?_;rw [e] at h;exact nomatch h
abbrev NO:Ps:=(bj.body.get 1).b1
theorem Da(ok:OK S){d p r k t w b kk run hx z k0:Nat}{kept here st:List Bool}{v:Int}{row:List Int}{la y:Option V}(wa:cW R H F s t sc)(x:DB d s k t w b kk run kept st hx H)(hr:H[r]? = some (.list (zs row)))(e1:row[k0]? = some v)(hh:H[hx]? = some (.list (zb here)))(hru:run<16)(hke:kept.length<=3*run)(hz:z<=3)(hlh:here.length<=3)(hk0:k0<4)(hT:st.length<=400000)(hv:sz v sc.low=1) :
  ∃H' hx',(∀Q:Fl->aW->List O->Prop,Q .next [some (.obj d),some (.int p),some (.obj r),la,some (.int (0:Nat)),some (.obj hx'),some (.int k0),some (.int ((sz v sc.low:Nat):Int))] H'->bH S 4 NO [some (.obj d),some (.int p),some (.obj r),la,some (.int z),some (.obj hx),some (.int k0),y] H Q)/\
   DB d s k t w b kk 0 [] (st++(kG run kept++(nb 5 (6*z+1)++(decide (0<v)::here)))) hx' H'/\H'[hx']? = some (.list (zb []))/\H.length<=hx'/\Kp GS H H':=by
 refine uw fun _ kK=>eZ (id x) fun kp hne h1 _=>dQ wa.sc fun pl sl _ c1 c2 c3=>?_;haveI fll:=pP (kept:=kept) hru;refine C9 ok wa.tt x.r hru hke (Lq hT) fun H1 a1 a2 a3=>vc (id a2) fun kp1 d1 q_a p1 s1=>aZ q_a fun q hq k1=>gf ok s1 (wa.tt.keep a3 fun _ _ _ h=>h) k1 (pI hq) (z:=z) (s:=1) (O8 ‹_›) (by decide) (by refine er OA ?_;lia) fun H2 b1 b2 b3=>dK ok (v:=(decide (0<v)).toNat) (z:=1) b2 (by cases decide (0<v)<;>decide) (by decide) (by refine er OA (er OA ?_);rw [cI];lia) fun H3 f1 f2 f3=>?_;rw [ML] at f2;haveI k13:=b3.trans f3;have d3:=k13.get d1 rfl;refine uc ok d3 f2 (k13.get (a3.get hh rfl) rfl) (by refine er OA ?_;refine er OA (er OA ?_);rw [cI];simp;lia) fun H4 g1 g2 g3=>?_;have k14:=k13.trans g3;haveI cw4:tN d s k t w b kk 0 [] (st++(kG run kept++(nb 5 (6*z+1)++(decide (0<v)::here)))) H4:=DM kp1 (k14.get d1 rfl) (bN q hq (k14.get k1 rfl)) (k14.get p1 rfl) (by
  haveI:st++(kG run kept++(nb 5 (6*z+1)++(decide (0<v)::here)))=st++kG run kept++nb 5 (6*z+1)++[decide (0<v)]++here:=by simp [OB]
  exact er this g2)
 have K:=a3.trans (k14.mono GB.GS);haveI size:EV S 4 (.fcall 12 (.cons (.sub (.loc 2) (.loc 6)) (.cons (.att (.att (.loc 0) 21) 36) .nil))) [some (.obj d),some (.int p),some (.obj r),la,some (.int z),some (.obj hx),some (.int k0),y] H (.int ((sz v sc.low):Int)) H:=
  EV.fcall rfl (.cons (aS (ad rfl) (ad rfl) hr (LN hk0) (cY e1)) (.cons (af (af (ad rfl) h1 rfl rfl rfl) c1 rfl rfl rfl) .nil)) (eO ok) (by decide)
 refine kK (H4++[.list []]++[.tuple [.int (0),.obj H4.length]]) H4.length (fun Q q'=>?_) (by rw [OB];exact cw4.fr (OF _)) (ah aj) K.len (.app (.app K));refine aD size (jH (ag (ad rfl) EV.int bO) (decide_eq_false (by lia)) ?_);refine i7 (.stop (bh (bq.no (ag (ad rfl) EV.int bt) (decide_eq_false (Lx hz))))) ?_;refine jH (ag (ad rfl) EV.int bt) (decide_eq_false (by lia)) ?_;refine aP (EV.meth (ad rfl) h1 rfl rfl .nil a1 (by decide)) ?_;refine aP (EV.meth (af (ad rfl) d1 rfl rfl rfl) s1.1 rfl rfl (.cons (af (ad rfl) d1 rfl rfl rfl) (.cons (au (EV.add (EV.mul EV.int (ad rfl) (av Bq (by lia))) EV.int) (by push_cast;rfl)) .nil)) b1 (by decide)) ?_;haveI hr2:=b3.get (a3.get hr rfl) rfl;haveI sgn:EV S 4 (.ite (.cmp (.sub (.loc 2) (.loc 6)) [.Gt] (.cons (.int 0) .nil)) (.int 1) (.int 0)) [some (.obj d),some (.int p),some (.obj r),la,some (.int z),some (.obj hx),some (.int k0),some (.int ((sz v sc.low):Int))] H2 (.int ((decide (0<v)).toNat:Nat)) H2:=by
  by_cases h:0<v
  ·exact er (decide_eq_true h) (de (ag (aS (ad rfl) (ad rfl) hr2 (OE ‹_› (by decide)) (cY e1)) EV.int bt) (decide_eq_true h) EV.int)
  ·exact er (decide_eq_false h) (cP (ag (aS (ad rfl) (ad rfl) hr2 (OE ‹_› (by decide)) (cY e1)) EV.int bt) (decide_eq_false h) EV.int)
 refine aP (EV.meth (af (ad rfl) (b3.get d1 rfl) rfl rfl rfl) b2.1 rfl rfl (.cons sgn (.cons EV.int .nil)) f1 (by decide)) ?_;refine aP (EV.meth (ad rfl) d3 rfl rfl (.cons (ad rfl) .nil) g1 (by decide)) ?_;exact cL (bJ (.cons (au EV.int rfl) (.cons (EV.list .nil) .nil))) aj rfl (W.nil (W.nil (W.nil q')))
set_option maxHeartbeats 2000000 in
theorem AG(ok:OK S){d p k t w b kk r j L:Nat}{row:List Int}{H0:List O}{o:O}{Y:Nat->Prop}{la:Option V}(h0:H0[j]? = some o)(ho:fD o=true)(hrow:row.length=4)(hY:∀i,Y i->i<L)(hR:∀i,R i->Y i)(yr:Y r)(yj:Y j) :
  ∀(m k0 run z:Nat) (kept here st:List Bool) (res:List Bool×(Nat×List Bool)×Nat×List Bool) (hx:Nat) (H:List O) (x y:Option V),bM sc.low run kept z here ((row.drop k0).take m)=res->k0+m<=4->here.length+z+m<=3->run<16->kept.length<=3*run->L<=H.length->¬Y hx->
  cW R H F s t sc->DB d s k t w b kk run kept st hx H->H[r]? = some (.list (zs row))->H[j]? = some o->H[hx]? = some (.list (zb here))->(st++res.1).length<=300000->
  ∃H' hx' x' y',dz S 4 NO (.one 6) (aG (.obj j) H0) (cQ k0 m) [some (.obj d),some (.int p),some (.obj r),la,some (.int z),some (.obj hx),x,y] H
    [some (.obj d),some (.int p),some (.obj r),la,some (.int res.2.2.1),some (.obj hx'),x',y'] H'/\
   tN d s k t w b kk res.2.1.1 res.2.1.2 (st++res.1) H'/\
   H'[hx']? = some (.list (zb res.2.2.2))/\Kp (GY Y) H H'/\res.2.1.2.length<=3*res.2.1.1/\
   res.2.2.2.length<=3/\res.2.1.1<=run:=by
 intro m_;induction m_ with
 | zero=>
  intro k0 run z kept here st res hx H x y e0 _ hz hru hke _ _ wa cw hr hj hh _;obtain rfl:([],(run,kept),z,here)=res:=e0;exact Mz H hx x y (fun Q q=>⟨hj.trans h0.symm,q⟩) (by exact er (OO _) cw.r) hh .refl hke (Oz (OL _ z) hz) (OF _)
 | succ m ih_=>
  intro k0 run z kept here st res hx H x y e0 hk hz hru hke hL hYx wa cw hr hj hh hl;refine fH (Js hk hrow) fun v e1 e2=>dQ wa.sc fun pl sl _ c1 c2 c3=>er bp ?_;replace e0:=e2▸e0;refine IJ (id cw) fun kp hne h1 hkk h4 h3=>?_;haveI ek:(((k0+1:Nat):Int))=(k0)+1:=z3;have size:EV S 4 (.fcall 12 (.cons (.sub (.loc 2) (.loc 6)) (.cons (.att (.att (.loc 0) 21) 36) .nil))) [some (.obj d),some (.int p),some (.obj r),la,some (.int z),some (.obj hx),some (.int k0),y] H (.int ((sz v sc.low):Int)) H:=
   EV.fcall rfl (.cons (aS (ad rfl) (ad rfl) hr (DD hk) (cY e1)) (.cons (af (af (ad rfl) h1 rfl rfl rfl) c1 rfl rfl rfl) .nil)) (eO ok) (by decide)
  by_cases hs:sz v sc.low=0
  ·replace e0:bM sc.low run kept (z+1) here ((row.drop (k0+1)).take m)=res:=(if_pos hs).symm.trans e0;refine Hq fun _ kK=>u8 (ih_ (k0+1) run (z+1) kept here st res hx H (some (.int k0)) (some (.int ((sz v sc.low):Int))) e0 (Bn hk) (by lia) hru hke hL hYx wa cw hr hj hh hl) fun H' hx' x' y' f rest=>IK rest (kK H' hx' x' y' (fun Q q=>⟨hj.trans h0.symm,?_⟩));refine aD size (bE (ag (ad rfl) EV.int bO) (decide_eq_true (z9 hs)) ?_);refine aD (au (EV.add (ad rfl) EV.int) Bs) (W.nil (W.nil ?_));haveI:=f Q q;replace this:=ek▸this;exact this
  ·replace e0:(if 1<sz v sc.low then bM sc.low run kept z (here++[decide (sz v sc.low % 2=1)]) ((row.drop (k0+1)).take m) else (kG run kept++(nb 5 (6*z+1)++(decide (0<v)::(here++(bM sc.low 0 [] 0 [] ((row.drop (k0+1)).take m)).1))),(bM sc.low 0 [] 0 [] ((row.drop (k0+1)).take m)).2))=res:=(if_neg hs).symm.trans e0;by_cases hs2:1<sz v sc.low
   ·replace e0:=(if_pos hs2).symm.trans e0;have nr:r≠hx:=fun e=>hYx (e▸yr);have nd:d≠hx:=by first | exact Internal.hk h1 hh | exact Internal.hk hh h1
    have nj:j≠hx:=fun e=>hYx (e▸yj);have bit:PD ((sz v sc.low)) 1=((decide (sz v sc.low % 2=1)).toNat):=by
     rw [pZ];rcases Nat.mod_two_eq_zero_or_one (sz v sc.low) with e | e<;>refine er e ?_<;>rfl
    have hb:zb here++[V.int ((decide (sz v sc.low % 2=1)).toNat)]=zb (here++[decide (sz v sc.low % 2=1)]):=by simp [zb,zs]
    have kk1:Kp (fun i _=>i≠hx) H (H.set hx (.list (zb (here++[decide (sz v sc.low % 2=1)])))):=Kp.setO .refl hh (fun z=>z rfl);have k1:Kp (GY Y) H (H.set hx (.list (zb (here++[decide (sz v sc.low % 2=1)])))):=kk1.mono fun i o g e=>hYx (e▸g.2);refine aZ hkk fun q hq k2=>?_;have nk:kk≠hx:=by first | exact Internal.hk k2 hh | exact Internal.hk hh k2
    refine GJ (ih_ (k0+1) run z kept (here++[decide (sz v sc.low % 2=1)]) st res hx (H.set hx (.list (zb (here++[decide (sz v sc.low % 2=1)])))) (some (.int k0)) (some (.int ((sz v sc.low):Int))) e0 (Bn hk) (by simp;lia) hru hke (by exact er OW hL) hYx
     (wa.keep k1 fun i o ri g=>⟨g,hR i ri⟩) (MA kp hne (kk1.get h1 nd) (bN q hq (kk1.get k2 nk)) (kk1.get h4 hne) (h3.setL hh)) (kk1.get hr nr) (kk1.get hj nj) (aM (aA hh)) hl) fun H' hx' x' y' f r1 r2 r3 r4=>?_
    refine NT H' hx' x' y' (fun Q q=>⟨hj.trans h0.symm,?_⟩) r1 r2 (k1.trans r3) r4;refine aD size (jH (ag (ad rfl) EV.int bO) (decide_eq_false (by lia)) ?_);refine i7 (.stop (bh (bq.no (ag (ad rfl) EV.int bt) (decide_eq_false (by lia))))) ?_;refine bE (ag (ad rfl) EV.int bt) (decide_eq_true (Pn.mpr ‹_›)) ?_;refine aP (EV.app (ad rfl) (au (EV.band (ad rfl) EV.int) bit) hh hh (by refine er iI ?_;omega)) (W.nil (W.nil (W.nil ?_)));refine er hb ?_;haveI:=f Q q;replace this:=ek▸this;exact this
   ·replace e0:=(if_neg hs2).symm.trans e0;generalize hr2:bM sc.low 0 [] 0 [] ((row.drop (k0+1)).take m)=rq at e0;subst e0;have hl':=hl;simp only [OA,OQ] at hl';refine zL (Da (p:=p) (la:=la) (y:=y) (z:=z) ok wa cw hr e1 hh hru hke (by lia) (by lia) (by lia) (J6 hl') (by lia)) fun H1 hx1 w1 w2 w3 w4 w5=>?_;have k1:Kp (GY Y) H H1:=w5.mono fun i o g=>g.1;refine II (ih_ (k0+1) 0 0 [] [] _ rq hx1 H1 (some (.int k0)) (some (.int ((sz v sc.low):Int))) hr2 (Bn hk) (by simp;lia) (by decide) (by simp) (Oz hL w5.len) (fun z=>by haveI:=hY _ z;exact Ii this hL w4)
     (wa.keep k1 fun i o ri g=>⟨g,hR i ri⟩) w2 (w5.get hr rfl) (w5.get hj ho) w3 (by simp only [OA,OQ];exact J7 hl')) fun H' hx' x' y' f r1 r2 r3 r4 r5 r6=>?_
    refine Mz H' hx' x' y' (fun Q q=>⟨hj.trans h0.symm,w1 _ ?_⟩) ?_ r2 (k1.trans r3) r4 r5 (KD r6)
    ·haveI:=f Q q;replace this:=ek▸this;exact this
    ·haveI e:st++(kG run kept++(nb 5 (6*z+1)++decide (0<v)::(here++rq.1)))=st++(kG run kept++(nb 5 (6*z+1)++decide (0<v)::here))++rq.1:=by simp [OB]
     exact er e r1
end
end
section
mutual #where
variable {S:be} {n:Nat} {H H' H1 H2 E E':List O} {i:Nat} {l l1:aW} {v y:V} {c:C} {t:T} {R:Nat->Prop} {sc:SD} {s:Nat} {F:FD}
def CW(T:List Bool)(sc:SD)(d s k t w b kk:Nat)(rem:List (Nat×List Int))(H:List O):Prop:=∃run kept st,tN d s k t w b kk run kept st H/\st++jX sc (run,kept) rem=T/\run+rem.length<=15/\kept.length<=3*run
theorem AH(ok:OK S){T:List Bool}{d k t w b kk r p:Nat}{row:List Int}{rem:List (Nat×List Int)}(o:sc.OK F)(hT:T.length<=300000)(wa:cW R H F s t sc)(x:CW T sc d s k t w b kk ((p,row)::rem) H)(hs:1<=sc.start)(hi:ze sc (p,row))(hr:H[r]? = some (.list (zs row))){kP:Prop}(kK:∀H',aE S 5 (.top 758) [.obj d,.int p,.obj r] H .none H'->CW T sc d s k t w b kk rem H'->Kp GS H H'->kP):kP:=by
 refine Ck x fun run kept st cw hT' hn hke=>dQ wa.sc fun pl sl _ c1 c2 c3=>?_;have hbd:1<=sc.start/\sc.start<=sc.end_/\sc.end_<=3:=by rcases o.bd with q | q<;>lia
 rw [fz,← OB] at hT';have lq:=congrArg List.length hT';have lq:=OA▸lq;simp only [OQ] at hn;refine aZ (id cw) fun kp h1 hk=>Ak ok h1 wa.sc hr hi.len hbd fun la ln=>?_;have hrl:=aA hr;generalize hHa:H++[O.rng sc.start (sc.end_+1) 1]=Ha at ln;have hal:Ha.length=H.length+1:=by refine el hHa ?_;simp
 generalize hHd:Ha++[O.list (zb [])]++[O.tuple [.int la,.int (0:Nat),.obj Ha.length]]++[O.rng sc.start (sc.end_+1) 1]=Hd;have P:cg H Hd:=by refine el hHd ?_;exact el hHa (.app (.app (.app (.app .refl))))
 have hdl:Hd.length=H.length+4:=by refine el hHd ?_;simp [hal]
 have hj:Hd[H.length+3]? = some (.rng sc.start (sc.end_+1) 1):=by
  rw [← hHd,(by simp [hal]:H.length+3=(Ha++[O.list (zb [])]++[O.tuple [.int la,.int (0:Nat),.obj Ha.length]]).length)];exact aj
 have hh:Hd[Ha.length]? = some (.list (zb [])):=by rw [← hHd];exact ah (ah aj)
 have cwn:DB d s k t w b kk run kept st Ha.length Hd:=by
  refine vc cw fun kp g1 q_a g4 g3=>aZ q_a fun q hq g2=>⟨kp,by have:=aA g4;exact DF this hal,P.at_ _ _ g1 trivial,⟨q,hq,P.at_ _ _ g2 trivial⟩,P.at_ _ _ g4 trivial,g3.keep P (fun _=>trivial) (fun _=>trivial) fun _=>trivial⟩
 unfold band at hT' lq;refine II (AG (F:=F) (p:=p) (row:=row) (la:=some (.int la)) (R:=fun i=>R i/\i<H.length) (Y:=fun i=>i<Hd.length/\i≠Ha.length) ok hj rfl hi.len (fun i h=>h.1) (fun i h=>⟨ED h.2 hdl,DF h.2 hal⟩) ⟨ED hrl hdl,DF hrl hal⟩ ⟨by lia,by lia⟩
  (sc.end_+1 - sc.start) sc.start run 0 kept [] st _ Ha.length Hd none none rfl (Ib hbd.2.1 hbd.2.2) (by simp;exact Jr hbd.2.2 hbd.1) (Ic hn) hke (OF _) (fun h=>h.2 rfl)
  ⟨(wa.sc.region fun i hi ri=>⟨ri,hi⟩).keep P fun _ _ _ _=>trivial,(wa.tt.region fun i hi ri=>⟨ri,hi⟩).keep P fun _ _ _ _=>trivial⟩ cwn (P.at_ _ _ hr trivial) hj hh (by dsimp only at lq;exact Ek lq hT)) fun H1 hx1 x' y' f a1 a2 a3 a4 a5 a6=>?_
 dsimp only at hT' lq;generalize bM sc.low run kept 0 [] ((row.drop sc.start).take (sc.end_+1 - sc.start))=e at *;obtain⟨e0,⟨run',kept'⟩,z',here'⟩:=e;unfold ip at hT';dsimp only at *;have K0:Kp GS H H1:=⟨Oz P.len a3.len,fun i o e g=>a3.at_ i o (P.at_ i o e trivial) ⟨g,by have:=aA e;constructor<;>lia⟩⟩;have pre:∀ {Q:V->List O->Prop},bH S 4 (bj.body.from 2) [some (.obj d),some (.int p),some (.obj r),some (.int la),some (.int z'),some (.obj hx1),x',y'] H1 (dA Q)->bH S 4 bj.body ([V.obj d,.int p,.obj r].map some++OM bj.ls.length none) H (dA Q):=fun {Q} hq=>by
  refine cL (bJ (.cons (EV.meth (ad rfl) h1 rfl rfl (.cons (ad rfl) .nil) ln (by decide)) (.cons (au (q:=((0:Nat):Int)) EV.int rfl) (.cons (EV.list .nil) .nil)))) aj rfl ?_;have h1a:Ha[d]? = some (j4 s k kk run kp):=by rw [← hHa];exact ah h1
  have sa:Ha[s]? = some (iL pl sl sc):=by rw [← hHa];exact ah c1
  refine bk (jo (af (af (ad rfl) (ah (ah h1a)) rfl rfl rfl) (ah (ah sa)) rfl rfl rfl) (EV.add (af (af (ad rfl) (ah (ah h1a)) rfl rfl rfl) (ah (ah sa)) rfl rfl rfl) EV.int)) (aX aj ⟨z6,by lia⟩ ⟨Ig,by lia⟩) ?_;have en:((sc.end_)+1 - (sc.start:Int)).toNat=sc.end_+1 - sc.start:=Ie;rw [en];have:=f (KR S 4 (bj.body.from 2) (dA Q)) hq;have ej:(Ha++[O.list []]++[O.tuple [.int la,.int ((0:Nat)),.obj Ha.length]]).length=H.length+3:=by simp [hal]
  rw [ej];rw [← hHd] at this;exact this
 refine vc (id a1) fun kp1 d1 q_a p1 s1=>aZ q_a fun q hq k1=>?_;have e0l:(st++e0).length<=300000:=Ek lq hT;have tail:(0<z'∨here'≠[])->∃H',(∀Q:V->List O->Prop,Q .none H'->∀la',bH S 4 ((bj.body.get 2).b1) [some (.obj d),some (.int p),some (.obj r),la',some (.int z'),some (.obj hx1),x',y'] (H1++(if 0<z' then [] else [.list []])) (KR S 4 .nil (dA Q)))/\tN d s k t w b kk (run'+1) (kept'++here') (st++e0) H'/\Kp GS H H':=fun _=>by
  generalize hE:(if 0<z' then [] else [O.list []]:List O)=E1;have d2:(H1++E1)[d]? = some (j4 s k kk run' kp1):=ah d1;have nkd:kk≠d:=by first | exact Internal.hk d1 k1 | exact Internal.hk k1 d1
  have nhd:hx1≠d:=by first | exact Internal.hk d1 a2 | exact Internal.hk a2 d1
  have npd:kp1≠d:=by first | exact Internal.hk d1 p1 | exact Internal.hk p1 d1
  have d3:((H1++E1).set d (j4 s k kk (run'+1) kp1))[d]? = some (j4 s k kk (run'+1) kp1):=aM (aA d2);generalize hH3:(H1++E1).set d (j4 s k kk (run'+1) kp1)=H3 at *;have p3:H3[kp1]? = some (.list (zb kept')):=by rw [← hH3];exact cj (Ne.symm npd) (ah p1)
  have x3:H3[hx1]? = some (.list (zb here')):=by rw [← hH3];exact cj (Ne.symm nhd) (ah a2)
  have k3:H3[kk]? = some (.tuple [.int 1,.int q]):=by rw [← hH3];exact cj (Ne.symm nkd) (ah k1)
  have s3:a9 H3 k t w b (st++e0):=by rw [← hH3];exact s1.app.set d2 (by decide)
  have K3:Kp GS H H3:=by rw [← hH3];exact Kp.setO (.app K0) h1 nofun
  have d4:(H3++[O.list (zb kept'++zb here')])[d]? = some (j4 s k kk (run'+1) kp1):=ah d3;have l5:H3.length≠d:=by have:=aA d3;exact Pg ‹_›
  refine⟨(H3++[O.list (zb kept'++zb here')]).set d (j4 s k kk (run'+1) H3.length),fun Q q' la'=>?_,⟨H3.length,aM (aA d4),⟨q,hq,cj (Ne.symm nkd) (ah k3)⟩,cj (Ne.symm l5) (by rw [← B2];exact aj),s3.app.set d4 (by decide)⟩,Kp.setO (.app K3) h1 nofun⟩
  refine aN (au (q:=((run'+1:Nat):Int)) (EV.add (af (ad rfl) d2 rfl rfl rfl) EV.int) rfl) (ad rfl) d2 rfl rfl ?_;refine(?_:bH S 4 _ _ ((H1++E1).set d (j4 s k kk (run'+1) kp1)) _);rw [hH3];refine aN (EV.cat (af (ad rfl) d3 rfl rfl rfl) (ad rfl) p3 x3 (by rw [iI,iI];exact Ec hn a6 a5 a4)) (ad rfl) d4 rfl rfl ?_;have d5:((H3++[O.list (zb kept'++zb here')]).set d (j4 s k kk (run'+1) H3.length))[d]? = some (j4 s k kk (run'+1) H3.length):=aM (aA d4);refine ay (fJ (fg.no (ag (af (ad rfl) d5 rfl rfl rfl) (EV.glob rfl) bO) (decide_eq_false (by lia)) (fg.no (ag (bW (af (ad rfl) d5 rfl rfl rfl) (cj (Ne.symm l5) aj) (by rw [OA,iI,iI];exact Ec hn a6 a5 a4)) (EV.glob rfl) bt) (decide_eq_false (by rw [OA,iI,iI];exact Jq hn a6 a5 a4)) fg.nil))) rfl (W.nil (W.nil q'))
 by_cases hz:0<z'
 ·refine eZ (tail (.inl hz)) fun H' w1 w2 w3=>?_;rw [if_pos hz,OO] at w1;rw [if_pos (.inl hz)] at hT';refine kK H' (ok.fnD 53 rfl rfl fun Q q'=>pre ?_) ⟨_,_,_,w2,hT',Eb hn a6,by rw [OA];exact Ea a5 a4⟩ w3;exact bE (fJ (fg.yes (ag (ad rfl) EV.int bt) (decide_eq_true (Pn.mpr ‹_›)))) rfl (w1 Q q' _)
 ·by_cases hh0:here'=[]
  ·rw [if_neg (by simp [hz,hh0])] at hT';subst hh0;refine kK (H1++[.list []]) (ok.fnD 53 rfl rfl fun Q q'=>pre ?_) ⟨run',kept',st++e0,a1.app,hT',by lia,a4⟩ (.app K0);exact ay (fJ (fg.no (ag (ad rfl) EV.int bt) (decide_eq_false (B6 hz)) (fg.no (ag (ad rfl) (EV.list .nil) (De (ah a2) aj rfl rfl rfl)) rfl fg.nil))) rfl (W.nil q')
  ·refine eZ (tail (.inr hh0)) fun H' w1 w2 w3=>?_;rw [if_neg hz] at w1;rw [if_pos (.inr hh0)] at hT';refine kK H' (ok.fnD 53 rfl rfl fun Q q'=>pre ?_) ⟨_,_,_,w2,hT',Eb hn a6,by rw [OA];exact Ea a5 a4⟩ w3;refine bE (fJ (fg.no (ag (ad rfl) EV.int bt) (decide_eq_false (B6 hz)) (fg.yes (ag (ad rfl) (EV.list .nil) (HA (ah a2) aj ?_)) rfl))) rfl (w1 Q q' _);rw [iI];intro e;exact hh0 (Qx.mp e)
theorem vX(ok:OK S){T:List Bool}{d k t w b kk:Nat}(hT:T.length<=300000)(tt:cC R H t)(x:CW T sc d s k t w b kk [] H) :
  ∃H' bs pad,aE S 5 (.top 765) [.obj d] H (.bytes bs) H'/\gu bs=T++pad/\bs.size<=100000/\Kp GF H H':=by
 refine BT fun _ kK=>Ck x fun run kept st cw hT' hn hke=>?_;have e:st++kG run kept=T:=hT';have lq:=congrArg List.length e;rw [OA] at lq;refine uv ok tt cw (by simp at hn;exact It hn) hke (Jo lq hT) fun H1 a1 a2 a3=>aZ cw fun kp0 h0 _=>vc a2 fun kp h1 h2 h3 h4=>fT ok h4 (by rw [OA];exact EP lq hT) fun H2 bs pad b1 b2 b3 b4=>kK H2 bs pad (ok.fnD 54 rfl rfl fun Q q=>?_) (by rw [b2,e]) b3 (a3.trans b4);refine aP (EV.meth (ad rfl) h0 rfl rfl .nil a1 (by decide)) ?_;exact W.ret (EV.meth (af (ad rfl) h1 rfl rfl rfl) h4.1 rfl rfl .nil b1 (by decide)) q
end
end
section
mutual #where
variable {S:be} {n:Nat} {H H' H1 H2 E E':List O} {i:Nat} {l l1:aW} {v y:V} {c:C} {t:T} {R:Nat->Prop} {sc:SD} {s:Nat} {F:FD}
def l9(s tb rd run:Nat):O:=.inst 831 [(21,.obj s),(25,.obj tb),(26,.obj rd),(24,.int run)]
def kv(v:Int)(low:Nat):Int:=qv v (low+1)*2^(low+1)
def nv(v:Int)(low:Nat):Int:=qv v low*2^low
theorem kvs:∀k:Fin 15,∀low:Fin 3,let v:Int:=(k) - 7;(kv v low=0↔sz v low<=1)/\
  (1<sz v low->(kv v low).natAbs / 2^(low:Nat) % 2=0/\nv v low=(if sz v low % 2=1 then (if 0<kv v low then kv v low+2^(low:Nat) else kv v low - 2^(low:Nat)) else kv v low))/\
  (sz v low=1->nv v low=if 0<v then 2^(low:Nat) else -2^(low:Nat)):=by decide +kernel
theorem uj{v:Int}{low:Nat}(h:-7<=v/\v<=7)(hl:low<=2):(kv v low=0↔sz v low<=1)/\
  (1<sz v low->(kv v low).natAbs / 2^low % 2=0/\nv v low=(if sz v low % 2=1 then (if 0<kv v low then kv v low+2^low else kv v low - 2^low) else kv v low))/\
  (sz v low=1->nv v low=if 0<v then 2^low else -2^low):=by
 haveI:=kvs ⟨(v+7).toNat,Nj h.2⟩ ⟨low,O8 ‹_›⟩;haveI e:=Jn h.1;rw [e] at this;exact this
theorem pU(ok:OK S){d tb rd fo k:Nat}{found:List Int}{v0:Int}{st:List Bool}{run:Nat}(o:sc.OK F)(wa:aY R H s sc)(h1:H[d]? = some (l9 s tb rd run))(hf:H[fo]? = some (.list (zs found)))(hl:found.length=4)(hk:found[k]? = some (kv v0 sc.low))(hv:-7<=v0/\v0<=7)(hz:1<sz v0 sc.low)
  (x:bP H rd (decide (sz v0 sc.low % 2=1)::st)) {kP:Prop} (kK:∀H',aE S 3 (.top 800) [.obj d,.obj fo,.int k] H .none H'->H'[fo]? = some (.list (zs (found.set k (nv v0 sc.low))))->bP H' rd st->Kp (fun i o=>xT o=true/\i≠fo) H H'->kP):kP:=by
 refine fQ wa fun pl sl _ c1 _=>?_;haveI olo:=o.lo;have k4:=bc hk;refine dN (uj hv o.lo) fun _ h2 _=>ba (h2 hz) fun h2 h3=>mO (cN x) fun _ _ e0=>eZ (d7 ok x) fun H1 a1 a2 a3=>?_;have f1:=a3.get hf rfl;have s1:=a3.get c1 rfl;have d1:=a3.get h1 rfl;by_cases hb:sz v0 sc.low % 2=1
 ·replace h3:=(if_pos hb)▸h3;rw [decide_eq_true hb] at a1;refine kK (H1.set fo (.list (zs (found.set k (nv v0 sc.low))))) (ok.fnD 56 rfl rfl fun Q q=>?_) (aM (aA f1)) (a2.setL f1) (Kp.setO (a3.mono fun i o h=>h.1) hf (fun z=>z.2 rfl));have cell:∀l,EV S 2 (.sub (.loc 1) (.loc 2)) (some (.obj d)::some (.obj fo)::some (.int k)::l) H1 (.int (kv v0 sc.low)) H1:=fun l=>aS (ad rfl) (ad rfl) f1 (D9 k4 hl) (cY hk);have low:∀l,EV S 2 (.att (.att (.loc 0) 21) 36) (some (.obj d)::some (.obj fo)::some (.int k)::l) H1 (.int sc.low) H1:=fun l=>af (af (ad rfl) d1 rfl rfl rfl) s1 rfl rfl rfl;refine bE (bh (bq.yes (ag (EV.meth (af (ad rfl) h1 rfl rfl rfl) e0 rfl rfl .nil a1 (by decide)) EV.int bO) rfl (bq.yes (ag (EV.band (EV.fcall rfl (.cons (cell _) (.cons (low _) .nil)) (eO ok) (by decide)) EV.int) EV.int bO) (decide_eq_true ?_) bq.nil))) rfl ?_
  ·rewrite [pZ];refine er h2 ?_;rfl
  ·refine aD (au (EV.pow EV.int (low _) (bT (z0) (B4 olo) (av (by decide) (by decide)))) (by rw [ON])) ?_;haveI newv:EV S 2 (.ite (.cmp (.sub (.loc 1) (.loc 2)) [.Gt] (.cons (.int 0) .nil)) (.bin .Add (.sub (.loc 1) (.loc 2)) (.loc 3)) (.bin .Sub (.sub (.loc 1) (.loc 2)) (.loc 3))) [some (.obj d),some (.obj fo),some (.int k),some (.int (2^sc.low))] H1 (.int (nv v0 sc.low)) H1:=by
    refine er h3 ?_;by_cases hp:0<kv v0 sc.low
    ·exact er (if_pos hp) (de (ag (cell _) EV.int bt) (decide_eq_true hp) (EV.add (cell _) (ad rfl)))
    ·exact er (if_neg hp) (cP (ag (cell _) EV.int bt) (decide_eq_false hp) (EV.sub (cell _) (ad rfl)))
   refine dm newv (ad rfl) (ad rfl) f1 (bT (z0) (by exact er ci (Kw k4 hv.2)) (by exact er ci (zz hl))) ?_;rewrite [ON];exact er k8 (W.nil (W.nil q))
 ·replace h3:=(if_neg hb)▸h3;rw [decide_eq_false hb] at a1;refine kK H1 (ok.fnD 56 rfl rfl fun Q q=>?_) (by refine er h3 ?_;exact er (gm hk) f1) a2 (a3.mono fun i o h=>h.1);exact ay (bh (bq.no (ag (EV.meth (af (ad rfl) h1 rfl rfl rfl) e0 rfl rfl .nil a1 (by decide)) EV.int bO) rfl)) rfl (W.nil q)
def Holds(found:List Int)(k low:Nat)(vs:List Int):Prop:=∀i v,vs[i]? = some v->found[k+i]? = some (kv v low)/\-7<=v/\v<=7
theorem Holds.tail{found:List Int}{k low:Nat}{v:Int}{vs:List Int}{x:Int}(h:Holds found k low (v::vs)):Holds (found.set k x) (k+1) low vs:=fun i u hu=>by
 haveI:=h (i+1) u hu;refine⟨?_,this.2⟩;refine er (O7 Fo) ?_;exact er (z7:k+1+i=k+(i+1)) this.1
theorem wK{low:Nat}:∀ {found:List Int} {k:Nat} {vs us:List Int},dq low found k (vs++us)=dq low (dq low found k vs) (k+vs.length) us:=by
 intro found k vs us;induction vs generalizing found k us with
 | nil=>
  exact rfl
 | cons v vs ih_=>
  refine er Qr (er cE ?_);refine er cE (er ih_ ?_);refine er (z7:k+1+vs.length=k+(vs.length+1)) (er OQ ?_);rfl
theorem lO{low:Nat}:∀ {found:List Int} {k:Nat} {vs:List Int} {j:Nat},k+vs.length<=j->(dq low found k vs)[j]? = found[j]?:=by
 intro found k vs j;induction vs generalizing found k j with
 | nil=>
  intro _;exact rfl
 | cons v vs ih_=>
  intro h;simp only [OQ] at h;refine er cE (er (ih_ (D8 h)) ?_);split
  ·rfl
  ·exact O7 (by lia)
abbrev xN:P:=dH.body.get 0
abbrev GP(fo:Nat):Nat->O->Prop:=fun i o=>xT o=true/\i≠fo
theorem GP.X{fo:Nat}:∀(i:Nat) (o:O),GX fo i o->GP fo i o:=fun i o h=>⟨GR.GS i o h.1,h.2⟩
theorem qL(ok:OK S){d tb rd fo run:Nat}(o:sc.OK F)(hR:∀i,R i->i≠fo):∀(pre:List Int) (k Z:Nat) (found:List Int) (st:List Bool) (H:List O),old sc.low pre->nz sc.low pre<=Z->k+pre.length<=sc.end_+1->aY R H s sc->H[d]? = some (l9 s tb rd run)->H[fo]? = some (.list (zs found))->found.length=4->Holds found k sc.low pre->bP H rd (dL sc.low pre++st)->
  ∃H',(∀cnt f l' H'',qg S 3 xN.wt xN.b1 cnt [some (.obj d),some (.obj fo),some (.int (k+pre.length:Nat)),some (.int (Z - nz sc.low pre:Nat))] H' f l' H''->∃cnt',qg S 3 xN.wt xN.b1 cnt' [some (.obj d),some (.obj fo),some (.int k),some (.int Z)] H f l' H'')/\
   H'[fo]? = some (.list (zs (dq sc.low found k pre)))/\bP H' rd st/\Kp (GP fo) H H':=by
 intro m_;induction m_ with
 | nil=>
  intro k Z found st H ho hz hk wa h1 hf hl hh x;refine yN fun _ kK=>kK H (fun cnt f l' H'' w=>⟨cnt,w⟩) hf x .refl
 | cons v pre ih_=>
  intro k Z found st H ho hz hk wa h1 hf hl hh x;refine yN fun _ kK=>?_;simp only [OQ] at hk;refine ba (hh 0 v rfl) fun h0 vb=>?_;rw [QL] at h0;have v1:=ho v (.head _);have ho':old sc.low pre:=fun u hu=>ho u (.tail _ hu);refine dN (uj vb o.lo) fun kz _ _=>?_;rw [fR] at hz;rw [fB] at x;refine fQ (id wa) fun pl sl q_a c1 _=>ba q_a fun rs _=>?_;haveI k4:=bc h0;haveI hfd:d≠fo:=by first | exact Internal.hk h1 hf | exact Internal.hk hf h1
  have cond:∀z,TV S 3 xN.wt [some (.obj d),some (.obj fo),some (.int k),some (.int z)] H true H:=fun z=>TV.eq (ag (ad rfl) (af (af (ad rfl) h1 rfl rfl rfl) c1 rfl rfl rfl) eX) (decide_eq_true (by lia));have cell:∀l,EV S 3 (.sub (.loc 1) (.loc 2)) (some (.obj d)::some (.obj fo)::some (.int k)::l) H (.int (kv v sc.low)) H:=fun l=>aS (ad rfl) (ad rfl) hf (D9 k4 hl) (cY h0);by_cases hs:sz v sc.low=0
  ·rw [if_pos hs] at hz;rw [if_neg (Ix hs)] at x;have hh':Holds found (k+1) sc.low pre:=fun i u hu=>by
    haveI:=hh (i+1) u hu;exact er (z7:k+1+i=k+(i+1)) this
   refine vc (ih_ (k+1) (Z - 1) found st H ho' (Jm hz) (EO hk) wa h1 hf hl hh' x) fun H' w a b c=>kK H' (fun cnt f l' H'' q=>?_) ?_ b c
   ·replace q:=(if_pos hs)▸(fR▸(OQ▸q));refine b7 (w cnt f l' H'' (by refine er (z7:k+1+pre.length=k+(pre.length+1)) ?_;exact er (by lia:Z - 1 - nz sc.low pre=Z - (nz sc.low pre+1)) q)) fun cnt' w'=>⟨cnt'+1,.step (cond _) (fun Q q'=>?_) w'⟩;refine jH (ag (cell _) EV.int eV) (by refine er (kz.mpr (by lia)) ?_;rfl) ?_;refine jH (ag (ad rfl) EV.int bO) (decide_eq_false (by lia)) ?_;refine aD (au (EV.sub (ad rfl) EV.int) (Jk hz)) (W.nil (W.nil ?_));exact aD (au (EV.add (ad rfl) EV.int) Bs) (W.nil q')
   ·refine er cE ?_;exact er (if_pos (show v.natAbs / 2^sc.low=0 from hs)) a
  ·rw [if_neg hs] at hz;have hs2:=Iv v1 hs;rw [if_pos hs2] at x;refine pU ok o wa h1 hf hl h0 vb hs2 x fun H1 a1 a2 a3 a4=>vc (ih_ (k+1) Z (found.set k (nv v sc.low)) st H1 ho' hz (EO hk) (wa.keep a4 fun i o ri g=>⟨GR.GS i o g,hR i ri⟩) (a4.get h1 ⟨rfl,hfd⟩) a2 (by exact er OW hl) hh.tail a3) fun H' w a b c=>kK H' (fun cnt f l' H'' q=>?_) ?_ b (a4.trans c)
   ·rw [OQ,fR,if_neg hs] at q;refine b7 (w cnt f l' H'' (by exact er (z7:k+1+pre.length=k+(pre.length+1)) q)) fun cnt' w'=>⟨cnt'+1,.step (cond _) (fun Q q'=>?_) w'⟩;have kn:kv v sc.low≠0:=fun e=>by haveI:=kz.mp e;exact Jj this hs2
    refine bE (ag (cell _) EV.int eV) (by simp [kn]) ?_;refine aP (EV.meth (ad rfl) h1 rfl rfl (.cons (ad rfl) (.cons (ad rfl) .nil)) a1 (by decide)) (W.nil ?_);exact aD (au (EV.add (ad rfl) EV.int) Bs) (W.nil q')
   ·refine er cE ?_;exact er (if_neg (show ¬v.natAbs / 2^sc.low=0 from hs)) a
theorem xP(ok:OK S){d tb rd fo run k Z:Nat}{pre:List Int}{found:List Int}{st:List Bool}(o:sc.OK F)(hR:∀i,R i->i≠fo)(ho:old sc.low pre)(hz:nz sc.low pre<=Z)(hk:k+pre.length=sc.end_+1)(wa:aY R H s sc)(h1:H[d]? = some (l9 s tb rd run))(hf:H[fo]? = some (.list (zs found)))(hl:found.length=4)(hh:Holds found k sc.low pre)(x:bP H rd (dL sc.low pre++st)){kP:Prop}(kK:∀H',aE S 4 (.top 807) [.obj d,.obj fo,.int k,.int Z] H (.int (sc.end_+1:Nat)) H'->H'[fo]? = some (.list (zs (dq sc.low found k pre)))->bP H' rd st->Kp (GP fo) H H'->kP):kP:=by
 have hfd:d≠fo:=by first | exact Internal.hk h1 hf | exact Internal.hk hf h1
 refine fQ (id wa) fun pl sl q_a c1 _=>ba q_a fun rs _=>vc (qL ok o hR pre k Z found st H ho hz (by lia) wa h1 hf hl hh x) fun H' w a b c=>b7 (w 0 .next _ H' (.stop (TV.eq (ag (ad rfl) (af (af (ad rfl) (c.get h1 ⟨rfl,hfd⟩) rfl rfl rfl) (c.get c1 ⟨rfl,hR _ rs⟩) rfl rfl rfl) eX) (decide_eq_false (by lia))))) fun cnt' w'=>?_;rw [hk] at w';exact kK H' (ok.fnD 57 rfl rfl fun Q q=>eS w' (W.ret (ad rfl) q)) a b c
theorem xO(ok:OK S){d tb rd fo run k:Nat}{v:Int}{pre:List Int}{found:List Int}{st:List Bool}(o:sc.OK F)(hR:∀i,R i->i≠fo)(ho:old sc.low pre)(hk:k+pre.length<=sc.end_)(wa:aY R H s sc)(h1:H[d]? = some (l9 s tb rd run))(hf:H[fo]? = some (.list (zs found)))(hl:found.length=4)(hv:sz v sc.low=1)(hh:Holds found k sc.low (pre++[v]))(x:bP H rd (dL sc.low pre++st)){kP:Prop}(kK:∀H',aE S 4 (.top 807) [.obj d,.obj fo,.int k,.int (nz sc.low pre)] H (.int (k+pre.length:Nat)) H'->H'[fo]? = some (.list (zs (dq sc.low found k pre)))->bP H' rd st->Kp (GP fo) H H'->kP):kP:=by
 haveI hp:=fun i u hu=>hh i u (by exact er (O4 (bc hu)) hu);refine ba (hh pre.length v (by simp)) fun h0 vb=>dN (uj vb o.lo) fun kz _ _=>?_;have hfd:d≠fo:=by first | exact Internal.hk h1 hf | exact Internal.hk hf h1
 refine vc (qL ok o hR pre k (nz sc.low pre) found st H ho (OF _) (Pq ‹_›) wa h1 hf hl hp x) fun H' w a b c=>fQ (id wa) fun pl sl q_a c1 _=>ba q_a fun rs _=>?_;haveI k4:=bc h0;refine b7 (w 0 (.ret (.int (k+pre.length:Nat))) [some (.obj d),some (.obj fo),some (.int (k+pre.length:Nat)),some (.int (nz sc.low pre - nz sc.low pre:Nat))] H' (.ret (TV.eq (ag (ad rfl) (af (af (ad rfl) (c.get h1 ⟨rfl,hfd⟩) rfl rfl rfl) (c.get c1 ⟨rfl,hR _ rs⟩) rfl rfl rfl) eX) (decide_eq_true (P8.mpr ‹_›))) fun Q q=>by
  refine jH (ag (aS (ad rfl) (ad rfl) a (by lia) (cY (q:=0) ?_)) EV.int eV) rfl ?_
  ·refine er (lO (OF _)) ?_;refine er h0 (er (kz.mpr (Ji hv)) ?_);rfl
  ·exact bE (ag (ad rfl) EV.int bO) (decide_eq_true Jh) (W.ret (ad rfl) q))) fun cnt' w'=>?_
 exact kK H' (ok.fnD 57 rfl rfl fun Q q=>eS w' q) a b c
end
end
section
mutual #where
variable {S:be} {n:Nat} {H H' H1 H2 E E':List O} {i:Nat} {l l1:aW} {v y:V} {c:C} {t:T} {R:Nat->Prop} {sc:SD} {s:Nat} {F:FD}
theorem vx(ok:OK S){d tb rd run z:Nat}{v0:Int}{st:List Bool}(o:sc.OK F)(wa:aY R H s sc)(h1:H[d]? = some (l9 s tb rd run))(hz:z<=3)(hv:-7<=v0/\v0<=7)(hs:sz v0 sc.low=1)(x:bP H rd (decide (0<v0)::st)){kP:Prop}(kK:∀H',aE S 2 (.top 814) [.obj d,.int (kZ z 1)] H (.int (nv v0 sc.low)) H'->bP H' rd st->Kp GR H H'->kP):kP:=by
 refine fQ (id wa) fun pl sl q_a c1 _=>ba q_a fun rs _=>eZ (d7 ok x) fun H1 a1 a2 a3=>mO (cN x) fun _ _ e0=>?_;have s1:=a3.get c1 rfl;have olo:=o.lo;refine kK H1 (ok.fnD 58 rfl rfl fun Q q=>?_) a2 a3;have hsy:kZ z 1=((16*z+1)):=rfl;have d1:=a3.get h1 rfl;refine ay (ag (ad rfl) (EV.glob rfl) bO) (decide_eq_false (by refine er hsy ?_;lia)) ?_;haveI pw:EV S 1 (.bin .Pow (.int 2) (.att (.att (.loc 0) 21) 36)) [some (.obj d),some (.int (kZ z 1))] H1 (.int (2^sc.low)) H1:=au (EV.pow EV.int (af (af (ad rfl) d1 rfl rfl rfl) s1 rfl rfl rfl) (bT (z0) (B4 olo) (av (by decide) (by decide)))) (by rw [ON]);refine ay (ag (au (EV.band (ad rfl) EV.int) (kc (by decide))) EV.int eV) rfl ?_;refine dN (uj hv o.lo) fun _ _ h3=>?_;have h3:=h3 hs;by_cases hp:0<v0
 ·rw [if_pos hp] at h3;rw [decide_eq_true hp] at a1;rw [h3] at q;exact W.ret (de (ag (EV.meth (af (ad rfl) h1 rfl rfl rfl) e0 rfl rfl .nil a1 (by decide)) EV.int bO) rfl pw) q
 ·rw [if_neg hp] at h3;rw [decide_eq_false hp] at a1;rw [h3] at q;exact W.ret (cP (ag (EV.meth (af (ad rfl) h1 rfl rfl rfl) e0 rfl rfl .nil a1 (by decide)) EV.int bO) rfl (EV.neg pw)) q
abbrev yJ:P:=bz.body.get 1
theorem Dc(ok:OK S){d p tb rd r fo k run:Nat}{st:List Bool}{a b c:Option V}(tbl:bQ R H tb)(h1:H[d]? = some (l9 s tb rd 0))(hr:0<run)(hr16:run<16)(x:bP H rd (fl run++st))(hk:k<=sc.end_){kP:Prop}(kK:∀a' b' H',qg S 4 yJ.wt yJ.b1 1 [some (.obj d),some (.int p),some (.obj r),some (.obj fo),some (.int k),some (.int sc.end_),a,b,c] H .next [some (.obj d),some (.int p),some (.obj r),some (.obj fo),some (.int k),some (.int sc.end_),a',b',c] H'->H'[d]? = some (l9 s tb rd run)->bP H' rd st->Kp GS H H'->kP):kP:=by
 have l4:run.log2<4:=(QG (uX hr)).mpr hr16;have p2:=Rb (uX hr);have p3:run<2^(run.log2+1):=Ra;rw [Rh] at p3;unfold fl at x;rw [if_pos hr] at x;generalize hg:run.log2=g at *;have p1:=P5 g;rw [OB] at x;refine eZ (fC ok tbl x l4 (by decide)) fun H1 a1 a2 a3=>DN tbl fun _ _ _ _ _ _ _ t0 _=>?_;haveI d2:=a3.get h1 rfl;have tok3:=a2.set (o:=l9 s tb rd (2^g)) d2 (by decide);haveI d3:(H1.set d (l9 s tb rd (2^g)))[d]? = some (l9 s tb rd (2^g)):=aM (aA d2);haveI K3:Kp GS H (H1.set d (l9 s tb rd (2^g))):=Kp.setO (a3.mono GR.GS) h1 nofun;refine mO (cN tok3) fun _ _ rd3=>jn ok tok3 (Ik p3) (Iz l4) fun H4 b1 b2 b3=>?_;have pre:∀ {P:Fl->aW->List O->Prop},bH S 4 ((yJ.b1.get 2).b1.from 1) [some (.obj d),some (.int p),some (.obj r),some (.obj fo),some (.int k),some (.int sc.end_),some (.int (kZ g 0)),some (.int g),c] (H1.set d (l9 s tb rd (2^g))) (KR S 4 .nil P)->
   bH S 4 yJ.b1 [some (.obj d),some (.int p),some (.obj r),some (.obj fo),some (.int k),some (.int sc.end_),a,b,c] H P:=fun hq=>by
  refine aD (EV.meth (af (ad rfl) h1 rfl rfl rfl) t0 rfl rfl (.cons (af (ad rfl) h1 rfl rfl rfl) .nil) a1 (by decide)) ?_;refine aD (au (EV.shr (ad rfl) EV.int (by decide)) (mE (by decide))) ?_;refine bE (bh (bq.yes (ag (au (EV.band (ad rfl) EV.int) (kc (by decide))) EV.int bO) rfl (bq.yes (ag (ad rfl) EV.int iF) (decide_eq_true (FL l4)) bq.nil))) rfl ?_;exact aN (au (EV.pow EV.int (ad rfl) (bT (z0) (Iy l4) (av (by decide) (by decide)))) (gK g)) (ad rfl) d2 rfl rfl hq
 have stop:∀ {H5:List O} {a' b':Option V},H5[d]? = some (l9 s tb rd run)->qg S 4 yJ.wt yJ.b1 0 [some (.obj d),some (.int p),some (.obj r),some (.obj fo),some (.int k),some (.int sc.end_),a',b',c] H5 .next [some (.obj d),some (.int p),some (.obj r),some (.obj fo),some (.int k),some (.int sc.end_),a',b',c] H5:=fun hd=>.stop (bh (bq.no (ag (af (ad rfl) hd rfl rfl rfl) EV.int bO) (decide_eq_false (by lia))));have cond:TV S 4 yJ.wt [some (.obj d),some (.int p),some (.obj r),some (.obj fo),some (.int k),some (.int sc.end_),a,b,c] H true H:=bh (bq.yes (ag (af (ad rfl) h1 rfl rfl rfl) EV.int bO) rfl (bq.yes (ag (ad rfl) (ad rfl) eX) (decide_eq_true (Jw hk)) bq.nil));by_cases hz:0<g
 ·have d4:=b3.get d3 rfl;haveI d5:(H4.set d (l9 s tb rd run))[d]? = some (l9 s tb rd run):=aM (aA d4);refine kK (some (.int (kZ g 0))) (some (.int g)) (H4.set d (l9 s tb rd run)) (.step cond (fun Q q=>pre ?_) (stop d5)) d5 (b2.set d4 (by decide)) (Kp.setO (K3.trans (b3.mono GR.GS)) h1 nofun);refine bE (ag (ad rfl) EV.int bt) (decide_eq_true (uW hz)) ?_;exact aN (au (EV.add (af (ad rfl) d3 rfl rfl rfl) (EV.meth (af (ad rfl) d3 rfl rfl rfl) rd3 rfl rfl (.cons (ad rfl) .nil) b1 (by decide))) (Jg p2)) (ad rfl) d4 rfl rfl (W.nil (W.nil (W.nil q)))
 ·haveI g0:=Bp hz;subst g0;have r1:=FM p3 p2;subst r1;refine kK (some (.int (kZ 0 0))) (some (.int (0:Nat))) _ (.step cond (fun Q q=>pre ?_) (stop d3)) d3 tok3 K3;exact ay (ag (ad rfl) EV.int bt) (decide_eq_false Bt) (W.nil (W.nil q))
theorem Db(ok:OK S){d p tb rd r fo k:Nat}{v0:Int}{pre:List Int}{st:List Bool}{a b c:Option V}{found:List Int}(o:sc.OK F)(wa:aY R H s sc)(hR:∀i,R i->i≠fo)(tbl:bQ R H tb)(h1:H[d]? = some (l9 s tb rd 0))(hf:H[fo]? = some (.list (zs found)))(hl:found.length=4)
  (ho:old sc.low pre) (hpl:pre.length<=3) (hk:k+pre.length<=sc.end_) (he:sc.end_<=3) (hs:sz v0 sc.low=1) (hh:Holds found k sc.low (pre++[v0])) (x:bP H rd (nb 5 (6*nz sc.low pre+1)++(decide (0<v0)::(dL sc.low pre++st)))) :
  ∃a' b' c' H',TV S 4 yJ.wt [some (.obj d),some (.int p),some (.obj r),some (.obj fo),some (.int k),some (.int sc.end_),a,b,c] H true H/\
   (∀Q:Fl->aW->List O->Prop,Q .next [some (.obj d),some (.int p),some (.obj r),some (.obj fo),some (.int (k+pre.length+1:Nat)),some (.int sc.end_),a',b',c'] H'->bH S 4 yJ.b1 [some (.obj d),some (.int p),some (.obj r),some (.obj fo),some (.int k),some (.int sc.end_),a,b,c] H Q)/\
   H'[d]? = some (l9 s tb rd 0)/\H'[fo]? = some (.list (zs ((dq sc.low found k pre).set (k+pre.length) (nv v0 sc.low))))/\bP H' rd st/\Kp (GX fo) H H':=by
 refine BR fun _ kK=>ba (hh pre.length v0 (by simp)) fun h0 vb=>?_;haveI nzl:=mK ho;refine eZ (fC ok tbl x (by lia) (by decide)) fun H1 a1 a2 a3=>DN tbl fun _ _ _ _ _ _ _ t0 _=>?_;haveI d1:=a3.get h1 rfl;refine vx ok (z:=nz sc.low pre) o (wa.keep a3 fun i o _ g=>GR.GS i o g) d1 (by lia) vb hs a2 fun H2 b1 b2 b3=>?_;haveI k2:=a3.trans b3;have hfd:d≠fo:=by first | exact Internal.hk h1 hf | exact Internal.hk hf h1
 have d2:=k2.get h1 rfl;refine xO ok o hR ho hk (wa.keep k2 fun i o _ g=>GR.GS i o g) d2 (k2.get hf rfl) hl hs hh b2 fun H3 e1 e2 e3 e4=>?_;have d3:=e4.get d2 ⟨rfl,hfd⟩;refine kK (some (.int (kZ (nz sc.low pre) 1))) (some (.int (nz sc.low pre))) (some (.int (nv v0 sc.low))) (H3.set fo (.list (zs ((dq sc.low found k pre).set (k+pre.length) (nv v0 sc.low))))) ?_ (fun Q q=>?_) (cj (Ne.symm hfd) d3) (aM (aA e2)) (e3.setL e2) ?_
 ·exact bh (bq.yes (ag (af (ad rfl) h1 rfl rfl rfl) EV.int bO) rfl (bq.yes (ag (ad rfl) (ad rfl) eX) (decide_eq_true (Ee hk)) bq.nil))
 ·refine aD (EV.meth (af (ad rfl) h1 rfl rfl rfl) t0 rfl rfl (.cons (af (ad rfl) h1 rfl rfl rfl) .nil) a1 (by decide)) ?_;refine aD (au (EV.shr (ad rfl) EV.int (by decide)) (mE (by decide))) ?_;refine jH (bh (bq.no (ag (au (EV.band (ad rfl) EV.int) (kc (by decide))) EV.int bO) rfl)) rfl ?_;refine aD (EV.meth (ad rfl) d1 rfl rfl (.cons (ad rfl) .nil) b1 (by decide)) ?_;refine aD (EV.meth (ad rfl) d2 rfl rfl (.cons (ad rfl) (.cons (ad rfl) (.cons (ad rfl) .nil))) e1 (by decide)) ?_;refine ay (ag (ad rfl) (ad rfl) bt) (decide_eq_false (Ed hk)) ?_;refine dm (ad rfl) (ad rfl) (ad rfl) e2 (bT (OS _) (by refine er ci ?_;exact er j7 (Eh hk hl he)) (by refine er ci ?_;exact er j7 (zz hl))) ?_;rewrite [ON];exact er k8 (aD (au (q:=((k+pre.length+1:Nat):Int)) (EV.add (ad rfl) EV.int) rfl) (W.nil (W.nil q)))
 ·exact Kp.setO ((k2.mono fun i o g=>GR.GS i o g.1).trans (e4.mono GP.X)) hf (fun z=>z.2 rfl)
end
end
section
mutual #where
variable {S:be} {n:Nat} {H H' H1 H2 E E':List O} {i:Nat} {l l1:aW} {v y:V} {c:C} {t:T} {R:Nat->Prop} {sc:SD} {s:Nat} {F:FD}
theorem Aw{run:Nat}{kept:List Bool}(h:0<run):kG run kept=fl run++kept:=if_pos h
theorem Af{low:Nat}{vs:List Int}{v:Int}(h:old low vs)(hv:sz v low≠1):old low (vs++[v]):=fun u hu=>by
 rcases O9.mp hu with q | q
 ·exact h u q
 ·exact er (OZ.mp q) hv
structure Ng(sc:SD)(d s tb rd fo:Nat)(rest:List (Nat×List Int))(tail:List Bool)(goal:List Int)(k:Nat)(l':aW)(H':List O)(run:Nat)(suf found':List Int):Prop where
 d:H'[d]? = some (l9 s tb rd run)
 f:H'[fo]? = some (.list (zs found'))
 old:old sc.low suf
 len:k+suf.length=sc.end_+1
 sl:suf.length<=3
 holds:Holds found' k sc.low suf
 upd:dq sc.low found' k suf=goal
 fl:found'.length=4
 st:(run=0/\suf=[]/\bP H' rd (jX sc (0,[]) rest++tail))∨(run=1+eP sc rest/\bP H' rd (dL sc.low suf++(md sc (rest.take (eP sc rest))++(jX sc (0,[]) (rest.drop (eP sc rest))++tail))))
set_option maxHeartbeats 1000000 in
theorem AN(ok:OK S){d p tb rd r fo:Nat}{rest:List (Nat×List Int)}{tail:List Bool}(o:sc.OK F)(hR:∀i,R i->i≠fo)(he:sc.end_<=3)(h4:∀it∈rest,it.2.length=4)(h14:rest.length<=14):∀(vs pre:List Int) (k:Nat) (found:List Int) (H:List O) (a b c:Option V),
  k+pre.length+vs.length=sc.end_+1->pre.length+vs.length<=3->old sc.low pre->Holds found k sc.low (pre++vs)->aY R H s sc->bQ R H tb->H[d]? = some (l9 s tb rd 0)->H[fo]? = some (.list (zs found))->found.length=4->
  bP H rd ((bM sc.low 0 [] (nz sc.low pre) (dL sc.low pre) vs).1++(jX sc (ip (bM sc.low 0 [] (nz sc.low pre) (dL sc.low pre) vs).2) rest++tail))->
  ∃cnt a' b' c' H' run suf found' k',qg S 4 yJ.wt yJ.b1 cnt [some (.obj d),some (.int p),some (.obj r),some (.obj fo),some (.int k),some (.int sc.end_),a,b,c] H .next [some (.obj d),some (.int p),some (.obj r),some (.obj fo),some (.int (k':Nat)),some (.int sc.end_),a',b',c'] H'/\
   Ng sc d s tb rd fo rest tail (dq sc.low found k (pre++vs)) k' [] H' run suf found'/\Kp (GX fo) H H':=by
 intro m_;induction m_ with
 | nil=>
  intro pre k found H a b c hk hl3 ho hh wa tbl h1 hf hl x;haveI bn:ip (bM sc.low 0 [] (nz sc.low pre) (dL sc.low pre) []).2=if 0<nz sc.low pre∨dL sc.low pre≠[] then (1,dL sc.low pre) else (0,[]):=by rfl
  haveI en:(bM sc.low 0 [] (nz sc.low pre) (dL sc.low pre) []).1=[]:=rfl;rw [bn,en,Ph] at x;simp only [Rf,QL] at hk hl3;rw [OO] at hh⊢;haveI cz:=mK ho;cases hp:pre with
  | nil=>
   subst hp;rw [if_neg (show ¬(0<nz sc.low []∨dL sc.low []≠[]) from fun h=>h.elim (Pv 0) fun h=>h rfl)] at x;refine⟨0,a,b,c,H,0,[],found,k,.stop (bh (bq.yes (ag (af (ad rfl) h1 rfl rfl rfl) EV.int bO) rfl (bq.no (ag (ad rfl) (ad rfl) eX) (decide_eq_false (by simp at hk;lia))))),?_,.refl⟩;exact⟨h1,hf,ho,hk,by assumption,hh,rfl,hl,.inl (bT rfl rfl x)⟩
  | cons v0 pre0=>
   refine el hp ?_;refine BO fun _ kK=>?_;haveI p1:1<=pre.length:=by refine er hp ?_;simp
   rw [if_pos (by
    rcases Rz (nz sc.low pre) with e | e
    ·right;intro e2;rw [e2] at cz;simp at cz;exact KN cz e p1
    ·exact .inl e),vR o h4,Aw J2,OB,OB,OB] at x
   haveI ll:=qU (sc:=sc) rest;refine Dc ok tbl h1 J2 (EW ll h14) x (by lia) fun a' b' H' w d' x' K=>kK 1 a' b' c H' (1+eP sc rest) pre found (jb k w ⟨d',K.get hf rfl,ho,hk,hl3,hh,rfl,hl,.inr ⟨rfl,x'⟩⟩ (K.mono fun _ _ h=>h.1))
 | cons v vs ih_=>
  intro pre k found H a b c hk hl3 ho hh wa tbl h1 hf hl x;simp only [OQ] at hk hl3;by_cases e1:sz v sc.low=1
  ·rw [eF,if_neg (by lia),if_neg (by lia)] at x;haveI f0:kG 0 []=[]:=rfl;dsimp only at x;rw [f0,Ph,OB,Qr,OB] at x;have hh':Holds found k sc.low (pre++[v]):=fun i u hu=>hh i u (by
    haveI e:pre++v::vs=(pre++[v])++vs:=by simp
    refine er e ?_;exact er (O4 (bc hu)) hu)
   refine GH (Db (p:=p) (r:=r) (a:=a) (b:=b) (c:=c) ok o wa hR tbl h1 hf hl ho (KS hl3) (Ey hk) he e1 hh' x) fun a' b' c' H2 w1 w2 d2 f2 x2 K2=>?_;haveI hv2:Holds ((dq sc.low found k pre).set (k+pre.length) (nv v sc.low)) (k+pre.length+1) sc.low ([]++vs):=fun i u hu=>by
    haveI:=hh (pre.length+(i+1)) u (by refine er (OU (OL _ _)) ?_;exact er (La:pre.length+(i+1) - pre.length=i+1) hu);refine⟨?_,this.2⟩;refine er (O7 (by lia)) (er (lO (by lia)) ?_);exact er (by lia:k+pre.length+1+i=k+(pre.length+(i+1))) this.1
   refine IF (ih_ [] (k+pre.length+1) ((dq sc.low found k pre).set (k+pre.length) (nv v sc.low)) H2 a' b' c' (by simp;lia) (by simp;exact Fj hl3) (fun _ h=>ju h) hv2
    (wa.keep K2 fun i _ ri g=>⟨g,hR i ri⟩) (tbl.keep K2 fun i _ ri g=>⟨g,hR i ri⟩) d2 f2 (by refine er OW ?_;exact er j7 hl) x2) fun cnt a2 b2 c2 H' run suf q_a=>?_
   refine fQ q_a fun found' k' w ce K=>?_;haveI eg:dq sc.low found k (pre++v::vs)=dq sc.low ((dq sc.low found k pre).set (k+pre.length) (nv v sc.low)) (k+pre.length+1) ([]++vs):=by
    refine er wK ?_;refine er cE (er (if_neg (show ¬v.natAbs / 2^sc.low=0 by haveI:sz v sc.low=v.natAbs / 2^sc.low:=rfl;lia)) ?_);rfl
   refine⟨cnt+1,a2,b2,c2,H',run,suf,found',k',.step w1 w2 w,?_,K2.trans K⟩;exact er eg ce
  ·have e2:pre++v::vs=(pre++[v])++vs:=by simp
   rw [e2] at hh⊢;refine BO fun _ kK=>?_;haveI x':bP H rd ((bM sc.low 0 [] (nz sc.low (pre++[v])) (dL sc.low (pre++[v])) vs).1++(jX sc (ip (bM sc.low 0 [] (nz sc.low (pre++[v])) (dL sc.low (pre++[v])) vs).2) rest++tail)):=by
    rw [eF] at x;refine er yP (er Cy ?_);refine er fR (er fB ?_);by_cases e0:sz v sc.low=0
    ·rw [if_pos e0] at x;refine er (if_pos e0) (er (if_neg (Ix e0)) ?_);exact(OO (dL sc.low pre)).symm▸x
    ·rw [if_neg e0,if_pos (Fr e0 e1)] at x;exact er (if_neg e0) (er (if_pos (Fr e0 e1)) x)
   exact NZ (ih_ (pre++[v]) k found H a b c (by simp;exact Ex hk) (by simp;exact Im hl3) (Af ho e1) hh wa tbl h1 hf hl x') kK
def CR(sc:SD)(d s tb rd:Nat)(rem:List (Nat×List Int))(H:List O):Prop:=∃run tail,H[d]? = some (l9 s tb rd run)/\(run<=rem.length/\∀it∈rem.take run,old sc.low (band sc it.2))/\bP H rd (md sc (rem.take run)++(jX sc (0,[]) (rem.drop run)++tail))
theorem AM(ok:OK S){d tb rd r p:Nat}{row kr:List Int}{rem:List (Nat×List Int)}(o:sc.OK F)(hs:1<=sc.start)(wa:aY R H s sc)(tbl:bQ R H tb)(x:CR sc d s tb rd ((p,row)::rem) H)(hi:ze sc (p,row))(h4:∀it∈rem,it.2.length=4)(h14:rem.length<=14)(hr:H[r]? = some (.list (zs kr)))(hk:kr.length=4)(hh:Holds kr sc.start sc.low (band sc row)){kP:Prop}(kK:∀H' c,aE S 5 (.top 821) [.obj d,.int p,.obj r] H (.obj c) H'->H'[c]? = some (.list (zs (nA sc row kr)))->H.length<=c->CR sc d s tb rd rem H'->Kp GS H H'->kP):kP:=by
 refine fQ x fun run tail h1 q_a hx=>ba q_a fun h2 h3=>?_;haveI bl:(band sc row).length=_/\_:=gF o hi.len;haveI hbd:1<=sc.start/\sc.start<=sc.end_/\sc.end_<=3:=by rcases o.bd with q | q<;>lia
 refine dQ (id wa) fun pl sl q_a c1 c2 c3=>ba q_a fun rr _=>?_;generalize hHb:H++[O.list (zs kr)]++[O.tuple [.obj H.length,.int sc.start,.int sc.end_]]=Hb;haveI K0:cg H Hb:=by exact el hHb (.app (.app .refl))
 haveI db:=K0.at_ _ _ h1 trivial;have fb:Hb[H.length]? = some (.list (zs kr)):=by exact el hHb (ah aj)
 have xb:=hx.keep K0 fun _=>trivial;have hR':∀i,(fun i=>R i/\i<H.length) i->i≠H.length:=fun i h=>Pf h.2;have wb:aY (fun i=>R i/\i<H.length) Hb s sc:=(wa.region fun i hi ri=>⟨ri,hi⟩).keep K0 fun _ _ _ _=>trivial;haveI tbb:bQ (fun i=>R i/\i<H.length) Hb tb:=(tbl.region fun i hi ri=>⟨ri,hi⟩).keep K0 fun _ _ _ _=>trivial;have hdn:d≠H.length:=by haveI:=aA h1;exact z1 this
 have pre:∀ {Q:V->List O->Prop},bH S 4 (bz.body.from 1) [some (.obj d),some (.int p),some (.obj r),some (.obj H.length),some (.int sc.start),some (.int sc.end_),none,none,none] Hb (dA Q)->bH S 4 bz.body ([V.obj d,.int p,.obj r].map some++OM bz.ls.length none) H (dA Q):=fun hq=>by
  refine cL (bJ (.cons (fK (ad rfl) hr (by exact er ci (zz hk))) (.cons (af (af (ad rfl) (ah h1) rfl rfl rfl) (ah c1) rfl rfl rfl) (.cons (af (af (ad rfl) (ah h1) rfl rfl rfl) (ah c1) rfl rfl rfl) .nil)))) aj rfl ?_;exact er hHb hq
 have last:∀ {run k:Nat} {suf found:List Int} {st:List Bool} {H1:List O} {a b c:Option V},0<run->H1[d]? = some (l9 s tb rd run)->H1[H.length]? = some (.list (zs found))->found.length=4->old sc.low suf->suf.length<=3->k+suf.length=sc.end_+1->Holds found k sc.low suf->aY (fun i=>R i/\i<H.length) H1 s sc->bP H1 rd (dL sc.low suf++st)->Kp (GX H.length) Hb H1->
   ∃H',(∀Q:V->List O->Prop,Q (.obj H.length) H'->bH S 4 (bz.body.from 2) [some (.obj d),some (.int p),some (.obj r),some (.obj H.length),some (.int k),some (.int sc.end_),a,b,c] H1 (dA Q))/\H'[d]? = some (l9 s tb rd (run - 1))/\H'[H.length]? = some (.list (zs (dq sc.low found k suf)))/\bP H' rd st/\Kp GS H H':=fun {run k suf found st H1 a b c} r0 d1 f1 fl1 os sl3 hk1 hh1 w1 x1 K1=>by
  haveI fY:=mK os;refine xP (Z:=sc.end_+1) ok o hR' os (by lia) hk1 w1 d1 f1 fl1 hh1 x1 fun H2 a1 a2 a3 a4=>?_;have d2:=a4.get d1 ⟨rfl,hdn⟩;refine MA (H2.set d (l9 s tb rd (run - 1))) (fun Q q=>?_) (aM (aA d2)) (cj hdn a2) (a3.set d2 (by decide)) (Kp.setO (Kp.fresh K0.pre (K1.trans (a4.mono GP.X)) (OF _)) h1 nofun);refine bE (ag (af (ad rfl) d1 rfl rfl rfl) EV.int bt) (decide_eq_true (uW r0)) ?_;refine aP (EV.meth (ad rfl) d1 rfl rfl (.cons (ad rfl) (.cons (ad rfl) (.cons (au (EV.add (ad rfl) EV.int) Bs) .nil))) a1 (by decide)) ?_;exact aN (au (EV.sub (af (ad rfl) d2 rfl rfl rfl) EV.int) (Ep r0)) (ad rfl) d2 rfl rfl (W.nil (W.ret (ad rfl) q))
 by_cases r0:0<run
 ·obtain⟨run,rfl⟩:∃k,run=k+1:=⟨run - 1,Fu r0⟩;rw [QJ] at xb;haveI ho:=h3 _ (.head _);rw [Qb] at h3 xb;haveI e1:md sc ((p,row)::rem.take run)=dL sc.low (band sc row)++md sc (rem.take run):=rfl;rw [e1,OB] at xb;refine IJ (last (suf:=band sc row) (a:=none) (b:=none) (c:=none) r0 db fb hk ho (Jp bl.2.2 bl.1) (EB bl.1 bl.2.1) hh wb xb .refl) fun H' w q1 q2 q3 q4=>kK H' H.length (ok.fnD 59 rfl rfl fun Q q=>pre ?_) q2 (OF _) (lN run tail q1 ⟨by simpa using h2,fun it hit=>h3 it (.tail _ hit)⟩ q3) q4;refine eS (.stop (bh (bq.no (ag (af (ad rfl) db rfl rfl rfl) EV.int bO) (decide_eq_false (by lia))))) (w Q q)
 ·have r00:=Bp r0;obtain rfl:=r00.symm;rw [RU,Qp,fz,OB] at xb;refine IF (AN ok (p:=p) (r:=r) o hR' hbd.2.2 h4 h14 (band sc row) [] sc.start kr Hb none none none
   (by simp;exact EB bl.1 bl.2.1) (by simp;exact Jp bl.2.2 bl.1) (fun _ h=>ju h) hh wb tbb db fb hk xb) fun cnt a' b' c' H1 run1 suf q_a=>?_
  refine fQ q_a fun found' k' w ce K=>?_;rcases ce.st with ⟨e1,e2,e3⟩ | ⟨e1,e3⟩
  ·subst e1 e2;refine kK H1 H.length (ok.fnD 59 rfl rfl fun Q q=>pre ?_) ?_ (OF _) (lN 0 tail ce.d ⟨PF _,by assumption⟩ (by refine er RU ?_;exact er Qp e3)) (Kp.fresh K0.pre K (OF _))
   ·refine eS w ?_;exact ay (ag (af (ad rfl) ce.d rfl rfl rfl) EV.int bt) (decide_eq_false Bt) (W.ret (ad rfl) q)
   ·haveI:=ce.f;replace this:=(show found'=dq sc.low kr sc.start (band sc row) from ce.upd)▸this;exact this
  ·haveI ll:=qU (sc:=sc) rem;refine IJ (last (a:=a') (b:=b') (c:=c') (by lia) ce.d ce.f ce.fl ce.old ce.sl ce.len ce.holds (wb.keep K fun i _ ri g=>⟨g,Pf ri.2⟩) e3 K) fun H' w' q1 q2 q3 q4=>?_;rw [ce.upd] at q2;refine kK H' H.length (ok.fnD 59 rfl rfl fun Q q=>pre (eS w (w' Q q))) q2 (OF _) (lN (eP sc rem) tail (by replace q1:=(F8:1+eP sc rem - 1=eP sc rem)▸(e1▸q1);exact q1) ⟨ll,vF rem⟩ q3) q4
theorem vY(ok:OK S){d tb rd:Nat}(x:CR sc d s tb rd [] H):aE S 1 (.top 828) [.obj d] H .none H:=by
 refine fQ x fun run tail h1 q_a _=>ba q_a fun h2 _=>?_;have r0:run=0:=by simpa using h2
 obtain rfl:=r0.symm;exact ok.fnD 60 rfl rfl fun Q q=>ay (ag (af (ad rfl) h1 rfl rfl rfl) EV.int bt) (decide_eq_false Bt) (W.nil q)
end
end
section
mutual #where
variable {S:be} {n:Nat} {H H' H1 H2 E E':List O} {i:Nat} {l l1:aW} {v y:V} {c:C} {t:T} {R:Nat->Prop} {sc:SD} {s:Nat} {F:FD}
def eK(sc:SD)(its:List (Nat×List Int)):Prop:=∀it∈its,ze sc it
theorem vU(o:sc.OK F):∀ {its:List (Nat×List Int)} {bf:List Int},lJ sc bf->eK sc its->(io sc.low bf its).length<=9*its.length:=by
 intro its bf;induction its generalizing bf with
 | nil=>
  intro _ _;exact OF _
 | cons it_ its ih_=>
  obtain⟨p,row⟩:=it_;intro hb hw;haveI hi:=hw _ (.head _);refine fQ (ke hi.len hi.bd) fun v vs e hv v1=>eZ (hb.get hi.p) fun u u1 u2 u3=>?_;have sb:=pv v1 o.lo;haveI ih:=ih_ (hb.set (p:=p) sb) fun it h=>hw it (.tail _ h);refine er jY ?_;dsimp only at e u2 hv;refine er hv (er u2 ?_);simp only [OA,cI,ev,OQ];refine ba (k9 (L6 sb.2 u3.2 u3.1 sb.1)) fun e1 _=>Kk e1 ih
theorem tv{low:Nat}:∀ {run z:Nat} {vs:List Int},run<16->(∀v∈vs,-7<=v/\v<=7)->(cr low run z vs).1.length<=17*vs.length:=by
 intro run z vs;induction vs generalizing run z with
 | nil=>
  intro _ _;exact PF _
 | cons v vs ih_=>
  intro hr hv;refine er cU ?_;split
  ·haveI:=ih_ (z:=z+1) hr fun u hu=>hv u (.tail _ hu);exact Jf this
  ·haveI:=ih_ (run:=0) (z:=0) (by decide) fun u hu=>hv u (.tail _ hu);haveI f:=nu run hr;haveI qb:=xG (low:=low) (hv v (.head _));simp only [OA,cI,ev,OQ];refine ba (k9 (Kl qb.2 qb.1)) fun e1 _=>Je this e1 f
theorem yC(o:sc.OK F):∀ {its:List (Nat×List Int)} {run:Nat},run+its.length<=15->eK sc its->(iZ sc run its).length<=51*its.length+8:=by
 intro its run;induction its generalizing run with
 | nil=>
  intro h _;haveI:=nu run (by simp at h;exact It h);assumption
 | cons it_ its ih_=>
  obtain⟨p,row⟩:=it_;intro h hw;haveI hi:=hw _ (.head _);haveI bl:=uy (low:=sc.low) (run:=run) (z:=0) (vs:=band sc row);haveI ih:=ih_ (Cc h bl) fun it h=>hw it (.tail _ h);refine er fA (er OA ?_);haveI b3:=gF o hi.len;haveI:=tv (low:=sc.low) (z:=0) (vs:=band sc row) (Ic h) (uC hi.bd);exact JX h b3.2.2 b3.1 this ih
theorem vP{low:Nat}:∀ {run:Nat} {kept:List Bool} {z:Nat} {here:List Bool} {vs:List Int},run<16->kept.length<=3*run->here.length+vs.length<=3->
  (bM low run kept z here vs).1.length<=63*vs.length/\(bM low run kept z here vs).2.1.2.length<=3*(bM low run kept z here vs).2.1.1/\(bM low run kept z here vs).2.2.2.length<=3/\(bM low run kept z here vs).2.1.1<=run:=by
 intro run kept z here vs;induction vs generalizing run kept z here with
 | nil=>
  intro _ hk hh;exact oK (PF _) hk (by assumption) (OF _)
 | cons v vs ih_=>
  intro hr hk hh;refine er eF ?_;split
  ·refine ba (ih_ hr hk (KU hh)) fun a b=>⟨EU a,b⟩
  ·split
   ·refine ba (ih_ hr hk (by simp;exact Im hh)) fun a b=>⟨EU a,b⟩
   ·refine sn (ih_ (run:=0) (kept:=[]) (z:=0) (here:=[]) (by decide) (by simp) (by simp;exact Fj hh)) fun a b1 b2 b3=>?_;haveI f:=pP (kept:=kept) hr;refine oK ?_ b1 b2 (Oz b3 (PF _));simp only [OA,cI,OQ];exact JZ hh hr hk a f
theorem yB(o:sc.OK F):∀ {its:List (Nat×List Int)} {run:Nat} {kept:List Bool},run+its.length<=15->kept.length<=3*run->eK sc its->(jX sc (run,kept) its).length<=189*its.length+60:=by
 intro its run kept;induction its generalizing run kept with
 | nil=>
  intro h hk _;haveI:=pP (kept:=kept) (by simp at h;exact It h);refine(?_:(kG run kept).length<=_);simp at h;exact Jd h hk this
 | cons it_ its ih_=>
  obtain⟨p,row⟩:=it_;intro h hk hw;have hi:=hw _ (.head _);haveI b3:(band sc row).length=_/\_:=gF o hi.len;refine sn (vP (low:=sc.low) (z:=0) (here:=[]) (Ic h) hk (by simp;exact Jp b3.2.2 b3.1)) fun a b1 b2 b4=>er fz ?_;refine er OA ?_;haveI hb:(ip (bM sc.low run kept 0 [] (band sc row)).2).1<=run+1/\(ip (bM sc.low run kept 0 [] (band sc row)).2).2.length<=3*(ip (bM sc.low run kept 0 [] (band sc row)).2).1:=by
   unfold ip;split
   ·simp only [OA];exact J1 b4 b2 hk b1
   ·exact J9 b4 hk b1
  haveI ih:=ih_ (Cc h hb.1) hb.2 fun it h=>hw it (.tail _ h);haveI ih2:=ih;exact JY b3.2.2 b3.1 ih2 a
def ef(sc:SD)(its:List (Nat×List Int)):List Bool:=
 if sc.start=0 then (if sc.high=0 then io sc.low (OM sc.places.length 0) its else jE sc.low its) else (if sc.high=0 then iZ sc 0 its else jX sc (0,[]) its)
def eU(sc:SD)(row kr:List Int):List Int:=
 if sc.start=0 then (if sc.high=0 then oa (row.headD 0) sc.low*2^sc.low::kr.drop 1 else IQ sc.low row kr) else nA sc row kr
def yf(sc:SD)(row kr:List Int):Prop:=kr.length=4/\(sc.start≠0->sc.high≠0->Holds kr sc.start sc.low (band sc row))
abbrev GZ(X:Nat->Prop):Nat->O->Prop:=fun i o=>fD o=true/\¬X i
def Oi:O->Bool
 | .list _=>true
 | _=>false
theorem a9.pre{k t w b:Nat}{st:List Bool}(x:a9 H k t w b st)(P:cg H H'):a9 H' k t w b st:=x.keep P (fun _=>trivial) (fun _=>trivial) fun _=>trivial
structure Wr(S:be)(R X:Nat->Prop)(F:FD)(s t:Nat)(sc:SD)(C fc ff d:Nat)(T:List Bool)(WI:List (Nat×List Int)->List O->Prop):Prop where
 inst:∀rem H,WI rem H->∃fs,H[d]? = some (.inst C fs)/\fs.lookup 48=none/\fs.lookup 57=none
 m1:jw C 48=some fc
 m2:jw C 57=some ff
 code:∀p row rem H r,cW R H F s t sc->WI ((p,row)::rem) H->ze sc (p,row)->H[r]? = some (.list (zs row))->∃H',aE S 5 (.top fc) [.obj d,.int (p:Nat),.obj r] H .none H'/\WI rem H'/\Kp (GZ X) H H'
 fin:∀H,cW R H F s t sc->WI [] H->∃H' bs pad,aE S 5 (.top ff) [.obj d] H (.bytes bs) H'/\gu bs=T++pad/\bs.size<=100000/\Kp GF H H'
 keep:∀rem H H',WI rem H->cg H H'->WI rem H'
structure Rr(S:be)(R X:Nat->Prop)(F:FD)(s t:Nat)(sc:SD)(C fr ff d:Nat)(RI:List (Nat×List Int)->List O->Prop):Prop where
 inst:∀rem H,RI rem H->∃fs,H[d]? = some (.inst C fs)/\fs.lookup 49=none/\fs.lookup 57=none
 m1:jw C 49=some fr
 m2:jw C 57=some ff
 keep:∀rem H H',RI rem H->Kp (fun i o=>Oi o=false∨X i) H H'->RI rem H'
 read:∀p row kr rem H r,cW R H F s t sc->RI ((p,row)::rem) H->ze sc (p,row)->eK sc rem->H[r]? = some (.list (zs kr))->¬X r->yf sc row kr->
  ∃H' c,aE S 5 (.top fr) [.obj d,.int (p:Nat),.obj r] H (.obj c) H'/\H'[c]? = some (.list (zs (eU sc row kr)))/\H.length<=c/\RI rem H'/\Kp (GZ X) H H'
 fin:∀H,RI [] H->aE S 1 (.top ff) [.obj d] H .none H
theorem nN(ok:OK S)(o:sc.OK F)(wa:aY R H s sc):aE S 1 (.top 842) [.obj s,.int 2] H .none H:=ok.fnD 61 rfl rfl fun Q q=>by
 refine dQ wa fun pl sl _ c1 c2 c3=>?_;haveI plen:=o.plen;haveI olo:=o.lo;have a1:EV S 0 (.att (.loc 0) 33) [some (.obj s),some (.int 2)] H (.int sc.start) H:=af (ad rfl) c1 rfl rfl rfl;have a2:EV S 0 (.att (.loc 0) 34) [some (.obj s),some (.int 2)] H (.int sc.end_) H:=af (ad rfl) c1 rfl rfl rfl;haveI a3:EV S 0 (.att (.loc 0) 35) [some (.obj s),some (.int 2)] H (.int sc.high) H:=af (ad rfl) c1 rfl rfl rfl;haveI a4:EV S 0 (.att (.loc 0) 36) [some (.obj s),some (.int 2)] H (.int sc.low) H:=af (ad rfl) c1 rfl rfl rfl;have bd:sc.start<=sc.end_/\sc.end_<=3/\(sc.start=0->sc.end_=0)/\(0<sc.start->sc.places.length=1):=by rcases o.bd with q | q<;>lia
 refine ay (fJ (fg.no (ag a1 EV.int iF) (decide_eq_false DL) (fg.no (ag a1 a2 bt) (decide_eq_false (KI bd.1)) (fg.no (ag a2 (EV.sub (EV.mul (ad rfl) (ad rfl) (av (by decide) (by decide))) EV.int) bt) (decide_eq_false (Lw bd.2.1)) fg.nil)))) rfl ?_;have last:bH S 0 (gS.body.from 3) [some (.obj s),some (.int 2)] H (dA Q):=by
  have hi:=o.hi;by_cases h0:sc.high=0
  ·exact ay (fJ (fg.no (ag a4 EV.int iF) (decide_eq_false DL) (fg.no (ag a4 EV.int bt) (decide_eq_false (Fy olo)) (fg.no (bh (bq.no (ag a3 EV.int eV) (by simp [h0]))) rfl fg.nil)))) rfl (W.nil q)
  ·refine ay (fJ (fg.no (ag a4 EV.int iF) (decide_eq_false DL) (fg.no (ag a4 EV.int bt) (decide_eq_false (Fy olo)) (fg.no (bh (bq.yes (ag a3 EV.int eV) (by simp;exact Ip h0) (bq.no (ag a3 (EV.add a4 EV.int) eV) (by simp;exact EZ hi h0)))) rfl fg.nil)))) rfl (W.nil q)
 have third:bH S 0 (gS.body.from 2) [some (.obj s),some (.int 2)] H (dA Q):=by
  by_cases h0:0<sc.start
  ·exact ay (bh (bq.yes (ag a1 EV.int bt) (decide_eq_true (uW h0)) (bq.no (ag (bW (af (ad rfl) c1 rfl rfl rfl) c2 (by exact er cO (Jc h0 bd.2.2.2))) EV.int eV) (by refine er cO (er (bd.2.2.2 h0) ?_);rfl)))) rfl last
  ·exact ay (bh (bq.no (ag a1 EV.int bt) (decide_eq_false (B6 h0)))) rfl last
 by_cases h0:sc.start=0
 ·exact ay (bh (bq.yes (ag a1 EV.int bO) (decide_eq_true (z9 h0)) (bq.no (ag a2 EV.int eV) (by refine er (bd.2.2.1 h0) ?_;rfl)))) rfl third
 ·exact ay (bh (bq.no (ag a1 EV.int bO) (decide_eq_false (zu h0)))) rfl third
end
end
section
mutual #where
variable {S:be} {n:Nat} {H H' H1 H2 E E':List O} {i:Nat} {l l1:aW} {v y:V} {c:C} {t:Nat} {R:Nat->Prop} {sc:SD} {s:Nat} {F:FD}
theorem t9(ok:OK S){k:Nat}{d:V}(o:sc.OK F)(wa:aY R H s sc)(hc:aE S 3 (.top (if sc.start=0 then (if sc.high=0 then 579 else 621) else (if sc.high=0 then 495 else 768))) [.obj s,.obj k] H d H1):aE S 4 (.top 849) [.obj s,.int 2,.obj k] H d H1:=ok.fnD 62 rfl rfl fun Q q=>by
 refine dQ (id wa) fun pl sl _ c1 c2 c3=>aP (EV.fcall rfl (.cons (ad rfl) (.cons (ad rfl) .nil)) (nN ok o wa) (by decide)) ?_;haveI a1:EV S 3 (.att (.loc 0) 33) [some (.obj s),some (.int 2),some (.obj k)] H (.int sc.start) H:=af (ad rfl) c1 rfl rfl rfl;haveI a3:EV S 3 (.att (.loc 0) 35) [some (.obj s),some (.int 2),some (.obj k)] H (.int sc.high) H:=af (ad rfl) c1 rfl rfl rfl;by_cases h0:sc.start=0
 ·rw [if_pos h0] at hc;refine bE (ag a1 EV.int bO) (decide_eq_true (z9 h0)) ?_;by_cases h1:sc.high=0
  ·rw [if_pos h1] at hc;exact W.ret (de (ag a3 EV.int bO) (decide_eq_true (z9 h1)) (EV.fcall rfl (.cons (ad rfl) (.cons (ad rfl) .nil)) hc (by decide))) q
  ·rw [if_neg h1] at hc;exact W.ret (cP (ag a3 EV.int bO) (decide_eq_false (zu h1)) (EV.fcall rfl (.cons (ad rfl) (.cons (ad rfl) .nil)) hc (by decide))) q
 ·rw [if_neg h0] at hc;refine ay (ag a1 EV.int bO) (decide_eq_false (zu h0)) ?_;by_cases h1:sc.high=0
  ·rw [if_pos h1] at hc;exact W.ret (de (ag a3 EV.int bO) (decide_eq_true (z9 h1)) (EV.fcall rfl (.cons (ad rfl) (.cons (ad rfl) .nil)) hc (by decide))) q
  ·rw [if_neg h1] at hc;exact W.ret (cP (ag a3 EV.int bO) (decide_eq_false (zu h1)) (EV.fcall rfl (.cons (ad rfl) (.cons (ad rfl) .nil)) hc (by decide))) q
structure HX(S:be)(R:Nat->Prop)(F:FD)(s t k:Nat)(sc:SD)(its:List (Nat×List Int))(H:List O):Prop where
 ex:∃d C fs fst fc ff H1 H2 X WI,aE S 4 (.top 849) [.obj s,.int 2,.obj k] H (.obj d) H1/\(H1[d]? = some (.inst C fs)/\fs.lookup 33=none/\jw C 33=some fst)/\aE S 3 (.top fst) [.obj d] H1 .none H2/\Wr S R X F s t sc C fc ff d (ef sc its) WI/\WI its H2/\Kp GS H H2/\∀i,X i->H.length<=i/\i<H2.length
theorem dO{o:O}:(H++[o]).length=H.length+1:=by simp
theorem SD.OK.p0(o:sc.OK F):∃q,sc.places[0]? = some q/\(q=0∨q=1):=o.slot (Li o.plen.1)
theorem kg{k:Nat}:OM k (V.int 0)=zs (OM k 0):=by simp [zs]
theorem lJ.zero:lJ sc (OM sc.places.length 0):=⟨by simp,fun x hx=>by refine er (List.eq_of_mem_replicate hx) ?_;decide⟩
theorem CC(ok:OK S){k w b:Nat}{its:List (Nat×List Int)}(o:sc.OK F)(wa:cW R H F s t sc)(hR:∀i,R i->i<H.length)(x:a9 H k t w b [])(hw:eK sc its)(hl:its.length<=100)(h0:sc.start=0)(h1:sc.high=0):HX S R F s t k sc its H:=by
 refine dQ (id wa.sc) fun pl sl _ c1 c2 c3=>?_;haveI plen:=o.plen;have e0:ef sc its=io sc.low (OM sc.places.length 0) its:=by unfold ef;refine er (if_pos h0) (er (if_pos h1) ?_);rfl
 have hT:(ef sc its).length<=700000:=by refine er e0 ?_;haveI:=vU o (lJ.zero) hw;exact Jb hl this
 haveI mk:aE S 2 (.top 579) [.obj s,.obj k] H (.obj H.length) (H++[DS s k (H.length+1)]++[.list []]):=ok.clsD 8 rfl rfl fun Q q=>by
  refine W.start (bg rfl (ad rfl) rfl rfl rfl (bg rfl (ad rfl) rfl rfl rfl (bg (E':=[.list []]) rfl (EV.list .nil) (by simp) rfl rfl (W.nil ?_))));rewrite [OO];exact er dO q
 generalize hH1:H++[DS s k (H.length+1)]++[.list []]=H1 at mk;have P1:cg H H1:=by exact el hH1 (.app (.app .refl))
 have d1:H1[H.length]? = some (DS s k (H.length+1)):=by exact el hH1 (ah aj)
 haveI s1:=P1.at_ _ _ c1 trivial;haveI p1:=P1.at_ _ _ c2 trivial;generalize hbf:(H1++[O.list [.int 0]]).length=bf;have hbfl:bf=H1.length+1:=by refine el hbf ?_;simp
 haveI hlt:H.length<bf:=by haveI:=P1.len;exact EA hbfl this
 haveI d2:(H1++[O.list [.int 0]]++[.list (zs (OM sc.places.length 0))])[H.length]? = some (DS s k (H.length+1)):=ah (ah d1);haveI st:aE S 3 (.top 562) [.obj H.length] H1 .none ((H1++[O.list [.int 0]]++[O.list (zs (OM sc.places.length 0))]).set H.length (DS s k bf)):=(ok.fnD 37 rfl rfl fun Q q=>by
  haveI:EV S 0 (.bin .Mult (.list (.cons (.int 0) .nil)) (.bcall .len (.cons (.att (.att (.loc 0) 21) 30) .nil))) [some (.obj H.length)] H1 _ _:=EV.rep (EV.list (.cons EV.int .nil)) (bW (af (af (ad rfl) (ah d1) rfl rfl rfl) (ah s1) rfl rfl rfl) (ah p1) (by exact er cO (DK plen.2))) aj (by exact er cO (Fz plen.2));rw [cO,ON,kg,hbf] at this;exact aN this (ad rfl) d2 rfl rfl (W.nil q):aE S 1 _ _ _ _ _).up (by decide)
 refine⟨H.length,579,_,562,569,576,H1,_,fun i=>i=bf,DW (ef sc its) sc H.length s k t w b bf,t9 ok o wa.sc (by refine er (if_pos h0) ?_;exact er (if_pos h1) (mk.up (by decide))),(bT d1 rfl rfl),st,?_,?_,?_,fun i hi=>⟨by lia,by refine er hi ?_;refine er OW (er OA ?_);exact er hbf (PR _)⟩⟩
 ·refine⟨fun rem H' x=>(jb _ x.1 rfl rfl),rfl,rfl,fun p row rem H' r wa' x hi hr=>?_,fun H' wa' x=>?_,fun rem Ha Hb x P=>ba x fun a1 x=>dQ x fun bs st a2 a3 a4 a5=>⟨P.pget a1,lK bs st a2 (P.pget a3) (a4.pre P) a5⟩⟩
  ·refine AE ok o hT wa' (fun i ri=>by haveI:=hR i ri;exact EJ this hlt) x hi hr fun H3 a b' c=>jb H3 (a.up (by decide)) b' c
  ·refine ba x fun a1 q_a=>dQ q_a fun bs st _ _ a2 a3=>?_;haveI e:st=ef sc its:=by exact el a3 (OO st).symm
   subst e;refine fT ok a2 hT fun H3 bs pad q1 q2 q3 q4=>GE H3 bs pad ((ok.fnD 39 rfl rfl fun Q q=>W.ret (EV.meth (af (ad rfl) a1 rfl rfl rfl) a2.1 rfl rfl .nil q1 (by decide)) q:aE S 4 _ _ _ _ _).up (by decide)) q2 q3 q4
 ·refine⟨aM (aA d2),_,[],lJ.zero,cj (z1 hlt) (by exact el hbf aj),?_,by refine er e0 ?_;rfl⟩;exact((x.keep P1 (fun _=>trivial) (fun _=>trivial) fun _=>trivial).app.app).set d2 (by decide)
 ·exact Kp.setN (.app (.app P1.pre)) (OF _)
theorem CB(ok:OK S){k w b:Nat}{its:List (Nat×List Int)}(o:sc.OK F)(wa:cW R H F s t sc)(x:a9 H k t w b [])(hl:its.length<=100)(h0:sc.start=0)(h1:sc.high≠0):HX S R F s t k sc its H:=by
 have e0:ef sc its=jE sc.low its:=by unfold ef;refine er (if_pos h0) (er (if_neg h1) ?_);rfl
 have hT:(ef sc its).length<=700000:=by refine er e0 ?_;simp [jE];exact LF hl
 haveI mk:aE S 2 (.top 621) [.obj s,.obj k] H (.obj H.length) (H++[IM s k]):=ok.clsD 9 rfl rfl fun Q q=>
  W.setF rfl (ad rfl) rfl rfl rfl <| W.setF rfl (ad rfl) rfl rfl rfl <| W.nil q
 haveI st:aE S 3 (.top 604) [.obj H.length] (H++[IM s k]) .none (H++[IM s k]):=(ok.fnD 40 rfl rfl fun Q q=>tL (W.nil q):aE S 1 _ _ _ _ _).up (by decide);refine⟨H.length,621,_,604,611,618,_,_,fun i=>False,RW (ef sc its) sc H.length s k t w b,t9 ok o wa.sc (by refine er (if_pos h0) ?_;exact er (if_neg h1) (mk.up (by decide))),(bT aj rfl rfl),st,?_,?_,.app .refl,fun i hi=>hi.elim⟩
 ·refine⟨fun rem H' x=>(jb _ x.1 rfl rfl),rfl,rfl,fun p row rem H' r wa' x hi hr=>?_,fun H' wa' x=>?_,fun rem Ha Hb x P=>ba x fun a1 x=>aZ x fun st a2 a3=>⟨P.pget a1,bN st (a2.pre P) a3⟩⟩
  ·refine zZ ok o hT wa'.sc x hi hr fun H3 a b' c=>jb H3 (a.up (by decide)) b' (c.mono fun i o g=>GB.GS i o g.1)
  ·refine ba x fun a1 q_a=>aZ q_a fun st a2 a3=>?_;haveI e:st=ef sc its:=by refine el a3 ?_;simp [jE]
   subst e;refine fT ok a2 hT fun H3 bs pad q1 q2 q3 q4=>GE H3 bs pad ((ok.fnD 42 rfl rfl fun Q q=>W.ret (EV.meth (af (ad rfl) a1 rfl rfl rfl) a2.1 rfl rfl .nil q1 (by decide)) q:aE S 4 _ _ _ _ _).up (by decide)) q2 q3 q4
 ·exact⟨aj,[],x.app,by refine er e0 ?_;rfl⟩
theorem CE(ok:OK S){k w b:Nat}{its:List (Nat×List Int)}(o:sc.OK F)(wa:cW R H F s t sc)(x:a9 H k t w b [])(hw:eK sc its)(hl:its.length<=15)(h0:sc.start≠0)(h1:sc.high=0):HX S R F s t k sc its H:=by
 refine dQ (id wa.sc) fun pl sl _ c1 c2 c3=>aZ o.p0 fun q0 z1 z2=>?_;haveI e0:ef sc its=iZ sc 0 its:=by unfold ef;refine er (if_neg h0) (er (if_pos h1) ?_);rfl
 haveI mk:aE S 2 (.top 495) [.obj s,.obj k] H (.obj H.length) (H++[A7 s k (H.length+1) 0]++[.tuple [.int 1,.int q0]]):=ok.clsD 6 rfl rfl fun Q q=>by
  refine W.start (bg rfl (ad rfl) rfl rfl rfl (bg rfl (ad rfl) rfl rfl rfl (bg (E':=[.tuple [.int 1,.int q0]]) rfl (bJ (.cons EV.int (.cons (cA (af (ad rfl) (ah (ah c1)) rfl rfl rfl) EV.int (ah (ah c3)) ⟨by decide,by decide⟩ (dV z1)) .nil))) (by simp) rfl rfl (bg rfl (au EV.int rfl) rfl rfl rfl (W.nil ?_)))));rewrite [OO];exact er dO q
 haveI hT:(ef sc its).length<=300000:=by refine er e0 ?_;haveI:=yC o (Ir hl) hw;lia
 generalize hH1:H++[A7 s k (H.length+1) 0]++[.tuple [.int 1,.int q0]]=H1 at mk;haveI d1:H1[H.length]? = some (A7 s k (H.length+1) 0):=by exact el hH1 (ah aj)
 have P1:cg H H1:=by exact el hH1 (.app (.app .refl))
 have st:aE S 3 (.top 464) [.obj H.length] H1 .none H1:=(ok.fnD 29 rfl rfl fun Q q=>aN (au EV.int rfl) (ad rfl) d1 rfl rfl (W.nil (by
  haveI:H1.set H.length (A7 s k (H.length+1) 0)=H1:=gm d1;refine(?_:Q .none (H1.set H.length (A7 s k (H.length+1) 0)));exact er this q)):aE S 1 _ _ _ _ _).up (by decide)
 have k1:H1[H.length+1]? = some (.tuple [.int 1,.int q0]):=by
  refine el hH1 (er (OU (by simp)) ?_);simp
 refine⟨H.length,495,_,464,485,492,H1,_,fun i=>False,AW (ef sc its) sc H.length s k t w b (H.length+1),t9 ok o wa.sc (by refine er (if_neg h0) ?_;exact er (if_pos h1) (mk.up (by decide))),(bT d1 rfl rfl),st,?_,?_,P1.pre,fun i hi=>hi.elim⟩
 ·refine⟨fun rem H' x=>by refine eu x fun _ _ x _=>?_;exact(jb _ x.1 rfl rfl),rfl,rfl,fun p row rem H' r wa' x hi hr=>?_,fun H' wa' x=>?_,fun rem Ha Hb x P=>eu x fun run st y a2=>dN y fun b1 y b3=>aZ y fun q q1 q2=>sf run st (bT (P.pget b1) (bN q q1 (P.pget q2)) (b3.pre P)) a2⟩
  ·refine A6 ok o hT wa' x (Iw h0) hi hr fun H3 a b' c=>jb H3 a b' (c.mono fun i o g=>g.1)
  ·refine fP (wk ok hT wa'.tt x) fun H3 bs pad q1 q2=>qe H3 bs pad (q1.up (by decide)) q2
 ·exact lN 0 [] (bT d1 (bN q0 z2 k1) (x.keep P1 (fun _=>trivial) (fun _=>trivial) fun _=>trivial)) (by refine er e0 ?_;rfl) (Ir hl)
theorem CD(ok:OK S){k w b:Nat}{its:List (Nat×List Int)}(o:sc.OK F)(wa:cW R H F s t sc)(x:a9 H k t w b [])(hw:eK sc its)(hl:its.length<=15)(h0:sc.start≠0)(h1:sc.high≠0):HX S R F s t k sc its H:=by
 refine dQ (id wa.sc) fun pl sl _ c1 c2 c3=>aZ o.p0 fun q0 z1 z2=>?_;haveI e0:ef sc its=jX sc (0,[]) its:=by unfold ef;refine er (if_neg h0) (er (if_neg h1) ?_);rfl
 haveI hT:(ef sc its).length<=300000:=by refine er e0 ?_;haveI:=yB o (kept:=[]) (Ir hl) (by simp) hw;exact Ja hl this
 haveI mk:aE S 2 (.top 768) [.obj s,.obj k] H (.obj H.length) (H++[j4 s k (H.length+1) 0 (H.length+2)]++[.tuple [.int 1,.int q0],.list []]):=ok.clsD 12 rfl rfl fun Q q=>by
  refine W.start (bg rfl (ad rfl) rfl rfl rfl (bg rfl (ad rfl) rfl rfl rfl (bg (E':=[.tuple [.int 1,.int q0]]) rfl (bJ (.cons EV.int (.cons (cA (af (ad rfl) (ah (ah c1)) rfl rfl rfl) EV.int (ah (ah c3)) ⟨by decide,by decide⟩ (dV z1)) .nil))) (by simp) rfl rfl (bg rfl (au EV.int rfl) rfl rfl rfl (bg (E':=[.tuple [.int 1,.int q0],.list []]) rfl (EV.list .nil) (by simp) rfl rfl (W.nil ?_))))));rewrite [OO,dO,dO];exact er dO q
 generalize hH1:H++[j4 s k (H.length+1) 0 (H.length+2)]++[.tuple [.int 1,.int q0],.list []]=H1 at mk;haveI d1:H1[H.length]? = some (j4 s k (H.length+1) 0 (H.length+2)):=by exact el hH1 (ah aj)
 haveI P1:cg H H1:=by exact el hH1 (.app (.app .refl))
 haveI k1:H1[H.length+1]? = some (.tuple [.int 1,.int q0]):=by
  refine el hH1 (er (OU (by simp)) ?_);simp
 haveI d2:(H1.set H.length (j4 s k (H.length+1) 0 (H.length+2))++[.list []])[H.length]? = some (j4 s k (H.length+1) 0 (H.length+2)):=ah (aM (aA d1));have sl1:(H1.set H.length (j4 s k (H.length+1) 0 (H.length+2))).length=H1.length:=by simp
 have st:aE S 3 (.top 730) [.obj H.length] H1 .none ((H1.set H.length (j4 s k (H.length+1) 0 (H.length+2))++[O.list []]).set H.length (j4 s k (H.length+1) 0 H1.length)):=(ok.fnD 49 rfl rfl fun Q q=>by
  refine aN (au EV.int rfl) (ad rfl) d1 rfl rfl (aN (EV.list .nil) (ad rfl) d2 rfl rfl (W.nil ?_));refine er OW ?_;exact q:aE S 1 _ _ _ _ _).up (by decide)
 have ne1:H1.length≠H.length:=by haveI:=aA d1;exact z8 this
 refine⟨H.length,768,_,730,758,765,H1,_,fun i=>False,CW (ef sc its) sc H.length s k t w b (H.length+1),t9 ok o wa.sc (by refine er (if_neg h0) ?_;exact er (if_neg h1) (mk.up (by decide))),(bT d1 rfl rfl),st,?_,?_,Kp.setN (.app (Kp.setN P1.pre (OF _))) (OF _),fun i hi=>hi.elim⟩
 ·refine⟨fun rem H' x=>by refine fP x fun _ _ _ q_a _=>?_;refine aZ q_a fun _ x _=>?_;exact(jb _ x rfl rfl),rfl,rfl,fun p row rem H' r wa' x hi hr=>?_,fun H' wa' x=>?_,fun rem Ha Hb x P=>fP x fun run kept st y a2=>vc y fun kp b1 y b3 b4=>aZ y fun q q1 q2=>qe run kept st (DM kp (P.pget b1) (bN q q1 (P.pget q2)) (P.pget b3) (b4.pre P)) a2⟩
  ·refine AH ok o hT wa' x (Iw h0) hi hr fun H3 a b' c=>jb H3 a b' (c.mono fun i o g=>g.1)
  ·refine fP (vX ok hT wa'.tt x) fun H3 bs pad q1 q2=>qe H3 bs pad q1 q2
 ·refine GE 0 [] [] (DM H1.length (aM (aA d2)) (bN q0 z2 (cj Cb (ah (cj Cb k1)))) (cj (Ne.symm ne1) (by exact el sl1 aj)) ?_) (by refine er e0 ?_;rfl) (Ir hl) (by simp);exact(((x.keep P1 (fun _=>trivial) (fun _=>trivial) fun _=>trivial).set d1 (by decide)).app).set d2 (by decide)
theorem vy(ok:OK S){k w b:Nat}{its:List (Nat×List Int)}(o:sc.OK F)(wa:cW R H F s t sc)(hR:∀i,R i->i<H.length)(x:a9 H k t w b [])(hw:eK sc its)(hl:its.length<=100)(h15:sc.start≠0->its.length<=15):HX S R F s t k sc its H:=by
 by_cases h0:sc.start=0
 ·by_cases h1:sc.high=0
  ·exact CC ok o wa hR x hw hl h0 h1
  ·exact CB ok o wa x hl h0 h1
 ·by_cases h1:sc.high=0
  ·exact CE ok o wa x hw (h15 h0) h0 h1
  ·exact CD ok o wa x hw (h15 h0) h0 h1
end
end
section
mutual #where
variable {S:be} {n:Nat} {H H' H1 H2 E E':List O} {i:Nat} {l l1:aW} {v y:V} {c:C} {t:Nat} {R:Nat->Prop} {sc:SD} {s:Nat} {F:FD}
theorem ua(ok:OK S){d:V}(o:sc.OK F)(wa:aY R H s sc)(hc:if sc.start=0/\sc.high≠0 then aE S 3 (.top 705) [.obj s] H d H1 else aE S 3 (.top (if sc.start=0 then 663 else (if sc.high=0 then 537 else 831))) [.obj s,.obj t] H d H1):aE S 4 (.top 856) [.obj s,.int 2,.obj t] H d H1:=ok.fnD 63 rfl rfl fun Q q=>by
 refine dQ (id wa) fun pl sl _ c1 c2 c3=>aP (EV.fcall rfl (.cons (ad rfl) (.cons (ad rfl) .nil)) (nN ok o wa) (by decide)) ?_;haveI a1:EV S 3 (.att (.loc 0) 33) [some (.obj s),some (.int 2),some (.obj t)] H (.int sc.start) H:=af (ad rfl) c1 rfl rfl rfl;have a3:EV S 3 (.att (.loc 0) 35) [some (.obj s),some (.int 2),some (.obj t)] H (.int sc.high) H:=af (ad rfl) c1 rfl rfl rfl;by_cases h0:sc.start=0
 ·refine bE (ag a1 EV.int bO) (decide_eq_true (z9 h0)) ?_;by_cases h1:sc.high=0
  ·rw [if_neg (fun z=>z.2 h1),if_pos h0] at hc;exact W.ret (de (ag a3 EV.int bO) (decide_eq_true (z9 h1)) (EV.fcall rfl (.cons (ad rfl) (.cons (ad rfl) .nil)) hc (by decide))) q
  ·rw [if_pos ⟨h0,h1⟩] at hc;exact W.ret (cP (ag a3 EV.int bO) (decide_eq_false (zu h1)) (EV.fcall rfl (.cons (ad rfl) .nil) hc (by decide))) q
 ·rw [if_neg (fun z=>h0 z.1),if_neg h0] at hc;refine ay (ag a1 EV.int bO) (decide_eq_false (zu h0)) ?_;by_cases h1:sc.high=0
  ·rw [if_pos h1] at hc;exact W.ret (de (ag a3 EV.int bO) (decide_eq_true (z9 h1)) (EV.fcall rfl (.cons (ad rfl) (.cons (ad rfl) .nil)) hc (by decide))) q
  ·rw [if_neg h1] at hc;exact W.ret (cP (ag a3 EV.int bO) (decide_eq_false (zu h1)) (EV.fcall rfl (.cons (ad rfl) (.cons (ad rfl) .nil)) hc (by decide))) q
structure HY(S:be)(R:Nat->Prop)(F:FD)(s t:Nat)(sc:SD)(its:List (Nat×List Int))(H:List O):Prop where
 ex:∃d C fst fr ff H1,aE S 4 (.top 856) [.obj s,.int 2,.obj t] H (.obj d) H1/\cg H H1/\H.length<=d/\(∃fs,H1[d]? = some (.inst C fs))/\jw C 33=some fst/\∀H2 bs pad,Kp GF H1 H2->gu bs=ef sc its++pad->bs.size<=100000->
  ∃H3 X RI fs2,(H2[d]? = some (.inst C fs2)/\fs2.lookup 33=none)/\aE S 3 (.top fst) [.obj d,.bytes bs] H2 .none H3/\Rr S R X F s t sc C fr ff d RI/\RI its H3/\Kp GS H2 H3/\∀i,X i->H.length<=i/\i<H3.length
theorem t8{bs:Array UInt8}(h:bs.size<=100000):bP (H++[wv bs 0]) H.length (gu bs):=lK bs 0 aj rfl h (PF _)
theorem CG(ok:OK S){its:List (Nat×List Int)}(o:sc.OK F)(wa:cW R H F s t sc)(hR:∀i,R i->i<H.length)(hw:eK sc its)(h0:sc.start=0)(h1:sc.high=0):HY S R F s t sc its H:=by
 refine dQ (id wa.sc) fun pl sl q_a c1 c2 c3=>dN q_a fun r1 r2 r3=>?_;haveI plen:=o.plen;haveI mk:aE S 2 (.top 663) [.obj s,.obj t] H (.obj H.length) (H++[.inst 663 [(21,.obj s),(28,.obj t),(27,.obj (H.length+1)),(26,.none)]]++[.list []]):=ok.clsD 10 rfl rfl fun Q q=>by
  refine W.start (bg rfl (ad rfl) rfl rfl rfl (bg rfl (ad rfl) rfl rfl rfl (bg (E':=[.list []]) rfl (EV.list .nil) (by simp) rfl rfl (bg rfl EV.none rfl rfl rfl (W.nil ?_)))));rewrite [OO];exact er dO q
 haveI e0:ef sc its=io sc.low (OM sc.places.length 0) its:=by unfold ef;refine er (if_pos h0) (er (if_pos h1) ?_);rfl
 refine⟨H.length,663,646,653,660,_,ua ok o wa.sc (by refine er (if_neg (fun z=>z.2 h1)) ?_;exact er (if_pos h0) (mk.up (by decide))),.app (.app .refl),OF _,⟨_,ah aj⟩,rfl,fun H2 bs pad kf hb hs=>?_⟩;have P2:=(Kp.app (.app .refl)).trans kf;have d2:=kf.get (ah aj) (.inr rfl);haveI s2:=P2.get c1 (.inl rfl);haveI p2:=P2.get c2 (.inl rfl);generalize hbf:(H2++[O.list [.int 0]]).length=bf;have hbfl:bf=H2.length+1:=by refine el hbf ?_;simp
 have hlt:H.length<bf:=by haveI:=P2.len;exact EA hbfl this
 haveI d3:(H2++[O.list [.int 0]]++[.list (zs (OM sc.places.length 0))])[H.length]? = some (.inst 663 [(21,.obj s),(28,.obj t),(27,.obj (H.length+1)),(26,.none)]):=ah (ah d2);haveI f3:(H2++[O.list [.int 0]]++[.list (zs (OM sc.places.length 0))])[bf]? = some (.list (zs (OM sc.places.length 0))):=by exact el hbf aj
 generalize hH3:(H2++[O.list [.int 0]]++[O.list (zs (OM sc.places.length 0))]).set H.length (.inst 663 [(21,.obj s),(28,.obj t),(27,.obj bf),(26,.none)])=H3;haveI d4:H3[H.length]? = some (.inst 663 [(21,.obj s),(28,.obj t),(27,.obj bf),(26,.none)]):=by exact el hH3 (aM (aA d3))
 haveI f4:H3[bf]? = some (.list (zs (OM sc.places.length 0))):=by exact el hH3 (cj (z1 hlt) f3)
 haveI K3:Kp GS H2 H3:=by exact el hH3 (Kp.setO (.app (.app .refl)) d2 nofun)
 haveI n3:H3.length≠H.length:=by have:=aA d4;exact z8 this
 refine IB ((H3++[wv bs 0]).set H.length (IU s t bf H3.length)) (fun i=>i=bf) (DR sc H.length s t bf H3.length) _ ⟨d2,rfl⟩ (ok.fnD 43 rfl rfl fun Q q=>?_:aE S 3 _ _ _ _ _) ?_ ?_ ?_ (fun i hi=>⟨by lia,by haveI:=aA f4;refine er OW (er OA ?_);lia⟩)
 ·haveI:EV S 2 (.bin .Mult (.list (.cons (.int 0) .nil)) (.bcall .len (.cons (.att (.att (.loc 0) 21) 30) .nil))) [some (.obj H.length),some (.bytes bs)] H2 _ _:=EV.rep (EV.list (.cons EV.int .nil)) (bW (af (af (ad rfl) (ah d2) rfl rfl rfl) (ah s2) rfl rfl rfl) (ah p2) (by exact er cO (DK plen.2))) aj (by exact er cO (Fz plen.2));rw [cO,ON,kg,hbf] at this;refine aN this (ad rfl) d3 rfl rfl ?_;refine(?_:bH S 2 _ _ ((H2++[O.list [.int 0]]++[O.list (zs (OM sc.places.length 0))]).set H.length (.inst 663 [(21,.obj s),(28,.obj t),(27,.obj bf),(26,.none)])) _);exact er hH3 (aN (EV.fcall rfl (.cons (ad rfl) .nil) (pB ok) (by decide)) (ad rfl) (ah d4) rfl rfl (W.nil q))
 ·refine⟨fun rem H' x=>(jb _ x.1 rfl rfl),rfl,rfl,fun rem Ha Hb x k=>?_,fun p row kr rem Ha r wa' x hi _ hr hx hk=>?_,fun Ha x=>(ok.fnD 45 rfl rfl fun Q q=>tL (W.nil q))⟩
  ·refine ba x fun x1 q_a=>fQ q_a fun b tl x2 x3 x4=>⟨k.get x1 (.inl rfl),b,tl,x2,k.get x3 (.inr rfl),x4.keep k fun _=>.inl rfl⟩
  ·refine zL (AF ok o wa' (fun i ri=>by haveI:=hR i ri;exact EJ this hlt) x hi hr hx hk.1) fun Hb c q1 q2 q3 q4 q5=>zJ Hb c (q1.up (by decide)) ?_ q3 q4 q5;unfold eU;refine er (if_pos h0) ?_;exact er (if_pos h1) q2
 ·refine⟨aM (by refine er OA ?_;haveI:=aA d4;exact Ij this),_,pad,lJ.zero,cj (z1 hlt) (ah f4),?_⟩;haveI:=(t8 hs).set (ah d4) (o:=IU s t bf H3.length) (by decide);rw [hb,e0] at this;exact this
 ·exact Kp.setO (.app K3) d2 nofun
theorem CF(ok:OK S){its:List (Nat×List Int)}(o:sc.OK F)(wa:cW R H F s t sc)(h0:sc.start=0)(h1:sc.high≠0):HY S R F s t sc its H:=by
 haveI e0:ef sc its=jE sc.low its:=by unfold ef;refine er (if_pos h0) (er (if_neg h1) ?_);rfl
 haveI mk:aE S 2 (.top 705) [.obj s] H (.obj H.length) (H++[.inst 705 [(21,.obj s),(26,.none)]]):=ok.clsD 11 rfl rfl fun Q q=>
  W.setF rfl (ad rfl) rfl rfl rfl <| W.setF rfl EV.none rfl rfl rfl <| W.nil q
 refine⟨H.length,705,688,695,702,_,ua ok o wa.sc (by refine(if_pos ⟨h0,h1⟩).mpr ?_;exact mk.up (by decide)),.app .refl,OF _,⟨_,aj⟩,rfl,fun H2 bs pad kf hb hs=>?_⟩;haveI d2:=kf.get aj (.inr rfl);refine IB ((H2++[wv bs 0]).set H.length (MF s H2.length)) (fun _=>False) (RR sc H.length s H2.length) _ ⟨d2,rfl⟩ (ok.fnD 46 rfl rfl fun Q q=>?_:aE S 3 _ _ _ _ _) ?_ ?_ (Kp.setO (.app .refl) d2 nofun) (fun i hi=>hi.elim)
 ·exact aN (EV.fcall rfl (.cons (ad rfl) .nil) (pB ok) (by decide)) (ad rfl) (ah d2) rfl rfl (W.nil q)
 ·refine⟨fun rem H' x=>(jb _ x.1 rfl rfl),rfl,rfl,fun rem Ha Hb x k=>?_,fun p row kr rem Ha r wa' x hi _ hr hx hk=>?_,fun Ha x=>(ok.fnD 48 rfl rfl fun Q q=>tL (W.nil q))⟩
  ·refine ba x fun x1 q_a=>b7 q_a fun tl x4=>⟨k.get x1 (.inl rfl),tl,x4.keep k fun _=>.inl rfl⟩
  ·refine zL (Aa ok o wa'.sc x hr hk.1) fun Hb c q1 q2 q3 q4 q5=>zJ Hb c (q1.up (by decide)) ?_ q3 q4 (q5.mono fun i o g=>GR.GS i o g.1);unfold eU;refine er (if_pos h0) ?_;exact er (if_neg h1) q2
 ·refine⟨aM (by refine er OA ?_;haveI:=aA d2;exact Ij this),pad,?_⟩;have:=(t8 hs).set (ah d2) (o:=MF s H2.length) (by decide);rw [hb,e0] at this;exact this
theorem SD.OK.tab(o:sc.OK F){q0:Nat}(z2:q0=0∨q0=1)(tt:cC R H t):∃tb k0 k1 k2 k3,H[t]? = some (.tdict (wR k0 k1 k2 k3 tb))/\lr H (wR k0 k1 k2 k3 tb)/\bQ R H tb/\lg (wR k0 k1 k2 k3 tb) (1,(q0:Int))=some (.obj tb):=by
 refine yK fun _ kK=>zK tt fun tb k0 k1 k2 k3 _ t1 t2 t3=>kK tb k0 k1 k2 k3 t1 t2 t3 (pm ⟨.inr rfl,FJ z2⟩ ..)
theorem eD{es:List (Nat×(Int×Int)×V)}(h:lr H es):lr (H++E) es:=fun e he=>ah (h e he)
theorem qu{k0 k1 k2 k3 tb:Nat}(a:cC R H t)(h:H[t]? = some (.tdict (wR k0 k1 k2 k3 tb))):bQ R H tb:=by
 refine zK a fun tb' k0' k1' k2' k3' _ t1 t2 t3=>?_;haveI e:=V.noConfusion (congrArg (fun l=>(l.getD 0 (0,(0,0),.none)).2.2) (O.noConfusion (BA h t1) id)) id;exact e▸t3
theorem CJ(ok:OK S){its:List (Nat×List Int)}(o:sc.OK F)(wa:cW R H F s t sc)(hw:eK sc its)(hl:its.length<=15)(h0:sc.start≠0)(h1:sc.high=0):HY S R F s t sc its H:=by
 refine dQ (id wa.sc) fun pl sl q_a c1 c2 c3=>dN q_a fun r1 r2 r3=>aZ o.p0 fun q0 z1 z2=>zK (SD.OK.tab o z2 wa.tt) fun tb k0 k1 k2 k3 t1 t2 t3 t4=>?_;haveI e0:ef sc its=iZ sc 0 its:=by unfold ef;refine er (if_neg h0) (er (if_pos h1) ?_);rfl
 haveI mk:aE S 2 (.top 537) [.obj s,.obj t] H (.obj H.length) (H++[.inst 537 [(21,.obj s),(25,.obj tb),(26,.none),(24,.int 0)]]++[.tuple [.int 1,.int q0]]):=ok.clsD 7 rfl rfl fun Q q=>by
  refine W.start (bg rfl (ad rfl) rfl rfl rfl (bg (E':=[.tuple [.int 1,.int q0]]) rfl (mM (ad rfl) (bJ (.cons EV.int (.cons (cA (af (ad rfl) (ah (ah c1)) rfl rfl rfl) EV.int (ah (ah c3)) ⟨by decide,by decide⟩ (dV z1)) .nil))) (ah (ah (ah t1))) aj (eD (eD (eD t2))) t4) (by simp) rfl rfl (bg rfl EV.none rfl rfl rfl (bg rfl EV.int rfl rfl rfl (W.nil q)))))
 refine⟨H.length,537,520,527,534,_,ua ok o wa.sc (by refine er (if_neg (fun z=>h0 z.1)) (er (if_neg h0) ?_);exact er (if_pos h1) (mk.up (by decide))),.app (.app .refl),OF _,⟨_,ah aj⟩,rfl,fun H2 bs pad kf hb hs=>?_⟩;haveI P2:=(Kp.app (.app .refl)).trans kf;haveI d2:=kf.get (ah aj) (.inr rfl);haveI e2:=gm d2;haveI t2':=P2.get t1 (.inl rfl);haveI nt:H.length≠t:=by haveI:=aA t1;exact z8 this
 refine IB ((H2++[wv bs 0]).set H.length (o4 s tb H2.length 0)) (fun _=>False) (fun rem H'=>(AR sc H.length s tb H2.length rem H'/\rem.length<=15)/\H'[t]? = some (.tdict (wR k0 k1 k2 k3 tb))) _ ⟨d2,rfl⟩ (ok.fnD 34 rfl rfl fun Q q=>?_:aE S 3 _ _ _ _ _) ?_ ?_ (Kp.setO (.app .refl) d2 nofun) (fun i hi=>hi.elim)
 ·refine aN EV.int (ad rfl) d2 rfl rfl ?_;refine(?_:bH S 2 _ _ (H2.set H.length (.inst 537 [(21,.obj s),(25,.obj tb),(26,.none),(24,.int 0)])) _);exact er e2 (aN (EV.fcall rfl (.cons (ad rfl) .nil) (pB ok) (by decide)) (ad rfl) (ah d2) rfl rfl (W.nil q))
 ·refine⟨fun rem H' x=>by refine ba x fun q_a _=>?_;refine ba q_a fun q_a _=>?_;refine eu q_a fun _ _ x _=>?_;exact(jb _ x rfl rfl),rfl,rfl,fun rem Ha Hb x k=>?_,fun p row kr rem Ha r wa' x hi hws hr hx hk=>?_,fun Ha x=>wm ok x.1.1⟩
  ·refine fM x fun q_a x5 x4=>fQ q_a fun run tl x1 x2 x3=>⟨⟨(lN run tl (k.get x1 (.inl rfl)) x2 (x3.keep k fun _=>.inl rfl)),x5⟩,k.get x4 (.inl rfl)⟩
  ·refine ba x fun x xt=>?_;haveI hlr:=R7 x.2;refine A9 ok o (Iw h0) wa'.sc (qu wa'.tt xt) x.1 hi (fun it h=>(hws it h).len) hlr hr hk.1 fun Hb c q1 q2 q3 q4 q5=>zJ Hb c q1 ?_ q3 ⟨⟨q4,Pq ‹_›⟩,q5.get xt rfl⟩ (q5.mono fun i o g=>g.1);unfold eU;exact er (if_neg h0) q2
 ·refine⟨⟨(lN 0 pad (aM (by refine er OA ?_;haveI:=aA d2;exact Ij this)) ⟨PF _,by simp⟩ ?_),hl⟩,cj nt (ah t2')⟩;haveI:=(t8 hs).set (ah d2) (o:=o4 s tb H2.length 0) (by decide);rw [hb,e0] at this;exact this
theorem CI(ok:OK S){its:List (Nat×List Int)}(o:sc.OK F)(wa:cW R H F s t sc)(hw:eK sc its)(hl:its.length<=15)(h0:sc.start≠0)(h1:sc.high≠0):HY S R F s t sc its H:=by
 refine dQ (id wa.sc) fun pl sl q_a c1 c2 c3=>dN q_a fun r1 r2 r3=>aZ o.p0 fun q0 z1 z2=>zK (SD.OK.tab o z2 wa.tt) fun tb k0 k1 k2 k3 t1 t2 t3 t4=>?_;haveI e0:ef sc its=jX sc (0,[]) its:=by unfold ef;refine er (if_neg h0) (er (if_neg h1) ?_);rfl
 haveI mk:aE S 2 (.top 831) [.obj s,.obj t] H (.obj H.length) (H++[.inst 831 [(21,.obj s),(25,.obj tb),(26,.none),(24,.int 0)]]++[.tuple [.int 1,.int q0]]):=ok.clsD 13 rfl rfl fun Q q=>by
  refine W.start (bg rfl (ad rfl) rfl rfl rfl (bg (E':=[.tuple [.int 1,.int q0]]) rfl (mM (ad rfl) (bJ (.cons EV.int (.cons (cA (af (ad rfl) (ah (ah c1)) rfl rfl rfl) EV.int (ah (ah c3)) ⟨by decide,by decide⟩ (dV z1)) .nil))) (ah (ah (ah t1))) aj (eD (eD (eD t2))) t4) (by simp) rfl rfl (bg rfl EV.none rfl rfl rfl (bg rfl EV.int rfl rfl rfl (W.nil q)))))
 refine⟨H.length,831,793,821,828,_,ua ok o wa.sc (by refine er (if_neg (fun z=>h0 z.1)) (er (if_neg h0) ?_);exact er (if_neg h1) (mk.up (by decide))),.app (.app .refl),OF _,⟨_,ah aj⟩,rfl,fun H2 bs pad kf hb hs=>?_⟩;haveI P2:=(Kp.app (.app .refl)).trans kf;haveI d2:=kf.get (ah aj) (.inr rfl);haveI e2:=gm d2;haveI t2':=P2.get t1 (.inl rfl);haveI nt:H.length≠t:=by haveI:=aA t1;exact z8 this
 refine IB ((H2++[wv bs 0]).set H.length (l9 s tb H2.length 0)) (fun _=>False) (fun rem H'=>(CR sc H.length s tb H2.length rem H'/\rem.length<=15)/\H'[t]? = some (.tdict (wR k0 k1 k2 k3 tb))) _ ⟨d2,rfl⟩ (ok.fnD 55 rfl rfl fun Q q=>?_:aE S 3 _ _ _ _ _) ?_ ?_ (Kp.setO (.app .refl) d2 nofun) (fun i hi=>hi.elim)
 ·refine aN EV.int (ad rfl) d2 rfl rfl ?_;refine(?_:bH S 2 _ _ (H2.set H.length (.inst 831 [(21,.obj s),(25,.obj tb),(26,.none),(24,.int 0)])) _);exact er e2 (aN (EV.fcall rfl (.cons (ad rfl) .nil) (pB ok) (by decide)) (ad rfl) (ah d2) rfl rfl (W.nil q))
 ·refine⟨fun rem H' x=>by refine ba x fun q_a _=>?_;refine ba q_a fun q_a _=>?_;refine eu q_a fun _ _ x _=>?_;exact(jb _ x rfl rfl),rfl,rfl,fun rem Ha Hb x k=>?_,fun p row kr rem Ha r wa' x hi hws hr hx hk=>?_,fun Ha x=>vY ok x.1.1⟩
  ·refine fM x fun q_a x5 x4=>fQ q_a fun run tl x1 x2 x3=>⟨⟨(lN run tl (k.get x1 (.inl rfl)) x2 (x3.keep k fun _=>.inl rfl)),x5⟩,k.get x4 (.inl rfl)⟩
  ·refine ba x fun x xt=>?_;haveI hlr:=R7 x.2;refine AM ok o (Iw h0) wa'.sc (qu wa'.tt xt) x.1 hi (fun it h=>(hws it h).len) hlr hr hk.1 (hk.2 h0 h1) fun Hb c q1 q2 q3 q4 q5=>zJ Hb c q1 ?_ q3 ⟨⟨q4,Pq ‹_›⟩,q5.get xt rfl⟩ (q5.mono fun i o g=>g.1);unfold eU;exact er (if_neg h0) q2
 ·refine⟨⟨(lN 0 pad (aM (by refine er OA ?_;haveI:=aA d2;exact Ij this)) ⟨PF _,by simp⟩ ?_),hl⟩,cj nt (ah t2')⟩;haveI:=(t8 hs).set (ah d2) (o:=l9 s tb H2.length 0) (by decide);rw [hb,e0] at this;exact this
theorem vz(ok:OK S){its:List (Nat×List Int)}(o:sc.OK F)(wa:cW R H F s t sc)(hR:∀i,R i->i<H.length)(hw:eK sc its)(h15:sc.start≠0->its.length<=15):HY S R F s t sc its H:=by
 by_cases h0:sc.start=0
 ·by_cases h1:sc.high=0
  ·exact CG ok o wa hR hw h0 h1
  ·exact CF ok o wa h0 h1
 ·by_cases h1:sc.high=0
  ·exact CJ ok o wa hw (h15 h0) h0 h1
  ·exact CI ok o wa hw (h15 h0) h0 h1
end
end
section
mutual #where
variable {S:be} {n:Nat} {H H' H1 H2 E E':List O} {i:Nat} {l l1:aW} {v:V} {c:C} {R:Nat->Prop} {F:FD} {g f:Nat}
def FD.nA(F:FD)(a:Int):Nat:=(F.mA*a).toNat
def FD.nD(F:FD):Nat:=F.mD.toNat
theorem FD.OK.nums(o:F.OK){q:Int×Int}(h:q∈F.comps):F.mA*q.2=(F.nA q.2:Nat)/\F.mD*1=(F.nD:Nat)/\F.nA q.2<=4/\F.nD<=3/\F.bA q.2=((F.bA q.2).toNat:Nat)/\F.bD=(F.bD.toNat:Nat)/\(F.bA q.2).toNat<=F.nA q.2/\F.bD.toNat<=F.nD/\(F.bA q.2).toNat<=3:=
 of_decide_eq_true (O6.mp (o.all (p:=fun F=>F.comps.all fun q=>decide (F.mA*q.2=(F.nA q.2)/\F.mD*1=(F.nD)/\F.nA q.2<=4/\F.nD<=3/\F.bA q.2=((F.bA q.2).toNat)/\F.bD=(F.bD.toNat)/\(F.bA q.2).toNat<=F.nA q.2/\F.bD.toNat<=F.nD/\(F.bA q.2).toNat<=3)) (by decide +kernel)) q h)
def ng(pl:Nat):O:=.inst 172 [(10,.int 4),(11,.obj pl)]
abbrev GD:=Nat->Nat->Nat->Option (List Int)
def cH(F:FD)(rw:Nat->Nat->Nat)(i:Nat):Prop:=∃p y,p<F.comps.length/\y<F.nD/\i=rw p y
def lI(R:Nat->Prop)(F:FD)(rw:Nat->Nat->Nat)(H:List O)(v:V)(d:Option (List Int)):Prop:=
 (v=.none/\d=none)∨∃c r,v=.obj c/\d=some r/\r.length=4/\R c/\¬cH F rw c/\H[c]? = some (.list (zs r))
def Dv(R:Nat->Prop)(H:List O)(F:FD)(rw:Nat->Nat->Nat)(D:GD)(rows:List V)(p:Nat)(a:Int):Prop:=
 ∀y,y<F.nD->rows[y]? = some (.obj (rw p y))/\R (rw p y)/\∃cells,H[rw p y]? = some (.list cells)/\cells.length=F.nA a/\∀x,x<F.nA a->∃v,cells[x]? = some v/\lI R F rw H v (D p x y)
def zk(R:Nat->Prop)(H:List O)(F:FD)(rw:Nat->Nat->Nat)(D:GD)(planes:List V):Prop:=
 ∀p q,F.comps[p]? = some q->∃k rows,planes[p]? = some (.obj k)/\(R k/\¬cH F rw k)/\H[k]? = some (.list rows)/\Dv R H F rw D rows p q.2
structure bU(R:Nat->Prop)(H:List O)(g:Nat)(F:FD)(rw:Nat->Nat->Nat)(D:GD):Prop where
 inj:∀p y p' y',p<F.comps.length->p'<F.comps.length->y<F.nD->y'<F.nD->rw p y=rw p' y'->p=p'/\y=y'
 ex:∃pl planes,(R g/\R pl/\¬cH F rw g/\¬cH F rw pl)/\H[g]? = some (ng pl)/\H[pl]? = some (.list planes)/\zk R H F rw D planes
theorem lI.keep{R':Nat->Prop}{rw:Nat->Nat->Nat}{d:Option (List Int)}{G:Nat->O->Prop}(a:lI R F rw H v d)(k:Kp G H H')(g:∀i xs,i<H.length->R i->¬cH F rw i->G i (.list xs))(r:∀i,i<H.length->R i->R' i):lI R' F rw H' v d:=by
 rcases a with a | ⟨c,row,h1,h2,h3,h4,h5,h6⟩
 ·exact .inl a
 ·exact .inr (Nu c row h1 h2 h3 (r _ (aA h6) h4) h5 (k.get h6 (g _ _ (aA h6) h4 h5)))
theorem bU.keep'{R':Nat->Prop}{rw:Nat->Nat->Nat}{D:GD}{G:Nat->O->Prop}(a:bU R H g F rw D)(k:Kp G H H')(gg:∀i o,i<H.length->R i->fD o=true->G i o)(r:∀i,i<H.length->R i->R' i):bU R' H' g F rw D:=by
 obtain⟨inj,pl,planes,⟨r1,r2,r3,r4⟩,h1,h2,h3⟩:=a;refine⟨inj,pl,planes,(oK (r _ (aA h1) r1) (r _ (aA h2) r2) r3 r4),k.get h1 (gg _ _ (aA h1) r1 rfl),k.get h2 (gg _ _ (aA h2) r2 rfl),fun p q hq=>?_⟩;refine dQ (h3 p q hq) fun kk rows a1 q_a a4 a5=>ba q_a fun a2 a3=>lK kk rows a1 ⟨r _ (aA a4) a2,a3⟩ (k.get a4 (gg _ _ (aA a4) a2 rfl)) (fun y hy=>?_);refine dN (a5 y hy) fun b1 b2 q_a=>eZ q_a fun cells b3 b4 b5=>⟨b1,r _ (aA b3) b2,cells,k.get b3 (gg _ _ (aA b3) b2 rfl),b4,fun x hx=>?_⟩;refine aZ (b5 x hx) fun v c1 c2=>bN v c1 (c2.keep k (fun i xs hi ri _=>gg i _ hi ri rfl) r)
theorem bU.keep{rw:Nat->Nat->Nat}{D:GD}{G:Nat->O->Prop}(a:bU R H g F rw D)(k:Kp G H H')(gg:∀i o,R i->fD o=true->G i o):bU R H' g F rw D:=a.keep' k (fun i o _=>gg i o) fun _ _ h=>h
theorem bU.region{R':Nat->Prop}{rw:Nat->Nat->Nat}{D:GD}(a:bU R H g F rw D)(r:∀i,i<H.length->R i->R' i):bU R' H g F rw D:=a.keep' .refl (fun _ _ _ _ _=>trivial) r
def upd(D:GD)(p x y:Nat)(r:List Int):GD:=fun p' x' y'=>if p'=p/\x'=x/\y'=y then some r else D p' x' y'
structure uL(F:FD)(p x y:Nat)(q:Int×Int):Prop where
 c:F.comps[p]? = some q
 x:x<F.nA q.2
 y:y<F.nD
theorem i0:F.comps.length<=2:=by unfold FD.comps;split<;>simp
theorem qH(ok:OKl S){rw:Nat->Nat->Nat}{D:GD}{p x y r:Nat}{q:Int×Int}{row:List Int}(o:F.OK)(a:bU R H g F rw D)(h:uL F p x y q)(hr:H[r]? = some (.list (zs row)))(hl:row.length=4)(hR:R H.length){kP:Prop}(kK:∀H',aE S 1 (.top 169) [.obj g,.int p,.int x,.int y,.obj r] H .none H'->bU R H' g F rw (upd D p x y row)->Kp (fun i _=>i≠rw p y) H H'->(∃cs,H[rw p y]? = some (.list cs))->rw p y<H.length->kP):kP:=by
 obtain⟨inj,pl,planes,⟨r1,r2,r3,r4⟩,h1,h2,h3⟩:=a;refine dQ (h3 p q h.c) fun k rows a1 q_a a4 a5=>ba q_a fun a2 a3=>dN (a5 y h.y) fun b1 b2 q_a=>eZ q_a fun cells b3 b4 b5=>aZ (b5 x h.x) fun v c1 c2=>?_;haveI nums:=o.nums (OC h.c);haveI pl2:=i0 (F:=F);have pp:=bc h.c;haveI hx:=h.x;haveI hy:=h.y;have row':cH F rw (rw p y):=lN p y pp h.y rfl;haveI lrw:=aA b3;haveI newc:((H++[O.list (zs row)]).set (rw p y) (.list (cells.set x (.obj H.length))))[H.length]? = some (.list (zs row)):=cj (z1 lrw) aj;have K:Kp (fun i _=>i≠rw p y) H ((H++[O.list (zs row)]).set (rw p y) (.list (cells.set x (.obj H.length)))):=Kp.set (.app .refl) fun _ _ z=>z rfl;have nrow:¬cH F rw H.length:=fun y_36=>fQ y_36 fun p' y' hp' hy' e=>by
  obtain⟨q',hq'⟩:∃q',F.comps[p']? = some q':=⟨_,OD hp'⟩;refine dQ (h3 p' q' hq') fun _ _ _ _ _ z5=>dN (z5 y' hy') fun _ _ q_a=>aZ q_a fun _ z3 _=>?_;haveI:=aA z3;lia
 refine kK _ (ok.fnD 12 rfl rfl fun Q qq=>?_) ⟨inj,pl,planes,(oK r1 r2 r3 r4),K.get h1 (fun e=>r3 (e▸row')),K.get h2 (fun e=>r4 (e▸row')),fun p' q' hq'=>?_⟩ K ⟨_,b3⟩ lrw
 ·refine dm (fK (ad rfl) hr (by exact er ci (zz hl))) (aS (aS (af (ad rfl) (ah h1) rfl rfl rfl) (ad rfl) (ah h2) (JC pp pl2) a1) (ad rfl) (ah a4) (Fc hy nums.2.2.2.1) b1) (ad rfl) (ah b3) (bT (z0) (Ko hx b4) (KJ b4 nums.2.2.1)) ?_;rw [ON];exact W.nil qq
 ·refine dQ (h3 p' q' hq') fun k' rows' a1' q_a a4' a5'=>ba q_a fun a2' a3'=>lK k' rows' a1' ⟨a2',a3'⟩ (K.get a4' (fun e=>a3' (e▸row'))) (fun y' hy'=>?_);refine dN (a5' y' hy') fun b1' b2' q_a=>eZ q_a fun cells' b3' b4' b5'=>?_;have cell:∀ {v:V} {d:Option (List Int)},lI R F rw H v d->lI R F rw ((H++[O.list (zs row)]).set (rw p y) (.list (cells.set x (.obj H.length)))) v d:=fun cc=>cc.keep K (fun i xs _ _ nr e=>nr (e▸row')) fun _ _ h=>h;by_cases e:rw p' y'=rw p y
  ·refine ba (inj p' y' p y (bc hq') pp hy' h.y e) fun ep ey=>?_;subst ep ey;replace hq':=h.c▸hq';obtain rfl:=Option.some.inj hq';replace b3':=b3▸b3';cases b3';refine⟨b1',b2',cells.set x (.obj H.length),aM (by simp;exact B8 lrw),by exact er OW b4,fun x' hx'=>?_⟩;by_cases ex:x'=x
   ·obtain rfl:=ex.symm;refine bN (.obj H.length) (Pl (EH hx' b4')) (.inr (Nu H.length row rfl ?_ hl hR nrow newc));exact if_pos (bT rfl rfl rfl)
   ·refine aZ (b5' x' hx') fun v' c1' c2'=>bN v' (by exact er (O7 (Ne.symm ex)) c1') ?_;unfold upd;refine er (if_neg (fun z=>ex z.2.1)) ?_;exact cell c2'
  ·refine⟨b1',b2',cells',K.get b3' e,b4',fun x' hx'=>?_⟩;refine aZ (b5' x' hx') fun v' c1' c2'=>bN v' c1' ?_;unfold upd;refine er (if_neg (fun z=>e (by refine er z.1 (er z.2.2 ?_);rfl))) ?_;exact cell c2'
def iH:List Int:=[0,0,0,0]
theorem kB(ok:OKl S){rw:Nat->Nat->Nat}{D:GD}{p x y:Nat}{q:Int×Int}(o:F.OK)(a:bU R H g F rw D)(h:uL F p x y q) :
  ∃c E,aE S 1 (.top 162) [.obj g,.int p,.int x,.int y] H (.obj c) (H++E)/\(H++E)[c]? = some (.list (zs ((D p x y).getD iH)))/\((D p x y).getD iH).length=4/\(D p x y=none∨E=[])/\(R c∨H.length<=c):=by
 obtain⟨inj,pl,planes,_,h1,h2,h3⟩:=a;refine dQ (h3 p q h.c) fun k rows a1 q_a a4 a5=>ba q_a fun a2 a3=>dN (a5 y h.y) fun b1 b2 q_a=>eZ q_a fun cells b3 b4 b5=>aZ (b5 x h.x) fun v c1 c2=>?_;haveI nums:=o.nums (OC h.c);haveI pl2:=i0 (F:=F);haveI pp:=bc h.c;haveI hx:=h.x;haveI hy:=h.y;have ev:∀l,EV S 0 (.sub (.sub (.sub (.att (.loc 0) 11) (.loc 1)) (.loc 3)) (.loc 2)) (some (.obj g)::some (.int p)::some (.int x)::some (.int y)::l) H v H:=fun l=>
  aS (aS (aS (af (ad rfl) h1 rfl rfl rfl) (ad rfl) h2 (JC pp pl2) a1) (ad rfl) a4 (Fc hy nums.2.2.2.1) b1) (ad rfl) b3 (KP hx nums.2.2.1) c1
 rcases c2 with ⟨rfl,e⟩ | ⟨c,r,rfl,e,e1,e2,e3,e4⟩
 ·refine er e ?_;refine uw fun _ kK=>kK (H++[O.list [.int 0]]).length [.list [.int 0],.list (zs iH)] (ok.fnD 11 rfl rfl fun Q qq=>?_) ?_ rfl (.inl rfl) (.inr (by simp))
  ·refine aD (ev _) (W.ret (de (ag (ad rfl) EV.none M1) rfl (EV.rep (EV.list (.cons EV.int .nil)) (af (ad rfl) (ah h1) rfl rfl rfl) aj (by decide))) ?_);rw [OB];exact qq
  ·exact er (by simp:H++[O.list [.int 0],.list (zs iH)]=H++[O.list [.int 0]]++[.list (zs iH)]) aj
 ·refine er e ?_;refine zJ c [] (ok.fnD 11 rfl rfl fun Q qq=>?_) (by rw [OO];exact e4) e1 (.inr rfl) (.inl e2);rw [OO] at qq;exact aD (ev _) (W.ret (cP (ag (ad rfl) EV.none HB) rfl (ad rfl)) qq)
end
end
section
mutual #where
variable {S:be} {n:Nat} {H H' H1 H2 E E':List O} {i:Nat} {l l1:aW} {v:V} {c:C} {R:Nat->Prop} {F:FD} {f s:Nat} {sc:SD}
theorem da(ok:OKl S)(a:aY R H s sc)(h:sc.places.length<=2):aE S 1 (.top 877) [.obj s] H (.bool (decide ((sc.places.length:Int)=1))) H:=ok.fnD 64 rfl rfl fun Q q=>by
 refine dQ a fun pl sl _ c1 c2 _=>?_;haveI:=bW (S:=S) (n:=0) (af (ad (l:=[some (.obj s)]) (i:=0) rfl) c1 (f:=30) rfl rfl rfl) c2 (by exact er cO (DK h));replace this:=cO▸this;exact W.ret (nY this EV.int bO) q
abbrev f7:=Nat×Nat×Nat×Nat
def wX(p:f7):O:=.tuple [.int p.1,.int p.2.1,.int p.2.2.1,.int p.2.2.2]
def gH(F:FD)(k:Nat):Nat:=((F.comps[k]?).getD (0,0)).2.toNat
def dS(F:FD)(sc:SD)(x y:Nat):List f7:=
 if sc.places.length=1 then [(0,sc.places.headD 0,x,y)]
 else (OT sc.places.length).flatMap fun p=>(OT (gH F (sc.places.getD p 0))).map fun a=>(p,sc.places.getD p 0,x*gH F (sc.places.getD p 0)+a,y)
def bI(F:FD)(sc:SD):Nat:=if sc.places.length=1 then (F.bA (gH F (sc.places.headD 0))).toNat else F.mA.toNat
def bL(F:FD)(sc:SD):Nat:=if sc.places.length=1 then (F.bA (gH F (sc.places.headD 0))).toNat*F.bD.toNat else F.mA.toNat*F.mD.toNat
def bm(F:FD)(sc:SD):List f7:=(OT (bL F sc)).flatMap fun k=>dS F sc (k % bI F sc) (k / bI F sc)
theorem SD.OK.comp(o:sc.OK F){p c:Nat}(h:sc.places[p]? = some c):∃q,F.comps[c]? = some q:=by
 refine yO fun _ kK=>?_;haveI hc:c<F.comps.length:=by
  rcases o.pl with e | ⟨t,e | e⟩<;>replace h:=e▸h
  ·haveI:c=0:=by
    cases p with
    | zero=>simpa using h.symm
    | succ p=>exact aJ h
   refine er this ?_;unfold FD.comps;split<;>simp
  ·have:c=1:=by
    cases p with
    | zero=>simpa using h.symm
    | succ p=>exact aJ h
   refine er this ?_;unfold FD.comps;refine er (if_pos t) ?_;simp
  ·have:c<=1:=by
    rcases p with _ | _ | p
    ·simp at h;lia
    ·simp at h;lia
    ·exact aJ h
   unfold FD.comps;refine er (if_pos t) ?_;simp;exact O8 ‹_›
 exact kK _ (OD hc)
theorem tJ{c:Nat}{q:Int×Int}(o:F.OK)(h:F.comps[c]? = some q):q.2=(gH F c:Nat)/\1<=gH F c/\gH F c<=2:=by
 unfold gH;refine er h ?_;haveI:=o.acr' (OC h);refine BV fun _ kK=>dN (Mh this) kK
theorem xX(o:F.OK):F.mA=(F.mA.toNat:Nat)/\F.mD=(F.mD.toNat:Nat)/\F.mA.toNat<=3/\F.mD.toNat<=3:=
 of_decide_eq_true (o.all (p:=fun F=>decide (F.mA=(F.mA.toNat)/\F.mD=(F.mD.toNat)/\F.mA.toNat<=3/\F.mD.toNat<=3)) (by decide +kernel))
def cb(R:Nat->Prop)(H:List O)(ks:List Nat)(ps:List f7):Prop:=F2 (fun k p=>R k/\H[k]? = some (wX p)) ks ps
structure Nd(R:Nat->Prop)(H:List O)(u:Nat)(ps:List f7):Prop where
 ex:∃ks,H[u]? = some (.list (ks.map .obj))/\cb R H ks ps
theorem cb.keep{R':Nat->Prop}{G:Nat->O->Prop}{ks:List Nat}{ps:List f7}(a:cb R H ks ps)(k:Kp G H H')(g:∀i o,i<H.length->R i->fD o=true->G i o)(r:∀i,i<H.length->R i->R' i):cb R' H' ks ps:=
 F2.imp (fun _ _ h=>⟨r _ (aA h.2) h.1,k.get h.2 (g _ _ (aA h.2) h.1 rfl)⟩) a
theorem ft{α β:Type}{R:α->β->Prop}{xs:List α}{ys:List β}{x:α}{y:β}(h:F2 R xs ys)(q:R x y):F2 R (xs++[x]) (ys++[y]):=by
 induction h with
 | nil=>exact .cons q .nil
 | cons a _ ih=>exact .cons a ih
abbrev Nv:Ps:=(oU.body.get 2).b1
abbrev NY:Ps:=(Nv.get 1).b1
abbrev NX:Ps:=(NY.get 0).b1
def IE(f s x y fo p co:Nat)(d a z:Option V):aW:=[some (.obj f),some (.obj s),some (.int x),some (.int y),some (.obj fo),some (.int p),some (.obj co),d,a,z]
theorem wN{L x y p fo co pl sl k j ai:Nat}{id a:Int}{H0:List O}{o:O}(h0:H0[j]? = some o)(hpl:pl<L)(hfo:L<=fo)(hp:sc.places[p]? = some k)(hp3:p<2)(ha:a=(ai:Nat))(hai:ai<=2)(hx:x<10)(hy:y<10)(hjo:∀xs,o≠.list xs) :
  ∀(m b:Nat) (ks:List Nat) (ps:List f7) (H:List O) (v w:Option V),b+m=ai->L<=H.length->ks.length+m<=20->H[s]? = some (iL pl sl sc)->H[pl]? = some (.list (fY sc.places))->H[co]? = some (et id a)->H[j]? = some o->H[fo]? = some (.list (ks.map .obj))->cb (L<=·) H ks ps->fo<L+100000->
  ∃H' v' w' ks',dz S 4 NX (.one 8) (aG (.obj j) H0) (cQ b m) (IE f s x y fo p co (some (.int (0:Nat))) v w) H (IE f s x y fo p co (some (.int (0:Nat))) v' w') H'/\H'[fo]? = some (.list (ks'.map .obj))/\ks'.length=ks.length+m/\
   cb (L<=·) H' ks' (ps++(OT m).map fun a'=>(p,k,x*ai+(b+a'),y))/\Kp (fun i _=>i≠fo) H H':=by
 intro m_;induction m_ with
 | zero=>
  intro b ks ps H v w _ _ _ _ _ _ hj hf sp _;refine BS fun _ kK=>kK H v w ks (fun Q q=>⟨hj.trans h0.symm,q⟩) hf rfl (by simpa using sp) .refl
 | succ m ih_=>
  intro b ks ps H v w hb hL hk hs hpp hc hj hf sp hlt;refine er bp ?_;refine BS fun _ kK=>?_;haveI eb:(((b+1:Nat):Int))=(b)+1:=z3;haveI fol:=aA hf;have nj:=hn hj hf (hjo _);have ns:s≠fo:=by first | exact Internal.hk hs hf | exact Internal.hk hf hs
  have nc:co≠fo:=by first | exact Internal.hk hc hf | exact Internal.hk hf hc
  haveI np:=z5 hpl hfo;generalize hHa:H++[O.tuple [.int (x*ai+b:Nat),.int (y*1+0:Nat)]]=Ha;haveI P:cg H Ha:=by exact el hHa (.app .refl)
  have hal:Ha.length=H.length+1:=by refine el hHa ?_;simp
  haveI sel:=P.at_ _ _ hf trivial;haveI e4:(y*1+0)=y:=LZ;haveI spot:wX (p,k,x*ai+(b+0),y)=.tuple [.int p,.int k,.int (x*ai+b:Nat),.int (y*1+0:Nat)]:=by refine er e4 ?_;rfl
  generalize hHb:(Ha++[O.tuple [.int p,.int k,.int (x*ai+b:Nat),.int (y*1+0:Nat)]]).set fo (.list (ks.map .obj++[.obj Ha.length]))=Hb;have K:Kp (fun i _=>i≠fo) H Hb:=by exact el hHb (Kp.set (.app P.pre) fun _ _ z=>z rfl)
  have fb:Hb[fo]? = some (.list ((ks++[Ha.length]).map .obj)):=by refine el hHb ?_;exact er O2 (aM (by simp;exact EF fol hal))
  haveI nw:Hb[Ha.length]? = some (wX (p,k,x*ai+(b+0),y)):=by refine el hHb ?_;exact er spot (cj (DF fol hal) aj)
  haveI spb:cb (L<=·) Hb (ks++[Ha.length]) (ps++[(p,k,x*ai+(b+0),y)]):=by
   refine ft (F2.imp (fun kk pp h=>⟨h.1,K.get h.2 ?_⟩) sp) ⟨by lia,nw⟩;rintro rfl;rw [h.2] at hf;exact nomatch hf
  refine GJ (ih_ (b+1) (ks++[Ha.length]) _ Hb (some (.int b)) (some (.obj H.length)) (B7 hb) (z4 K.len hL) (by simp;exact JR hk) (K.get hs ns) (K.get hpp np) (K.get hc nc) (K.get hj nj) fb spb hlt) fun H' v' w' ks' fr q1 q2 q3 q4=>kK H' v' w' ks' (fun Q q=>⟨hj.trans h0.symm,?_⟩) q1 (by refine er q2 ?_;simp;exact z7) ?_ (K.trans q4)
  ·haveI c1:=EV.mul (S:=S) (n:=4) (ad (l:=IE f s x y fo p co (some (.int (0:Nat))) (some (.int b)) w) (i:=2) rfl) (af (ad (i:=6) rfl) hc (f:=1) rfl rfl rfl) (av (by lia) (by lia));haveI c2:=EV.mul (S:=S) (n:=4) (ad (l:=IE f s x y fo p co (some (.int (0:Nat))) (some (.int b)) w) (i:=3) rfl) (af (ad (i:=6) rfl) hc (f:=2) rfl rfl rfl) (av (by decide) (by decide));refine aD (bJ (.cons (au (q:=((x*ai+b:Nat):Int)) (EV.add c1 (ad rfl)) (by refine er ha ?_;push_cast;rfl)) (.cons (au (q:=((y*1+0:Nat):Int)) (EV.add c2 (ad rfl)) (by push_cast;rfl)) .nil))) ?_;refine er hHa ?_;have ht:Ha[H.length]? = some (.tuple [.int (x*ai+b:Nat),.int (y*1+0:Nat)]):=by exact el hHa aj
   refine aP (EV.app (ad rfl) (bJ (.cons (ad rfl) (.cons (aS (af (ad rfl) (P.at_ _ _ hs trivial) rfl rfl rfl) (ad rfl) (P.at_ _ _ hpp trivial) (JW hp3) (dV hp)) (.cons (mL (ad rfl) EV.int ht ⟨by decide,by decide⟩ rfl) (.cons (mL (ad rfl) EV.int ht ⟨by decide,by decide⟩ rfl) .nil))))) sel (ah sel) (by simp;exact JN hk)) (W.nil ?_);refine er hHb ?_;haveI:=fr Q q;replace this:=eb▸this;exact this
  ·haveI e:ps++(OT (m+1)).map (fun a'=>(p,k,x*ai+(b+a'),y))=ps++[(p,k,x*ai+(b+0),y)]++(OT m).map fun a'=>(p,k,x*ai+(b+1+a'),y):=by
    refine er Qh ?_;refine er O1 (er PX ?_);rw [OB];congr 2;apply Pz;intro a' _;simp only [Function.comp];refine er (B9:b+(a'+1)=b+1+a') ?_;rfl
   exact er e q3
def jL(F:FD)(sc:SD)(x y p:Nat):List f7:=(OT (gH F (sc.places.getD p 0))).map fun a=>(p,sc.places.getD p 0,x*gH F (sc.places.getD p 0)+a,y)
theorem u6(ok:OKl S)(o:F.OK)(so:sc.OK F){L x y fo pl sl j:Nat}{H0:List O}{ob:O}(h0:H0[j]? = some ob)(hob:∀xs,ob≠.list xs)(hpl:pl<L)(hR:∀i,R i->i<L)(hfo:L<=fo)(hlt:fo<L+100000)(hx:x<10)(hy:y<10):∀(m b:Nat) (ks:List Nat) (ps:List f7) (H:List O) (v co d a z:Option V),b+m=sc.places.length->L<=H.length->ks.length+2*m<=20->H[s]? = some (iL pl sl sc)->H[pl]? = some (.list (fY sc.places))->aQ R H f F->H[j]? = some ob->H[fo]? = some (.list (ks.map .obj))->cb (L<=·) H ks ps->∀(kP:Prop),(∀H' l',dz S 4 Nv (.one 5) (aG (.obj j) H0) (cQ b m) [some (.obj f),some (.obj s),some (.int x),some (.int y),some (.obj fo),v,co,d,a,z] H l' H'->dE l' 4=some (.obj fo)->(∃ks',H'[fo]? = some (.list (ks'.map .obj))/\cb (L<=·) H' ks' (ps++((OT m).map fun i=>b+i).flatMap (jL F sc x y)))->Kp (fun i _=>i≠fo) H H'->kP)->kP:=by
 intro m_;induction m_ with
 | zero=>
  intro b ks ps H v co d a z _ _ _ _ _ _ hj hf sp;intro _ kK;exact kK H _ (fun Q q=>⟨hj.trans h0.symm,q⟩) rfl (bN ks hf (by simpa using sp)) .refl
 | succ m ih_=>
  intro b ks ps H v co d a z hb hL hk hs hpp fr hj hf sp;refine er bp ?_;intro _ kK;haveI eb:(((b+1:Nat):Int))=(b)+1:=z3;have plen:=so.plen;have hbl:=DH hb;have hp:sc.places[b]? = some (sc.places.getD b 0):=by refine er OG (er (OD hbl) ?_);rfl
  generalize hkk:sc.places.getD b 0=k at hp;refine b7 (so.comp hp) fun q hq=>u9 (fr.place hq) fun cl cs c f1 f2 f3 f4 f5 _=>?_;have fol:=aA hf;have ne:∀ {i:Nat} {o':O},H[i]? = some o'->(∀xs,o'≠.list xs)->i≠fo:=fun hi hn e=>by obtain rfl:=e.symm;replace hf:=hi▸hf;obtain rfl:=Option.some.inj hf;exact hn _ rfl
  refine dN (tJ o hq) fun a1 a2 a3=>?_;generalize hHa:H++[O.rng 0 1 1]++[O.rng 0 q.2 1]=Ha;have P:cg H Ha:=by exact el hHa (.app (.app .refl))
  haveI hal:Ha.length=H.length+2:=by refine el hHa ?_;simp
  haveI jr:Ha[H.length+1]? = some (.rng 0 q.2 1):=by
   refine el hHa ?_;exact er (by simp:H.length+1=(H++[O.rng 0 1 1]).length) aj
  haveI j1:Ha[H.length]? = some (.rng 0 1 1):=by exact el hHa (ah aj)
  refine GJ (wN (S:=S) (f:=f) jr hpl hfo hp (Mo hbl plen.2) a1 a3 hx hy (fun _ h=>O.noConfusion h) (gH F k) 0 ks ps Ha a z Ca (Ei hal hL) (by lia) (P.at_ _ _ hs trivial) (P.at_ _ _ hpp trivial) (P.at_ _ _ f4 trivial) jr (P.at_ _ _ hf trivial)
   (sp.keep P (fun _ _ _ _ _=>trivial) fun _ _ h=>h) hlt) fun H1 v1 w1 ks1 fr1 q1 q2 q3 q4=>?_
  have KK:=P.pre.trans q4;haveI e3:(OT (gH F k)).map (fun a'=>(b,k,x*gH F k+(0+a'),y))=jL F sc x y b:=by
   unfold jL;refine er hkk ?_;apply Pz;intro a' _;rw [Py]
  rw [e3] at q3;haveI frK:=fr.keep KK fun i ob' ri st e=>by haveI:=hR i ri;exact EK this e hfo
  refine ih_ (b+1) ks1 _ H1 (some (.int b)) (some (.obj c)) (some (.int (0:Nat))) v1 w1 (B7 hb) (z4 KK.len hL) (by lia) (KK.get hs (ne hs fun _ h=>O.noConfusion h)) (KK.get hpp (z5 hpl hfo)) frK (KK.get hj (ne hj hob)) q1 q3 _ fun H' l' fr2 r1 r2 r3=>kK H' l' (fun Q qq=>⟨hj.trans h0.symm,?_⟩) r1 ?_ (KK.trans r3)
  ·refine aD (aS (af (ad rfl) f1 rfl rfl rfl) (aS (af (ad rfl) hs rfl rfl rfl) (ad rfl) hpp (by lia) (dV hp)) f2 (by haveI:=bc hq;haveI:=i0 (F:=F);exact KO f5 hkk) f3) ?_;refine bk (bV (af (ad rfl) f4 rfl rfl rfl)) (aX aj ⟨by decide,by decide⟩ ⟨by decide,by decide⟩) ?_;haveI en:=L3 a1;refine⟨rfl,bk (bV (af (ad rfl) (ah f4) rfl rfl rfl)) (aX aj ⟨by decide,by decide⟩ ⟨I9 a1,by lia⟩) ?_⟩;refine er en (er hHa ?_);haveI el:(H++[O.rng 0 1 1]).length=H.length+1:=by simp
   refine er el ?_;refine fr1 _ (W.nil ⟨?_,W.nil ?_⟩)
   ·exact(q4.get j1 (z8 fol)).trans aj.symm
   ·haveI:=fr2 Q qq;replace this:=eb▸this;exact this
  ·refine aZ r2 fun ks' z1 z2=>bN ks' z1 ?_;refine er Qh (er O1 ?_);refine er PX (er RD ?_);rw [← OB]
   haveI:(OT m).map ((fun i=>b+i) ∘ Nat.succ)=(OT m).map fun i=>b+1+i:=by
    apply Pz;intro i _;exact B9
   exact er this z2
theorem pi(ok:OKl S)(o:F.OK)(so:sc.OK F)(fr:aQ R H f F)(sa:aY R H s sc){x y:Nat}(hx:x<10)(hy:y<10):∃H' u,aE S 5 (.top 42) [.obj f,.obj s,.int x,.int y] H (.obj u) H'/\H.length<=u/\(∃ks,H'[u]? = some (.list (ks.map .obj))/\cb (H.length<=·) H' ks (dS F sc x y))/\cg H H':=by
 refine dQ (id sa) fun pl sl q_a c1 c2 c3=>dN q_a fun r1 r2 r3=>?_;have plen:=so.plen;unfold dS;by_cases h1:sc.places.length=1
 ·refine er (if_pos h1) ?_;haveI hp:sc.places[0]? = some (sc.places.headD 0):=by
   cases e:sc.places with
   | nil=>rw [e] at h1;exact Nat.noConfusion h1
   | cons a b=>rfl
  generalize sc.places.headD 0=k at hp;refine lK (H++[.tuple [.int (0:Nat),.int k,.int x,.int y]]++[.list [.obj H.length]]) _ (ok.fnD 2 rfl rfl fun Q q=>?_) (O0 (by simp:H.length<(H++[O.tuple [.int (0:Nat),.int k,.int x,.int y]]).length)) (bN [H.length] aj (.cons ⟨OF _,ah aj⟩ .nil)) (.app (.app .refl));refine bE (TV.val (EV.meth (ad rfl) c1 rfl rfl .nil (da ok sa plen.2) (by decide))) (decide_eq_true (Eg h1)) ?_;exact W.ret (EV.list (.cons (bJ (.cons (au (q:=((0:Nat):Int)) EV.int rfl) (.cons (cA (af (ad rfl) c1 rfl rfl rfl) EV.int c2 ⟨by decide,by decide⟩ (dV hp)) (.cons (ad rfl) (.cons (ad rfl) .nil))))) .nil)) q
 ·refine er (if_neg h1) ?_;generalize hHa:H++[O.list []]++[O.rng 0 sc.places.length 1]=Ha;have P:cg H Ha:=by exact el hHa (.app (.app .refl))
  haveI hal:Ha.length=H.length+2:=by refine el hHa ?_;simp
  haveI jr:Ha[H.length+1]? = some (.rng 0 sc.places.length 1):=by
   refine el hHa ?_;exact er (by simp:H.length+1=(H++[O.list []]).length) aj
  refine u6 (R:=fun i=>R i/\i<H.length) ok o so jr (fun _ h=>O.noConfusion h) (aA c2) (fun i h=>h.2) (OF _) LY hx hy sc.places.length 0 [] [] Ha none none none none none Ca (D7 hal) (by simp;omega) (P.at_ _ _ c1 trivial) (P.at_ _ _ c2 trivial)
   ((fr.region fun i hi ri=>⟨ri,hi⟩).keep P fun _ _ _ _=>trivial) jr (by exact el hHa (ah aj)) .nil _ fun H' l' fr1 q1 q_a q4=>?_
  refine aZ q_a fun ks q2 q3=>lK H' H.length (ok.fnD 2 rfl rfl fun Q q=>?_) (OF _) (bN ks q2 ?_) ⟨Oz P.len q4.len,fun i ob e _=>q4.at_ i ob (P.at_ i ob e trivial) (z1 (aA e))⟩
  ·refine ay (TV.val (EV.meth (ad rfl) c1 rfl rfl .nil (da ok sa plen.2) (by decide))) (decide_eq_false (zA h1)) ?_;haveI ln:=bW (S:=S) (n:=4) (af (ad (l:=[some (.obj f),some (.obj s),some (.int x),some (.int y),some (.obj H.length),none,none,none,none,none]) (i:=1) rfl) (ah (E:=[.list []]) c1) (f:=30) rfl rfl rfl) (ah c2) (by exact er cO (DK plen.2));rw [cO] at ln;refine aD (EV.list .nil) (bk (bV ln) (aX aj ⟨by decide,by decide⟩ ⟨z6,by omega⟩) ?_);haveI en:((sc.places.length:Int) - 0).toNat=sc.places.length:=Br;refine er en (er hHa ?_);haveI el:(H++[O.list []]).length=H.length+1:=by simp
   exact er el (fr1 _ (W.ret (ad q1) q))
  ·haveI:(OT sc.places.length).map (fun i=>0+i)=OT sc.places.length:=by
    refine er (funext fun i=>Py i:(fun i=>0+i)=id) ?_;rw [List.map_id]
   rw [this,Ph] at q3;exact q3
end
end
section
mutual #where
variable {S:be} {n:Nat} {H H' H1 H2 E E':List O} {i:Nat} {l l1:aW} {v:V} {c:C} {R:Nat->Prop} {F:FD} {f s:Nat} {sc:SD}
theorem SD.OK.head(so:sc.OK F):sc.places[0]? = some (sc.places.headD 0):=by
 haveI:=so.plen;cases e:sc.places with
 | nil=>rw [e] at this;exact absurd this (by decide)
 | cons a b=>rfl
theorem rT(ok:OKl S)(o:F.OK)(so:sc.OK F)(fr:aQ R H f F)(sa:aY R H s sc):∃H',aE S 4 (.top 28) [.obj f,.obj s] H (.int (bI F sc)) H'/\cg H H':=by
 refine dQ (id sa) fun pl sl q_a c1 c2 c3=>dN q_a fun r1 r2 r3=>?_;haveI plen:=so.plen;haveI hp:=so.head;unfold bI;generalize sc.places.headD 0=k at hp;refine b7 (so.comp hp) fun q hq=>dN (tJ o hq) fun a1 a2 a3=>sn (xX o) fun m1 m2 m3 m4=>u9 (fr.place hq) fun cl cs c f1 f2 f3 f4 f5 _=>GK (o.nums (OC hq)) fun n1 n2 n3 n4 n5 n6 n7 n8 n9=>?_;by_cases h1:sc.places.length=1
 ·refine er (if_pos h1) (el a1 ?_);refine ma fun _ kK=>kK (F.jB q.2 H) (ok.fnD 0 rfl rfl fun Q qq=>?_) (.app (.app (.app (.app .refl))));refine bE (TV.val (EV.meth (ad rfl) c1 rfl rfl .nil (da ok sa plen.2) (by decide))) (decide_eq_true (Eg h1)) ?_;refine W.ret (mL (EV.meth (ad rfl) f1 rfl rfl (.cons (cA (af (ad rfl) c1 rfl rfl rfl) EV.int c2 ⟨by decide,by decide⟩ (dV hp)) .nil) (i5 ok fr hq) (by decide)) EV.int aj ⟨by decide,by decide⟩ rfl) ?_;exact er n5 qq
 ·refine er (if_neg h1) ?_;refine bN (H++[F.accs]) (ok.fnD 0 rfl rfl fun Q qq=>?_) (.app .refl);refine ay (TV.val (EV.meth (ad rfl) c1 rfl rfl .nil (da ok sa plen.2) (by decide))) (decide_eq_false (zA h1)) ?_;refine W.ret (EV.meth (ad rfl) f1 rfl rfl .nil (eA ok fr) (by decide)) ?_;exact er m1 qq
theorem tz(ok:OKl S)(o:F.OK)(so:sc.OK F)(fr:aQ R H f F)(sa:aY R H s sc):∃H',aE S 4 (.top 35) [.obj f,.obj s] H (.int (bL F sc)) H'/\cg H H':=by
 refine dQ (id sa) fun pl sl q_a c1 c2 c3=>dN q_a fun r1 r2 r3=>?_;have plen:=so.plen;have hp:=so.head;unfold bL;generalize sc.places.headD 0=k at hp;refine b7 (so.comp hp) fun q hq=>dN (tJ o hq) fun a1 a2 a3=>GK (o.nums (OC hq)) fun n1 n2 n3 n4 n5 n6 n7 n8 n9=>u9 (fr.place hq) fun cl cs c f1 f2 f3 f4 f5 _=>sn (xX o) fun m1 m2 m3 m4=>?_;by_cases h1:sc.places.length=1
 ·refine er (if_pos h1) (el a1 ?_);refine ma fun _ kK=>kK (F.jB q.2 H) (ok.fnD 1 rfl rfl fun Q qq=>?_) (.app (.app (.app (.app .refl))));refine bE (TV.val (EV.meth (ad rfl) c1 rfl rfl .nil (da ok sa plen.2) (by decide))) (decide_eq_true (Eg h1)) ?_;refine cL (EV.meth (ad rfl) f1 rfl rfl (.cons (cA (af (ad rfl) c1 rfl rfl rfl) EV.int c2 ⟨by decide,by decide⟩ (dV hp)) .nil) (i5 ok fr hq) (by decide)) aj rfl ?_;refine er n5 ?_;refine W.ret (EV.mul (ad rfl) (ad rfl) (av (D6 n6) (by lia))) ?_;refine er n6 ?_;rw [← SR];exact qq
 ·refine er (if_neg h1) ?_;refine bN (H++[F.accs]++[F.ones]) (ok.fnD 1 rfl rfl fun Q qq=>?_) (.app (.app .refl));refine ay (TV.val (EV.meth (ad rfl) c1 rfl rfl .nil (da ok sa plen.2) (by decide))) (decide_eq_false (zA h1)) ?_;refine W.ret (EV.mul (EV.meth (ad rfl) f1 rfl rfl .nil (eA ok fr) (by decide)) (EV.meth (ad rfl) (ah f1) rfl rfl .nil (iQ ok fr.app) (by decide)) (av (D6 m2) (by lia))) ?_;refine er m1 (er m2 ?_);rw [← SR];exact qq
end
end
section
mutual #where
variable {S:be} {n:Nat} {H H' H1 H2 E E':List O} {i:Nat} {l l1:aW} {v:V} {c:C} {R:Nat->Prop} {F:FD} {f g g2:Nat} {rw rw2:Nat->Nat->Nat} {D D2:GD}
structure AK(R:Nat->Prop)(F:FD)(f g g2:Nat)(rw rw2:Nat->Nat->Nat)(D D2:GD)(H:List O):Prop where
 a:bU R H g F rw D
 b:bU R H g2 F rw2 D2
 f:aQ R H f F
theorem AK.pre(x:AK R F f g g2 rw rw2 D D2 H)(k:cg H H'):AK R F f g g2 rw rw2 D D2 H':=⟨x.a.keep k fun _ _ _ _=>trivial,x.b.keep k fun _ _ _ _=>trivial,x.f.keep k fun _ _ _ _=>trivial⟩
def zi(F:FD)(D D2:GD):Prop:=∀p x y q,F.comps[p]? = some q->x<(F.bA q.2).toNat->y<F.bD.toNat->(D p x y).getD iH=(D2 p x y).getD iH
abbrev NQ:Ps:=(ur.body.get 0).b1
abbrev NP:Ps:=(NQ.get 1).b1
abbrev Ov:Ps:=(NP.get 0).b1
def IV(g g2 f p a d:Nat)(y x:Option V):aW:=[some (.obj g),some (.obj g2),some (.obj f),some (.int p),some (.int a),some (.int d),y,x]
theorem cg.rng{j:Nat}{H0:List O}{o:O}(h0:H0[j]? = some o)(h:H[j]? = some o):aG (.obj j) H0 H:=h.trans h0.symm
theorem Nb(ok:OKl S)(o:F.OK)(sm:zi F D D2){p y a d j:Nat}{q:Int×Int}{H0:List O}{ob:O}(h0:H0[j]? = some ob)(hq:F.comps[p]? = some q)(hy:y<F.bD.toNat):∀(m b:Nat) (H:List O) (x:Option V),b+m<=(F.bA q.2).toNat->AK R F f g g2 rw rw2 D D2 H->H[j]? = some ob->∀(kP:Prop),(∀H' x',dz S 3 Ov (.one 7) (aG (.obj j) H0) (cQ b m) (IV g g2 f p a d (some (.int y)) x) H (IV g g2 f p a d (some (.int y)) x') H'->cg H H'->kP)->kP:=by
 intro m_;induction m_ with
 | zero=>
  intro b H x _ _ hj;intro _ kK;exact kK H x (fun Q qq=>⟨cg.rng h0 hj,qq⟩) .refl
 | succ m ih_=>
  intro b H x hm ak hj;refine er bp ?_;intro _ kK;refine GK (o.nums (OC hq)) fun _ _ _ _ _ _ n7 n8 _=>?_;have ig:uL F p b y q:=⟨hq,Kv hm n7,Kd n8 hy⟩;refine dQ (kB ok o ak.a ig) fun c1 E1 a1 a2 a3 _=>?_;haveI P1:cg H (H++E1):=.app .refl;refine dQ (kB ok o (ak.pre P1).b ig) fun c2 E2 b1 b2 b3 _=>?_;haveI P2:cg H (H++E1++E2):=.app P1;refine ih_ (b+1) (H++E1++E2) (some (.int b)) (ER hm) (ak.pre P2) (P2.at_ _ _ hj trivial) _ fun H' x' f' k=>?_;obtain⟨_,_,_,_,gj,_⟩:=(ak.pre P1).b;obtain⟨_,_,_,_,_,gi,_⟩:=ak.a;obtain⟨_,pl,planes,_,gh,_⟩:=ak.a;refine kK H' x' (fun Q qq=>⟨cg.rng h0 hj,?_⟩) (P2.trans k);refine ay (ag (EV.meth (ad rfl) gh rfl rfl (.cons (ad rfl) (.cons (ad rfl) (.cons (ad rfl) .nil))) a1 (by decide)) (EV.meth (ad rfl) gj rfl rfl (.cons (ad rfl) (.cons (ad rfl) (.cons (ad rfl) .nil))) b1 (by decide)) (De (ah a2) b2 (eE _) (eE _) (by refine er ci (er ci ?_);refine er a3 (er b3 ?_);rfl))) ?_ (W.nil ?_)
  ·refine er (sm p b y q hq (EQ hm) hy) (er (decide_eq_true rfl) ?_);rfl
  ·haveI:=f' Q qq;replace this:=(z3:(((b+1):Int))=(b)+1)▸this;exact this
theorem Na(ok:OKl S)(o:F.OK)(sm:zi F D D2){p j:Nat}{q:Int×Int}{H0:List O}{ob:O}(h0:H0[j]? = some ob)(hq:F.comps[p]? = some q):∀(m b:Nat) (H:List O) (y x:Option V),b+m<=F.bD.toNat->AK R F f g g2 rw rw2 D D2 H->H[j]? = some ob->∀(kP:Prop),(∀H' y' x',dz S 3 NP (.one 6) (aG (.obj j) H0) (cQ b m) (IV g g2 f p (F.bA q.2).toNat F.bD.toNat y x) H (IV g g2 f p (F.bA q.2).toNat F.bD.toNat y' x') H'->cg H H'->kP)->kP:=by
 intro m_;induction m_ with
 | zero=>
  intro b H y x _ _ hj;intro _ kK;exact kK H y x (fun Q qq=>⟨cg.rng h0 hj,qq⟩) .refl
 | succ m ih_=>
  intro b H y x hm ak hj;refine er bp ?_;intro _ kK;have P1:cg H (H++[.rng 0 (F.bA q.2).toNat 1]):=.app .refl;refine Nb (a:=(F.bA q.2).toNat) (d:=F.bD.toNat) ok o sm aj hq (EQ hm) (F.bA q.2).toNat 0 (H++[.rng 0 (F.bA q.2).toNat 1]) x D5 (ak.pre P1) aj _ fun H1 x1 f1 k1=>GK (o.nums (OC hq)) fun _ _ _ _ _ _ _ _ n9=>ih_ (b+1) H1 (some (.int b)) x1 (ER hm) (ak.pre (P1.trans k1)) ((P1.trans k1).at_ _ _ hj trivial) _ fun H' y' x' f' k=>kK H' y' x' (fun Q qq=>⟨cg.rng h0 hj,?_⟩) ((P1.trans k1).trans k);haveI en:(((F.bA q.2).toNat:Int) - 0).toNat=(F.bA q.2).toNat:=Mn;refine bk (bV (ad rfl)) (aX aj ⟨by decide,by decide⟩ ⟨Mm,by lia⟩) ?_;refine f1 _ (W.nil ?_);refine er en ?_;haveI:=f' Q qq;replace this:=(z3:(((b+1):Int))=(b)+1)▸this;exact this
theorem Nc(ok:OKl S)(o:F.OK)(sm:zi F D D2){j:Nat}{H0:List O}{ob:O}(h0:H0[j]? = some ob):∀(m b:Nat) (H:List O) (p a d y x:Option V),b+m<=F.comps.length->AK R F f g g2 rw rw2 D D2 H->H[j]? = some ob->∀(kP:Prop),(∀H' l',dz S 3 NQ (.one 3) (aG (.obj j) H0) (cQ b m) [some (.obj g),some (.obj g2),some (.obj f),p,a,d,y,x] H l' H'->cg H H'->kP)->kP:=by
 intro m_;induction m_ with
 | zero=>
  intro b H p a d y x _ _ hj;intro _ kK;exact kK H _ (fun Q qq=>⟨cg.rng h0 hj,qq⟩) .refl
 | succ m ih_=>
  intro b H p a d y x hm ak hj;refine er bp ?_;intro _ kK;obtain⟨q,hq⟩:∃q,F.comps[b]? = some q:=⟨_,OD (Jt hm)⟩;refine GK (o.nums (OC hq)) fun _ _ _ _ n5 n6 _ n8 n9=>sn (xX o) fun m1 m2 m3 m4=>u9 (ak.f.place hq) fun cl cs c f1 f2 f3 f4 f5 _=>?_;haveI P0:cg H (F.jB q.2 H):=.app (.app (.app (.app .refl)));have P1:cg H (F.jB q.2 H++[.rng 0 F.bD.toNat 1]):=.app P0;haveI hd3:F.bD.toNat<=3:=by have:F.nD=F.mD.toNat:=rfl;exact Oz ‹_› ‹_›
  refine Na ok o sm aj hq F.bD.toNat 0 (F.jB q.2 H++[.rng 0 F.bD.toNat 1]) y x D5 (ak.pre P1) aj _ fun H1 y1 x1 fy k1=>ih_ (b+1) H1 (some (.int b)) (some (.int (F.bA q.2).toNat)) (some (.int F.bD.toNat)) y1 x1 (D8 hm) (ak.pre (P1.trans k1)) ((P1.trans k1).at_ _ _ hj trivial) _ fun H' l' f' k=>kK H' l' (fun Q qq=>⟨cg.rng h0 hj,?_⟩) ((P1.trans k1).trans k);refine cL (EV.meth (ad rfl) f1 rfl rfl (.cons (ad rfl) .nil) (i5 ok ak.f hq) (by decide)) aj rfl ?_;refine er n5 (er n6 ?_);haveI en:((F.bD.toNat:Int) - 0).toNat=F.bD.toNat:=rfl;refine er en ?_;refine bk (bV (ad rfl)) (aX aj ⟨by decide,by decide⟩ ⟨OS _,by lia⟩) ?_;refine fy _ (W.nil ?_);haveI:=f' Q qq;replace this:=(rfl:(((b+1:Nat):Int))=(b)+1)▸this;exact this
theorem tI(ok:OKl S)(o:F.OK)(sm:zi F D D2)(ak:AK R F f g g2 rw rw2 D D2 H){kP:Prop}(kK:∀H',aE S 4 (.top 183) [.obj g,.obj g2,.obj f] H (.bool true) H'->kP):kP:=by
 refine zv (ak.f.place (p:=0) (by unfold FD.comps;split<;>rfl)) fun cl cs c f1 f2 _ _ _ e1 e2=>Nc ok o sm aj F.comps.length 0 (H++[.rng 0 F.comps.length 1]) none none none none none I8 (ak.pre (.app .refl)) aj _ fun H' l' f' k=>kK H' (ok.fnD 13 rfl rfl fun Q q=>?_);refine bk (bV (bW (af (ad rfl) f1 rfl rfl rfl) f2 (Bo e1 e2))) (aX aj ⟨by decide,by decide⟩ ⟨z6,by lia⟩) ?_;refine er e1 ?_;haveI en:((F.comps.length:Int) - 0).toNat=F.comps.length:=Br;exact er en (f' _ (W.ret EV.bool q))
end
end
section
mutual #where
variable {S:be} {n:Nat} {H H' H1 H2 E E':List O} {i:Nat} {l l1:aW} {v:V} {c:C} {R:Nat->Prop} {F:FD} {f s:Nat}
def cR(H:List O)(s:Nat):Prop:=∃a b:Int,H[s]? = some (.list [.int a,.int b])/\0<=a/\0<=b/\b<2147483648
theorem kF{a m:Int}(h:0<m):0<=a.fmod m/\a.fmod m<m:=by
 refine er (RX _ (Kh h)) ?_;refine jF fun _ kK=>kK (Int.emod_nonneg _ (Nh h)) (Int.emod_lt_of_pos _ h)
theorem Ay{a m:Int}(h:0<=a)(hm:0<m):0<=a.fdiv m:=by
 exact er (QR _ (Kh hm)) (Int.ediv_nonneg h (Kh hm))
theorem cR.keep{G:Nat->O->Prop}(x:cR H s)(k:Kp G H H')(g:∀xs,G s (.list xs)):cR H' s:=by
 refine eu x fun a b h1 h2=>sf a b (k.get h1 (g _)) h2
abbrev Ns(s:Nat):Nat->O->Prop:=fun i _=>i≠s
structure rZ(S:be)(H:List O)(s:Nat)(m d:Int)(H':List O):Prop where
 call:aE S 1 (.top 1035) [.obj s,.int m] H (.int d) H'
 lo:0<=d
 hi:d<m
 src:cR H' s
 kp:Kp (Ns s) H H'
theorem cF(ok:OKl S){m:Int}(x:cR H s)(hm:1<=m/\m<=1000){kP:Prop}(kK:∀d H',rZ S H s m d H'->kP):kP:=by
 refine dQ x fun a b h1 ha hb hb2=>?_;by_cases h0:0<a;haveI sm:=av (by lia) (Me hm.2)
 ·have fm:=kF (a:=a) (Gx hm.1);refine kK (a.fmod m) (H.set s (.list [.int (a.fdiv m),.int b])) ⟨ok.fnD 79 rfl rfl fun Q q=>?_,fm.1,fm.2,(lK _ b (aM (aA h1)) (Ay ha (by lia)) hb hb2),Kp.set .refl fun _ _ z=>z rfl⟩;haveI c0:∀z,EV S 0 (.sub (.loc 0) (.int 0)) [some (.obj s),some (.int m),z] H (.int a) H:=fun z=>cA (ad rfl) EV.int h1 ⟨by decide,by decide⟩ rfl;refine bE (ag (c0 _) EV.int bt) (decide_eq_true h0) ?_;refine aD (EV.mod (fW (c0 _)) (ad rfl) (B3 fm.2 fm.1)) ?_;exact dm (EV.fdiv (c0 _) (ad rfl) ⟨B3 fm.2 fm.1,sm⟩) (ad rfl) EV.int h1 (bT (by decide) (by refine(?_:(0:Int)<2);decide) (by refine(?_:2<=100000);decide)) (W.ret (ad rfl) q)
 ·haveI b1:=kF (a:=b*48271+11) (m:=2147483647) (by decide);generalize hB:(b*48271+11).fmod 2147483647=B at b1;haveI fm:=kF (a:=((B*B).fmod 2147483629).fdiv 16) (Gx hm.1);haveI e2:(H.set s (.list [.int a,.int B]))[s]? = some (.list [.int a,.int B]):=aM (aA h1);have c0:∀z,EV S 0 (.sub (.loc 0) (.int 0)) [some (.obj s),some (.int m),z] H (.int a) H:=fun z=>cA (ad rfl) EV.int h1 ⟨by decide,by decide⟩ rfl;refine kK ((((B*B).fmod 2147483629).fdiv 16).fmod m) (H.set s (.list [.int a,.int B])) ⟨ok.fnD 79 rfl rfl fun Q q=>?_,fm.1,fm.2,(lK a B e2 ha b1.1 (No b1.2)),Kp.set .refl fun _ _ z=>z rfl⟩;refine ay (ag (c0 _) EV.int bt) (decide_eq_false h0) ?_;refine dm (au (EV.mod (fW (EV.add (EV.mul (cA (ad rfl) EV.int h1 ⟨by decide,by decide⟩ rfl) EV.int (av (by decide) (by decide))) EV.int)) EV.int (by decide)) hB) (ad rfl) EV.int h1 (bT (by decide) (by refine(?_:(1:Int)<2);decide) (by refine(?_:2<=100000);decide)) ?_;haveI c1:∀z,EV S 0 (.sub (.loc 0) (.int 1)) [some (.obj s),some (.int m),z] (H.set s (.list [.int a,.int B])) (.int B) (H.set s (.list [.int a,.int B])):=fun z=>cA (ad rfl) EV.int e2 ⟨by decide,by decide⟩ rfl;exact W.ret (EV.mod (fW (EV.fdiv (EV.mod (fW (EV.mul (c1 _) (c1 _) (av (GA b1.1) (Mk b1.2)))) EV.int (by decide)) EV.int ⟨by decide,av (by decide) (by decide)⟩)) (ad rfl) (B3 fm.2 fm.1)) q
abbrev ME:Ps:=(jA.body.get 3).b1
theorem wW{k:Nat}{H0:List O}(h0:H[k]? = H0[k]?):∀(ns:List Int) (b:Int) (x y z:V) (w:Option V),0<=b/\b<2147483648->∀(kP:Prop),(∀b' w',dz S n ME (.one 4) (aG (.obj k) H0) (zs ns) [some x,some y,some z,some (.int b),w] H [some x,some y,some z,some (.int b'),w'] H->0<=b'->(b'<2147483647∨(ns=[]/\b'=b))->kP)->kP:=by
 intro m_;induction m_ with
 | nil=>
  intro b x y z w hb;intro _ kK;exact kK b w (fun Q q=>⟨h0,q⟩) hb.1 (.inr ⟨rfl,rfl⟩)
 | cons a ns ih_=>
  intro b x y z w hb;intro _ kK;haveI b1:=kF (a:=b*48271+(a.natAbs)+11) (m:=2147483647) (by decide);refine ih_ ((b*48271+(a.natAbs)+11).fmod 2147483647) x y z (some (.int a)) ⟨b1.1,No b1.2⟩ _ fun b' w' f' h1 h2=>kK b' w' (fun Q q=>⟨h0,?_⟩) h1 (.inl ?_)
  ·exact aD (EV.mod (fW (EV.add (EV.add (EV.mul (ad rfl) EV.int (av (by decide) (by decide))) (EV.abs (fW (ad rfl)))) EV.int)) EV.int (by decide)) (W.nil (f' Q q))
  ·rcases h2 with h | ⟨_,h⟩<;>omega
end
end
section
mutual #where
variable {S:be} {n:Nat} {H H1 H2:List O} {l:aW} {b c:C} {a:Nat} {vs:List Value} {ns:List Int}
theorem uS(ha:S.h₀.IsList a vs.toArray)(hn:vs.length<=63)(hc:EV S n c l H (.top a) H1):EV S n (.bcall .len (.cons c .nil)) l H (.int vs.length) H1:=bS (.cons hc .nil) (LC.one fun _ T r q=>by
 refine er r ?_;refine aZ ha fun o e r=>Calls.call_len_list (bN o (T.base _ _ e) r) (by simp;lia) (bF.tk T _ (.int _ _) q))
theorem zp(ha:S.h₀.IsList a vs.toArray)(hv:d8 [] (zs ns) vs){d:Int}(hd:ns[0]? = some d)(hc:EV S n c l H (.top a) H1):EV S n (.sub c (.int 0)) l H (.int d) H1:=kX hc EV.int fun _ hs T r r' q=>by
 refine b7 r' fun t q_a=>?_;obtain rfl:=q_a;obtain rfl:=r;refine eZ ha fun o e h1 q_a=>aZ (hv.get (cY hd)) fun z g1 g2=>b7 q_a fun m h2=>tail_any (bN _ (T.base _ _ e) h1) PySem.F.slot_list_getitem.lookup (wpAny_getItem_list ⟨_,T.base _ _ e,h1,_,h2⟩ (by decide) (by decide) (by simpa using g1) (bF.now T (g2.mono SL) q)) hs
theorem zq(ha:S.h₀.IsList a vs.toArray)(hv:d8 [] (zs ns) vs)(hn:vs.length<=63)(hc:EV S n c l H (.top a) H1):EV S n (.shi c (.int 20)) l H (.obj H1.length) (H1++[.list (zs (ns.take 20))]):=uP hc EV.int fun T r pu hs he q=>by
 refine eZ ha fun o e h1 q_a=>?_;obtain rfl:=r.symm;refine b7 q_a fun m h2=>?_;haveI lv:=hv.length;rw [ci] at lv;refine tail_any (bN _ (T.base _ _ e) h1) PySem.F.slot_list_getitem.lookup (wpAny_getItem_list_slice ⟨_,T.base _ _ e,h1,_,h2⟩ hs .none pu .none (by simp) ?_ (by refine er sizeLine_eq ?_;exact er O3 (Lm hn))) he;refine er (ub (k:=min 20 vs.length) GT (BD (by decide)) (by rw [Py];exact Q9 _ _)) ?_;refine iM T ?_ q;refine er Qp (el R8 ?_);exact er (show zs (ns.take 20)=(zs ns).take 20 from SZ) ((d8.mono SL hv).take 20)
theorem qB(ok:OKl S)(ha:S.h₀.IsList a vs.toArray)(hv:d8 [] (zs ns) vs)(hl:ns.length<=63):∃H' s,aE S 1 (.top 1028) [.top a] H (.obj s) H'/\cR H' s/\cg H H'/\H.length<=s:=by
 have lv:=hv.length;replace lv:=ci▸lv;obtain⟨d,hd⟩:∃d,d=ns.headD 0:=⟨_,rfl⟩;generalize hm:(((d.natAbs):Int)).fmod 2147483629+17*(if decide (d<0) then 1 else 0)=m0;have m0b:0<=m0/\m0<2147483648:=by
  refine el hm ?_;have q:=kF (a:=((d.natAbs):Int)) (m:=2147483629) (by decide);by_cases h:decide (d<0)=true
  ·refine er (if_pos h) ⟨S1 q.1 (by decide),Qy (Sk q.2 _) (by decide)⟩
  ·refine er (if_neg h) ⟨S1 q.1 (by decide),Qy (Sk q.2 _) (by decide)⟩
 refine wW (S:=S) (n:=0) (H:=H++[.list (zs (ns.take 20))]) (k:=H.length) rfl (ns.take 20) m0 (.top a) (.int d) (.int (d.natAbs:Nat)) none m0b _ fun b' w' f' h1 h2=>?_;generalize hz:((d.natAbs):Int)*(if decide ((10)^18<=((d.natAbs):Int)) then 1 else 0)=a0;haveI a0b:0<=a0:=by refine el hz (Int.mul_nonneg (OS _) ?_);by_cases h:decide ((10)^18<=((d.natAbs):Int))=true;exact er (if_pos h) (by decide);exact er (if_neg h) (by decide)
 haveI b'b:b'<2147483648:=by rcases h2 with h2 | ⟨_,rfl⟩<;>lia
 haveI cell:EV S 0 (.ite (.cmp (.bcall .len (.cons (.loc 0) .nil)) [.Gt] (.cons (.int 0) .nil)) (.sub (.loc 0) (.int 0)) (.int 0)) [some (.top a),none,none,none,none] H (.int d) H:=by
  cases ns with
  | nil=>
   exact er hd (cP (ag (uS ha (KG lv hl) (ad rfl)) EV.int bt) (decide_eq_false (by refine er lv ?_;decide)) EV.int)
  | cons d' r=>
   refine er hd ?_;exact de (ag (uS ha (KG lv hl) (ad rfl)) EV.int bt) (decide_eq_true (by refine er lv ?_;exact er OQ Gd)) (zp ha hv rfl (ad rfl))
 refine lK (H++[O.list (zs (ns.take 20))]++[O.list [.int a0,.int b']]) ((H++[O.list (zs (ns.take 20))]).length) (ok.fnD 78 rfl rfl fun Q q=>?_) (lK a0 b' aj a0b h1 b'b) (.app (.app .refl)) (by simp);refine aD cell (aD (EV.abs (fW (ad rfl))) (aD (au (EV.add (EV.mod (fW (ad rfl)) EV.int (by decide)) (EV.mul EV.int (uV (nY (ad rfl) EV.int iF)) (by split<;>exact av (by decide) (by decide)))) hm) ?_));refine bk (zq ha hv (KG lv hl) (ad rfl)) (aU aj) (f' _ ?_);exact W.ret (EV.list (.cons (au (EV.mul (ad rfl) (uV (nY (ad rfl) (EV.pow EV.int EV.int (bT (by decide) (by decide) (av (by decide) (by decide)))) v5)) (by split<;>exact av (by decide) (by decide))) hz) (.cons (ad rfl) .nil))) q
end
end
section
mutual #where
variable {S:be} {n:Nat} {H H' H1 H2 E E':List O} {i:Nat} {l l1:aW} {v:V} {c:C} {R:Nat->Prop} {F:FD} {f s:Nat}
theorem rZ.app{m d:Int}(x:cR H s):cR (H++E) s:=x.keep (G:=fun _ _=>True) (Kp.app .refl) fun _=>trivial
structure Ow(S:be)(H:List O)(s:Nat)(v:Int)(H':List O):Prop where
 call:aE S 2 (.top 1047) [.obj s] H (.int v) H'
 bd:-7<=v/\v<=7
 src:cR H' s
 kp:Kp (Ns s) H H'
theorem qQ(ok:OKl S)(x:cR H s){kP:Prop}(kK:∀v H',Ow S H s v H'->kP):kP:=by
 refine cF ok (m:=6) x (by decide) fun d H1 D1=>?_;have dh:=D1.hi;by_cases h:d<3
 ·exact kK 0 H1 ⟨ok.fnD 81 rfl rfl fun Q q=>aD (EV.fcall rfl (.cons (ad rfl) (.cons EV.int .nil)) D1.call (by decide)) (bE (ag (ad rfl) EV.int iF) (decide_eq_true h) (W.ret EV.int q)),by decide,D1.src,D1.kp⟩
 ·have src2:cR (H1++[.list [.int 1,.int 2,.int 7]]) s:=rZ.app (m:=0) (d:=0) D1.src;obtain⟨c,hc,c1,c7⟩:∃c:Int,[V.int 1,.int 2,.int 7][(d - 3).toNat]? = some (.int c)/\1<=c/\c<=7:=by
   haveI:d=3∨d=4∨d=5:=by lia
   rcases this with rfl | rfl | rfl
   ·exact jb 1 rfl (by decide) (by decide)
   ·exact jb 2 rfl (by decide) (by decide)
   ·exact jb 7 rfl (by decide) (by decide)
  refine cF ok (m:=c) src2 (by lia) fun e H2 D2=>cF ok (m:=2) D2.src (by decide) fun g H3 D3=>?_;have eh:=D2.hi;have el:=D2.lo;have gl:=D3.lo;have gh:=D3.hi;have vb:-7<=(1+e)*(1 - 2*g)/\(1+e)*(1 - 2*g)<=7:=by
   haveI:g=0∨g=1:=by lia
   rcases this with rfl | rfl<;>lia
  refine kK ((1+e)*(1 - 2*g)) H3 ⟨ok.fnD 81 rfl rfl fun Q q=>?_,vb,D3.src,(D1.kp.trans ((Kp.app .refl).trans D2.kp)).trans D3.kp⟩;refine aD (EV.fcall rfl (.cons (ad rfl) (.cons EV.int .nil)) D1.call (by decide)) (ay (ag (ad rfl) EV.int iF) (decide_eq_false h) ?_);refine W.ret (EV.mul (EV.add EV.int (EV.fcall rfl (.cons (ad rfl) (.cons (cA (EV.list (.cons EV.int (.cons EV.int (.cons EV.int .nil)))) (EV.sub (ad rfl) EV.int) aj ⟨I7 h,I6 dh⟩ hc) .nil)) D2.call (by decide))) (EV.sub EV.int (EV.mul EV.int (EV.fcall rfl (.cons (ad rfl) (.cons EV.int .nil)) D3.call (by decide)) (av (GA gl) (by lia)))) (av (by lia) (by lia))) q
theorem vI(ok:OKl S)(x:cR H s){kP:Prop}(kK:∀f F H',aE S 3 (.top 1064) [.obj s] H (.obj f) H'->aQ (fun i=>H.length<=i) H' f F->cR H' s->Kp (Ns s) H H'->kP):kP:=by
 refine cF ok (m:=2) x (by decide) fun d H1 D1=>cF ok (m:=2) D1.src (by decide) fun e H2 D2=>?_;haveI dl:=D1.lo;haveI dh:=D1.hi;have eh:=D2.hi;have el:=D2.lo;have K2:=D1.kp.trans D2.kp;generalize hH3:H2++[O.tuple [.int (1+d),.int (1+e)]]=H3;generalize hH6:H3++[et 1 (1+d)]++[et 2 1]++[.list [.obj H3.length,.obj (H3++[et 1 (1+d)]).length]]++[.list ([V.obj H3.length,.obj (H3++[et 1 (1+d)]).length].take (1+e).toNat)]=H6;have P6:cg H2 H6:=by rw [← hH6,← hH3];exact .app (.app (.app (.app (.app .refl))))
 have s6:=D2.src.keep P6 fun _=>trivial;refine fQ (id s6) fun a b sx sa _=>?_;have hi:∃hi ac:Int,(1<=hi/\hi<=6)/\(1<=ac/\ac<=5)/\∀w m cm,EV S 2 (.ite (.cmp (.sub (.loc 0) (.int 0)) [.Gt] (.cons (.int 0) .nil)) (.tup (.cons (.int 6) (.cons (.int 5) .nil))) (.tup (.cons (.int 2) (.cons (.int 3) .nil)))) [some (.obj s),w,m,cm,none,none] H6 (.obj H6.length) (H6++[.tuple [.int hi,.int ac]]):=by
  by_cases h0:0<a
  ·exact lN 6 5 (by decide) (by decide) (fun w m cm=>de (ag (cA (ad rfl) EV.int sx ⟨by decide,by decide⟩ rfl) EV.int bt) (decide_eq_true h0) (bJ (.cons EV.int (.cons EV.int .nil))))
  ·exact lN 2 3 (by decide) (by decide) (fun w m cm=>cP (ag (cA (ad rfl) EV.int sx ⟨by decide,by decide⟩ rfl) EV.int bt) (decide_eq_false h0) (bJ (.cons EV.int (.cons EV.int .nil))))
 refine fQ hi fun hi ac hib acb hev=>cF ok (rZ.app (m:=0) (d:=0) (E:=[.tuple [.int hi,.int ac]]) s6) (Ma hib.2 hib.1) fun g H7 D3=>cF ok D3.src (Mb acb.2 acb.1) fun k H8 D4=>?_;haveI gl:=D3.lo;haveI gh:=D3.hi;haveI kl:=D4.lo;haveI kh:=D4.hi;haveI K68:=(Kp.app .refl).trans (D3.kp.trans D4.kp);generalize hcl:(H3++[et 1 (1+d)]++[et 2 1]++[O.list [.obj H3.length,.obj (H3++[et 1 (1+d)]).length]]).length=cl at *;have hs2:s<H2.length:=by refine eu D2.src fun _ _ z _=>?_;exact aA z
 have l3:H3.length=H2.length+1:=by rw [← hH3];simp
 haveI lcl:cl=H2.length+4:=by rw [← hcl];simp [l3]
 have ll:=K2.len;haveI c6:H6[cl]? = some (.list ([V.obj H3.length,.obj (H3++[et 1 (1+d)]).length].take (1+e).toNat)):=by rw [← hH6,← hcl];exact aj
 haveI a6:H6[H3.length]? = some (et 1 (1+d)):=by rw [← hH6];exact ah (ah (ah aj))
 haveI b6:H6[(H3++[et 1 (1+d)]).length]? = some (et 2 1):=by rw [← hH6];exact ah (ah aj)
 haveI lb:(H3++[et 1 (1+d)]).length=H2.length+2:=by simp [l3]
 have g8:∀ {i o},H6[i]? = some o->H2.length<=i->(H8++[iR (1+g) (1+k) cl])[i]? = some o:=fun h1 h2=>ah (K68.get h1 (by lia));refine kK H8.length ⟨1+d,decide (e=1),1+k,1+g⟩ (H8++[iR (1+g) (1+k) cl]) (ok.fnD 84 rfl rfl fun Q q=>?_) ⟨⟨I5 dh dl,I4 kh acb.2 kl,I3 gh hib.2 gl⟩,cl,if e=1 then [H3.length,(H3++[et 1 (1+d)]).length] else [H3.length],⟨by haveI:=K68.len;haveI:=P6.len;exact DZ this ll ‹_›,DY lcl ll⟩,aj,?_,?_⟩ (rZ.app (m:=0) (d:=0) D4.src) (.app ((K2.trans P6.pre).trans K68))
 ·refine cL (bJ (.cons (EV.add EV.int (EV.fcall rfl (.cons (ad rfl) (.cons EV.int .nil)) D1.call (by decide))) (.cons (EV.add EV.int (EV.fcall rfl (.cons (ad rfl) (.cons EV.int .nil)) D2.call (by decide))) .nil))) aj rfl ?_;refine er hH3 ?_;refine aD (Dz (EV.list (.cons (EV.fcall rfl (.cons EV.int (.cons (ad rfl) (.cons EV.int (.cons EV.int .nil)))) (oX ok) (by decide)) (.cons (EV.fcall rfl (.cons EV.int (.cons EV.int (.cons EV.int (.cons EV.int .nil)))) (oX ok) (by decide)) .nil))) (ad rfl) aj (by refine(?_:2<=100000);decide) (by lia)) ?_;refine er hH6 (er hcl ?_);refine cL (hev _ _ _) aj rfl ?_;exact W.ret (EV.fcall rfl (.cons EV.str (.cons EV.int (.cons (EV.add EV.int (EV.fcall rfl (.cons (ad rfl) (.cons (ad rfl) .nil)) D3.call (by decide))) (.cons (EV.add EV.int (EV.fcall rfl (.cons (ad rfl) (.cons (ad rfl) .nil)) D4.call (by decide))) (.cons (ad rfl) (.cons EV.int .nil)))))) (ti ok) (by decide)) q
 ·have:=g8 c6 (by lia);by_cases h1:e=1
  ·obtain rfl:=h1.symm;exact er (if_pos rfl) this
  ·haveI h0:=DX eh el h1;subst h0;exact er (if_neg (by decide)) this
 ·by_cases h1:e=1
  ·refine er h1 ?_;exact er (if_pos rfl) (.cons ⟨DV l3 ll,g8 a6 (B5 l3)⟩ (.cons ⟨Ei lb ll,g8 b6 (D7 lb)⟩ .nil))
  ·haveI h0:=DX eh el h1;refine er h0 ?_;exact er (if_neg (by decide)) (.cons ⟨DV l3 ll,g8 a6 (B5 l3)⟩ .nil)
end
end
section
mutual #where
variable {S:be} {n:Nat} {H H' H1 H2 E E':List O} {i:Nat} {l l1:aW} {v:V} {c:C} {R:Nat->Prop} {F:FD} {f s g:Nat}
def refs(L j:Nat):List V:=(OT j).map fun i:Nat=>.obj (L+2+2*i)
def td(a:Nat):Nat->List O
 | 0=>[]
 | j+1=>td a j++[.list [.none],.list (OM a .none)]
theorem oS(a j:Nat):td a (j+1)=td a j++[.list [.none],.list (OM a .none)]:=rfl
def dT(H1:List O)(a j:Nat):List O:=H1++[.list (refs H1.length j)]++td a j
theorem m7(a:Nat):∀j,(td a j).length=2*j:=by
 intro m_;induction m_ with
 | zero=>
  exact rfl
 | succ j ih_=>
  refine er OA (er ih_ ?_);simp;exact rfl
theorem lh{a j:Nat}:(dT H1 a j).length=H1.length+1+2*j:=by unfold dT;simp [m7];lia
theorem yg(a:Nat){j i:Nat}(h:i<j):(td a j)[2*i+1]? = some (.list (OM a .none)):=by
 induction j with
 | zero=>exact absurd h (Qk _)
 | succ j ih=>
  refine er (oS ..) ?_;by_cases e:i<j
  ·exact ah (ih e)
  ·haveI:i=j:=KQ h e;refine el this ?_;rewrite [OU (by rw [m7];exact OL _ _),m7];refine er (LV:2*i+1 - 2*i=1) ?_;rfl
theorem vp{a j i:Nat}(h:i<j):(dT H1 a j)[H1.length+2+2*i]? = some (.list (OM a .none)):=by
 refine er (OU (by simp;lia)) ?_;haveI:H1.length+2+2*i - (H1++[O.list (refs H1.length j)]).length=2*i+1:=by simp;lia
 exact er this (yg a h)
theorem xD{L j i:Nat}(h:i<j):(refs L j)[i]? = some (.obj (L+2+2*i)):=by
 refine er O5 (er (Ru h) ?_);rfl
theorem vq{L j:Nat}:refs L (j+1)=refs L j++[.obj (L+2+2*j)]:=by unfold refs;refine er Re (er O2 ?_);rfl
abbrev NK:C:=.bin .Mult (.list (.cons .none .nil)) (.loc 1)
theorem yT{a:Nat}(ha:a<=10)(hl:l[3]? = some (some (.int a))){jr:Nat}{o:O}(hj:H1[jr]? = some o)(rest:List V)(j:Nat)(hb:j+rest.length<=100):B0 S n NK [3] l (aG (.obj jr) H1) H1.length rest (dT H1 a j) (dT H1 a (j+rest.length)):=by
 induction rest generalizing j with
 | nil=>exact fun Q q=>⟨(ah (ah hj)).trans hj.symm,q⟩
 | cons y rest ih=>
  intro Q q;simp only [OQ] at hb q;refine⟨(ah (ah hj)).trans hj.symm,?_⟩;dsimp only;haveI lc:bx l [3] (some y)=[some y,some (.int a)]:=by unfold bx;simp [hl]
  refine(if_pos rfl).mpr ?_;refine er lc ?_;refine EV.rep (EV.list (.cons EV.none .nil)) (ad rfl) aj ⟨z0,by lia⟩ _ ?_;haveI ln:(dT H1 a j++[O.list [.none]]).length=H1.length+2+2*j:=by refine er OA (er lh ?_);simp;exact K9
  haveI ga:(dT H1 a j++[O.list [.none]]++[.list (OM (a:Int).toNat .none)])[H1.length]? = some (.list (refs H1.length j)):=ah (ah (ah aj));haveI e:(dT H1 a j++[O.list [.none]]++[O.list (OM (a:Int).toNat .none)]).set H1.length (O.list (refs H1.length j++[V.obj (dT H1 a j++[O.list [.none]]).length]))=dT H1 a (j+1):=by
   rewrite [ln];refine el vq ?_;rw [ON];unfold dT;simp only [OB];rw [oS];refine er (Sa _ _ (OF _)) ?_;rw [Rg];rfl
  refine jb _ ga (by unfold refs;simp;exact Fk hb) ?_;refine er e ?_;exact ih (j+1) (Io hb) Q (by exact er (by exact PQ _ _ _:j+1+rest.length=j+(rest.length+1)) q)
structure GI(F:FD)(L g pl p:Nat)(kb:Nat->Nat)(H:List O):Prop where
 g:H[g]? = some (ng pl)
 pl:∃planes,H[pl]? = some (.list planes)/\planes.length=p/\∀p',p'<p->planes[p']? = some (.obj (kb p'))
 at_:∀p' q,p'<p->F.comps[p']? = some q->L<=kb p'/\H[kb p']? = some (.list (refs (kb p') F.nD))/\∀y,y<F.nD->H[kb p'+2+2*y]? = some (.list (OM (F.nA q.2) .none))
 ord:∀p' p'',p'<p''->p''<p->kb p'+2+2*F.nD<=kb p''
 top:∀p',p'<p->kb p'+2+2*F.nD<=H.length+1
abbrev Ol:Ps:=(l8.body.get 2).b1
theorem As(ok:OKl S)(o:F.OK){L pl jr:Nat}{H0:List O}{ob:O}(h0:H0[jr]? = some ob)(hob:∀xs,ob≠.list xs)(hgl:g<L/\pl<L)(hR:∀i,R i->i≠pl):∀(m p:Nat) (kb:Nat->Nat) (H:List O) (x y z:Option V),p+m=F.comps.length->GI F L g pl p kb H->aQ R H f F->H[jr]? = some ob->L<=H.length->∀(kP:Prop),(∀H' l' kb',dz S 3 Ol (.one 2) (aG (.obj jr) H0) (cQ p m) [some (.obj g),some (.obj f),x,y,z] H l' H'->GI F L g pl (p+m) kb' H'->Kp (fun i _=>i≠pl) H H'->kP)->kP:=by
 intro m_;induction m_ with
 | zero=>
  intro p kb H x y z _ gi _ hj _;intro _ kK;exact kK H _ kb (fun Q q=>⟨hj.trans h0.symm,q⟩) gi .refl
 | succ m ih_=>
  intro p kb H x y z hm gi fr hj hL;refine er bp ?_;intro _ kK;obtain⟨q,hq⟩:∃q,F.comps[p]? = some q:=⟨_,OD (DH hm)⟩;refine tT (o.nums (OC hq)) fun n1 n2 n3 n4 _=>eZ gi.pl fun planes p1 p2 p3=>u9 (fr.place hq) fun cl cs c f1 f2 f3 f4 f5 _=>?_;generalize hHc:F.jD q.2 H++[O.rng 0 F.nD 1]=Hc;haveI P:cg H Hc:=by exact el hHc (.app (.app (.app (.app .refl))))
  have hcl:Hc.length=H.length+4:=by refine el hHc ?_;unfold FD.jD;simp
  haveI jc:Hc[H.length+3]? = some (.rng 0 F.nD 1):=by
   refine el hHc ?_;exact er (show H.length+3=(F.jD q.2 H).length by unfold FD.jD;simp) aj
  have P2:cg H (dT Hc (F.nA q.2) F.nD):=.app (.app P);haveI plc:=P2.at_ _ _ p1 trivial;have Krow:∀ {i o},(dT Hc (F.nA q.2) F.nD)[i]? = some o->i≠pl->((dT Hc (F.nA q.2) F.nD).set pl (.list (planes++[.obj Hc.length])))[i]? = some o:=fun h n=>cj (Ne.symm n) h;have K:Kp (fun i _=>i≠pl) H ((dT Hc (F.nA q.2) F.nD).set pl (.list (planes++[.obj Hc.length]))):=Kp.set P2.pre fun _ _ z=>z rfl;haveI gne:=hk gi.g p1;haveI gi':GI F L g pl (p+1) (fun i=>if i=p then Hc.length else kb i) ((dT Hc (F.nA q.2) F.nD).set pl (.list (planes++[.obj Hc.length]))):=by
   refine⟨K.get gi.g gne,(jb _ (aM (aA plc)) (by simp [p2]) (fun p' hp'=>?_)),fun p' q' hp' hq'=>?_,fun p' p'' h1 h2=>?_,fun p' hp'=>?_⟩
   ·by_cases e:p'=p
    ·refine er e (er (if_pos rfl) ?_);refine er (OU (by lia)) (er p2 ?_);rw [Rg];rfl
    ·refine er (if_neg e) ?_;exact er (O4 (by lia)) (p3 p' (DJ hp' e))
   ·try dsimp only
    by_cases e:p'=p
    ·obtain rfl:=e.symm;replace hq':=hq▸hq';refine el (Option.some.inj hq') ?_;exact er (if_pos rfl) (bT (DY hcl hL) (Krow (ah aj) (Gz hgl.2 hcl hL)) (fun y hy=>Krow (vp hy) (J4 hgl.2 hcl hL)))
    ·refine er (if_neg e) ?_;refine dN (gi.at_ p' q' (DJ hp' e) hq') fun b1 b2 b3=>bT b1 (K.get b2 (z2 hgl.2 b1)) (fun y hy=>K.get (b3 y hy) (by lia))
   ·try dsimp only
    by_cases e:p''=p
    ·obtain rfl:=e.symm;refine er (if_pos rfl) (er (if_neg (Pf ‹_›)) ?_);haveI:=gi.top p' (by assumption);lia
    ·refine er (if_neg e) ?_;exact er (if_neg (by lia)) (gi.ord p' p'' h1 (DJ h2 e))
   ·try dsimp only
    refine er OW (er lh ?_);by_cases e:p'=p
    ·refine er (if_pos e) ?_;lia
    ·refine er (if_neg e) ?_;haveI:=gi.top p' (DJ hp' e);lia
  refine ih_ (p+1) _ _ (some (.int p)) (some (.int (F.nA q.2))) (some (.int F.nD)) (B7 hm) gi' (fr.keep K fun i _ ri _=>hR i ri) (K.get hj (hn hj p1 (hob _))) (by refine er OW ?_;exact er lh (Kc hcl hL)) _ fun H' l' kb' f' r1 r2=>kK H' l' kb' (fun Q qq=>⟨hj.trans h0.symm,?_⟩) (by exact er (B9:p+(m+1)=p+1+m) r1) (K.trans r2);refine cL (EV.meth (ad rfl) f1 rfl rfl (.cons (ad rfl) .nil) (lV ok fr hq) (by decide)) aj rfl ?_;refine er n1 (er n2 ?_);haveI cmp:=yT (S:=S) (n:=3) (l:=[some (.obj g),some (.obj f),some (.int p),some (.int (F.nA q.2)),some (.int F.nD)]) (Ls n3) rfl jc (cQ 0 F.nD) 0 (by unfold cQ;simp;exact Oz ‹_› (by decide));haveI lu:(cQ 0 F.nD).length=F.nD:=by unfold cQ;simp
  rw [lu,Py] at cmp;haveI gD:(F.jD q.2 H)[g]? = some (ng pl):=ah (ah (ah gi.g));haveI e0:dT Hc (F.nA q.2) 0=Hc++[.list []]:=by unfold dT td refs;simp
  rw [e0] at cmp;haveI ecomp:EV S 3 (.comp [3] NK (.bcall .range (.cons (.loc 4) .nil))) [some (.obj g),some (.obj f),some (.int p),some (.int (F.nA q.2)),some (.int F.nD)] (F.jD q.2 H) (.obj Hc.length) (dT Hc (F.nA q.2) F.nD):=by
   haveI it:=bV (S:=S) (n:=3) (ad (l:=[some (.obj g),some (.obj f),some (.int p),some (.int (F.nA q.2)),some (.int F.nD)]) (H:=F.jD q.2 H) (i:=4) rfl);haveI ej:(F.jD q.2 H).length=H.length+3:=by unfold FD.jD;simp
   rw [hHc,ej] at it;haveI al:bG (.obj (H.length+3)) Hc=some (cQ 0 F.nD):=by
    haveI:=aX jc ⟨by decide,by decide⟩ ⟨z6,by lia⟩;rw [(Br:((F.nD:Int) - 0).toNat=F.nD)] at this;exact this
   exact EV.comp it al cmp
  refine aP (EV.app (af (ad rfl) gD rfl rfl rfl) ecomp (ah (ah (ah p1))) plc (by exact er p2 (LP f5))) (W.nil ?_);haveI:=f' Q qq;replace this:=(z3:(((p+1):Int))=(p)+1)▸this;exact this
theorem qZ(ok:OKl S)(o:F.OK)(fr:aQ R H f F):∃H' rw,aE S 5 (.top 172) [.obj f] H (.obj H.length) H'/\bU (fun i=>H.length<=i) H' H.length F rw (fun _ _ _=>none)/\cg H H'/\∀p y,p<F.comps.length->y<F.nD->H.length<=rw p y/\rw p y<H'.length:=by
 refine zv (fr.place (p:=0) (by unfold FD.comps;split<;>rfl)) fun cl cs c f1 f2 _ _ _ e1 e2=>?_;generalize hH1:H++[ng (H.length+1)]++[O.list []]++[O.rng 0 F.comps.length 1]=H1;have P:cg H H1:=by exact el hH1 (.app (.app (.app .refl)))
 haveI h1l:H1.length=H.length+3:=by refine el hH1 ?_;simp
 haveI gg:H1[H.length]? = some (ng (H.length+1)):=by exact el hH1 (ah (ah aj))
 haveI gp:H1[H.length+1]? = some (.list []):=by
  refine el (dO (o:=ng (H.length+1))) (el hH1 ?_);simp
 haveI gj:H1[H.length+2]? = some (.rng 0 F.comps.length 1):=by
  refine el hH1 ?_;exact er (by simp:H.length+2=(H++[ng (H.length+1)]++[O.list []]).length) aj
 refine As (R:=fun i=>R i/\i<H.length) ok o gj (fun _ h=>O.noConfusion h) ⟨LX,PR _⟩ (fun i h=>zB h.2) F.comps.length 0 (fun _=>0) H1 none none none Ca
  ⟨gg,(jb [] gp rfl (fun _ h=>absurd h (Qk _))),fun _ _ h=>absurd h (Qk _),fun _ _ _ h=>absurd h (Qk _),fun _ h=>absurd h (Qk _)⟩
  ((fr.region fun i hi ri=>⟨ri,hi⟩).keep P fun _ _ _ _=>trivial) gj (by lia) _ fun H' l' kb f' gi K=>?_
 rw [Py] at gi;refine eZ gi.pl fun planes p1 p2 p3=>?_;have bnd:∀p y,p<F.comps.length->y<F.nD->H.length+2<=kb p/\kb p+2+2*y<H'.length:=fun p y hp hy=>by
  obtain⟨q,hq⟩:∃q,F.comps[p]? = some q:=⟨_,OD hp⟩;refine dN (gi.at_ p q hp hq) fun b1 _ b3=>⟨b1,aA (b3 y hy)⟩
 refine lK H' (fun p y=>kb p+2+2*y) (ok.clsD 2 rfl rfl fun Q q=>?_) ⟨fun p y p' y' hp hp' hy hy' e=>?_,H.length+1,planes,(oK (OF _) (Es) ?_ ?_),gi.g,p1,fun p q hq=>?_⟩ ⟨Oz P.len K.len,fun i ob e _=>K.at_ i ob (P.at_ i ob e trivial) (zB (aA e))⟩ (fun p y hp hy=>?_)
 ·refine W.start (bg rfl (EV.mul (af (ad rfl) (ah (ah f1)) rfl rfl rfl) (af (ad rfl) (ah (ah f1)) rfl rfl rfl) (av (by decide) (by decide))) rfl rfl rfl (bg (E':=[.list []]) rfl (EV.list .nil) (by simp) rfl rfl ?_));rewrite [OO];refine er dO ?_;refine bk (bV (bW (af (ad rfl) (ah (ah f1)) rfl rfl rfl) (ah (ah f2)) (Bo e1 e2))) (aX aj ⟨by decide,by decide⟩ ⟨z6,by lia⟩) ?_;haveI ej:(H++[O.inst 172 (Internal.setF 11 (.obj (H.length+1)) (Internal.setF 10 (.int (2*2)) []))]++[O.list []]).length=H.length+2:=by simp
  haveI en:((F.comps.length:Int) - 0).toNat=F.comps.length:=Br;refine er e1 ?_;refine er en (er ej ?_);haveI:=f' (KR S 3 .nil (dA Q)) (W.nil q);rw [← hH1] at this
  exact this
 ·haveI b1:=bnd p y hp hy;by_cases h:p=p'
  ·subst h;exact⟨rfl,by lia⟩
  ·rcases QS h with h | h
   ·haveI:=gi.ord p p' h hp';lia
   ·haveI:=gi.ord p' p h hp;exact JT e this hp hy' hp'
 ·rintro⟨p,y,hp,hy,e⟩;have:=bnd p y hp hy;dsimp only at e;exact Kr this.1 e
 ·rintro⟨p,y,hp,hy,e⟩;have:=bnd p y hp hy;dsimp only at e;exact Ks e this.1
 ·haveI hp:=bc hq;refine dN (gi.at_ p q hp hq) fun b1 b2 b3=>lK (kb p) _ (p3 p hp) ⟨JL b1,?_⟩ b2 (fun y hy=>⟨xD hy,by lia,_,b3 y hy,by simp,fun x hx=>(bN .none (by refine er List.getElem?_replicate (er (if_pos hx) ?_);rfl) (.inl ⟨rfl,rfl⟩))⟩);rintro⟨p',y',hp',hy',e⟩;dsimp only at e;by_cases h:p=p'
  ·subst h;lia
  ·rcases QS h with h | h
   ·haveI:=gi.ord p p' h hp';exact Gy this e
   ·haveI:=gi.ord p' p h hp;lia
 ·haveI:=bnd p y hp hy;exact Kg this.2 this.1
end
end
section
mutual #where
variable {S:be} {n:Nat} {H H' H1 H2 E E':List O} {i:Nat} {l l1:aW} {v:V} {c:C} {R:Nat->Prop} {F:FD} {f s g:Nat} {rw:Nat->Nat->Nat} {D:GD}
def uK(r:List Int):Prop:=r.length=4/\∀x∈r,-7<=x/\x<=7
abbrev G4:C:=.fcall 28 (.cons (.loc 1) .nil)
theorem yU(ok:OKl S){acc jr:Nat}{H0:List O}{o:O}(hl:l[0]? = some (some (.obj s)))(h0:H0[jr]? = some o)(hjs:jr≠s)(hja:jr≠acc)(has:acc≠s):∀(rest:List V) (done:List Int) (H:List O),cR H s->H[acc]? = some (.list (zs done))->H[jr]? = some o->(∀x∈done,-7<=x/\x<=7)->done.length+rest.length<=50->∀(kP:Prop),(∀out H',B0 S 5 G4 [0] l (aG (.obj jr) H0) acc rest H H'->H'[acc]? = some (.list (zs out))->out.length=done.length+rest.length->(∀x∈out,-7<=x/\x<=7)->cR H' s->Kp (fun i _=>i≠s/\i≠acc) H H'->kP)->kP:=by
 intro m_;induction m_ with
 | nil=>
  intro done H hs ha hj hd _;intro _ kK;exact kK done H (fun Q q=>⟨hj.trans h0.symm,q⟩) ha (rfl) hd hs .refl
 | cons y rest ih_=>
  intro done H hs ha hj hd hb;intro _ kK;simp only [OQ] at hb;refine qQ ok hs fun v H1 N=>?_;have a1:=N.kp.get ha has;have K:Kp (fun i _=>i≠s/\i≠acc) H (H1.set acc (.list (zs (done++[v])))):=Kp.set (N.kp.mono fun i o g=>g.1) fun _ _ z=>z.2 rfl;haveI s2:cR (H1.set acc (.list (zs (done++[v])))) s:=N.src.keep (G:=fun i _=>i≠acc) (Kp.set .refl fun _ _ z=>z rfl) fun _=>Ne.symm has;refine ih_ (done++[v]) (H1.set acc (.list (zs (done++[v])))) s2 (aM (aA a1)) (K.get hj ⟨hjs,hja⟩) (fun x hx=>by
   rcases O9.mp hx with h | h
   ·exact hd x h
   ·exact er (OZ.mp h) N.bd) (by simp;exact Fi hb) _ fun out H' f' q1 q2 q3 q4 q5=>?_
  refine kK out H' (fun Q q=>⟨hj.trans h0.symm,?_⟩) q1 (by refine er q2 ?_;simp;exact z7) q3 q4 (K.trans q5);dsimp only;haveI lc:bx l [0] (some y)=[some y,some (.obj s)]:=by unfold bx;simp [hl]
  refine(if_pos rfl).mpr ?_;refine er lc ?_;refine EV.fcall rfl (.cons (ad rfl) .nil) N.call (by decide) _ ?_;refine jb _ a1 (by exact er ci (Fh hb)) ?_;exact er (by simp [zs]:zs done++[V.int v]=zs (done++[v])) (f' Q q)
structure FI(F:FD)(L s g f:Nat)(rw:Nat->Nat->Nat)(D:GD)(P:Nat->Nat->Nat->Prop)(H:List O):Prop where
 src:cR H s
 g:bU (fun i=>L<=i) H g F rw D
 f:aQ (fun i=>i≠s/\i<L) H f F
 rows:∀p x y,(∃q,uL F p x y q)->P p x y->∃r,D p x y=some r/\uK r
 sl:s<L
theorem FI.kp{P:Nat->Nat->Nat->Prop}{L:Nat}(x:FI F L s g f rw D P H)(k:Kp (fun i _=>i≠s) H H')(hs:cR H' s):FI F L s g f rw D P H':=⟨hs,x.g.keep k fun i _ ri _=>by haveI:=x.sl;exact z2 this ri,x.f.keep k fun i _ ri _=>ri.1,x.rows,x.sl⟩
abbrev NN:Ps:=(jC.body.get 1).b1
abbrev NL:Ps:=(NN.get 1).b1
abbrev NM:Ps:=(NL.get 0).b1
def BK(s f g p a d:Nat)(y x:Option V):aW:=[some (.obj s),some (.obj f),some (.obj g),some (.int p),some (.int a),some (.int d),y,x]
theorem Ax(ok:OKl S)(o:F.OK){L p x y a d:Nat}{q:Int×Int}{P:Nat->Nat->Nat->Prop}{xo:Option V}(fi:FI F L s g f rw D P H)(ig:uL F p x y q) :
  ∃H' r,(∀Q:Fl->aW->List O->Prop,Q .next (BK s f g p a d (some (.int y)) (some (.int x))) H'->bH S 5 NM ((BK s f g p a d (some (.int y)) xo).set 7 (some (.int x))) H Q)/\FI F L s g f rw (upd D p x y r) (fun p' x' y'=>P p' x' y'∨(p'=p/\x'=x/\y'=y)) H'/\
   Kp (fun i _=>i≠s/\i≠rw p y) H H':=by
 refine yM fun _ kK=>?_;obtain⟨_,pl0,_,⟨ra,_⟩,rb,rc,_⟩:=id fi.g;have hsl:=fi.sl;haveI hLH:=aA rc;haveI slt:s<H.length:=by refine eu fi.src fun _ _ z _=>?_;exact aA z
 generalize hH1:H++[O.rng 0 4 1]++[O.list (zs [])]=H1;have P1:cg H H1:=by exact el hH1 (.app (.app .refl))
 haveI l1:H1.length=H.length+2:=by refine el hH1 ?_;simp
 haveI j1:H1[H.length]? = some (.rng 0 4 1):=by exact el hH1 (ah aj)
 have a1:H1[H.length+1]? = some (.list (zs [])):=by refine el hH1 ?_;exact el (dO) aj
 have s1:=fi.src.keep P1 fun _=>trivial;refine yU (l:=BK s f g p a d (some (.int y)) (some (.int x))) ok rfl (aj) (z8 slt) Cb (by lia) (cQ 0 4) [] H1 s1 a1 j1 (fun _ h=>ju h) (by decide) _ fun r H2 cm r1 r2 r3 r4 r5=>?_;have rl:r.length=4:=by refine er r2 ?_;rfl
 have k2:Kp (fun i _=>i≠s) H H2:=⟨Oz P1.len r5.len,fun i ob e ni=>r5.at_ i ob (P1.at_ i ob e trivial) ⟨ni,by haveI:=aA e;exact zB this⟩⟩;have fi2:=fi.kp k2 r4;haveI L2:L<=H2.length:=by
  obtain⟨_,_,_,⟨ra2,_⟩,rb2,_⟩:=fi2.g;haveI:=aA rb2;exact Gw this ra2
 refine qH ok o fi2.g ig r1 rl L2 fun H3 pc pg pk q_a plt=>b7 q_a fun cs prw=>?_;have rwL:L<=rw p y:=by
  obtain⟨_,_,_,_,_,_,z⟩:=fi2.g;refine dQ (z p q ig.c) fun _ _ _ _ _ z2=>(z2 y ig.y).2.1
 haveI rws:=z5 hsl rwL;obtain⟨_,_,_,_,gh2,_⟩:=fi2.g;refine kK H3 r (fun Q qq=>?_) ⟨r4.keep pk fun _=>rws,pg,fi2.f.keep pk fun i _ ri _=>z5 ri.2 rwL,fun p' x' y' hin h=>?_,hsl⟩ ⟨Oz k2.len pk.len,fun i ob e ni=>pk.at_ i ob (k2.at_ i ob e ni.1) ni.2⟩
 ·haveI ec:EV S 5 (.comp [0] G4 (.bcall .range (.cons (.int 4) .nil))) (BK s f g p a d (some (.int y)) (some (.int x))) H (.obj (H.length+1)) H2:=by
   haveI cm3:=cm;haveI:=EV.comp (bV (EV.int (i:=4) (H:=H))) (aX aj ⟨by decide,by decide⟩ ⟨by decide,by decide⟩) (by refine er dO ?_;rw [← hH1] at cm3;exact cm3)
   rw [dO] at this;exact this
  haveI gh:=rb;exact aP (EV.meth (ad rfl) gh rfl rfl (.cons (ad rfl) (.cons (ad rfl) (.cons (ad rfl) (.cons ec .nil)))) pc (by decide)) (W.nil qq)
 ·unfold upd;by_cases e:p'=p/\x'=x/\y'=y
  ·exact er (if_pos e) (jb r rfl rl r3)
  ·refine er (if_neg e) ?_;rcases h with h | h
   ·exact fi2.rows _ _ _ hin h
   ·exact absurd h e
end
end
section
mutual #where
variable {S:be} {n:Nat} {H H' H1 H2 E E':List O} {i:Nat} {l l1:aW} {v:V} {c:C} {R:Nat->Prop} {F:FD} {f s g:Nat} {rw:Nat->Nat->Nat} {D:GD}
theorem FI.imp{P P':Nat->Nat->Nat->Prop}{L:Nat}(x:FI F L s g f rw D P H)(h:∀p x y,(∃q,uL F p x y q)->P' p x y->P p x y):FI F L s g f rw D P' H:=⟨x.src,x.g,x.f,fun p a b i q=>x.rows p a b i (h p a b i q),x.sl⟩
def Pr(p y x:Nat)(p' x' y':Nat):Prop:=p'<p∨(p'=p/\(y'<y∨(y'=y/\x'<x)))
abbrev IX(F:FD)(s:Nat)(rw:Nat->Nat->Nat):Nat->O->Prop:=fun i _=>i≠s/\¬cH F rw i
theorem FI.pre{P:Nat->Nat->Nat->Prop}{L:Nat}(x:FI F L s g f rw D P H)(k:cg H H'):FI F L s g f rw D P H':=x.kp (k.mono fun _ _ _=>trivial) (x.src.keep k fun _=>trivial)
theorem ny{P:Nat->Nat->Nat->Prop}{L j:Nat}{o:O}(x:FI F L s g f rw D P H)(h:H[j]? = some o)(ho:∀xs,o≠.list xs):j≠s/\¬cH F rw j:=by
 constructor
 ·rintro rfl;refine eu x.src fun _ _ z _=>?_;replace h:=z▸h;obtain rfl:=Option.some.inj h;exact ho _ rfl
 ·rintro⟨p,y,hp,hy,rfl⟩;obtain⟨_,_,_,_,_,_,z⟩:=x.g;obtain⟨q,hq⟩:∃q,F.comps[p]? = some q:=⟨_,OD hp⟩;refine dQ (z p q hq) fun _ _ _ _ _ z2=>dN (z2 y hy) fun _ _ q_a=>aZ q_a fun _ z3 _=>?_;replace h:=z3▸h;obtain rfl:=Option.some.inj h;exact ho _ rfl
theorem MU(ok:OKl S)(o:F.OK){L p y a d j:Nat}{q:Int×Int}{H0:List O}{ob:O}(h0:H0[j]? = some ob)(hob:∀xs,ob≠.list xs)(hq:F.comps[p]? = some q)(hy:y<F.nD):∀(m b:Nat) (D:GD) (H:List O) (x:Option V),b+m=F.nA q.2->FI F L s g f rw D (Pr p y b) H->H[j]? = some ob->∀(kP:Prop),(∀D' H' x',dz S 5 NM (.one 7) (aG (.obj j) H0) (cQ b m) (BK s f g p a d (some (.int y)) x) H (BK s f g p a d (some (.int y)) x') H'->FI F L s g f rw D' (Pr p (y+1) 0) H'->Kp (IX F s rw) H H'->kP)->kP:=by
 intro m_;induction m_ with
 | zero=>
  intro b D H x hm fi hj;intro _ kK;exact kK D H x (fun Q qq=>⟨cg.rng h0 hj,qq⟩) (fi.imp fun p' x' y' y_39 h=>b7 y_39 fun q' ig=>by
   rcases h with h | ⟨rfl,h⟩
   ·exact .inl h
   ·haveI:x'<b:=by haveI:=ig.x;haveI:=ig.c;replace this:=hq▸this;cases this;exact EM hm this
    exact .inr ⟨rfl,Gv this h⟩) .refl
 | succ m ih_=>
  intro b D H x hm fi hj;refine er bp ?_;intro _ kK;haveI ig:uL F p b y q:=⟨hq,DH hm,hy⟩;refine fQ (Ax (a:=a) (d:=d) (xo:=x) ok o fi ig) fun H1 r w fi1 k1=>?_;have kk:Kp (IX F s rw) H H1:=k1.mono fun i _ ni=>⟨ni.1,fun e=>ni.2 (lN p y (bc hq) hy e)⟩;refine ih_ (b+1) _ H1 (some (.int b)) (B7 hm) (fi1.imp fun p' x' y' y_40 h=>b7 y_40 fun q' ig'=>by
   rcases h with h | ⟨rfl,h | ⟨rfl,h⟩⟩
   ·exact .inl (.inl h)
   ·exact .inl (.inr ⟨rfl,.inl h⟩)
   ·by_cases e:x'=b
    ·exact .inr (bT rfl e rfl)
    ·exact .inl (.inr ⟨rfl,.inr ⟨rfl,DJ h e⟩⟩)) (kk.get hj (ny fi hj hob)) _ fun D' H' x' f' q1 q2=>?_
  refine kK D' H' x' (fun Q qq=>⟨cg.rng h0 hj,w _ ?_⟩) q1 (kk.trans q2);haveI:=f' Q qq;replace this:=(z3:(((b+1):Int))=(b)+1)▸this;exact this
theorem MT(ok:OKl S)(o:F.OK){L p j:Nat}{q:Int×Int}{H0:List O}{ob:O}(h0:H0[j]? = some ob)(hob:∀xs,ob≠.list xs)(hq:F.comps[p]? = some q):∀(m b:Nat) (D:GD) (H:List O) (y x:Option V),b+m=F.nD->FI F L s g f rw D (Pr p b 0) H->H[j]? = some ob->∀(kP:Prop),(∀D' H' y' x',dz S 5 NL (.one 6) (aG (.obj j) H0) (cQ b m) (BK s f g p (F.nA q.2) F.nD y x) H (BK s f g p (F.nA q.2) F.nD y' x') H'->FI F L s g f rw D' (Pr (p+1) 0 0) H'->Kp (IX F s rw) H H'->kP)->kP:=by
 intro m_;induction m_ with
 | zero=>
  intro b D H y x hm fi hj;intro _ kK;exact kK D H y x (fun Q qq=>⟨cg.rng h0 hj,qq⟩) (fi.imp fun p' x' y' y_41 h=>b7 y_41 fun q' ig=>by
   rcases h with h | ⟨rfl,h⟩
   haveI hy:=ig.y
   ·by_cases e:p'=p
    ·exact .inr ⟨e,.inl (EM hm hy)⟩
    ·exact .inl (DJ h e)
   ·lia) .refl
 | succ m ih_=>
  intro b D H y x hm fi hj;refine er bp ?_;intro _ kK;haveI P1:cg H (H++[.rng 0 (F.nA q.2) 1]):=.app .refl;refine MU (a:=F.nA q.2) (d:=F.nD) ok o aj (fun _ h=>O.noConfusion h) hq ((DH hm:b<F.nD)) (F.nA q.2) 0 D (H++[.rng 0 (F.nA q.2) 1]) x Ca (fi.pre P1) aj _ fun D1 H1 x1 f1 fi1 k1=>?_;have kk:=(P1.mono fun _ _ _=>trivial).trans k1;refine tT (o.nums (OC hq)) fun n1 n2 n3 n4 _=>ih_ (b+1) D1 H1 (some (.int b)) x1 (B7 hm) fi1 (kk.get hj (ny fi hj hob)) _ fun D' H' y' x' f' q1 q2=>kK D' H' y' x' (fun Q qq=>⟨cg.rng h0 hj,?_⟩) q1 (kk.trans q2);haveI en:((F.nA q.2:Int) - 0).toNat=F.nA q.2:=Br;refine bk (bV (ad rfl)) (aX aj ⟨by decide,by decide⟩ ⟨z6,by lia⟩) ?_;refine f1 _ (W.nil ?_);refine er en ?_;haveI:=f' Q qq;replace this:=(z3:(((b+1):Int))=(b)+1)▸this;exact this
theorem MV(ok:OKl S)(o:F.OK){L j:Nat}{H0:List O}{ob:O}(h0:H0[j]? = some ob)(hob:∀xs,ob≠.list xs):∀(m b:Nat) (D:GD) (H:List O) (p a d y x:Option V),b+m=F.comps.length->FI F L s g f rw D (Pr b 0 0) H->H[j]? = some ob->∀(kP:Prop),(∀D' H' l',dz S 5 NN (.one 3) (aG (.obj j) H0) (cQ b m) [some (.obj s),some (.obj f),some (.obj g),p,a,d,y,x] H l' H'->dE l' 2=some (.obj g)->FI F L s g f rw D' (Pr F.comps.length 0 0) H'->Kp (IX F s rw) H H'->kP)->kP:=by
 intro m_;induction m_ with
 | zero=>
  intro b D H p a d y x hm fi hj;intro _ kK;exact kK D H _ (fun Q qq=>⟨cg.rng h0 hj,qq⟩) rfl (by exact el hm fi) .refl
 | succ m ih_=>
  intro b D H p a d y x hm fi hj;refine er bp ?_;intro _ kK;obtain⟨q,hq⟩:∃q,F.comps[b]? = some q:=⟨_,OD (DH hm)⟩;refine tT (o.nums (OC hq)) fun n1 n2 n3 n4 _=>?_;have P1:cg H (F.jD q.2 H++[.rng 0 F.nD 1]):=.app (.app (.app (.app .refl)));refine u9 (fi.f.place hq) fun cl cs c f1 f2 f3 f4 f5 _=>MT ok o aj (fun _ h=>O.noConfusion h) hq F.nD 0 D (F.jD q.2 H++[.rng 0 F.nD 1]) y x Ca (fi.pre P1) aj _ fun D1 H1 y1 x1 fy fi1 k1=>?_;have kk:=(P1.mono fun _ _ _=>trivial).trans k1;refine ih_ (b+1) D1 H1 (some (.int b)) (some (.int (F.nA q.2))) (some (.int F.nD)) y1 x1 (B7 hm) fi1 (kk.get hj (ny fi hj hob)) _ fun D' H' l' f' q1 q2 q3=>kK D' H' l' (fun Q qq=>⟨cg.rng h0 hj,?_⟩) q1 q2 (kk.trans q3);refine cL (EV.meth (ad rfl) f1 rfl rfl (.cons (ad rfl) .nil) (lV ok fi.f hq) (by decide)) aj rfl ?_;refine er n2 (er n1 ?_);haveI en:((F.nD:Int) - 0).toNat=F.nD:=Br;refine er en ?_;refine bk (bV (ad rfl)) (aX aj ⟨by decide,by decide⟩ ⟨z6,by lia⟩) ?_;refine fy _ (W.nil ?_);haveI:=f' Q qq;replace this:=(z3:(((b+1):Int))=(b)+1)▸this;exact this
def rY(F:FD)(D:GD):Prop:=∀p x y q,uL F p x y q->∃r,D p x y=some r/\uK r
theorem rt(ok:OKl S)(o:F.OK)(hs:cR H s)(fr:aQ (fun i=>i≠s) H f F){kP:Prop}(kK:∀g rw D H',aE S 6 (.top 1069) [.obj s,.obj f] H (.obj g) H'->bU (fun i=>H.length<=i) H' g F rw D->rY F D->cR H' s->Kp (Ns s) H H'->kP):kP:=by
 haveI slt:s<H.length:=by refine eu hs fun _ _ z _=>?_;exact aA z
 refine dQ (qZ ok o fr) fun H1 rw gc gg gp gb=>zv (fr.place (p:=0) (by unfold FD.comps;split<;>rfl)) fun cl cs c f1 f2 _ _ _ e1 e2=>?_;haveI fi:FI F H.length s H.length f rw (fun _ _ _=>none) (Pr 0 0 0) H1:=⟨hs.keep gp fun _=>trivial,gg,(fr.region fun i hi ri=>⟨ri,hi⟩).keep gp fun _ _ _ _=>trivial,fun p x y _ h=>by
  rcases h with h | ⟨_,h | ⟨_,h⟩⟩<;>exact absurd h (Qk _),slt⟩
 haveI P1:cg H1 (H1++[.rng 0 F.comps.length 1]):=.app .refl;refine MV ok o aj (fun _ h=>O.noConfusion h) F.comps.length 0 _ (H1++[.rng 0 F.comps.length 1]) none none none none none Ca (fi.pre P1) aj _ fun D' H' l' fp q1 q2 q3=>kK H.length rw D' H' (ok.fnD 85 rfl rfl fun Q q=>?_) q2.g (fun p x y q ig=>q2.rows p x y ⟨q,ig⟩ (.inl (bc ig.c))) q2.src ⟨Oz gp.len (Oz P1.len q3.len),fun i ob e ni=>q3.at_ i ob (P1.at_ i ob (gp.at_ i ob e trivial) trivial) ⟨ni,fun y_42=>fQ y_42 fun p y hp hy z=>?_⟩⟩
 ·refine aD (EV.fcall rfl (.cons (ad rfl) .nil) gc (by decide)) ?_;refine bk (bV (bW (af (ad rfl) (gp.at_ _ _ f1 trivial) rfl rfl rfl) (gp.at_ _ _ f2 trivial) (Bo e1 e2))) (aX aj ⟨by decide,by decide⟩ ⟨z6,by lia⟩) ?_;refine er e1 ?_;haveI en:((F.comps.length:Int) - 0).toNat=F.comps.length:=Br;exact er en (fp _ (W.ret (ad q1) q))
 ·haveI:=gb p y hp hy;haveI:=aA e;lia
end
end
section
mutual #where
variable {S:be} {n:Nat} {H H' H1 H2 E E':List O} {i:Nat} {l l1:aW} {v:V} {c:C} {R:Nat->Prop}
abbrev GL:Ps:=(kH.body.get 3).b1
theorem ve{me sy:Nat}{a b:V}{H0:List O}{xs:List V}(h0:H0[sy]? = some (.list xs)):∀(rest done:List Int) (H:List O) (z:Option V),(done++rest).Nodup->done.length+rest.length<=90->H[me]? = some (.set done)->H[sy]? = some (.list xs)->∀(kP:Prop),(∀H' l',dz S n GL (.one 3) (aG (.obj sy) H0) (zs rest) [some a,some b,some (.obj me),z] H l' H'->Kp (fun i _=>i≠me) H H'->kP)->kP:=by
 intro m_;induction m_ with
 | nil=>
  intro done H z _ _ hm hs;intro _ kK;exact kK H _ (fun Q q=>⟨hs.trans h0.symm,q⟩) .refl
 | cons x rest ih_=>
  intro done H z hn hl hm hs;intro _ kK;simp only [OQ] at hl;haveI nx:done.contains x=false:=by
   rw [PZ] at hn;cases e:done.contains x with
   | false=>rfl
   | true=>exact absurd rfl (hn.2.2 x (by simpa using e) x (.head _))
  have ms:=hk hs hm;refine ih_ (done++[x]) (H.set me (.set (done++[x]))) (some (.int x)) (by simpa using hn) (by simp;lia) (aM (aA hm)) (cj (Ne.symm ms) hs) _ fun H' l' f' k=>kK H' l' (fun Q q=>⟨hs.trans h0.symm,?_⟩) ((Kp.set .refl fun _ _ z=>z rfl).trans k);refine ay (ag (ad rfl) (ad rfl) (MZ hm)) nx ?_;exact aP (Bi (ad rfl) (ad rfl) hm hm (by lia)) (W.nil (f' Q q))
def fO:List Int:=[0,0,0,0,24,0,0,0,0,0,0,0,0,0,0,0]
theorem vd(ok:OKl S){cn sy:Nat}(hc:H[cn]? = some (.list (zs fO)))(hs:H[sy]? = some (.list (zs cZ))){kP:Prop}(kK:∀H',aE S 1 (.top 289) [.obj cn,.obj sy] H .none H'->cg H H'->kP):kP:=by
 refine ve (S:=S) (n:=0) (a:=.obj cn) (b:=.obj sy) (H0:=H++[.set []]) (ah hs) cZ [] (H++[.set []]) none (by decide +kernel) (by decide +kernel) aj (ah hs) _ fun H' l' f' k=>kK H' (ok.fnD 15 rfl rfl fun Q q=>?_) ⟨by haveI:=k.len;simp at this;exact Il this,fun i o e _=>k.at_ i o (ah e) (z1 (aA e))⟩;haveI l16:(zs fO).length=16:=rfl;haveI l24:(zs cZ).length=24:=rfl;refine ay (fJ (fg.no (ag (bW (ad rfl) hc (by refine er l16 ?_;decide)) (EV.glob rfl) eV) (by refine er l16 ?_;rfl) (fg.no (ag (Bk (M:=0) (ad rfl) hc (eE _) (by decide) (by decide)) EV.int iF) rfl fg.nil))) rfl ?_;refine ay (fJ (fg.no (ag (uN (ad rfl) hc (eE _)) (bW (ad rfl) hs (by rw [l24];decide)) eV) (by refine er l24 ?_;rfl) (fg.no (ag (bW (ad rfl) hs (by rw [l24];decide)) (EV.glob rfl) bt) (by refine er l24 ?_;rfl) fg.nil))) rfl ?_;exact aD Bh (bk (ad rfl) (aU (ah hs)) (f' _ (W.nil q)))
def sK:Int->Int->List Int->List (Int×Int×Int)
 | _,_,[]=>[]
 | code,place,m::r=>(code,m,place)::sK ((code+m)*2) (place+m) r
def pC:Int->Nat->List Int->Bool
 | _,_,[]=>true
 | code,k,m::r=>!(decide (2^k<=code+m)&&decide (0<m))&&pC ((code+m)*2) (k+1) r
theorem qN{code:Int}{k:Nat}{m:Int}{r:List Int}:pC code k (m::r)=(!(decide (2^k<=code+m)&&decide (0<m))&&pC ((code+m)*2) (k+1) r):=rfl
abbrev Oo:Ps:=(lZ.body.get 2).b1
def nU(R:Nat->Prop)(H:List O)(rs:List Nat)(ts:List (Int×Int×Int)):Prop:=F2 (fun(r:Nat) (p:Int×Int×Int)=>R r/\H[r]? = some (.tuple [.int p.1,.int p.2.1,.int p.2.2])) rs ts
theorem AL{ct ro jr:Nat}{H0:List O}{o:O}{all:List Int}(h0:H0[jr]? = some o)(hob:∀xs,o≠.list xs)(hall:all.length<=20):∀(cs:List Int) (k:Nat) (code place:Int) (rs:List Nat) (ts:List (Int×Int×Int)) (H:List O) (y z:Option V),all.drop k=cs->pC code (k+1) cs=true->H[ct]? = some (.tuple (zs all))->H[ro]? = some (.list (rs.map .obj))->nU (fun i=>ro<i) H rs ts->rs.length=k->H[jr]? = some o->ro<H.length->∀(kP:Prop),(∀H' l' rs',dz S n Oo (.one 4) (aG (.obj jr) H0) (cQ ((k+1:Nat):Int) cs.length) [some (.obj ct),some (.obj ro),some (.int code),some (.int place),y,z] H l' H'->dE l' 1=some (.obj ro)->H'[ro]? = some (.list (rs'.map .obj))->nU (fun i=>ro<i) H' rs' (ts++sK code place cs)->Kp (fun i _=>i≠ro) H H'->kP)->kP:=by
 intro m_;induction m_ with
 | nil=>
  intro k code place rs ts H y z _ _ _ hr ht _ hj _;intro _ kK;exact kK H _ rs (fun Q q=>⟨hj.trans h0.symm,q⟩) rfl hr (by exact(OO ts).symm▸ht) .refl
 | cons m cs ih_=>
  intro k code place rs ts H y z hd hok hc hr ht hk hj hl;refine er OQ (er bp ?_);have hm:all[k]? = some m:=by
   haveI:=QP (xs:=all) (i:=k) (j:=0);rw [hd] at this;simpa using this.symm
  intro _ kK;have kl:=bc hm;rw [qN,Px,Qz] at hok;refine ba hok fun hok1 hok2=>?_;have nj:=hn hj hr (hob _);have nc:ct≠ro:=by first | exact Internal.hk hr hc | exact Internal.hk hc hr
  generalize hH1:(H++[O.tuple [.int code,.int m,.int place]]).set ro (.list (rs.map .obj++[.obj H.length]))=H1;have K:Kp (fun i _=>i≠ro) H H1:=by exact el hH1 (Kp.set (.app .refl) fun _ _ z=>z rfl)
  haveI nw:H1[H.length]? = some (.tuple [.int code,.int m,.int place]):=by exact el hH1 (cj (z1 hl) aj)
  haveI r1:H1[ro]? = some (.list ((rs++[H.length]).map .obj)):=by refine el hH1 ?_;exact er O2 (aM (by simp;exact B8 hl))
  haveI t1:nU (fun i=>ro<i) H1 (rs++[H.length]) (ts++[(code,m,place)]):=ft (F2.imp (fun a b h=>⟨h.1,K.get h.2 (by have:=h.1;exact Pg ‹_›)⟩) ht) ⟨hl,nw⟩;refine ih_ (k+1) ((code+m)*2) (place+m) (rs++[H.length]) _ H1 (some (.int (k+1:Nat))) (some (.int m)) (by refine el RV (er hd ?_);rfl) hok2 (K.get hc nc) r1 t1 (by simp [hk]) (K.get hj nj) (DG hl K.len) _ fun H' l' rs' f' q0 q1 q2 q3=>kK H' l' rs' (fun Q q=>⟨hj.trans h0.symm,?_⟩) q0 q1 (by rw [OB] at q2;exact q2) (K.trans q3);refine aD (nV (ad rfl) (au (EV.sub (ad rfl) EV.int) Ih) hc (Fd kl hall) (cY hm)) ?_;refine aP (EV.app (ad rfl) (bJ (.cons (ad rfl) (.cons (ad rfl) (.cons (ad rfl) .nil)))) hr (ah hr) (by simp [hk];lia)) ?_;refine aD (EV.add (ad rfl) (ad rfl)) (aD (EV.add (ad rfl) (ad rfl)) ?_);refine er hH1 ?_;haveI pw:EV S n (.bin .Pow (.int 2) (.loc 4)) [some (.obj ct),some (.obj ro),some (.int (code+m)),some (.int (place+m)),some (.int (k+1:Nat)),some (.int m)] H1 (.int (2^(k+1))) H1:=au (EV.pow EV.int (ad rfl) (bT (OS _) (by lia) (av (by decide) (by decide)))) (by rw [ON]);haveI g:=f' Q q;replace g:=(LW:(((k+1+1):Int))=((k+1))+1)▸g;by_cases h1:(2)^(k+1)<=code+m
  ·haveI h2:¬0<m:=by
    rw [decide_eq_true h1,Bool.true_and] at hok1;exact of_decide_eq_false hok1
   exact ay (bh (bq.yes (ag (ad rfl) pw v5) (decide_eq_true h1) (bq.no (ag (ad rfl) EV.int bt) (decide_eq_false h2)))) rfl (aD (EV.mul (ad rfl) EV.int (av (by decide) (by decide))) (W.nil g))
  ·exact ay (bh (bq.no (ag (ad rfl) pw v5) (decide_eq_false h1))) rfl (aD (EV.mul (ad rfl) EV.int (av (by decide) (by decide))) (W.nil g))
theorem vn(ok:OKl S){ct:Nat}(hc:H[ct]? = some (.tuple (zs fO))){kP:Prop}(kK:∀H' ro rs,aE S 1 (.top 282) [.obj ct] H (.obj ro) H'->H.length<=ro->H'[ro]? = some (.list (rs.map .obj))->nU (fun i=>ro<i) H' rs eL->cg H H'->kP):kP:=by
 generalize hHa:H++[O.list []]++[O.tuple [.int 0,.int 0]]++[O.rng 1 17 1]=Ha;have P:cg H Ha:=by exact el hHa (.app (.app (.app .refl)))
 haveI hal:Ha.length=H.length+3:=by refine el hHa ?_;simp
 haveI jr:Ha[H.length+2]? = some (.rng 1 17 1):=by
  refine el hHa ?_;exact er (by simp:H.length+2=(H++[O.list []]++[O.tuple [.int 0,.int 0]]).length) aj
 refine AL (S:=S) (n:=0) (all:=fO) jr (fun _ h=>O.noConfusion h) (by decide) fO 0 0 0 [] [] Ha none none rfl (by decide +kernel) (P.at_ _ _ hc trivial) (by exact el hHa (ah (ah aj))) .nil rfl jr (by lia) _ fun H' l' rs' f' q0 q1 q2 q3=>?_;have er:([]:List (Int×Int×Int))++sK 0 0 fO=eL:=by decide +kernel
 replace q2:=er▸q2;have l16:(zs fO).length=16:=rfl;refine kK H' H.length rs' (ok.fnD 14 rfl rfl fun Q q=>?_) (OF _) q1 q2 ⟨Oz P.len q3.len,fun i ob e _=>q3.at_ i ob (P.at_ i ob e trivial) (z1 (aA e))⟩;refine aD (EV.list .nil) (cL (bJ (.cons EV.int (.cons EV.int .nil))) aj rfl ?_);haveI it:=jo (S:=S) (n:=0) EV.int (au (q:=17) (EV.add (Bl (ad (l:=[some (.obj ct),some (.obj H.length),some (.int 0),some (.int 0),none,none]) (i:=0) rfl) (ah (E:=[.tuple [.int 0,.int 0]]) (ah (E:=[.list []]) hc)) (by rw [l16];decide)) (EV.int (i:=1))) (by rw [l16];rfl)) (p:=1);haveI ej:(H++[O.list []]++[O.tuple [.int 0,.int 0]]).length=H.length+2:=by simp
 refine bk it (aX aj ⟨by decide,by decide⟩ ⟨by decide,by decide⟩) ?_;rw [hHa,ej];exact f' _ (W.ret (ad q0) q)
end
end
section
mutual #where
variable {S:be} {n:Nat} {H H' H1 H2 E E':List O} {i:Nat} {l l1:aW} {v:V} {c:C} {R:Nat->Prop}
def zn(R:Nat->Prop)(H:List O)(es:List (Int×V))(ks:List (Int×Int×Int)):Prop:=F2 (fun(e:Int×V) (k:Int×Int×Int)=>e.1=k.1/\∃c,e.2=.obj c/\R c/\H[c]? = some (.tuple [.int k.2.1,.int k.2.2])) es ks
theorem zn.keep{G:Nat->O->Prop}{es:List (Int×V)}{ks:List (Int×Int×Int)}(a:zn R H es ks)(k:Kp G H H')(g:∀i o,R i->fD o=true->G i o):zn R H' es ks:=
 F2.imp (fun _ _ ⟨h1,c,h2,h3,h4⟩=>⟨h1,c,h2,h3,k.get h4 (g _ _ h3 rfl)⟩) a
theorem pT{es:List (Int×V)}{ks:List (Int×Int×Int)}(a:zn R H es ks):es.map (·.1)=ks.map (·.1):=by
 induction a with
 | nil=>rfl
 | cons h _ ih=>refine er O1 (er O1 ?_);refine er ih (er h.1 ?_);rfl
theorem xJ{k:Int}{y:V}{es:List (Int×V)}(h:k∉es.map (·.1)):sO k y es=es++[(k,y)]:=by
 unfold sO;rw [if_neg];intro z;refine aZ (List.any_eq_true.mp z) fun e he hk=>h (Pm.mpr (bN e he (of_decide_eq_true hk)))
def je(first:Int)(place many:Nat)(size:Int):List (Int×Int×Int):=(OT many).map fun j=>(cZ.getD (place+j) 0,first+(j:Int),size)
abbrev NJ:Ps:=(gw.body.get 5).b1
abbrev Ok:Ps:=(NJ.get 1).b1
def NI(hd a b:Nat)(size first many place:Int)(k:Option V):aW:=[some (.obj hd),some (.obj a),some (.obj b),some (.int size),some (.int first),some (.int many),some (.int place),k]
structure HI(L hd ct st ro cd:Nat)(rs:List Nat)(es:List (Int×V))(ks:List (Int×Int×Int))(H:List O):Prop where
 hd:H[hd]? = some (vg ct st ro cd)
 st:H[st]? = some (.tuple (zs cZ))
 ro:H[ro]? = some (.list (rs.map .obj))
 rows:nU (fun i=>L<=i) H rs eL
 cd:H[cd]? = some (.dict es)
 es:zn (fun i=>L<=i) H es ks
theorem HI.app{L hd ct st ro cd:Nat}{rs:List Nat}{es:List (Int×V)}{ks:List (Int×Int×Int)}(x:HI L hd ct st ro cd rs es ks H):HI L hd ct st ro cd rs es ks (H++E):=⟨ah x.hd,ah x.st,ah x.ro,F2.imp (fun _ _ h=>⟨h.1,ah h.2⟩) x.rows,ah x.cd,x.es.keep (Kp.app .refl) fun _ _ _ _=>trivial⟩
theorem yl{L hd ct st ro cd a b jr:Nat}{rs:List Nat}{size first:Int}{place:Nat}{many:Int}{H0:List O}{o:O}(h0:H0[jr]? = some o)(hob:∀es,o≠.dict es):∀(m k:Nat) (es:List (Int×V)) (ks:List (Int×Int×Int)) (H:List O) (z:Option V),place+k+m<=24->((ks++((OT m).map fun j=>(cZ.getD (place+(k+j)) 0,first+((k+j:Nat):Int),size))).map (·.1)).Nodup->ks.length+m<=100->L<=H.length->
  HI L hd ct st ro cd rs es ks H->H[jr]? = some o->∀(kP:Prop),(∀es' H' z',dz S n Ok (.one 7) (aG (.obj jr) H0) (cQ (k:Int) m) (NI hd a b size first many place z) H (NI hd a b size first many place z') H'->HI L hd ct st ro cd rs es' (ks++((OT m).map fun j=>(cZ.getD (place+(k+j)) 0,first+((k+j:Nat):Int),size))) H'->Kp (fun i _=>i≠cd) H H'->kP)->kP:=by
 intro m_;induction m_ with
 | zero=>
  intro k es ks H z _ _ _ _ hi hj;intro _ kK;exact kK es H z (fun Q q=>⟨hj.trans h0.symm,q⟩) (by simpa using hi) .refl
 | succ m ih_=>
  intro k es ks H z hp hn hl hL hi hj;refine er bp ?_;haveI hs:cZ[place+k]? = some (cZ.getD (place+k) 0):=by
   refine er OG ?_;haveI:place+k<cZ.length:=by simp [cZ];exact Gu hp
   refine er (OD this) ?_;rfl
  haveI esl:es.length=ks.length:=by haveI:=congrArg List.length (pT hi.es);simpa using this
  have e1:ks++((OT (m+1)).map fun j=>(cZ.getD (place+(k+j)) 0,first+((k+j:Nat)),size))=(ks++[(cZ.getD (place+k) 0,first+(k),size)])++((OT m).map fun j=>(cZ.getD (place+(k+1+j)) 0,first+((k+1+j:Nat)),size)):=by
   refine er Qh ?_;refine er O1 (er PX ?_);rw [OB];congr 2;apply Pz;intro j _;simp only [Function.comp];refine er (B9:k+(j+1)=k+1+j) ?_;rfl
  rw [e1] at hn⊢;intro _ kK;haveI nk:cZ.getD (place+k) 0∉es.map (·.1):=by
   refine er (pT hi.es) ?_;rw [O2,O2,PZ] at hn;haveI:=(PZ.mp hn.1).2.2;intro hm;exact this _ hm _ (.head _) rfl
  generalize hH1:(H++[O.tuple [.int (first+(k:Int)),.int size]]).set cd (.dict (es++[(cZ.getD (place+k) 0,.obj H.length)]))=H1;have cdl:=aA hi.cd;have K:Kp (fun i _=>i≠cd) H H1:=by exact el hH1 (Kp.set (.app .refl) fun _ _ z=>z rfl)
  haveI nw:H1[H.length]? = some (.tuple [.int (first+(k:Int)),.int size]):=by exact el hH1 (cj (z1 cdl) aj)
  have ne:∀ {i:Nat} {o:O},H[i]? = some o->(∀es,o≠.dict es)->i≠cd:=fun h1 h2 e=>by obtain rfl:=e.symm;replace h1:=hi.cd▸h1;obtain rfl:=Option.some.inj h1;exact h2 _ rfl
  haveI hi1:HI L hd ct st ro cd rs (es++[(cZ.getD (place+k) 0,.obj H.length)]) (ks++[(cZ.getD (place+k) 0,first+(k),size)]) H1:=
   ⟨K.get hi.hd (ne hi.hd fun _ h=>O.noConfusion h),K.get hi.st (ne hi.st fun _ h=>O.noConfusion h),K.get hi.ro (ne hi.ro fun _ h=>O.noConfusion h),F2.imp (fun _ _ h=>⟨h.1,K.get h.2 (ne h.2 fun _ h=>O.noConfusion h)⟩) hi.rows,by exact el hH1 (aM (by simp;exact B8 cdl)),
    ft (F2.imp (fun _ _ ⟨h1,c,h2,h3,h4⟩=>⟨h1,c,h2,h3,K.get h4 (ne h4 fun _ h=>O.noConfusion h)⟩) hi.es) ⟨rfl,_,rfl,hL,nw⟩⟩
  refine ih_ (k+1) _ _ H1 (some (.int k)) (Oz (OP (PY place k _▸PY place k 1▸PQ _ _ _)) hp) hn (by simp;exact Io hl) (z4 K.len hL) hi1 (K.get hj (ne hj hob)) _ fun es' H' z' f' q1 q2=>kK es' H' z' (fun Q q=>⟨hj.trans h0.symm,?_⟩) q1 (K.trans q2);refine wo (bJ (.cons (EV.add (ad rfl) (ad rfl)) (.cons (ad rfl) .nil))) (af (ad rfl) (ah hi.hd) rfl rfl rfl) (nV (af (ad rfl) (ah hi.hd) rfl rfl rfl) (au (EV.add (ad rfl) (ad rfl)) (by push_cast;rfl)) (ah hi.st) (by lia) (cY hs)) (ah hi.cd) (by lia) ?_;refine er (xJ nk) (er hH1 ?_);haveI g:=f' Q q;rw [(z3:(((k+1):Int))=(k)+1)] at g;exact W.nil g
def jO:Nat->List (Int×Int×Int)->List (Int×Int×Int)
 | _,[]=>[]
 | k,(first,many,place)::r=>je first place.toNat many.toNat ((k+1:Nat):Int)++jO (k+1) r
def t6(ts:List (Int×Int×Int)):Bool:=ts.all fun t=>decide (0<=t.2.1)&&decide (0<=t.2.2)&&decide (t.2.2.toNat+t.2.1.toNat<=24)
theorem yk{L hd ct st ro cd a b jr:Nat}{rs:List Nat}{H0:List O}{o:O}(h0:H0[jr]? = some o)(hob:∀es,o≠.dict es):∀(ts:List (Int×Int×Int)) (k:Nat) (es:List (Int×V)) (ks:List (Int×Int×Int)) (H:List O) (z3 z4 z5 z6 z7:Option V),eL.drop k=ts->t6 ts=true->((ks++jO k ts).map (·.1)).Nodup->(ks++jO k ts).length<=100->L<=H.length->
  HI L hd ct st ro cd rs es ks H->H[jr]? = some o->
  ∃es' H' l',dz S n NJ (.one 3) (aG (.obj jr) H0) (cQ ((k+1:Nat):Int) ts.length) [some (.obj hd),some (.obj a),some (.obj b),z3,z4,z5,z6,z7] H l' H'/\HI L hd ct st ro cd rs es' (ks++jO k ts) H'/\Kp (fun i _=>i≠cd) H H':=by
 intro ts k es ks H z3 z4 z5 z6 z7;induction ts generalizing k es ks H z3 z4 z5 z6 z7 with
 | nil=>
  intro _ _ _ _ _ hi hj;exact GG es H _ (fun Q q=>⟨hj.trans h0.symm,q⟩) (by exact(OO ks).symm▸hi) .refl
 | cons it_ ts ih_=>
  obtain⟨first,many,place⟩:=it_;intro hd' hf hn hl hL hi hj;refine er OQ (er bp ?_);unfold t6 at hf;replace hf:=S0▸hf;simp only [Px,decide_eq_true_eq] at hf;refine fM hf fun q_b f3 hf2=>?_;have ht:eL[k]? = some (first,many,place):=by
   haveI:=QP (xs:=eL) (i:=k) (j:=0);rw [hd'] at this;simpa using this.symm
  refine ba q_b fun f1 f2=>?_;haveI kl:=bc ht;obtain⟨r,hr,r1,r2⟩:=nJ hi.rows ht;haveI hrr:(rs.map V.obj)[k]? = some (.obj r):=by refine er O5 (er hr ?_);rfl
  haveI ek:jO k ((first,many,place)::ts)=je first place.toNat many.toNat ((k+1:Nat))++jO (k+1) ts:=rfl
  rw [ek,← OB] at hn hl⊢;have hn1:((ks++je first place.toNat many.toNat ((k+1:Nat):Int)).map (·.1)).Nodup:=by rw [O2] at hn;exact(PZ.mp hn).1
  have hrk:je first place.toNat many.toNat ((k+1:Nat))=(OT many.toNat).map fun j=>(cZ.getD (place.toNat+(0+j)) 0,first+((0+j:Nat)),((k+1:Nat):Int)):=by
   apply Pz;intro j _;rw [Py]
  have hl1:=hl;simp only [OA] at hl1;have rkl:(je first place.toNat many.toNat ((k+1:Nat):Int)).length=many.toNat:=by simp [je]
  haveI pe:=Pj f2;refine yl (S:=S) (n:=n) (a:=a) (b:=b) (place:=place.toNat) (many:=many) (aj) (fun _ h=>O.noConfusion h) many.toNat 0 es ks (H++[.rng 0 many 1]) z7 (by assumption) (by exact el hrk hn1) (Gs hl1 rkl) (by simp;exact Pq ‹_›) hi.app aj _ fun es1 H1 z' g1 q1 q2=>?_;rw [← hrk] at q1
  rw [pe] at g1;have njc:jr≠cd:=by rintro rfl;replace hj:=hi.cd▸hj;obtain rfl:=Option.some.inj hj;exact hob _ rfl
  haveI kk:=(Kp.app .refl).trans q2;refine ws (ih_ (k+1) es1 _ H1 (some (.int (k+1:Nat))) (some (.int first)) (some (.int many)) (some (.int place)) z' (by refine el RV (er hd' ?_);rfl) hf2 hn hl (by haveI:=kk.len;lia) q1 (kk.get hj njc)) fun es' H' l' f' w1 w2=>GG es' H' l' (fun Q q=>⟨hj.trans h0.symm,?_⟩) w1 (kk.trans w2);refine cL (aS (af (ad rfl) hi.hd rfl rfl rfl) (au (EV.sub (ad rfl) EV.int) Ih) hi.ro (OE ‹_› (by decide)) hrr) r2 rfl ?_;haveI en:(many - 0).toNat=many.toNat:=Gp;refine bk (bV (ad (v:=.int many) rfl)) (aX aj ⟨by decide,by decide⟩ ⟨Gr f1,Gq hl1 rkl⟩) ?_;refine er en ?_;refine g1 _ (W.nil ?_);haveI g:=f' Q q;replace g:=(rfl:(((k+1+1:Nat):Int))=((k+1))+1)▸g;exact g
theorem yz{s:Int}:∀ {es:List (Int×V)} {e:Int×V},(es.map (·.1)).Nodup->e∈es->e.1=s->(es.find? fun e=>decide (e.1=s))=some e:=by
 intro es e;induction es generalizing e with
 | nil=>
  intro _ h _;exact nomatch h
 | cons a es ih_=>
  intro hn h hs;rw [O1,Pu] at hn;refine er Qw ?_;by_cases q:a.1=s
  ·rcases OY.mp h with rfl | h
   ·simp [q]
   ·exact absurd (Pm.mpr (bN e h (hs.trans q.symm))) hn.1
  ·rcases OY.mp h with rfl | h
   ·exact absurd hs q
   ·simp only [q,decide_false];exact ih_ hn.2 h hs
theorem yi(ok:OKl S){cn sy:Nat}(hc:H[cn]? = some (.list (zs fO)))(hs:H[sy]? = some (.list (zs cZ))){kP:Prop}(kK:∀H',aE S 4 (.top 320) [.obj cn,.obj sy] H (.obj H.length) H'->bQ (fun i=>H.length<=i) H' H.length->cg H H'->kP):kP:=by
 haveI l16:(zs fO).length=16:=rfl;have l24:(zs cZ).length=24:=by simp [zs,cZ]
 refine vd ok (H:=H++[.inst 320 []]) (ah hc) (ah hs) fun H1 t1 t2=>?_;have d1:=t2.at_ _ _ aj trivial;have P1:cg H H1:=(Kp.app .refl).trans t2;have d1l:=aA d1;generalize hH2:(H1++[O.tuple (zs fO)]).set H.length (.inst 320 [(12,.obj H1.length)])=H2;haveI d2:H2[H.length]? = some (.inst 320 [(12,.obj H1.length)]):=by exact el hH2 (aM (by simp;exact B8 d1l))
 have P2:cg H H2:=by exact el hH2 (Kp.setN (.app P1) (OF _))
 haveI c2:H2[H1.length]? = some (.tuple (zs fO)):=by exact el hH2 (cj (z1 d1l) aj)
 have l2:H2.length=H1.length+1:=by refine el hH2 ?_;simp
 generalize hH3:(H2++[O.tuple (zs cZ)]).set H.length (.inst 320 [(12,.obj H1.length),(13,.obj H2.length)])=H3;have d3:H3[H.length]? = some (.inst 320 [(12,.obj H1.length),(13,.obj H2.length)]):=by exact el hH3 (aM (by simp;exact EF d1l l2))
 haveI P3:cg H H3:=by exact el hH3 (Kp.setN (.app P2) (OF _))
 haveI c3:H3[H1.length]? = some (.tuple (zs fO)):=by exact el hH3 (cj (z1 d1l) (ah c2))
 haveI s3:H3[H2.length]? = some (.tuple (zs cZ)):=by exact el hH3 (cj (DF d1l l2) aj)
 have l3:H3.length=H2.length+1:=by refine el hH3 ?_;simp
 refine vn ok c3 fun H4 ro rs r1 r2 r3 r4 r5=>?_;haveI d4:=r5.at_ _ _ d3 trivial;generalize hH5:H4.set H.length (.inst 320 [(12,.obj H1.length),(13,.obj H2.length),(14,.obj ro)])=H5;have ll4:=r5.len;have m2:=PP (QZ d1l) l2.symm;have m3:=PP (QZ m2) l3.symm;haveI d5:H5[H.length]? = some (.inst 320 [(12,.obj H1.length),(13,.obj H2.length),(14,.obj ro)]):=by exact el hH5 (aM (aA d4))
 haveI K5:Kp (fun i _=>i≠H.length) H4 H5:=by exact el hH5 (Kp.set .refl fun _ _ z=>z rfl)
 generalize hH6:(H5++[O.dict []]).set H.length (vg H1.length H2.length ro H5.length)=H6;have l5:H5.length=H4.length:=by refine el hH5 ?_;simp
 haveI d6:H6[H.length]? = some (vg H1.length H2.length ro H5.length):=by exact el hH6 (aM (by simp;exact Go d1l l5 l2 l3 ll4))
 have K6:Kp (fun i _=>i≠H.length) H4 H6:=K5.trans (by exact el hH6 (Kp.set (.app .refl) fun _ _ z=>z rfl));haveI e6:H6[H5.length]? = some (.dict []):=by exact el hH6 (cj (Pf (OE m3 (Oz ll4 (OP l5.symm)))) aj)
 have l6:H6.length=H4.length+1:=by refine el hH6 ?_;simp [l5]
 haveI hi:HI H.length H.length H1.length H2.length ro H5.length rs [] [] H6:=⟨d6,K6.get (r5.at_ _ _ s3 trivial) (Pg m2),K6.get r3 (Pg (OE m3 r2)),F2.imp (fun a b h=>⟨O0 (QA (OE m3 r2) h.1),K6.get h.2 (Pg (QA (OE m3 r2) h.1))⟩) r4,e6,.nil⟩;have ekeys:[]++jO 0 eL=(OT 24).map fun j:Nat=>(cZ.getD j 0,(j:Int),(5:Int)):=by decide +kernel
 refine ws (yk (S:=S) (n:=2) (a:=cn) (b:=sy) (aj) (fun _ h=>O.noConfusion h) eL 0 [] [] (H6++[.rng 1 17 1]) none none none none none rfl (by decide +kernel) (by decide +kernel) (by decide +kernel) (O0 (aA hi.app.hd)) hi.app aj) fun es' H' l' f' w1 w2=>?_;replace w1:=ekeys▸w1;refine kK H' (ok.clsD 3 rfl rfl fun Q q=>?_) (Mx H1.length H2.length ro H5.length rs es' (oK (OF _) (O0 m2) (O0 (OE m3 r2)) (Oz (O0 m3) (Oz ll4 (OP l5.symm)))) w1.hd w1.st w1.ro w1.rows w1.cd (fun j s hj=>?_)) ⟨O0 (aA w1.hd),fun i ob e _=>w2.at_ i ob (ah (K6.at_ i ob (r5.at_ i ob (P3.at_ i ob e trivial) trivial) (z1 (aA e)))) (JV (aA e) d1l l5 l2 l3 ll4)⟩
 ·refine aP (EV.fcall rfl (.cons (ad rfl) (.cons (ad rfl) .nil)) t1 (by decide)) ?_;refine aN (uM (ad rfl) (P1.at_ _ _ hc trivial) (by rw [l16];decide)) (ad rfl) (ah d1) rfl rfl ?_;refine(?_:bH S 2 _ _ ((H1++[O.tuple (zs fO)]).set H.length (.inst 320 [(12,.obj H1.length)])) _);refine er hH2 ?_;refine aN (uM (ad rfl) (P2.at_ _ _ hs trivial) (by rw [l24];decide)) (ad rfl) (ah d2) rfl rfl ?_;refine(?_:bH S 2 _ _ ((H2++[O.tuple (zs cZ)]).set H.length (.inst 320 [(12,.obj H1.length),(13,.obj H2.length)])) _);refine er hH3 ?_;refine aN (EV.fcall rfl (.cons (af (ad rfl) d3 rfl rfl rfl) .nil) r1 (by decide)) (ad rfl) d4 rfl rfl ?_;refine(?_:bH S 2 _ _ (H4.set H.length (.inst 320 [(12,.obj H1.length),(13,.obj H2.length),(14,.obj ro)])) _);refine er hH5 ?_;refine aN zt (ad rfl) (ah d5) rfl rfl ?_;refine(?_:bH S 2 _ _ ((H5++[O.dict []]).set H.length (vg H1.length H2.length ro H5.length)) _);refine er hH6 ?_;refine bk (jo EV.int (EV.add (EV.glob rfl) EV.int)) (aX aj ⟨by decide,by decide⟩ ⟨by decide,by decide⟩) ?_;exact f' (KR S 2 .nil (dA Q)) (W.nil q)
 ·haveI j24:j<24:=by haveI:=bc hj;simpa [cZ] using this
  haveI sj:cZ.getD j 0=s:=by refine er OG (er hj ?_);rfl
  refine eZ (nJ w1.es (b:=(cZ.getD j 0,(j:Int),(5:Int))) (by refine er O5 (er (Ru j24) ?_);rfl)) fun e he e1 q_a=>eZ q_a fun c e2 e3 e4=>jb c ?_ e3 e4;haveI nd:(es'.map (·.1)).Nodup:=by refine er (pT w1.es) ?_;decide +kernel
  haveI em:e=(s,.obj c):=by exact el sj (SV e1 e2)
  exact el em (yz nd (OC he) (by refine er em ?_;rfl))
end
end
section
mutual #where
variable {S:be} {n:Nat} {H H' H1 H2 E E':List O} {i:Nat} {l l1:aW} {v:V} {c:C} {R:Nat->Prop}
theorem ut{T:V->V->Prop}{g:Nat->V}:∀ {m b:Nat},(∀k,b<=k->k<b+m->T (.int k) (g k))->F2 T (cQ (b:Int) m) ((OT m).map fun k=>g (b+k)):=by
 intro m b;induction m generalizing b with
 | zero=>
  intro h;exact .nil
 | succ m ih_=>
  intro h;refine er bp ?_;refine er Qh (er O1 ?_);refine .cons (h b (OF _) Fq) ?_;refine er PX ?_;haveI:=ih_ fun k h1 h2=>h k (Il h1) (EL h2);rw [(z3:(((b+1):Int))=(b)+1)] at this;haveI e:((fun k=>g (b+k)) ∘ Nat.succ)=fun k=>g (b+1+k):=by funext k;simp only [Function.comp];congr 1;exact B9
  exact er e this
def BE(z:Nat):List Int:=(OT z).flatMap fun a:Nat=>(OT 6).map fun s:Nat=>16*(a:Int)+(s:Int)
theorem qE(z:Nat):BE (z+1)=BE z++(OT 6).map fun s:Nat=>16*(z:Int)+(s:Int):=by
 unfold BE;refine er (Re (n:=z)) (er Sj ?_);rw [List.flatMap_singleton]
theorem zW(z:Nat):(BE z).length=6*z:=by
 induction z with
 | zero=>rfl
 | succ z ih=>rewrite [qE];refine er OA (er ih ?_);simp;exact LU
abbrev Oa:Ps:=(kI.body.get 1).b1
theorem zP{jr:Nat}{H0:List O}{o:O}(h0:H0[jr]? = some o):∀(m z y:Nat) (H:List O) (w:Option V),z+m<=10->H[y]? = some (.list (zs (BE z)))->H[jr]? = some o->∀(kP:Prop),(∀y' H' w',dz S n Oa (.one 2) (aG (.obj jr) H0) (cQ (z:Int) m) [some (.int 4),some (.obj y),w,none] H [some (.int 4),some (.obj y'),w',none] H'->H'[y']? = some (.list (zs (BE (z+m))))->cg H H'->kP)->kP:=by
 intro m_;induction m_ with
 | zero=>
  intro z y H w _ hy hj;intro _ kK;exact kK y H w (fun Q q=>⟨hj.trans h0.symm,q⟩) hy .refl
 | succ m ih_=>
  intro z y H w hb hy hj;refine er bp ?_;intro _ kK;generalize hHa:H++[O.rng 0 6 1]++[O.list (zs ((OT 6).map fun s:Nat=>16*(z)+(s:Int)))]=Ha;have P:cg H Ha:=by exact el hHa (.app (.app .refl))
  haveI hal:Ha.length=H.length+2:=by refine el hHa ?_;simp
  haveI ya:=P.at_ _ _ hy trivial;haveI na:Ha[H.length+1]? = some (.list (zs ((OT 6).map fun s:Nat=>16*(z)+(s:Int)))):=by refine el hHa ?_;exact el (dO) aj
  refine ih_ (z+1) Ha.length (Ha++[.list (zs (BE (z+1)))]) (some (.int z)) (Fm hb) aj (ah (P.at_ _ _ hj trivial)) _ fun y' H' w' f' q1 q2=>kK y' H' w' (fun Q q=>⟨hj.trans h0.symm,?_⟩) (by exact er (B9:z+(m+1)=z+1+m) q1) ((Kp.app P).trans q2);have ec:EV S n (.comp [2] (.bin .Add (.bin .Mult (.int 16) (.loc 1)) (.loc 0)) (.bcall .range (.cons (.int 6) .nil))) [some (.int 4),some (.obj y),some (.int z),none] H (.obj (H.length+1)) Ha:=by
   haveI f2:=ut (T:=fun a u=>∀xs,EV S n (.bin .Add (.bin .Mult (.int 16) (.loc 1)) (.loc 0)) (bx [some (.int 4),some (.obj y),some (.int z),none] [2] (some a)) (H++[O.rng 0 6 1]++[.list xs]) u (H++[O.rng 0 6 1]++[.list xs])) (m:=6) (b:=0) fun k _ _ xs=>
    EV.add (EV.mul EV.int (ad rfl) (av Bq (by lia))) (ad rfl)
   haveI:=i8 (bV (EV.int)) (aX aj ⟨by decide,by decide⟩ ⟨by decide,by decide⟩) f2 (by decide);rw [dO] at this;haveI e:(OT 6).map (fun k=>V.int (16*(z)+((0+k:Nat):Int)))=zs ((OT 6).map fun s:Nat=>16*(z)+(s:Int)):=by
    unfold zs;refine er PX ?_;apply Pz;intro s _;simp
   rw [e,hHa] at this;exact this
  refine aD (EV.cat (ad rfl) ec ya na (by refine er ci (er ci ?_);rw [zW];simp;lia)) (W.nil ?_);refine er ww ?_;rw [← qE]
  haveI g:=f' Q q;rw [(z3:(((z+1):Int))=(z)+1)] at g;exact g
theorem sD(ok:OKl S){kP:Prop}(kK:∀H' tb,aE S 5 (.top 1040) [.int 4] H (.obj tb) H'->bQ (fun i=>H.length<=i) H' tb->cg H H'->kP):kP:=by
 refine zP (S:=S) (n:=4) (aj) 4 0 H.length (H++[.list []]++[.rng 0 4 1]) none (by decide) (ah aj) aj _ fun y H1 w f1 q1 q2=>?_;have es:BE (0+4)=cZ:=by decide +kernel
 replace q1:=es▸q1;haveI l24:(zs cZ).length=24:=by simp [zs,cZ]
 generalize hH2:H1++[O.rng 0 16 1]++[O.list (zs fO)]=H2;have P2:cg H1 H2:=by exact el hH2 (.app (.app .refl))
 haveI c2:H2[H1.length+1]? = some (.list (zs fO)):=by refine el hH2 ?_;exact el (dO) aj
 have P01:cg H H1:=(Kp.app (.app .refl)).trans q2;refine yi ok c2 (P2.at_ _ _ q1 trivial) fun H3 t1 t2 t3=>?_;have P02:=P01.trans P2;have ec:EV S 4 (.comp [1,3] (.ite (.cmp (.loc 0) [.Eq] (.cons (.bin .Sub (.loc 2) (.int 1)) .nil)) (.bcall .len (.cons (.loc 1) .nil)) (.int 0)) (.bcall .range (.cons (.int 16) .nil))) [some (.int 4),some (.obj y),w,some (.int 5)] H1 (.obj (H1.length+1)) H2:=by
  haveI f2:=ut (T:=fun a u=>∀xs,EV S 4 (.ite (.cmp (.loc 0) [.Eq] (.cons (.bin .Sub (.loc 2) (.int 1)) .nil)) (.bcall .len (.cons (.loc 1) .nil)) (.int 0)) (bx [some (.int 4),some (.obj y),w,some (.int 5)] [1,3] (some a)) (H1++[O.rng 0 16 1]++[.list xs]) u (H1++[O.rng 0 16 1]++[.list xs])) (g:=fun k:Nat=>.int (fO.getD k 0)) (m:=16) fun k _ hk xs=>by
   haveI t:TV S 4 (.cmp (.loc 0) [.Eq] (.cons (.bin .Sub (.loc 2) (.int 1)) .nil)) (bx [some (.int 4),some (.obj y),w,some (.int 5)] [1,3] (some (.int (k:Nat)))) (H1++[O.rng 0 16 1]++[.list xs]) (decide ((k:Int)=5 - 1)) (H1++[O.rng 0 16 1]++[.list xs]):=ag (ad rfl) (EV.sub (ad rfl) EV.int) bO;by_cases e:k=4
   ·subst e;refine de t rfl ?_;haveI:=bW (S:=S) (n:=4) (ad (l:=bx [some (.int 4),some (.obj y),w,some (.int 5)] [1,3] (some (.int (4:Nat)))) (H:=H1++[O.rng 0 16 1]++[.list xs]) (i:=1) rfl) (ah (ah q1)) (by rw [l24];decide);rw [l24] at this;exact this
   ·refine cP t (decide_eq_false (by lia)) ?_;haveI:fO.getD k 0=0:=by
     haveI:∀k:Fin 16,k.val≠4->fO.getD k.val 0=0:=by decide
     exact this ⟨k,by assumption⟩ e
    exact er this EV.int
  have:=i8 (bV (EV.int)) (aX aj ⟨by decide,by decide⟩ ⟨by decide,by decide⟩) f2 (by decide);rw [dO] at this;have e:(OT 16).map (fun k=>V.int (fO.getD (0+k) 0))=zs fO:=by
   refine er (show(OT 16).map (fun k=>V.int (fO.getD (0+k) 0))=((OT 16).map fun k=>fO.getD (0+k) 0).map .int by refine er PX ?_;rfl) ?_;rfl
  rw [e,hH2] at this;exact this
 refine kK H3 H2.length (ok.fnD 80 rfl rfl fun Q q=>?_) (t2.region fun i _ h=>by haveI:=P02.len;exact Oz ‹_› ‹_›) (P02.trans t3);refine aD (EV.list .nil) (bk (bV (ad rfl)) (aX aj ⟨by decide,by decide⟩ ⟨by decide,by decide⟩) ?_);refine f1 _ ?_;refine aD (de (ag (ad rfl) EV.int bO) rfl EV.int) ?_;exact W.ret (EV.fcall rfl (.cons ec (.cons (ad rfl) .nil)) t1 (by decide)) q
end
end
section
mutual #where
variable {S:be} {n:Nat} {H H' H1 H2 E E':List O} {i:Nat} {l l1:aW} {v:V} {c:C} {R:Nat->Prop} {F:FD} {f s:Nat} {sc:SD}
theorem rQ(ok:OKl S)(o:F.OK)(so:sc.OK F)(fr:aQ R H f F)(sa:aY R H s sc){kP:Prop}(kK:∀H' b,aE S 2 (.top 897) [.obj f,.obj s] H (.int b) H'->b<=10->cg H H'->kP):kP:=by
 have plen:=so.plen;refine dQ (id sa) fun pl sl _ c1 c2 c3=>?_;by_cases h1:sc.places.length=1
 ·refine kK H 1 (ok.fnD 65 rfl rfl fun Q q=>?_) (by decide) .refl;exact bE (TV.val (EV.meth (ad rfl) c1 rfl rfl .nil (da ok sa plen.2) (by decide))) (decide_eq_true (Eg h1)) (W.ret EV.int q)
 ·have hpl:sc.places=[0,1]/\F.two=true:=by
   rcases so.pl with e | ⟨t,e | e⟩
   ·rw [e] at h1;exact absurd rfl h1
   ·rw [e] at h1;exact absurd rfl h1
   ·exact⟨e,t⟩
  have hq0:F.comps[0]? = some (1,F.wide):=by unfold FD.comps;refine er (if_pos hpl.2) ?_;rfl
  have hq1:F.comps[1]? = some (2,1):=by unfold FD.comps;refine er (if_pos hpl.2) ?_;rfl
  refine si (fr.place hq0) fun cl cs k0 f1 f2 f3 f4 _=>si (fr.place hq1) fun cl' cs' k1 g1 g2 g3 g4 _=>?_;replace g1:=f1▸g1;cases g1;have g2:=f2▸g2;cases g2;have pe:fY sc.places=[.int (0),.int (1)]:=by refine er hpl.1 ?_;rfl
  have ow:=o.wide;rw [pe] at c2;haveI el:∀(k c:Nat) (a),(k=0∨k=1)->cs[k]? = some (.obj c)->(∃id,H[c]? = some (et id a))->∀xs,EV S 1 (.bin .Mult (.att (.sub (.att (.loc 1) 8) (.loc 0)) 1) (.att (.sub (.att (.loc 1) 8) (.loc 0)) 2)) [some (.int k),some (.obj f)] (H++[.list xs]) (.int (a*1)) (H++[.list xs]):=fun k c a hk hc y_44 xs=>b7 y_44 fun id hi=>by
   haveI e:EV S 1 (.sub (.att (.loc 1) 8) (.loc 0)) [some (.int k),some (.obj f)] (H++[.list xs]) (.obj c) (H++[.list xs]):=aS (af (ad rfl) (ah f1) rfl rfl rfl) (ad rfl) (ah f2) (LL hk) hc;exact EV.mul (af e (ah hi) rfl rfl rfl) (af e (ah hi) rfl rfl rfl) (av (by decide) (by decide))
  refine kK (H++[.list (zs [F.wide*1,1*1])]) [F.wide*1,1*1].sum (ok.fnD 65 rfl rfl fun Q q=>?_) (by simp;lia) (.app .refl);refine ay (TV.val (EV.meth (ad rfl) c1 rfl rfl .nil (da ok sa plen.2) (by decide))) (decide_eq_false (zA h1)) ?_;exact W.ret (uN (i8 (outs:=zs [F.wide*1,1*1]) (af (ad rfl) c1 rfl rfl rfl) (aU c2) (.cons (el 0 k0 _ (.inl rfl) f3 ⟨_,f4⟩) (.cons (el 1 k1 _ (.inr rfl) g3 ⟨_,g4⟩) .nil)) (by decide)) aj (eE _)) q
abbrev Op:Ps:=(iU.body.get 2).b1
theorem AO(o:F.OK){cl:Nat}{cs:List V}{pl:Nat}{H0:List O}(h0:H[pl]? = H0[pl]?)(f1:H[f]? = some (iR F.h F.w cl))(f2:H[cl]? = some (.list cs))(hcs:cs.length<=2):∀(ps:List Nat) (a:Int) (z:Option V),(∀p∈ps,p<cs.length/\a<p)->ps.Pairwise (· < ·)->∀(kP:Prop),(∀l',dz S n Op (.one 3) (aG (.obj pl) H0) (fY ps) [some (.obj f),some (.obj s),some (.int a),z] H l' H->dE l' 0=some (.obj f)->dE l' 1=some (.obj s)->kP)->kP:=by
 intro m_;induction m_ with
 | nil=>
  intro a z _ _;intro _ kK;exact kK _ (fun Q q=>⟨h0,q⟩) rfl rfl
 | cons p ps ih_=>
  intro a z hp hs;intro _ kK;haveI hs:=So.mp hs;refine ba (hp p (.head _)) fun p1 p2=>ih_ p (some (.int p)) (fun q hq=>⟨(hp q (.tail _ hq)).1,by haveI:=hs.1 q hq;exact JF this⟩) hs.2 _ fun l' f' q1 q2=>kK l' (fun Q q=>⟨h0,?_⟩) q1 q2;refine ay (TV.not (kV EV.int (ad rfl) eX (bW (af (ad rfl) f1 rfl rfl rfl) f2 (DK hcs)) iF (decide_eq_true z0))) (by refine er (decide_eq_true (JF p1)) ?_;rfl) ?_;refine ay (ag (ad rfl) (ad rfl) eX) (decide_eq_false (L5 p2)) ?_;exact aD (ad rfl) (W.nil (f' Q q))
theorem SD.OK.sorted(so:sc.OK F):(∀p∈sc.places,p<F.comps.length)/\sc.places.Pairwise (· < ·):=by
 constructor
 ·intro p hp;refine b7 (Rp hp) fun i hi=>b7 (so.comp hi) fun q hq=>bc hq
 ·rcases so.pl with e | ⟨_,e | e⟩<;>refine er e ?_<;>simp
theorem qJ(ok:OKl S)(o:F.OK)(so:sc.OK F)(fr:aQ R H f F)(sa:aY R H s sc){kP:Prop}(kK:∀H',aE S 3 (.top 904) [.obj f,.obj s] H .none H'->cg H H'->kP):kP:=by
 refine dQ (id sa) fun pl sl _ c1 c2 c3=>?_;haveI plen:=so.plen;refine ba so.sorted fun s1 s2=>zv (fr.place (p:=0) (by unfold FD.comps;split<;>rfl)) fun cl cs c f1 f2 _ _ _ e1 e2=>AO (S:=S) (n:=2) (s:=s) (pl:=pl) o rfl f1 f2 (E8 e1 e2) sc.places (-1) none (fun p hp=>⟨by exact er e1 (s1 p hp),by exact OS _⟩) s2 _ fun l' f' q1 q2=>rQ ok o so fr sa fun H' b b1 b2 b3=>kK H' (ok.fnD 66 rfl rfl fun Q q=>?_) b3;haveI ln:EV S 2 (.bcall .len (.cons (.att (.loc 1) 30) .nil)) [some (.obj f),some (.obj s),none,none] H (.int sc.places.length) H:=by
  haveI:=bW (S:=S) (n:=2) (af (ad (l:=[some (.obj f),some (.obj s),none,none]) (i:=1) rfl) c1 (f:=30) rfl rfl rfl) c2 (by exact er cO (DK plen.2));replace this:=cO▸this;exact this
 refine ay (TV.not (kV EV.int ln eX (EV.glob rfl) eX (decide_eq_true (Lh plen.1)))) (by refine er (decide_eq_true (by lia)) ?_;rfl) ?_;refine aD (EV.neg EV.int) (bk (af (ad rfl) c1 rfl rfl rfl) (aU c2) (f' _ ?_));exact ay (ag (EV.fcall rfl (.cons (ad q1) (.cons (ad q2) .nil)) b1 (by decide)) (EV.glob rfl) bt) (decide_eq_false (Mf b2)) (W.nil q)
abbrev On:Ps:=(jz.body.get 2).b1
theorem AI{k:Nat}{H0:List O}(h0:H[k]? = H0[k]?){a b:V}:∀(ps:List Nat) (z:Option V),(∀p∈ps,p<=3)->∀(kP:Prop),(∀l',dz S n On (.one 3) (aG (.obj k) H0) (fY ps) [some a,some b,some (.int 3),z] H l' H->kP)->kP:=by
 intro m_;induction m_ with
 | nil=>
  intro z _;intro _ kK;exact kK _ fun Q q=>⟨h0,q⟩
 | cons p ps ih_=>
  intro z hp;intro _ kK;refine ih_ (some (.int p)) (fun q hq=>hp q (.tail _ hq)) _ fun l' f'=>?_;have:=hp p (.head _);exact kK l' fun Q q=>⟨h0,ay (TV.not (kV EV.int (ad rfl) eX (ad rfl) eX (decide_eq_true (z0)))) (by refine er (decide_eq_true (by exact P8.mpr ‹_›)) ?_;rfl) (W.nil (f' Q q))⟩
theorem sE(ok:OKl S)(o:F.OK)(so:sc.OK F)(fr:aQ R H f F)(sa:aY R H s sc){kP:Prop}(kK:∀H',aE S 1 (.top 911) [.obj f,.obj s] H .none H'->cg H H'->kP):kP:=by
 have plen:=so.plen;refine dQ (id sa) fun pl sl _ c1 c2 c3=>ba so.sorted fun s1 s2=>zv (fr.place (p:=0) (by unfold FD.comps;split<;>rfl)) fun cl cs c f1 f2 _ _ _ e1 e2=>?_;have nl:(fY sc.places).length=sc.places.length:=cO;haveI ln:∀(a k),(a=30/\k=pl)∨(a=31/\k=sl)∨(a=32/\k=sl)->EV S 0 (.bcall .len (.cons (.att (.loc 1) a) .nil)) [some (.obj f),some (.obj s),none,none] H (.int sc.places.length) H:=fun a k hk=>by
  rcases hk with ⟨rfl,rfl⟩ | ⟨rfl,rfl⟩ | ⟨rfl,rfl⟩
  ·haveI:=bW (S:=S) (n:=0) (af (ad (l:=[some (.obj f),some (.obj s),none,none]) (i:=1) rfl) c1 (f:=30) rfl rfl rfl) c2 (Bo nl plen.2);replace this:=nl▸this;exact this
  ·haveI:=bW (S:=S) (n:=0) (af (ad (l:=[some (.obj f),some (.obj s),none,none]) (i:=1) rfl) c1 (f:=31) rfl rfl rfl) c3 (Bo nl plen.2);rw [nl] at this;exact this
  ·haveI:=bW (S:=S) (n:=0) (af (ad (l:=[some (.obj f),some (.obj s),none,none]) (i:=1) rfl) c1 (f:=32) rfl rfl rfl) c3 (Bo nl plen.2);rw [nl] at this;exact this
 haveI es:fY sc.places++fY sc.places=fY (sc.places++sc.places):=by simp [fY]
 refine AI (S:=S) (n:=0) (H:=H++[.list (fY sc.places)]++[.list (fY sc.places)]++[.list (fY (sc.places++sc.places))]) (k:=(H++[O.list (fY sc.places)]++[O.list (fY sc.places)]).length) rfl (a:=.obj f) (b:=.obj s) (sc.places++sc.places) none (fun p hp=>by
  rcases O9.mp hp with h | h<;>haveI:=s1 p h<;>omega) _ fun l' f'=>?_
 refine kK (H++[.list (fY sc.places)]++[.list (fY sc.places)]++[.list (fY (sc.places++sc.places))]) (ok.fnD 67 rfl rfl fun Q q=>?_) (.app (.app (.app .refl)));refine ay (fJ (fg.no (ag (ln 31 sl (.inr (.inl ⟨rfl,rfl⟩))) (ln 30 pl (.inl ⟨rfl,rfl⟩)) eV) (by rw [decide_eq_true rfl];rfl) (fg.no (ag (ln 32 sl (.inr (.inr ⟨rfl,rfl⟩))) (ln 30 pl (.inl ⟨rfl,rfl⟩)) eV) (by rw [decide_eq_true rfl];rfl) fg.nil))) rfl ?_;refine aD (cP (ag (af (ad rfl) f1 rfl rfl rfl) EV.str AJ) (decide_eq_false (by decide +kernel)) EV.int) ?_;haveI it:=EV.cat (S:=S) (n:=0) (fK (af (ad (l:=[some (.obj f),some (.obj s),some (.int 3),none]) (i:=1) rfl) c1 (f:=31) rfl rfl rfl) c3 (Bo nl plen.2)) (fK (af (ad (i:=1) rfl) (ah c1) (f:=32) rfl rfl rfl) (ah c3) (Bo nl plen.2)) (ah aj) aj (by lia);rw [es] at it;exact bk it (aU aj) (f' (KR S 0 .nil (dA Q)) (W.nil q))
theorem sP(ok:OKl S)(so:sc.OK F)(sa:aY R H s sc):aE S 2 (.top 925) [.obj s,.int 3] H .none H:=ok.fnD 69 rfl rfl fun Q q=>by
 refine dQ (id sa) fun pl sl _ c1 c2 c3=>?_;haveI plen:=so.plen;haveI olo:=so.lo;have at_:∀(a) (v),((a=33/\v=sc.start)∨(a=34/\v=sc.end_)∨(a=35/\v=sc.high)∨(a=36/\v=sc.low))->EV S 1 (.att (.loc 0) a) [some (.obj s),some (.int 3)] H (.int v) H:=fun a v h=>by
  rcases h with ⟨rfl,rfl⟩ | ⟨rfl,rfl⟩ | ⟨rfl,rfl⟩ | ⟨rfl,rfl⟩<;>exact af (ad rfl) c1 rfl rfl rfl
 have a2:=at_ 34 sc.end_ (.inr (.inl ⟨rfl,rfl⟩));have a1:=at_ 33 sc.start (.inl ⟨rfl,rfl⟩);haveI a3:=at_ 35 sc.high (.inr (.inr (.inl ⟨rfl,rfl⟩)));have a4:=at_ 36 sc.low (.inr (.inr (.inr ⟨rfl,rfl⟩)));have bd:sc.start<=sc.end_/\sc.end_<=3/\(sc.start=0->sc.end_=0)/\(sc.start≠0->sc.places.length=1):=by rcases so.bd with q | q<;>lia
 refine ay (TV.not (Be EV.int a1 eX a2 eX (ad rfl) eX (decide_eq_true z0) (decide_eq_true (Jw bd.1)))) (by refine er (decide_eq_true (Mu bd.2.1)) ?_;rfl) ?_;have last:bH S 1 (cK.body.from 3) [some (.obj s),some (.int 3)] H (dA Q):=by
  refine ay (TV.not (kV EV.int a4 eX (EV.glob rfl) eX (decide_eq_true z0))) (by refine er (decide_eq_true (by lia)) ?_;rfl) ?_;have hi:=so.hi;by_cases h0:sc.high=0
  ·exact ay (bh (bq.no (ag a3 EV.int eV) (by simp [h0]))) rfl (W.nil q)
  ·exact ay (bh (bq.yes (ag a3 EV.int eV) (by simp;exact Ip h0) (bq.no (ag a3 (EV.add a4 EV.int) eV) (by simp;exact EZ hi h0)))) rfl (W.nil q)
 have third:bH S 1 (cK.body.from 2) [some (.obj s),some (.int 3)] H (dA Q):=by
  by_cases h0:sc.start=0
  ·exact ay (bh (bq.no (ag a1 EV.int eV) (by simp [h0]))) rfl last
  ·exact ay (bh (bq.yes (ag a1 EV.int eV) (by simp;exact Ip h0) (bq.no (TV.not (TV.val (EV.meth (ad rfl) c1 rfl rfl .nil (da ok sa plen.2) (by decide)))) (by refine er (decide_eq_true (Eg (bd.2.2.2 h0))) ?_;rfl)))) rfl last
 by_cases h0:sc.start=0
 ·exact ay (bh (bq.yes (ag a1 EV.int bO) (decide_eq_true (z9 h0)) (bq.no (ag a2 EV.int eV) (by refine er (bd.2.2.1 h0) ?_;rfl)))) rfl third
 ·exact ay (bh (bq.no (ag a1 EV.int bO) (decide_eq_false (zu h0)))) rfl third
theorem wj(ok:OKl S)(so:sc.OK F)(fr:aQ R H f F)(sa:aY R H s sc):aE S 3 (.top 918) [.obj f,.obj s] H .none H:=ok.fnD 68 rfl rfl fun Q q=>by
 refine zv (fr.place (p:=0) (by unfold FD.comps;split<;>rfl)) fun cl cs c f1 f2 _ _ _ e1 e2=>aD (au (q:=3) (EV.sub (EV.mul (af (ad rfl) f1 rfl rfl rfl) (af (ad rfl) f1 rfl rfl rfl) (av (by decide) (by decide))) EV.int) rfl) ?_;refine jH (ag (af (ad rfl) f1 rfl rfl rfl) EV.str AJ) (decide_eq_false (by decide +kernel)) ?_;refine bE (ag (af (ad rfl) f1 rfl rfl rfl) (EV.glob rfl) M0) (by decide +kernel) ?_;exact aP (EV.fcall rfl (.cons (ad rfl) (.cons (ad rfl) .nil)) (sP ok so sa) (by decide)) (W.nil (W.nil (W.nil q)))
end
end
section
mutual #where
variable {S:be} {n:Nat} {H H' H1 H2 E E':List O} {i:Nat} {l l1:aW} {v:V} {c:C} {R:Nat->Prop} {F:FD} {f s:Nat} {sc:SD}
def xp(low:Nat):List Int->Nat->Nat->List Int
 | row,_,0=>row
 | row,a,m+1=>xp low (row.set a low) (a+1) m
structure kW(sc:SD)(row:List Int):Prop where
 len:row.length=4
 dc:0<sc.start->row.getD 0 0≠-1
 cells:∀k,sc.start<=k->k<=sc.end_->row.getD k 0=if sc.high=0 then -1 else (sc.high:Int)
def IL(kn:Nat):O:=.inst 954 [(37,.obj kn)]
structure dJ(L:Nat)(st:Nat)(Lv:List (List Int))(H:List O):Prop where
 ex:∃kn rws,L<=st/\L<=kn/\H[st]? = some (IL kn)/\H[kn]? = some (.list (rws.map .obj))/\F2 (fun(r:Nat) row=>(L<=r/\r≠kn)/\H[r]? = some (.list (zs row))) rws Lv/\rws.Nodup
abbrev Hn:Ps:=(eQ.body.get 2).b1
abbrev MR:Ps:=(Hn.get 2).b1
def DQ(st f s r p:Nat)(start:Nat)(at_:Option V):aW:=[some (.obj st),some (.obj f),some (.obj s),some (.int 3),some (.int start),some (.int p),some (.obj r),at_]
theorem xl{low:Nat}:∀ {row:List Int} {a m:Nat},(xp low row a m).length=row.length:=by
 intro row a m;induction m generalizing row a with
 | zero=>
  exact rfl
 | succ m ih_=>
  refine er ih_ (er OW ?_);rfl
theorem Hm{st r p pl sl jr:Nat}{H0:List O}{o:O}(h0:H0[jr]? = some o)(hob:∀xs,o≠.list xs):∀(m a:Nat) (row:List Int) (H:List O) (z:Option V),row.length=4->a+m<=4->(∀k,a<=k->k<a+m->row.getD k 0=if sc.high=0 then -1 else (sc.high:Int))->H[s]? = some (iL pl sl sc)->H[r]? = some (.list (zs row))->H[jr]? = some o->∀(kP:Prop),(∀H' z',dz S n MR (.one 7) (aG (.obj jr) H0) (cQ (a:Int) m) (DQ st f s r p sc.start z) H (DQ st f s r p sc.start z') H'->H'[r]? = some (.list (zs (xp sc.low row a m)))->Kp (fun i _=>i≠r) H H'->kP)->kP:=by
 intro m_;induction m_ with
 | zero=>
  intro a row H z _ _ _ _ hr hj;intro _ kK;exact kK H z (fun Q q=>⟨hj.trans h0.symm,q⟩) hr .refl
 | succ m ih_=>
  intro a row H z hl ha hc hs hr hj;refine er bp ?_;intro _ kK;haveI ra:row[a]? = some (if sc.high=0 then -1 else (sc.high:Int)):=by
   haveI:=hc a (OF _) Fq;rw [OG,OD (EN ha hl:a<row.length)] at this;exact er (OD (EN ha hl:a<row.length)) (congrArg some this)
  haveI nj:=hn hj hr (hob _);haveI ns:=hk hs hr;haveI K:Kp (fun i _=>i≠r) H (H.set r (.list (zs (row.set a sc.low)))):=Kp.set .refl fun _ _ z=>z rfl;refine ih_ (a+1) (row.set a sc.low) (H.set r (.list (zs (row.set a sc.low)))) (some (.int a)) (by exact er OW hl) (Bn ha) (fun k h1 h2=>by
   haveI:=hc k (Il h1) (EL h2);refine er OG (er (O7 (Pf ‹_›)) ?_);exact el OG this) (K.get hs ns) (aM (aA hr)) (K.get hj nj) _ fun H' z' f' q1 q2=>?_
  refine kK H' z' (fun Q q=>⟨hj.trans h0.symm,?_⟩) q1 (K.trans q2);haveI hi:EV S n (.att (.loc 2) 35) (DQ st f s r p sc.start (some (.int a))) H (.int sc.high) H:=af (ad rfl) hs rfl rfl rfl;haveI cell:EV S n (.sub (.loc 6) (.loc 7)) (DQ st f s r p sc.start (some (.int a))) H (.int (if sc.high=0 then -1 else (sc.high:Int))) H:=aS (ad rfl) (ad rfl) hr (DD ha) (cY ra);haveI fin:bH S n (.cons (.setsub (.loc 6) (.loc 7) (.att (.loc 2) 36)) .nil) (DQ st f s r p sc.start (some (.int a))) H (fun f loc2 H2=>match f with
   | .next=>iG (fun l H K=>bH S n MR l H K) (.one 7) (aG (.obj jr) H0) (cQ ((a)+1) m) loc2 H2 Q
   | .cont=>iG (fun l H K=>bH S n MR l H K) (.one 7) (aG (.obj jr) H0) (cQ ((a)+1) m) loc2 H2 Q
   | .brk=>Q .next loc2 H2
   | .ret v=>Q (.ret v) loc2 H2):=by
   refine dm (af (ad rfl) hs rfl rfl rfl) (ad rfl) (ad rfl) hr (bT (z0) (by refine er ci ?_;lia) (by exact er ci (zz hl))) ?_;rewrite [ON];refine er k8 ?_;haveI g:=f' Q q;rw [(z3:(((a+1):Int))=(a)+1)] at g;exact W.nil g
  by_cases hh:sc.high=0
  ·refine ay (bh (bq.yes (ag hi EV.int bO) (decide_eq_true (z9 hh)) (bq.no (ag cell (EV.glob rfl) eV) (by refine er (if_pos hh) ?_;rfl)))) rfl ?_;exact ay (bh (bq.no (ag hi EV.int eV) (by simp [hh]))) rfl fin
  ·refine ay (bh (bq.no (ag hi EV.int bO) (decide_eq_false (zu hh)))) rfl ?_;exact ay (bh (bq.yes (ag hi EV.int eV) (by simp;exact Ip hh) (bq.no (ag cell hi eV) (by refine er (if_neg hh) (er (decide_eq_true rfl) ?_);rfl)))) rfl fin
def dk(sc:SD)(row:List Int):List Int:=xp sc.low row sc.start (sc.end_+1 - sc.start)
def bX(sc:SD):List (List Int)->List Nat->List (List Int)
 | Lv,[]=>Lv
 | Lv,p::ps=>bX sc (Lv.set p (dk sc (Lv.getD p []))) ps
theorem jy{sc:SD}{Lv:List (List Int)}{p:Nat}{ps:List Nat}:bX sc Lv (p::ps)=bX sc (Lv.set p (dk sc (Lv.getD p []))) ps:=rfl
def fu(sc:SD):List (List Int)->List Nat->Prop
 | _,[]=>True
 | Lv,p::ps=>p<Lv.length/\kW sc (Lv.getD p [])/\fu sc (Lv.set p (dk sc (Lv.getD p []))) ps
theorem AC{α β:Type}{R T:α->β->Prop}{xs:List α}{ys:List β}(r:F2 R xs ys):(∀a b,a∈xs->R a b->T a b)->F2 T xs ys:=by
 induction r with
 | nil=>exact fun _=>.nil
 | cons a _ ih=>exact fun h=>.cons (h _ _ (.head _) a) (ih fun x y hx=>h x y (.tail _ hx))
theorem vi{L st kn p r:Nat}{rws:List Nat}{Lv:List (List Int)}{row:List Int}(hL:L<=st/\L<=kn)(h1:H[st]? = some (IL kn))(h2:H[kn]? = some (.list (rws.map .obj)))(h3:F2 (fun(r:Nat) row=>(L<=r/\r≠kn)/\H[r]? = some (.list (zs row))) rws Lv)(nd:rws.Nodup)(hr:rws[p]? = some r)(hk:Kp (fun i _=>i≠r) H H')(hn:H'[r]? = some (.list (zs row))):dJ L st (Lv.set p row) H':=by
 haveI hrk:r≠kn:=by
  refine b7 (Rp (OC hr)) fun i hi=>?_;haveI:∀ {xs:List Nat} {ys:List (List Int)},F2 (fun(r) row=>(L<=r/\r≠kn)/\H[r]? = some (.list (zs row))) xs ys->∀x∈xs,x≠kn:=by
   intro xs ys h;induction h with
   | nil=>intro x hx;exact nomatch hx
   | cons a _ ih=>
    intro x hx;rcases OY.mp hx with rfl | hx
    ·exact a.1.2
    ·exact ih x hx
  exact this h3 r (OC hr)
 have hst:st≠r:=by
  intro e;subst e;haveI:∀ {xs:List Nat} {ys:List (List Int)},F2 (fun(r) row=>(L<=r/\r≠kn)/\H[r]? = some (.list (zs row))) xs ys->∀x∈xs,∃ys,H[x]? = some (.list ys):=by
   intro xs ys h;induction h with
   | nil=>intro x hx;exact nomatch hx
   | cons a _ ih=>
    intro x hx;rcases OY.mp hx with rfl | hx
    ·exact⟨_,a.2⟩
    ·exact ih x hx
  refine b7 (this h3 st (OC hr)) fun ys e=>?_;rw [h1] at e;exact nomatch e
 refine⟨kn,rws,hL.1,hL.2,hk.get h1 hst,hk.get h2 (Ne.symm hrk),?_,nd⟩;haveI key:∀ {xs:List Nat} {ys:List (List Int)} {j:Nat},F2 (fun(r) row=>(L<=r/\r≠kn)/\H[r]? = some (.list (zs row))) xs ys->xs.Nodup->xs[j]? = some r->F2 (fun(r) row=>(L<=r/\r≠kn)/\H'[r]? = some (.list (zs row))) xs (ys.set j row):=by
  intro xs ys j h;induction h generalizing j with
  | nil=>intro _ hj;exact aJ hj
  | cons a rs ih=>
   intro hnd hj;have hnd:=Pu.mp hnd;cases j with
   | zero=>
    simp at hj;obtain rfl:=hj.symm;refine .cons ⟨a.1,hn⟩ (AC rs fun x y hx hq=>⟨hq.1,hk.get hq.2 fun e=>hnd.1 (e▸hx)⟩)
   | succ j=>
    haveI hj':=by simpa using hj
    refine .cons ⟨a.1,hk.get a.2 fun e=>hnd.1 (by exact er e (OC hj'))⟩ (ih hnd.2 hj')
 exact key h3 nd hr
structure FW(R:Nat->Prop)(L f s:Nat)(F:FD)(sc:SD)(H:List O):Prop where
 fr:aQ R H f F
 sa:aY R H s sc
 lo:∀i,R i->i<L
theorem FW.kp{L:Nat}(x:FW R L f s F sc H)(k:Kp (fun i _=>i<L) H H'):FW R L f s F sc H':=⟨x.fr.keep k fun i _ ri _=>x.lo i ri,x.sa.keep k fun i _ ri _=>x.lo i ri,x.lo⟩
theorem vL(ok:OKl S)(so:sc.OK F){L st pl sl kp:Nat}{H0:List O}(h0:H0[kp]? = some (.list (fY sc.places)))(hkp:kp<L):∀(ps:List Nat) (Lv:List (List Int)) (H:List O) (x y z:Option V),fu sc Lv ps->FW R L f s F sc H->H[s]? = some (iL pl sl sc)->H[kp]? = some (.list (fY sc.places))->dJ L st Lv H->L<=H.length->Lv.length<=2->∀(kP:Prop),(∀H' l',dz S 1 Hn (.one 5) (aG (.obj kp) H0) (fY ps) [some (.obj st),some (.obj f),some (.obj s),some (.int 3),some (.int sc.start),x,y,z] H l' H'->dJ L st (bX sc Lv ps) H'->Kp (fun i _=>i<L) H H'->kP)->kP:=by
 intro m_;induction m_ with
 | nil=>
  intro Lv H x y z _ _ _ hk hst _ _;intro _ kK;exact kK H _ (fun Q q=>⟨hk.trans h0.symm,q⟩) hst .refl
 | cons p ps ih_=>
  intro Lv H x y z hl fw hs hk hst hL hlv;intro _ kK;obtain⟨kn,rws,b1,b2,h1,h2,h3,nd⟩:=id hst;refine dN hl fun l1 l2 l3=>?_;haveI hp:Lv[p]? = some (Lv.getD p []):=by refine er OG (er (OD l1) ?_);rfl
  generalize hrow:Lv.getD p []=row at *;obtain⟨r,hr,⟨r1,r2⟩,r3⟩:=nJ h3 hp;haveI olo:=so.lo;have bd:sc.start<=sc.end_/\sc.end_<=3:=by rcases so.bd with q | q<;>lia
  haveI P1:cg H (H++[.rng sc.start (sc.end_+1) 1]):=.app .refl;refine Hm (S:=S) (n:=1) (st:=st) (p:=p) (f:=f) (aj) (fun _ h=>O.noConfusion h) (sc.end_+1 - sc.start) sc.start row (H++[.rng sc.start (sc.end_+1) 1]) z l2.len (Ib bd.1 bd.2) (fun k h1 h2=>l2.cells k h1 (Ej h2 h1)) (ah hs) (ah r3) aj _ fun H1 z1 g1 q1 q2=>?_;haveI K1:=(Kp.app .refl).trans q2;have KL:=K1.mono fun i _ h e=>EK h e r1;haveI st1:dJ L st (Lv.set p (dk sc row)) H1:=vi ⟨b1,b2⟩ h1 h2 h3 nd hr K1 q1;have sL:s<L:=by refine eu fw.sa fun _ _ q_a _=>?_;refine ba q_a fun rs _=>?_;exact fw.lo _ rs
  refine ih_ _ H1 (some (.int p)) (some (.obj r)) z1 l3 (fw.kp KL) (KL.get hs sL) (KL.get hk hkp) st1 (z4 KL.len hL) (by exact er OW hlv) _ fun H' l' f' w1 w2=>kK H' l' (fun Q q=>⟨hk.trans h0.symm,?_⟩) (by refine er jy ?_;exact er hrow w1) (KL.trans w2);haveI rp:(rws.map V.obj)[p]? = some (.obj r):=by refine er O5 (er hr ?_);rfl
  haveI loop:bH S 1 (Hn.from 2) (DQ st f s r p sc.start z) H (fun f loc2 H2=>match f with
   | .next=>iG (fun l H K=>bH S 1 Hn l H K) (.one 5) (aG (.obj kp) H0) (fY ps) loc2 H2 Q
   | .cont=>iG (fun l H K=>bH S 1 Hn l H K) (.one 5) (aG (.obj kp) H0) (fY ps) loc2 H2 Q
   | .brk=>Q .next loc2 H2
   | .ret v=>Q (.ret v) loc2 H2):=by
   haveI en:((sc.end_)+1 - (sc.start:Int)).toNat=sc.end_+1 - sc.start:=Ie;refine bk (jo (ad rfl) (EV.add (au (uQ (af (ad rfl) hs rfl rfl rfl) (ad rfl)) (if_neg (Lu bd.2))) EV.int)) (aX aj ⟨z6,by lia⟩ ⟨Ig,by lia⟩) ?_;exact er en (g1 _ (W.nil (f' Q q)))
  refine aD (aS (af (ad rfl) h1 rfl rfl rfl) (ad rfl) h2 (JC l1 hlv) rp) ?_;by_cases h0':0<sc.start
  ·haveI c0:row[0]? = some (row.getD 0 0):=by refine er OG (er (OD (by haveI:=l2.len;lia:0<row.length)) ?_);rfl
   exact ay (bh (bq.yes (ag (ad rfl) EV.int bt) (decide_eq_true (uW h0')) (bq.no (ag (cA (ad rfl) EV.int r3 ⟨by decide,by decide⟩ (cY c0)) (EV.glob rfl) bO) (decide_eq_false (l2.dc h0'))))) rfl loop
  ·exact ay (bh (bq.no (ag (ad rfl) EV.int bt) (decide_eq_false (B6 h0')))) rfl loop
theorem rj(ok:OKl S)(so:sc.OK F){L st:Nat}{Lv:List (List Int)}(hl:fu sc Lv sc.places)(fw:FW R L f s F sc H)(hst:dJ L st Lv H)(hL:L<=H.length)(hlv:Lv.length<=2){kP:Prop}(kK:∀H',aE S 2 (.top 944) [.obj st,.obj f,.obj s] H .none H'->dJ L st (bX sc Lv sc.places) H'->Kp (fun i _=>i<L) H H'->kP):kP:=by
 refine dQ (id fw.sa) fun pl sl q_a c1 c2 c3=>zv (fw.fr.place (p:=0) (by unfold FD.comps;split<;>rfl)) fun cl cs c f1 f2 _ _ _ e1 e2=>dN q_a fun r1 r2 r3=>vL ok so c2 (fw.lo _ r2) sc.places Lv H none none none hl fw c1 c2 hst hL hlv _ fun H' l' f' w1 w2=>kK H' (ok.fnD 70 rfl rfl fun Q q=>?_) w1 w2;refine aD (au (q:=3) (EV.sub (EV.mul (af (ad rfl) f1 rfl rfl rfl) (af (ad rfl) f1 rfl rfl rfl) (av (by decide) (by decide))) EV.int) rfl) ?_;refine aD (cP (ag (af (ad rfl) f1 rfl rfl rfl) EV.str AJ) (decide_eq_false (by decide +kernel)) (af (ad rfl) c1 rfl rfl rfl)) ?_;exact bk (af (ad rfl) c1 rfl rfl rfl) (aU c2) (f' (KR S 1 .nil (dA Q)) (W.nil q))
end
end
section
mutual #where
variable {S:be} {n:Nat} {H H' H1 H2 E E':List O} {i:Nat} {l l1:aW} {v:V} {c:C} {R:Nat->Prop} {F:FD} {f s:Nat} {sc:SD}
abbrev NB:C:=.bin .Mult (.list (.cons (.glob 62) .nil)) (.bin .Mult (.att (.loc 1) 9) (.att (.loc 1) 9))
def wq:List Int:=[-1,-1,-1,-1]
theorem MW{p q:Str}(h:¬p=q):CM S .Eq (.str p) (.str q) H false:=decide_eq_false h▸AJ
theorem zS{acc jr cl:Nat}{H0:List O}{o:O}(h0:H0[jr]? = some o)(hl:l[1]? = some (some (.obj f)))(hja:jr≠acc)(hfa:f≠acc):∀(rest:List V) (done:List Nat) (H:List O),H[acc]? = some (.list (done.map .obj))->H[jr]? = some o->H[f]? = some (iR F.h F.w cl)->done.length+rest.length<=50->(∀r∈done,acc<r/\r<H.length/\H[r]? = some (.list (zs wq)))->done.Pairwise (· < ·)->acc<H.length->∀(kP:Prop),(∀(H':List O) (rws:List Nat),B0 S n NB [1] l (aG (.obj jr) H0) acc rest H H'->H'[acc]? = some (.list (rws.map .obj))->rws.length=done.length+rest.length->(∀r∈rws,acc<r/\r<H'.length/\H'[r]? = some (.list (zs wq)))->rws.Pairwise (· < ·)->Kp (fun i _=>i≠acc) H H'->kP)->kP:=by
 intro m_;induction m_ with
 | nil=>
  intro done H ha hj _ _ hd hp _;intro _ kK;exact kK H done (fun Q q=>⟨hj.trans h0.symm,q⟩) ha (rfl) hd hp .refl
 | cons y rest ih_=>
  intro done H ha hj hf hb hd hp hal;intro _ kK;simp only [OQ] at hb;haveI lc:bx l [1] (some y)=[some y,some (.obj f)]:=by unfold bx;simp [hl]
  haveI nn:EV S n (.bin .Mult (.att (.loc 1) 9) (.att (.loc 1) 9)) [some y,some (.obj f)] (H++[.list [.int (-1)]]) (.int 4) (H++[.list [.int (-1)]]):=au (EV.mul (af (ad rfl) (ah hf) rfl rfl rfl) (af (ad rfl) (ah hf) rfl rfl rfl) (av (by decide) (by decide))) rfl;haveI ee:EV S n NB [some y,some (.obj f)] H (.obj (H++[O.list [.int (-1)]]).length) (H++[.list [.int (-1)]]++[.list (zs wq)]):=EV.rep (EV.list (.cons (EV.glob rfl) .nil)) nn aj (by decide);rw [dO] at ee;generalize hHb:H++[O.list [.int (-1)]]++[O.list (zs wq)]=Hb at ee;have hbl:Hb.length=H.length+2:=by refine el hHb ?_;simp
  haveI nb:Hb[H.length+1]? = some (.list (zs wq)):=by refine el hHb ?_;exact el (dO) aj
  haveI P:cg H Hb:=by exact el hHb (.app (.app .refl))
  have K:Kp (fun i _=>i≠acc) H (Hb.set acc (.list ((done++[H.length+1]).map .obj))):=Kp.set P.pre fun _ _ z=>z rfl;have ab:=P.at_ _ _ ha trivial;refine ih_ (done++[H.length+1]) (Hb.set acc (.list ((done++[H.length+1]).map .obj))) (aM (aA ab)) (K.get hj hja) (K.get hf hfa) (by simp;exact Fi hb) (fun r hr=>by
   rcases O9.mp hr with h | h
   ·refine dN (hd r h) fun a1 a2 a3=>bT a1 (by exact er OW (EE a2 hbl)) (K.get a3 (z8 a1))
   ·refine er (OZ.mp h) ?_;exact(bT (B8 hal) (by exact er OW (E9 hbl)) (cj (zB hal) nb))) (by
   refine Rm.mpr ?_;exact(bT hp (Qd _ _) (fun a ha b hb=>by refine er (OZ.mp hb) ?_;haveI:=(hd a ha).2.1;exact B8 this))) (by exact er OW (EE hal hbl)) _ fun H' rws f' q1 q2 q3 q4 q5=>?_
  refine kK H' rws (fun Q q=>⟨hj.trans h0.symm,?_⟩) q1 (by refine er q2 ?_;simp;exact z7) q3 q4 (K.trans q5);dsimp only;refine er (if_pos rfl) (er lc ?_);refine ee _ ?_;refine jb _ ab (by rw [OJ];exact Fh hb) ?_;haveI:=f' Q q;replace this:=O2▸this;exact this
def eN(F:FD):List (List Int):=F.comps.map fun _=>wq
theorem CZ{L kn:Nat}{rws:List Nat}{cs:List (Int×Int)}(h:rws.length=cs.length)(hr:∀r∈rws,(L<=r/\r≠kn)/\H[r]? = some (.list (zs wq))):F2 (fun(r:Nat) row=>(L<=r/\r≠kn)/\H[r]? = some (.list (zs row))) rws (cs.map fun _=>wq):=by
 induction rws generalizing cs with
 | nil=>exact er (Pc h.symm) .nil
 | cons r rws ih=>cases cs with
  | nil=>exact Nat.noConfusion h
  | cons c cs=>exact .cons (hr r (.head _)) (ih (Nat.succ.inj h) fun x hx=>hr x (.tail _ hx))
theorem vj(ok:OKl S)(fr:aQ R H f F){kP:Prop}(kK:∀H',aE S 2 (.top 954) [.obj f] H (.obj H.length) H'->dJ H.length H.length (eN F) H'->cg H H'->kP):kP:=by
 refine zv (fr.place (p:=0) (by unfold FD.comps;split<;>rfl)) fun cl cs c f1 f2 _ _ _ e1 e2=>?_;haveI fl:=aA f1;haveI cll:=aA f2;generalize hHa:H++[O.inst 954 []]++[O.list []]=Ha;have P:cg H Ha:=by exact el hHa (.app (.app .refl))
 haveI hal:Ha.length=H.length+2:=by refine el hHa ?_;simp
 haveI aa:Ha[H.length+1]? = some (.list []):=by refine el hHa ?_;exact el (dO) aj
 haveI ai:Ha[H.length]? = some (.inst 954 []):=by exact el hHa (ah aj)
 refine zS (S:=S) (n:=0) (l:=[some (.obj H.length),some (.obj f)]) (H0:=H++[.inst 954 []]) (ah f2) rfl (zB cll) (zB fl) cs [] Ha aa (P.at_ _ _ f2 trivial) (P.at_ _ _ f1 trivial) (by simp;lia) (fun _ h=>ju h) .nil (E9 hal) _ fun H1 rws f' q1 q2 q3 q4 q5=>?_;have i1:=q5.get ai Cb;have K:Kp (fun i _=>i≠H.length/\i≠H.length+1) Ha (H1.set H.length (IL (H.length+1))):=Kp.set (q5.mono fun _ _ h=>h.2) fun _ _ z=>z.1 rfl;refine kK (H1.set H.length (IL (H.length+1))) (ok.clsD 15 rfl rfl fun Q q=>?_) ⟨H.length+1,rws,OF _,Es,aM (aA i1),cj Cb q1,CZ (by refine er q2 (el e1 ?_);simp) fun r hr=>?_,q4.imp fun h=>Pf h⟩ ⟨Oz P.len K.len,fun i o e _=>K.at_ i o (P.at_ i o e trivial) (by haveI:=aA e;lia)⟩
 ·haveI it:=EV.comp (af (ad (H:=H++[.inst 954 []]) (i:=1) rfl) (ah f1) (f:=8) rfl rfl rfl) (aU (ah f2)) (by refine er dO ?_;exact er hHa f');replace it:=dO▸it;exact aN it (ad rfl) i1 rfl rfl (W.nil q)
 ·refine dN (q3 r hr) fun a1 a2 a3=>⟨⟨by lia,Pg ‹_›⟩,cj (by lia) a3⟩
def b8:List (List Int)->List SD->List (List Int)
 | Lv,[]=>Lv
 | Lv,sc::r=>b8 (bX sc Lv sc.places) r
def dj(F:FD):List (List Int)->List SD->Prop
 | _,[]=>True
 | Lv,sc::r=>sc.OK F/\fu sc Lv sc.places/\dj F (bX sc Lv sc.places) r
theorem kE:∀ {ps:List Nat} {Lv:List (List Int)},(bX sc Lv ps).length=Lv.length:=by
 intro ps Lv;induction ps generalizing Lv with
 | nil=>
  exact rfl
 | cons p ps ih_=>
  refine er ih_ (er OW ?_);rfl
abbrev Om:Ps:=(ik.body.get 1).b1
def aR(R:Nat->Prop)(H:List O)(ks:List Nat)(ss:List SD):Prop:=F2 (fun k sc=>aY R H k sc) ks ss
theorem aR.keep{G:Nat->O->Prop}{ks:List Nat}{ss:List SD}(a:aR R H ks ss)(k:Kp G H H')(g:∀i o,R i->fD o=true->G i o):aR R H' ks ss:=F2.imp (fun _ _ h=>h.keep k g) a
theorem Av(ok:OKl S)(o:F.OK){L st x:Nat}{all:List V}{H0:List O}(h0:H0[x]? = some (.list all))(hx:x<L)(hR:∀i,R i->i<L):∀(ks:List Nat) (ss:List SD) (Lv:List (List Int)) (H:List O) (z:Option V),dj F Lv ss->aR R H ks ss->aQ R H f F->H[x]? = some (.list all)->dJ L st Lv H->L<=H.length->Lv.length<=2->∀(kP:Prop),(∀H' z',dz S 3 Om (.one 3) (aG (.obj x) H0) (ks.map .obj) [some (.obj f),some (.obj x),some (.obj st),z] H [some (.obj f),some (.obj x),some (.obj st),z'] H'->dJ L st (b8 Lv ss) H'->Kp (fun i _=>i<L) H H'->kP)->kP:=by
 intro m_;induction m_ with
 | nil=>
  intro ss Lv H z hl hs _ hxx hst _ _;intro _ kK;cases hs;exact kK H z (fun Q q=>⟨hxx.trans h0.symm,q⟩) hst .refl
 | cons k ks ih_=>
  intro ss Lv H z hl hs fr hxx hst hL hlv;intro _ kK;cases hs with
  | @cons _ sc _ r sa hs=>
   refine dN hl fun so lp la=>qJ ok o so fr sa fun H1 c1 p1=>sE ok o so (fr.keep p1 fun _ _ _ _=>trivial) (sa.keep p1 fun _ _ _ _=>trivial) fun H2 c2 p2=>?_;have p12:=p1.trans p2;haveI fr2:=fr.keep p12 fun _ _ _ _=>trivial;haveI sa2:=sa.keep p12 fun _ _ _ _=>trivial;have st2:dJ L st Lv H2:=by
    obtain⟨kn,rws,b1,b2,h1,h2,h3,nd⟩:=hst;exact⟨kn,rws,b1,b2,p12.at_ _ _ h1 trivial,p12.at_ _ _ h2 trivial,F2.imp (fun _ _ h=>⟨h.1,p12.at_ _ _ h.2 trivial⟩) h3,nd⟩
   refine rj ok so lp ⟨fr2,sa2,hR⟩ st2 (z4 p12.len hL) hlv fun H3 c4 s3 k3=>?_;haveI KK:=p12.pre.trans k3;refine ih_ r _ H3 (some (.obj k)) la (aR.keep hs KK fun i _ ri _=>hR i ri) (fr.keep KK fun i _ ri _=>hR i ri) (KK.get hxx hx) s3 (z4 KK.len hL) (by exact er kE hlv) _ fun H' z' f' w1 w2=>?_;obtain⟨kn,_,_,_,hs2,_⟩:=st2;refine kK H' z' (fun Q q=>⟨hxx.trans h0.symm,?_⟩) w1 (KK.trans w2);refine aP (EV.fcall rfl (.cons (ad rfl) (.cons (ad rfl) .nil)) c1 (by decide)) ?_;refine aP (EV.fcall rfl (.cons (ad rfl) (.cons (ad rfl) .nil)) c2 (by decide)) ?_;refine aP (EV.fcall rfl (.cons (ad rfl) (.cons (ad rfl) .nil)) (wj ok so fr2 sa2) (by decide)) ?_;exact aP (EV.meth (ad rfl) hs2 rfl rfl (.cons (ad rfl) (.cons (ad rfl) .nil)) c4 (by decide)) (W.nil (f' Q q))
theorem lS(ok:OKl S)(o:F.OK){x:Nat}{ks:List Nat}{ss:List SD}(fr:aQ R H f F)(hx:H[x]? = some (.list (ks.map .obj)))(hs:aR R H ks ss)(hl:dj F (eN F) ss){kP:Prop}(kK:∀H',aE S 4 (.top 965) [.obj f,.obj x] H (.obj H.length) H'->dJ H.length H.length (b8 (eN F) ss) H'->cg H H'->kP):kP:=by
 refine vj ok fr fun H1 c1 s1 p1=>?_;haveI hc:=i0 (F:=F);refine Av (R:=fun i=>R i/\i<H.length) ok o (p1.at_ _ _ hx trivial) (aA hx) (fun i h=>h.2) ks ss (eN F) H1 none hl (F2.imp (fun _ _ h=>(h.region fun i hi ri=>⟨ri,hi⟩).keep p1 fun _ _ _ _=>trivial) hs) ((fr.region fun i hi ri=>⟨ri,hi⟩).keep p1 fun _ _ _ _=>trivial) (p1.at_ _ _ hx trivial) s1 p1.len (by unfold eN;rw [OJ];exact hc) _ fun H' z' f' w1 w2=>kK H' (ok.fnD 72 rfl rfl fun Q q=>?_) w1 ⟨Oz p1.len w2.len,fun i ob e _=>w2.at_ i ob (p1.at_ i ob e trivial) (aA e)⟩;refine aD (EV.fcall rfl (.cons (ad rfl) .nil) c1 (by decide)) ?_;exact bk (ad rfl) (aU (p1.at_ _ _ hx trivial)) (f' (KR S 3 _ (dA Q)) (W.ret (ad rfl) q))
theorem kT(ok:OKl S)(o:F.OK){x:Nat}{ks:List Nat}{ss:List SD}(fr:aQ R H f F)(hx:H[x]? = some (.list (ks.map .obj)))(hs:aR R H ks ss)(hl:dj F (eN F) ss)(h1:0<ks.length)(h2:ks.length<=100){kP:Prop}(kK:∀H',aE S 5 (.top 972) [.obj f,.obj x] H .none H'->cg H H'->kP):kP:=by
 refine lS ok o fr hx hs hl fun H' c _ p=>kK H' (ok.fnD 73 rfl rfl fun Q q=>?_) p;refine ay (ag (bW (ad rfl) hx (by rw [OJ];exact LG h2)) EV.int bO) (decide_eq_false (by rw [OJ];exact Fs h1)) ?_;exact aP (EV.fcall rfl (.cons (ad rfl) (.cons (ad rfl) .nil)) c (by decide)) (W.nil q)
def e8(Lv:List (List Int)):Bool:=Lv.all fun row=>row.all fun x=>decide (x=0)
abbrev NH:Ps:=(dB.body.get 0).b1
abbrev Oj:Ps:=(NH.get 0).b1
theorem CS{st r:Nat}{H0:List O}(h0:H[r]? = H0[r]?)(Q:Fl->aW->List O->Prop):∀(row:List Int) (z:Option V),(row.all (fun x=>decide (x=0))=true->∀z',Q .next [some (.obj st),some (.bool false),some (.obj r),z'] H)->(row.all (fun x=>decide (x=0))=false->∀l,Q (.ret (.bool false)) l H)->
  iG (fun l H K=>bH S 0 Oj l H K) (.one 3) (aG (.obj r) H0) (zs row) [some (.obj st),some (.bool false),some (.obj r),z] H Q:=by
 intro m_;induction m_ with
 | nil=>
  intro z h _;exact⟨h0,h rfl z⟩
 | cons x row ih_=>
  intro z h hF;refine⟨h0,?_⟩;by_cases hx:x=0
  ·subst hx;refine ay (fJ (fg.no (ag (ad rfl) (EV.glob rfl) bO) rfl (fg.no (bh (bq.no (ag (ad rfl) EV.int eV) rfl)) rfl fg.nil))) rfl (W.nil ?_);exact ih_ _ (fun hr=>h hr) fun hr=>hF hr
  ·have hf:=hF (by refine er S0 (er (decide_eq_false hx) ?_);rfl);by_cases hm:x = -1
   ·exact er hm (bE (fJ (fg.yes (ag (ad rfl) (EV.glob rfl) bO) rfl)) rfl (W.ret EV.bool (hf _)))
   ·refine bE (fJ (fg.no (ag (ad rfl) (EV.glob rfl) bO) (decide_eq_false hm) (fg.yes (bh (bq.yes (ag (ad rfl) EV.int eV) (by simp [hx]) (bq.yes (TV.not (TV.val (ad rfl))) rfl bq.nil))) rfl))) rfl (W.ret EV.bool (hf _))
theorem Ar{st kn:Nat}{H0:List O}(h0:H[kn]? = H0[kn]?)(Q:Fl->aW->List O->Prop)(rws:List Nat)(Lv:List (List Int))(z w:Option V)(r:F2 (fun(r:Nat) row=>H[r]? = some (.list (zs row))) rws Lv):(e8 Lv=true->∀z' w',Q .next [some (.obj st),some (.bool false),z',w'] H)->(e8 Lv=false->∀l,Q (.ret (.bool false)) l H)->
  iG (fun l H K=>bH S 0 NH l H K) (.one 2) (aG (.obj kn) H0) (rws.map .obj) [some (.obj st),some (.bool false),z,w] H Q:=by
 induction r generalizing z w with
 | nil=>exact fun h _=>⟨h0,h rfl z w⟩
 | cons a rs ih=>
  rename_i r row rws Lv;intro h hF;haveI ec:e8 (row::Lv)=(row.all (fun x=>decide (x=0))&&e8 Lv):=rfl;rw [ec] at h hF;refine⟨h0,bk (ad rfl) (aU a) ?_⟩;exact CS rfl _ row w (fun hr z'=>W.nil (ih (some (.obj r)) z' (fun hc=>h (by refine er hr (er hc ?_);rfl)) fun hc=>hF (by refine er hr (er hc ?_);rfl))) fun hr l=>hF (by refine er hr ?_;rfl) l
theorem mQ(ok:OKl S){L st:Nat}{Lv:List (List Int)}(hst:dJ L st Lv H):aE S 1 (.top 951) [.obj st,.bool false] H (.bool (e8 Lv)) H:=ok.fnD 71 rfl rfl fun Q q=>by
 obtain⟨kn,rws,b1,b2,h1,h2,h3,nd⟩:=hst;refine bk (af (ad rfl) h1 rfl rfl rfl) (aU h2) ?_;exact Ar rfl _ rws Lv none none (F2.imp (fun _ _ h=>h.2) h3) (fun h z' w'=>W.ret EV.bool (by rw [h] at q;exact q)) fun h l=>by replace q:=h▸q;exact q
theorem gr(ok:OKl S)(o:F.OK){x:Nat}{ks:List Nat}{ss:List SD}(fr:aQ R H f F)(hx:H[x]? = some (.list (ks.map .obj)))(hs:aR R H ks ss)(hl:dj F (eN F) ss){kP:Prop}(kK:∀H',aE S 5 (.top 979) [.obj f,.obj x] H (.bool (e8 (b8 (eN F) ss))) H'->cg H H'->kP):kP:=by
 refine lS ok o fr hx hs hl fun H' c s p=>zv (fr.place (p:=0) (by unfold FD.comps;split<;>rfl)) fun cl cs cc f1 f2 _ _ _ e1 e2=>?_;obtain⟨kn,_,_,_,hs2,_⟩:=id s;refine kK H' (ok.fnD 74 rfl rfl fun Q q=>?_) p;haveI kind:EV S 4 (.cmp .Eq (.att (.loc 0) 4) (.str (F7 "lossless"))) [some (.obj f),some (.obj x)] H' (.bool false) H':=nY (af (ad rfl) (p.at_ _ _ f1 trivial) rfl rfl rfl) EV.str (MW (by decide +kernel));exact W.ret (EV.meth (EV.fcall rfl (.cons (ad rfl) (.cons (ad rfl) .nil)) c (by decide)) hs2 rfl rfl (.cons kind .nil) (mQ ok s) (by decide)) q
end
end
section
mutual #where
variable {S:be} {n:Nat} {H H' H1 H2 E E':List O} {i:Nat} {l l1:aW} {v:V} {c:C} {R:Nat->Prop} {F:FD} {f s:Nat} {sc:SD}
def lT(ps:List Nat)(st en:Nat):Nat->List SD
 | 0=>[]
 | m+1=>⟨ps,st,en,m+1,m⟩::lT ps st en m
def rh(ps:List Nat)(st en top:Nat):List SD:=⟨ps,st,en,0,top⟩::lT ps st en top
theorem xu(ok:OKl S){pl sl:Nat}{sc:SD}:aE S 2 (.top 887) [.obj pl,.obj sl,.obj sl,.int sc.start,.int sc.end_,.int sc.high,.int sc.low] H (.obj H.length) (H++[iL pl sl sc]):=ok.clsD 14 rfl rfl fun Q q=>
 W.setF rfl (ad rfl) rfl rfl rfl <| W.setF rfl (ad rfl) rfl rfl rfl <| W.setF rfl (ad rfl) rfl rfl rfl <| W.setF rfl (ad rfl) rfl rfl rfl <| W.setF rfl (ad rfl) rfl rfl rfl <| W.setF rfl (ad rfl) rfl rfl rfl <| W.setF rfl (ad rfl) rfl rfl rfl <| W.nil q
abbrev Oq:Ps:=(kJ.body.get 2).b1
def yF:Nat->List V
 | 0=>[]
 | m+1=>.int (m:Nat)::yF m
theorem xB:∀t:Fin 3,dg ((t.val:Nat):Int) (-1) (-1)=yF (t.val+1):=MS rfl rfl rfl
theorem AS(ok:OKl S){ps:List Nat}{pl sl fo jr top st en:Nat}{H0:List O}{o:O}(h0:H0[jr]? = some o)(hob:∀xs,o≠.list xs)(hR:∀i,R i->i≠fo)(rp:R pl/\R sl):∀(m:Nat) (ks:List Nat) (ss:List SD) (H:List O) (z:Option V),m<=top+1->H[pl]? = some (.list (fY ps))->H[sl]? = some (.list (fY ps))->H[jr]? = some o->H[fo]? = some (.list (ks.map .obj))->aR R H ks ss->ks.length+m<=10->(∀i,H.length<=i->R i)->m<=3->
  ∃H' l' ks',dz S 2 Oq (.one 6) (aG (.obj jr) H0) (yF m) [some (.obj pl),some (.int st),some (.int en),some (.int top),some (.obj sl),some (.obj fo),z] H l' H'/\dE l' 5=some (.obj fo)/\H'[fo]? = some (.list (ks'.map .obj))/\
   aR R H' ks' (ss++(if m=top+1 then rh ps st en top else lT ps st en m))/\Kp (fun i _=>i≠fo) H H':=by
 intro m_;induction m_ with
 | zero=>
  intro ks ss H z _ _ _ hj hf hs _ _ _;refine yL fun _ kK=>kK H _ ks (fun Q q=>⟨hj.trans h0.symm,q⟩) rfl hf (by refine er (if_neg (by lia)) ?_;exact(OO ss).symm▸hs) .refl
 | succ m ih_=>
  intro ks ss H z hm hp hl hj hf hs hk hRf hm3;have fol:=aA hf;have ne:∀ {i:Nat},R i->i≠fo:=fun h=>hR _ h;refine yL fun _ kK=>?_;have nj:=hn hj hf (hob _);generalize hsc:(⟨ps,st,en,if m=top then 0 else m+1,m⟩:SD)=sc;generalize hH1:(H++[iL pl sl sc]).set fo (.list (ks.map .obj++[.obj H.length]))=H1;have K:Kp (fun i _=>i≠fo) H H1:=by exact el hH1 (Kp.set (.app .refl) fun _ _ z=>z rfl)
  haveI nw:H1[H.length]? = some (iL pl sl sc):=by exact el hH1 (cj (z1 fol) aj)
  haveI f1:H1[fo]? = some (.list ((ks++[H.length]).map .obj)):=by refine el hH1 ?_;exact er O2 (aM (by simp;exact B8 fol))
  haveI pp:sc.places=ps:=by refine el hsc ?_;rfl
  haveI s1:=ft (aR.keep hs K fun i _ ri _=>hR i ri) (lK pl sl ⟨hRf _ (OF _),rp⟩ nw (by exact er pp (K.get hp (ne rp.1))) (by exact er pp (K.get hl (ne rp.2))));refine si (ih_ (ks++[H.length]) _ H1 (some (.int m)) (O0 ‹_›) (K.get hp (ne rp.1)) (K.get hl (ne rp.2)) (K.get hj nj) f1 s1 (by simp;exact Fm hk) (fun i hi=>hRf i (by haveI:=K.len;exact Oz ‹_› ‹_›)) (O0 ‹_›)) fun H' l' ks' f' q0 q1 q2 q3=>kK H' l' ks' (fun Q q=>⟨hj.trans h0.symm,?_⟩) q0 q1 ?_ (K.trans q3)
  ·haveI hhi:EV S 2 (.ite (.cmp (.loc 6) [.Eq] (.cons (.loc 3) .nil)) (.int 0) (.bin .Add (.loc 6) (.int 1))) [some (.obj pl),some (.int st),some (.int en),some (.int top),some (.obj sl),some (.obj fo),some (.int m)] H (.int sc.high) H:=by
    refine el hsc ?_;by_cases e:m=top
    ·exact er (if_pos e) (de (ag (ad rfl) (ad rfl) bO) (decide_eq_true (by lia)) EV.int)
    ·exact er (if_neg e) (au (cP (ag (ad rfl) (ad rfl) bO) (decide_eq_false (Gn e)) (EV.add (ad rfl) EV.int)) ((Bs:((m)+1)=((m+1):Int))))
   haveI cn:=xu (H:=H) (pl:=pl) (sl:=sl) (sc:=sc) ok;have e1:(sc.start)=st:=by refine el hsc ?_;rfl
   have e2:(sc.end_)=en:=by refine el hsc ?_;rfl
   have e3:(sc.low)=m:=by refine el hsc ?_;rfl
   rw [e1,e2,e3] at cn;refine aP (EV.app (ad rfl) (EV.fcall rfl (.cons (ad rfl) (.cons (ad rfl) (.cons (ad rfl) (.cons (ad rfl) (.cons (ad rfl) (.cons hhi (.cons (ad rfl) .nil))))))) cn (by decide)) hf (ah hf) (by rw [OJ];lia)) (W.nil ?_);exact er hH1 (f' Q q)
  ·haveI:ss++[sc]++(if m=top+1 then rh ps st en top else lT ps st en m)=ss++(if m+1=top+1 then rh ps st en top else lT ps st en (m+1)):=by
    rewrite [if_neg (Pf ‹_›),OB];refine el hsc ?_;by_cases e:m=top
    ·refine el e ?_;refine er (if_pos rfl) (er (if_pos rfl) ?_);rfl
    ·refine er (if_neg e) (er (if_neg (Kx e)) ?_);rfl
   exact el this q2
theorem v6{l:aW}{all outs:List V}{elt:C}(ha:bG v H=some all)(h:F2 (fun y u=>∀xs,EV S n elt (bx l [] (some y)) (H++[.list xs]) u (H++[.list xs])) all outs)(hl:all.length<=1000) :
  B0 S n elt [] l (aG v H) H.length all (H++[.list []]) (H++[.list outs]):=by
 haveI:=rK (done:=[]) ha h (by simpa using hl);rw [Ph] at this;exact this
theorem nO(ok:OKl S){ps:List Nat}{pl st en top:Nat}(hp:H[pl]? = some (.list (fY ps)))(h1:∀p∈ps,p<=1)(hpl:ps.length<=2)(ht:top<=2):∃H' u ks,aE S 3 (.top 1052) [.obj pl,.int st,.int en,.int top] H (.obj u) H'/\H.length<=u/\H'[u]? = some (.list (ks.map .obj))/\aR (fun i=>i=pl∨(H.length<=i/\i≠u)) H' ks (rh ps st en top)/\cg H H':=by
 haveI mins:F2 (fun y u=>∀xs,EV S 2 (.bcall .min (.cons (.loc 0) (.cons (.int 1) .nil))) (bx [some (.obj pl),some (.int st),some (.int en),some (.int top),none,none,none] [] (some y)) (H++[.list xs]) u (H++[.list xs])) (fY ps) (fY ps):=by
  clear hp hpl;induction ps with
  | nil=>exact .nil
  | cons p ps ih=>
   haveI:=h1 p (.head _);exact .cons (fun xs=>au (uQ (ad rfl) EV.int) (by split<;>lia)) (ih fun q hq=>h1 q (.tail _ hq))
 haveI nl:(fY ps).length=ps.length:=cO;generalize hH1:H++[O.list (fY ps)]++[O.list []]++[O.rng top (-1) (-1)]=H1;haveI plt:=aA hp;have P:cg H H1:=by exact el hH1 (.app (.app (.app .refl)))
 haveI l1:H1.length=H.length+3:=by refine el hH1 ?_;simp
 haveI js:H1[H.length]? = some (.list (fY ps)):=by exact el hH1 (ah (ah aj))
 haveI jf:H1[H.length+1]? = some (.list []):=by refine el hH1 ?_;exact el (dO) (ah aj)
 haveI jr:H1[H.length+2]? = some (.rng top (-1) (-1)):=by
  refine el hH1 ?_;exact er (by simp:H.length+2=(H++[O.list (fY ps)]++[O.list []]).length) aj
 refine si (AS (R:=fun i=>i=pl∨(H.length<=i/\i≠H.length+1)) (st:=st) (en:=en) ok jr (fun _ h=>O.noConfusion h) (fun i h=>by lia) ⟨.inl rfl,.inr ⟨OF _,Cb⟩⟩ (top+1) [] [] H1 none (OF _) (P.at_ _ _ hp trivial) js jr jf .nil (by simp only [Rf];lia) (fun i hi=>.inr ⟨by lia,by lia⟩) (O8 ‹_›)) fun H' l' ks f' q0 q1 q2 q3=>?_;rw [if_pos rfl,Ph] at q2;refine Cg H' (H.length+1) ks (ok.fnD 82 rfl rfl fun Q q=>?_) (Es) q1 q2 ⟨Oz P.len q3.len,fun i ob e _=>q3.at_ i ob (P.at_ i ob e trivial) (zB (aA e))⟩;refine W.comp (ad rfl) (aU hp) (v6 (aU hp) mins (by lia)) ?_;refine aD (EV.list .nil) ?_;refine er dO ?_;haveI ej:(H++[O.list (fY ps)]++[O.list []]).length=H.length+2:=by simp
 refine bk (Bj (ad rfl) (EV.neg (EV.int)) (EV.neg (EV.int)) ⟨by decide,av (by decide) (by decide)⟩) (oT aj ⟨z6,by lia⟩ ⟨by decide,by decide⟩ (.inr rfl)) ?_;refine er ej (er hH1 ?_);exact er (xB ⟨top,O8 ‹_›⟩) (f' _ (W.ret (ad q0) q))
end
end
section
mutual #where
variable {F:FD} {sc:SD}
structure Ch where
 ps:List Nat
 st:Nat
 en:Nat
 full:Bool
 m:Nat
def Ch.sds(c:Ch):List SD:=if c.full then rh c.ps c.st c.en c.m else lT c.ps c.st c.en c.m
theorem mT{ps:List Nat}{st en:Nat}(m:Nat):(lT ps st en m).length=m:=by
 induction m with
 | zero=>rfl
 | succ m ih=>exact congrArg Nat.succ ih
theorem t5(c:Ch):c.sds.length<=c.m+1:=by
 unfold Ch.sds;by_cases h:c.full=true
 ·exact er (if_pos h) (OP (congrArg Nat.succ (mT _)))
 ·exact er (if_neg h) (Pq (OP (mT _)))
def Ch.next(c:Ch):Ch:=⟨c.ps,c.st,c.en,false,if c.full then c.m else c.m - 1⟩
def Ch.lv(c:Ch):Int:=if c.full then -1 else c.m
def Ch.hd(c:Ch):SD:=⟨c.ps,c.st,c.en,if c.full then 0 else c.m,if c.full then c.m else c.m - 1⟩
def Ch.live(c:Ch):Bool:=c.full||decide (c.m≠0)
theorem Ch.sds_eq{c:Ch}(h:c.live=true):c.sds=c.hd::c.next.sds:=by
 obtain⟨_,_,_,full,m⟩:=c;cases full with
 | true=>rfl
 | false=>cases m with
  | zero=>exact ae h
  | succ m=>rfl
theorem Ch.sds_nil{c:Ch}(h:c.live=false):c.sds=[]:=by
 obtain⟨_,_,_,full,m⟩:=c;cases full with
 | true=>exact ae h.symm
 | false=>cases m with
  | zero=>rfl
  | succ m=>exact ae h.symm
structure Ch.OK(F:FD)(c:Ch):Prop where
 pl:c.ps=[0]∨(F.two=true/\(c.ps=[1]∨c.ps=[0,1]))
 bd:(c.st=0/\c.en=0)∨(1<=c.st/\c.st<=c.en/\c.en<=3/\c.ps.length=1)
 m2:c.m<=2
def Ch.cov(c:Ch)(p k:Nat):Prop:=p∈c.ps/\c.st<=k/\k<=c.en
def cell(Lv:List (List Int))(p k:Nat):Int:=(Lv.getD p []).getD k 0
structure Dx(F:FD)(Lv:List (List Int))(cs:List Ch):Prop where
 len:Lv.length=F.comps.length
 row:∀p,p<Lv.length->(Lv.getD p []).length=4
 ok:∀c∈cs,c.OK F
 lv:∀c∈cs,∀p k,c.cov p k->cell Lv p k=c.lv
 dis:cs.Pairwise fun c d=>∀p k,c.cov p k->¬d.cov p k
 rest:∀p k,cell Lv p k≠0->∃c∈cs,c.cov p k
theorem kC{α:Type}{z:α}{x:α}{xs:List α}{i j:Nat}:(xs.set i x).getD j z=if i=j/\i<xs.length then x else xs.getD j z:=by
 refine er OG ?_;refine er Ss (er OG ?_);by_cases h:i=j
 ·subst h;refine er (if_pos rfl) ?_;by_cases l:i<xs.length
  ·refine er (if_pos l) (er (if_pos ⟨rfl,l⟩) ?_);rfl
  ·refine er (if_neg l) ?_;refine er (if_neg fun z=>l z.2) (er (Pp (QE.mp l)) ?_);rfl
 ·refine er (if_neg h) (er (if_neg fun z=>h z.1) ?_);rfl
theorem xm{low:Nat}:∀ {m a:Nat} {row:List Int} {k:Nat},(xp low row a m).getD k 0=if a<=k/\k<a+m/\k<row.length then (low:Int) else row.getD k 0:=by
 intro m a row k;induction m generalizing a row with
 | zero=>exact(if_neg fun x=>SH x.1 x.2.1).symm
 | succ m ih_=>
  refine Eq.trans (ih_) ?_;refine er OW ?_;by_cases h1:a+1<=k/\k<a+1+m/\k<row.length
  ·exact(if_pos h1).trans (if_pos (Gm h1.1 h1.2.2 h1.2.1)).symm
  ·refine(if_neg h1).trans (kC.trans ?_);by_cases h2:a=k/\a<row.length
   ·exact(if_pos h2).trans (if_pos (Kf h2.2 h2.1)).symm
   ·exact(if_neg h2).trans (if_neg fun x=>(Nat.eq_or_lt_of_le x.1).elim (fun e=>h2 ⟨e,e▸x.2.2⟩) fun l=>h1 (bT l (P7 a m▸x.2.1) x.2.2)).symm
theorem om{row:List Int}{k:Nat}(h:row.length=4)(he:sc.end_<=3):(dk sc row).getD k 0=if sc.start<=k/\k<=sc.end_ then (sc.low:Int) else row.getD k 0:=by
 refine er xm (er h ?_);by_cases h1:sc.start<=k/\k<=sc.end_
 ·refine er (if_pos h1) (er (if_pos (Gl h1.2 h1.1 he)) ?_);rfl
 ·refine er (if_neg h1) (er (if_neg (Ki h1)) ?_);rfl
def o8(Lv:List (List Int)):Prop:=∀p,p<Lv.length->(Lv.getD p []).length=4
theorem o8.set{Lv:List (List Int)}{p:Nat}{row:List Int}(h:o8 Lv)(hr:row.length=4):o8 (Lv.set p row):=fun q hq=>by
 refine er kC ?_;split
 ·exact hr
 ·exact h q (by simpa using hq)
theorem jx{row:List Int}:(dk sc row).length=row.length:=xl
theorem oq:∀ {ps:List Nat} {Lv:List (List Int)},o8 Lv->(∀p∈ps,p<Lv.length)->o8 (bX sc Lv ps):=by
 intro ps Lv;induction ps generalizing Lv with
 | nil=>
  intro h _;exact h
 | cons p ps ih_=>
  intro h hp;exact ih_ (h.set (by exact er jx (h p (hp p (.head _))))) fun q hq=>by exact er OW (hp q (.tail _ hq))
theorem ot(he:sc.end_<=3){q k:Nat}:∀ {ps:List Nat} {Lv:List (List Int)},o8 Lv->(∀p∈ps,p<Lv.length)->cell (bX sc Lv ps) q k=if q∈ps/\sc.start<=k/\k<=sc.end_ then (sc.low:Int) else cell Lv q k:=by
 intro ps Lv;induction ps generalizing Lv with
 | nil=>
  intro _ _;refine er (if_neg (fun h=>nomatch h.1)) ?_;rfl
 | cons p ps ih_=>
  intro h hp;haveI pl:=hp p (.head _);refine er (ih_ (h.set (by exact er jx (h p pl))) fun q hq=>by exact er OW (hp q (.tail _ hq))) ?_;by_cases h1:q∈ps/\sc.start<=k/\k<=sc.end_
  ·refine er (if_pos h1) (er (if_pos ⟨.tail _ h1.1,h1.2⟩) ?_);rfl
  ·refine er (if_neg h1) ?_;unfold cell;refine er kC ?_;by_cases h2:p=q
   ·refine el h2 ?_;refine er (if_pos ⟨rfl,pl⟩) (er (om (h p pl) he) ?_);by_cases h3:sc.start<=k/\k<=sc.end_
    ·refine er (if_pos h3) (er (if_pos ⟨.head _,h3⟩) ?_);rfl
    ·refine er (if_neg h3) (er (if_neg fun z=>h3 z.2) ?_);rfl
   ·refine er (if_neg fun z=>h2 z.1) (er (if_neg fun z=>(OY.mp z.1).elim (fun e=>h2 e.symm) fun e=>h1 ⟨e,z.2⟩) ?_);rfl
theorem sW:∀ {ps:List Nat} {Lv:List (List Int)},ps.Nodup->(∀p∈ps,p<Lv.length/\kW sc (Lv.getD p []))->fu sc Lv ps:=by
 intro ps Lv;induction ps generalizing Lv with
 | nil=>
  intro _ _;exact trivial
 | cons p ps ih_=>
  intro nd h;haveI nd:=Pu.mp nd;refine bT ((h p (.head _)).1) ((h p (.head _)).2) (ih_ nd.2 fun q hq=>?_);haveI:=h q (.tail _ hq);refine er kC (er (if_neg (fun z:p=q/\p<Lv.length=>nd.1 (z.1▸hq))) ?_);exact er OW this
theorem Ch.OK.lt{c:Ch}(o:c.OK F):∀p∈c.ps,p<F.comps.length:=by
 intro p hp;unfold FD.comps;rcases o.pl with h | ⟨t,h | h⟩<;>rw [h] at hp<;>simp at hp
 ·refine er hp ?_;split<;>exact SF _
 ·refine er hp ?_;exact er (if_pos t) (PR 1)
 ·refine er (if_pos t) ?_;refine(?_:p<2);lia
theorem Ch.OK.nodup{c:Ch}(o:c.OK F):c.ps.Nodup:=by
 rcases o.pl with h | ⟨t,h | h⟩<;>refine er h ?_<;>decide
theorem Ch.OK.en3{c:Ch}(o:c.OK F):c.en<=3:=by rcases o.bd with h | h<;>lia
theorem Hy:∀m≤2,∀full:Bool,(full||decide (m≠0))=true->(if full then m else m - 1)<=2/\((if full then 0 else m)=0∨(if full then 0 else m)=(if full then m else m - 1)+1):=by decide
theorem Ch.OK.hd{c:Ch}(o:c.OK F)(l:c.live=true):c.hd.OK F:=
 ba (Hy _ o.m2 _ l) fun a b=>⟨o.pl,o.bd,a,b⟩
theorem Ch.OK.next{c:Ch}(o:c.OK F):c.next.OK F:=⟨o.pl,o.bd,by have:=o.m2;refine(?_:(if c.full=true then c.m else c.m - 1)<=2);split<;>omega⟩
theorem Dx.step{Lv:List (List Int)}{cs:List Ch}{a:Nat}{c:Ch}(i:Dx F Lv cs)(ha:cs[a]? = some c)(l:c.live=true)(dc:0<c.st->∀p∈c.ps,cell Lv p 0≠-1) :
  fu c.hd Lv c.ps/\Dx F (bX c.hd Lv c.ps) (cs.set a c.next):=by
 refine jF fun _ kK=>?_;haveI hc:=OC ha;have o:=i.ok c hc;have ol:∀p∈c.ps,p<Lv.length:=fun p hp=>by exact er i.len (o.lt p hp)
 have hal:=(OH.mp ha).1;have hae:cs[a]=c:=(OH.mp ha).2;have ce:∀q k,cell (bX c.hd Lv c.ps) q k=if q∈c.ps/\c.st<=k/\k<=c.en then (c.next.lv) else cell Lv q k:=fun q k=>by
  refine er (ot o.en3 i.row ol) ?_;rfl
 haveI ceT:∀ {q k},c.cov q k->cell (bX c.hd Lv c.ps) q k=c.next.lv:=fun z=>by rw [ce];exact if_pos z
 have ceF:∀ {q k},¬c.cov q k->cell (bX c.hd Lv c.ps) q k=cell Lv q k:=fun z=>by rw [ce];exact if_neg z
 refine kK (sW o.nodup fun p hp=>⟨ol p hp,i.row p (ol p hp),fun h=>dc h p hp,fun k h1 h2=>?_⟩) ⟨by exact er kE i.len,oq i.row ol,fun d hd=>?_,fun d hd p k cv=>?_,?_,fun p k hk=>?_⟩
 ·haveI:=i.lv c hc p k (bT hp h1 h2);unfold cell at this;refine er this ?_;unfold Ch.lv Ch.hd;unfold Ch.live at l;cases hf:c.full with
  | true=>rfl
  | false=>rw [hf] at l;simp at l;simp [l]
 ·rcases QW hd with h | rfl
  ·exact i.ok d h
  ·exact o.next
 ·obtain⟨b,hb,he⟩:=Qc hd;rw [Q6] at he;by_cases e:a=b
  ·rw [if_pos e] at he;subst he;exact ceT cv
  ·replace he:=(if_neg e)▸he;haveI hb':b<cs.length:=by simpa using hb
   have hdm:=he▸Qq hb';have nc:¬c.cov p k:=by
    intro z;have dd:=Qs.mp i.dis;rcases QS e with h | h
    ·exact dd a b hal hb' h p k (hae▸z) (he▸cv)
    ·exact dd b a hb' hal h p k (he▸cv) (hae▸z)
   exact er (ceF nc) (i.lv d hdm p k cv)
 ·refine Qs.mpr ?_;intro x y hx hy hxy p k;have hx':x<cs.length:=by simpa using hx
  have hy':y<cs.length:=by simpa using hy
  have dd:=Qs.mp i.dis x y hx' hy' hxy p k;haveI cx:((cs.set a c.next)[x]).cov p k↔(cs[x]).cov p k:=by
   rw [Q6];by_cases e:a=x
   ·subst e;refine er (if_pos rfl) ?_;exact er hae .rfl
   ·refine er (if_neg e) ?_;rfl
  haveI cy:((cs.set a c.next)[y]).cov p k↔(cs[y]).cov p k:=by
   rw [Q6];by_cases e:a=y
   ·subst e;refine er (if_pos rfl) ?_;exact er hae .rfl
   ·refine er (if_neg e) ?_;rfl
  rewrite [cx];exact er (propext cy) dd
 ·by_cases h:c.cov p k
  ·exact bN c.next (List.mem_set hal _) h
  ·rw [ceF h] at hk;refine aZ (i.rest p k hk) fun d hd cv=>?_;obtain⟨b,hb,he⟩:=Qc hd;haveI nab:a≠b:=fun e=>h (by subst e;refine el hae ?_;exact er he cv);exact bN d (by refine List.mem_iff_getElem.mpr ?_;exact⟨b,by simpa using hb,by rewrite [Q6];exact er (if_neg nab) he⟩) cv
end
end
section
mutual #where
variable {F:FD} {sc:SD} {ss:List SD} {cs:List Ch} {c:Ch} {a:Nat}
theorem rk:∀ {ss:List SD} {Lv:List (List Int)},b8 Lv (ss++[sc])=bX sc (b8 Lv ss) sc.places:=by
 intro ss Lv;induction ss generalizing Lv with
 | nil=>
  exact rfl
 | cons s ss ih_=>
  exact ih_
theorem sU:∀ {ss:List SD} {Lv:List (List Int)},dj F Lv ss->sc.OK F->fu sc (b8 Lv ss) sc.places->dj F Lv (ss++[sc]):=by
 intro ss Lv;induction ss generalizing Lv with
 | nil=>
  intro _ o p;exact bT o p trivial
 | cons s ss ih_=>
  rintro⟨h1,h2,h3⟩ o p;exact bT h1 h2 (ih_ h3 o p)
structure qh(F:FD)(ss:List SD)(cs:List Ch):Prop where
 leg:dj F (eN F) ss
 inv:Dx F (b8 (eN F) ss) cs
def NF(cs:List Ch):Prop:=∀d∈cs,d.st=0->d.full=false
theorem NF.set{c:Ch}(h:NF cs):NF (cs.set a c.next):=fun d hd e=>by
 rcases QW hd with h1 | rfl
 ·exact h d h1 e
 ·rfl
theorem NF.filter(h:NF cs):NF (cs.filter Ch.live):=fun d hd=>h d ((PL.mp hd).1)
theorem Ch.lv_live{c:Ch}(h:c.lv≠0):c.live=true:=by
 unfold Ch.lv at h;unfold Ch.live;cases hf:c.full with
 | true=>rfl
 | false=>rw [hf] at h;haveI h':=h;simp;exact Gj h'
theorem Ch.live_lv{c:Ch}(h:c.live=true):c.lv≠0:=by
 unfold Ch.live at h;unfold Ch.lv;cases hf:c.full with
 | true=>exact(by decide:(-1)≠0)
 | false=>replace h:=hf▸h;simp at h;exact Mt h
theorem qh.step(s:qh F ss cs)(ha:cs[a]? = some c)(l:c.live=true)(dc:c.st=0∨NF cs):qh F (ss++[c.hd]) (cs.set a c.next):=by
 refine ba (s.inv.step ha l fun h0 p hp hm=>by
  rcases dc with e | nf
  ·lia
  ·refine aZ (s.inv.rest p 0 (by refine er hm ?_;decide)) fun d hd cv=>?_;haveI e:=s.inv.lv d hd p 0 cv;have hf:=nf d hd (Nat.le_zero.mp cv.2.1);rw [hm] at e;unfold Ch.lv at e;rw [hf] at e;haveI e':=e;exact Lk e') fun h1 h2=>?_
 exact⟨sU s.leg ((s.inv.ok c (OC ha)).hd l) h1,by exact er rk h2⟩
theorem qh.filter(s:qh F ss cs):qh F ss (cs.filter Ch.live):=⟨s.leg,s.inv.len,s.inv.row,fun d hd=>s.inv.ok d ((PL.mp hd).1),fun d hd=>s.inv.lv d ((PL.mp hd).1),s.inv.dis.filter _,fun p k h=>by
 refine aZ (s.inv.rest p k h) fun d hd cv=>(bN d (PL.mpr ⟨hd,Ch.lv_live (by exact el (s.inv.lv d hd p k cv) h)⟩) cv)⟩
theorem oW{Lv:List (List Int)}:e8 Lv=true↔∀p k,cell Lv p k=0:=by
 unfold e8 cell;refine er (propext O6) ?_;constructor
 ·intro h p k;by_cases hp:p<Lv.length
  ·haveI hr:=h (Lv.getD p []) (by refine er OG ?_;exact er (OD hp) (Qq hp));have hr:=O6.mp hr;by_cases hk:k<(Lv.getD p []).length
   ·haveI:=hr ((Lv.getD p []).getD k 0) (by refine er (OG (l:=Lv.getD p [])) ?_;exact er (OD hk) (Qq hk));exact of_decide_eq_true this
   ·refine er (OG) (er (Pp (DI hk)) ?_);rfl
  ·refine er (OG (l:=Lv)) (er (Pp (DI hp)) ?_);rfl
 ·intro h row hr;refine O6.mpr ?_;intro x hx;obtain⟨p,hp,e1⟩:=Qc hr;obtain⟨k,hk,e2⟩:=Qc hx;haveI:=h p k;rw [OG (l:=Lv),OD hp] at this;haveI g:(row.getD k 0)=0:=by exact el e1 this
  rw [OG,OD hk] at g;exact decide_eq_true (e2▸g)
theorem qh.complete(s:qh F ss []):e8 (b8 (eN F) ss)=true:=oW.mpr fun p k=>Decidable.byContradiction fun h=>by
 refine aZ (s.inv.rest p k h) fun d hd _=>nomatch hd
theorem qh.notyet(s:qh F ss cs)(hc:c∈cs)(l:c.live=true):e8 (b8 (eN F) ss)=false:=by
 rewrite [← Sz];refine er (propext oW) ?_;intro h;haveI o:=s.inv.ok c hc;obtain⟨p,hp⟩:∃p,p∈c.ps:=by rcases o.pl with e | ⟨_,e | e⟩<;>refine er e ?_<;>exact⟨_,.head _⟩
 haveI:=s.inv.lv c hc p c.st (bT hp (OF _) (by rcases o.bd with e | e<;>lia));rw [h] at this;exact Ch.live_lv l this.symm
def og(cs:List Ch):Nat:=(cs.map fun c=>c.sds.length).sum
theorem sv:∀ {cs:List Ch},og (cs.filter Ch.live)=og cs:=by
 intro cs;induction cs with
 | nil=>
  exact rfl
 | cons c cs ih_=>
  refine er RL ?_;unfold og at *;haveI:=ih_;cases h:c.live with
  | true=>refine er (if_pos rfl) (er O1 ?_);refine er P9 (er O1 ?_);refine er P9 (er this ?_);rfl
  | false=>refine er (if_neg (by decide)) ?_;refine er O1 (er P9 ?_);refine er (Ch.sds_nil h) (er this ?_);simp
theorem zM{cs:List Ch}{a:Nat}{c:Ch}(h:cs[a]? = some c)(l:c.live=true):og (cs.set a c.next)+1=og cs:=by
 unfold og;induction cs generalizing a with
 | nil=>exact aJ h
 | cons d cs ih=>cases a with
  | zero=>
   refine er List.set_cons_zero ?_;refine er O1 (er P9 ?_);refine er (Option.some.inj h) (er O1 ?_);refine er P9 (er (Ch.sds_eq l) ?_);exact er OQ Ms
  | succ a=>
   refine er List.set_cons_succ ?_;refine er O1 (er P9 ?_);rewrite [O1,P9,PY];refine er (ih h) ?_;rfl
theorem qh.firsts{acs:List Ch}:∀(dcs done:List Ch) (ss:List SD),qh F ss (done++dcs++acs)->(∀c∈dcs,c.full=true/\c.st=0)->qh F (ss++dcs.map Ch.hd) (done++dcs.map Ch.next++acs):=by
 intro m_;induction m_ with
 | nil=>
  intro done ss s _;simpa using s
 | cons d dcs ih_=>
  intro done ss s h;haveI hd:=h d (.head _);haveI l:d.live=true:=by unfold Ch.live;refine er hd.1 ?_;rfl
  haveI st:=s.step (a:=done.length) (by simp) l (.inl hd.2);haveI:=ih_ (done++[d.next]) (ss++[d.hd]) (by simpa using st) fun c hc=>h c (.tail _ hc);simpa using this
def yI:Nat->List Nat->List Ch
 | _,[]=>[]
 | b,t::ts=>⟨[b],0,0,true,t⟩::yI (b+1) ts
structure Dr where
 e:Nat
 t1:Nat
 t2:Nat
structure Dr.OK(d:Dr):Prop where
 e:1<=d.e/\d.e<=3
 t:d.t1<=2/\d.t2<=2
def dP(p:Nat)(d:Dr):List Ch:=⟨[p],1,d.e,true,d.t1⟩::if d.e+1<=3 then [⟨[p],d.e+1,3,true,d.t2⟩] else []
def dM:Nat->List Dr->List Ch
 | _,[]=>[]
 | b,d::ds=>dP b d++dM (b+1) ds
theorem Dx.init(ok:∀c∈cs,c.OK F/\c.full=true)(dis:cs.Pairwise fun c d=>∀p k,c.cov p k->¬d.cov p k)(cover:∀p k,p<F.comps.length->k<4->∃c∈cs,c.cov p k):qh F [] cs:=by
 haveI g:∀p,p<F.comps.length->(eN F).getD p []=wq:=fun p h=>by
  refine er OG ?_;refine er O5 (er (OD h) ?_);rfl
 have g0:∀p k,cell (eN F) p k=if p<F.comps.length/\k<4 then -1 else 0:=fun p k=>by
  unfold cell;by_cases h:p<F.comps.length
  ·refine er (g p h) ?_;by_cases hk:k<4
   ·exact er (if_pos ⟨h,hk⟩) ((by decide:∀k<4,wq.getD k 0 = -1) k hk)
   ·refine er (if_neg (fun z=>hk z.2)) ?_;refine er OG (er (Pp (by unfold wq;simp;exact Lc hk)) ?_);rfl
  ·refine er (if_neg (fun z=>h z.1)) ?_;refine er (OG (l:=eN F)) (er (Pp (by unfold eN;rw [OJ];exact DI h)) ?_);rfl
 refine⟨trivial,OJ ..,fun p hp=>?_,fun c hc=>(ok c hc).1,fun c hc p k cv=>?_,dis,fun p k h=>?_⟩
 ·refine(?_:((eN F).getD p []).length=4);refine er (g p (by exact(OJ ..)▸hp)) ?_;rfl
 ·refine(?_:cell (eN F) p k=c.lv);rewrite [g0];haveI o:=(ok c hc).1;refine er (if_pos ⟨o.lt p cv.1,by haveI:=o.en3;haveI:=cv.2.2;exact Gi this ‹_›⟩) ?_;unfold Ch.lv;refine er ((ok c hc).2) ?_;rfl
 ·haveI h':cell (eN F) p k≠0:=h;rw [g0] at h';by_cases z:p<F.comps.length/\k<4
  ·exact cover p k z.1 z.2
  ·rw [if_neg z] at h';exact absurd rfl h'
theorem ty{p q k st en m:Nat}{b:Bool}:(Ch.mk [q] st en b m).cov p k↔p=q/\st<=k/\k<=en:=by
 unfold Ch.cov;simp
theorem MX{p k st en m:Nat}{b:Bool}:(Ch.mk [0,1] st en b m).cov p k↔(p=0∨p=1)/\st<=k/\k<=en:=by
 unfold Ch.cov;simp
end
end
section
mutual #where
variable {F:FD} {sc:SD} {ss:List SD} {cs:List Ch} {c:Ch} {a:Nat}
def rE(F:FD)(tog:Bool)(ts:List Nat):List Ch:=if tog then [⟨OT F.comps.length,0,0,true,ts.getD 0 0⟩] else yI 0 ts
structure BY(F:FD)(tog:Bool)(ts:List Nat)(ds:List Dr):Prop where
 tl:ts.length=if tog then 1 else F.comps.length
 t2:∀t∈ts,t<=2
 dl:ds.length=F.comps.length
 d2:∀d∈ds,d.OK
theorem p7{p:Nat}{d:Dr}:(dP p d).Pairwise fun c d=>∀p k,c.cov p k->¬d.cov p k:=by
 unfold dP;split
 ·exact Sn.mpr fun p k h h2=>by rw [ty] at h h2;exact Gh h2.2.1 h.2.2
 ·exact Qd _ _
theorem gI{p:Nat}{d:Dr}(h:c∈dP p d):c.ps=[p]/\1<=c.st:=by
 rcases OY.mp h with rfl | h
 ·exact⟨rfl,OF 1⟩
 ·split at h
  ·exact er (OZ.mp h) ⟨rfl,PW _ _⟩
  ·exact nomatch h
theorem p8{p:Nat}{d:Dr}(hd:d.OK)(hp:p=0∨(F.two=true/\p=1))(h:c∈dP p d):c.OK F/\c.full=true:=by
 haveI:=hd.e;haveI:=hd.t;haveI pl:[p]=[0]∨(F.two=true/\([p]=[1]∨[p]=[0,1])):=hp.elim (fun e=>.inl (by refine er e ?_;rfl)) fun e=>.inr ⟨e.1,.inl (by refine er e.2 ?_;rfl)⟩;rcases OY.mp h with rfl | h
 ·exact⟨⟨pl,.inr (oK (OF 1) hd.e.1 hd.e.2 rfl),hd.t.1⟩,rfl⟩
 ·split at h
  ·exact er (OZ.mp h) ⟨⟨pl,.inr (oK (PW _ _) (by assumption) (OF 3) rfl),hd.t.2⟩,rfl⟩
  ·exact nomatch h
theorem j3{p k:Nat}{d:Dr}(hd:d.OK)(h:1<=k/\k<4):∃c∈dP p d,c.cov p k:=by
 unfold dP;by_cases hk:k<=d.e
 ·exact bN _ (.head _) (ty.mpr (bT rfl h.1 hk))
 ·refine er (if_pos (Gg h.2 hk)) ?_;refine ma fun _ kK=>kK _ (.tail _ (.head _)) (ty.mpr (bT rfl (Nat.not_le.mp ‹_›) (Gf h.2)))
theorem sM{xs ys:List Ch}(h1:xs.Pairwise fun c d=>∀p k,c.cov p k->¬d.cov p k)(h2:ys.Pairwise fun c d=>∀p k,c.cov p k->¬d.cov p k)(h:∀x∈xs,∀y∈ys,(∀p∈x.ps,p∉y.ps)∨(x.en<y.st)):(xs++ys).Pairwise fun c d=>∀p k,c.cov p k->¬d.cov p k:=
 Rm.mpr (bT h1 h2 (fun x hx y hy p k a b=>by
  rcases h x hx y hy with z | z
  ·exact z p a.1 b.1
  ·haveI:=a.2.2;haveI:=b.2.1;exact Ii z this ‹_›))
theorem tK:∀ {ds:List Dr} {b:Nat},(∀d∈ds,d.OK)->og (dM b ds)<=6*ds.length/\(0<ds.length->∃c∈dM b ds,c.live=true):=by
 intro ds b;induction ds generalizing b with
 | nil=>
  intro _;exact⟨OF _,fun h=>absurd h (by decide)⟩
 | cons d ds ih_=>
  intro h;haveI i:=ih_ (b:=b+1) fun x hx=>h x (.tail _ hx);haveI ht:=(h d (.head _)).t;refine⟨?_,fun _=>(bN _ (.head _) rfl)⟩;haveI fl:∀ {ps st en m},m<=2->(Ch.mk ps st en true m).sds.length<=3:=fun {ps st en m} hm=>Oz (t5 _) (Qv hm);haveI a1:=fl (ps:=[b]) (st:=1) (en:=d.e) ht.1;haveI a2:=fl (ps:=[b]) (st:=d.e+1) (en:=3) ht.2;haveI e:og (dM b (d::ds))=og (dP b d)+og (dM (b+1) ds):=by
   refine(?_:og (dP b d++dM (b+1) ds)=_);unfold og;refine er O2 (er List.sum_append ?_);rfl
  haveI e2:og (dP b d)<=6:=by
   unfold dP og;split
   ·exact Ge a2 a1
   ·exact Gc a1
  refine er e (er OQ ?_);haveI:=i.1;exact Kj e2 this
theorem xr{tog:Bool}{ts:List Nat}{ds:List Dr}(dr:BY F tog ts ds):qh F [] (rE F tog ts++dM 0 ds)/\(∀c∈rE F tog ts,c.full=true/\c.st=0):=by
 haveI tl:=dr.tl;haveI dl:=dr.dl;have cl:F.comps.length=if F.two then 2 else 1:=by unfold FD.comps;split<;>rfl
 cases h2:F.two with
 | false=>
  rw [h2] at cl;have cl1:=cl;rw [cl1] at tl dl
  match ts,ds,tl,dl,dr with
  | [t],[d],_,_,dr=>
   have hd:=dr.d2 d (.head _);have ht:=dr.t2 t (.head _);haveI e:rE F tog [t]=[⟨[0],0,0,true,t⟩]:=by
    unfold rE;refine er cl1 ?_;cases tog<;>rfl
   refine er e ?_;haveI e2:dM 0 [d]=dP 0 d:=OO _;refine er e2 ?_;refine jF fun _ kK=>kK (Dx.init (fun c hc=>?_) (sM (Qd _ _) p7 fun x hx y hy=>?_) fun p k hp hk=>?_) fun c hc=>by exact er (OZ.mp hc) ⟨rfl,rfl⟩
   ·rcases O9.mp hc with h | h
    ·exact er (OZ.mp h) ⟨⟨.inl rfl,.inl ⟨rfl,rfl⟩,ht⟩,rfl⟩
    ·exact p8 hd (.inl rfl) h
   ·exact er (OZ.mp hx) (.inr (gI hy).2)
   ·have hp0:p=0:=by lia
    subst hp0;by_cases hk0:k=0
    ·subst hk0;exact bN _ (Ro _ (.head _)) (ty.mpr ⟨rfl,OF _,OF _⟩)
    ·refine aZ (j3 hd ⟨Ry ‹_›,hk⟩) fun c hc cv=>bN c (QB _ hc) cv
  | [_],[],_,h,_=>exact Nat.noConfusion h
  | [_],_::_::_,_,h,_=>exact nomatch h
  | [],_,h,_,_=>cases tog<;>exact Nat.noConfusion h
  | _::_::_,_,h,_,_=>cases tog<;>exact nomatch h
 | true=>
  replace cl:=h2▸cl;haveI cl2:F.comps.length=2:=cl;rw [cl2] at tl dl
  match ds,dl,dr with
  | [d,d'],_,dr=>
   have hd:=dr.d2 d (.head _);have hd':=dr.d2 d' (.tail _ (.head _));haveI e2:dM 0 [d,d']=dP 0 d++dP 1 d':=congrArg (dP 0 d++·) (OO _);refine er e2 ?_;haveI apw:(dP 0 d++dP 1 d').Pairwise fun c d=>∀p k,c.cov p k->¬d.cov p k:=sM p7 p7 fun x hx y hy=>.inl (by refine er ((gI hx).1) (er ((gI hy).1) ?_);decide);haveI aok:∀c∈dP 0 d++dP 1 d',c.OK F/\c.full=true:=fun c hc=>(O9.mp hc).elim (p8 hd (.inl rfl)) (p8 hd' (.inr ⟨h2,rfl⟩));haveI ast:∀c∈dP 0 d++dP 1 d',1<=c.st:=fun c hc=>(O9.mp hc).elim (fun h=>(gI h).2) fun h=>(gI h).2;haveI acv:∀p k,p<2->1<=k/\k<4->∃c∈dP 0 d++dP 1 d',c.cov p k:=fun p k hp hk=>by
    have:p=0∨p=1:=by lia
    rcases this with rfl | rfl
    ·refine aZ (j3 hd hk) fun c hc cv=>bN c (Ro _ hc) cv
    ·refine aZ (j3 hd' hk) fun c hc cv=>bN c (QB _ hc) cv
   have go:∀dcs:List Ch,(∀c∈dcs,c.OK F/\c.full=true/\c.st=0/\c.en=0)->(dcs.Pairwise fun c d=>∀p k,c.cov p k->¬d.cov p k)->(∀p,p<2->∃c∈dcs,c.cov p 0)->qh F [] (dcs++(dP 0 d++dP 1 d'))/\(∀c∈dcs,c.full=true/\c.st=0):=fun dcs o pw cov=>⟨Dx.init (fun c hc=>(O9.mp hc).elim (fun h=>⟨(o c h).1,(o c h).2.1⟩) (aok c)) (sM pw apw fun x hx y hy=>.inr (by haveI:=(o x hx).2.2.2;haveI:=ast y hy;lia)) fun p k hp hk=>by
     by_cases hk0:k=0
     ·refine er hk0 ?_;refine aZ (cov p (by lia)) fun c hc cv=>bN c (Ro _ hc) cv
     ·refine aZ (acv p k (by lia) ⟨Ry ‹_›,hk⟩) fun c hc cv=>(bN c (QB _ hc) cv),fun c hc=>⟨(o c hc).2.1,(o c hc).2.2.1⟩⟩
   cases tog with
   | true=>
    match ts,tl,dr with
    | [t],_,dr=>
     haveI ht:=dr.t2 t (.head _);haveI e:rE F true [t]=[⟨[0,1],0,0,true,t⟩]:=by unfold rE;refine er cl2 ?_;rfl
     refine er e ?_;refine go _ (fun c hc=>?_) (Qd _ _) fun p hp=>bN _ (.head _) (MX.mpr ⟨by lia,OF _,OF _⟩);exact er (OZ.mp hc) (oK ⟨.inr ⟨h2,.inr rfl⟩,.inl ⟨rfl,rfl⟩,ht⟩ rfl rfl rfl)
    | [],h,_=>exact Nat.noConfusion h
    | _::_::_,h,_=>exact nomatch h
   | false=>
    match ts,tl,dr with
    | [t,t'],_,dr=>
     have ht:=dr.t2 t (.head _);have ht':=dr.t2 t' (.tail _ (.head _));have e:rE F false [t,t']=[⟨[0],0,0,true,t⟩,⟨[1],0,0,true,t'⟩]:=rfl;refine er e ?_;refine go _ (fun c hc=>?_) ?_ fun p hp=>?_
     ·rcases OY.mp hc with rfl | h
      ·exact oK ⟨.inl rfl,.inl ⟨rfl,rfl⟩,ht⟩ rfl rfl rfl
      ·exact er (OZ.mp h) (oK ⟨.inr ⟨h2,.inl rfl⟩,.inl ⟨rfl,rfl⟩,ht'⟩ rfl rfl rfl)
     ·exact Sn.mpr fun p k h h2=>by rw [ty] at h h2;lia
     ·haveI:p=0∨p=1:=by lia
      rcases this with rfl | rfl
      ·exact bN _ (.head _) (ty.mpr ⟨rfl,OF _,OF _⟩)
      ·exact bN _ (.tail _ (.head _)) (ty.mpr ⟨rfl,OF _,OF _⟩)
    | [],h,_=>exact Nat.noConfusion h
    | [_],h,_=>exact nomatch h
    | _::_::_::_,h,_=>exact nomatch h
  | [],h,_=>exact Nat.noConfusion h
  | [_],h,_=>exact nomatch h
  | _::_::_::_,h,_=>exact nomatch h
structure HZ(F:FD)(ss:List SD):Prop where
 leg:dj F (eN F) ss
 full:e8 (b8 (eN F) ss)=true
 less:e8 (b8 (eN F) ss.dropLast)=false
 pos:0<ss.length
 len:ss.length<=40
end
end
section
mutual #where
variable {S:be} {n:Nat} {H H' H1 H2 E E':List O} {i:Nat} {l l1:aW} {v:V} {c:C} {R:Nat->Prop} {F:FD} {f s:Nat} {sc:SD}
structure ja(R:Nat->Prop)(H:List O)(u:Nat)(c:Ch):Prop where
 r:R u
 ex:∃ks:List Nat,H[u]? = some (.list (ks.map .obj))/\aR R H ks c.sds
theorem ja.keep{G:Nat->O->Prop}{u:Nat}{c:Ch}(a:ja R H u c)(k:Kp G H H')(g:∀i o,R i->G i o):ja R H' u c:=by
 obtain⟨r,ks,h1,h2⟩:=a;exact⟨r,ks,k.get h1 (g _ _ r),h2.keep k fun i o ri _=>g i o ri⟩
theorem aR.region{R':Nat->Prop}{ks:List Nat}{ss:List SD}(a:aR R H ks ss)(h:∀i,i<H.length->R i->R' i):aR R' H ks ss:=F2.imp (fun _ _ q=>q.region h) a
theorem ja.region{R':Nat->Prop}{u:Nat}{c:Ch}(a:ja R H u c)(h:∀i,i<H.length->R i->R' i):ja R' H u c:=by
 obtain⟨r,ks,h1,h2⟩:=a;exact⟨h _ (aA h1) r,ks,h1,h2.region h⟩
theorem AA{α β:Type}{R:α->β->Prop}{x:α}{y:β}{xs:List α}{ys:List β}{i:Nat}(r:F2 R xs ys)(q:R x y):F2 R (xs.set i x) (ys.set i y):=by
 induction r generalizing i with
 | nil=>exact .nil
 | cons a r ih=>cases i with
  | zero=>exact .cons q r
  | succ i=>exact .cons a ih
abbrev MK:T:=.cmp (.loc 0) [.NotEq] (.cons (.list .nil) .nil)
theorem sQ{e:C}{u:Nat}{xs:List V}(he:EV S n e l H (.obj u) H)(h:H[u]? = some (.list xs)):TV S n (.cmp e [.NotEq] (.cons (.list .nil) .nil)) l H (!xs.isEmpty) (H++[.list []]):=by
 cases xs with
 | nil=>exact ag he (EV.list .nil) (De (ah h) aj rfl rfl rfl)
 | cons x xs=>exact ag he (EV.list .nil) (HA (ah h) aj (by simp))
theorem Ho{α β:Type}{P:α->β->Prop}{xs:List α}{ys:List β}(h:F2 P xs ys):xs.isEmpty=ys.isEmpty:=by
 cases h<;>rfl
theorem yX{ks:List Nat}{c:Ch}(h:aR R H ks c.sds):(!(ks.map V.obj).isEmpty)=c.live:=by
 refine(congrArg Bool.not (List.isEmpty_map.trans (Ho h))).trans ?_;cases hl:c.live with
 | true=>exact congrArg (fun l=>!S6 l) (Ch.sds_eq hl)
 | false=>exact congrArg (fun l=>!S6 l) (Ch.sds_nil hl)
theorem AQ{acc ch:Nat}{H0:List O}{o:O}(h0:H0[ch]? = some o)(hca:ch≠acc)(hR:∀i,R i->i≠acc):∀(us:List Nat) (cs:List Ch) (done:List Nat) (cd:List Ch) (H:List O),F2 (fun u c=>ja R H u c) us cs->F2 (fun u c=>ja R H u c) done cd->H[acc]? = some (.list (done.map .obj))->H[ch]? = some o->done.length+us.length<=1000->∀(kP:Prop),(∀H' us',Ia S n (.loc 0) MK [] l (aG (.obj ch) H0) acc (us.map .obj) H H'->H'[acc]? = some (.list (us'.map .obj))->F2 (fun u c=>ja R H' u c) us' (cd++cs.filter Ch.live)->Kp (fun i _=>i≠acc) H H'->kP)->kP:=by
 intro m_;induction m_ with
 | nil=>
  intro cs done cd H hu hd ha hh _;intro _ kK;cases hu;exact kK H done (fun Q q=>⟨hh.trans h0.symm,q⟩) ha (by simpa using hd) .refl
 | cons u us ih_=>
  intro cs done cd H hu hd ha hh hl;intro _ kK;cases hu with
  | @cons _ c _ cs a hu=>
  have P1:cg H (H++[O.list []]):=.app .refl;obtain⟨ru,ks,u1,u2⟩:=id a;haveI tst:TV S n MK (bx l [] (some (.obj u))) H c.live (H++[.list []]):=(sQ (ad rfl) u1).eq (yX u2);have ha1:=P1.at_ _ _ ha trivial;simp only [OQ] at hl;cases hv:c.live with
  | true=>
   rw [hv] at tst;have K:Kp (fun i _=>i≠acc) H ((H++[O.list []]).set acc (.list ((done++[u]).map .obj))):=Kp.set P1.pre fun _ _ z=>z rfl;refine ih_ cs (done++[u]) (cd++[c]) _ (F2.imp (fun _ _ h=>h.keep K fun i _ ri=>hR i ri) hu) (ft (F2.imp (fun _ _ h=>h.keep K fun i _ ri=>hR i ri) hd) (a.keep K fun i _ ri=>hR i ri)) (aM (aA ha1)) (K.get hh hca) (by simp;exact Mr hl) _ fun H' us' f' q1 q2 q3=>kK H' us' (fun Q q=>⟨hh.trans h0.symm,tst _ ?_⟩) q1 ?_ (K.trans q3)
   ·refine(if_pos rfl).mpr ?_;refine ad rfl _ ?_;refine jb _ ha1 (by rw [OJ];exact Mq hl) ?_;haveI:=f' Q q;replace this:=O2▸this;exact this
   ·rewrite [RL,hv];refine er (if_pos rfl) ?_;simpa using q2
  | false=>
   rw [hv] at tst;have K:Kp (fun i _=>i≠acc) H (H++[O.list []]):=P1.pre;refine ih_ cs done cd _ (F2.imp (fun _ _ h=>h.keep K fun i _ ri=>hR i ri) hu) (F2.imp (fun _ _ h=>h.keep K fun i _ ri=>hR i ri) hd) ha1 (K.get hh hca) (O0 ‹_›) _ fun H' us' f' q1 q2 q3=>kK H' us' (fun Q q=>⟨hh.trans h0.symm,tst _ ?_⟩) q1 ?_ (K.trans q3)
   ·refine(if_neg (by decide)).mpr ?_;exact f' Q q
   ·rewrite [RL,hv];exact er (if_neg (by decide)) q2
theorem lY{ch:Nat}{us:List Nat}{cs:List Ch}(hl:dE l 5=some (.obj ch))(h1:H[ch]? = some (.list (us.map .obj)))(h2:F2 (fun u c=>ja R H u c) us cs)(hb:us.length<=1000):∃H' us',(∀P Q,bH S n P (l.set 5 (some (.obj H.length))) H' Q->bH S n (.cons (.compIf 5 [] (.loc 0) MK (.loc 5)) P) l H Q)/\
  H'[H.length]? = some (.list (us'.map .obj))/\F2 (fun u c=>ja (fun i=>R i/\i<H.length) H' u c) us' (cs.filter Ch.live)/\cg H H':=by
 refine BU fun _ kK=>?_;haveI K0:cg H (H++[O.list []]):=.app .refl;refine AQ h1 (z1 (aA h1)) (fun i h=>by haveI:=h.2;exact z1 this) us cs [] [] _ (F2.imp (fun _ _ h=>(h.region fun i hi ri=>⟨ri,hi⟩).keep K0 fun _ _ _=>trivial) h2) .nil aj (K0.at_ _ _ h1 trivial) (by simpa using hb) _ fun H' us' f' q1 q2 q3=>kK H' us' (fun P Q q=>zg (ad hl) (aU h1) f' q) q1 q2 ⟨Oz K0.len q3.len,fun i o e _=>q3.at_ i o (K0.at_ i o e trivial) (z1 (aA e))⟩
end
end
section
mutual #where
variable {S:be} {n:Nat} {H H' H1 H2 E E':List O} {i:Nat} {l l1:aW} {v:V} {c:C} {R:Nat->Prop} {F:FD} {f s:Nat} {sc:SD}
abbrev NE:P:=eM.body.get 7
theorem wP:∀ {cs:List Ch},og cs=0->(∀c∈cs,c.live=true)->cs=[]:=by
 intro m_;induction m_ with
 | nil=>
  intro _ _;exact rfl
 | cons c cs ih_=>
  intro h hl;unfold og at h;rw [O1,P9,Ch.sds_eq (hl c (.head _)),OQ] at h;exact Gb h
theorem zN{cs:List Ch}{c:Ch}(h:c∈cs):c.sds.length<=og cs:=by
 unfold og;induction cs with
 | nil=>exact nomatch h
 | cons d cs ih=>
  refine er O1 ?_;rcases OY.mp h with e | h
  refine er P9 ?_
  ·exact er e (OL _ _)
  ·exact Oz (ih h) (PW _ _)
abbrev DP(s ch fo:Nat)(many:V)(x2 x3 x6 x7 x8 x9 x10 x11 x13:Option V):aW:=[some (.obj s),some many,x2,x3,some (.obj fo),some (.obj ch),x6,x7,x8,x9,x10,x11,some (.obj fo),x13]
theorem zI(ok:OKl S){L fo:Nat}{many:V}{x2 x3 x6 x7 x8 x9 x10 x11:Option V}(hs:s<L)(hfo:L<=fo):∀(k:Nat) (cs:List Ch) (ss:List SD) (us ks:List Nat) (H:List O) (ch:Nat) (x13:Option V),og cs=k->qh F ss cs->NF cs->(∀c∈cs,c.live=true)->(cs≠[]∨(0<ss.length/\e8 (b8 (eN F) ss.dropLast)=false))->cR H s->H[fo]? = some (.list (ks.map .obj))->H[ch]? = some (.list (us.map .obj))->aR (fun i=>L<=i/\i≠fo/\i≠ch) H ks ss->F2 (fun u c=>ja (fun i=>L<=i/\i≠fo/\i≠ch) H u c) us cs->L<=ch/\ch≠fo->ss.length+k<=40->us.length<=20->L<=H.length->∀(kP:Prop),(∀H' l' ks' ss',WH S 3 NE.wt NE.b1 k (DP s ch fo many x2 x3 x6 x7 x8 x9 x10 x11 x13) H l' H'->dE l' 12=some (.obj fo)->H'[fo]? = some (.list (ks'.map .obj))->aR (fun i=>L<=i/\i≠fo) H' ks' ss'->HZ F ss'->cR H' s->Kp (fun i _=>i<L/\i≠s) H H'->kP)->kP:=by
 intro m_;induction m_ with
 | zero=>
  intro cs ss us ks H ch x13 ht sr nf lv hne src hf hc hk hu hch hb hul hL;intro _ kK;haveI e:=wP ht lv;subst e;cases hu;haveI P:cg H (H++[O.list []]):=.app .refl;haveI hz:=hne.resolve_left (fun z=>z rfl);exact kK _ _ ks ss (.stop (sQ (ad rfl) hc)) rfl (P.at_ _ _ hf trivial) ((aR.keep hk P fun _ _ _ _=>trivial).region fun i _ h=>⟨h.1,h.2.1⟩) ⟨sr.leg,sr.complete,hz.2,hz.1,by assumption⟩ (src.keep P fun _=>trivial) P.pre
 | succ k ih_=>
  intro cs ss us ks H ch x13 ht sr nf lv hne src hf hc hk hu hch hb hul hL;have clen:=hu.length;have hcs:0<cs.length:=by
   cases cs with
   | nil=>exact Nat.noConfusion ht
   | cons c cs=>exact SF _
  intro _ kK;have hus:(!(us.map V.obj).isEmpty)=true:=by
   cases us with
   | nil=>rw [clen] at hcs;exact absurd hcs (by decide)
   | cons _ _=>rfl
  haveI tst:=(sQ (n:=3) (e:=.loc 5) (l:=DP s ch fo many x2 x3 x6 x7 x8 x9 x10 x11 x13) (S:=S) (ad rfl) hc).eq hus;generalize hHb:H++[O.list []]=Hb at tst;have Pb:cg H Hb:=by exact el hHb (.app .refl)
  refine cF ok (src.keep Pb fun _=>trivial) ⟨by lia,Er hul⟩ fun d H1 dr=>b7 (PI dr.lo) fun a q_a=>?_;obtain rfl:=q_a;have K1:=Pb.pre.trans dr.kp;have hau:a<us.length:=by haveI:=dr.hi;exact ES this
  haveI sfo:=z5 hs hfo;haveI sch:=z5 hs hch.1;have hca:=OD (EH hau clen);generalize cs[a]=c at hca;haveI cl:=lv c (OC hca);refine aZ (nJ hu hca) fun u hua cu=>?_;haveI cu1:=cu.keep K1 fun i _ h=>(z2 hs h.1:i≠s);obtain⟨ru,kk,u1,u2⟩:=id cu1;replace u2:=(Ch.sds_eq cl)▸u2;refine fQ (hP u2) fun k0 kr q_a k0a kra=>?_;have f1:=K1.get hf (Ne.symm sfo);have c1:=K1.get hc (Ne.symm sch);have kl:=(hk.length:ss.length=ks.length);obtain rfl:=q_a;have K2:Kp (fun i _=>i≠fo) H1 (H1.set fo (.list (ks.map .obj++[.obj k0]))):=Kp.set .refl fun _ _ z=>z rfl;generalize hH2:H1.set fo (.list (ks.map .obj++[.obj k0]))=H2 at K2;haveI f2:H2[fo]? = some (.list ((ks++[k0]).map .obj)):=by refine el hH2 ?_;exact er O2 (aM (aA f1))
  generalize hH3:H2++[O.list (kr.map .obj)]=H3;have P3:cg H2 H3:=by exact el hH3 (.app .refl)
  haveI n3:H3[H2.length]? = some (.list (kr.map .obj)):=by exact el hH3 aj
  haveI c3:=P3.at_ _ _ (K2.get c1 hch.2) trivial;have K4:Kp (fun i _=>i≠ch) H3 (H3.set ch (.list ((us.set a H2.length).map .obj))):=Kp.set .refl fun _ _ z=>z rfl;generalize hH4:H3.set ch (.list ((us.set a H2.length).map .obj))=H4 at K4;haveI c4:H4[ch]? = some (.list ((us.set a H2.length).map .obj)):=by exact el hH4 (aM (aA c3))
  have K14:Kp (fun i _=>i≠fo/\i≠ch) H1 H4:=((K2.mono fun _ _ h=>h.1).trans P3.pre).trans (K4.mono fun _ _ h=>h.2);have K04:Kp (fun i _=>i≠s/\i≠fo/\i≠ch) H H4:=(K1.mono fun _ _ h=>h.1).trans (K14.mono fun _ _ h=>h.2);haveI l2:=K2.len;haveI l0:=K1.len;have g0:∀i (_:O),(L<=i/\i≠fo/\i≠ch)->(i≠s/\i≠fo/\i≠ch):=fun i _ h=>⟨z2 hs h.1,h.2⟩;haveI hu4:F2 (fun u c=>ja (fun i=>L<=i/\i≠fo/\i≠ch) H4 u c) (us.set a H2.length) (cs.set a c.next):=
   AA (F2.imp (fun _ _ h=>h.keep K04 g0) hu) ⟨(bT (DZ l0 hL l2) (z2 (aA f1) l2) (z2 (aA c1) l2)),kr,K4.get n3 (z2 (aA c1) l2),(aR.keep kra K14 fun i _ h _=>h.2)⟩
  haveI hk4:aR (fun i=>L<=i/\i≠fo/\i≠ch) H4 (ks++[k0]) (ss++[c.hd]):=ft (aR.keep hk K04 fun i o h _=>g0 i o h) (k0a.keep K14 fun i _ h _=>h.2);refine dQ (lY (S:=S) (n:=3) (l:=DP s ch fo many x2 x3 x6 x7 x8 x9 x10 x11 (some (.int a))) rfl c4 hu4 (by exact er OW (Ly hul))) fun H5 us' fl q1 q2 q3=>?_;haveI l4:L<=H4.length:=by haveI:=K04.len;exact z4 this hL
  haveI f4:=K4.get (P3.at_ _ _ f2 trivial) (Ne.symm hch.2);haveI src4:=dr.src.keep K14 fun _=>⟨sfo,sch⟩;haveI c4l:=aA c4;haveI f4l:=aA f4;refine ih_ ((cs.set a c.next).filter Ch.live) (ss++[c.hd]) us' (ks++[k0]) H5 H4.length (some (.int a))
   (by haveI:=zM hca cl;refine er sv ?_;lia) (sr.step hca cl (.inr nf)).filter nf.set.filter (fun c hc=>(PL.mp hc).2)
   (.inr ⟨by simp,by exact er List.dropLast_concat (sr.notyet (OC hca) cl)⟩)
   (src4.keep q3 fun _=>trivial) (q3.at_ _ _ f4 trivial) q1
   (aR.keep (hk4.region (R':=fun i=>L<=i/\i≠fo/\i≠H4.length) fun i hi h=>(bT h.1 h.2.1 (z1 hi))) q3 fun _ _ _ _=>trivial)
   (F2.imp (fun _ _ h=>h.region fun i _ h=>(bT h.1.1 h.1.2.1 (z1 h.2))) q2) ⟨Et l4,z8 f4l⟩ (by simp;lia) (by
    haveI e1:=q2.length;haveI:=Sb Ch.live (cs.set a c.next);rw [OW] at this;omega) (z4 q3.len l4) _ fun H' l' ks' ss' w w1 w2 w3 w4 w5 w6=>?_
  refine kK H' l' ks' ss' (.step tst (fun Q q=>?_) w) w1 w2 w3 w4 w5 ?_
  ·have lv5:∀H z,EV S 3 (.loc 5) (DP s ch fo many x2 x3 x6 x7 x8 x9 x10 x11 z) H (.obj ch) H:=fun H z=>ad rfl;haveI ln:EV S 3 (.bcall .len (.cons (.loc 5) .nil)) (DP s ch fo many x2 x3 x6 x7 x8 x9 x10 x11 x13) Hb (.int us.length) Hb:=by
    haveI:=bW (lv5 Hb x13) (Pb.at_ _ _ hc trivial) (by rw [OJ];exact JS hul);rw [OJ] at this;exact this
   refine aD (EV.fcall rfl (.cons (ad rfl) (.cons ln .nil)) dr.call (by decide)) ?_;haveI it:∀H (h:H[ch]? = some (.list (us.map .obj))),EV S 3 (.sub (.loc 5) (.loc 13)) (DP s ch fo many x2 x3 x6 x7 x8 x9 x10 x11 (some (.int a))) H (.obj u) H:=fun H h=>aS (lv5 H _) (ad rfl) h (Fd hau hul) (by refine er O5 (er hua ?_);rfl);refine aP (EV.app (ad rfl) (aS (it H1 c1) (EV.int (i:=((0:Nat):Int))) u1 (by decide) rfl) f1 f1 (by rw [OJ];lia)) ?_;refine er hH2 ?_;haveI u12:=K2.get u1 ru.2.1;refine dm (y:=.obj H2.length) ?_ (lv5 H3 _) (ad rfl) c3 (bT (z0) (by rw [OJ];exact JF hau) (by rw [OJ];exact JS hul)) ?_
   ·haveI:=tM (p:=1) (it H2 (K2.get c1 hch.2)) EV.int u12 (by
     haveI:aR (fun i=>L<=i/\i≠fo/\i≠ch) H1 (k0::kr) c.sds:=by exact er (Ch.sds_eq cl) (.cons k0a kra)
     haveI e:=this.length;haveI:c.sds.length<=og cs:=zN (OC hca);rw [OJ];omega) (by decide)
    exact el hH3 this
   ·rewrite [ON];refine el S4 ?_;exact er hH4 (fl _ _ (W.nil q))
  ·exact((K04.mono fun i _ h=>(bT h.2 (z5 h.1 hfo) (z5 h.1 hch.1))).trans q3.pre).trans w6
end
end
section
mutual #where
variable {S:be} {n:Nat} {H H' H1 H2 E E':List O} {i:Nat} {l l1:aW} {v:V} {c:C} {R:Nat->Prop} {F:FD} {f s:Nat} {sc:SD}
def jZ:List (List Nat)->List Nat->List Ch
 | ps::l,t::ts=>⟨ps,0,0,true,t⟩::jZ l ts
 | _,_=>[]
def dt(many:Nat)(tog:Bool):List (List Nat):=if tog then [OT many] else (OT many).map fun p=>[p]
abbrev Og:P:=eM.body.get 3
abbrev RS(L fo ch:Nat):Nat->Prop:=fun i=>L<=i/\i≠fo/\i≠ch
abbrev MP(s ch fo:Nat)(many:V)(x2 x3 x6 x7:Option V):aW:=[some (.obj s),some many,x2,x3,some (.obj fo),some (.obj ch),x6,x7,none,none,none,none,none,none]
theorem vB(ok:OKl S){L lo fo ch:Nat}{many:V}{x2 x3:Option V}{H0:List O}{all:List V}(h0:H0[lo]? = some (.list all))(hs:s<L)(hfo:L<=fo)(hch:L<=ch/\ch≠fo)(hlo:lo≠fo/\lo≠ch/\lo≠s):∀(lots:List (List Nat)) (pls:List Nat) (dcs:List Ch) (us ks:List Nat) (H:List O) (x6 x7:Option V),F2 (fun(p:Nat) ps=>RS L fo ch p/\H[p]? = some (.list (fY ps))) pls lots->(∀ps∈lots,(∀p∈ps,p<=1)/\ps.length<=2)->H[lo]? = some (.list all)->cR H s->H[fo]? = some (.list (ks.map .obj))->H[ch]? = some (.list (us.map .obj))->aR (RS L fo ch) H ks (dcs.map Ch.hd)->F2 (fun u c=>ja (RS L fo ch) H u c) us (dcs.map Ch.next)->us.length+lots.length<=20->ks.length+lots.length<=20->L<=H.length->∀(kP:Prop),(∀H' ts us' ks' x6' x7',dz S 3 Og.b1 (.one 6) (aG (.obj lo) H0) (pls.map .obj) (MP s ch fo many x2 x3 x6 x7) H (MP s ch fo many x2 x3 x6' x7') H'->cR H' s->H'[fo]? = some (.list (ks'.map .obj))->H'[ch]? = some (.list (us'.map .obj))->aR (RS L fo ch) H' ks' ((dcs++jZ lots ts).map Ch.hd)->F2 (fun u c=>ja (RS L fo ch) H' u c) us' ((dcs++jZ lots ts).map Ch.next)->ts.length=lots.length->(∀t∈ts,t<=2)->Kp (fun i _=>i≠s/\i≠fo/\i≠ch) H H'->kP)->kP:=by
 intro m_;induction m_ with
 | nil=>
  intro pls dcs us ks H x6 x7 hp _ hl src hf hc hk hu _ _ _;intro _ kK;cases hp;exact kK H [] us ks x6 x7 (fun Q q=>⟨hl.trans h0.symm,q⟩) src hf hc (by exact(OO dcs).symm▸hk) (by exact(OO dcs).symm▸hu) rfl (fun _ h=>ju h) .refl
 | cons ps lots ih_=>
  intro pls dcs us ks H x6 x7 hp hb hl src hf hc hk hu hul hkl hL;intro _ kK;cases hp with
  | @cons pl _ pls _ pa hp=>
  simp only [OQ] at hul hkl;refine cF ok (m:=3) src (by decide) fun d H1 dr=>b7 (PI dr.lo) fun t q_a=>?_;obtain rfl:=q_a;have ht:t<=2:=by haveI:=dr.hi;exact Fv this
  haveI l1:=dr.kp.len;haveI sfo:=z5 hs hfo;have gR:∀i,RS L fo ch i->i≠s:=fun i h=>by haveI:=h.1;exact z2 hs this
  have f1:=dr.kp.get hf (Ne.symm sfo);have sch:=z5 hs hch.1;have c1:=dr.kp.get hc (Ne.symm sch);haveI hbp:=hb ps (.head _);refine si (nO (st:=0) (en:=0) ok (dr.kp.get pa.2 (gR _ pa.1)) hbp.1 hbp.2 ht) fun H2 u kk cs hul2 u1 u2 p2=>?_;haveI f1l:=aA f1;haveI c1l:=aA c1;have u2':=u2.region fun i _ h=>by
   rcases h with rfl | h
   ·exact pa.1
   ·exact bT (Jl h.1 hL l1) (z2 f1l h.1) (z2 c1l h.1)
  refine fQ (hP u2') fun k0 kr q_a k0a kra=>?_;obtain rfl:=q_a;haveI f2:=p2.at_ _ _ f1 trivial;have c2:=p2.at_ _ _ c1 trivial;have K3:Kp (fun i _=>i≠fo) H2 (H2.set fo (.list (ks.map .obj++[.obj k0]))):=Kp.set .refl fun _ _ z=>z rfl;generalize hH3:H2.set fo (.list (ks.map .obj++[.obj k0]))=H3 at K3;haveI f3:H3[fo]? = some (.list ((ks++[k0]).map .obj)):=by refine el hH3 ?_;exact er O2 (aM (aA f2))
  haveI c3:=K3.get c2 hch.2;have P4:cg H3 (H3++[O.list (kr.map .obj)]):=.app .refl;haveI n4:(H3++[O.list (kr.map .obj)])[H3.length]? = some (.list (kr.map .obj)):=aj;generalize hH4:H3++[O.list (kr.map .obj)]=H4 at P4 n4;haveI c4:=P4.at_ _ _ c3 trivial;have K5:Kp (fun i _=>i≠ch) H4 (H4.set ch (.list (us.map .obj++[.obj H3.length]))):=Kp.set .refl fun _ _ z=>z rfl;generalize hH5:H4.set ch (.list (us.map .obj++[.obj H3.length]))=H5 at K5;haveI c5:H5[ch]? = some (.list ((us++[H3.length]).map .obj)):=by refine el hH5 ?_;exact er O2 (aM (aA c4))
  haveI f5:=K5.get (P4.at_ _ _ f3 trivial) (Ne.symm hch.2);have K25:Kp (fun i _=>i≠fo/\i≠ch) H2 H5:=((K3.mono fun _ _ h=>h.1).trans P4.pre).trans (K5.mono fun _ _ h=>h.2);haveI K15:=p2.pre.trans K25;have K05:Kp (fun i _=>i≠s/\i≠fo/\i≠ch) H H5:=(dr.kp.mono fun _ _ h=>h.1).trans (K15.mono fun _ _ h=>h.2);have g0:∀i,RS L fo ch i->(i≠s/\i≠fo/\i≠ch):=fun i h=>⟨gR i h,h.2⟩;haveI l3:=K3.len;haveI l2:=p2.len;have hu5:F2 (fun u c=>ja (RS L fo ch) H5 u c) (us++[H3.length]) ((dcs++[(⟨ps,0,0,true,t⟩:Ch)]).map Ch.next):=by
   exact er O2 (ft (F2.imp (fun _ _ h=>h.keep K05 fun i _ ri=>g0 i ri) hu) ⟨(bT (J3 l2 hL l1 l3) (Eo f1l l2 l3) (Eo c1l l2 l3)),kr,K5.get n4 (Eo c1l l2 l3),aR.keep kra K25 fun i _ h _=>h.2⟩)
  have hk5:aR (RS L fo ch) H5 (ks++[k0]) ((dcs++[(⟨ps,0,0,true,t⟩:Ch)]).map Ch.hd):=by
   exact er O2 (ft (aR.keep hk K05 fun i _ h _=>g0 i h) (aY.keep k0a K25 fun i _ h _=>h.2))
  refine ih_ pls (dcs++[⟨ps,0,0,true,t⟩]) (us++[H3.length]) (ks++[k0]) H5 (some (.obj pl)) (some (.obj u)) (F2.imp (fun _ _ h=>⟨h.1,K05.get h.2 (g0 _ h.1)⟩) hp) (fun ps h=>hb ps (.tail _ h)) (K05.get hl (bT hlo.2.2 hlo.1 hlo.2.1)) (dr.src.keep K15 fun _=>⟨sfo,sch⟩) f5 c5 hk5 hu5 (by simp;exact JR hul) (by simp;exact JR hkl) (z4 K05.len hL) _ fun H' ts us' ks' x6' x7' f' w1 w2 w3 w4 w5 w6 w7 w8=>?_;have ed:dcs++[(⟨ps,0,0,true,t⟩:Ch)]++jZ lots ts=dcs++jZ (ps::lots) (t::ts):=by rw [OB];rfl
  rw [ed] at w4 w5;refine kK H' (t::ts) us' ks' x6' x7' (fun Q q=>⟨hl.trans h0.symm,?_⟩) w1 w2 w3 w4 w5 (by refine er OQ (er w6 ?_);rfl) (fun x hx=>?_) (K05.trans w8)
  ·refine aD (EV.fcall rfl (.cons (ad rfl) (.cons (EV.int) (.cons (EV.int) (.cons (EV.fcall rfl (.cons (ad rfl) (.cons EV.int .nil)) dr.call (by decide)) .nil)))) cs (by decide)) ?_;refine aP (EV.app (ad rfl) (aS (ad rfl) (EV.int (i:=((0:Nat):Int))) u1 (by decide) rfl) f2 f2 (by rw [OJ];exact JN hkl)) ?_;refine er hH3 ?_;haveI kl:=kra.length;have u13:=K3.get u1 (z2 f1l hul2);haveI rl:(lT ps 0 0 t).length<=3:=Oz (OP (mT _)) (Pq ht);haveI sl:=tM (S:=S) (n:=3) (p:=1) (l:=MP s ch fo many x2 x3 (some (.obj pl)) (some (.obj u))) (ad (i:=7) rfl) EV.int u13 (by rewrite [OJ];exact er OQ (KM kl rl)) (by decide);rw [show SB (Int.toNat 1) ((k0::kr).map V.obj)=kr.map .obj from rfl,hH4] at sl;refine aP (EV.app (ad rfl) sl c3 c4 (by rw [OJ];exact JN hul)) ?_;exact er hH5 (W.nil (f' Q q))
  ·rcases OY.mp hx with rfl | h
   ·exact ht
   ·exact w7 x h
theorem yb{acc jr:Nat}{H0:List O}{o:O}(h0:H0[jr]? = some o)(hja:jr≠acc):∀(m b:Nat) (done:List Nat) (H:List O),H[acc]? = some (.list (done.map .obj))->H[jr]? = some o->done.length+m<=100->∀(kP:Prop),(∀H' new,B0 S n (.list (.cons (.loc 0) .nil)) [] l (aG (.obj jr) H0) acc (cQ (b:Int) m) H H'->H'[acc]? = some (.list ((done++new).map .obj))->F2 (fun(p:Nat) ps=>H.length<=p/\H'[p]? = some (.list (fY ps))) new ((Sh b m).map fun p=>[p])->Kp (fun i _=>i≠acc) H H'->kP)->kP:=by
 intro m_;induction m_ with
 | zero=>
  intro b done H ha hj _;intro _ kK;exact kK H [] (fun Q q=>⟨hj.trans h0.symm,q⟩) (by simpa using ha) .nil .refl
 | succ m ih_=>
  intro b done H ha hj hb;intro _ kK;have P:cg H (H++[O.list [.int b]]):=.app .refl;have al:=aA ha;have ab:=P.at_ _ _ ha trivial;have K:Kp (fun i _=>i≠acc) H ((H++[O.list [.int b]]).set acc (.list ((done++[H.length]).map .obj))):=Kp.set P.pre fun _ _ z=>z rfl;refine ih_ (b+1) (done++[H.length]) _ (aM (aA ab)) (K.get hj hja) (by simp;exact Io hb) _ fun H' new f' q1 q2 q3=>kK H' (H.length::new) (fun Q q=>?_) (by refine er q1 ?_;rw [OB];rfl) ?_ (K.trans q3)
  ·refine er bp ?_;refine⟨hj.trans h0.symm,?_⟩;refine(if_pos rfl).mpr ?_;refine EV.list (.cons (ad rfl) .nil) _ ?_;refine jb _ ab (by rw [OJ];exact Fk hb) ?_;haveI:=f' Q q;rw [O2,(z3:(((b+1):Int))=(b)+1)] at this;exact this
  ·refine er List.range'_succ (er O1 ?_);refine .cons ⟨OF _,q3.get (cj (z1 al) aj) (z8 al)⟩ (F2.imp (fun _ _ h=>⟨?_,h.2⟩) q2);haveI:=h.1;rw [OW,OA] at this;exact O0 ‹_›
end
end
section
mutual #where
variable {S:be} {n:Nat} {H H' H1 H2 E E':List O} {i:Nat} {l l1:aW} {v:V} {c:C} {R:Nat->Prop} {F:FD} {f s:Nat} {sc:SD}
abbrev Ou:C:=.meth (.loc 5) 67 (.cons (.fcall 29 (.cons (.list (.cons (.loc 8) .nil)) (.cons (.loc 10) (.cons (.loc 11) (.cons (.fcall 26 (.cons (.loc 0) (.cons (.int 3) .nil))) .nil))))) .nil)
structure mB(L fo ch s:Nat)(us:List Nat)(cs:List Ch)(H:List O):Prop where
 src:cR H s
 hc:H[ch]? = some (.list (us.map .obj))
 at_:F2 (fun u c=>ja (RS L fo ch) H u c) us cs
 len:L<=H.length
 fo:fo<H.length
theorem mB.keep{L fo ch:Nat}{us:List Nat}{cs:List Ch}(a:mB L fo ch s us cs H)(p:cg H H'):mB L fo ch s us cs H':=⟨a.src.keep p fun _=>trivial,p.at_ _ _ a.hc trivial,F2.imp (fun _ _ h=>h.keep p fun _ _ _=>trivial) a.at_,Oz a.len p.len,OE a.fo p.len⟩
theorem o7(ok:OKl S){L fo ch p st en:Nat}{us:List Nat}{cs:List Ch}(hs:s<L)(hch:L<=ch/\ch≠fo)(a:mB L fo ch s us cs H)(hp:p<=1)(hul:us.length<=20){kP:Prop}(kK:∀t H' u,(∀l:aW,dE l 0=some (.obj s)->dE l 5=some (.obj ch)->dE l 8=some (.int p)->dE l 10=some (.int st)->dE l 11=some (.int en)->EV S 3 Ou l H .none H')->t<=2->mB L fo ch s (us++[u]) (cs++[⟨[p],st,en,true,t⟩]) H'->Kp (fun i _=>i≠s/\i≠ch) H H'->kP):kP:=by
 have P:cg H (H++[O.list [.int p]]):=.app .refl;have a1:=a.keep P;haveI n1:(H++[O.list [.int p]])[H.length]? = some (.list [.int p]):=aj;have cl:=aA a.hc;haveI e1:(H++[O.list [.int p]]).length=H.length+1:=dO;generalize hHa:H++[O.list [.int p]]=Ha at P a1 n1 e1;refine cF ok (m:=3) a1.src (by decide) fun d H1 dr=>b7 (PI dr.lo) fun t q_a=>?_;obtain rfl:=q_a;have ht:t<=2:=by haveI:=dr.hi;exact Fv this
 haveI l1:=dr.kp.len;have aL:=a.len;refine si (nO (ps:=[p]) (st:=st) (en:=en) ok (dr.kp.get n1 (by lia)) (by simpa using hp) (by simp) ht) fun H2 u kk cs' hul2 u1 u2 p2=>?_;have aF:=a.fo;have sch:=z5 hs hch.1;have K3:Kp (fun i _=>i≠ch) H2 (H2.set ch (.list (us.map .obj++[.obj u]))):=Kp.set .refl fun _ _ z=>z rfl;have c2:=p2.at_ _ _ (dr.kp.get a1.hc (Ne.symm sch)) trivial;haveI K13:=p2.pre.trans K3;have K03:Kp (fun i _=>i≠s/\i≠ch) H (H2.set ch (.list (us.map .obj++[.obj u]))):=(P.pre.trans (dr.kp.mono fun _ _ h=>h.1)).trans (K13.mono fun _ _ h=>h.2);refine kK t _ u (fun l h0 h5 h8 h10 h11=>?_) ht ⟨dr.src.keep K13 fun _=>sch,by exact er O2 (aM (aA c2)),ft (F2.imp (fun _ _ h=>h.keep K03 fun i _ h=>⟨by haveI:=h.1;exact z2 hs this,h.2.2⟩) a.at_) ?_,Oz aL K03.len,OE aF K03.len⟩ K03
 ·refine EV.app (ad h5) (EV.fcall rfl (.cons (EV.list (.cons (ad h8) .nil)) (.cons (ad h10) (.cons (ad h11) (.cons (EV.fcall rfl (.cons (ad h0) (.cons EV.int .nil)) (by exact er hHa dr.call) (by decide)) .nil)))) cs' (by decide)) a.hc c2 (by rw [OJ];exact JS hul)
 ·refine⟨(bT (Eu e1 hul2 l1 aL) (En aF e1 hul2 l1) (En cl e1 hul2 l1)),kk,K3.get u1 (En cl e1 hul2 l1),aR.keep (u2.region (R':=RS L fo ch) fun i _ h=>?_) K3 fun i _ h _=>h.2.2⟩;rcases h with rfl | h
  ·exact bT (Et aL) (z8 aF) (z8 cl)
  ·exact bT (Eu e1 h.1 l1 aL) (En aF e1 h.1 l1) (En cl e1 h.1 l1)
abbrev IR:P:=eM.body.get 4
abbrev BG(s ch fo:Nat)(many:V)(x2 x3 x6 x7 x8 x9 x10 x11:Option V):aW:=[some (.obj s),some many,x2,x3,some (.obj fo),some (.obj ch),x6,x7,x8,x9,x10,x11,none,none]
theorem zd(ok:OKl S){L fo ch p:Nat}{us:List Nat}{cs:List Ch}{many:V}{x2 x3 x6 x7 x9 x10 x11:Option V}(hs:s<L)(hch:L<=ch/\ch≠fo)(a:mB L fo ch s us cs H)(hp:p<=1)(hul:us.length<=10){kP:Prop}(kK:∀(d:Dr) (H':List O) (us':List Nat) (y9 y10 y11:Option V),(∀Q,Q .next (BG s ch fo many x2 x3 x6 x7 (some (.int p)) y9 y10 y11) H'->bH S 3 IR.b1 (BG s ch fo many x2 x3 x6 x7 (some (.int p)) x9 x10 x11) H Q)->d.OK->mB L fo ch s us' (cs++dP p d) H'->us'.length<=us.length+2->Kp (fun i _=>i≠s/\i≠ch) H H'->kP):kP:=by
 refine cF ok (m:=3) a.src (by decide) fun d H1 dr=>b7 (PI dr.lo) fun e' q_a=>?_;obtain rfl:=q_a;haveI he:=dr.hi;haveI aL:=a.len;have aF:=a.fo;haveI cl:=aA a.hc;haveI sch:=z5 hs hch.1;have a1:mB L fo ch s us cs H1:=⟨dr.src,dr.kp.get a.hc (Ne.symm sch),F2.imp (fun _ _ h=>h.keep dr.kp fun i _ h=>show i≠s by haveI:=h.1;exact z2 hs this) a.at_,Oz aL dr.kp.len,OE aF dr.kp.len⟩;generalize he1:e'+1=e at *;generalize hT:H1++[O.tuple [.int 1,.int e]]++[O.tuple [.int (e+1:Nat),.int 3]]++[O.list [.obj H1.length,.obj (H1.length+1)]]=HT;have ee:(1:Int)+(e')=e:=by lia
 haveI PT:cg H1 HT:=by exact el hT (.app (.app (.app .refl)))
 have tl:HT[H1.length+2]? = some (.list [.obj H1.length,.obj (H1.length+1)]):=by
  refine el hT ?_;exact er (by simp:H1.length+2=(H1++[O.tuple [.int 1,.int e]]++[O.tuple [.int (e+1:Nat),.int 3]]).length) aj
 haveI t1:HT[H1.length]? = some (.tuple [.int 1,.int e]):=by exact el hT (ah (ah aj))
 haveI t2:HT[H1.length+1]? = some (.tuple [.int (e+1:Nat),.int 3]):=by
  refine el hT ?_;exact er (by simp:H1.length+1=(H1++[O.tuple [.int 1,.int e]]).length) (ah aj)
 haveI aT:=a1.keep PT;refine o7 (st:=1) (en:=e) ok hs hch aT hp (FH hul) fun ta H2 u2 ev2 ht2 a2 k2=>?_;have kne:∀ {j:Nat},H1.length<=j->(j≠s/\j≠ch):=fun {j} h=>⟨by haveI:=a1.len;exact Eo hs this h,by haveI:=aA a1.hc;exact z2 this h⟩;haveI tl2:=k2.get tl (kne (OL _ _));have KT:Kp (fun i _=>i≠s/\i≠ch) H HT:=(dr.kp.mono fun _ _ h=>h.1).trans PT.pre;have lv:EV S 3 (.list (.cons (.tup (.cons (.int 1) (.cons (.loc 9) .nil))) (.cons (.tup (.cons (.bin .Add (.loc 9) (.int 1)) (.cons (.int 3) .nil))) .nil))) (BG s ch fo many x2 x3 x6 x7 (some (.int p)) (some (.int e)) x10 x11) H1 (.obj (H1.length+2)) HT:=by
  haveI:=EV.list (S:=S) (n:=3) (H:=H1) (l:=BG s ch fo many x2 x3 x6 x7 (some (.int p)) (some (.int e)) x10 x11) (.cons (bJ (.cons (EV.int (i:=1)) (.cons (ad (i:=9) rfl) .nil))) (.cons (bJ (.cons (au (EV.add (ad (i:=9) rfl) (EV.int)) Bs) (.cons (EV.int (i:=3)) .nil))) .nil));rw [dO,dO] at this;exact el hT this
 have t22:=k2.get t2 (kne Es);have e9:∀Q,bH S 3 (IR.b1.from 1) (BG s ch fo many x2 x3 x6 x7 (some (.int p)) (some (.int e)) x10 x11) H1 Q->bH S 3 IR.b1 (BG s ch fo many x2 x3 x6 x7 (some (.int p)) x9 x10 x11) H Q:=fun Q q=>
  aD (au (EV.add EV.int (EV.fcall rfl (.cons (ad rfl) (.cons EV.int .nil)) dr.call (by decide))) ee) q
 by_cases h3:e+1<=3
 ·refine o7 (st:=e+1) (en:=3) ok hs hch a2 hp (by simp;exact LH hul) fun tb H3 u3 ev3 ht3 a3 k3=>kK ⟨e,ta,tb⟩ H3 (us++[u2]++[u3]) (some (.int e)) (some (.int (e+1:Nat))) (some (.int 3)) (fun Q q=>e9 Q ?_) ⟨⟨Ky ee,O0 ‹_›⟩,ht2,ht3⟩ ?_ (by simp) ((KT.trans k2).trans k3)
  ·refine bk lv (aU tl) ⟨rfl,?_⟩;refine lK _ _ rfl t1 rfl (bE (ag (ad rfl) (ad rfl) eX) (decide_eq_true (by lia)) (aP (ev2 _ rfl rfl rfl rfl rfl) (W.nil ?_)));refine W.nil ⟨tl2.trans tl.symm,?_⟩;refine lK _ _ rfl t22 rfl (bE (ag (ad rfl) (ad rfl) eX) (decide_eq_true (Pn.mpr ‹_›)) (aP (ev3 _ rfl rfl rfl rfl rfl) (W.nil ?_)));exact W.nil ⟨(k3.get tl2 (kne (OL _ _))).trans tl.symm,W.nil q⟩
  ·haveI:cs++dP p ⟨e,ta,tb⟩=cs++[⟨[p],1,e,true,ta⟩]++[⟨[p],e+1,3,true,tb⟩]:=by
    unfold dP;refine er (if_pos h3) ?_;rw [OB];rfl
   exact er this a3
 ·refine kK ⟨e,ta,0⟩ H2 (us++[u2]) (some (.int e)) (some (.int (e+1:Nat))) (some (.int 3)) (fun Q q=>e9 Q ?_) ⟨⟨Lf h3,by refine(?_:e<=3);lia⟩,ht2,PF _⟩ ?_ (by simp) (KT.trans k2)
  ·refine bk lv (aU tl) ⟨rfl,?_⟩;refine lK _ _ rfl t1 rfl (bE (ag (ad rfl) (ad rfl) eX) (decide_eq_true (Le h3)) (aP (ev2 _ rfl rfl rfl rfl rfl) (W.nil ?_)));refine W.nil ⟨tl2.trans tl.symm,?_⟩;refine lK _ _ rfl t22 rfl (ay (ag (ad rfl) (ad rfl) eX) (decide_eq_false (Ld h3)) ?_);exact W.nil ⟨tl2.trans tl.symm,W.nil q⟩
  ·haveI:cs++dP p ⟨e,ta,0⟩=cs++[⟨[p],1,e,true,ta⟩]:=by
    unfold dP;refine er (if_neg h3) ?_;rfl
   exact er this a2
theorem Bc(ok:OKl S){L fo ch jr:Nat}{many:V}{x2 x3 x6 x7:Option V}{H0:List O}{o:O}(h0:H0[jr]? = some o)(hs:s<L)(hch:L<=ch/\ch≠fo)(hjr:jr≠s/\jr≠ch):∀(m b:Nat) (us:List Nat) (cs:List Ch) (H:List O) (x8 x9 x10 x11:Option V),mB L fo ch s us cs H->H[jr]? = some o->b+m<=2->us.length+2*m<=10->∀(kP:Prop),(∀(H':List O) (ds:List Dr) (us':List Nat) (y8 y9 y10 y11:Option V),dz S 3 IR.b1 (.one 8) (aG (.obj jr) H0) (cQ (b:Int) m) (BG s ch fo many x2 x3 x6 x7 x8 x9 x10 x11) H (BG s ch fo many x2 x3 x6 x7 y8 y9 y10 y11) H'->mB L fo ch s us' (cs++dM b ds) H'->ds.length=m->(∀d∈ds,d.OK)->us'.length<=10->Kp (fun i _=>i≠s/\i≠ch) H H'->kP)->kP:=by
 intro m_;induction m_ with
 | zero=>
  intro b us cs H x8 x9 x10 x11 a hj _ hu;intro _ kK;exact kK H [] us x8 x9 x10 x11 (fun Q q=>⟨hj.trans h0.symm,q⟩) (by refine er (show dM b []=[] from rfl) ?_;rw [OO];exact a) rfl (fun _ h=>ju h) (by assumption) .refl
 | succ m ih_=>
  intro b us cs H x8 x9 x10 x11 a hj hb hu;intro _ kK;refine zd (many:=many) (x2:=x2) (x3:=x3) (x6:=x6) (x7:=x7) (x9:=x9) (x10:=x10) (x11:=x11) ok hs hch a (KW hb) (by lia) fun d H1 us1 y9 y10 y11 f1 hd a1 hl1 k1=>ih_ (b+1) us1 _ H1 (some (.int b)) y9 y10 y11 a1 (k1.get hj hjr) (by lia) (by lia) _ fun H' ds us' z8 z9 uX uW f' q1 q2 q3 q4 q5=>kK H' (d::ds) us' z8 z9 uX uW (fun Q q=>?_) (by rw [OB] at q1;exact q1) (by refine er OQ (er q2 ?_);rfl) (fun x hx=>?_) q4 (k1.trans q5)
  ·refine er bp ?_;refine⟨hj.trans h0.symm,f1 _ ?_⟩;haveI:=f' Q q;replace this:=(z3:(((b+1):Int))=(b)+1)▸this;exact this
  ·rcases OY.mp hx with rfl | h
   ·exact hd
   ·exact q3 x h
end
end
section
mutual #where
variable {S:be} {n:Nat} {H H' H1 H2 E E':List O} {i:Nat} {l l1:aW} {v:V} {c:C} {R:Nat->Prop} {F:FD} {f s:Nat} {sc:SD}
theorem wJ{m:Nat}:cQ 0 m=fY (OT m):=by
 exact Pz fun i _=>by rw [Int.zero_add]
abbrev Oe:C:=.ite (.val (.loc 2)) (.list (.cons (.bcall .list (.cons (.bcall .range (.cons (.loc 1) .nil)) .nil)) .nil)) (.comp [] (.list (.cons (.loc 0) .nil)) (.bcall .range (.cons (.loc 1) .nil)))
theorem vC{m:Nat}(hm:m<=2){tog:Bool}(h1:dE l 1=some (.int m))(h2:dE l 2=some (.bool tog)){kP:Prop}(kK:∀lo pls HL,EV S n Oe l H (.obj lo) HL->HL[lo]? = some (.list (pls.map .obj))->F2 (fun(p:Nat) ps=>H.length<=p/\HL[p]? = some (.list (fY ps))) pls (dt m tog)->H.length<=lo->cg H HL->kP):kP:=by
 cases tog with
 | true=>
  have e:(H++[O.rng 0 m 1]).length=H.length+1:=dO;haveI:=de (S:=S) (n:=n) (b:=.comp [] (.list (.cons (.loc 0) .nil)) (.bcall .range (.cons (.loc 1) .nil))) (TV.val (ad (H:=H) h2)) rfl (EV.list (.cons (zo (bV (ad h1)) aj (by haveI:=oQ (a:=0) (b:=m) (by decide) (by lia) (.inl rfl);exact(bT this.1 this.2.1 (by unfold Builtin.Range.rangeSize;refine er (if_pos (by decide)) ?_;rw [Rj];split<;>lia)))) .nil));replace this:=wJ▸((FA hm:((m:Int) - 0).toNat=m)▸(xA▸this));refine kK _ [H.length+1] _ this (by exact er e aj) ?_ (by simp) (.app (.app (.app .refl)));exact .cons ⟨Es,by exact el e (ah aj)⟩ .nil
 | false=>
  have e:(H++[O.rng 0 m 1]).length=H.length+1:=dO;haveI hr:(H++[O.rng 0 m 1])[H.length]? = some (.rng 0 m 1):=aj;refine yb (S:=S) (n:=n) (l:=l) hr (Ga e) m 0 [] (H++[O.rng 0 m 1]++[.list []]) aj (ah hr) (by simp;exact Lz hm) _ fun H' new f' q1 q2 q3=>?_;haveI it:=aX hr (by decide) (by lia:-1000000<(m:Int)/\(m:Int)<1000000);refine kK _ new H' (cP (TV.val (ad h2)) rfl (EV.comp (bV (ad h1)) it f')) q1 ?_ (B5 e) ⟨?_,fun i o h _=>q3.at_ i o (ah (ah h)) (DF (aA h) e)⟩;rw [(FA hm:((m:Int) - 0).toNat=m)] at it
  ·haveI:dt m false=(Sh 0 m).map fun p=>[p]:=by unfold dt;refine er (if_neg (by decide)) (er Se ?_);rfl
   exact er this (F2.imp (fun _ _ h=>⟨by haveI:=h.1;simp at this;exact JL this,h.2⟩) q2)
  ·haveI:=q3.len;simp at this;exact JL this
theorem Aj{m:Nat}(hm:m<=2){tog:Bool}:∀ps∈dt m tog,(∀p∈ps,p<=1)/\ps.length<=2:=by
 intro ps h;unfold dt at h;split at h
 ·refine er (OZ.mp h) ?_;exact⟨fun p hp=>by haveI:=QQ.mp hp;exact Fe this hm,by exact er Sr hm⟩
 ·refine aZ (Pm.mp h) fun p hp q_a=>el q_a ?_;haveI:=QQ.mp hp;exact⟨fun q hq=>by exact er (OZ.mp hq) (Fe this hm),by simp⟩
theorem kq{m:Nat}{tog:Bool}:(dt m tog).length=if tog then 1 else m:=by
 unfold dt;cases tog<;>simp
theorem C7{tog:Bool}{ts:List Nat}(h:ts.length=if tog then 1 else F.comps.length):rE F tog ts=jZ (dt F.comps.length tog) ts:=by
 haveI cl:F.comps.length=if F.two then 2 else 1:=by unfold FD.comps;split<;>rfl
 cases tog with
 | true=>
  match ts,h with
  | [t],_=>rfl
 | false=>
  cases h2:F.two with
  | false=>
   rw [h2] at cl;have cl1:F.comps.length=1:=cl;rw [cl1] at h⊢
   match ts,h with
   | [t],_=>rfl
  | true=>
   rw [h2] at cl;have cl1:F.comps.length=2:=cl;rw [cl1] at h⊢
   match ts,h with
   | [t,t'],_=>rfl
theorem wn{ds:List Dr}{b:Nat}{c:Ch}(h:c∈dM b ds):1<=c.st:=by
 induction ds generalizing b with
 | nil=>exact nomatch h
 | cons d ds ih=>exact(O9.mp (h)).elim (fun h=>(gI h).2) ih
theorem Cl{cs:List Ch}(h:∀c∈cs,c.m<=2):og cs<=3*cs.length:=by
 induction cs with
 | nil=>exact OF _
 | cons c cs ih=>exact Oz (PV (Oz (t5 c) (Qv (h c (.head _)))) (ih fun x hx=>h x (.tail _ hx))) (OP (PK 3 _))
theorem mq(ok:OKl S)(src:cR H s):∃H' fo ks ss,aE S 4 (.top 1057) [.obj s,.int F.comps.length] H (.obj fo) H'/\H'[fo]? = some (.list (ks.map .obj))/\aR (fun i=>H.length<=i/\i≠fo) H' ks ss/\HZ F ss/\cR H' s/\H.length<=fo/\Kp (Ns s) H H':=by
 have hm:F.comps.length<=2/\1<=F.comps.length:=by unfold FD.comps;split<;>simp
 generalize hmm:F.comps.length=m at hm⊢;refine cF ok (m:=2) src (by decide) fun d H1 dr=>?_;have sl:s<H.length:=by refine eu src fun _ _ h _=>?_;exact aA h
 generalize htg:decide (d=0)=tog;have l1:=dr.kp.len;refine vC (S:=S) (n:=3) (H:=H1) (l:=[some (.obj s),some (.int m),some (.bool tog),none,none,none,none,none,none,none,none,none,none,none]) hm.1 rfl rfl fun lo pls HL ev1 lo1 lo2 lo3 pL=>?_;haveI lL:=pL.len;haveI lol:=aA lo1;generalize hM:HL++[O.list []]++[O.list []]++[O.tuple [.obj HL.length,.obj (HL.length+1)]]=HM;have PM:cg HL HM:=by exact el hM (.app (.app (.app .refl)))
 haveI mf:HM[HL.length]? = some (.list (([]:List Nat).map .obj)):=by exact el hM (ah (ah aj))
 haveI mc:HM[HL.length+1]? = some (.list (([]:List Nat).map .obj)):=by refine el hM ?_;exact el (dO) (ah aj)
 haveI mt:HM[HL.length+2]? = some (.tuple [.obj HL.length,.obj (HL.length+1)]):=by
  refine el hM ?_;exact er (by simp:HL.length+2=(HL++[O.list []]++[O.list []]).length) aj
 haveI lM:=PM.len;haveI loM:=PM.at_ _ _ lo1 trivial;refine vB (many:=.int m) (x2:=some (.bool tog)) (x3:=some (.obj lo)) ok loM sl (z4 lL l1) ⟨Ez lL l1,SG _⟩ (bT (z1 lol) (zB lol) (Eo sl l1 lo3)) (dt m tog) pls [] [] [] HM none none
  (F2.imp (fun p ps h=>⟨(bT (by haveI:=h.1;exact z4 h.1 l1) (z1 (aA h.2)) (zB (aA h.2))),PM.at_ _ _ h.2 trivial⟩) lo2) (Aj hm.1) loM ((dr.src.keep pL fun _=>trivial).keep PM fun _=>trivial) mf mc .nil .nil (by rw [kq];split<;>simp<;>exact FE hm.1) (by rw [kq];split<;>simp<;>exact FE hm.1) (Jl lM l1 lL) _ fun H2 ts us ks x6 x7 f2 s2 hf2 hc2 hk2 hu2 tl t2 k2=>?_
 rw [Ph] at hk2 hu2;haveI l2:=k2.len;have hul:us.length<=2:=by
  haveI e1:=hu2.length;haveI:∀ {lots:List (List Nat)} {ts:List Nat},(jZ lots ts).length<=lots.length:=fun {lots}=>by
   induction lots with
   | nil=>intro ts;exact OF _
   | cons a lots ih=>
    intro ts;cases ts with
    | nil=>exact PF _
    | cons t ts=>haveI:=ih (ts:=ts);exact O8 ‹_›
  have e2:=this (lots:=dt m tog) (ts:=ts);rw [kq] at e2;rw [OJ] at e1;split at e2<;>lia
 have nrg:(H2++[O.rng 0 m 1])[H2.length]? = some (.rng 0 m 1):=aj;haveI a2:mB H.length HL.length (HL.length+1) s us ((jZ (dt m tog) ts).map Ch.next) (H2++[O.rng 0 m 1]):=mB.keep ⟨s2,hc2,hu2,F9 l2 l1 lL lM,aA hf2⟩ (.app .refl);refine Bc (many:=.int m) (x2:=some (.bool tog)) (x3:=some (.obj lo)) (x6:=x6) (x7:=x7) ok nrg sl ⟨Ez lL l1,SG _⟩ ⟨Bv sl l2 l1 lL lM,by haveI:=aA hc2;exact Mp this⟩ m 0 us _ _ none none none none a2 nrg (by lia) (F6 hul hm.1) _ fun H3 ds us3 y8 y9 y10 y11 f3 a3 dl d2 hul3 k3=>?_;have K23:=Kp.trans (.app .refl) k3;haveI hk3:=aR.keep hk2 K23 fun i _ h _=>⟨by haveI:=h.1;exact z2 sl this,h.2.2⟩;have hf3:=K23.get hf2 ⟨Bu sl lL l1,Cb⟩;have dw:BY F tog ts ds:=⟨by refine er tl ?_;refine er kq (er hmm ?_);rfl,t2,by refine er dl (er hmm ?_);rfl,d2⟩;refine ba (xr dw) fun sc0 dfull=>?_;rw [C7 dw.tl,hmm] at sc0 dfull;have sc1:=qh.firsts (jZ (dt m tog) ts) [] [] (by rw [Ph];exact sc0) dfull;rw [Ph,Ph] at sc1;haveI nf:NF ((jZ (dt m tog) ts).map Ch.next++dM 0 ds):=fun d hd e=>by
  rcases O9.mp hd with h | h
  ·refine aZ (Pm.mp h) fun c _ q_a=>el q_a ?_;rfl
  ·haveI:=wn h;omega
 refine dQ (lY (S:=S) (n:=3) (l:=[some (.obj s),some (.int m),some (.bool tog),some (.obj lo),some (.obj HL.length),some (.obj (HL.length+1)),x6,x7,y8,y9,y10,y11,some (.obj HL.length),none]) rfl a3.hc a3.at_ (LJ hul3)) fun H4 us4 f4 q1 q2 q3=>?_;have f3l:=aA hf3;refine aZ ((tK (b:=0) d2).2 (F5 dl hm.2)) fun cl clm cll=>?_;have a3L:=a3.len;haveI c3l:=aA a3.hc;haveI lq:=q3.len;haveI us4l:us4.length<=10:=by
  haveI e1:=q2.length;haveI e2:=a3.at_.length;haveI:=Sb Ch.live ((jZ (dt m tog) ts).map Ch.next++dM 0 ds);exact Ka e2 e1 this hul3
 haveI hkl:(jZ (dt m tog) ts).length<=2:=by
  haveI e1:=hu2.length;rw [OJ] at e1;exact E8 e1 hul
 refine zI ok (many:=.int m) (x2:=some (.bool tog)) (x3:=some (.obj lo)) (x6:=x6) (x7:=x7) (x8:=y8) (x9:=y9) (x10:=y10) (x11:=y11) sl (z4 lL l1) _ (((jZ (dt m tog) ts).map Ch.next++dM 0 ds).filter Ch.live) ((jZ (dt m tog) ts).map Ch.hd) us4 ks H4 H3.length none rfl sc1.filter nf.filter (fun c hc=>(PL.mp hc).2) (.inl fun e=>by
  haveI:=PL.mpr ⟨QB ((jZ (dt m tog) ts).map Ch.next) clm,cll⟩;rw [e] at this;exact nomatch this) (a3.src.keep q3 fun _=>trivial) (q3.at_ _ _ hf3 trivial) q1 (aR.keep (hk3.region (R':=fun i=>H.length<=i/\i≠HL.length/\i≠H3.length) fun i hi h=>(bT h.1 h.2.1 (z1 hi))) q3 fun _ _ _ _=>trivial)
  (F2.imp (fun _ _ h=>h.region fun i _ h=>(bT h.1.1 h.1.2.1 (z1 h.2))) q2) ⟨Et a3L,Pg ‹_›⟩ (by
   haveI e1:=Cl fun c hc=>(sc1.filter.inv.ok c hc).m2;haveI e2:=q2.length;rw [OJ];exact Kb e2 us4l hkl e1) (FH us4l) (z4 lq a3L) _ fun H' l' ks' ss' w w1 w2 w3 w4 w5 w6=>?_
 refine Mz H' HL.length ks' ss' (ok.fnD 83 rfl rfl fun Q q=>?_) w2 w3 w4 w5 (z4 lL l1) ?_
 ·refine aD (nY (EV.fcall rfl (.cons (ad rfl) (.cons EV.int .nil)) dr.call (by decide)) EV.int bO) ?_;refine er htg ?_;refine aD ev1 ?_;refine cL (by
   haveI:=bJ (S:=S) (n:=3) (H:=HL) (l:=[some (.obj s),some (.int m),some (.bool tog),some (.obj lo),none,none,none,none,none,none,none,none,none,none]) (.cons (EV.list .nil) (.cons (EV.list .nil) .nil));rw [dO,dO] at this;exact el hM this) mt rfl ?_
  refine bk (ad rfl) (aU loM) (f2 _ ?_);refine er (Br:((m:Int) - 0).toNat=m) ?_;refine bk (bV (ad rfl)) (aX aj (by decide) (by lia)) ?_;refine f3 _ ?_;refine aD (ad rfl) ?_;refine f4 _ _ ?_;exact i7 w (W.ret (ad w1) q)
 ·haveI K1:=dr.kp.trans (pL.pre.trans PM.pre);refine⟨by haveI:=w6.len;exact Jl this a3L lq,fun i o e hi=>?_⟩;haveI il:=aA e;exact w6.at_ i o (q3.at_ i o (K23.at_ i o (k2.at_ i o (K1.at_ i o e hi) (bT hi (Ke il l1 lL) (Ew il l1 lL))) ⟨hi,Ew il l1 lL⟩) trivial) ⟨il,hi⟩
end
end
section
open PySem.Sem (wp)
mutual #where
variable {prog:Program} {w:World} {A:Around} {R:GenEnd} {Y:Protocol} {n:Nat} {s₀:Shared} {c:Code} {fs:List Frame} {s:Shared} {env:Env}
 {K:Flow->Sem Fin} {Hd:Value->Sem Fin} {gd:Bool->Bool} {lv:List Value->List Value}
abbrev DT:Value->Shared->Prop:=fun _ _=>False
theorem zV{target it:Expr}{body:List Stmt}{p:Pos}(hs:∀x,foldedSetIterable it env x=pure x)
  (h:wpAny (model prog w) (A.over c fs) (eval it env) (fun x s1=>wpAny (model prog w) (A.over c fs) (pyIter x) (fun I s2=>∀k h g l q,k (.ok .next)=K .next->h=none->g=gd false->Seg (model prog w) A R Y n s₀ (.forLoop target I body [] env) ((model prog w).den (.forLoop target I body [] env)) (.ret k h g l c q []::fs) s2) DT s1) DT s) :
  Seg (model prog w) A R Y n s₀ c ((exec (.For target it body [] p) env).wrap K Hd gd lv) fs s:=by
 refine seg_bind_wrap (wpAny_standAt ?_);refine seg_bind_wrap (wpAny_mono h (fun x s1 h1=>?_) fun _ _ e=>e.elim);refine seg_bind_wrap (wpAny_of_eq (hs x) ?_);refine seg_bind_wrap (wpAny_standAt ?_);refine seg_bind_wrap (wpAny_holding (wpAny_mono h1 (fun I s2 h2=>?_) fun _ _ e=>e.elim));refine seg_call fun q=>h2 _ _ _ _ q rfl rfl rfl
theorem lR{target:Expr}{it:Value}{body:List Stmt}
  (h:wpAny (model prog w) (A.over (.forLoop target it body [] env) fs) (pyNext it) (fun r s1=>match r with
   | none=>Seg (model prog w) A R Y n s₀ (.block [] env) (leafOf (.ok .next)) fs s1
   | some v=>wpAny (model prog w) (A.over (.forLoop target it body [] env) fs) (letOwnedTupleGo target it v) (fun _ s2=>wpAny (model prog w) (A.over (.forLoop target it body [] env) fs) (assign target env v) (fun _ s3=>
     ∀Hx:Value->Sem Fin,Seg (model prog w) A R Y n s₀ (.forLoop target it body [] env) ((execs body env).wrap (fun f=>match f with
      | .next | .cont=>.pure (.again (.forLoop target it body [] env))
      | .brk=>.pure (.done .next)
      | .ret v=>.pure (.done (.ret v))) Hx id id) fs s3) DT s2) DT s1) DT s) :
  Seg (model prog w) A R Y n s₀ (.forLoop target it body [] env) ((model prog w).den (.forLoop target it body [] env)) fs s:=by
 refine(?_:Seg _ A R Y n s₀ _ ((forTurn target it body [] env).onRaise (fun x=>do noteFrame x env;theTreesLotGoes x)) fs s);rw [Sem.onRaise_eq_wrap];refine seg_bind_wrap (wpAny_standAt ?_);refine seg_bind_wrap (wpAny_onRaise (wpAny_mono h (fun r s1 h1=>?_) fun _ _ e=>e.elim));cases r with
 | none=>
  refine seg_again (c':=.block [] env) rfl ?_;exact h1
 | some v=>
  refine seg_bind_wrap (wpAny_mono h1 (fun _ s2 h2=>?_) fun _ _ e=>e.elim);refine seg_bind_wrap (wpAny_mono h2 (fun _ s3 h3=>?_) fun _ _ e=>e.elim);rw [Sem.bind_eq_wrap',Sem.wrap_wrap];exact er (Sem.wrap_congr (execs body env) _ _ (K':=fun f=>match f with
      | .next | .cont=>.pure (.again (.forLoop target it body [] env))
      | .brk=>.pure (.done .next)
      | .ret v=>.pure (.done (.ret v))) (fun f=>by cases f<;>rfl) (fun _=>rfl)) (h3 _)
end
end
section
mutual #where
variable {S:be} {A:Around} {φ φ':Fp} {H H':List O} {s s':Shared} {fc:FC} {env:Env} {loc:aW} {h h':Heap} {α:Type} {W:Nat->Prop} {n:Nat}
def be.lite(S:be):be:={ S with X:=fun _=>True,xok:=⟨fun _ _ _ _ _ _=>trivial,fun _ _ _ _=>trivial⟩,bar:=False }
theorem St.lite(t:St S φ H s):St S.lite φ H s:=⟨t.base,t.rel⟩
theorem St.full(t:St S.lite φ H s):St S φ H s:=⟨t.base,t.rel⟩
theorem aB.lite(e:aB S fc env loc φ h):aB S.lite fc env loc φ h:=⟨e.scope,e.fk,e.glob,e.bins,e.low,e.own,e.len,e.nd,e.ns,e.cell,e.sep⟩
theorem aB.full(e:aB S.lite fc env loc φ h):aB S fc env loc φ h:=⟨e.scope,e.fk,e.glob,e.bins,e.low,e.own,e.len,e.nd,e.ns,e.cell,e.sep⟩
theorem OKl.lite(o:OKl S):OKl S.lite:=⟨⟨o.ck,o.pr,o.gl,o.bl,o.kp,fun b=>False.elim b,fun b=>False.elim b,fun b=>False.elim b⟩,o.fns,o.cls⟩
theorem nT{t:Sem α}{Q:α->Shared->Prop}(h:bC S.lite.X S.M A t Q s):wpAny S.M A t Q DT s:=fun Γ p hΓ=>h Γ p hΓ trivial
theorem aB.extW(E:aB S fc env loc φ s.heap)(X:bZ W φ φ' s s')(hl:¬W env.locals)(hc:∀(i:Nat) (x:Str) (c:Nat),fc.names[i]? = some x->(fc.kind x=some .cell∨fc.kind x=some .free)->env.cells.lookup x=some c->¬W c):aB S fc env loc φ' s'.heap:=
 E.ns.casesOn fun _ hm _=>hm.elim fun _ z=>z.elim fun _ z=>z.elim fun _ z=>
  { E with own:=X.own z.1 E.own,ns:=E.ns.keep X.pre fun o e=>X.keep _ _ e E.own hl,cell:=fun i x h1 h2=>(E.cell i x h1 h2).keep X.pre fun c o e n g=>⟨X.keep _ _ g n (hc i x c h1 h2 e),X.own g n⟩ }
theorem bZ.setGens{g1 g2:Array GenState}(X:bZ W φ φ' s s')(h:∃k,g2=g1++PG k .finished):bZ W φ φ' { s with gens:=g1 } { s' with gens:=g2 }:=⟨X.pre,X.new,X.keep,X.wex,X.os,h⟩
theorem St.gens{g:Array GenState}(t:St S φ H s):St S φ H { s with gens:=g }:=⟨t.base,t.rel⟩
def Np(fc:FC)(e:C)(y:Expr):Bool:=sw false y (yld:=fun o _=>o.any (fq fc e))
def ul(fc:FC)(p1:P)(it e:C)(ss:List Stmt):Bool:=ss.head?.any (IN fc p1)&&(one? ss.tail).any fun s=>(Cv s).any fun u=>u.2.2.2.isEmpty&&(oi fc (.one 3) u.1&&(fq fc it u.2.1&&(ii u.2.1&&(one? u.2.2.1).any fun b=>(xz b).any (Np fc e))))
theorem Cd{o:Expr}{e:C}:Np fc e o=true->∃y p,o=.Yield (some y) p/\fq fc e y=true:=cM (P:=fun b o=>b=true->∃y p,o=.Yield (some y) p/\fq fc e y=true) (fun _=>ae) (fun _ _ _=>ae) (fun _ _=>ae) (fun _ _ _ _=>ae) (fun _ _ _=>ae) (fun _ _ _ _=>ae) (fun _ _ _ _=>ae) (fun _ _ _=>ae) (fun _ _ _=>ae) (fun _ _ _ _=>ae) (fun _ _=>ae) (fun _ _ _=>ae) (fun _ _ _ _=>ae) (fun _ _ _ _=>ae) (fun _ _ _=>ae) (fun _ _ _=>ae) (fun _ _ _=>ae) (fun _ _=>ae) (fun _ _ _ _=>ae) (fun _ _ _ _ _=>ae) (by exact fun o p h=>aZ (dF h) fun y z g=>⟨y,p,congrArg (Expr.Yield · p) z,g⟩) o
theorem CV{p1:P}{it e:C}{ss:List Stmt}(h:ul fc p1 it e ss=true){kP:Prop}(kK:∀s1 t i y yp ep p,ss=[s1,.For t i [.Expr (.Yield (some y) yp) ep] [] p]->IN fc p1 s1=true->oi fc (.one 3) t=true->fq fc it i=true->ii i=true->fq fc e y=true->kP):kP:=by
 refine cG h fun s1 z h1 h=>aZ (dF h) fun s2 y h=>MB (pA h) fun t i b els p w h=>M6 h fun h2 h3 h4 h5 h=>aZ (dF h) fun bb x h=>eu (qF h) fun ye ep v h=>eu (Cd h) fun yy yp g h=>kK s1 t i yy yp ep p ?_ h1 h3 h4 h5 h;exact z.trans (congrArg (s1::·) ((gL y).trans (congrArg (fun x=>[x]) (w.trans ((congrArg (fun b=>Stmt.For t i b els p) ((gL x).trans (congrArg (fun x=>[x]) (v.trans (congrArg (fun y=>Stmt.Expr y ep) g))))).trans (congrArg (Stmt.For t i _ · p) (mJ h2)))))))
theorem eT.overL{A:Around}{n:Nat}{t:Expr}{I:Value}{b:List Stmt}{env env':Env}{body:List Stmt}{k g l q}(a:eT A (n+1)):eT (A.over (.forLoop t I b [] env) [.ret k none g l (.func body env') q []]) n:=by
 refine⟨?_,?_,?_⟩
 ·refine(?_:(marksOver [_] (A.handled,A.handled)).1=none);refine er a.hd ?_;rfl
 ·have:=a.dp;refine(?_:A.depth+frameCount [(Code.func body env',q)]+(Code.forLoop t I b [] env).weight+4*n<_);have e1:frameCount [(Code.func body env',q)]=1:=rfl;have e2:(Code.forLoop t I b [] env).weight=0:=rfl;exact J5 this e2 e1
 ·have:=a.un;refine(?_:A.units+PySem.unitsOf [(Code.func body env',q)]+(Code.forLoop t I b [] env).cUnits+20*n+10<_);have e1:PySem.unitsOf [(Code.func body env',q)]=3:=rfl;have e2:(Code.forLoop t I b [] env).cUnits=0:=rfl;exact F4 this e2 e1
theorem eT.overN{A:Around}{n:Nat}{env:Env}{body:List Stmt}(a:eT A (n+1)):eT (A.over (.func body env) []) n:=by
 refine⟨?_,?_,?_⟩
 ·refine(?_:(marksOver [] (A.handled,A.handled)).1=none);refine er a.hd ?_;rfl
 ·haveI:=a.dp;refine(?_:A.depth+frameCount []+(Code.func body env).weight+4*n<_);haveI e2:(Code.func body env).weight=1:=rfl;haveI e1:frameCount []=0:=rfl;lia
 ·haveI:=a.un;refine(?_:A.units+PySem.unitsOf []+(Code.func body env).cUnits+20*n+10<_);haveI e2:(Code.func body env).cUnits=3:=rfl;haveI e1:PySem.unitsOf []=0:=rfl;lia
end
end
section
mutual #where
variable {S:be} {A:Around} {fcg:FC} {env:Env} {s0:Shared} {f sN a cnt:Nat} {F:FD} {sc:SD} {Cn:Nat->Fp->List O->Shared->Prop}
abbrev yt(f sN a:Nat)(z:Option V):aW:=[some (.obj f),some (.obj sN),some (.int a),z]
def gW(fcg:FC)(env:Env)(I:Nat)(b:Nat):Prop:=d9 fcg env b∨b=I
structure I0(S:be)(fcg:FC)(env:Env)(s0:Shared)(f sN a cnt:Nat)(F:FD)(sc:SD)(I j i:Nat)(φ:Fp)(H:List O)(s:Shared):Prop where
 st:St S φ H s
 eo:∃z,aB S fcg env (yt f sN a z) φ s.heap
 it:cD φ H s.heap I (.obj j) i
 no:¬fV φ I
 new:s0.heap.get? I=none
 low:S.h₀.get? I=none
 out:env.locals≠I/\∀(i:Nat) (x:Str) (c:Nat),fcg.names[i]? = some x->(fcg.kind x=some .cell∨fcg.kind x=some .free)->env.cells.lookup x=some c->c≠I
 rng:H[j]? = some (.rng 0 cnt 1)
 fr:aQ (fun _=>True) H f F
 sa:aY (fun _=>True) H sN sc
def IY(S:be)(fcg:FC)(env:Env)(s0:Shared)(f sN a cnt:Nat)(F:FD)(sc:SD)(Cn:Nat->Fp->List O->Shared->Prop):Protocol:=fun m s₀ v s kap=>∃(I j i:Nat) (φ:Fp) (H:List O) (φ':Fp) (H':List O) (u:Nat),(i+m=cnt/\0<m)/\Cn i φ H s₀/\bZ (gW fcg env I) φ φ' s₀ s/\I0 S fcg env s0 f sN a cnt F sc I j (i+1) φ' H' s/\VR φ' (.obj u) v/\
 (H.length<=u/\∃ks,H'[u]? = some (.list (ks.map .obj))/\cb (H.length<=·) H' ks (dS F sc (i % a) (i / a)))/\cg H H'/\∀s'',(∃φ'' H'',I0 S fcg env s0 f sN a cnt F sc I j (i+1) φ'' H'' s''/\Cn (i+1) φ'' H'' s'')->kap (.send .none) s''
def Ox(S:be)(fcg:FC)(env:Env)(s0:Shared)(cnt:Nat)(Cn:Nat->Fp->List O->Shared->Prop)(s₀ s₁:Shared):Prop:=∃(I:Nat) (φ:Fp) (H:List O) (φ':Fp) (s:Shared) (h':Heap),Cn cnt φ H s₀/\bZ (gW fcg env I) φ φ' s₀ s/\s₁={ s with heap:=h' }/\PN I s.heap h'/\St S φ' H s₁/\s0.heap.get? I=none
def IZ(S:be)(fcg:FC)(env:Env)(s0:Shared)(cnt:Nat)(Cn:Nat->Fp->List O->Shared->Prop):GenEnd:=fun _ s₀ r s₁=>r=.ok (.ret .none)/\Ox S fcg env s0 cnt Cn s₀ s₁
abbrev Hl:C:=.fcall 2 (.cons (.loc 0) (.cons (.loc 1) (.cons (.bin .Mod (.loc 3) (.loc 2)) (.cons (.bin .FloorDiv (.loc 3) (.loc 2)) .nil))))
theorem bZ.wide{W W':Nat->Prop}{φ φ':Fp}{s s':Shared}(X:bZ W φ φ' s s')(h:∀b,W b->W' b)(h2:∀b,W' b->¬W b->¬fV φ b):bZ W' φ φ' s s' where
 pre:=X.pre
 new:=X.new
 keep:=fun b o e n w=>X.keep b o e n fun z=>w (h b z)
 wex:=fun b o w e=>by
  by_cases z:W b
  ·exact X.wex b o z e
  ·exact⟨o,X.keep b o e (h2 b w z) z⟩
 os:=X.os
 gens:=X.gens
theorem jT{loc:aW}{φ:Fp}{h:Heap}{I:Nat}(E:aB S fcg env loc φ h)(n:¬fV φ I):∀b,gW fcg env I b->¬fV φ b:=fun b w=>by
 rcases w with (rfl | ⟨i,x,g1,g2,g3⟩) | rfl
 ·exact E.own
 ·obtain⟨c,a1,_,_,a4,_⟩:=E.cell i x g1 g2;exact el (Option.some.inj (a1.symm.trans g3)) a4
 ·exact n
theorem bZ.butI{W:Nat->Prop}{φ φ':Fp}{s s':Shared}{h':Heap}{tk I:Nat}(X:bZ W φ φ' s s')(k:PN I s'.heap h')(w:W I)(ex:∃o,h'.get? I=some o):bZ W φ φ' s { s' with heap:=h',toks:=tk } where
 pre:=X.pre
 new:=X.new
 keep:=fun b o e n' wb=>k b o (fun z=>wb (z▸w)) (X.keep b o e n' wb)
 wex:=fun b o wb e=>by
  refine b7 (X.wex b o wb e) fun o' e'=>?_;by_cases z:b=I
  ·exact er z ex
  ·exact⟨o',k b o' z e'⟩
 os:=X.os
 gens:=X.gens
theorem yq(ok:OKl S)(o:F.OK)(so:sc.OK F)(ao:eT A 7){t e:Expr}{yp p1:Pos}{bodyf:List Stmt}{k:Result->Sem Fin}{l:List Value}{q:Pos}(okt:oi fcg (.one 3) t=true)(oke:fq fcg Hl e=true)(hco:fcg.scope.isCoroutine=false)(hint:interactive env=false)
  (ha:0<a/\a<1000) (hc:cnt<=50) (hb:∀i,i<cnt->i % a<10/\i / a<10) (hk:k (.ok .next)=.pure (.done (.ret .none))) :
  ∀(n i:Nat) (s₀ s:Shared) (φ0 φ:Fp) (H0 H:List O) (I j:Nat),i+n=cnt->(n=0->H0=H)->Cn i φ0 H0 s₀->bZ (gW fcg env I) φ0 φ s₀ s->cg H0 H->I0 S fcg env s0 f sN a cnt F sc I j i φ H s->
   Seg S.M A (IZ S fcg env s0 cnt Cn) (IY S fcg env s0 f sN a cnt F sc Cn) (n+1) s₀ (.forLoop t (.ref I) [.Expr (.Yield (some e) yp) p1] [] env) (S.M.den (.forLoop t (.ref I) [.Expr (.Yield (some e) yp) p1] [] env)) [.ret k none false l (.func bodyf env) q []] s:=by
 intro m_;induction m_ with
 | zero=>
  intro i s₀ s φ0 φ H0 H I j hi hH hC X P g;refine lR ?_;haveI hall:=aX g.rng (by decide) (by lia:-1000000<(cnt:Int)/\(cnt:Int)<1000000);refine lD ao.overL.hd g.st g.it hall (by unfold cQ;simp;lia) fun h5 eb5=>seg_leaf (.ok .next) ?_;refine er hk ?_;obtain rfl:=hH rfl;haveI hi':i=cnt:=by assumption
  refine el hi' ?_;refine seg_end (.ok (.ret .none)) ⟨rfl,I,φ0,H0,φ,s,h5,hC,X,rfl,eb5,g.st.but eb5 g.no g.low,g.new⟩
 | succ n ih_=>
  intro i s₀ s φ0 φ H0 H I j hi hH hC X P g;have hall:=aX g.rng (by decide) (by lia:-1000000<(cnt:Int)/\(cnt:Int)<1000000);refine lR ?_;have ao6:eT (A.over (.forLoop t (.ref I) [.Expr (.Yield (some e) yp) p1] [] env) [.ret k none false l (.func bodyf env) q []]) 6:=ao.overL;have hit:(cQ 0 ((cnt:Int) - 0).toNat)[i]? = some (.int (i:Nat)):=by refine er O5 (er (Ru (Ku hi)) ?_);simp
  refine jM g.st g.it hall hit fun h5 tk5 u5 ru eb5 it5=>b7 g.eo fun z eo=>?_
  let s5:Shared:={ s with heap:=h5,toks:=tk5 }
  have T5:St S φ H s5:=g.st.but eb5 g.no g.low;have E5:=eo.but eb5 g.out;refine aZ it5.ex fun o5 ho5 _=>?_;haveI X5:bZ (gW fcg env I) φ0 φ s₀ s5:=X.butI eb5 (.inr rfl) ⟨o5,ho5⟩;refine lj (s:=s5) it5 ?_;refine j9 (QT:=fun l'=>l'=yt f sN a (some (.int (i:Nat)))) ao6.hd okt T5 E5 ru rfl fun s6 l6 X6 T6 E6 q6=>?_;intro Hx;refine seg_execs_cons ?_;subst q6;haveI notW:¬d9 fcg env I:=fun w=>by
   rcases w with e1 | ⟨i,x,g1,g2,g3⟩
   ·exact g.out.1 e1.symm
   ·exact g.out.2 i x I g1 g2 g3 rfl
  have it6:=it5.keep (Pw _) (fun _ _=>rfl) fun o e=>X6.keep _ _ e g.no notW;haveI hbi:=hb i (DH hi);refine dQ (pi ok.lite o so g.fr g.sa hbi.1 hbi.2) fun H' u cu hu q_a pu=>aZ q_a fun ks u1 u2=>?_;have ev:EV S.lite 6 Hl (yt f sN a (some (.int (i:Nat)))) H (.obj u) H':=
   EV.fcall rfl (.cons (ad rfl) (.cons (ad rfl) (.cons (au (EV.mod (ad rfl) (ad rfl) (Ft ha.1)) (by exact er (RX _ z0) ((Int.natCast_emod i a).symm))) (.cons (au (EV.fdiv (ad rfl) (ad rfl) ⟨Ft ha.1,av Bq (by lia)⟩) (by exact er (QR _ z0) ((Int.natCast_ediv i a).symm))) .nil)))) cu (by decide)
  refine seg_Expr_Yield rfl rfl rfl (wpAny_mono (nT (ev (fun v Hv=>v=.obj u/\Hv=H') ⟨rfl,rfl⟩ _ _ ok.lite.toSysOK oke _ env φ s6 ao6 T6.lite E6.lite)) (fun v s7 hv kap hkap=>?_) fun _ _ e=>e.elim) ?_ hint
  ·obtain⟨φ7,H7,v7,X7,T7,r7,rfl,rfl⟩:=hv;have it7:cD φ7 H7 s7.heap I (.obj j) (i+1):=it6.keep X7.pre (fun i e=>by refine el (V.noConfusion e id) ?_;exact er g.rng (pu.at_ _ _ g.rng trivial)) fun o e=>X7.keep _ _ e g.no id;refine aZ it6.ex fun o6 ho6 _=>?_;haveI g7:I0 S fcg env s0 f sN a cnt F sc I j (i+1) φ7 H7 s7:=⟨T7.full,⟨_,E6.ext X7⟩,it7,X7.own ho6 g.no,g.new,g.low,g.out,pu.at_ _ _ g.rng trivial,g.fr.keep pu fun _ _ _ _=>trivial,g.sa.keep pu fun _ _ _ _=>trivial⟩;refine⟨I,j,i,φ0,H0,φ7,H7,u,⟨by assumption,PW _ _⟩,hC,?_,g7,r7,⟨Oz P.len hu,ks,u1,?_⟩,P.trans pu,fun s'' hs=>hkap (x:=.none) s'' ?_⟩
   ·exact(X5.trans (X6.wide (fun b w=>.inl w) fun b w _=>jT E5 g.no b w)).trans (X7.wide (fun b w=>w.elim) fun b w _=>jT E6 g.no b w)
   ·exact F2.imp (fun _ _ h=>⟨Oz P.len h.1,h.2⟩) u2
   ·refine eu hs fun φ8 H8 g8 C8=>seg_again rfl ?_;exact ih_ (i+1) s'' s'' φ8 φ8 H8 H8 I j (B7 hi) (fun _=>rfl) C8 .refl .refl g8
  ·exact er E6.scope hco
end
end
section
mutual #where
variable {S:be} {A:Around} {fcg:FC} {env:Env} {s0:Shared} {f sN:Nat} {F:FD} {sc:SD} {Cn:Nat->Fp->List O->Shared->Prop}
abbrev IS:P:=.asg (.one 2) (.fcall 0 (.cons (.loc 0) (.cons (.loc 1) .nil)))
abbrev IT:C:=.bcall .range (.cons (.fcall 1 (.cons (.loc 0) (.cons (.loc 1) .nil))) .nil)
theorem ud{φ φ':Fp}(h:φ <+: φ'){b:Nat}(n:¬fV φ' b):¬fV φ b:=fun y_49=>aZ y_49 fun p hp e=>n (bN p (h.subset hp) e)
theorem vH(ok:OKl S)(o:F.OK)(so:sc.OK F)(ao:eT A 7){body:List Stmt}(hbody:ul fcg IS IT Hl body=true)(hco:fcg.scope.isCoroutine=false)(hint:interactive env=false)
  (ha:0<bI F sc/\bI F sc<1000) (hc:bL F sc<=50) (hb:∀i,i<bL F sc->i % bI F sc<10/\i / bI F sc<10) {s₀:Shared} {φ:Fp} {H:List O} (T:St S φ H s₀) (E:aB S fcg env [some (.obj f),some (.obj sN),none,none] φ s₀.heap)
  (fr:aQ (fun _=>True) H f F) (sa:aY (fun _=>True) H sN sc) (h0:Cn 0 φ H s₀) (fresh:∀b,s₀.heap.get? b=none->s0.heap.get? b=none) (hn:0<bL F sc) :
  Seg S.M A (IZ S fcg env s0 (bL F sc) Cn) (IY S fcg env s0 f sN (bI F sc) (bL F sc) F sc Cn) (bL F sc+1) s₀ (.func body env) (S.M.den (.func body env)) [] s₀:=by
 ·refine CV hbody fun s1 t it e yp p1 p2 z k1 k2 k3 k4 k5=>?_;clear hbody;refine er z ?_;have ao6:eT (A.over (.func [s1,.For t it [.Expr (.Yield (some e) yp) p1] [] p2] env) []) 6:=ao.overN;refine aZ (rT ok.lite o so fr sa) fun H1 c1 P1=>seg_func (seg_execs_cons ?_);have fr1:=fr.keep P1 fun _ _ _ _=>trivial;have sa1:=sa.keep P1 fun _ _ _ _=>trivial;have v1:vS S.lite 6 IS [some (.obj f),some (.obj sN),none,none] H (fun fl l' H'=>fl=.next/\l'=yt f sN (bI F sc) none/\H'=H1):=by
   exact vS.asgT (EV.fcall rfl (.cons (ad rfl) (.cons (ad rfl) .nil)) c1 (by decide)) (bT rfl rfl rfl)
  refine seg_wrap (wpAny_mono (nT (v1 _ _ ok.lite.toSysOK k1 _ env φ s₀ ao6 T.lite E.lite)) (fun fl s1' hv=>?_) fun _ _ e=>e.elim);obtain⟨φ1,H1',l1,fa,X1,T1,E1,r1,rfl,rfl,rfl⟩:=hv;refine er r1 ?_;refine seg_execs_cons ?_;refine aZ (tz ok.lite o so fr1 sa1) fun H2 c2 P2=>?_;have ev:EV S.lite 6 IT (yt f sN (bI F sc) none) H1' (.obj H2.length) (H2++[.rng 0 (bL F sc) 1]):=bV (EV.fcall rfl (.cons (ad rfl) (.cons (ad rfl) .nil)) c2 (by decide));refine zV (pM k4 env) ?_;refine wpAny_mono (nT (ev (fun v Hv=>v=.obj H2.length/\Hv=H2++[.rng 0 (bL F sc) 1]) ⟨rfl,rfl⟩ _ _ ok.lite.toSysOK k3 _ env φ1 s1' ao6 T1 E1)) (fun v s2 hv=>?_) fun _ _ e=>e.elim;obtain⟨φ2,H2',v2,X2,T2,r2,rfl,rfl⟩:=hv;haveI P3:cg H1' (H2++[.rng 0 (bL F sc) 1]):=P2.trans (.app .refl);haveI hr:(H2++[O.rng 0 (bL F sc) 1])[H2.length]? = some (.rng 0 (bL F sc) 1):=aj;haveI hall:=aX hr (by decide) (by lia:-1000000<((bL F sc):Int)/\((bL F sc):Int)<1000000);refine jQ T2.full r2 hall fun h3 kp3 it3=>?_;haveI aI:cX s2.heap s2.heap.objs.size:=bw;generalize hI:s2.heap.objs.size=I at it3 aI⊢;intro k h g l q hk1 hh hg;subst hh hg;haveI T3:St S φ2 (H2++[.rng 0 (bL F sc) 1]) { s2 with heap:=h3 }:=⟨fun b o e=>kp3 b o (T2.base b o e),T2.rel.ext fun b o e _=>kp3 b o e⟩;haveI X3:bZ fL φ2 φ2 s2 { s2 with heap:=h3 }:=bZ.grow fun b o e _=>kp3 b o e;have nI:¬fV φ2 I:=fun w=>by refine b7 (T2.rel.own_ex w) fun o e=>?_;exact Pv _ (aI _ _ e)
  haveI hI0:S.h₀.get? I=none:=cq fun b o e=>aI b o (T2.base b o e);haveI nI1:=ud X2.pre nI;haveI nI0:=ud X1.pre nI1;haveI g2:=cq aI;haveI eW:¬d9 fcg env I:=fun w=>by
   have o2:=(E1.full.ext X2).out g2;rcases w with e | ⟨i,x,q1,q2,q3⟩
   ·exact o2.1 e.symm
   ·exact o2.2 i x I q1 q2 q3 rfl
  haveI sI:s₀.heap.get? I=none:=by
   cases hz:s₀.heap.get? I with
   | none=>rfl
   | some oz=>exact(Pv _ (aI _ _ (X2.keep _ _ (X1.keep _ _ hz nI0 eW) nI1 id))).elim
  haveI oI:=E.out sI;exact yq ok o so ao k2 k5 hco hint ha hc hb (hk1.trans rfl) (bL F sc) 0 s₀ _ φ φ2 H _ I H2.length Ca (fun z=>F3 z hn) h0
   (((X1.wide (fun b w=>.inl w) fun b w _=>jT E nI0 b w).trans (X2.wide (fun b w=>w.elim) fun b w _=>jT E1.full nI1 b w)).trans (X3.wide (fun b w=>w.elim) fun b w _=>jT (E1.full.ext X2) nI b w))
   (P1.trans P3) ⟨T3,⟨none,(E1.full.ext X2).ext X3⟩,it3,nI,fresh _ sI,hI0,oI,hr,fr1.keep P3 fun _ _ _ _=>trivial,sa1.keep P3 fun _ _ _ _=>trivial⟩
end
end
section
mutual #where
variable {S:be} {A:Around} {φ φ':Fp} {H H':List O} {s s':Shared} {fc:FC} {env:Env} {n:Nat}
def gQ(K:Frag):Bool:=pO true K 49 [F7 "frame",F7 "scan"] [F7 "across",F7 "index"] fun fc ss=>ul fc IS IT Hl ss
theorem sh(h:gQ S.K=true){f sN:Nat}{vs:List Value}(ao:eT A (n+1))(st:St S φ H s)(rs:d8 φ [.obj f,.obj sN] vs){KK:Value->Shared->Prop}
  (k:∀fcg env body h' tk' G,ul fcg IS IT Hl body=true->fcg.scope.isCoroutine=false->interactive env=false->(∀b o,s.heap.get? b=some o->h'.get? b=some o)->aB S fcg env [some (.obj f),some (.obj sN),none,none] φ h'->(∀b,d9 fcg env b->s.heap.get? b=none)->s.heap.get? G=none->¬d9 fcg env G->h'.IsGen G s.gens.size->KK (.ref G) { s with heap:=h',toks:=tk',gens:=s.gens.push (.fresh (.func body env)) }) :
  bC S.X S.M A (call (.ref 49) vs []) KK s:=by
 unfold gQ pO at h;split at h
 ·rename_i oc od fd osl hK;simp only [Px,beq_iff_eq,decide_eq_true_eq,Qz,Q5,Qo,O6,QH,bne_iff_ne] at h;refine ba h fun q_a c17=>ba q_a fun q_b c16=>ba q_b fun q_c c15=>ba q_c fun q_d c14=>ba q_d fun q_e c13=>ba q_e fun q_f c12=>ba q_f fun q_g c11=>ba q_g fun q_h c10=>ba q_h fun q_i c9=>ba q_i fun q_j c8=>ba q_j fun q_k c7=>ba q_k fun q_l c6=>fM q_l fun q_n c4 c5=>fM q_n fun c1 c2 c3=>?_;split at c1
  ·rename_i body hbd;have lv:=rs.length;have hbind:=uA c2 c3 c4 c5 c6 c7 (by assumption) (PZ.mp c15).1;refine aK (wpAny_call (codeAny_call_generator ao.room (st.kin _ _ hK) rfl c14 c13 hbd (codeRec_of st.kin c11) ?_));refine er hbind (er c10 ?_);refine wpAny_pure (wpAny_newFunctionEnv_cells c12 (fun p hp=>?_) fun env he s₁ ic=>?_)
   ·rcases c16 p.1 (RN hp).1 with q | q
    ·exact .inl q
    ·exact .inr ⟨q,cellsFrom_some _ _ _ (.inl q)⟩
   ·haveI he:env=callEnvC fd s.heap.objs.size 49:=he;subst he;refine sn (yu st rs rfl c8 c9 c12 c15 c17 c16 ic) fun X0 T1 eo hW=>⟨T1.lim,?_⟩;refine mO ic.toInCall.same fun h1 tk1 e1=>?_;haveI kp:=ic.toInCall.keep;subst e1;refine k _ _ _ _ _ _ c1 c14 (by unfold interactive;refine er (show(callEnvC fd s.heap.objs.size 49).scope.kind=.function from c12) ?_;rfl) (fun b o e=>OV _ (kp b o e)) ?_ hW ?_ ?_ (GE _ _ _ (Pe _ rfl) rfl rfl rfl)
    ·exact eo.ext (s':={ s with heap:=h1.push _,toks:=tk1 }) (bZ.grow fun b o e _=>OV _ e)
    ·cases hz:s.heap.get? h1.objs.size with
     | none=>rfl
     | some oz=>exact(Pv _ (Qu (kp _ _ hz))).elim
    ·haveI g2:h1.get? h1.objs.size=none:=cq bw;have o2:=aB.out eo g2;intro w;rcases w with e | ⟨i,x,q1,q2,q3⟩
     ·exact o2.1 e.symm
     ·exact o2.2 i x _ q1 q2 q3 rfl
  ·exact ae c1
 ·exact ae h
end
end
section
mutual #where
variable {S:be} {A:Around} {φ φ':Fp} {H H':List O} {s s':Shared} {fc:FC} {env:Env} {n:Nat} {F:FD} {sc:SD}
abbrev GQ:Ps:=.cons (.asg (.one 6) (.bin .Add (.loc 6) (.loc 7))) .nil
abbrev MD:Cs:=.cons (.loc 0) (.cons (.loc 1) .nil)
def mG(F:FD)(sc:SD)(i:Nat):List f7:=(OT i).flatMap fun k=>dS F sc (k % bI F sc) (k / bI F sc)
theorem pt{i:Nat}:mG F sc (i+1)=mG F sc i++dS F sc (i % bI F sc) (i / bI F sc):=by
 unfold mG;refine er Re (er Sj ?_);simp
structure DA(S:be)(fc:FC)(env:Env)(loc:aW)(F:FD)(sc:SD)(φ0:Fp)(H0:List O)(sB:Shared)(i:Nat)(φ:Fp)(H:List O)(s:Shared):Prop where
 ext:bZ (d9 fc env) φ0 φ { sB with gens:=#[] } { s with gens:=#[] }
 pre:cg H0 H
 ex:∃sp ks u,aB S fc env ((loc.set 6 (some (.obj sp))).set 7 u) φ s.heap/\H[sp]? = some (.list (ks.map .obj))/\cb (H0.length<=·) H ks (mG F sc i)/\ks.length<=4*i/\(i≠0->H0.length<=sp)
theorem An{t:Expr}{G g:Nat}{u:Value}{E:Value->Shared->Prop}{Q:Unit->Shared->Prop}(r:s.heap.IsGen G g)(q:Q () s):wpAny S.M A (letOwnedTupleGo t (.ref G) u) Q E s:=by
 refine Ck r fun o nm qn ho h1 h2 h3=>?_;have body:wpAny S.M A (do
  let (.ref r,.ref a):=(Value.ref G,u) | return
  let o ← load r
  match o.cls,o.data with
  | .type n,.fields vs=>
   if ["enumerate","zip","dict_itemiterator","dict_reverseitemiterator","odict_iterator","itertools.zip_longest","itertools.pairwise"].contains n&&vs[0]? == some (rawInt a) then
    rule "for.unpacks-the-owned-tuple"
    updateField r 0 .none
  | _,_=>pure ()) Q E s:=by
  cases u with
  | ref a=>
   refine wpAny_bind (wpAny_load ho ?_);obtain⟨oc,od,odt,osl⟩:=o;dsimp only at h1 h2;subst h1 h2;exact er (by decide +kernel:(["enumerate","zip","dict_itemiterator","dict_reverseitemiterator","odict_iterator","itertools.zip_longest","itertools.pairwise"].contains "generator")=false) (wpAny_pure q)
  | _=>exact wpAny_pure q
 cases t with
 | Tuple=>exact body
 | List=>exact body
 | _=>exact wpAny_pure q
end
end
section
mutual #where
variable {S:be} {A:Around} {φ φ':Fp} {H H':List O} {s s':Shared} {fc:FC} {env:Env} {n:Nat} {F:FD} {sc:SD}
theorem bZ.dropB{W V:Nat->Prop}{φ φ1 φ':Fp}{s0 s s':Shared}(X0:bZ W φ φ1 s0 s)(X:bZ V φ1 φ' s s')(h:∀b,V b->s0.heap.get? b=none)(hn:∀b,W b->¬fV φ1 b):bZ W φ φ' s0 s' where
 pre:=X0.pre.trans X.pre
 new:=fun p hp=>by
  rcases X.new p hp with q | ⟨q1,q2,q3⟩
  ·exact X0.new p q
  ·refine .inr (bT (fun b o e=>?_) (fun q hq=>q2 q (X0.pre.subset hq)) q3);by_cases w:W b
   ·refine b7 (X0.wex b o w e) fun o' e'=>q1 _ _ e'
   ·by_cases n:fV φ b
    ·refine aZ n fun q hq e1=>?_;haveI:=q2 q (X0.pre.subset hq);rcases e1 with rfl | rfl
     ·exact this.1
     ·exact this.2
    ·exact q1 _ _ (X0.keep b o e n w)
 keep:=fun b o e n w=>X.keep b o (X0.keep b o e n w) (X0.own e n) fun z=>by rw [h b z] at e;exact aJ e
 wex:=fun b o w e=>by
  refine b7 (X0.wex b o w e) fun o' e'=>⟨o',X.keep b o' e' (hn b w) fun z=>by rw [h b z] at e;exact aJ e⟩
 os:=X.os.trans X0.os
 gens:=by
  refine b7 X0.gens fun k1 e1=>b7 X.gens fun k2 e2=>⟨k1+k2,by refine er e2 (er e1 ?_);refine er Qg (er Po ?_);rfl⟩
theorem C3{α β:Type}{R:α->β->Prop}{ys':List β}{xs':List α}(h2:F2 R xs' ys'){xs:List α}{ys:List β}(r:F2 R xs ys):F2 R (xs++xs') (ys++ys'):=by
 induction r with
 | nil=>exact h2
 | cons a _ ih=>exact .cons a ih
theorem Au(ok:OKl S)(o:F.OK){t:Expr}{b:List Stmt}{loc:aW}{φ0 φ1 φ2:Fp}{H0 H1 H2:List O}{sB s1 s2:Shared}{i:Nat}{fcg:FC}{envg:Env}{I u:Nat}{v:Value}{ks:List Nat}(okt:oi fc (.one 7) t=true)(okb:okSs fc GQ b=true)(ao:eT A 8)(hll:7<loc.length)(hi:i<50)
  (eB:aB S fc env loc φ0 sB.heap) (hW:∀b,gW fcg envg I b->sB.heap.get? b=none) (c:DA S fc env loc F sc φ0 H0 sB i φ1 H1 s1) (X1:bZ (gW fcg envg I) φ1 φ2 s1 s2) (T2:St S φ2 H2 s2) (r:VR φ2 (.obj u) v) (u1:H2[u]? = some (.list (ks.map .obj))) (u2:cb (H1.length<=·) H2 ks (dS F sc (i % bI F sc) (i / bI F sc))) (kl:ks.length<=4) (P:cg H1 H2) :
  bC S.X S.M A (assign t env v) (fun _ s3=>bC S.X S.M A (execs b env) (fun f s4=>f=.next/\∃φ4 H4,bZ (d9 fc env) φ2 φ4 s2 s4/\St S φ4 H4 s4/\cg H2 H4/\DA S fc env loc F sc φ0 H0 sB (i+1) φ4 H4 s4) s3) s2:=by
 refine si c.ex fun sp ks0 u0 e1 h1 h2 h3 _=>?_;have nW:∀b,d9 fc env b->¬gW fcg envg I b:=fun b w g=>by
  haveI z:=hW b g;have oB:=eB.out z;rcases w with rfl | ⟨i,x,q1,q2,q3⟩
  ·exact oB.1 rfl
  ·exact oB.2 i x b q1 q2 q3 rfl
 haveI e2:=e1.extW X1 (fun w=>nW _ (.inl rfl) w) fun i x c q1 q2 q3 w=>nW _ (.inr (lN i x q1 q2 q3)) w;refine aK (j9 ao.hd okt T2 e2 r (by unfold GN;dsimp only;rw [S3]) fun s3 l3 X3 T3 E3 q3=>?_);haveI l6:dE ((loc.set 6 (some (.obj sp))).set 7 (some (.obj u))) 6=some (.obj sp):=by
  unfold dE;refine er (O7 (by decide)) (er (Pl (O0 ‹_›)) ?_);rfl
 haveI l7:dE ((loc.set 6 (some (.obj sp))).set 7 (some (.obj u))) 7=some (.obj u):=by
  unfold dE;refine er (Pl (by refine er OW ?_;assumption)) ?_;rfl
 subst q3;have g1:=P.at_ _ _ h1 trivial;haveI vs:bH S 8 GQ ((loc.set 6 (some (.obj sp))).set 7 (some (.obj u))) H2 (fun fl l' H'=>fl=.next/\l'=(loc.set 6 (some (.obj H2.length))).set 7 (some (.obj u))/\H'=H2++[.list (ks0.map .obj++ks.map .obj)]):=
  aD (EV.cat (ad l6) (ad l7) g1 u1 (by rw [OJ,OJ];exact F1 hi kl h3)) (W.nil (bT rfl (by refine er (SY _ _ (by decide)) ?_;rw [S3]) rfl))
 refine aH (vs _ _ ok.toSysOK okb A env φ2 s3 ao T3 E3) fun fl s4 ⟨φ4,H4,l4,fa,X4,T4,E4,r4,q4⟩=>dN q4 fun q_a q_b q_c=>?_;obtain rfl:=q_a;obtain rfl:=q_b;refine er r4 ?_;obtain rfl:=q_c;haveI P4:cg H2 (H2++[O.list (ks0.map .obj++ks.map .obj)]):=.app .refl;haveI X24:=X3.trans X4;have hl1:=c.pre.len;refine⟨rfl,φ4,_,X24,T4,P4,⟨?_,c.pre.trans (P.trans P4),H2.length,ks0++ks,some (.obj u),E4,by exact er O2 aj,?_,by refine er OA ?_;omega,fun _=>Oz hl1 P.len⟩⟩
 ·haveI en:=fun b w=>jT e1 e1.own b (.inl w);exact(c.ext.dropB (X1.setGens (g2:=#[]) ⟨0,by simp⟩) hW en).trans (X24.setGens ⟨0,by simp⟩)
 ·exact er pt (C3 (F2.imp (fun _ _ h=>⟨Oz hl1 h.1,P4.at_ _ _ h.2 trivial⟩) u2) (F2.imp (fun _ _ h=>⟨h.1,(P.trans P4).at_ _ _ h.2 trivial⟩) h2))
end
end
section
mutual #where
variable {S:be} {fc:FC} {n:Nat} {F:FD} {sc:SD} {H:List O}
theorem At{G0:Array GenState}{gs:GenState}{k:Nat}:(G0.push gs++PG k .finished)[G0.size]? = some gs:=by
 refine er (Array.getElem?_append_left (by simp)) ?_;simp
theorem kD{G0:Array GenState}{gs g2:GenState}{k:Nat}{s:Shared}(h:s.gens=G0.push gs++PG k .finished):(s.setGen G0.size g2).gens=G0.push g2++PG k .finished:=by
 refine(?_:(s.gens.set! G0.size g2)=_);refine er h ?_;apply Array.ext';refine er Array.toList_set! ?_;simp
end
end
section
mutual #where
variable {S:be} {fc:FC} {n:Nat} {F:FD} {sc:SD}
def I2(S:be)(fc:FC)(env:Env)(loc:aW)(F:FD)(sc:SD)(φ0:Fp)(H0:List O)(sB:Shared)(G i:Nat)(φ:Fp)(H:List O)(s:Shared):Prop:=DA S fc env loc F sc φ0 H0 sB i φ H s/\¬fV φ G
theorem yo(ok:OKl S)(o:F.OK)(so:sc.OK F){A:Around}{env:Env}{t:Expr}{b:List Stmt}{loc:aW}{fcg:FC}{envg:Env}{f sN G:Nat}{φ2:Fp}{H2:List O}{s2 sG:Shared}{cnt:Nat}(hcnt:cnt=bL F sc)(okt:oi fc (.one 7) t=true)(okb:okSs fc GQ b=true)(ao:eT A 8)(hll:7<loc.length)
  (hc:cnt<=49) (hu:∀x y,(dS F sc x y).length<=4) (eB:aB S fc env loc φ2 s2.heap) (kp:∀b o,s2.heap.get? b=some o->sG.heap.get? b=some o) (fresh:∀b,d9 fcg envg b->s2.heap.get? b=none) (gN:s2.heap.get? G=none) (gE:¬d9 fcg envg G) (gX:∃o,sG.heap.get? G=some o) (nG:¬fV φ2 G) :
  ∀nn s,(∃(i:Nat) (φ:Fp) (H:List O) (gs:GenState) (k:Nat),(i<=cnt/\nn=cnt+1 - i)/\DA S fc env loc F sc φ2 H2 s2 i φ H s/\St S φ H s/\¬fV φ G/\s.heap.IsGen G s2.gens.size/\s.gens=s2.gens.push gs++PG k .finished/\
    gs.Goes S.M A.in1 (IZ S fcg envg sG cnt (I2 S fc env loc F sc φ2 H2 s2 G)) (IY S fcg envg sG f sN (bI F sc) cnt F sc (I2 S fc env loc F sc φ2 H2 s2 G)) (cnt - i+1) (.send .none) (s.setGen s2.gens.size .running))->
   cB S.X S.M A (.forLoop t (.ref G) b [] env) (fun fl s'=>fl=.next/\∃φ' H' k,DA S fc env loc F sc φ2 H2 s2 cnt φ' H' s'/\St S φ' H' s'/\s'.gens=s2.gens++PG k .finished) s:=by
 intro nn s hI;refine jG S.xok (fun nn s=>(∃(i:Nat) (φ:Fp) (H:List O) (gs:GenState) (k:Nat),(i<=cnt/\nn=cnt+1 - i)/\DA S fc env loc F sc φ2 H2 s2 i φ H s/\St S φ H s/\¬fV φ G/\s.heap.IsGen G s2.gens.size/\s.gens=s2.gens.push gs++PG k .finished/\
    gs.Goes S.M A.in1 (IZ S fcg envg sG cnt (I2 S fc env loc F sc φ2 H2 s2 G)) (IY S fcg envg sG f sN (bI F sc) cnt F sc (I2 S fc env loc F sc φ2 H2 s2 G)) (cnt - i+1) (.send .none) (s.setGen s2.gens.size .running))) (fun nn s hs=>?_) nn hI
 refine IH hs fun i φ H gs k q_a c T nGo isG hg goes=>ba q_a fun hi q_b=>er q_b ?_;refine aK (wpAny_pyNext_gen ao.hd T.lim ao.room isG (by exact er hg At) goes (fun v s₁ gs' hy=>?_) fun s₁ hp h' kp'=>?_)
 ·refine IF hy fun I j i' φ1 H1 φ3 H3 q_a=>N8 q_a fun u q_b q_c X1 g1 r1 q_d P1 kap=>ba q_b fun e1 e2=>ba q_c fun C1 nG1=>ba q_d fun hu1 q_e=>aZ q_e fun ks u1 u2=>?_;haveI ei:=Kt e1 e2;have hW:∀b,gW fcg envg I b->s2.heap.get? b=none:=fun b w=>by
   rcases w with w | rfl
   ·exact fresh b w
   ·cases hz:s2.heap.get? b with
    | none=>rfl
    | some oz=>haveI:=kp _ _ hz;rw [g1.new] at this;exact aJ this
  subst ei;haveI nGW:¬gW fcg envg I G:=fun w=>by
   rcases w with w | e
   ·exact gE w
   ·refine b7 gX fun oG hG=>?_;rw [e,g1.new] at hG;exact aJ hG
  have isG1:s₁.heap.IsGen G s2.gens.size:=by
   refine fP isG fun oG nm qn hG rest=>qe oG nm qn (X1.keep _ _ hG nG1 nGW) rest
  haveI nG3:¬fV φ3 G:=by
   refine fP isG fun oG nm qn hG rest=>X1.own hG nG1
  refine b7 X1.gens fun k1 hg1=>?_;haveI hg2:s₁.gens=s2.gens.push .running++PG (k+k1) .finished:=by
   refine er hg1 (er (kD hg) ?_);refine er Qg (er Po ?_);rfl
  haveI hg3:=kD (g2:=gs') hg2;haveI T3:St S φ3 H3 (s₁.setGen s2.gens.size gs'):=g1.st.gens;haveI X3:bZ (gW fcg envg I) φ1 φ3 { s with gens:=(s₁.setGen s2.gens.size gs').gens } (s₁.setGen s2.gens.size gs'):=X1.setGens (g2:=(s₁.setGen s2.gens.size gs').gens) ⟨0,rfl⟩;refine aK (An isG1 ?_);refine aH (Au (s1:={ s with gens:=(s₁.setGen s2.gens.size gs').gens }) ok o okt okb ao hll (KF hi hc) eB hW ⟨C1.ext,C1.pre,C1.ex⟩ X3 T3 r1 u1 u2 (by exact el u2.length (hu _ _)) P1) fun _ s3 h3=>aH h3 fun fl s4 h4=>ba h4 fun q_a q_b=>dQ q_b fun φ4 H4 X4 T4 P4 C4=>er q_a ?_;refine b7 X4.gens fun k2 hg4=>?_;haveI hg5:s4.gens=s2.gens.push gs'++PG (k+k1+k2) .finished:=by
   refine er hg4 (er hg3 ?_);refine er Qg (er Po ?_);rfl
  haveI nWG:¬d9 fc env G:=fun w=>by
   haveI oB:=eB.out gN;rcases w with e | ⟨i,x,q1,q2,q3⟩
   ·exact oB.1 e.symm
   ·exact oB.2 i x G q1 q2 q3 rfl
  haveI nG4:¬fV φ4 G:=by
   refine fP isG1 fun oG nm qn hG rest=>X4.own hG nG3
  haveI isG4:s4.heap.IsGen G s2.gens.size:=by
   refine fP isG1 fun oG nm qn hG rest=>qe oG nm qn (X4.keep _ _ hG nG3 nWG) rest
  refine⟨cnt+1 - (i'+1),KC e2,i'+1,φ4,H4,gs',k+k1+k2,⟨KA e2,rfl⟩,C4,T4,nG4,isG4,hg5,?_⟩;refine er (KB e2:cnt - (i'+1)+1=cnt - i') ?_;refine kap _ (lN φ4 H4 ?_ ⟨C4.ext,C4.pre,C4.ex⟩ nG4);have nW:∀b,d9 fc env b->¬gW fcg envg I b:=fun b w g=>by
   have z:=hW b g;have oB:=eB.out z;rcases w with rfl | ⟨i,x,q1,q2,q3⟩
   ·exact oB.1 rfl
   ·exact oB.2 i x b q1 q2 q3 rfl
  refine b7 g1.eo fun z eo=>aZ g1.it.ex fun oI hoI _=>?_;haveI small:-1000000<(cnt:Int)/\(cnt:Int)<1000000:=⟨z6,Pn.mpr (Pd hc (by decide))⟩;exact⟨T4.gens,⟨z,aB.extW (s:=s₁.setGen s2.gens.size gs') (s':=s4) eo X4 (fun w=>nW _ w (.inl (.inl rfl))) fun i x c q1 q2 q3 w=>nW _ w (.inl (.inr (lN i x q1 q2 q3)))⟩,
   g1.it.keep X4.pre (fun i e=>by refine el (V.noConfusion e id) ?_;exact er g1.rng (P4.at_ _ _ g1.rng trivial)) (fun o e=>X4.keep _ _ e g1.no fun w=>nW _ w (.inr rfl)),
   X4.own hoI g1.no,g1.new,g1.low,g1.out,P4.at_ _ _ g1.rng trivial,g1.fr.keep P4 fun _ _ _ _=>trivial,g1.sa.keep P4 fun _ _ _ _=>trivial⟩
 ·refine N0 hp fun I φ1 H1 φ3 s5 h5 q_a X1 q_b xb T5 nI=>?_;obtain rfl:=q_b;have hI2:s2.heap.get? I=none:=by
   cases hz:s2.heap.get? I with
   | none=>rfl
   | some oz=>haveI:=kp _ _ hz;rw [nI] at this;exact aJ this
  refine ba q_a fun C1 nG1=>?_;haveI hW:∀b,gW fcg envg I b->s2.heap.get? b=none:=fun b w=>by
   rcases w with w | rfl
   ·exact fresh b w
   ·exact hI2
  have nW:∀b,d9 fc env b->¬gW fcg envg I b:=fun b w g=>by
   have z:=hW b g;have oB:=eB.out z;rcases w with rfl | ⟨i,x,q1,q2,q3⟩
   ·exact oB.1 rfl
   ·exact oB.2 i x b q1 q2 q3 rfl
  refine Ck C1.ex fun sp ks0 u0 e1 h1 h2 h3=>?_;have en:=fun b w=>jT e1 e1.own b (.inl w);have e2:=aB.extW (s':=s5) e1 X1 (fun w=>nW _ (.inl rfl) w) fun i x c q1 q2 q3 w=>nW _ (.inr (lN i x q1 q2 q3)) w;refine b7 X1.gens fun k1 hg1=>?_;haveI hg2:s5.gens=s2.gens.push .running++PG (k+k1) .finished:=by
   refine er hg1 (er (kD hg) ?_);refine er Qg (er Po ?_);rfl
  haveI hg3:=kD (s:={ s5 with heap:=h5 }) (g2:=.finished) hg2;haveI out:=eB.out hI2;haveI e3:=e2.but xb out;haveI grow:bZ fL φ3 φ3 { s5 with heap:=h5,gens:=#[] } { s5 with heap:=h',gens:=#[] }:=bZ.grow fun b o e _=>kp' b o e;haveI e4:=e3.ext grow;haveI x4:=(C1.ext.dropB (X1.setGens (g2:=#[]) ⟨0,by simp⟩) hW en).but (tk:=s5.toks) xb hI2;haveI x5:=x4.trans (grow.toW e3);refine⟨rfl,φ3,H1,k+k1+1,⟨x5,C1.pre,sp,ks0,u0,e4,h1,h2,h3⟩,⟨fun b o e=>kp' b o (T5.base b o e),T5.rel.ext fun b o e _=>kp' b o e⟩,?_⟩;refine er hg3 ?_;apply Array.ext';simp [Rt]
end
end
section
mutual #where
variable {S:be} {fc:FC} {n:Nat} {F:FD} {sc:SD} {H:List O}
theorem vK(ok:OKl S)(gk:gQ S.K=true)(o:F.OK)(so:sc.OK F){loc:aW}{f sN sp:Nat}(hll:7<loc.length)
  (ha:0<bI F sc/\bI F sc<1000) (hc:bL F sc<=49) (hb:∀i,i<bL F sc->i % bI F sc<10/\i / bI F sc<10) (hn:0<bL F sc) (hu:∀x y,(dS F sc x y).length<=4)
  (l0:dE loc 0=some (.obj f)) (l1:dE loc 1=some (.obj sN)) (l6:loc[6]? = some (some (.obj sp))) (hsp:H[sp]? = some (.list [])) (fr:aQ (fun _=>True) H f F) (sa:aY (fun _=>True) H sN sc)
  {Q:Fl->aW->List O->Prop} (q:∀(ks:List Nat) (sp':Nat) (u:Option V) (H':List O),cg H H'->H'[sp']? = some (.list (ks.map .obj))->cb (H.length<=·) H' ks (bm F sc)->H.length<=sp'->Q .next ((loc.set 6 (some (.obj sp'))).set 7 u) H') :
  vS S 8 (.for_ (.one 7) (.fcall 3 MD) GQ) loc H Q:=fun fc st okk hst A env φ s ao T eo=>by
 ·refine MB (pA hst) fun t ie b els p2 z h2=>?_;clear hst;refine er z ?_;refine eJ h2 fun h3 k5 h2=>eJ h2 fun _ hie k6=>?_;clear h2;dsimp only at z hie;refine kU hie fun x px es qx z hc=>?_;clear hie;refine er z ?_;refine eJ hc fun g1 _ hc=>ba (aV hc) fun k3 k4=>?_;obtain rfl:=mJ h3;refine az (am ?_);rw [ux];haveI kp49:=ok.kp (F7 "units",V.top 49) (OC (i:=3) rfl) 49 rfl (by decide);refine am (aK (nh (v:=.top 49) okk g1 rfl T eo fun u ru=>?_));refine er ru ?_;refine lG okk k3 k4 ao T eo (fun h hb=>keeps_K kp49 h (S.kin.keeps hb)) (.cons (ad l0) (.cons (ad l1) .nil):qi S 8 MD loc H [.obj f,.obj sN] H) fun vs s2 φ2 X2 T2 rs=>sh gk ao T2 rs fun fcg envg bodyg h' tk' G c1 c2 c3 kp eg fresh gN gE isG=>ax (wpAny_of_eq rfl (az (ax (wpAny_holding (wpAny_pyIter_gen isG ?_)))));haveI E2:=eo.ext X2;have grow:bZ fL φ2 φ2 { s2 with gens:=#[] } { s2 with heap:=h',toks:=tk',gens:=#[] }:=bZ.grow fun b o e _=>kp b o e;haveI TG:St S φ2 H { s2 with heap:=h',toks:=tk',gens:=s2.gens.push (.fresh (.func bodyg envg)) }:=⟨fun b o e=>kp b o (T2.base b o e),T2.rel.ext fun b o e _=>kp b o e⟩;haveI EG:=E2.ext (s:={ s2 with gens:=#[] }) grow;haveI nG:¬fV φ2 G:=fun w=>by
   refine b7 (T2.rel.own_ex w) fun oo e=>?_;rw [gN] at e;exact aJ e
  haveI gX:∃o,h'.get? G=some o:=by refine fP isG fun oG _ _ hG _=>?_;exact⟨oG,hG⟩
  haveI lset:(loc.set 6 (some (.obj sp))).set 7 ((loc[7]?).getD none)=loc:=by
   obtain⟨h,e⟩:=OH.mp l6;refine er (show loc.set 6 (some (V.obj sp))=loc by exact el e (R9 h)) ?_;exact er (OD hll) (R9 hll)
  haveI c0:DA S fc env loc F sc φ2 H s2 0 φ2 H { s2 with heap:=h',toks:=tk',gens:=s2.gens.push (.fresh (.func bodyg envg)) }:=
   ⟨grow.toW E2,.refl,sp,[],(loc[7]?).getD none,by exact er lset EG,hsp,.nil,PF _,fun h=>absurd rfl h⟩
  refine jI S.xok (eI (yo (f:=f) (sN:=sN) (sG:={ s2 with heap:=h',toks:=tk',gens:=s2.gens.push (.fresh (.func bodyg envg)) }) ok o so rfl k5 k6 ao hll (by assumption) hu E2 kp fresh gN gE gX nG (bL F sc+1) _ (NR 0 φ2 H (.fresh (.func bodyg envg)) 0 ⟨PF _,rfl⟩ c0 TG nG isG ((Rw ..).symm) ?_)) fun fl s' hf=>?_) rfl
  ·exact⟨rfl,vH ok o so (eT.in1 ao:eT A.in1 7) c1 c2 c3 ha (Pq ‹_›) hb TG.gens eg fr sa ⟨⟨c0.ext,c0.pre,c0.ex⟩,nG⟩ (fun _ h=>h) hn⟩
  ·refine ba hf fun q_a q_b=>er q_a ?_;refine ws q_b fun φ' H' k c T' hg=>si c.ex fun sp' ks u e1 h1 h2 h3 h4=>?_;haveI X:=c.ext.setGens ⟨k,hg⟩;exact⟨φ',H',_,.next,(X2.toW eo).trans X,T',e1,rfl,q ks sp' u H' c.pre h1 h2 (h4 (uX hn))⟩
end
end
section
mutual #where
variable {S:be} {n:Nat} {H H' H1 H2 E:List O} {F:FD} {sc:SD} {R:Nat->Prop} {f s t:Nat}
abbrev Oc:Ps:=.cons (.expr (.meth (.loc 5) 48 (.cons (.loc 8) (.cons (.meth (.loc 2) 39 (.cons (.loc 9) (.cons (.loc 10) (.cons (.loc 11) .nil)))) .nil)))) .nil
abbrev Od:Ps:=.cons (.expr (.meth (.loc 3) 40 (.cons (.loc 9) (.cons (.loc 10) (.cons (.loc 11) (.cons (.meth (.loc 12) 49 (.cons (.loc 8) (.cons (.meth (.loc 3) 39 (.cons (.loc 9) (.cons (.loc 10) (.cons (.loc 11) .nil)))) .nil))) .nil)))))) .nil
def Hk(f s g kn t wr sp:Nat)(u a b c d rd:Option V):aW:=[some (.obj f),some (.obj s),some (.obj g),some (.obj kn),some (.obj t),some (.obj wr),some (.obj sp),u,a,b,c,d,rd]
def qd(F:FD)(sc:SD)(sp:f7):Prop:=sp.1<sc.places.length/\∃q,uL F sp.2.1 sp.2.2.1 sp.2.2.2 q
def cellOf(D:GD)(sp:f7):List Int:=(D sp.2.1 sp.2.2.1 sp.2.2.2).getD iH
def qW(D:GD)(sp:f7):Nat×List Int:=(sp.1,cellOf D sp)
theorem mI{D:GD}{sp:f7}(full:rY F D)(h:qd F sc sp):ze sc (qW D sp)/\D sp.2.1 sp.2.2.1 sp.2.2.2=some (cellOf D sp):=by
 refine ba h fun h1 q_a=>b7 q_a fun q h2=>eZ (full _ _ _ _ h2) fun r e r1 r2=>?_;haveI e2:cellOf D sp=r:=by unfold cellOf;refine er e ?_;rfl
 exact⟨⟨h1,by refine(?_:(cellOf D sp).length=4);exact er e2 r1,by show ∀x∈cellOf D sp,_;exact er e2 r2⟩,by exact er e2 e⟩
theorem zG(ok:OK S)(o:F.OK){X:Nat->Prop}{C fc ff d g kn sp0:Nat}{T:List Bool}{WI:List (Nat×List Int)->List O->Prop}(w:Wr S R X F s t sc C fc ff d T WI){rw:Nat->Nat->Nat}{D:GD}(full:rY F D)(hX:∀i,X i->¬R i){H0:List O}{xs:List V}(h0:H0[sp0]? = some (.list xs))(hsp:¬X sp0){u rd:Option V} :
  ∀(ks:List Nat) (ps:List f7) (H:List O) (a b c e:Option V),cb (fun i=>¬X i) H ks ps->(∀p∈ps,qd F sc p)->WI (ps.map (qW D)) H->cW R H F s t sc->bU R H g F rw D->H[sp0]? = some (.list xs)->
  ∃H' a' b' c' e',dz S 8 Oc (.many [8,9,10,11]) (aG (.obj sp0) H0) (ks.map .obj) (Hk f s g kn t d sp0 u a b c e rd) H (Hk f s g kn t d sp0 u a' b' c' e' rd) H'/\WI [] H'/\Kp (GZ X) H H':=by
 intro m_;induction m_ with
 | nil=>
  intro ps H a b c e hk _ wi _ _ hs;refine BQ fun _ kK=>?_;cases hk;exact kK H a b c e (fun Q q=>⟨hs.trans h0.symm,q⟩) wi .refl
 | cons k ks ih_=>
  intro ps H a b c e hk hp wi wa ga hs;refine BQ fun _ kK=>?_;cases hk with
  | @cons _ p _ ps k1 hk=>
   refine ba k1 fun k1 k2=>?_;haveI sp:=hp _ (.head _);refine ba (mI full sp) fun wit hD=>ba sp fun _ q_a=>b7 q_a fun q ig=>zL (kB ok.toOKl o ga ig) fun cc E g1 g2 _ g3 g4=>?_;rcases g3 with g3 | rfl
   ·rw [g3] at hD;exact aJ hD
   rw [OO] at g1 g2;refine eZ (w.code p.1 (cellOf D p) (ps.map (qW D)) H cc wa wi wit g2) fun H1 c1 wi1 K1=>eZ (w.inst _ _ wi) fun fs i1 i2 i3=>?_;obtain⟨_,pl,planes,_,gg,_⟩:=id ga;refine Nx (ih_ ps H1 (some (.int p.1)) (some (.int p.2.1)) (some (.int p.2.2.1)) (some (.int p.2.2.2)) (cb.keep hk K1 (fun i o _ r st=>⟨st,r⟩) fun _ _ r=>r) (fun p h=>hp p (.tail _ h)) wi1 (wa.keep K1 fun i o r st=>⟨st,fun x=>hX i x r⟩) (ga.keep K1 fun i o r st=>⟨st,fun x=>hX i x r⟩) (K1.get hs ⟨rfl,hsp⟩)) fun H' a' b' c' e' f' wi' K'=>kK H' a' b' c' e' (fun Q q=>⟨hs.trans h0.symm,?_⟩) wi' (K1.trans K');refine lK _ _ rfl k2 rfl ?_;exact aP (EV.meth (ad rfl) i1 i2 w.m1 (.cons (ad rfl) (.cons (EV.meth (ad rfl) gg rfl rfl (.cons (ad rfl) (.cons (ad rfl) (.cons (ad rfl) .nil))) g1 (by decide)) .nil)) c1 (by decide)) (W.nil (f' Q q))
def iJ(sc:SD)(D:GD):GD->List f7->GD
 | Dk,[]=>Dk
 | Dk,p::r=>iJ sc D (upd Dk p.2.1 p.2.2.1 p.2.2.2 (eU sc (cellOf D p) (cellOf Dk p))) r
def rX(sc:SD)(D:GD):GD->List f7->Prop
 | _,[]=>True
 | Dk,p::r=>yf sc (cellOf D p) (cellOf Dk p)/\rX sc D (upd Dk p.2.1 p.2.2.1 p.2.2.2 (eU sc (cellOf D p) (cellOf Dk p))) r
theorem mZ{row kr:List Int}(h:kr.length=4):(eU sc row kr).length=4:=by
 unfold eU;split;have d1:∀x:Int,(x::kr.drop 1).length=4:=fun x=>by simp [h]
 ·split
  ·exact d1 _
  ·unfold IQ;split
   ·exact d1 _
   ·exact h
 ·exact er j7 h
theorem Ab(ok:OK S)(o:F.OK){X:Nat->Prop}{C fr ff d g kn wr sp0 L:Nat}{RI:List (Nat×List Int)->List O->Prop}(w:Rr S R X F s t sc C fr ff d RI){rwk:Nat->Nat->Nat}{D:GD}(full:rY F D)(hX:∀i,X i->¬R i/\i<L)(hRow:∀i,cH F rwk i->¬R i/\¬X i){H0:List O}{xs:List V}(h0:H0[sp0]? = some (.list xs))(hsp:¬X sp0/\¬cH F rwk sp0){u:Option V} :
  ∀(ks:List Nat) (ps:List f7) (Dk:GD) (H:List O) (a b c e:Option V),cb (fun i=>¬X i/\¬cH F rwk i) H ks ps->(∀p∈ps,qd F sc p)->rX sc D Dk ps->RI (ps.map (qW D)) H->cW R H F s t sc->bU (fun i=>¬X i) H kn F rwk Dk->H[sp0]? = some (.list xs)->L<=H.length->
  ∃H' a' b' c' e',dz S 8 Od (.many [8,9,10,11]) (aG (.obj sp0) H0) (ks.map .obj) (Hk f s g kn t wr sp0 u a b c e (some (.obj d))) H (Hk f s g kn t wr sp0 u a' b' c' e' (some (.obj d))) H'/\RI [] H'/\bU (fun i=>¬X i) H' kn F rwk (iJ sc D Dk ps)/\Kp (fun i o=>fD o=true/\¬X i/\¬cH F rwk i) H H':=by
 intro m_;induction m_ with
 | nil=>
  intro ps Dk H a b c e hk _ _ ri _ ga hs _;refine yK fun _ kK=>?_;cases hk;exact kK H a b c e (fun Q q=>⟨hs.trans h0.symm,q⟩) ri ga .refl
 | cons k ks ih_=>
  intro ps Dk H a b c e hk hp hkr ri wa ga hs hL;refine yK fun _ kK=>?_;cases hk with
  | @cons _ p _ ps k1 hk=>
   refine ba k1 fun k1 k2=>?_;haveI sp:=hp _ (.head _);refine ba sp fun _ q_a=>b7 q_a fun q ig=>ba (mI full sp) fun wit hD=>zL (kB ok.toOKl o ga ig) fun cc E g1 g2 g5 _ g4=>ba hkr fun kr1 kr2=>?_;have PE:cg H (H++E):=.app .refl;haveI nx:¬X cc:=fun x=>by
    rcases g4 with g4 | g4
    ·exact g4 x
    ·haveI:=(hX _ x).2;exact Ii this hL g4
   refine eZ (w.inst _ _ ri) fun fs i1 i2 i3=>?_;haveI waE:=wa.keep PE fun _ _ _ _=>trivial;refine zL (w.read p.1 (cellOf D p) (cellOf Dk p) (ps.map (qW D)) (H++E) cc waE (w.keep _ _ _ ri PE.pre) wit (fun it h=>by
    refine aZ (Pm.mp h) fun p' hp' q_a=>el q_a ?_;exact(mI full (hp p' (.tail _ hp'))).1) g2 nx kr1) fun H1 c1 r1 r2 r3 r4 K1=>?_
   have K01:=PE.pre.trans K1;have ga1:=ga.keep K01 fun i o r st=>⟨st,r⟩;haveI l1:=K01.len;refine qH ok.toOKl o ga1 ig r2 (mZ g5) (fun x=>by haveI:=(hX _ x).2;exact Ii this hL l1) fun H2 p1 ga2 K2 q_a p4=>?_;have row:cH F rwk (rwk p.2.1 p.2.2.2):=lN _ _ (bc ig.c) ig.y rfl;refine b7 q_a fun cs p3=>?_;have ri2:=w.keep _ _ _ r4 ⟨K2.len,fun i o' e' g=>K2.at_ i o' e' (by
    rintro rfl;rcases g with g | g
    ·replace e':=p3▸e';obtain rfl:=Option.some.inj e';exact ae g.symm
    ·exact(hRow _ row).2 g)⟩
   have K02:Kp (fun i o=>fD o=true/\¬X i/\¬cH F rwk i) H H2:=(K01.mono fun i o h=>⟨h.1,h.2.1⟩).trans (K2.mono fun i o h=>by rintro rfl;exact h.2.2 row);haveI kR:∀i o',R i->fD o'=true->(fD o'=true/\¬X i/\¬cH F rwk i):=fun i o' r st=>bT st (fun x=>(hX i x).1 r) (fun z=>(hRow i z).1 r);obtain⟨_,pl1,planes1,_,gg1,_⟩:=id ga1;refine zK (ih_ ps _ H2 (some (.int p.1)) (some (.int p.2.1)) (some (.int p.2.2.1)) (some (.int p.2.2.2)) (cb.keep hk K02 (fun i o _ r st=>⟨st,r⟩) fun _ _ r=>r) (fun p h=>hp p (.tail _ h)) kr2 ri2 (wa.keep K02 kR) ga2 (K02.get hs ⟨rfl,hsp⟩) (z4 K02.len hL)) fun H' a' b' c' e' f' ri' ga' K'=>?_;obtain⟨_,pl,planes,_,gg,_⟩:=id ga;refine kK H' a' b' c' e' (fun Q q=>⟨hs.trans h0.symm,?_⟩) ri' ga' (K02.trans K');refine lK _ _ rfl k2 rfl ?_;exact aP (EV.meth (ad rfl) gg rfl rfl (.cons (ad rfl) (.cons (ad rfl) (.cons (ad rfl) (.cons (EV.meth (ad rfl) i1 i2 w.m1 (.cons (ad rfl) (.cons (EV.meth (ad rfl) gg rfl rfl (.cons (ad rfl) (.cons (ad rfl) (.cons (ad rfl) .nil))) g1 (by decide)) .nil)) r1 (by decide)) .nil)))) p1 (by decide)) (W.nil (f' Q q))
end
end
mutual #where
def MM:List Str:=[F7 "frame",F7 "scan",F7 "grid",F7 "known",F7 "tables"]
def MN:List Str:=[F7 "writer",F7 "spots",F7 "unit",F7 "place",F7 "component",F7 "x",F7 "y",F7 "reader"]
def MO:Ps:=(.cons (.asg (.one 5) (.fcall 14 (.cons (.loc 1) (.cons (.int 2) (.cons (.fcall 50 (.cons (.loc 4) .nil)) .nil))))) (.cons (.expr (.meth (.loc 5) 33 .nil)) (.cons (.asg (.one 6) (.list .nil)) .nil)))
def NG:Ps:=(.cons (.for_ (.many [8,9,10,11]) (.loc 6) (.cons (.expr (.meth (.loc 5) 48 (.cons (.loc 8) (.cons (.meth (.loc 2) 39 (.cons (.loc 9) (.cons (.loc 10) (.cons (.loc 11) .nil)))) .nil)))) .nil)) (.cons (.asg (.one 12) (.fcall 15 (.cons (.loc 1) (.cons (.int 2) (.cons (.loc 4) .nil))))) (.cons (.expr (.meth (.loc 12) 33 (.cons (.meth (.loc 5) 57 .nil) .nil))) (.cons (.for_ (.many [8,9,10,11]) (.loc 6) (.cons (.expr (.meth (.loc 3) 40 (.cons (.loc 9) (.cons (.loc 10) (.cons (.loc 11) (.cons (.meth (.loc 12) 49 (.cons (.loc 8) (.cons (.meth (.loc 3) 39 (.cons (.loc 9) (.cons (.loc 10) (.cons (.loc 11) .nil)))) .nil))) .nil)))))) .nil)) (.cons (.expr (.meth (.loc 12) 57 .nil)) .nil)))))
def oD:Fn:=⟨MM,MN,.cons (MO.get 0) (.cons (MO.get 1) (.cons (MO.get 2) (.cons (.for_ (.one 7) (.fcall 3 MD) GQ) NG)))⟩
def km(K:Frag):Bool:=yw K 1076 oD
end
section
mutual #where
variable {S:be} {n:Nat} {H H':List O} {F:FD} {sc:SD} {f s g kn t:Nat} {rw rwk:Nat->Nat->Nat} {D Dk:GD}
structure uJ(F:FD)(sc:SD):Prop where
 ha:0<bI F sc/\bI F sc<1000
 hc:bL F sc<=49
 hn:0<bL F sc
 hb:∀i,i<bL F sc->i % bI F sc<10/\i / bI F sc<10
 hu:∀x y,(dS F sc x y).length<=4
 len:(bm F sc).length<=100
 l15:sc.places.length=1->(bm F sc).length<=15
 all:∀sp∈bm F sc,qd F sc sp
theorem m8{R:Nat->Prop}{i:Nat}(a:bU R H kn F rwk Dk)(h:cH F rwk i):i<H.length:=by
 refine fQ h fun p y h1 h2 q_a=>?_;obtain⟨_,pl,planes,_,_,_,h3⟩:=a;refine dQ (h3 p _ (OD h1)) fun k rows _ _ _ h5=>er q_a ?_;refine dN (h5 y h2) fun _ _ q_a=>aZ q_a fun cells h6 _=>aA h6
theorem qK(ok:OK S)(gok:gQ S.K=true)(pk:km S.K=true)(o:F.OK)(so:sc.OK F)(sk:uJ F sc)(fr:aQ (fun i=>¬cH F rwk i) H f F)(sa:aY (fun i=>¬cH F rwk i) H s sc)(tt:cC (fun i=>¬cH F rwk i) H t)
  (ga:bU (fun i=>¬cH F rwk i) H g F rw D) (full:rY F D) (gk:bU (fun _=>True) H kn F rwk Dk) (kr:rX sc D Dk (bm F sc)) :
  dG S 9 (.top 1076) [.obj f,.obj s,.obj g,.obj kn,.obj t] H fun v H'=>bU (fun _=>True) H' kn F rwk (iJ sc D Dk (bm F sc))/\Kp (fun i o=>fD o=true/\¬cH F rwk i) H H':=
 pN ok.toSysOK pk rfl (by
  refine xh ok (H:=H) (t:=t) fun Ha ca xa Pa=>?_;haveI rg:∀i,i<H.length->¬cH F rwk i->¬cH F rwk i/\i<H.length:=fun i h r=>⟨r,h⟩;have wH:cW (fun i=>¬cH F rwk i/\i<H.length) H F s t sc:=⟨sa.region rg,tt.region rg⟩;have la:=Pa.len;have items:eK sc ((bm F sc).map (qW D)):=fun it h=>by
   refine aZ (Pm.mp h) fun p' hp' q_a=>el q_a ?_;exact(mI full (sk.all p' hp')).1
  have il2:((bm F sc).map (qW D)).length<=100:=by rw [OJ];exact sk.len
  have il:sc.start≠0->((bm F sc).map (qW D)).length<=15:=fun h=>by rw [OJ];exact sk.l15 (by rcases so.bd with q | q<;>lia)
  obtain⟨d,C,fs,fst,fc',ff,Hb,Hc,X,WI,c849,⟨hd,lk,hm⟩,cst,wr,wi,Kac,hX⟩:=vy ok so (wH.keep Pa fun _ _ _ _=>trivial) (fun i r=>DG r.2 la) xa items il2 il;haveI Kcd:cg Hc (Hc++[O.list []]):=.app .refl;have K0d:Kp GS H (Hc++[O.list []]):=(Pa.pre.trans Kac).app;haveI lac:=Kac.len;have lcd:(Hc++[O.list []]).length=Hc.length+1:=by simp
  refine aD (EV.fcall rfl (.cons (ad rfl) (.cons EV.int (.cons (EV.fcall rfl (.cons (ad rfl) .nil) ca (by decide)) .nil))) c849 (by decide)) ?_;refine aP (EV.meth (ad rfl) hd lk hm .nil cst (by decide)) ?_;refine aD (EV.list .nil) ?_;refine W.step (vK ok.toOKl gok o so (by refine(?_:7<13);decide) sk.ha sk.hc sk.hb sk.hn sk.hu rfl rfl rfl aj ((fr.keep K0d fun _ _ _ h=>h).region fun _ _ _=>trivial) ((sa.keep K0d fun _ _ _ h=>h).region fun _ _ _=>trivial) fun ks sp' u He P hs hsp hsl=>?_);refine(?_:bH S 8 NG (Hk f s g kn t d sp' u none none none none none) He _);have K0e:=K0d.trans P.pre;haveI wE:=wH.keep K0e fun _ _ _ h=>h;haveI lP:=P.len;obtain⟨Hf,a1,b1,c1,e1,fw,wi',Kef⟩:=zG ok o wr full (fun i x r=>by haveI:=hX i x;haveI:=r.2;lia) hs (fun x=>by haveI:=hX _ x;exact DE this.2 lcd hsl) ks _ He none none none none
   (cb.keep hsp (Kp.refl) (fun _ _ _ _ _=>trivial) fun i _ h x=>by haveI:=hX i x;haveI h:=h;exact DE this.2 lcd h) sk.all (wr.keep _ _ _ wi (Kcd.trans P)) wE ((ga.region rg).keep K0e fun _ _ _ h=>h) hs
  refine bk (ad rfl) (aU hs) (fw _ ?_);have lef:=Kef.len;have wF:=wE.keep Kef fun i o r h=>⟨h,fun x=>by haveI:=hX i x;haveI:=r.2;lia⟩;obtain⟨d2,C2,fst2,fr2,ff2,Hg,c856,Pfg,hd2,_,hm2,go⟩:=vz ok so wF (fun i r=>JU r.2 lcd lac la lP lef) items il;have wiG:=wr.keep _ _ _ wi' Pfg;refine eZ (wr.inst [] Hg wiG) fun fsw hdw _ lkw=>Ck (wr.fin Hg (wF.keep Pfg fun _ _ _ _=>trivial) wiG) fun Hh bs pad cfin hfl hsz Kgh=>u8 (go Hg bs pad .refl hfl hsz) fun _ _ _ fs3 q_a _=>GH (go Hh bs pad Kgh hfl hsz) fun Hi X2 RI fs4 _ cst2 rr ri Khi hX2=>ba q_a fun hd3 lk3=>aD (EV.fcall rfl (.cons (ad rfl) (.cons EV.int (.cons (ad rfl) .nil))) c856 (by decide)) ?_;refine aP (EV.meth (ad rfl) hd3 lk3 hm2 (.cons (EV.meth (ad rfl) hdw lkw wr.m2 .nil cfin (by decide)) .nil) cst2 (by decide)) ?_;have Kei:=Kef.trans (Pfg.pre.trans ((Kgh.mono fun i o h=>.inl h.1).trans (Khi.mono fun i o h=>h.1)));have nX:∀i,i<H.length->¬X i:=fun i h x=>by haveI:=hX i x;exact EC h this.1 la
  have K0i:=(K0e.mono fun i o h=>h.1).trans Kei;have nX2:=fun i h x=>by haveI:=hX2 i x;exact EC h this.1 lef
  have he0:=K0e.len;haveI nsp:¬X sp':=fun x=>by haveI:=hX _ x;exact DE this.2 lcd hsl
  have hsI:=Kei.get hs ⟨rfl,nsp⟩;obtain⟨Hj,a2,b2,c2,e2,fr',ri',gk',Kij⟩:=Ab ok o rr full (fun i x=>⟨fun r=>nX2 i (by haveI:=r.2;exact DG r.2 he0) x,(hX2 i x).2⟩) (fun i z=>⟨fun r=>r.1 z,fun x=>nX2 i (DG (m8 gk z) he0) x⟩) hsI
   ⟨nX2 _ (aA hs),fun z=>by haveI:=m8 gk z;exact Ev this lcd lac la hsl⟩ ks _ Dk Hi a1 b1 c1 e1
   (cb.keep hsp Kei (fun i _ _ h st=>⟨st,fun x=>by haveI:=hX i x;haveI h:=h;exact DE this.2 lcd h⟩) fun i hi h=>⟨nX2 _ hi,fun z=>by haveI:=m8 gk z;haveI h:=h;exact Ev this lcd lac la ‹_›⟩) sk.all kr ri
   (wH.keep K0i fun i o r h=>⟨h,nX i r.2⟩) (gk.keep' K0i (fun i o hi _ h=>⟨h,nX i hi⟩) fun i hi _=>nX2 i (DG hi he0)) hsI (OF _)
  refine bk (ad rfl) (aU hsI) (fr' _ ?_);refine eZ (rr.inst [] Hj ri') fun fsr hdr _ lkr=>aP (EV.meth (ad rfl) hdr lkr rr.m2 .nil (rr.fin Hj ri') (by decide)) (W.nil ?_);exact⟨gk'.region fun _ _ _=>trivial,by haveI:=K0i.len;haveI:=Kij.len;exact z4 this ‹_›,fun i o e g=>Kij.at_ i o (K0i.at_ i o e ⟨g.1,nX i (aA e)⟩) (bT g.1 (nX2 i (DG (aA e) he0)) g.2)⟩)
end
end
section
mutual #where
variable {F:FD} {sc:SD}
def cS(k:Nat)(lv v:Int):Int:=if lv<0 then 0 else if k=0 then oa v lv.toNat*2^lv.toNat else qv v lv.toNat*2^lv.toNat
def Dm(Lr row:List Int):List Int:=(OT 4).map fun k=>cS k (Lr.getD k 0) (row.getD k 0)
theorem hZ{Lr row:List Int}:(Dm Lr row).length=4:=rfl
theorem CY{α:Type}{xs:List α}(h:xs.length=4){kP:Prop}(kK:∀a b c d,xs=[a,b,c,d]->kP):kP:=by
 refine ui h fun a as e1 h=>ui h fun b bs e2 h=>ui h fun c cs e3 h=>ui h fun d ds e4 h=>kK a b c d ?_;refine er e1 ?_;refine er e2 (er e3 ?_);refine er e4 (er (Qx.mp h) ?_);rfl
theorem HV{a b c d x y z w:Int}:Dm [a,b,c,d] [x,y,z,w]=[cS 0 a x,cS 1 b y,cS 2 c z,cS 3 d w]:=rfl
theorem C6:∀k:Fin 15,∀low:Fin 3,let v:Int:=(k) - 7;(if b1 v low then Qj (oa v (low+1)*2^(low.val+1)) (2^low.val) else oa v (low+1)*2^(low.val+1))=oa v low*2^low.val:=by decide +kernel
theorem Ds:∀k:Fin 15,∀low:Fin 4,let v:Int:=(k) - 7;v.natAbs / 2^low.val=0->qv v low*2^low.val=0/\qv v (low+1)*2^(low.val+1)=0:=by decide +kernel
theorem xS{v:Int}(h:-7<=v/\v<=7):∃k:Fin 15,v=(k.val:Nat) - 7:=⟨⟨(v+7).toNat,Nj h.2⟩,F0 h.1⟩
theorem Do{k low high:Nat}{lv v:Int}(hv:-7<=v/\v<=7)(hl:low<=2)(hk:k≠0)(hh:high=0∨high=low+1)(he:lv=if high=0 then -1 else (high:Int)):(if v.natAbs / 2^low=0 then cS k lv v else qv v low*2^low)=cS k low v:=by
 haveI e2:cS k low v=qv v low*2^low:=by
  unfold cS;refine er (if_neg DL) (er (if_neg hk) ?_);rw [ON]
 refine er e2 ?_;split
 ·rename_i h0;refine b7 (xS hv) fun j hj=>?_;haveI:=Ds j ⟨low,Pd ‹_› (by decide)⟩ (by exact el hj h0);replace this:=hj▸this;refine er this.1 ?_;rcases hh with rfl | rfl
  ·refine er he ?_;rfl
  ·rw [if_neg FZ] at he;refine er he ?_;unfold cS;refine er (if_neg FX) (er (if_neg hk) ?_);rw [ON];exact this.2
 ·rfl
theorem Dn{k low:Nat}{v:Int}(hk:k≠0):cS k ((low+1:Nat):Int) v=kv v low:=by
 unfold cS kv;refine er (if_neg FX) (er (if_neg hk) ?_);rw [ON]
theorem HE{s e:Nat}(h:1<=s/\s<=e/\e<=3):(s=1/\e=1)∨(s=1/\e=2)∨(s=1/\e=3)∨(s=2/\e=2)∨(s=2/\e=3)∨(s=3/\e=3):=KH h.2.1 h.2.2 h.1
theorem wM{low:Nat}{p0 p1 p2 p3 v:Int}{vs:List Int}:dq low [p0,p1,p2,p3] 1 (v::vs)=dq low [p0,if v.natAbs / 2^low=0 then p1 else qv v low*2^low,p2,p3] 2 vs:=by
 refine er cE ?_;split<;>rfl
theorem tS{low:Nat}{p0 p1 p2 p3 v:Int}{vs:List Int}:dq low [p0,p1,p2,p3] 2 (v::vs)=dq low [p0,p1,if v.natAbs / 2^low=0 then p2 else qv v low*2^low,p3] 3 vs:=by
 refine er cE ?_;split<;>rfl
theorem wL{low:Nat}{p0 p1 p2 p3 v:Int}{vs:List Int}:dq low [p0,p1,p2,p3] 3 (v::vs)=dq low [p0,p1,p2,if v.natAbs / 2^low=0 then p3 else qv v low*2^low] 4 vs:=by
 refine er cE ?_;split<;>rfl
theorem fx{found:List Int}{k low:Nat}:Holds found k low []:=fun i v h=>aJ h
theorem cJ{found:List Int}{k low:Nat}{v:Int}{vs:List Int}(h:found[k]? = some (kv v low))(b:-7<=v/\v<=7)(r:Holds found (k+1) low vs):Holds found k low (v::vs):=fun i u hu=>by
 cases i with
 | zero=>simp at hu;subst hu;exact⟨h,b⟩
 | succ i=>haveI:=r i u (by simpa using hu);exact er (B9:k+(i+1)=k+1+i) this
theorem wU(o:sc.OK F){Lr row:List Int}(hl:kW sc Lr)(hr:uK row):eU sc row (Dm Lr row)=Dm (dk sc Lr) row/\yf sc row (Dm Lr row):=by
 refine jF fun _ kK=>ba hr fun r1 r2=>?_;obtain⟨l1,_,l3⟩:=hl;refine CY l1 fun a b c d q_a=>CY r1 fun x y z w q_a=>?_;obtain rfl:=q_a;have hx:=r2 x (by simp);have hy:=r2 y (by simp);have hz:=r2 z (by simp);have hw:=r2 w (by simp);obtain rfl:=q_a;haveI lo:=o.lo;obtain⟨pl,st,en,high,low⟩:=sc;haveI hi:=o.hi;dsimp only at lo hi l3;rcases o.bd with q | q
 ·dsimp only at q;refine ba q fun q_a q_b=>?_;obtain rfl:=q_b;obtain rfl:=q_a;refine kK ?_ ⟨hZ,fun h=>absurd rfl h⟩;haveI hf:dk ⟨pl,0,0,high,low⟩ [a,b,c,d]=[(low:Int),b,c,d]:=rfl;haveI e:=l3 0 (OF _) (OF _);refine er HV ?_;refine er hf (er HV ?_);have ea:cS 0 low x=oa x low*2^low:=by unfold cS;refine er (if_neg DL) (er (if_pos rfl) ?_);rw [ON]
  rcases hi with rfl | rfl
  ·refine(?_:oa x low*2^low::_=_);refine el ea ?_;rfl
  ·haveI e:a=((low+1:Nat)):=e;haveI e1:cS 0 a x=oa x (low+1)*2^(low+1):=by refine er e ?_;unfold cS;refine er (if_neg (by lia)) (er (if_pos rfl) ?_);rw [ON]
   refine b7 (xS hx) fun j hj=>?_;haveI:=C6 j ⟨low,O8 ‹_›⟩;refine(?_:(if b1 x low then Qj (cS 0 a x) (2^low)::[cS 1 b y,cS 2 c z,cS 3 d w] else cS 0 a x::[cS 1 b y,cS 2 c z,cS 3 d w])=_);dsimp only at this;rw [← hj] at this
   refine er ea ?_;refine el this (er e1 ?_);split<;>rfl
 ·dsimp only at q;have kh:∀(v lv) (k),k≠0->high≠0->(lv=if high=0 then -1 else (high:Int))->cS k lv v=kv v low:=fun v lv k hk h0 he=>by
   rcases hi with rfl | rfl
   ·exact absurd rfl h0
   ·refine er he ?_;exact er (if_neg (by assumption)) (Dn hk)
  have kk:∀(v lv) (k),k≠0->-7<=v/\v<=7->(lv=if high=0 then -1 else (high:Int))->(if v.natAbs / 2^low=0 then cS k lv v else qv v low*2^low)=cS k low v:=fun v lv k hk hv he=>Do hv lo hk hi he;rcases HE (bT q.1 q.2.1 q.2.2.1) with ⟨rfl,rfl⟩ | ⟨rfl,rfl⟩ | ⟨rfl,rfl⟩ | ⟨rfl,rfl⟩ | ⟨rfl,rfl⟩ | ⟨rfl,rfl⟩
  ·haveI e1:=kk y b 1 (by decide) hy (l3 1 (by decide) (by decide));haveI f1:=kh y b 1 (by decide);refine kK ?_ ⟨hZ,fun _ h0=>?_⟩
   ·refine(?_:dq low [cS 0 a x,cS 1 b y,cS 2 c z,cS 3 d w] 1 [y]=[cS 0 a x,cS 1 low y,cS 2 c z,cS 3 d w]);refine er wM (er e1 ?_);rfl
   ·exact cJ (congrArg some (f1 h0 (l3 1 (by decide) (by decide)))) hy (fx)
  ·have e1:=kk y b 1 (by decide) hy (l3 1 (by decide) (by decide));have f1:=kh y b 1 (by decide);have e2:=kk z c 2 (by decide) hz (l3 2 (by decide) (by decide));have f2:=kh z c 2 (by decide);refine kK ?_ ⟨hZ,fun _ h0=>?_⟩
   ·refine(?_:dq low [cS 0 a x,cS 1 b y,cS 2 c z,cS 3 d w] 1 [y,z]=[cS 0 a x,cS 1 low y,cS 2 low z,cS 3 d w]);refine er wM (er e1 ?_);refine er tS (er e2 ?_);rfl
   ·exact cJ (congrArg some (f1 h0 (l3 1 (by decide) (by decide)))) hy (cJ (congrArg some (f2 h0 (l3 2 (by decide) (by decide)))) hz (fx))
  ·have e1:=kk y b 1 (by decide) hy (l3 1 (by decide) (by decide));have e2:=kk z c 2 (by decide) hz (l3 2 (by decide) (by decide));have f1:=kh y b 1 (by decide);have f2:=kh z c 2 (by decide);have e3:=kk w d 3 (by decide) hw (l3 3 (by decide) (by decide));have f3:=kh w d 3 (by decide);refine kK ?_ ⟨hZ,fun _ h0=>?_⟩
   ·refine(?_:dq low [cS 0 a x,cS 1 b y,cS 2 c z,cS 3 d w] 1 [y,z,w]=[cS 0 a x,cS 1 low y,cS 2 low z,cS 3 low w]);refine er wM (er tS ?_);refine er wL (er e1 ?_);refine er e2 (er e3 ?_);rfl
   ·exact cJ (congrArg some (f1 h0 (l3 1 (by decide) (by decide)))) hy (cJ (congrArg some (f2 h0 (l3 2 (by decide) (by decide)))) hz (cJ (congrArg some (f3 h0 (l3 3 (by decide) (by decide)))) hw (fx)))
  ·have e2:=kk z c 2 (by decide) hz (l3 2 (by decide) (by decide));have f2:=kh z c 2 (by decide);refine kK ?_ ⟨hZ,fun _ h0=>?_⟩
   ·refine(?_:dq low [cS 0 a x,cS 1 b y,cS 2 c z,cS 3 d w] 2 [z]=[cS 0 a x,cS 1 b y,cS 2 low z,cS 3 d w]);refine er tS (er e2 ?_);rfl
   ·exact cJ (congrArg some (f2 h0 (l3 2 (by decide) (by decide)))) hz (fx)
  ·have e2:=kk z c 2 (by decide) hz (l3 2 (by decide) (by decide));have f2:=kh z c 2 (by decide);have e3:=kk w d 3 (by decide) hw (l3 3 (by decide) (by decide));have f3:=kh w d 3 (by decide);refine kK ?_ ⟨hZ,fun _ h0=>?_⟩
   ·refine(?_:dq low [cS 0 a x,cS 1 b y,cS 2 c z,cS 3 d w] 2 [z,w]=[cS 0 a x,cS 1 b y,cS 2 low z,cS 3 low w]);refine er tS (er wL ?_);refine er e2 (er e3 ?_);rfl
   ·exact cJ (congrArg some (f2 h0 (l3 2 (by decide) (by decide)))) hz (cJ (congrArg some (f3 h0 (l3 3 (by decide) (by decide)))) hw (fx))
  ·haveI e3:=kk w d 3 (by decide) hw (l3 3 (by decide) (by decide));have f3:=kh w d 3 (by decide);refine kK ?_ ⟨hZ,fun _ h0=>?_⟩
   ·refine(?_:dq low [cS 0 a x,cS 1 b y,cS 2 c z,cS 3 d w] 3 [w]=[cS 0 a x,cS 1 b y,cS 2 c z,cS 3 low w]);refine er wL (er e3 ?_);rfl
   ·exact cJ (congrArg some (f3 h0 (l3 3 (by decide) (by decide)))) hw (fx)
end
end
section
mutual #where
variable {F:FD} {sc:SD}
def tX(F:FD)(sc:SD):Bool:=
 decide (0<bI F sc)&&decide (bI F sc<10)&&decide (0<bL F sc)&&decide (bL F sc<=49)&&((OT (bL F sc)).all fun i=>decide (i / bI F sc<10))&&decide ((dS F sc 0 0).length<=4)&&decide ((bm F sc).length<=100)&&(decide (sc.places.length≠1)||decide ((bm F sc).length<=15)) &&
  ((bm F sc).all fun sp=>decide (sp.1<sc.places.length)&&sc.places.contains sp.2.1&&(match F.comps[sp.2.1]? with | some q=>decide (sp.2.2.1<F.nA q.2)&&decide (sp.2.2.2<F.nD)&&(decide (sc.places.length≠1)||(decide (sp.2.2.1<(F.bA q.2).toNat)&&decide (sp.2.2.2<F.bD.toNat))) | none=>false)) &&
  decide ((bm F sc).map (·.2)).Nodup &&
  (sc.places.all fun p=>match F.comps[p]? with | some q=>(OT (F.bA q.2).toNat).all fun x=>(OT F.bD.toNat).all fun y=>((bm F sc).map (·.2)).contains (p,x,y) | none=>true)
def G2:Nat->List Nat
 | 0=>[0]
 | 1=>[1]
 | _=>[0,1]
theorem Cp(o:F.OK)(so:sc.OK F):tX F sc=true:=by
 haveI go:=o.all (p:=fun F=>(OT 3).all fun k=>(k != 0&&!F.two)||tX F ⟨G2 k,0,0,0,0⟩) (by decide +kernel)
 have go:=O6.mp go;refine(?_:tX F ⟨sc.places,0,0,0,0⟩=true);rcases so.pl with e | ⟨t,e | e⟩<;>refine er e ?_
 ·exact go 0 (by decide)
 ·haveI:=go 1 (by decide);replace this:=t▸this;exact this
 ·haveI:=go 2 (by decide);replace this:=t▸this;exact this
structure zh(F:FD)(sc:SD):Prop where
 ok:uJ F sc
 mem:∀sp∈bm F sc,sp.2.1∈sc.places
 one:∀sp∈bm F sc,∀q,F.comps[sp.2.1]? = some q->sc.places.length=1->sp.2.2.1<(F.bA q.2).toNat/\sp.2.2.2<F.bD.toNat
 nd:((bm F sc).map (·.2)).Nodup
 cov:∀p x y q,p∈sc.places->F.comps[p]? = some q->x<(F.bA q.2).toNat->y<F.bD.toNat->(p,x,y)∈(bm F sc).map (·.2)
theorem tV(o:F.OK)(so:sc.OK F):zh F sc:=by
 haveI h:=Cp o so;unfold tX at h;simp only [Px,decide_eq_true_eq,O6,QQ,QD,QH] at h;refine fM h fun q_b h9 h10=>fM q_b fun q_d h7' h8=>fM q_d fun q_f h6 h7=>fM q_f fun q_h h4 h5=>fM q_h fun h1 h2 h3=>⟨⟨⟨h1,LQ h2⟩,h4,h3,fun i hi=>⟨QA (RB _ h1) h2,h5 i hi⟩,fun x y=>?_,h7,fun e=>h7'.resolve_left fun z=>z e,fun sp hs=>?_⟩,fun sp hs=>(h8 sp hs).1.2,fun sp hs q hq h1=>?_,h9,fun p x y q hp hq hx hy=>?_⟩
 ·haveI e:(dS F sc x y).length=(dS F sc 0 0).length:=by
   unfold dS;split
   ·rfl
   ·simp only [List.length_flatMap,OJ,Sr]
  exact er e h6
 ·refine fM (h8 sp hs) fun a1 _ a2=>?_;split at a2;refine⟨a1,?_⟩
  ·rename_i q hq;simp only [Px,decide_eq_true_eq] at a2;exact⟨q,hq,a2.1.1,a2.1.2⟩
  ·exact ae a2
 ·refine ba (h8 sp hs) fun _ a2=>?_;rw [hq] at a2;simp only [Px,decide_eq_true_eq,QH] at a2;exact a2.2.resolve_left fun z=>z h1
 ·haveI:=h10 p hp;rw [hq] at this;simp only [O6,QQ,QD] at this;exact this x hx y hy
end
end
section
mutual #where
variable {F:FD} {sc:SD} {D Dk:GD} {Lv:List (List Int)}
abbrev gd(D:GD)(p x y:Nat):List Int:=(D p x y).getD iH
structure o9(F:FD)(D Dk:GD)(Lv:List (List Int)):Prop where
 len:∀p x y q,uL F p x y q->(gd Dk p x y).length=4
 at_:∀p x y q,F.comps[p]? = some q->x<(F.bA q.2).toNat->y<F.bD.toNat->gd Dk p x y=Dm (Lv.getD p []) (gd D p x y)
theorem lX{α:Type}{xs:List α}{p q:Nat}{x d:α}(h:p≠q):(xs.set p x).getD q d=xs.getD q d:=by
 refine er OG ?_;refine er (O7 h) (er OG ?_);rfl
theorem oj{α:Type}{xs:List α}{p:Nat}{x d:α}(h:p<xs.length):(xs.set p x).getD p d=x:=by
 refine er OG (er (Pl h) ?_);rfl
theorem rm:∀ {ps:List Nat} {Lv:List (List Int)},ps.Nodup->fu sc Lv ps->(∀p∈ps,kW sc (Lv.getD p []))/\∀q,(bX sc Lv ps).getD q []=if q∈ps then dk sc (Lv.getD q []) else Lv.getD q []:=by
 intro ps Lv;induction ps generalizing Lv with
 | nil=>
  intro _ _;exact⟨fun _ h=>by simp at h,fun q=>rfl⟩
 | cons p ps ih_=>
  rintro nd ⟨h1,h2,h3⟩;refine ba (Pu.mp nd) fun np nd=>?_;haveI ne:∀q∈ps,p≠q:=fun q h e=>np (e▸h);refine ba (ih_ nd h3) fun i1 i2=>⟨fun q hq=>?_,fun q=>?_⟩
  ·rcases OY.mp hq with rfl | hq
   ·exact h2
   ·haveI:=i1 q hq;rwa [lX (ne q hq)] at this
  ·rw [jy,i2];by_cases e:q=p
   ·refine er e (er (if_neg np) ?_);refine er (oj h1) (er (if_pos (.head _)) ?_);rfl
   ·refine er (lX (Ne.symm e)) ?_;simp only [OY,e,false_or]
theorem sg{p x y p' x' y':Nat}{r:List Int}(h:(p',x',y')≠(p,x,y)):upd D p x y r p' x' y'=D p' x' y':=by
 unfold upd;rw [if_neg];rintro⟨rfl,rfl,rfl⟩;exact h rfl
theorem Ci{p x y:Nat}{r:List Int}:upd D p x y r p x y=some r:=if_pos (bT rfl rfl rfl)
theorem jJ{p x y:Nat}:∀ {ps:List f7} {Dk:GD},(p,x,y)∉ps.map (·.2)->iJ sc D Dk ps p x y=Dk p x y:=by
 intro ps Dk;induction ps generalizing Dk with
 | nil=>
  intro _;exact rfl
 | cons a ps ih_=>
  intro h;rw [O1,OY,not_or] at h;refine er (ih_ h.2) (er (sg h.1) ?_);rfl
theorem oM{p x y:Nat}:∀ {ps:List f7} {Dk:GD},(ps.map (·.2)).Nodup->(p,x,y)∈ps.map (·.2)->iJ sc D Dk ps p x y=some (eU sc (gd D p x y) (gd Dk p x y)):=by
 intro ps Dk;induction ps generalizing Dk with
 | nil=>
  intro _ h;exact nomatch h
 | cons a ps ih_=>
  intro nd h;rw [O1,Pu] at nd;rw [O1,OY] at h;rcases h with h | h
  ·obtain⟨a0,a1,a2,a3⟩:=a;cases h;exact er (jJ nd.1) Ci
  ·haveI ne:(p,x,y)≠a.2:=fun e=>nd.1 (e▸h);refine er (ih_ nd.2 h) ?_;unfold gd;refine er (sg ne) ?_;rfl
theorem CN:∀ {ps:List f7} {Dk:GD},(ps.map (·.2)).Nodup->(∀sp∈ps,yf sc (cellOf D sp) (cellOf Dk sp))->rX sc D Dk ps:=by
 intro ps Dk;induction ps generalizing Dk with
 | nil=>
  intro _ _;exact trivial
 | cons a ps ih_=>
  intro nd h;rw [O1,Pu] at nd;refine⟨h a (.head _),ih_ nd.2 fun sp hs=>?_⟩;haveI ne:sp.2≠a.2:=fun e=>nd.1 (e▸Pm.mpr (bN sp hs rfl));haveI:=h sp (.tail _ hs);unfold cellOf at this⊢;exact er (sg ne) this
theorem sY:o9 F D (fun _ _ _=>none) (eN F):=⟨fun _ _ _ _ _=>rfl,fun p x y q hq _ _=>by
 haveI e:(eN F).getD p []=wq:=by refine er OG ?_;refine er O5 (er hq ?_);rfl
 refine er e ?_;rfl⟩
theorem SD.OK.nodup(so:sc.OK F):sc.places.Nodup:=by
 rcases so.pl with e | ⟨_,e | e⟩<;>refine er e ?_<;>decide
theorem sX(so:sc.OK F)(sx:zh F sc)(full:rY F D)(hin:∀p x y q,F.comps[p]? = some q->x<(F.bA q.2).toNat->y<F.bD.toNat->uL F p x y q)(lp:fu sc Lv sc.places)(kn:o9 F D Dk Lv){kP:Prop}(kK:rX sc D Dk (bm F sc)->o9 F D (iJ sc D Dk (bm F sc)) (bX sc Lv sc.places)->kP):kP:=by
 refine ba (rm so.nodup lp) fun f1 f2=>?_;haveI row:∀p x y q,uL F p x y q->uK (gd D p x y):=fun p x y q h=>by
  refine aZ (full p x y q h) fun r e hr=>?_;unfold gd;exact er e hr
 have step:∀p x y q,p∈sc.places->F.comps[p]? = some q->x<(F.bA q.2).toNat->y<F.bD.toNat->eU sc (gd D p x y) (gd Dk p x y)=Dm (dk sc (Lv.getD p [])) (gd D p x y)/\yf sc (gd D p x y) (gd Dk p x y):=fun p x y q hp hq hx hy=>by
  exact er (kn.at_ p x y q hq hx hy) (wU so (f1 p hp) (row p x y q (hin p x y q hq hx hy)))
 refine kK (CN sx.nd fun sp hs=>?_) ⟨fun p x y q h=>?_,fun p x y q hq hx hy=>?_⟩
 ·refine ba (sx.ok.all sp hs) fun _ q_a=>b7 q_a fun q ig=>?_;by_cases h1:sc.places.length=1
  ·refine ba (sx.one sp hs q ig.c h1) fun hx hy=>(step _ _ _ q (sx.mem sp hs) ig.c hx hy).2
  ·exact⟨kn.len _ _ _ q ig,fun h0=>absurd h0 (by rcases so.bd with q | q<;>lia)⟩
 ·by_cases hm:(p,x,y)∈(bm F sc).map (·.2)
  ·show(gd _ p x y).length=4;unfold gd;exact er (oM sx.nd hm) (mZ (kn.len p x y q h))
  ·show(gd _ p x y).length=4;unfold gd;exact er (jJ hm) (kn.len p x y q h)
 ·rw [f2];by_cases hp:p∈sc.places
  ·refine er (if_pos hp) (el ((step p x y q hp hq hx hy).1) ?_);refine(?_:(iJ sc D Dk (bm F sc) p x y).getD iH=_);refine er (oM sx.nd (sx.cov p x y q hp hq hx hy)) ?_;rfl
  ·haveI hm:(p,x,y)∉(bm F sc).map (·.2):=fun h=>by
    refine aZ (Pm.mp h) fun sp hs e=>?_;haveI:=sx.mem sp hs;replace this:=e▸this;exact hp this
   refine er (if_neg hp) (el (kn.at_ p x y q hq hx hy) ?_);refine(?_:(iJ sc D Dk (bm F sc) p x y).getD iH=_);refine er (jJ hm) ?_;rfl
theorem Bb:∀k:Fin 15,∀j:Fin 4,let v:Int:=(k) - 7;cS j.val 0 v=v:=by decide +kernel
theorem uE{k:Nat}{v:Int}(hk:k<4)(h:-7<=v/\v<=7):cS k 0 v=v:=by
 refine b7 (xS h) fun j hj=>?_;haveI:=Bb j ⟨k,hk⟩
 rwa [← hj] at this
theorem hU(h:e8 Lv=true)(p k:Nat):(Lv.getD p []).getD k 0=0:=by
 unfold e8 at h;simp only [O6,decide_eq_true_eq] at h;refine er OG (er OG ?_);cases e:Lv[p]? with
 | none=>rfl
 | some r=>
  refine(?_:(r[k]?).getD 0=0);cases e2:r[k]? with
  | none=>rfl
  | some x=>exact h r (OC e) x (OC e2)
theorem sZ(full:rY F D)(hin:∀p x y q,F.comps[p]? = some q->x<(F.bA q.2).toNat->y<F.bD.toNat->uL F p x y q)(kn:o9 F D Dk Lv)(h:e8 Lv=true):zi F D Dk:=fun p x y q hq hx hy=>by
 refine eZ (full p x y q (hin p x y q hq hx hy)) fun r e r1 r2=>?_;haveI k:=kn.at_ p x y q hq hx hy;have eg:gd D p x y=r:=by unfold gd;refine er e ?_;rfl
 refine(?_:gd D p x y=gd Dk p x y);refine er k (er eg ?_);refine CY r1 fun a b c d q_a=>?_;obtain rfl:=q_a;refine(?_:_=[cS 0 _ a,cS 1 _ b,cS 2 _ c,cS 3 _ d]);rewrite [hU h,hU h,hU h,hU h,uE (by decide) (r2 a (by simp)),uE (by decide) (r2 b (by simp)),uE (by decide) (r2 c (by simp))];refine er (uE (by decide) (r2 d (by simp))) ?_;rfl
theorem uk(o:F.OK){p x y:Nat}{q:Int×Int}(hq:F.comps[p]? = some q)(hx:x<(F.bA q.2).toNat)(hy:y<F.bD.toNat):uL F p x y q:=by
 haveI:=o.nums (OC hq);exact⟨hq,Kd this.2.2.2.2.2.2.1 hx,Kd this.2.2.2.2.2.2.2.1 hy⟩
end
end
section
mutual #where
variable {S:be} {n:Nat} {H H' H1:List O} {i:Nat} {l:aW} {F:FD} {f g kn t fo:Nat} {rw rwk:Nat->Nat->Nat} {D Dk:GD}
abbrev nR(F:FD)(rwk:Nat->Nat->Nat):Nat->Prop:=fun i=>¬cH F rwk i
structure LS(F:FD)(f t g fo:Nat)(rw rwk:Nat->Nat->Nat)(D:GD)(xs:List V)(H:List O):Prop where
 fr:aQ (nR F rwk) H f F
 tt:cC (nR F rwk) H t
 ga:bU (nR F rwk) H g F rw D
 hfo:H[fo]? = some (.list xs)
 nfo:¬cH F rwk fo
theorem LS.keep{xs:List V}(a:LS F f t g fo rw rwk D xs H)(k:Kp (fun i o=>fD o=true/\¬cH F rwk i) H H'):LS F f t g fo rw rwk D xs H':=
 ⟨a.fr.keep k fun _ _ h s=>⟨s,h⟩,a.tt.keep k fun _ _ h s=>⟨s,h⟩,a.ga.keep k fun _ _ h s=>⟨s,h⟩,k.get a.hfo ⟨rfl,a.nfo⟩,a.nfo⟩
abbrev Oh:Ps:=(BL.body.get 7).b1
theorem yd(ok:OK S)(gok:gQ S.K=true)(pk:km S.K=true)(o:F.OK)(full:rY F D){H0:List O}{xs:List V}(h0:H0[fo]? = some (.list xs)){x0 x1 x3 x6:Option V}{Q:Fl->aW->List O->Prop} :
  ∀(ks:List Nat) (ss:List SD) (Lv:List (List Int)) (Dk:GD) (H:List O) (z:Option V),dj F Lv ss->aR (nR F rwk) H ks ss->o9 F D Dk Lv->LS F f t g fo rw rwk D xs H->bU (fun _=>True) H kn F rwk Dk->
  (∀H' z' Dk',o9 F D Dk' (b8 Lv ss)->LS F f t g fo rw rwk D xs H'->bU (fun _=>True) H' kn F rwk Dk'->Q .next [x0,x1,some (.obj f),x3,some (.obj g),some (.obj kn),x6,some (.obj t),z'] H')->
  iG (fun l H K=>bH S 9 Oh l H K) (.one 8) (aG (.obj fo) H0) (ks.map .obj) [x0,x1,some (.obj f),x3,some (.obj g),some (.obj kn),x6,some (.obj t),z] H Q:=by
 intro m_;induction m_ with
 | nil=>
  intro ss Lv Dk H z _ hs hk ls gk q;cases hs;exact⟨ls.hfo.trans h0.symm,q H z Dk hk ls gk⟩
 | cons k ks ih_=>
  intro ss Lv Dk H z hl hs hk ls gk q;cases hs with
  | @cons _ sc _ r sa hs=>
   refine dN hl fun so lp la=>sX so (tV o so) full (fun p x y q hq hx hy=>uk o hq hx hy) lp hk fun kr kn'=>⟨ls.hfo.trans h0.symm,Bd rfl (.cons (ad rfl) (.cons (ad rfl) (.cons (ad rfl) (.cons (ad rfl) (.cons (ad rfl) .nil))))) (qK ok gok pk o so (tV o so).ok ls.fr sa ls.tt ls.ga full gk kr) (OF _) fun v H1 p=>W.nil ?_⟩;exact ih_ r _ _ H1 _ la (aR.keep hs p.2 fun _ _ h s=>⟨s,h⟩) kn' (ls.keep p.2) p.1 q
theorem sV{ss:List SD}{Lv:List (List Int)}(h:dj F Lv ss):dj F Lv ss.dropLast:=by
 induction ss generalizing Lv with
 | nil=>exact h
 | cons a r ih=>cases r with
  | nil=>trivial
  | cons b r=>exact bT h.1 h.2.1 (ih h.2.2)
theorem AB{α β:Type}{R:α->β->Prop}{xs:List α}{ys:List β}(r:F2 R xs ys):F2 R xs.dropLast ys.dropLast:=by
 induction r with
 | nil=>exact .nil
 | cons a r ih=>cases r with
  | nil=>exact .nil
  | cons _ _=>exact .cons a ih
theorem yc(ok:OK S)(gok:gQ S.K=true)(pk:km S.K=true){k:Nat}{vs:List Value}{ns:List Int}(ha:S.h₀.IsList k vs.toArray)(hv:d8 [] (zs ns) vs)(hl:ns.length<=63):dG S 10 (.top 1083) [.top k] H fun v _=>v=.bool true:=ok.fnW 86 rfl rfl <| by
 refine dQ (qB ok.toOKl ha hv hl (H:=H)) fun H1 s c1 src1 P01 _=>vI ok.toOKl src1 fun f F H2 c2 fr2 src2 K12=>?_;have sl:s<H1.length:=by refine eu (id src1) fun _ _ e _=>?_;exact aA e
 have o:=fr2.ok;haveI l12:=K12.len;refine sD ok.toOKl (H:=H2) fun H3 tb c3 ta3 P23=>?_;have l23:=P23.len;have P33:cg H3 (H3++[O.tuple [.obj f,.obj tb]]):=.app .refl;haveI l33:=P33.len;have fr3:=(fr2.keep P23 fun _ _ _ _=>trivial).keep P33 fun _ _ _ _=>trivial;haveI src3:=(src2.keep P23 fun _=>trivial).keep P33 fun _=>trivial;refine rt ok.toOKl o src3 (fr3.region fun i _ h=>by haveI h:=h;exact z2 sl h) fun g rw D H4 c4 ga4 full src4 K34=>?_;haveI l34:=K34.len;have fr4:=fr3.keep K34 fun i _ h _=>by haveI h:=h;exact z2 sl h
 refine dQ (qZ ok.toOKl o fr4) fun H5 rwk c5 gk5 P45 hrw=>?_;haveI l45:=P45.len;have rowI:∀i,cH F rwk i->H4.length<=i/\i<H5.length:=by
  rintro i ⟨p,y,h1,h2,rfl⟩;exact hrw p y h1 h2
 have P55:cg H5 (H5++[O.tuple [.obj g,.obj H4.length]]):=.app .refl;have e55:(H5++[O.tuple [.obj g,.obj H4.length]]).length=H5.length+1:=by simp
 have P455:=P45.trans P55;have fr5:=fr4.keep P455 fun _ _ _ _=>trivial;refine II (mq ok.toOKl (F:=F) (src4.keep P455 fun _=>trivial)) fun H6 fo ks ss c6 x6 sc6 good _ lfo K56=>?_;haveI l56:=K56.len;haveI fr6:=fr5.keep K56 fun i _ h _=>by haveI h:=h;exact z2 sl h
 have kss:=sc6.length;have frT:=fr6.region (R':=fun _=>True) fun _ _ _=>trivial;have scT:=aR.region (R':=fun _=>True) sc6 fun _ _ _=>trivial;refine kT ok.toOKl o frT x6 scT good.leg (PP good.pos scT.length) (Oz (OP scT.length.symm) (Oz good.len (by decide))) fun H7 c7 P67=>?_;have fr7:=frT.keep P67 fun _ _ _ _=>trivial;have x7:=P67.pget x6;have sc7:=aR.keep scT P67 fun _ _ _ _=>trivial;refine gr ok.toOKl o fr7 x7 sc7 good.leg fun H8 c8 P78=>?_;rw [good.full] at c8;have P89:cg H8 (H8++[O.list (ks.dropLast.map .obj)]):=.app .refl;have P79:=P78.trans P89;refine gr ok.toOKl o (fr7.keep P79 fun _ _ _ _=>trivial) aj (AB (aR.keep sc7 P79 fun _ _ _ _=>trivial)) (sV good.leg) fun H10 c10 P910=>?_;rw [good.less] at c10;have P610:cg H6 H10:=P67.trans (P79.trans P910);obtain⟨_,cl,cs,_,f1,f2,f3⟩:=id fr5;have l610:=P610.len;have csl:=f3.length;have klen:=Oz (OP scT.length.symm) good.len;refine aD (EV.fcall rfl (.cons (ad rfl) .nil) c1 (by decide)) ?_;refine cL (bJ (.cons (EV.fcall rfl (.cons (ad rfl) .nil) c2 (by decide)) (.cons (EV.fcall rfl (.cons EV.int .nil) c3 (by decide)) .nil))) aj rfl ?_;refine cL (bJ (.cons (EV.fcall rfl (.cons (ad rfl) (.cons (ad rfl) .nil)) c4 (by decide)) (.cons (EV.fcall rfl (.cons (ad rfl) .nil) c5 (by decide)) .nil))) aj rfl ?_;refine aD (EV.fcall rfl (.cons (ad rfl) (.cons (au (bW (af (ad rfl) f1 rfl rfl rfl) f2 (by haveI:=i0 (F:=F);rw [OJ];exact FY csl this)) (by rw [OJ];lia)) .nil)) c6 (by decide)) ?_;refine aP (EV.fcall rfl (.cons (ad rfl) (.cons (ad rfl) .nil)) c7 (by decide)) ?_;haveI sl1:EV S 9 (.shi (.loc 6) (.neg (.int 1))) [some (.top k),some (.obj s),some (.obj f),some (.obj tb),some (.obj g),some (.obj H4.length),some (.obj fo),none,none] H8 (.obj H8.length) (H8++[O.list (ks.dropLast.map .obj)]):=by
  haveI:=Bg (S:=S) (n:=9) (a:=.loc 6) (b:=.neg (.int 1)) (ad (l:=[some (.top k),some (.obj s),some (.obj f),some (.obj tb),some (.obj g),some (.obj H4.length),some (.obj fo),none,none]) rfl) (EV.neg EV.int) (P78.pget x7) (by rw [OJ];exact Oz ‹_› (by decide)) (by decide);haveI e:(ks.map V.obj).take (((ks.map V.obj).length:Int) + -1).toNat=ks.dropLast.map .obj:=by
   refine er List.dropLast_eq_take ?_;rw [OJ];exact el SZ (congrArg (fun k=>(ks.take k).map V.obj) (Int.toNat_sub ks.length 1:((ks.length:Int) + -1).toNat=_))
  rw [e] at this;exact this
 refine ay (fJ (fg.no (TV.not (TV.val (EV.fcall rfl (.cons (ad rfl) (.cons (ad rfl) .nil)) c8 (by decide)))) rfl (fg.no (TV.val (EV.fcall rfl (.cons (ad rfl) (.cons sl1 .nil)) c10 (by decide))) rfl fg.nil))) rfl ?_;refine aD (EV.tdict rfl) ?_;generalize hT:H10++[O.tdict (mP (.obj tb) (H10.length+1) [(0,0),(0,1),(1,0),(1,1)])]++List.map (fun k:Int×Int=>O.tuple [.int k.1,.int k.2]) [(0,0),(0,1),(1,0),(1,1)]=H11;haveI P11:cg H10 H11:=by exact el hT (.app (.app .refl))
 haveI P611:=P610.trans P11;haveI K5:=K56.trans P611.pre;haveI K4:=P455.pre.trans K5;haveI K3:=P33.pre.trans (K34.trans K4);have gT:∀j,j<4->H11[H10.length+1+j]? = (List.map (fun k:Int×Int=>O.tuple [.int k.1,.int k.2]) [(0,0),(0,1),(1,0),(1,1)])[j]?:=fun j hj=>by
  refine el hT (er (OU (by simp)) ?_);congr 1;simp
 have ls:LS F f H10.length g fo rw rwk D (ks.map .obj) H11:=by
  have nr:∀i,H10.length<=i->nR F rwk i:=fun i hi z=>by haveI:=rowI _ z;exact FV this.2 e55 l56 l610 hi
  refine⟨?_,(My tb (H10.length+1) (H10.length+1+1) (H10.length+1+2) (H10.length+1+3) (ID (nr _ (OF _)) (nr _ (OL _ _)) (nr _ (OL _ (1+1))) (nr _ (OL _ (1+2))) (nr _ (OL _ (1+3)))) (by exact el hT (ah aj)) (fun e he=>?_) ?_),?_,P611.pget x6,fun z=>by haveI:=rowI _ z;exact DE this.2 e55 lfo⟩
  ·exact((fr2.region (R':=fun i=>nR F rwk i/\i≠s) fun i hi h=>⟨fun z=>by have:=rowI _ z;exact FU hi this.1 l33 l34 l23,z2 sl h⟩).keep (P23.pre.trans K3) fun _ _ h _=>h.2).region fun _ _ h=>h.1
  ·simp [wR] at he;rcases he with rfl | rfl | rfl | rfl
   ·exact gT 0 (by decide)
   ·exact gT 1 (by decide)
   ·exact gT 2 (by decide)
   ·exact gT 3 (by decide)
  ·exact((ta3.region (R':=fun i=>nR F rwk i/\i≠s) fun i hi h=>⟨fun z=>by have:=rowI _ z;exact FT hi this.1 l34 l33,Bu sl h l12⟩).keep K3 fun _ _ h _=>h.2).region fun _ _ h=>h.1
  ·exact((ga4.region (R':=fun i=>nR F rwk i/\i≠s) fun i hi h=>⟨fun z=>by have:=rowI _ z;exact FS hi this.1,Bv sl h l12 l23 l33⟩).keep K4 fun _ _ h _=>h.2).region fun _ _ h=>h.1
 refine bk (ad rfl) (aU (P611.pget x6)) (yd ok gok pk o full (P611.pget x6) ks ss (eN F) _ H11 none good.leg ((aR.keep (sc6.region (R':=nR F rwk) fun i _ h z=>by haveI:=rowI _ z;exact DE this.2 e55 h.1) P611 fun _ _ _ _=>trivial)) sY ls ((gk5.keep (P55.pre.trans K5) fun i _ h _=>FQ sl h l12 l23 l33 l34).region fun _ _ _=>trivial) fun H' z' Dk' hk ls' gk'=>?_);refine tI ok.toOKl o (sZ full (fun p x y q hq hx hy=>uk o hq hx hy) hk good.full) (AK.mk (ls'.ga.region fun _ _ _=>trivial) gk' (ls'.fr.region fun _ _ _=>trivial)) fun H'' c=>W.ret (EV.fcall rfl (.cons (ad rfl) (.cons (ad rfl) (.cons (ad rfl) .nil))) c (by decide)) rfl
end
end
section
mutual #where
variable {M:Model} {A:Around} {s:Shared}
theorem dn{c:Prop}[Decidable c]{α:Type}{a:c->α}{b:¬c->α}{r:α}(h:¬c)(k:b h=r):dite c a b=r:=(dif_neg h).trans k
theorem pf{self:Value}{Q:Bool->Shared->Prop}(q:Q false s):bC iq M A (Builtin.Bytes.exported self) Q s:=fun Γ p hΓ hx=>by
 refine(?_:Sem.wp M Γ (Sem.bind stack _) _ _ p s);unfold stack;rw [Sem.wp_bind,Sem.wp_stack];have key:∀f:Code×Pos->Bool,(∀c,dZ c.1=true->f c=false)->Q (((Γ.code,p)::Γ.below).any f) s:=fun f h=>by
  exact er (Sv.mpr fun c hc=>by rw [Sz];exact h c (by
   rcases OY.mp hc with rfl | hc
   ·exact hx.1
   ·exact hx.2 c hc)) q
 refine key _ fun⟨c,p⟩ h=>?_;cases c with
 | builtin id args=>
  haveI h:=(Qz _).mp h;haveI ne:∀ {x},i6.contains x=true->id≠x:=fun t e=>Qi ((e▸h).symm.trans t);haveI hd:Builtin.Bytes.decodersThatHold.contains id=false:=by
   unfold i6 at h;rw [R0,List.any_append,Bool.or_eq_false_iff] at h;refine er R0 (er h.2 ?_);rfl
  delta Builtin.Bytes.exported.match_1
  iterate 5 (refine dn (ne ?_) ?_;· decide +kernel)
  obtain⟨pos,kw⟩:=args;cases pos with
  | nil=>rfl
  | cons v l=>exact(congrArg (Builtin.Bytes.sameRef v self&&·) hd).trans (SU _)
 | _=>rfl
end
end
section
mutual #where
variable {S:be} {A:Around} {φ:Fp} {s:Shared} {H:List O} {Q:V->List O->Prop}
open Builtin.Bytes in
theorem f8{M:Model}{a:Nat}{bs:Array UInt8}{Q:Bool->Shared->Prop}(ho:s.heap.get? a=some ⟨.type "bytearray",none,.bytearray bs 0,#[]⟩)(q:Q false s) :
  bC iq M A (exported (.ref a) <||> (do return (← exportsOf (.ref a))>0)) Q s:=by
 refine am (pf ?_);refine ax ?_;refine wpAny_bind (wpAny_load ho (wpAny_pure (aq ?_)));exact q
open Builtin.Bytes in
theorem A0(hX:S.X=iq){i:Nat}{bs:Array UInt8}{c:Int}{v u:Value}(t:St S φ H s)(rx:VR φ (.obj i) v)(ry:VR φ (.int c) u)(hi:H[i]? = some (.barr bs))(hl:0<=c/\c<256/\bs.size<=100000)(h:Q .none (H.set i (.barr (bs.push c.toNat.toUInt8)))):bC S.X S.M A (call (.builtin "bytearray.append") [v,u]) (bR S φ s Q) s:=by
 refine b7 ry fun tc q_a=>t.one rx hi fS fun a x z e' ho ox=>?_;subst z;refine dN hl fun h1 h2 h3=>er q_a ?_;obtain rfl:=ox;refine er hX ?_;haveI hT:s.TypeIs (.ref a) "bytearray":=bN _ ho rfl;refine f9 eR (du eR (plainId_quiet ew.plain _) ((by decide +kernel:(!i6.contains "bytearray.append")=true)) kQ (ew.check _ _ _ _ _ _ _ _ hT (lH _ _) ?_));refine ax (wpAny_pure ?_);haveI bv:byteValue (.int c tc)=pure c.toNat.toUInt8:=by
  unfold byteValue asIndex;refine er (show(asInt? (.int c tc))=pure (some c) from rfl) ?_;simp only [pure_bind];haveI e:(decide (c<0)||decide (c≥256))=false:=by simp;exact Mj h2 h1
  refine er e ?_;rfl
 refine ax (wpAny_of_eq bv ?_);haveI fin:bC iq S.M (A.under (.builtin "bytearray.append" ⟨[.ref a,.int c tc],[]⟩)) (write (.ref a) (·.push c.toNat.toUInt8) >>= fun _=>ret .none) (fun fin s'=>match fin with | .done f=>(match f with | .ret v=>bR S φ s Q v s' | _=>False) | .again c'=>c'.quiet=true/\dZ c'=true/\cB iq S.M A c' (fun fl s'=>match fl with | .ret v=>bR S φ s Q v s' | _=>False) s') s:=by
  refine ax (wpAny_bind (wpAny_load ho ?_));refine wpAny_bind (wpAny_update ho ?_);haveI ho':(s.heap.update a (Q8 (·.push c.toNat.toUInt8))).get? a=some ⟨.type "bytearray",none,.bytearray (bs.push c.toNat.toUInt8) 0,#[]⟩:=Ql _ ho rfl;refine wpAny_lookBehind ho' (by dsimp only;exact if_neg (by refine er sizeLine_eq ?_;rw [SA];exact LB h3)) (aq ?_);haveI ne:∀b x,s.heap.get? b=some x->b≠a->(s.heap.update a (Q8 (·.push c.toNat.toUInt8))).get? b=some x:=fun b x q n=>(Rv _ _ _ _ n).trans q;exact .upd t e' (.one (o:=.barr (bs.push c.toNat.toUInt8)) fS ho' rfl) (fun b x q n1 _=>ne b x q n1) .none h
 refine am (am (f8 ho ?_));exact aq fin
end
end
namespace Fb
mutual #where
theorem oR:∃c tl,mroOf (.type "bytes")=pure (c::tl):=IC (.type "bytes") [.type "object"] (by rw [mroOf_type];kernel_rfl)
theorem li:typeLookup (.type "bytes") "__new__" = pure (some (.builtin "bytes.__new__")):=by rewrite [typeLookup_type];refine er builtinLookup_eq_fast ?_;kernel_rfl
theorem mj:Slot "bytes" "__init__" "object.__init__":=
 .of (owner:="object") (n:="__init__") (by rewrite [typeLookup_type];refine er builtinLookup_eq_fast ?_;kernel_rfl) (by decide +kernel) (by decide +kernel) (by decide +kernel)
  (by first | exact .inl (by decide +kernel) | exact .inr (by decide +kernel)) (by rw [isSubtype_type];kernel_rfl)
theorem sub_bytes:isSubtype (.type "bytes") (.type "bytes")=pure true:=by rw [isSubtype_type];kernel_rfl
theorem sub_barr:isSubtype (.type "bytearray") (.type "bytearray")=pure true:=by rw [isSubtype_type];kernel_rfl
theorem called_bytes:TypeCalled "bytes" "bytes.__new__" "object.__init__":=
 ⟨by decide +kernel,by decide +kernel,oR,by refine mO oR fun _ _ h=>?_;exact madeBy_type h li (by decide +kernel),by decide +kernel,sub_bytes,mj⟩
theorem typeCall_bytes(a:Value):checkTypeCall "bytes" ⟨[a],[]⟩=pure ():=by kernel_rfl
theorem newCall_bytes(a:Value):checkBuiltinCall "bytes.__new__" ⟨[.type "bytes",a],[]⟩=pure ():=by kernel_rfl
theorem entry_bytes_new:entryFor table "bytes.__new__" = some Builtin.«bytes.__new__»:=entryFor_of_tree (by kernel_rfl)
theorem initArgs(obj a:Value):argsOk "object.__init__" ⟨[obj,a],[]⟩:=by
 kernel_rfl
theorem l1:typeLookup (.type "bytearray") "__bytes__" = pure none:=by rewrite [typeLookup_type];refine er builtinLookup_eq_fast ?_;kernel_rfl
theorem l2:typeLookup (.type "bytearray") "__index__" = pure none:=by rewrite [typeLookup_type];refine er builtinLookup_eq_fast ?_;kernel_rfl
theorem l3:typeLookup (.type "bytearray") "__buffer__" = pure (some (.builtin "bytearray.__buffer__")):=by rewrite [typeLookup_type];refine er builtinLookup_eq_fast ?_;kernel_rfl
theorem l4:typeLookup (.type "bytearray") "__release_buffer__" = pure (some (.builtin "bytearray.__release_buffer__")):=by rewrite [typeLookup_type];refine er builtinLookup_eq_fast ?_;kernel_rfl
end
end Fb
section
mutual #where
variable {prog:Program} {w:World} {A:Around} {E:Value->Shared->Prop} {s:Shared}
theorem qM{a:Nat}{name id:String}{Q:Bool->Shared->Prop}(hT:s.TypeIs (.ref a) "bytearray")(hl:typeLookup (.type "bytearray") name=pure (some (.builtin id)))(h1:id.endsWith ("."++name)=true)(h2:id.dropRight (name.length+1) = "bytearray")(q:Q true s) :
  wpAny (model prog w) A (Builtin.Bytes.slotIsOwn (.ref a) name) Q E s:=by
 refine wpAny_bind (wpAny_specialOf hT hl ?_);dsimp only;refine er h1 ?_;exact er h2 (wpAny_isInstance hT Fb.sub_barr q)
theorem lW{a:Nat}{Q:Bool->Shared->Prop}(hT:s.TypeIs (.ref a) "bytearray")(q:Q false s):wpAny (model prog w) A (Builtin.Bytes.ownRelease (.ref a)) Q E s:=
 wpAny_bind (qM hT Fb.l4 (by decide +kernel) (by decide +kernel) (wpAny_pure q))
theorem rP{a:Nat}{bs:Array UInt8}{id:String}{full:Bool}{Q:Option (Array UInt8)->Shared->Prop}(ho:s.heap.get? a=some ⟨.type "bytearray",none,.bytearray bs 0,#[]⟩)(q:Q (some bs) s):wpAny (model prog w) A (Builtin.Bytes.buffer? id (.ref a) full) Q E s:=by
 haveI hT:s.TypeIs (.ref a) "bytearray":=bN _ ho rfl;refine wpAny_bind (wpAny_specialOf hT Fb.l3 ?_);refine wpAny_bind (qM hT Fb.l3 (by decide +kernel) (by decide +kernel) ?_);refine wpAny_bind (wpAny_specialOf hT Fb.l3 ?_);refine wpAny_bind (lW hT ?_);exact wpAny_bind (wpAny_bind (wpAny_bind (wpAny_load ho (wpAny_pure (wpAny_pure (wpAny_pure q))))))
theorem pY(a:Nat)(bs:Array UInt8)(hz:bs.size<=sizeLine):MeetsIn prog w (Builtin.«bytes.__new__» ⟨[.type "bytes",.ref a],[]⟩) (fun A R s=>s.heap.get? a=some ⟨.type "bytearray",none,.bytearray bs 0,#[]⟩/\∀t tk,R (.ok (.ret (.bytes bs t))) { s with toks:=tk }):=.of_wp fun A R s h=>by
 refine ba h fun ho h=>?_;haveI hT:s.TypeIs (.ref a) "bytearray":=bN _ ho rfl;haveI hsub:=Fb.sub_bytes;haveI l1:=Fb.l1;have l2:=Fb.l2;haveI mk:mkBytes bs=(do return .bytes bs (← fresh)):=if_neg (QE.mpr hz)
 wp_walk using (rP ho)
 exact bN _ rfl (h _ _)
theorem AZ{S:be}{φ:Fp}{H:List O}{Q:V->List O->Prop}{i:Nat}{bs:Array UInt8}{v:Value}(t:St S φ H s)(rx:VR φ (.obj i) v)(hi:H[i]? = some (.barr bs))(hl:bs.size<=100000)(q:Q (.bytes bs) H):bC S.X S.M A (call (.type "bytes") [v]) (bR S φ s Q) s:=by
 refine t.one rx hi fS fun a x z e' ho ox=>?_;obtain rfl:=ox;refine er z ?_;refine aK (callType_newIn Fb.called_bytes (by decide) (Fb.typeCall_bytes _) (Fb.newCall_bytes _) (fun obj=>Fb.initArgs obj _) Fb.entry_bytes_new (pY a bs (by exact er sizeLine_eq (Iu hl))) ⟨ho,fun tt tk=>?_⟩);exact⟨rfl,bF.tk t tk (.bytes _ _) q⟩
end
end
namespace Fb
mutual #where
theorem mro_barr:mroOf (.type "bytearray")=pure [.type "bytearray",.type "object"]:=by rw [mroOf_type];kernel_rfl
theorem mo:typeLookup (.type "bytearray") "__new__" = pure (some (.builtin "bytearray.__new__")):=by rewrite [typeLookup_type];refine er builtinLookup_eq_fast ?_;kernel_rfl
theorem slot_barr_init:Slot "bytearray" "__init__" "bytearray.__init__":=
 .of (n:="__init__") (by rewrite [typeLookup_type];refine er builtinLookup_eq_fast ?_;kernel_rfl) (by decide +kernel) (by decide +kernel) (by decide +kernel)
  (by first | exact .inl (by decide +kernel) | exact .inr (by decide +kernel)) sub_barr
theorem called_barr:TypeCalled "bytearray" "bytearray.__new__" "bytearray.__init__":=
 ⟨by decide +kernel,by decide +kernel,(IC _ _ mro_barr),madeBy_type mro_barr mo (by decide +kernel),by decide +kernel,sub_barr,slot_barr_init⟩
theorem typeCall_barr:checkTypeCall "bytearray" ⟨[],[]⟩=pure ():=by kernel_rfl
theorem newCall_barr:checkBuiltinCall "bytearray.__new__" ⟨[.type "bytearray"],[]⟩=pure ():=by kernel_rfl
theorem entry_barr_new:entryFor table "bytearray.__new__" = some Builtin.«list.__new__»:=
 entryFor_alias (id':="list.__new__") (by kernel_rfl) rfl (by decide +kernel) (by kernel_rfl)
theorem entry_barr_init:entryFor table "bytearray.__init__" = some Builtin.«bytearray.__init__»:=entryFor_of_tree (by kernel_rfl)
theorem initArgs_barr(obj:Value):argsOk "bytearray.__init__" ⟨[obj],[]⟩:=by kernel_rfl
set_option maxRecDepth 1000000 in
set_option maxHeartbeats 4000000 in
theorem owner_barr_new:("bytearray.__new__".splitOn ".__new__").headD "" = "bytearray":=by simp +decide [String.splitOn,String.splitOnAux]
end
end Fb
section
mutual #where
variable {prog:Program} {w:World} {A:Around} {E:Value->Shared->Prop} {s:Shared}
theorem oF{Q₁:Value->Shared->Prop}(h:Q₁ (.ref s.heap.objs.size) { s with heap:=s.heap.push { cls:=.type "bytearray",data:=.bytearray #[] } }) :
  codeAny (model prog w) A (.call (.builtin "bytearray.__new__") ⟨[.type "bytearray"],[]⟩) (wants Q₁ E) s:=by
 refine codeAny_of_tree ?_;refine(?_:wpAny _ A.in1 (do checkBuiltinCall "bytearray.__new__" ⟨[.type "bytearray"],[]⟩;again (.builtin "bytearray.__new__" ⟨[.type "bytearray"],[]⟩)) _ _ s);refine wpAny_bind (wpAny_of_eq Fb.newCall_barr (wpAny_pure ⟨plainId_quiet Fb.called_barr.plain _,codeAny_builtin_stack Fb.entry_barr_new rfl fun p st=>?_⟩));refine er (Around.under_plainId Fb.called_barr.plain _) ?_;haveI hsub:=Fb.sub_barr;haveI hown:=Fb.owner_barr_new;simp only [hown]
 wp_walk
 obtain⟨hp,g,d,tk,os⟩:=s;exact h
theorem vG{a:Nat}{Q:Fin->Shared->Prop}(ho:s.heap.get? a=some ⟨.type "bytearray",none,.bytearray #[] 0,#[]⟩)
  (q:Q (.done (.ret .none)) { s with heap:=s.heap.update a (Q8 fun _=>#[]) }):bC iq (model prog w) A (Builtin.«bytearray.__init__» ⟨[.ref a],[]⟩) Q s:=by
 have hT:s.TypeIs (.ref a) "bytearray":=bN _ ho rfl;refine ax (lW hT ?_);refine(?_:bC _ _ _ (Builtin.Bytes.bindOptional "bytearray.__init__" "bytearray" ["source","encoding","errors"] [] [] >>= _) _ _);refine ax (wpAny_of_eq (a:=[none,none,none]) (by kernel_rfl) ?_);refine ax (wpAny_pure ?_);show bC _ _ _ (Builtin.Bytes.checkCodecArg "bytearray.__init__" "bytearray" "errors" none >>= _) _ _;refine ax (wpAny_pure ?_);refine am (f8 ho ?_);refine ax ?_;refine wpAny_bind (wpAny_load ho ?_);refine wpAny_bind (wpAny_update ho ?_);refine wpAny_lookBehind (Ql (Q8 fun _=>#[]) ho rfl) (rfl) ?_;exact aq q
theorem oH{X:Ctx->Prop}(xk:p9 X){id:String}{args:Args}{b:Builtin}{R:Flow->Shared->Prop}(hb:entryFor table id=some b)
  (h:bC X (model prog w) (A.under (.builtin id args)) (b args) (fun fin s'=>match fin with | .done f=>R f s' | .again c'=>c'.quiet=true/\dZ c'=true/\cB X (model prog w) A c' R s') s):cB X (model prog w) A (.builtin id args) R s:=by
 refine bK xk ?_;refine(?_:bC _ _ _ (match entryFor table id with | some b=>b args | none=>unsupported ((withoutEnding? id "#data").getD id)) _ s);exact er hb h
theorem AX{S:be}{φ:Fp}{H:List O}{Q:V->List O->Prop}(hX:S.X=iq)(t:St S φ H s)(q:Q (.obj H.length) (H++[.barr #[]])):bC S.X S.M A (call (.type "bytearray") []) (bR S φ s Q) s:=by
 refine er hX ?_;refine f9 eR (bK eR ?_);refine aq (bT (Code.quiet_builtin _ (by decide +kernel)) ((by decide +kernel:(!i6.contains "type.__call__")=true)) (oH eR F.entry_type_call ?_));refine er (Around.under_plain (weight_type_call_type "bytearray" [] []) rfl) ?_;haveI h1:=Fb.called_barr.notType;haveI h2:=Fb.called_barr.canCreate;unfold Builtin.«type.__call__»;dsimp only;refine er (if_neg (by exact er h1 Qi)) (er (if_neg (by exact er h2 Qi)) ?_);refine ax (wpAny_of_eq Fb.typeCall_barr ?_);show bC _ _ _ (mroOf (.type "bytearray") >>= _) _ _;refine ax (wpAny_of_eq Fb.mro_barr ?_);refine ax (wpAny_of_eq Fb.called_barr.made ?_);refine ax (wpAny_pure ?_);refine ax (wpAny_holding (wpAny_call (oF ?_)));haveI ho:(s.heap.push { cls:=.type "bytearray",data:=.bytearray #[] }).get? s.heap.objs.size=some ⟨.type "bytearray",none,.bytearray #[] 0,#[]⟩:=Pe _ rfl;haveI hT:Shared.TypeIs { s with heap:=s.heap.push { cls:=.type "bytearray",data:=.bytearray #[] } } (.ref s.heap.objs.size) "bytearray":=bN _ ho rfl;refine ax (wpAny_isInstance hT Fb.sub_barr ?_);refine am (aO (ax (wpAny_specialOf hT Fb.slot_barr_init.lookup ?_)));refine aO (ax (wpAny_of_eq (Fb.slot_barr_init.bind _) ?_));refine am (f9 eR (du eR (plainId_quiet Fb.slot_barr_init.plain _) ((by decide +kernel:(!i6.contains "bytearray.__init__")=true)) Fb.entry_barr_init (Fb.slot_barr_init.check _ _ _ _ _ _ _ _ hT (Fb.initArgs_barr _) ?_)));refine vG ho ?_;refine aq (aq ?_);refine iN t (o:=.barr #[]) (fun b x e=>?_) (.one fS (Ql _ ho rfl) rfl) bw q;exact(Rv _ _ _ _ (Pf (Qu e))).trans (OV _ e)
end
end
mutual #where
theorem pX:iq ⟨.builtin "claim.caller" {},none,none,[],none⟩:=⟨(by decide +kernel:(!i6.contains "claim.caller")=true),fun c hc=>nomatch hc⟩
end
abbrev fh : OpenRow := PySem.Challenge.rw_nt0578_01.row
mutual #where
abbrev BZ(q:Program)(loose:List Str)(XP:(Str->Option Value)->Heap->Prop)(YP:World->Heap->Prop):Prop:=
 ∀(w:World) (s₀ s₁:Shared) (mg mb:Str->Option Value),Ground q loose [] XP w s₀ mg mb s₀.heap->YP w s₀.heap->∀(args:List WData) (vs:List Value) (as:List Addr),fh.claim.pre args=true->Laid [] w s₀ s₁ args vs as->
  ∃f,mg fh.name=some f/\bC iq (model fh.prog w) callerA (PySem.call f vs) (fun v s'=>(v=.bool true/\(∀b o,s₁.heap.get? b=some o->s'.heap.get? b=some o))/\s'.os=s₁.os/\AllBare s'.gens) s₁
theorem qY{prog:Program}{w:World}{t:Sem Fin}{s:Shared}{Q:Value->Shared->Prop}(hz:s.asleep)
  (h:bC iq (model prog w) callerA t (fun fin s'=>∃v,fin=.done (.ret v)/\Q v s'/\AllBare s'.gens) s) :
  ∃n v s' s'',schedN (denote table) prog w n (.single s ⟨t,.builtin "claim.caller" {},default,[]⟩)=.halted (.done (.ret v)) s'/\runN (denote table) prog w n s ⟨t,.builtin "claim.caller" {},default,[]⟩=.halted (.done (.ret v)) s'/\s'.forget=s''.forget/\Q v s'':=by
 refine Hr fun _ kK=>?_;haveI h0:=h _ default caller_in pX;refine MC (wp_halts_full (R:=fun r s'=>∃v,r=.ok (.ret v)/\Q v s') hz
  (Sem.wp_mono _ _ _ (fun fin p' s' y_58=>eZ y_58 fun v e q g=>by exact er e ⟨(bN v rfl q),leftWithCleanup_false_of_bare g⟩) (fun _ _ _ e=>e.elim) _ _ h0)) fun n r s₁ s₂ a b c q_a=>?_
 refine aZ q_a fun v q_b q=>?_;obtain rfl:=q_b;exact kK n v s₂ s₁ a b c q
theorem PySem.W.holds_open{q:Program}{loose:List Str}{Xt:Shared->Bool}{XP:(Str->Option Value)->Heap->Prop}{α:Type}{Yf:Shared->α}{Ya:World->α}{YP:World->Heap->Prop}{d:DefRec}{kwd:List (Str×Expr)}{N:Nat}
  (left:LeftO fh.prog q loose Xt Yf Ya N) (hY:∀w s,Yf s=Ya w->YP w s.heap) (_:∀w h h',YP w h->(∀b o,h.get? b=some o->h'.get? b=some o)->YP w h')
  (hX:∀s,Xt s=true->XP (s.heap.nsMap mainGlobals) s.heap) (_:∀mg h h',XP mg h->(∀b o,h.get? b=some o->h'.get? b=some o)->XP mg h')
  (hdef:defOf q fh.name=some (d,kwd)) (hp:fh.prog.theDef fh.name=some (d.params,d.body,d.scope)) (hk:kwWritten? d.params.kwonlyargs d.params.kw_defaults=some kwd) (_:∀s,Xt s=true->RecFacts fh.records s.heap) (_:(!fh.writes||fh.records.isEmpty)=true)
  (k1:fh.wellSaid=true) (ok:(chainsOk q&&opensWell fh.prog&&(frees fh.toRowW&&fh.within.isEmpty))=true) (hb:fh.prog.bare) (hw:fh.toRowW.promised) (call:BZ q loose XP YP):fh.Holds:=by
 refine ba (Pi.mp ok) fun ok k5=>ba (Pi.mp ok) fun hch o1=>tT (frees_parts (Pi.mp k5).1) fun hsame hu ha hap _=>ID k1 hw (bT hb o1 rfl) hw.witness (fun w=>⟨(left.behind hX hch w).1,fun s' hs'=>?_⟩);refine eZ ((left.behind hX hch w).2 s' hs') fun s₀ hf hg0 q_a=>Ny q_a fun s hT hz hgens hg G y=>?_;have hgens:=Array.eq_empty_of_size_eq_zero (beq_iff_eq.mp hgens);refine⟨s₀,hf,hg0,s,hT,fun n hn=>?_,fun _ hx=>ju hx,fun _ hx=>ju hx,fun args hpre hlay ord hord=>?_⟩
 ·obtain rfl:n=fh.name:=OZ.mp hn;exact pinned_of_view hg G hdef hp hk
 refine b7 (QV.mp (layAllW_isSome (P:=w.params) (ord:=ord) G.has args fh.args s (pre_splitW hpre).1)) fun q_a hlaid=>?_;obtain⟨vs,s₁⟩:=q_a;haveI keeps:=layAllW_keeps _ _ _ hlaid;haveI hal:=layAllW_rest _ _ _ hlaid;refine eZ (reads_layAllW hord _ _ _ hlaid hlay s₁.heap (fun _ _ e=>e)) fun as hrd hin hold=>?_;have L:Laid [] w s s₁ args vs as:=⟨(bN ord hord hlaid),hrd,hin,hold,keeps,hal.1.trans hgens,hal.2.2.1⟩;have hm:=G.T.g.keeps keeps;refine aZ (call w s s₁ _ _ G (hY w s y) args vs as hpre L) fun f hf h=>GJ (qY (s:=s₁) (t:=do match ← nsGet mainNs fh.name with
   | some f=>do ret (← PySem.call f vs)
   | none=>unsupported "claim.caller:no-such-global") (Q:=fun v s'=>(v=.bool true/\∀b o,s₁.heap.get? b=some o->s'.heap.get? b=some o)/\s'.os=s₁.os) (Shared.asleep_of_life hal.2.2.2 hz)
  (ax (wpAny_nsGet hm (by exact er hf (am (aH h fun v s' y_59=>dN y_59 fun a b c=>aq (jb v rfl ⟨a,b⟩ c))))))) fun n v sB sA hs hn hfo q_a hos=>?_
 refine tT (Shared.forget_eq hfo) fun eh _ _ eo _=>ba q_a fun q_b hK=>?_;obtain rfl:=q_b;haveI good:GoodWG fh.claim (classAt s.heap) (ExcName.means s.heap) args s₁ (.ok (.ret (.bool true))) { sB with gens:=#[] }:=
  oK (.inl (Cg _ _ _ rfl (fun _=>rfl) (.bool true) (by first | rfl | kernel_rfl) (fun _=>⟨.nil,fun a ha=>nomatch ha⟩))) (.of_keep fun b o e=>by exact er eh (hK b o e)) (eo.trans hos) .empty
 refine dN (good.laid hsame rfl (ident_freeW hu ha hap) L) fun e1 e2 _=>⟨vs,s₁,hlaid,n,_,sB,hs,?_,fun _ i x hx=>by rw [hgens] at hx;exact aJ hx,nofun,congrArg Life.seen ((runN_life _ _ _ hn).trans hal.2.2.2),Shared.rest_eq e2⟩;rcases e1 with ⟨v,e,d1,d2,d3,d4,d5⟩ | ⟨_,_,_,e,_⟩
 ·cases e;exact .inl (NW _ rfl d1 d2 d3 (fun b o y _=>d4 b o y) d5)
 ·exact nomatch e
theorem CP{i:Int}{v:Value}(h:v.isInt i=true):∃t,v=.int i t:=by
 cases v with
 | int j t=>exact⟨t,by refine er (eq_of_beq h) ?_;rfl⟩
 | _=>exact ae h
theorem CO{n:Str}{v:Value}(h:v.isStr n=true):∃t,v=.str n t:=by
 cases v with
 | str j t=>exact⟨t,by refine er (eq_of_beq h) ?_;rfl⟩
 | _=>exact ae h
def IA(x:V)(v:Value):Bool:=match x with
 | .top a=>decide (v=.ref a)
 | .int i=>v.isInt i
 | .type n=>decide (v=.type n)
 | .bi n=>decide (v=.builtin n)
 | _=>false
theorem se{x:V}{v:Value}(h:IA x v=true)(φ:Fp):VR φ x v:=by
 cases x with
 | top a=>exact of_decide_eq_true (p:=v=.ref a) h
 | int i=>exact CP h
 | type n=>exact of_decide_eq_true (p:=v=.type n) h
 | bi n=>exact of_decide_eq_true (p:=v=.builtin n) h
 | _=>exact ae h
def BM(d:Data):Option (Array DictEntry):=match d with | .dict es _=>some es | _=>none
def BB(d:Data):Option (Array Value):=match d with | .seq xs _=>some xs | _=>none
theorem Cq{d:Data}{xs:Array Value}(h:BB d=some xs){kP:Prop}(kK:∀n,d=.seq xs n->kP):kP:=by
 cases d with
 | seq ys n=>exact kK n (congrArg (Data.seq · n) (Option.some.inj h))
 | _=>exact aJ h
def xZ(K:Frag)(x:Str):Option Value:=(K.lookup mainGlobals).bind fun o=>(BM o.data).bind (nsFind · x)
def tH:List Str->List Value->Bool
 | [],l=>l.isEmpty
 | n::ns,l=>l.head?.any (·.isStr n)&&tH ns l.tail
theorem zR{ns:List Str}:∀ {l:List Value},tH ns l=true->StrsAre l ns:=by
 induction ns with
 | nil=>intro l h;exact er (Q5.mp h) .nil
 | cons n ns ih=>
  intro l h;cases l with
  | nil=>exact ae h
  | cons v l=>
   refine b7 (CO (aV h).1) fun t e=>er e ?_;exact .cons _ _ (ih (aV h).2)
def BJ(K:Frag):Bool:=dX.all (fun p=>(xZ K p.1).any (IA p.2))&&uB.all (fun p=>!(p.1 == F7 "__name__")&&(xZ K p.1).isNone&&(bootBuiltins p.1).any (IA p.2))&&(xZ K fh.name).any (IA (.top 1083))
def BH(K:Frag):Bool:=dX.all fun p=>match p.2 with
 | .top a=>a == 892||keepIn K (.ref a)
 | _=>true
def G1(K:Frag):Bool:=(K.lookup 892).any fun o=>decide (o.cls=.type "tuple")&&(BB o.data).any fun xs=>tH mW xs.toList
def uH(K:Frag):Bool:=(K.lookup mainGlobals).isSome&&BJ K&&BH K&&G1 K&&i4 K&&uq.all (fun p=>yw K p.1 p.2)&&tC.all (fun p=>tD K p.1 p.2.1 p.2.2)&&gQ K&&km K
theorem G8{K:Frag}{h:Heap}{mg:Str->Option Value}(KX:K.In h)(n:h.Ns mainGlobals mg)(hs:(K.lookup mainGlobals).isSome=true)(x:Str):xZ K x=mg x:=by
 refine Ck n fun o es ep e d _ f=>b7 (QV.mp hs) fun o' hK=>?_;haveI:=Option.some.inj ((KX _ _ hK).symm.trans e);subst this;unfold xZ;refine er hK ?_;refine(?_:(BM o'.data).bind _=_);exact er d (f x)
theorem CQ{d:WData}(h:WShape.has [] d .int=true){kP:Prop}(kK:∀i,d=.int i->kP):kP:=by
 cases d with
 | int i=>exact kK i rfl
 | _=>exact ae h
theorem Am{d:WData}(h:WShape.has [] d (.list .int)=true){kP:Prop}(kK:∀xs,d=.list xs->WShape.hasItems [] xs .int=true->kP):kP:=by
 cases d with
 | list xs=>exact kK xs rfl ((Bool.or_false _).symm.trans h)
 | _=>exact ae h
theorem uG{cl:Str->Option Addr}{h:Heap}{us:List Value}{d:WData}{xs:List WData}{as:List Addr}(r:ReadsAllW [] cl h us (d::xs) as){kP:Prop}(kK:∀v vs a b,us=v::vs->ReadsW [] cl h v d a->ReadsAllW [] cl h vs xs b->kP):kP:=by
 cases r with
 | cons r rs=>exact kK _ _ _ _ rfl r rs
theorem uF{cl:Str->Option Addr}{h:Heap}{us:List Value}{as:List Addr}(r:ReadsAllW [] cl h us [] as):us=[]:=by
 cases r;rfl
theorem Aq{cl:Str->Option Addr}{h:Heap}{xs:List WData}:∀ {us:List Value} {as:List Addr},ReadsAllW [] cl h us xs as->WShape.hasItems [] xs .int=true->∃ns:List Int,d8 [] (zs ns) us/\ns.length=xs.length:=by
 induction xs with
 | nil=>intro us as r _;exact er (uF r) (bN [] .nil rfl)
 | cons d xs ih=>
  intro us as r hx;refine ma fun _ kK=>uG r fun v vs a b e1 r rs=>CQ (aV hx).1 fun i e=>?_;replace r:=e▸r;refine aZ (readsW_int_inv r) fun t e2 _=>aZ (ih rs (aV hx).2) fun ns q l=>kK (i::ns) (by refine er e1 ?_;exact er e2 (.cons (.int _ _) q)) (congrArg Nat.succ l)
theorem CK{xs:List WData}(h:WTm.holds [] (.and (.not (.lt (.lit (.int 63)) (.len (.arg 0)))) (.lit (.bool true))) { args:=[WData.list xs] }=true):xs.length<=63:=by
 by_cases hh:(63:Int)<(xs.length)
 ·haveI h:WTm.holds [] (.and (.not (.lit (.bool (decide ((63:Int)<(xs.length:Nat)))))) (.lit (.bool true))) { args:=[WData.list xs] }=true:=h;replace h:=(decide_eq_true hh)▸h;exact ae h
 ·lia
theorem vk{d:List WData}{w:World}{s₀ s₁:Shared}{vs:List Value}{as:List Nat}(hpre:fh.claim.pre d=true)(L:Laid [] w s₀ s₁ d vs as){kP:Prop}(kK:∀(k:Nat) (us:List Value) (ns:List Int),vs=[.ref k]->s₁.heap.IsList k us.toArray->d8 [] (zs ns) us->ns.length<=63->kP):kP:=by
 refine ba (pre_splitW hpre) fun h1 h2=>fQ (hasAllW_cons h1) fun x r q_a hx hr=>Am hx fun xs q_a hy=>?_;subst q_a;subst q_a;cases r with
 | cons _ _=>exact ae hr
 | nil=>
  refine uG L.reads fun v vs' a b e1 r rs=>Nw (readsW_list_open r) fun l o its n ai e2 ho hc hd rr _=>aZ (Aq rr hy) fun ns q e=>kK l its.toList ns (by refine er e1 ?_;refine er e2 (er (uF rs) ?_);rfl) ⟨_,ho,hc,_,hd⟩ q (e▸CK h2)
def lw(as:List Nat)(h:Heap):Frag:=as.filterMap fun a=>(h.get? a).map fun o=>(a,o)
theorem vJ{as:List Nat}{h:Heap}:(lw as h).In h:=by
 intro a o e;induction as with
 | nil=>exact aJ e
 | cons b as ih=>
  cases hb:h.get? b with
  | none=>
   haveI q:lw (b::as) h=lw as h:=List.filterMap_cons_none (congrArg (S2 fun o=>(b,o)) hb);exact ih (q▸e)
  | some x=>
   haveI q:lw (b::as) h=(b,x)::lw as h:=RZ (congrArg (S2 fun o=>(b,o)) hb);rw [q,PO] at e;by_cases z:a=b
   ·subst z;rw [beq_self_eq_true] at e;exact hb.trans e
   ·rw [beq_eq_false_iff_ne.mpr z] at e;exact ih e
def kept:List Nat:=[3,892]++[27,34,41,48,55,69,72,90,95,100,107,114,121,128,135,138,154,161,168,171,182,281,288,302,309,316,319,337,344,351,358,361,379,386,393,400,403,414,421,428,435,442,456,463,470,477,484,491,494,512,519,526,533,536,554,561,568,575,578,596,603,610,617,620,638,645,652,659,662,680,687,694,701,704,722,729,736,743,750,757,764,767,785,792,799,806,813,820,827,830,841,848,855,869,876,886,896,903,910,917,924,936,943,950,953,964,971,978,992,999,1006,1013,1016,1027,1034,1039,1046,1051,1056,1063,1068,1075,1082].flatMap fun a=>[a,a+1]
def ckHook:Hook:=⟨Bool,fun s=>uH (lw kept s.heap),fun _=>true,fun _ h=>∃K:Frag,uH K=true/\K.In h,fun _ _ e=>⟨_,e,vJ⟩,fun _ _ _ y k=>aZ y fun K a b=>⟨K,a,Frag.In.keeps b k⟩⟩
theorem Dd{q:Program}{loose:List Str}{XP:(Str->Option Value)->Heap->Prop}:BZ q loose XP (fun _ h=>∃K:Frag,uH K=true/\K.In h):=fun w s₀ s₁ mg mb G Y args vs as hpre L=>by
 refine aZ Y fun K c Y=>?_;have KX:=Frag.In.keeps Y L.keeps;unfold uH BJ BH at c;simp only [Px,O6,Qz] at c;refine fM c fun q_b c10 c11=>fM q_b fun q_d c8 c9=>fM q_d fun q_f c6 c7=>ba q_f fun q_g c5=>dN q_g fun c1 q_h c4=>?_;have hg:=G.T.g.keeps L.keeps;have mgE:=G8 KX hg c1
 let S:be:={ prog:=fh.prog,w:=w,K:=K,h₀:=s₁.heap,mg:=mg,mb:=mb,kin:=KX,g:=hg,b:=G.T.b.keeps L.keeps,lim:=G.T.nolimit.keeps L.keeps,bi:=G.T.builtins,X:=iq,xok:=eR,bar:=True }
 refine ba q_h fun c2 c3=>?_;have ok:OK S:={
  ck:=c7
  pr:=by
   refine aZ (dF c6) fun o e z=>ba (aV z) fun z1 z2=>aZ (dF z2) fun xs e2 z2=>Cq e2 fun n e2=>bN xs ⟨_,KX _ _ e,of_decide_eq_true z1,_,e2⟩ (zR z2)
  gl:=fun p hp=>by
   refine aZ (dF (c2 p hp)) fun v e h=>bN v ((mgE p.1).symm.trans e) (se h)
  bl:=fun p hp=>by
   refine fM (c3 p hp) fun z1 z2 z3=>aZ (dF z3) fun v e h=>⟨(mgE p.1).symm.trans (Qo.mp z2),v,(G.T.builtins p.1 (fun z=>by replace z1:=z▸z1;exact Bool.noConfusion z1)).trans e,se h⟩
  kp:=fun p hp a e n=>by
   haveI:=c5 p hp;rw [e] at this;simpa [n] using this
  bapp:=fun _ _ t rx ry hi hl h=>A0 rfl t rx ry hi hl h
  bnew:=fun _ _ t q=>AX rfl t q
  bbyt:=fun _ _ t rx hi hl h=>AZ t rx hi hl h
  fns:=fun i a F h=>c8 _ (OC h)
  cls:=fun i C fI F h=>c9 _ (OC h)
  bar:=trivial }
 refine vk hpre L fun k us ns q_a h1 h2 h3=>er q_a ?_;refine aZ (dF c4) fun v e hv=>bN _ ((mgE _).symm.trans e) ?_;cases se hv [];haveI st:St S [] [] s₁:=⟨fun _ _ e=>e,⟨rfl,fun i o p e=>by simp at e,fun p hp=>by simp at hp,.nil⟩⟩;refine aH (yc ok c10 c11 h1 h2 h3 callerA [] s₁ (.ref 1083) [.ref k] ⟨rfl,by decide,by decide⟩ st (.top _) (.cons (.top _) .nil)) fun v s' ⟨φ',H',x,X,T,r,q⟩=>?_;subst q;refine er r ?_;refine bT ⟨rfl,T.base⟩ X.os ?_;refine b7 X.gens fun j e=>er e ?_;refine er L.gens ?_;intro y hy;simp at hy;refine er hy.2 ?_;rfl
end
#check(o,43,45,46,52,54,56,57,58,59,60,61,63,64,65,66,67,68,70,71,72,73,74,75,77,78,79,80,81,82,84,85,86,87,88,89,91,92,93,94,95,99,101,102,103,104,106,107,108,110,111,112,113,114,115,116,117,118,119,120,121,125,127,128,129,130,132,133,134,136,137,138,139,140,141,143,144,145,146,148,149,150,151,153,154,155,156,157,158,160,161,162,163,164,165,167,168,169,170,171,172,174,175,176,177,178,179,181,182,183,184,185,186,187,188,189,190,191,192,196,198,199,200,201,203,204,205,207,208,209,210,212,213,214,215,216,217,219,220,221,222,223,224,225,226,227,228,229,230,231,233,234,235,236,237,241,242,244,245,246,247,249,250,251,253,254,255,256,257,258,259,260,261,262,263,267,269,270,271,272,273,275,276,277,278,279,280,281,285,287,288,289,290,291,293,294,295,296,297,298,299,303,305,306,307,308,309,311,312,313,314,315,316,317,321,323,324,325,326,327,329,330,331,332,333,334,335,339,341,342,343,344,345,347,348,349,350,351,352,353,357,359,360,361,362,363,365,366,367,368,369,370,371,372,374,375,376,377,378,379,381,382,383,384,385,389,391,392,393,394,396,397,398,400,401,402,403,404,405,407,408,409,410,411,412,414,415,416,417,418,419,420,421,422,423,424,425,429,431,432,433,434,436,437,438,440,441,442,443,444,445,447,448,449,450,451,452,454,455,456,457,458,459,461,462,463,464,465,466,467,468,469,470,471,472,476,478,479,480,481,483,484,485,487,488,489,490,491,492,494,495,496,497,498,499,501,502,503,504,505,506,508,509,510,511,512,513,514,515,516,517,518,519,520,522,523,524,525,526,527,529,530,531,532,533,537,539,541,542,543,544,545,546,548,549,550,551,552,553,555,556,557,558,559,563,565,566,567,568,570,571,572,574,575,576,577,578,579,581,582,583,584,585,586,588,589,590,591,592,593,595,596,597,598,599,600,602,603,604,605,606,607,609,610,611,612,613,614,615,616,617,618,619,620,624,626,627,628,629,631,632,633,635,636,637,638,639,640,642,643,644,645,646,647,649,650,651,652,653,654,656,657,658,659,660,661,662,663,664,665,666,667,671,673,674,675,676,678,679,680,682,683,684,685,686,687,689,690,691,692,693,694,696,697,698,699,700,701,703,704,705,706,707,708,709,710,711,712,713,714,718,720,721,722,723,725,726,727,729,730,731,732,733,734,736,737,738,739,740,741,743,744,745,746,747,748,750,751,752,753,754,755,756,757,758,759,760,761,765,767,768,769,770,772,773,774,776,777,778,779,780,781,783,784,785,786,787,788,790,791,792,793,794,795,797,798,799,800,801,802,803,804,805,806,807,808,812,814,815,816,817,819,820,821,823,824,825,826,827,828,830,831,832,833,834,835,837,838,839,840,841,842,844,845,846,847,848,849,850,851,852,853,854,855,859,861,862,863,864,866,867,868,870,871,872,873,874,875,877,878,879,880,881,882,884,885,886,887,888,889,891,892,893,894,895,896,898,899,900,901,902,903,905,906,907,908,909,910,912,913,914,915,916,917,918,919,920,921,922,923,927,929,930,931,932,934,935,936,938,939,940,941,942,943,945,946,947,948,949,950,952,953,954,955,956,957,959,960,961,962,963,964,966,967,968,969,970,971,973,974,975,976,977,978,980,981,982,983,984,985,986,987,988,989,990,991,995,997,999,1000,1001,1002,1003,1004,1006,1007,1008,1009,1010,1011,1013,1014,1015,1016,1017,1021,1023,1024,1025,1026,1028,1029,1030,1032,1033,1034,1035,1036,1037,1039,1040,1041,1042,1043,1044,1046,1047,1048,1049,1050,1051,1052,1053,1054,1055,1056,1057,1058,1059,1061,1062,1063,1067,1069,1071,1072,1073,1074,1075,1076,1078,1079,1080,1081,1082,1083,1085,1086,1087,1088,1089,1090,1092,1093,1094,1095,1096,1100,1102,1103,1104,1105,1107,1108,1109,1111,1112,1113,1114,1116,1117,1118,1119,1120,1121,1123,1124,1125,1126,1127,1128,1129,1130,1131,1132,1133,1134,1135,1137,1138,1139,1140,1141,1142,1144,1145,1146,1147,1148,1149,1151,1152,1153,1154,1155,1159,1161,1162,1163,1164,1166,1167,1168,1170,1171,1172,1173,1174,1175,1177,1178,1179,1180,1181,1182,1184,1185,1186,1187,1188,1189,1191,1192,1193,1194,1195,1196,1197,1198,1199,1200,1201,1202,1203,1205,1206,1207,1208,1209,1210,1212,1213,1214,1215,1216,1220,1222,1224,1225,1226,1227,1229,1230,1231,1232,1233,1234,1236,1237,1238,1239,1241,1242,1243,1244,1246,1247,1248,1249,1250,1251,1253,1254,1255,1256,1258,1259,1260,1261,1262,1263,1265,1266,1267,1268,1269)
#check(env,41)
#check(sts,51,98,124,195,240,266,284,302,320,338,356,388,428,475,536,562,623,670,717,764,811,858,926,994,1020,1066,1099,1158,1219)
#check(tree,49,96,122,193,238,264,282,300,318,336,354,386,426,473,534,560,621,668,715,762,809,856,924,992,1018,1064,1097,1156,1217,1270)
#check(heap,47,1272)
#check(view,39)
theorem hd.tw14068023682035030470 : True := trivial
theorem hd.tw11386599053541152641 : True := trivial
noncomputable def hd.tw11408937317966789135 : Hook := ckHook
theorem hd.te11408937317966789135 : ckHook = hd.tw11408937317966789135 := rfl
set_option Elab.async true
set_option maxHeartbeats 8000000
theorem hd : PySem.Challenge.rw_nt0578_01.Holds := by
  w_on; o_law; o_head ckHook
  (case hw => w_witness2)
  exact Dd

end Mine.Internal
theorem PySem.Challenge.cw_nt0578_01_holds : PySem.Challenge.rw_nt0578_01.Holds :=
  Mine.Internal.hd
