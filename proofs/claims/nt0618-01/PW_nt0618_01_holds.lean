import PyProof.Rows.All
import Wide.All
import OpenK.AllK
import Wide.FinOn
import PySem.Challenge.RW_nt0618_01
open Bool renaming false_eq_true->U0,and_eq_true->U2,not_false->U5,not_true->U6,or_eq_true->VG,and_true->V2,false_ne_true->V7,not_eq_true'->Wt,false_and->Wv,not_eq_true->WS,or_false->W9,true_and->Xv,false_or->Xw,not_eq_false->XH,and_self->Yc,true_or->Yh
open List renaming getD_eq_getElem?_getD->U1,mem_cons_self->U3,getElem?_append_left->U4,mem_cons_of_mem->U7,getElem?_eq_getElem->U8,append_assoc->U9,mem_of_getElem?->Vb,getElem?_append_right->Vd,mem_singleton->Ve,lookup_cons->Vg,getElem?_map->Vh,map_cons->Vi,append_nil->Vj,length_map->Vk,getElem?_set_self->Vl,getElem?_set_ne->Vn,getElem?_eq_none->Vp,range->Vr,length_append->Vs,getElem?_concat_length->Vt,reverse_reverse->Vv,set_append_right->Vy,size_toArray->VC,mem_append_left->VD,replicate->VE,find?_cons->VF,mem_of_mem_take->VH,mem_of_mem_drop->VI,mem_of_find?_eq_some->VJ,all_cons->VL,mem_append_right->VM,drop_eq_nil_of_le->VN,getElem_mem->VO,findIdx?_cons->VQ,mapM_cons->VS,mem_of_getLast?->VT,nodup_cons->VV,map_append->VW,take_length->VX,getLast?_eq_getElem?->VY,getElem?_append->V0,drop_append_of_le_length->V3,mem_map_of_mem->V4,length_nil->V8,take_add_one->Wa,mem_or_eq_of_mem_set->Wb,drop_eq_getElem_cons->Wc,map_map->Wg,length_cons->Wh,eraseIdx_eq_take_drop_succ->Wi,filter_append->Wm,take_of_length_le->Wq,length_take_of_le->Wr,take_append_of_le_length->Ws,take_append_drop->Ww,length_singleton->Wx,length_take->Wy,length_drop->Wz,cons_append->WA,all_eq_true->WB,getElem_of_mem->WC,length_set->WD,foldl_cons->WE,filter_map->WF,findIdx?_eq_none_iff->WG,all_nil->WJ,set_cons_zero->WL,reverse_cons->WM,getLast?_map->WN,map_id->WO,mem_cons->WP,any_eq_true->WR,map_nil->WT,of_mem_zip->WV,nil_append->WW,mem_append->WX,find?_some->WY,mem_of_mem_tail->WZ,length_erase_le->W2,replicate_succ->W3,filterMap_cons->W5,lookup->W7,zip_cons_cons->W8,take_sublist->Xc,foldl_append->Xd,ext_getElem?->Xe,any_map->Xh,zip_append->Xi,range_succ->Xj,length_filter_le->Xn,findIdx?_toArray->Xo,dropLast_eq_take->Xp,getElem?_zipIdx->Xs,erase_cons_tail->Xu,map_congr_left->Xz,getElem?_range->XA,getElem?_take->XD,length_range->XE,find?_append->XF,filter_congr->XG,not_mem_nil->XM,mem_toArray->XN,isEmpty_map->XO,forIn_cons->XS,any_append->XT,take_take->XX,nodup_nil->XY,drop_zero->XZ,map_take->X8,map_drop->X9,findIdx?->Yb,map_set->Yg,foldl->YG
open Nat renaming le_add_right->Va,le_refl->Vf,le_trans->Vm,lt_of_lt_of_le->Vq,le_succ_of_le->Vx,add_sub_cancel_left->Vz,ne_of_lt->VB,min_le_left->VU,sub_self->VZ,zero_le->V5,lt_of_le_of_lt->V6,lt_succ_of_le->V9,lt_irrefl->Wj,min_eq_left->Wk,casesOn->Wp,succ_pos->Wu,ne_of_gt->WH,le_of_lt->WI,lt_succ_self->WQ,lt_succ_of_lt->Xa,le_of_lt_succ->Xb,le_of_add_le_add_left->Xf,lt_of_succ_lt_succ->Xl,sub_eq_zero_of_le->Xm,add_sub_cancel'->Xx,add_le_add_left->Xy,lt_trans->XB,add_comm->XC,sub_sub_self->XK,le_antisymm->XR,blt->XV,add_assoc->X7,log2_lt->Yu,succ->Za
open Option renaming map->Vc,map_eq_some_iff->VA,isSome_map->V1,isSome_some->Wl,isSome_none->WK,map_some->WU,bind_some->XJ,none_or->XW,getD->Yt
open Eq renaming trans->Vu,symm->We
open Int renaming toNat->VK,ofNat_nonneg->VP
open Array renaming eq_empty_of_size_eq_zero->Wn,mk->Xg,any_toList->XQ
open Exists renaming elim->Xk
open Prod renaming snd->Xq,fst->Xr,ext->XI
open PySem PySem.W PyProof.Rows PySem.Calls
set_option Elab.async false
set_option maxRecDepth 100000
set_option linter.all false
set_option genSizeOf false
set_option tactic.hygienic false
noncomputable section
namespace Mine
@[elab_as_elim] theorem er.{u}{α:Sort u}{P:α->Prop}{a b:α}(h:a=b)(p:P b):P a:=h▸p
@[elab_as_elim] theorem el.{u}{α:Sort u}{P:α->Prop}{a b:α}(h:a=b)(p:P a):P b:=h▸p
theorem nA{a c k N:Nat}(h:a+(c+k)<=N):a+c<=N:=Vm (Xy (Va c k) a) h
theorem oO{a c N:Nat}(h:a+(c+1)<=N):a+1+c<=N:=Vm (Nat.le_of_eq (Nat.add_right_comm a 1 c)) h
theorem nB{a c N M:Nat}(h:a+c<=N)(hM:N<=M:=by decide):a<=M:=Vm (Vm (Va a c) h) hM
theorem eC{a c N M:Nat}(h:a+(c+1)<=N)(hM:N<=M:=by decide):a<M:=Vq (Vq (Nat.lt_add_of_pos_right (Wu c)) h) hM
theorem CL{a c N M:Nat}(h:a+(c+1)<=N)(hM:N<=M+1:=by decide):a<=M:=Xb (eC h hM)
theorem nD{a N M:Nat}(h:a<=N)(hM:N<=M:=by decide):a<=M:=Vm h hM
theorem iY{a N M:Nat}(h:a<=N)(hM:N<M:=by decide):a<M:=V6 h hM
theorem nE{a N M:Nat}(h:a<N)(hM:N<=M:=by decide):a<M:=Vq h hM
theorem iZ{a N M:Nat}(h:a<N)(hM:N<=M+1:=by decide):a<=M:=Xb (nE h hM)
theorem nF{i n c N M:Nat}(h:i<n)(h2:n+c<=N)(hM:N<=M:=by decide):i<M:=Vq h (nB h2 hM)
theorem vx{i n c N M:Nat}(h:i<n)(h2:n+c<=N)(hM:N<=M:=by decide):i<=M:=WI (nF h h2 hM)
theorem ru{i n c N M:Nat}(h:i<n)(h2:n+c<=N)(hM:N<M:=by decide):i+1<M:=V6 h (V6 (Vm (Va n c) h2) hM)
theorem nG{i n N M:Nat}(h:i<n)(h2:n<=N)(hM:N<=M:=by decide):i<M:=Vq h (Vm h2 hM)
theorem oP{i n N M:Nat}(h:i<n)(h2:n<=N)(hM:N<=M:=by decide):i<=M:=WI (nG h h2 hM)
theorem nH{a b c N M:Nat}(h:a<=b)(h2:b+c<=N)(hM:N<=M:=by decide):a<=M:=Vm h (nB h2 hM)
theorem nI{a b N M:Nat}(h:a<=b)(h2:b<=N)(hM:N<=M:=by decide):a<=M:=Vm h (Vm h2 hM)
theorem CM{a b N M:Nat}(h:a<=b)(h2:b<=N)(hM:N<M:=by decide):a<M:=V6 h (V6 h2 hM)
theorem nJ{a b c N:Nat}(h:a<=b)(h2:b+c<=N):a+c<=N:=Vm (Nat.add_le_add_right h c) h2
theorem nK{a c d N:Nat}(h:d<=c)(h2:a+c<=N):a+d<=N:=Vm (Xy h a) h2
theorem nM{p:Nat}:¬((p:Nat):Int)= -1:=nofun
theorem nN{a b:Nat}(h:a≠b):¬((a:Nat):Int)=(b:Nat):=λe=>h (Int.ofNat.inj e)
theorem nO{x:Int}(h:0<=x):x=(x.toNat:Int):=(Int.toNat_of_nonneg h).symm
theorem nQ{a b N M:Nat}(e:a=b)(h:b<=N)(hM:N<=M:=by decide):a<=M:=e▸Vm h hM
theorem nR{i a b:Nat}(h:i<a)(e:b=a):i<b:=e▸h
theorem nT{i a b:Nat}(h:i<=a)(h2:a<b):i<b:=V6 h h2
theorem nU{i a:Nat}(h:i<a):0<a:=Nat.zero_lt_of_lt h
theorem nV{i a k:Nat}(h:i<a):i<a+k:=Vq h (Va a k)
theorem CN{i a b k:Nat}(h:i<a)(e:b=a):i<b+k:=e▸nV h
theorem nX{a b:Nat}(h:¬a<b)(h2:a<b+1):a=b:=XR (Xb h2) (Nat.not_lt.mp h)
theorem CO{a b:Nat}(h:¬a<b)(h2:a<=b):a=b:=XR h2 (Nat.not_lt.mp h)
theorem nZ{a b:Nat}(h:a<=b):((a:Nat):Int)<=b:=Int.ofNat_le.mpr h
theorem CP{a b:Nat}(h:((a:Nat):Int)<b):a<b:=Int.ofNat_lt.mp h
theorem vy{a b:Nat}(h:((a:Nat):Int)=b):a=b:=Int.ofNat.inj h
theorem ak{α:Type}{x:α}{P:Prop}(h:(Option.none:Option α)=some x):P:=nomatch h
theorem bZ{G:Prop}(h:∀P:Prop,(G->P)->P):G:=h G id
theorem ai{p0 p1 P:Prop}(h:p0/\p1)(k:p0->p1->P):P:=k h.1 h.2
theorem bK{p0 p1 p2 P:Prop}(h:p0/\p1/\p2)(k:p0->p1->p2->P):P:=k h.1 h.2.1 h.2.2
theorem kJ{p0 p1 p2 p3 P:Prop}(h:p0/\p1/\p2/\p3)(k:p0->p1->p2->p3->P):P:=k h.1 h.2.1 h.2.2.1 h.2.2.2
theorem vz{p0 p1 p2 p3 p4 P:Prop}(h:p0/\p1/\p2/\p3/\p4)(k:p0->p1->p2->p3->p4->P):P:=k h.1 h.2.1 h.2.2.1 h.2.2.2.1 h.2.2.2.2
theorem ex1_1.{u0}{α0:Sort u0}{p0:α0->Prop}{P:Prop}(h:∃x0,p0 x0)(k:∀x0,p0 x0->P):P:=h.elim λx0 h1=>k x0 h1
theorem ex1_2.{u0}{α0:Sort u0}{p0 p1:α0->Prop}{P:Prop}(h:∃x0,p0 x0/\p1 x0)(k:∀x0,p0 x0->p1 x0->P):P:=h.elim λx0 h1=>k x0 h1.1 h1.2
theorem ex1_3.{u0}{α0:Sort u0}{p0 p1 p2:α0->Prop}{P:Prop}(h:∃x0,p0 x0/\p1 x0/\p2 x0)(k:∀x0,p0 x0->p1 x0->p2 x0->P):P:=h.elim λx0 h1=>k x0 h1.1 h1.2.1 h1.2.2
theorem ex1_4.{u0}{α0:Sort u0}{p0 p1 p2 p3:α0->Prop}{P:Prop}(h:∃x0,p0 x0/\p1 x0/\p2 x0/\p3 x0)(k:∀x0,p0 x0->p1 x0->p2 x0->p3 x0->P):P:=h.elim λx0 h1=>k x0 h1.1 h1.2.1 h1.2.2.1 h1.2.2.2
theorem ex1_5.{u0}{α0:Sort u0}{p0 p1 p2 p3 p4:α0->Prop}{P:Prop}(h:∃x0,p0 x0/\p1 x0/\p2 x0/\p3 x0/\p4 x0)(k:∀x0,p0 x0->p1 x0->p2 x0->p3 x0->p4 x0->P):P:=h.elim λx0 h1=>k x0 h1.1 h1.2.1 h1.2.2.1 h1.2.2.2.1 h1.2.2.2.2
theorem ex2_1.{u0,u1}{α0:Sort u0}{α1:Sort u1}{p0:α0->α1->Prop}{P:Prop}(h:∃x0,∃x1,p0 x0 x1)(k:∀x0 x1,p0 x0 x1->P):P:=h.elim λx0 h1=>h1.elim λx1 h2=>k x0 x1 h2
theorem ex2_2.{u0,u1}{α0:Sort u0}{α1:Sort u1}{p0 p1:α0->α1->Prop}{P:Prop}(h:∃x0,∃x1,p0 x0 x1/\p1 x0 x1)(k:∀x0 x1,p0 x0 x1->p1 x0 x1->P):P:=h.elim λx0 h1=>h1.elim λx1 h2=>k x0 x1 h2.1 h2.2
theorem ex2_3.{u0,u1}{α0:Sort u0}{α1:Sort u1}{p0 p1 p2:α0->α1->Prop}{P:Prop}(h:∃x0,∃x1,p0 x0 x1/\p1 x0 x1/\p2 x0 x1)(k:∀x0 x1,p0 x0 x1->p1 x0 x1->p2 x0 x1->P):P:=h.elim λx0 h1=>h1.elim λx1 h2=>k x0 x1 h2.1 h2.2.1 h2.2.2
theorem ex2_4.{u0,u1}{α0:Sort u0}{α1:Sort u1}{p0 p1 p2 p3:α0->α1->Prop}{P:Prop}(h:∃x0,∃x1,p0 x0 x1/\p1 x0 x1/\p2 x0 x1/\p3 x0 x1)(k:∀x0 x1,p0 x0 x1->p1 x0 x1->p2 x0 x1->p3 x0 x1->P):P:=h.elim λx0 h1=>h1.elim λx1 h2=>k x0 x1 h2.1 h2.2.1 h2.2.2.1 h2.2.2.2
theorem ex2_6.{u0,u1}{α0:Sort u0}{α1:Sort u1}{p0 p1 p2 p3 p4 p5:α0->α1->Prop}{P:Prop}(h:∃x0,∃x1,p0 x0 x1/\p1 x0 x1/\p2 x0 x1/\p3 x0 x1/\p4 x0 x1/\p5 x0 x1)(k:∀x0 x1,p0 x0 x1->p1 x0 x1->p2 x0 x1->p3 x0 x1->p4 x0 x1->p5 x0 x1->P):P:=h.elim λx0 h1=>h1.elim λx1 h2=>k x0 x1 h2.1 h2.2.1 h2.2.2.1 h2.2.2.2.1 h2.2.2.2.2.1 h2.2.2.2.2.2
theorem ex3_1.{u0,u1,u2}{α0:Sort u0}{α1:Sort u1}{α2:Sort u2}{p0:α0->α1->α2->Prop}{P:Prop}(h:∃x0,∃x1,∃x2,p0 x0 x1 x2)(k:∀x0 x1 x2,p0 x0 x1 x2->P):P:=h.elim λx0 h1=>h1.elim λx1 h2=>h2.elim λx2 h3=>k x0 x1 x2 h3
theorem ex3_2.{u0,u1,u2}{α0:Sort u0}{α1:Sort u1}{α2:Sort u2}{p0 p1:α0->α1->α2->Prop}{P:Prop}(h:∃x0,∃x1,∃x2,p0 x0 x1 x2/\p1 x0 x1 x2)(k:∀x0 x1 x2,p0 x0 x1 x2->p1 x0 x1 x2->P):P:=h.elim λx0 h1=>h1.elim λx1 h2=>h2.elim λx2 h3=>k x0 x1 x2 h3.1 h3.2
theorem ex3_3.{u0,u1,u2}{α0:Sort u0}{α1:Sort u1}{α2:Sort u2}{p0 p1 p2:α0->α1->α2->Prop}{P:Prop}(h:∃x0,∃x1,∃x2,p0 x0 x1 x2/\p1 x0 x1 x2/\p2 x0 x1 x2)(k:∀x0 x1 x2,p0 x0 x1 x2->p1 x0 x1 x2->p2 x0 x1 x2->P):P:=h.elim λx0 h1=>h1.elim λx1 h2=>h2.elim λx2 h3=>k x0 x1 x2 h3.1 h3.2.1 h3.2.2
theorem ex3_4.{u0,u1,u2}{α0:Sort u0}{α1:Sort u1}{α2:Sort u2}{p0 p1 p2 p3:α0->α1->α2->Prop}{P:Prop}(h:∃x0,∃x1,∃x2,p0 x0 x1 x2/\p1 x0 x1 x2/\p2 x0 x1 x2/\p3 x0 x1 x2)(k:∀x0 x1 x2,p0 x0 x1 x2->p1 x0 x1 x2->p2 x0 x1 x2->p3 x0 x1 x2->P):P:=h.elim λx0 h1=>h1.elim λx1 h2=>h2.elim λx2 h3=>k x0 x1 x2 h3.1 h3.2.1 h3.2.2.1 h3.2.2.2
theorem ex3_5.{u0,u1,u2}{α0:Sort u0}{α1:Sort u1}{α2:Sort u2}{p0 p1 p2 p3 p4:α0->α1->α2->Prop}{P:Prop}(h:∃x0,∃x1,∃x2,p0 x0 x1 x2/\p1 x0 x1 x2/\p2 x0 x1 x2/\p3 x0 x1 x2/\p4 x0 x1 x2)(k:∀x0 x1 x2,p0 x0 x1 x2->p1 x0 x1 x2->p2 x0 x1 x2->p3 x0 x1 x2->p4 x0 x1 x2->P):P:=h.elim λx0 h1=>h1.elim λx1 h2=>h2.elim λx2 h3=>k x0 x1 x2 h3.1 h3.2.1 h3.2.2.1 h3.2.2.2.1 h3.2.2.2.2
theorem ex3_6.{u0,u1,u2}{α0:Sort u0}{α1:Sort u1}{α2:Sort u2}{p0 p1 p2 p3 p4 p5:α0->α1->α2->Prop}{P:Prop}(h:∃x0,∃x1,∃x2,p0 x0 x1 x2/\p1 x0 x1 x2/\p2 x0 x1 x2/\p3 x0 x1 x2/\p4 x0 x1 x2/\p5 x0 x1 x2)(k:∀x0 x1 x2,p0 x0 x1 x2->p1 x0 x1 x2->p2 x0 x1 x2->p3 x0 x1 x2->p4 x0 x1 x2->p5 x0 x1 x2->P):P:=h.elim λx0 h1=>h1.elim λx1 h2=>h2.elim λx2 h3=>k x0 x1 x2 h3.1 h3.2.1 h3.2.2.1 h3.2.2.2.1 h3.2.2.2.2.1 h3.2.2.2.2.2
theorem ex4_2.{u0,u1,u2,u3}{α0:Sort u0}{α1:Sort u1}{α2:Sort u2}{α3:Sort u3}{p0 p1:α0->α1->α2->α3->Prop}{P:Prop}(h:∃x0,∃x1,∃x2,∃x3,p0 x0 x1 x2 x3/\p1 x0 x1 x2 x3)(k:∀x0 x1 x2 x3,p0 x0 x1 x2 x3->p1 x0 x1 x2 x3->P):P:=h.elim λx0 h1=>h1.elim λx1 h2=>h2.elim λx2 h3=>h3.elim λx3 h4=>k x0 x1 x2 x3 h4.1 h4.2
theorem ex4_3.{u0,u1,u2,u3}{α0:Sort u0}{α1:Sort u1}{α2:Sort u2}{α3:Sort u3}{p0 p1 p2:α0->α1->α2->α3->Prop}{P:Prop}(h:∃x0,∃x1,∃x2,∃x3,p0 x0 x1 x2 x3/\p1 x0 x1 x2 x3/\p2 x0 x1 x2 x3)(k:∀x0 x1 x2 x3,p0 x0 x1 x2 x3->p1 x0 x1 x2 x3->p2 x0 x1 x2 x3->P):P:=h.elim λx0 h1=>h1.elim λx1 h2=>h2.elim λx2 h3=>h3.elim λx3 h4=>k x0 x1 x2 x3 h4.1 h4.2.1 h4.2.2
theorem ex4_4.{u0,u1,u2,u3}{α0:Sort u0}{α1:Sort u1}{α2:Sort u2}{α3:Sort u3}{p0 p1 p2 p3:α0->α1->α2->α3->Prop}{P:Prop}(h:∃x0,∃x1,∃x2,∃x3,p0 x0 x1 x2 x3/\p1 x0 x1 x2 x3/\p2 x0 x1 x2 x3/\p3 x0 x1 x2 x3)(k:∀x0 x1 x2 x3,p0 x0 x1 x2 x3->p1 x0 x1 x2 x3->p2 x0 x1 x2 x3->p3 x0 x1 x2 x3->P):P:=h.elim λx0 h1=>h1.elim λx1 h2=>h2.elim λx2 h3=>h3.elim λx3 h4=>k x0 x1 x2 x3 h4.1 h4.2.1 h4.2.2.1 h4.2.2.2
theorem ex5_3.{u0,u1,u2,u3,u4}{α0:Sort u0}{α1:Sort u1}{α2:Sort u2}{α3:Sort u3}{α4:Sort u4}{p0 p1 p2:α0->α1->α2->α3->α4->Prop}{P:Prop}(h:∃x0,∃x1,∃x2,∃x3,∃x4,p0 x0 x1 x2 x3 x4/\p1 x0 x1 x2 x3 x4/\p2 x0 x1 x2 x3 x4)(k:∀x0 x1 x2 x3 x4,p0 x0 x1 x2 x3 x4->p1 x0 x1 x2 x3 x4->p2 x0 x1 x2 x3 x4->P):P:=h.elim λx0 h1=>h1.elim λx1 h2=>h2.elim λx2 h3=>h3.elim λx3 h4=>h4.elim λx4 h5=>k x0 x1 x2 x3 x4 h5.1 h5.2.1 h5.2.2
theorem ex6_3.{u0,u1,u2,u3,u4,u5}{α0:Sort u0}{α1:Sort u1}{α2:Sort u2}{α3:Sort u3}{α4:Sort u4}{α5:Sort u5}{p0 p1 p2:α0->α1->α2->α3->α4->α5->Prop}{P:Prop}(h:∃x0,∃x1,∃x2,∃x3,∃x4,∃x5,p0 x0 x1 x2 x3 x4 x5/\p1 x0 x1 x2 x3 x4 x5/\p2 x0 x1 x2 x3 x4 x5)(k:∀x0 x1 x2 x3 x4 x5,p0 x0 x1 x2 x3 x4 x5->p1 x0 x1 x2 x3 x4 x5->p2 x0 x1 x2 x3 x4 x5->P):P:=h.elim λx0 h1=>h1.elim λx1 h2=>h2.elim λx2 h3=>h3.elim λx3 h4=>h4.elim λx4 h5=>h5.elim λx5 h6=>k x0 x1 x2 x3 x4 x5 h6.1 h6.2.1 h6.2.2
theorem ex7_2.{u0,u1,u2,u3,u4,u5,u6}{α0:Sort u0}{α1:Sort u1}{α2:Sort u2}{α3:Sort u3}{α4:Sort u4}{α5:Sort u5}{α6:Sort u6}{p0 p1:α0->α1->α2->α3->α4->α5->α6->Prop}{P:Prop}(h:∃x0,∃x1,∃x2,∃x3,∃x4,∃x5,∃x6,p0 x0 x1 x2 x3 x4 x5 x6/\p1 x0 x1 x2 x3 x4 x5 x6)(k:∀x0 x1 x2 x3 x4 x5 x6,p0 x0 x1 x2 x3 x4 x5 x6->p1 x0 x1 x2 x3 x4 x5 x6->P):P:=h.elim λx0 h1=>h1.elim λx1 h2=>h2.elim λx2 h3=>h3.elim λx3 h4=>h4.elim λx4 h5=>h5.elim λx5 h6=>h6.elim λx6 h7=>k x0 x1 x2 x3 x4 x5 x6 h7.1 h7.2
theorem ex7_4.{u0,u1,u2,u3,u4,u5,u6}{α0:Sort u0}{α1:Sort u1}{α2:Sort u2}{α3:Sort u3}{α4:Sort u4}{α5:Sort u5}{α6:Sort u6}{p0 p1 p2 p3:α0->α1->α2->α3->α4->α5->α6->Prop}{P:Prop}(h:∃x0,∃x1,∃x2,∃x3,∃x4,∃x5,∃x6,p0 x0 x1 x2 x3 x4 x5 x6/\p1 x0 x1 x2 x3 x4 x5 x6/\p2 x0 x1 x2 x3 x4 x5 x6/\p3 x0 x1 x2 x3 x4 x5 x6)(k:∀x0 x1 x2 x3 x4 x5 x6,p0 x0 x1 x2 x3 x4 x5 x6->p1 x0 x1 x2 x3 x4 x5 x6->p2 x0 x1 x2 x3 x4 x5 x6->p3 x0 x1 x2 x3 x4 x5 x6->P):P:=h.elim λx0 h1=>h1.elim λx1 h2=>h2.elim λx2 h3=>h3.elim λx3 h4=>h4.elim λx4 h5=>h5.elim λx5 h6=>h6.elim λx6 h7=>k x0 x1 x2 x3 x4 x5 x6 h7.1 h7.2.1 h7.2.2.1 h7.2.2.2
theorem ex10_2.{u0,u1,u2,u3,u4,u5,u6,u7,u8,u9}{α0:Sort u0}{α1:Sort u1}{α2:Sort u2}{α3:Sort u3}{α4:Sort u4}{α5:Sort u5}{α6:Sort u6}{α7:Sort u7}{α8:Sort u8}{α9:Sort u9}{p0 p1:α0->α1->α2->α3->α4->α5->α6->α7->α8->α9->Prop}{P:Prop}(h:∃x0,∃x1,∃x2,∃x3,∃x4,∃x5,∃x6,∃x7,∃x8,∃x9,p0 x0 x1 x2 x3 x4 x5 x6 x7 x8 x9/\p1 x0 x1 x2 x3 x4 x5 x6 x7 x8 x9)(k:∀x0 x1 x2 x3 x4 x5 x6 x7 x8 x9,p0 x0 x1 x2 x3 x4 x5 x6 x7 x8 x9->p1 x0 x1 x2 x3 x4 x5 x6 x7 x8 x9->P):P:=h.elim λx0 h1=>h1.elim λx1 h2=>h2.elim λx2 h3=>h3.elim λx3 h4=>h4.elim λx4 h5=>h5.elim λx5 h6=>h6.elim λx6 h7=>h7.elim λx7 h8=>h8.elim λx8 h9=>h9.elim λx9 h10=>k x0 x1 x2 x3 x4 x5 x6 x7 x8 x9 h10.1 h10.2
theorem ex10_3.{u0,u1,u2,u3,u4,u5,u6,u7,u8,u9}{α0:Sort u0}{α1:Sort u1}{α2:Sort u2}{α3:Sort u3}{α4:Sort u4}{α5:Sort u5}{α6:Sort u6}{α7:Sort u7}{α8:Sort u8}{α9:Sort u9}{p0 p1 p2:α0->α1->α2->α3->α4->α5->α6->α7->α8->α9->Prop}{P:Prop}(h:∃x0,∃x1,∃x2,∃x3,∃x4,∃x5,∃x6,∃x7,∃x8,∃x9,p0 x0 x1 x2 x3 x4 x5 x6 x7 x8 x9/\p1 x0 x1 x2 x3 x4 x5 x6 x7 x8 x9/\p2 x0 x1 x2 x3 x4 x5 x6 x7 x8 x9)(k:∀x0 x1 x2 x3 x4 x5 x6 x7 x8 x9,p0 x0 x1 x2 x3 x4 x5 x6 x7 x8 x9->p1 x0 x1 x2 x3 x4 x5 x6 x7 x8 x9->p2 x0 x1 x2 x3 x4 x5 x6 x7 x8 x9->P):P:=h.elim λx0 h1=>h1.elim λx1 h2=>h2.elim λx2 h3=>h3.elim λx3 h4=>h4.elim λx4 h5=>h5.elim λx5 h6=>h6.elim λx6 h7=>h7.elim λx7 h8=>h8.elim λx8 h9=>h9.elim λx9 h10=>k x0 x1 x2 x3 x4 x5 x6 x7 x8 x9 h10.1 h10.2.1 h10.2.2
theorem ex10_7.{u0,u1,u2,u3,u4,u5,u6,u7,u8,u9}{α0:Sort u0}{α1:Sort u1}{α2:Sort u2}{α3:Sort u3}{α4:Sort u4}{α5:Sort u5}{α6:Sort u6}{α7:Sort u7}{α8:Sort u8}{α9:Sort u9}{p0 p1 p2 p3 p4 p5 p6:α0->α1->α2->α3->α4->α5->α6->α7->α8->α9->Prop}{P:Prop}(h:∃x0,∃x1,∃x2,∃x3,∃x4,∃x5,∃x6,∃x7,∃x8,∃x9,p0 x0 x1 x2 x3 x4 x5 x6 x7 x8 x9/\p1 x0 x1 x2 x3 x4 x5 x6 x7 x8 x9/\p2 x0 x1 x2 x3 x4 x5 x6 x7 x8 x9/\p3 x0 x1 x2 x3 x4 x5 x6 x7 x8 x9/\p4 x0 x1 x2 x3 x4 x5 x6 x7 x8 x9/\p5 x0 x1 x2 x3 x4 x5 x6 x7 x8 x9/\p6 x0 x1 x2 x3 x4 x5 x6 x7 x8 x9)(k:∀x0 x1 x2 x3 x4 x5 x6 x7 x8 x9,p0 x0 x1 x2 x3 x4 x5 x6 x7 x8 x9->p1 x0 x1 x2 x3 x4 x5 x6 x7 x8 x9->p2 x0 x1 x2 x3 x4 x5 x6 x7 x8 x9->p3 x0 x1 x2 x3 x4 x5 x6 x7 x8 x9->p4 x0 x1 x2 x3 x4 x5 x6 x7 x8 x9->p5 x0 x1 x2 x3 x4 x5 x6 x7 x8 x9->p6 x0 x1 x2 x3 x4 x5 x6 x7 x8 x9->P):P:=h.elim λx0 h1=>h1.elim λx1 h2=>h2.elim λx2 h3=>h3.elim λx3 h4=>h4.elim λx4 h5=>h5.elim λx5 h6=>h6.elim λx6 h7=>h7.elim λx7 h8=>h8.elim λx8 h9=>h9.elim λx9 h10=>k x0 x1 x2 x3 x4 x5 x6 x7 x8 x9 h10.1 h10.2.1 h10.2.2.1 h10.2.2.2.1 h10.2.2.2.2.1 h10.2.2.2.2.2.1 h10.2.2.2.2.2.2
theorem eP{α:Type}{c:Prop} [i:Decidable c]{A B:Option α}{r:α}(h:(if c then A else B)=some r)(hB:B=none:=by rfl):c/\A=some r:=by
 cases i with
 |isTrue k=>exact⟨k,h⟩
 |isFalse _=>exact ak (hB▸h:(none:Option α)=some r)
theorem bg{α β:Type}{c:Prop} [i:Decidable c]{A B:β->Option α}{H:β}{r:α}(h:(if c then A else B) H=some r)(hB:B H=none:=by rfl):c/\A H=some r:=by
 cases i with
 |isTrue k=>exact⟨k,h⟩
 |isFalse _=>exact ak (hB▸h:(none:Option α)=some r)
theorem iu{α β:Type}{c:Prop} [i:Decidable c]{A B:β->Option α}{H:β}{r:α}(h:(if c then A else B) H=some r)(hA:A H=none:=by rfl):¬c/\B H=some r:=by
 cases i with
 |isTrue _=>exact ak (hA▸h:(none:Option α)=some r)
 |isFalse k=>exact⟨k,h⟩
inductive V where
 |none
 |bool (b:Bool)
 |int (i:Int)
 |str (s:Str)
 |tup (xs:List V)
 |ref (k:Nat)
 |fn (a:Addr)
 |frz (xs:List Int)
inductive O where
 |list (xs:List V)
 |dict (es:List (V×V)) (ep:Option Nat)
 |inst (C:Addr) (es:List (Str×V))
noncomputable abbrev Hp:=List O
noncomputable abbrev M(α:Type):Type:=Hp->Option (α×Hp)
noncomputable def UZ{α:Type}(a:α):M α:=λH=>some (a,H)
noncomputable def UY{α:Type}:M α:=λ_=> .none
noncomputable def UX{α β:Type}(m:M α)(f:α->M β):M β:=λH=>match m H with
 | .none=> .none
 |some p=>f p.1 p.2
noncomputable def gW{α:Type}:Option α->M α
 | .none=>UY
 |some a=>UZ a
noncomputable abbrev Z:=List (Str×Option V)
inductive Fl where
 |next|brk|ret (v:V)
structure cX where
 addr:Addr
 init:Addr
 meths:List (Str×Addr)
 flds:List Str
structure bf where
 fns:List (Str×Addr)
 clss:List (Str×cX)
 call:Addr->List V->M V
noncomputable def aD(s:Str):Bool:=PyData.canLay0 (.str s)&&decide (s.cps.size<=1000)
noncomputable def aV(n:Nat):Bool:=decide (n<=100000)
noncomputable def cC(k:Nat):M O:=λH=>match H[k]? with|some o=>some (o,H)| .none=> .none
noncomputable def c_(k:Nat)(o:O):M Unit:=λH=>some ((),H.set k o)
noncomputable def aF(o:O):M V:=λH=>some (.ref H.length,H++[o])
noncomputable def V.toD(H:Hp):Nat->V->Option PyData
 |0,_=> .none
 |n+1,v=>match v with
  | .none=>some .none
  | .bool b=>some (.bool b)
  | .int i=>some (.int i)
  | .str s=>if aD s then some (.str s)else .none
  | .tup xs=>(xs.mapM (V.toD H n)).map .tuple
  | .ref k=>match H[k]? with
   |some (.list xs)=>(xs.mapM (V.toD H n)).map .list
   |_=> .none
  | .fn _=> .none
  | .frz _=> .none
noncomputable def V.flat:V->Bool
 | .none| .bool _| .int _| .str _=>true
 |_=>false
noncomputable def V.keyEq:V->V->Bool
 | .int a,.int b=>decide (a=b)
 | .str a,.str b=>decide (a=b)
 |_,_=>false
noncomputable def V.isKeyInt:V->Bool
 | .int _=>true
 |_=>false
noncomputable def V.isKeyStr:V->Bool
 | .str _=>true
 |_=>false
noncomputable def cD(k:V)(es:List (V×V)):Bool:=(V.isKeyInt k&&es.all λe=>V.isKeyInt e.1)||(V.isKeyStr k&&es.all λe=>V.isKeyStr e.1)
noncomputable def bo(k:V)(es:List (V×V)):Option V:=(es.find? λe=>V.keyEq e.1 k).map (·.2)
noncomputable def dJ(k v:V):List (V×V)->List (V×V)
 |[]=>[(k,v)]
 |e::r=>if V.keyEq e.1 k then(e.1,v)::r else e::dJ k v r
noncomputable def kK(k:Str)(v:V):List (Str×V)->List (Str×V)
 |[]=>[(k,v)]
 |e::r=>if e.1=k then(k,v)::r else e::kK k v r
noncomputable def truthy:V->M Bool
 | .bool b=>UZ b
 |_=>UY
noncomputable def eQ(i:Int)(n:Nat):Option Nat:=if 0<=i then(if i<n then some i.toNat else .none)else if 0<=i+n then some (i+n).toNat else .none
noncomputable def small(i:Int):Bool:=decide (-1000000<=i)&&decide (i<=1000000)
noncomputable def cw{α:Type}(v:V)(f:Int->M α):M α:=match v with
 | .int i=>f i
 |_=>UY
noncomputable def mw{α:Type}(v:V)(f:Str->M α):M α:=match v with
 | .str i=>f i
 |_=>UY
noncomputable def rx{α:Type}(v:V)(f:List V->M α):M α:=match v with
 | .tup i=>f i
 |_=>UY
noncomputable def ed{α:Type}(v:V)(f:Nat->M α):M α:=match v with
 | .ref i=>f i
 |_=>UY
noncomputable def jD{α:Type}(o:O)(f:List V->M α):M α:=match o with
 | .list xs=>f xs
 |_=>UY
noncomputable def eR{α:Type}(k:Nat)(f:List V->M α):M α:=UX (cC k) λo=>jD o f
noncomputable def eS{α β:Type}(xs:List β)(f:β->M α):M α:=match xs with
 |[]=>UY
 |y::ys=>match ys with
  |[]=>f y
  |_=>UY
noncomputable def vA{α:Type}(v:V)(f:Bool->M α):M α:=match v with
 | .bool i=>f i
 |_=>UY
noncomputable def kL{α:Type}(o:O)(f:List (V×V)->M α):M α:=match o with
 | .dict es _=>f es
 |_=>UY
noncomputable def ry{α:Type}(xs:List V)(f:M α):M α:=match xs with
 |[]=>f
 |_::_=>UY
noncomputable def rz{α:Type}(xs:List V)(f:V->V->M α):M α:=match xs with
 |[]=>UY
 |x::ys=>eS ys (f x)
noncomputable def cU{α β:Type}(o:Option α)(f:α->M β):M β:=match o with
 |some v=>f v
 | .none=>UY
noncomputable def kM(xs:List V)(i:V):M V:=cw i λi=>if small i then gW ((eQ i xs.length).bind λj=>xs[j]?)else UY
noncomputable def rA(i:V)(o:O):M V:=match o with
 | .list xs=>kM xs i
 | .dict es _=>if cD i es then gW (bo i es)else UY
 |_=>UY
noncomputable def aa(o i:V):M V:=match o with
 | .tup xs=>kM xs i
 | .frz xs=>cw i λi=>if small i&&decide (0<=i)then gW ((xs[i.toNat]?).map .int)else UY
 | .str s=>cw i λi=>if small i&&(decide (0<=i)&&decide (i<s.cps.size))then UZ (.str ⟨#[s.cps.getD i.toNat 0]⟩)else UY
 | .ref k=>UX (cC k) (rA i)
 |_=>UY
noncomputable def jE:Option V->Option (Option Int)
 | .none=>some .none
 |some (.int i)=>if 0<=i/\i<100000 then some (some i)else .none
 |_=> .none
noncomputable def rB{α β:Type}(o:Option α)(f:M β):M β:=match o with
 | .none=>f
 |some _=>UY
noncomputable def bk(o:V)(l u:Option V):M V:=cU (jE l) λl=>cU (jE u) λu=>match o with
 | .ref k=>eR k λxs=>if aV xs.length then aF (.list ((xs.take ((u.map VK).getD xs.length)).drop ((l.map VK).getD 0)))else UY
 | .str s=>cU l λi=>rB u (if aD s then UZ (.str (Txt.slice s (some i) none))else UY)
 |_=>UY
noncomputable def vB(a b:V):M V:=match a with
 | .int a=>cw b λb=>UZ (.int (a+b))
 | .str a=>mw b λb=>if a.cps.size+b.cps.size<=1000000 then UZ (.str (a++b))else UY
 | .tup a=>rx b λb=>if aV (a.length+b.length)then UZ (.tup (a++b))else UY
 | .ref j=>ed b λk=>eR j λxs=>eR k λys=>if aV (xs.length+ys.length)then aF (.list (xs++ys))else UY
 |_=>UY
noncomputable def vC(a b:V):M V:=cw b λn=>match a with
 | .int a=>if small a&&small n then UZ (.int (a*n))else UY
 | .ref j=>eR j λxs=>eS xs λy=>if 0<=n/\n<=100000 then aF (.list (VE n.toNat y))else UY
 |_=>UY
noncomputable def ax(op:Operator)(a b:V):M V:=match op with
 | .Add=>vB a b
 | .Mult=>vC a b
 | .Sub=>cw a λa=>cw b λb=>UZ (.int (a-b))
 | .FloorDiv=>cw a λa=>cw b λb=>if small b&&decide (0<b)then UZ (.int (a.fdiv b))else UY
 | .Mod=>cw a λa=>cw b λb=>if 0<b then UZ (.int (a.fmod b))else UY
 |_=>UY
noncomputable def iw(a b:List (V×V)):Option Bool:=if(a.all λe=>V.isKeyInt e.1&&V.isKeyInt e.2)&&(b.all λe=>V.isKeyInt e.1&&V.isKeyInt e.2)&&aV a.length&&aV b.length
 then some (decide (a.length=b.length)&&a.all λe=>match bo e.1 b with
  |some v=>V.keyEq e.2 v
  | .none=>false)else .none
noncomputable def cY(H:Hp)(a b:V):Bool:=match V.toD H 7 a,V.toD H 7 b with
 |some x,some y=>PyData.eqv x y
 |_,_=>match a,b with
  | .ref j,.ref k=>match H[j]?,H[k]? with
   |some (.dict x _),some (.dict y _)=>iw x y==some true
   |_,_=>false
  |_,_=>false
noncomputable def gx(H:Hp):List V->List V->Bool
 |[],[]=>true
 |a::as,b::bs=>cY H a b&&gx H as bs
 |_,_=>false
noncomputable def f6(a b:V):M Bool:=λH=>(V.toD H 8 a).bind λx=>(V.toD H 8 b).map λy=>(PyData.eqv x y,H)
noncomputable def i0(a b:V)(xs ys:List V):M Bool:=λH=>match f6 a b H with
 |some r=>some r
 | .none=>if gx H xs ys&&aV xs.length then some (true,H)else .none
noncomputable def jF(a b:V):M Bool:=match a with
 | .ref j=>ed b λk=>UX (cC j) λx=>UX (cC k) λy=>match x with
  | .dict es _=>kL y λfs=>gW (iw es fs)
  | .list xs=>jD y λys=>i0 (.ref j) b xs ys
  |_=>UY
 | .tup xs=>rx b λ_=>f6 (.tup xs) b
 | .int x=>cw b λy=>UZ (decide (x=y))
 | .str x=>mw b λy=>UZ (decide (x=y))
 | .bool x=>vA b λy=>UZ (decide (x=y))
 |_=>UY
noncomputable def i1(a b:V):M Bool:=match a with
 | .ref j=>ed b λk=>UX (cC j) λx=>UX (cC k) λy=>match x with
  | .dict es _=>kL y λfs=>UX (gW (iw es fs)) λr=>UZ (!r)
  | .list _=>jD y λ_=>UX (f6 (.ref j) b) λr=>UZ (!r)
  |_=>UY
 | .int x=>cw b λy=>UZ (!decide (x=y))
 | .str x=>mw b λy=>UZ (!decide (x=y))
 |_=>UY
noncomputable def ix(x:Str)(ys:List V):M Bool:=λH=>match ys.mapM (λy=>match y with|V.str s=>some s|_=> .none)with
 |some ys=>some (ys.any λy=>decide (y=x),H)
 | .none=> .none
noncomputable def kO(x:Int)(ys:List V):M Bool:=λH=>match ys.mapM (λy=>match y with|V.int s=>some s|_=> .none)with
 |some ys=>some (ys.any λy=>decide (y=x),H)
 | .none=> .none
noncomputable def jG(o:O)(x:V)(f:List V->M Bool):M Bool:=match o with
 | .list ys=>f ys
 | .dict es _=>if cD x es then UZ (bo x es).isSome else UY
 |_=>UY
noncomputable def dA(x c:V):M Bool:=match x with
 | .str x=>match c with
  | .tup ys=>ix x ys
  | .ref k=>UX (cC k) λo=>jG o (.str x) (ix x)
  |_=>UY
 | .int x=>ed c λk=>UX (cC k) λo=>jG o (.int x) (kO x)
 |_=>UY
noncomputable def mx(a:V):Option Bool:=match a with
 | .none=>some true
 | .str _=>some false
 |_=> .none
noncomputable def oQ{α:Type}(v:V)(f:M α):M α:=match v with
 | .none=>f
 |_=>UY
noncomputable def af(op:CmpOp)(a b:V):M Bool:=match op with
 | .Eq=>jF a b
 | .NotEq=>i1 a b
 | .In=>dA a b
 | .NotIn=>UX (dA a b) λr=>UZ (!r)
 | .Lt=>cw a λa=>cw b λb=>UZ (decide (a<b))
 | .LtE=>cw a λa=>cw b λb=>UZ (decide (a<=b))
 | .Gt=>cw a λa=>cw b λb=>UZ (decide (b<a))
 | .GtE=>cw a λa=>cw b λb=>UZ (decide (b<=a))
 | .Is=>oQ b (cU (mx a) UZ)
 | .IsNot=>oQ b (cU (mx a) λt=>UZ (!t))
noncomputable def my{α:Type}(T:bf)(o:V)(f:Nat->Addr->Str×cX->List (Str×V)->M α):M α:=ed o λk=>UX (cC k) λo=>match o with
 | .inst C es=>cU (T.clss.find? λc=>decide (c.2.addr=C)) λc=>f k C c es
 |_=>UY
noncomputable def ab(o:V)(n:Str)(T:bf):M V:=my T o λ_ _ c es=>if c.2.flds.any (λf=>decide (f=n))then gW ((es.find? λe=>decide (e.1=n)).map (·.2))else UY
noncomputable def a_(o:V)(n:Str)(v:V)(T:bf):M Unit:=my T o λk C c es=>if c.2.flds.any (λf=>decide (f=n))&&decide (es.length<=100)then c_ k (.inst C (kK n v es))else UY
noncomputable def bi(o i v:V):M Unit:=ed o λk=>UX (cC k) λo=>match o with
 | .list xs=>cw i λi=>if 0<=i/\i<xs.length/\aV xs.length then c_ k (.list (xs.set i.toNat v))else UY
 | .dict es ep=>if cD i es&&aV es.length then c_ k (.dict (dJ i v es) (if(bo i es).isSome then ep else ep.map (·+1)))else UY
 |_=>UY
noncomputable def bw:V->M V
 | .tup xs=>if aV xs.length then UZ (.int xs.length)else UY
 | .frz xs=>if decide (xs.length<=1048576)then UZ (.int xs.length)else UY
 | .str s=>if aD s then UZ (.int s.cps.size)else UY
 | .ref k=>eR k λxs=>if aV xs.length then UZ (.int xs.length)else UY
 |_=>UY
noncomputable def dK:V->M V
 | .tup xs=>if aV xs.length then aF (.list xs)else UY
 | .ref k=>eR k λxs=>if aV xs.length then aF (.list xs)else UY
 |_=>UY
noncomputable def mz(v:V):M V:=ed v λk=>UX (cC k) λo=>kL o λes=>if aV es.length&&es.all (λe=>V.isKeyInt e.1)then aF (.dict es .none)else UY
noncomputable def jH(v:V):M V:=cw v λi=>if decide (0<=i)&&decide (i<=9)then UZ (.str (Str.ofString (toString i)))else UY
noncomputable def f7(xs:List V)(x:Int):Option Nat:=xs.findIdx? λv=>V.keyEq v (.int x)
noncomputable def i2(xs:List V):Bool:=xs.all V.isKeyInt
noncomputable def dY(xs:List V):Bool:=xs.all V.isKeyStr
inductive Me where
 |append|pop|remove|index|insert|get|split
noncomputable def iy(n:Str):Option Me:=if n=Str.ofString "append"then some .append else if n=Str.ofString "pop"then some .pop else if n=Str.ofString "remove"then some .remove
 else if n=Str.ofString "index"then some .index else if n=Str.ofString "insert"then some .insert else if n=Str.ofString "get"then some .get else if n=Str.ofString "split"then some .split else .none
noncomputable def oR:Me->Bool
 | .get| .split=>false
 |_=>true
noncomputable def i3(k:Nat)(xs:List V)(n:Me)(args:List V):M V:=if aV xs.length then match n with
  | .append=>eS args λv=>UX (c_ k (.list (xs++[v]))) λ_=>UZ .none
  | .pop=>ry args (cU xs.getLast? λv=>UX (c_ k (.list xs.dropLast)) λ_=>UZ v)
  | .remove=>eS args λx=>cw x λx=>if i2 xs then cU (f7 xs x) λj=>UX (c_ k (.list (xs.eraseIdx j))) λ_=>UZ .none else UY
  | .index=>eS args λx=>match x with
   | .int x=>if i2 xs then cU (f7 xs x) λj=>UZ (.int j)else UY
   | .str x=>if dY xs then cU (xs.findIdx? λv=>V.keyEq v (.str x)) λj=>UZ (.int j)else UY
   |_=>UY
  | .insert=>rz args λi v=>cw i λi=>if decide (0<=i)&&decide (i<=xs.length)then UX (c_ k (.list (xs.take i.toNat++v::xs.drop i.toNat))) λ_=>UZ .none else UY
  |_=>UY
 else UY
noncomputable def kP(es:List (V×V))(n:Me)(args:List V):M V:=match n with
 | .get=>rz args λi d=>if cD i es then UZ ((bo i es).getD d)else UY
 |_=>UY
noncomputable def CQ(s:Str)(args:List V):M V:=match args with
 |[]=>aF (.list ((Txt.words s).map .str))
 |c::r=>ry r (mw c λc=>if decide (c=⟨#[58]⟩)then aF (.list ((Txt.split s c).map .str))else UY)
noncomputable def oS(s:Str)(n:Me)(args:List V):M V:=if aD s then match n with
  | .split=>CQ s args
  |_=>UY
 else UY
noncomputable abbrev K:=M V
structure Lv where
 e:Scope->Expr->Z->(V->K)->K
 b:Scope->Expr->Z->(Bool->K)->K
 s:Scope->Stmt->Z->(Z->K)->(Z->K)->K
noncomputable def cZ:Z->Str->V->Z
 |[],x,v=>[(x,some v)]
 |p::r,x,v=>if p.1=x then(x,some v)::r else p::cZ r x v
noncomputable def f8:Z->Str->Option V
 |[],_=> .none
 |p::r,x=>if p.1=x then p.2 else f8 r x
theorem kQ:∀(vars:Z) (x y:Str) (v:V),f8 (cZ vars x v) y=if y=x then some v else f8 vars y
 |[],x,y,v=>by
  unfold cZ f8 f8
  by_cases h:y=x
  ·rw[if_pos h.symm,if_pos h]
  ·rw[if_neg (λe=>h e.symm),if_neg h]
 |p::r,x,y,v=>by
  unfold cZ
  by_cases h:p.1=x
  ·rw[if_pos h]
   by_cases e:y=x
   ·unfold f8;rw[if_pos e.symm,if_pos e]
   ·rw[if_neg e];unfold f8;rw[if_neg (λz=>e z.symm),if_neg (λz=>e (z.symm.trans h))]
  ·rw[if_neg h]
   unfold f8
   by_cases e:p.1=y
   ·have:y≠x:=λz=>h (e.trans z)
    rw[if_pos e,if_neg this,if_pos e]
   ·rw[if_neg e,kQ r,if_neg e]
noncomputable def oT:Option NameKind->Bool
 |some .local|some .cell|some .free=>true
 |_=>false
noncomputable def jI:Option NameKind->Bool
 |some .globalImplicit=>true
 |_=>false
noncomputable def oU(x:Str):Bool:=decide (x=Str.ofString ".0")
noncomputable def ef(sc:Scope)(vars:Z)(x:Str):Option V:=if oT (sc.names.lookup x)&& !oU x then f8 vars x else .none
noncomputable def gX(x:Str):Bool:=(x==("__debug__":Str))||(x==("__classdict__":Str))
set_option backward.match.sparseCases false in
noncomputable def mA:Expr->Bool
 | .Call (.Name id _) [] [] _=>id==("super":Str)
 |_=>false
noncomputable def vD:Const->Option V
 | .none=>some .none
 | .bool b=>some (.bool b)
 | .int i=>some (.int i)
 | .str s=>some (.str s)
 |_=> .none
noncomputable def jJ(o:Option V)(k:V->K):K:=match o with
 |some v=>k v
 | .none=>UY
set_option backward.match.sparseCases false in
noncomputable def cr:List Expr->Bool
 |[]=>true
 |e::es=>(match e with| .Starred _ _=>false|_=>true)&&cr es
noncomputable def dc(r:Lv)(sc:Scope)(vars:Z):List Expr->(List V->K)->K
 |[],k=>k []
 |e::es,k=>r.e sc e vars λv=>dc r sc vars es λvs=>k (v::vs)
noncomputable def mB(r:Lv)(sc:Scope)(vars:Z):Option Expr->(Option V->K)->K
 | .none,k=>k .none
 |some e,k=>r.e sc e vars λv=>k (some v)
noncomputable def aC(t:Bool)(a b:K):K:=match t with
 |true=>a
 |false=>b
noncomputable def mC(r:Lv)(sc:Scope)(vars:Z)(op:BoolOp):List Expr->(V->K)->K
 |[],_=>UY
 |[e],k=>r.e sc e vars k
 |e::es,k=>r.e sc e vars λv=>UX (truthy v) λt=>match op with
  | .And=>aC t (mC r sc vars op es k) (k v)
  | .Or=>aC t (k v) (mC r sc vars op es k)
noncomputable def mD(r:Lv)(sc:Scope)(vars:Z)(op:BoolOp):List Expr->(Bool->K)->K
 |[],k=>k (match op with| .And=>true| .Or=>false)
 |e::es,k=>r.b sc e vars λt=>match op with
  | .And=>aC t (mD r sc vars op es k) (k false)
  | .Or=>aC t (k true) (mD r sc vars op es k)
set_option backward.match.sparseCases false in
noncomputable def kR:Expr->Bool
 | .Set .. =>true
 |_=>false
inductive It where
 |vals (xs:List V)
 |live (k:Nat)
 |keys (k ep n:Nat)
 |enum (k:Nat)
noncomputable def f9:It->Bool
 | .enum _=>false
 |_=>true
set_option backward.match.sparseCases false in
noncomputable def jK:Expr->Bool
 | .Tuple .. =>true
 |_=>false
noncomputable def rC(i ep n:Nat)(o:O):M (Option V):=match o with
 | .dict es e=>cU e λep'=>if decide (ep'=ep)&&decide (es.length=n)&&es.all (λe=>V.isKeyStr e.1)then UZ ((es[i]?).map (·.1))else UY
 |_=>UY
noncomputable def b8(it:It)(i:Nat):M (Option V):=match it with
 | .vals xs=>UZ xs[i]?
 | .live k=>eR k λxs=>UZ xs[i]?
 | .keys k ep n=>UX (cC k) (rC i ep n)
 | .enum k=>eR k λxs=>UZ ((xs[i]?).map λv=> .tup [.int i,v])
noncomputable def jL(it:It):M Nat:=match it with
 | .vals xs=>UZ xs.length
 | .live k=>eR k λxs=>UZ xs.length
 | .keys _ _ n=>UZ n
 | .enum k=>eR k λxs=>UZ xs.length
noncomputable def oV(k:Nat)(o:O):M It:=match o with
 | .list _=>UZ (.live k)
 | .dict es ep=>cU ep λep=>if es.all (λe=>V.isKeyStr e.1)then UZ (.keys k ep es.length)else UY
 |_=>UY
noncomputable def ce(v:V):M It:=match v with
 | .tup xs=>UZ (.vals xs)
 | .ref k=>UX (cC k) (oV k)
 |_=>UY
noncomputable def cI(a d:Int):Nat->List V
 |0=>[]
 |n+1=> .int a::cI (a+d) d n
noncomputable def oW{α:Type}(v:V)(f:Int->Option α):Option α:=match v with
 | .int i=>f i
 |_=> .none
noncomputable def oX{α:Type}(l:List V)(x:Option α)(f:V->List V->Option α):Option α:=match l with
 |[]=>x
 |a::r=>f a r
noncomputable def mE(vs:List V):Option (List V):=oX vs .none λn r=>oW n λn=>oX r (if decide (-100000<=n)&&decide (n<=100000)then some (cI 0 1 n.toNat)else .none) λb r=>oW b λb=>
 oX r (if decide (0<=n)&&decide (n<=100000)&&decide (-100000<=b)&&decide (b<=100000)then some (cI n 1 (b-n).toNat)else .none) λd r=>oW d λd=>
  oX r (if decide (d= -1)&&decide (b= -1)&&decide (-1<=n)&&decide (n<=100000)then some (cI n (-1) (n+1).toNat)else .none) λ_ _=> .none
noncomputable def eD(vs:List V)(k:It->K):K:=cU (mE vs) λxs=>k (.vals xs)
noncomputable def mF(v:V)(k:It->K):K:=ed v λn=>eR n λ_=>k (.enum n)
noncomputable def oY(T:bf)(sc:Scope)(f:Str)(n:String):Bool:=jI (sc.names.lookup f)&&(T.fns.lookup f).isNone&&(T.clss.lookup f).isNone&&decide (f=Str.ofString n)
set_option backward.match.sparseCases false in
noncomputable def fq:Expr->Option Str
 | .Name x _=>some x
 |_=> .none
set_option backward.match.sparseCases false in
noncomputable def rD:Expr->Option (Str×List Expr)
 | .Call f args [] _=>(fq f).map λx=>(x,args)
 |_=> .none
noncomputable def i4(T:bf)(r:Lv)(sc:Scope)(vars:Z)(e:Expr)(k:It->K):K:=if kR e then UY else match rD e with
 |some p=>if gX p.1|| !(cr p.2&&decide (p.2.length<=20))then UY else if oY T sc p.1 "range"then
   dc r sc vars p.2 λvs=>eD vs k
  else if oY T sc p.1 "enumerate"then
   dc r sc vars p.2 λvs=>eS vs λv=>mF v k
  else r.e sc e vars λv=>UX (ce v) k
 | .none=>r.e sc e vars λv=>UX (ce v) k
noncomputable def cO(xs:List V)(f:V->List V->K):K:=match xs with
 |[]=>UY
 |v::vs=>f v vs
noncomputable def eT(xs:List V)(k:K):K:=match xs with
 |[]=>k
 |_::_=>UY
noncomputable def kS:List Expr->List V->Z->(Z->K)->K
 |[],xs,vars,k=>eT xs (k vars)
 |e::es,xs,vars,k=>match fq e with
  |some x=>cO xs λv vs=>kS es vs (cZ vars x v) k
  | .none=>UY
noncomputable def dZ(v:V)(f:List V->K):K:=match v with
 | .tup xs=>f xs
 |_=>UY
noncomputable def kT:List Expr->List V->Z->Option Z
 |[],[],vars=>some vars
 |e::es,v::vs,vars=>match fq e with
  |some x=>kT es vs (cZ vars x v)
  | .none=> .none
 |_,_,_=> .none
noncomputable def mG:Option NameKind->Bool
 |some .local=>true
 |_=>false
noncomputable def rE(sc:Scope)(e:Expr):Bool:=match fq e with
 |some x=>mG (sc.names.lookup x)
 | .none=>false
noncomputable def kU(sc:Scope):List Expr->Bool
 |[]=>true
 |e::es=>rE sc e&&kU sc es
noncomputable def rF:Option NameKind->Bool
 |some .local|some .cell=>true
 |_=>false
noncomputable def gy(r:Lv)(T:bf)(sc:Scope)(vars:Z)(t:Expr)(v:V)(k:Z->K):K:=match t with
 | .Name x _=>if rF (sc.names.lookup x)then k (cZ vars x v)else UY
 | .Attribute o n _=>r.e sc o vars λov=>UX (a_ ov n v T) λ_=>k vars
 | .Subscript o i _=>r.e sc o vars λov=>r.e sc i vars λiv=>UX (bi ov iv v) λ_=>k vars
 | .Tuple es _ _=>if kU sc es&&decide (es.length<=1000)then dZ v λxs=>kS es xs vars k else UY
 |_=>UY
noncomputable def mH:Option NameKind->Bool
 |some .cell|some .free=>true
 |_=>false
noncomputable def gY(sc scope:Scope)(x:Str):Bool:=(match scope.kind with| .function=>true|_=>false)&&mG (scope.names.lookup x)&&scope.names.all λy=>match y.2 with
 | .local=>mG (scope.names.lookup y.1)&&(decide (y.1=x)||oU y.1)
 | .free=>mH (sc.names.lookup y.1)
 | .globalImplicit=>true
 |_=>false
noncomputable def eE(next:Nat->M (Option V))(elt:V->(V->K)->K)(cond:V->(Bool->K)->K)(acc:Nat)(k:K):Nat->Nat->K
 |0,_=>UY
 |n+1,i=>UX (next i) λo=>match o with
  | .none=>k
  |some v=>cond v λt=>if t then elt v λy=>UX (cC acc) λo=>match o with
    | .list ys=>if aV ys.length then UX (c_ acc (.list (ys++[y]))) λ_=>eE next elt cond acc k n (i+1)else UY
    |_=>UY
   else eE next elt cond acc k n (i+1)
noncomputable def cg(it:It)(elt:V->(V->K)->K)(cond:V->(Bool->K)->K)(k:V->K):K:=if f9 it then UX (jL it) λn=>UX (aF (.list [])) λo=>match o with
  | .ref j=>eE (b8 it) elt cond j (k o) (n+1) 0
  |_=>UY
 else UY
noncomputable def jM(r:Lv)(sc:Scope)(x:Str)(ifs:List Expr)(vars:Z):V->(Bool->K)->K:=match ifs with
 |[]=>λ_ k=>k true
 |[c]=>λv k=>r.b sc c (cZ vars x v) k
 |_=>λ_ _=>UY
noncomputable def dr(next:Nat->M (Option V))(body:V->Z->(Z->K)->(Z->K)->K)(k:Z->K):Nat->Nat->Z->K
 |0,_,_=>UY
 |n+1,i,vars=>UX (next i) λo=>match o with
  | .none=>k vars
  |some v=>body v vars (λvars'=>dr next body k n (i+1) vars') k
noncomputable def cE(tup:Bool)(it:It)(body:V->Z->(Z->K)->(Z->K)->K)(k:Z->K)(vars:Z):K:=if f9 it||tup then UX (jL it) λn=>dr (b8 it) body k (n+1) 0 vars else UY
noncomputable def kW(test:Z->(Bool->K)->K)(run:Z->(Z->K)->(Z->K)->K)(k:Z->K):Nat->Z->K
 |0,_=>UY
 |n+1,vars=>test vars λt=>if t then run vars (λvars'=>kW test run k n vars') k else k vars
noncomputable def vE:O->Nat
 | .list xs=>xs.length
 |_=>0
noncomputable def mI(H:Hp):Nat:=(H.map vE).sum
noncomputable def eF(r:Lv)(sc:Scope):List Stmt->Z->(Z->K)->(Z->K)->K
 |[],vars,kn,_=>kn vars
 |s::ss,vars,kn,kb=>r.s sc s vars (λvars'=>eF r sc ss vars' kn kb) kb
noncomputable def kX(r:Lv)(sc:Scope)(vars:Z):List (Option Expr)->List Expr->(List (V×V)->K)->K
 |[],[],k=>k []
 |some a::as,b::bs,k=>r.e sc a vars λx=>r.e sc b vars λy=>kX r sc vars as bs λps=>k ((x,y)::ps)
 |_,_,_=>UY
noncomputable def iz:List (V×V)->Bool
 |[]=>true
 |e::r=>V.isKeyStr e.1&& !(r.any λf=>V.keyEq f.1 e.1)&&iz r
noncomputable def oZ(n:Str):Bool:=decide (n=Str.ofString "len")||decide (n=Str.ofString "list")||decide (n=Str.ofString "dict")||decide (n=Str.ofString "str")
noncomputable def o0(n:Str)(v:V):M V:=if n=Str.ofString "len"then bw v else if n=Str.ofString "list"then dK v else if n=Str.ofString "dict"then mz v else if n=Str.ofString "str"then jH v else UY
noncomputable def gZ(T:bf)(c:cX)(vs:List V):M V:=UX (aF (.inst c.addr [])) λo=>UX (T.call c.init (o::vs)) λq=>match q with
 | .none=>UZ o
 |_=>UY
noncomputable def rG(T:bf)(j:Nat)(n:Str)(ev:(List V->K)->K)(k:V->K)(c:cX)(es:List (Str×V)):K:=cU (c.meths.lookup n) λg=>if es.all (λe=>c.flds.contains e.1)&& !(c.flds.contains n)then ev λvs=>UX (T.call g (.ref j::vs)) k else UY
noncomputable def b9(k:Nat)(me:Me)(kk:V->K)(vs:List V):K:=UX (cC k) λob=>jD ob λxs=>UX (i3 k xs me vs) kk
noncomputable def jN(k:Nat)(kk:V->K)(vs:List V):K:=UX (cC k) λob=>kL ob λes=>UX (kP es .get vs) kk
noncomputable def vF(j:Nat)(n:Str)(ev:(List V->K)->K)(k:V->K):K:=cU (iy n) λme=>if oR me then ev (b9 j me k)else UY
noncomputable def mJ(T:bf)(j:Nat)(n:Str)(ev:(List V->K)->K)(k:V->K)(ob:O):K:=match ob with
 | .inst C es=>cU (T.clss.find? λc=>decide (c.2.addr=C)) λc=>rG T j n ev k c.2 es
 | .list _=>vF j n ev k
 | .dict _ _=>if decide (n=Str.ofString "get")then ev (jN j k)else UY
noncomputable def ao(T:bf)(ov:V)(n:Str)(ev:(List V->K)->K)(k:V->K):K:=match ov with
 | .ref j=>UX (cC j) (mJ T j n ev k)
 | .str s=>if decide (n=Str.ofString "split")then ev λvs=>UX (oS s .split vs) k else UY
 |_=>UY
noncomputable def vG(T:bf)(v:V)(ev:(List V->K)->K)(k:V->K):K:=match v with
 | .fn g=>ev λvs=>UX (T.call g vs) k
 |_=>UY
noncomputable def rH(T:bf)(r:Lv)(sc:Scope)(vars:Z)(x:Str)(args:List Expr)(k:V->K):K:=if gX x then UY else if jI (sc.names.lookup x)then match T.fns.lookup x with
   |some g=>dc r sc vars args λvs=>UX (T.call g vs) k
   | .none=>match T.clss.lookup x with
    |some c=>dc r sc vars args λvs=>UX (gZ T c vs) k
    | .none=>match args with
     |[]=>UY
     |a::as=>match as with
      |[]=>if oZ x then r.e sc a vars λv=>UX (o0 x v) k else UY
      |_::_=>UY
  else cU (ef sc vars x) λv=>vG T v (dc r sc vars args) k
noncomputable def rI(T:bf)(r:Lv)(sc:Scope)(vars:Z)(o:Expr)(n:Str)(ap:Pos)(args:List Expr)(pos:Pos)(k:V->K):K:=if mA o|| !(ap.endLine==pos.line)then UY else r.e sc o vars λov=>ao T ov n (dc r sc vars args) k
set_option backward.match.sparseCases false in
noncomputable def vH(T:bf)(r:Lv)(sc:Scope)(vars:Z)(f:Expr)(args:List Expr)(pos:Pos)(k:V->K):K:=if !(cr args&&decide (args.length<=20))then UY else match f with
 | .Attribute o n ap=>rI T r sc vars o n ap args pos k
 | .Name x _=>rH T r sc vars x args k
 |_=>UY
noncomputable def i5(o:V)(ps:List (V×V))(k:V->K):K:=match o with
 | .ref j=>UX (cC j) λob=>match ob with
  | .dict [] (some 0)=>if iz ps&&decide (ps.length<=15)then UX (c_ j (.dict ps (some ps.length))) λ_=>k o else UY
  |_=>UY
 |_=>UY
noncomputable def CR(v:V)(k:V->K):K:=match v with
 | .int i=>k (.int (-i))
 |_=>UY
set_option backward.match.sparseCases false in
noncomputable def o_:Expr->Bool
 | .Slice .. =>true
 |_=>false
set_option backward.match.sparseCases false in
noncomputable def vI(r:Lv)(sc:Scope)(vars:Z)(o i:Expr)(k:V->K):K:=match i with
 | .Slice l u s _=>rB s (r.e sc o vars λv=>mB r sc vars l λa=>mB r sc vars u λb=>UX (bk v a b) k)
 |_=>UY
noncomputable def vJ(T:bf)(r:Lv)(sc:Scope)(vars:Z)(elt:Expr)(scope:Scope)(k:V->K)(g:Comprehension):K:=cU (fq g.target) λx=>if g.is_async=0 then(if gY sc scope x then i4 T r sc vars g.iter λit=>cg it (λv k=>r.e scope elt (cZ vars x v) k) (jM r scope x g.ifs vars) k else UY)else UY
noncomputable def rJ(T:bf)(r:Lv)(sc:Scope)(e:Expr)(vars:Z)(k:V->K):K:=match e with
 | .Constant c _ _=>jJ (vD c) k
 | .Name x _=>if gX x then UY else if jI (sc.names.lookup x)then jJ ((T.fns.lookup x).map .fn) k else jJ (ef sc vars x) k
 | .BoolOp op vs _=>mC r sc vars op vs k
 | .BinOp a op b _=>r.e sc a vars λx=>r.e sc b vars λy=>UX (ax op x y) k
 | .UnaryOp op x _=>match op with
  | .Not=>r.e sc x vars λv=>UX (truthy v) λt=>k (.bool !t)
  | .USub=>r.e sc x vars λv=>CR v k
  |_=>UY
 | .IfExp t a b _=>r.b sc t vars λc=>if c then r.e sc a vars k else r.e sc b vars k
 | .Dict ks vs _=>match ks,vs with
  |[],[]=>UX (aF (.dict [] (some 0))) k
  |ks,vs=>if ks.all (·.isSome)&&decide (ks.length=vs.length)&&decide (ks.length<=15)then UX (aF (.dict [] (some 0))) λo=>kX r sc vars ks vs λps=>i5 o ps k
   else UY
 | .List es _=>if cr es&&decide (es.length<=100)then dc r sc vars es λvs=>UX (aF (.list vs)) k else UY
 | .Tuple es _ _=>if cr es&&decide (es.length<=100)then dc r sc vars es λvs=>k (.tup vs)else UY
 | .ListComp elt gens scope _=>eS gens (vJ T r sc vars elt scope k)
 | .Compare a ops bs _=>eS ops λop=>eS bs λb=>if kR b then UY else r.e sc a vars λx=>r.e sc b vars λy=>UX (af op x y) λt=>k (.bool t)
 | .Call f args kws pos=>match kws with
  |[]=>vH T r sc vars f args pos k
  |_::_=>UY
 | .Attribute o n _=>if mA o then UY else r.e sc o vars λv=>UX (ab v n T) k
 | .Subscript o i _=>if o_ i then vI r sc vars o i k else r.e sc o vars λv=>r.e sc i vars λj=>UX (aa v j) k
 |_=>UY
set_option backward.match.sparseCases false in
noncomputable def vK(r:Lv)(sc:Scope)(e:Expr)(vars:Z)(k:Bool->K):K:=match e with
 | .UnaryOp op x _=>match op with
  | .Not=>r.b sc x vars λt=>k (!t)
  |_=>UY
 | .NamedExpr .. =>UY
 | .BoolOp op vs _=>mD r sc vars op vs k
 | .IfExp t a b _=>r.b sc t vars λc=>if c then r.b sc a vars k else r.b sc b vars k
 | .Compare a ops bs _=>eS ops λop=>eS bs λb=>if kR b then UY else r.e sc a vars λx=>r.e sc b vars λy=>UX (af op x y) k
 |e=>r.e sc e vars λv=>UX (truthy v) k
noncomputable def am:V->Bool
 | .none| .bool _| .int _| .str _=>true
 |_=>false
set_option backward.match.sparseCases false in
noncomputable def CS:Expr->Bool
 | .List .. =>true
 |_=>false
set_option backward.match.sparseCases false in
noncomputable def rK:Expr->Bool
 | .SetComp .. | .DictComp .. =>true
 |_=>false
set_option backward.match.sparseCases false in
noncomputable def rL:Expr->Bool
 | .ListComp .. | .SetComp .. | .DictComp .. | .Constant .. =>true
 |_=>false
noncomputable def kY(t e:Expr):Bool:=(jK t&&jK e)||CS t
set_option backward.match.sparseCases false in
noncomputable def vL(T:bf)(r:Lv)(sc:Scope)(s:Stmt)(vars:Z)(kn kb:Z->K):K:=match s with
 | .Expr e _=>match rL e with
  |true=>UY
  |false=>r.e sc e vars λv=>if am v then kn vars else UY
 | .Pass _=>kn vars
 | .Break _=>kb vars
 | .Return (some e) _=>r.e sc e vars λv=>UZ v
 | .Return .none _=>UZ .none
 | .Assign [t] e _=>match kY t e||rK e with
  |true=>UY
  |false=>r.e sc e vars λv=>gy r T sc vars t v kn
 | .If t a b _=>r.b sc t vars λc=>if c then eF r sc a vars kn kb else eF r sc b vars kn kb
 | .While t b [] _=>λH=>kW (λvars k=>r.b sc t vars k) (λvars kn kb=>eF r sc b vars kn kb) kn (mI H+2) vars H
 | .For t i b [] _=>i4 T r sc vars i λit=>cE (jK t) it (λv vars kn kb=>gy r T sc vars t v λvars'=>eF r sc b vars' kn kb) kn vars
 |_=>UY
noncomputable def CT:Lv:=⟨λ_ _ _ _=>UY,λ_ _ _ _=>UY,λ_ _ _ _ _=>UY⟩
noncomputable def lv(T:bf):Nat->Lv
 |0=>CT
 |n+1=>⟨rJ T (lv T n),vK (lv T n),vL T (lv T n)⟩
structure aE where
 addr:Addr
 name:Str
 qual:Str
 params:Arguments
 body:List Stmt
 scope:Scope
 dflt:Option Addr
 dvals:List V
 code:Addr
noncomputable def rM(ps:List Str)(vs ds:List V):Option (List (Str×V)):=
 if vs.length<=ps.length/\ps.length<=vs.length+ds.length/\ds.length<=ps.length then some (ps.zip (vs++ds.drop (ds.length-(ps.length-vs.length))))else .none
noncomputable def kZ(sc:Scope)(bs:List (Str×V)):Z:=(sc.names.filter λy=>oT (some y.2)).map λy=>(y.1,bs.lookup y.1)
noncomputable def iA(T:bf)(f:aE)(args:List V):M V:=match rM (f.params.args.map (·.arg)) args f.dvals with
 |some bs=>eF (lv T 24) f.scope f.body (kZ f.scope bs) (λ_=>UZ .none) (λ_=>UY)
 | .none=>UY
noncomputable abbrev pw:Program:=PySem.Challenge.pw_nt0618_01
noncomputable def aX(i:Nat):Stmt:=match pw.main.body[i]? with|some s=>s| .none=> .Pass default
set_option backward.match.sparseCases false in
noncomputable def cP(i j:Nat):Stmt:=match aX i with| .ClassDef _ _ _ body _ _ _ _ _ _ _=>(match body[j]? with|some s=>s| .none=> .Pass default)|s=>s
noncomputable def CU:Arguments:=⟨[],[],.none,[],[],.none,[]⟩
set_option backward.match.sparseCases false in
noncomputable def CV:Stmt->Arguments| .FunctionDef _ a _ _ _ _ _ _ _ _=>a|_=>CU
noncomputable def CW:Stmt->List Stmt| .FunctionDef _ _ b _ _ _ _ _ _ _=>b|_=>[]
noncomputable def CX:Stmt->Scope| .FunctionDef _ _ _ _ _ _ sc _ _ _=>sc|_=>default
noncomputable def CY:Stmt->Str| .FunctionDef n _ _ _ _ _ _ _ _ _=>n|_=>Str.empty
noncomputable def aI(addr code:Addr)(qual:String)(s:Stmt)(d:Option Addr)(dv:List V):aE:=⟨addr,CY s,Str.ofString qual,CV s,CW s,CX s,d,dv,code⟩
noncomputable def CZ:aE:=aI 49 48 "is_heading" (aX 6) none []
noncomputable def C0:aE:=aI 77 76 "implied_names" (aX 10) none []
noncomputable def C9:aE:=aI 91 90 "OpenStack.__init__" (cP 12 0) none []
noncomputable def C_:aE:=aI 98 97 "OpenStack.push" (cP 12 1) none []
noncomputable def Da:aE:=aI 105 104 "OpenStack.pop" (cP 12 2) none []
noncomputable def Db:aE:=aI 112 111 "OpenStack.current" (cP 12 3) none []
noncomputable def Dc:aE:=aI 119 118 "OpenStack.many" (cP 12 4) none []
noncomputable def Dd:aE:=aI 133 132 "OpenStack.remove" (cP 12 6) none []
noncomputable def De:aE:=aI 154 153 "OpenStack.name" (cP 12 9) none []
noncomputable def iB:aE:=aI 161 160 "OpenStack.has_name" (cP 12 10) none []
noncomputable def fu:aE:=aI 168 167 "OpenStack.pop_until" (cP 12 11) none []
noncomputable def Df:aE:=aI 189 188 "stops_scope" (aX 13) none []
noncomputable def iC:aE:=aI 197 196 "in_scope" (aX 14) (some 190) [.str (Str.ofString "")]
noncomputable def iD:aE:=aI 205 204 "node_in_scope" (aX 15) (some 198) [.str (Str.ofString "")]
noncomputable def eG:aE:=aI 213 212 "pop_implied" (aX 16) (some 206) [.str (Str.ofString "")]
noncomputable def Dg:aE:=aI 228 227 "place_for" (aX 19) (some 221) [.int (-1)]
noncomputable def Dh:aE:=aI 236 235 "make" (aX 20) (some 229) [.str (Str.ofString "html")]
noncomputable def Di:aE:=aI 245 244 "insert_element" (aX 21) (some 238) [.tup [],.str (Str.ofString "html")]
noncomputable def Dj:aE:=aI 252 251 "insert_token" (aX 22) none []
noncomputable def Dk:aE:=aI 259 258 "associate" (aX 23) none []
noncomputable def Dl:aE:=aI 266 265 "close_p" (aX 24) none []
noncomputable def iE:aE:=aI 273 272 "merge_attrs" (aX 25) none []
noncomputable def Dm:aE:=aI 281 280 "close_named" (aX 27) (some 274) [.str (Str.ofString "")]
noncomputable def Dn:aE:=aI 289 288 "end_block" (aX 28) (some 282) [.str (Str.ofString ""),.str (Str.ofString "")]
noncomputable def Do:aE:=aI 296 295 "end_p" (aX 29) none []
noncomputable def Dp:aE:=aI 303 302 "end_heading" (aX 30) none []
noncomputable def Dq:aE:=aI 310 309 "end_form" (aX 31) none []
noncomputable def Dr:aE:=aI 317 316 "block_end" (aX 32) none []
noncomputable def Ds:aE:=aI 363 362 "Formatting.__init__" (cP 37 0) none []
noncomputable def Dt:aE:=aI 454 453 "Tree.__init__" (cP 40 0) none []
noncomputable def Du:aE:=aI 463 462 "Tree.add" (cP 40 1) (some 456) [.str (Str.ofString ""),.str (Str.ofString ""),.tup [],.str (Str.ofString "")]
noncomputable def Dv:aE:=aI 472 471 "Tree.element" (cP 40 2) (some 465) [.str (Str.ofString "html"),.tup []]
noncomputable def Dx:aE:=aI 501 500 "Tree.insert" (cP 40 6) (some 494) [.int (-1)]
noncomputable def Dy:aE:=aI 508 507 "Tree.append" (cP 40 7) none []
noncomputable def Dz:aE:=aI 515 514 "Tree.remove" (cP 40 8) none []
noncomputable def iF:aE:=aI 543 542 "Tree.value" (cP 40 12) none []
noncomputable def DA:aE:=aI 550 549 "Tree.is_html" (cP 40 13) none []
noncomputable def fv:aE:=aI 564 563 "above" (aX 41) none []
noncomputable def DB:aE:=aI 579 578 "Builder.__init__" (cP 43 0) (some 572) [.bool false]
noncomputable def DC:aE:=aI 586 585 "Builder.error" (cP 43 1) none []
noncomputable def DD:aE:=aI 593 592 "Builder.to" (cP 43 2) none []
noncomputable def DE:aE:=aI 600 599 "Builder.use" (cP 43 3) none []
noncomputable def DF:aE:=aI 607 606 "Builder.process" (cP 43 4) none []
noncomputable def DG:aE:=aI 621 620 "Builder.adjusted" (cP 43 6) none []
noncomputable def DH:aE:=aI 628 627 "Builder.is_foreign" (cP 43 7) none []
noncomputable def DI:aE:=aI 642 641 "is_html_turn" (aX 44) none []
noncomputable def fw:aE:=aI 649 648 "finish" (aX 45) none []
noncomputable def DJ:aE:=aI 656 655 "is_body_second" (aX 47) none []
noncomputable def DK:aE:=aI 663 662 "html_again" (aX 48) none []
noncomputable def DL:aE:=aI 670 669 "body_again" (aX 49) none []
noncomputable def fy:aE:=aI 677 676 "frameset_for_body" (aX 50) none []
noncomputable def iG:aE:=aI 684 683 "tell_left_open" (aX 51) none []
noncomputable def DM:aE:=aI 691 690 "leave_body" (aX 52) none []
noncomputable def DN:aE:=aI 698 697 "body_eof" (aX 53) none []
noncomputable def DO:aE:=aI 705 704 "plain_start" (aX 54) none []
noncomputable def DP:aE:=aI 712 711 "plain_end" (aX 55) none []
noncomputable def DQ:aE:=aI 719 718 "_law_digit" (aX 57) none []
noncomputable def DS:aE:=aI 726 725 "_law_scenes" (aX 58) none []
noncomputable def DT:aE:=aI 733 732 "_law_tags" (aX 59) none []
noncomputable def d3:aE:=aI 740 739 "_law_words" (aX 60) none []
noncomputable def DU:aE:=aI 747 746 "_law_head" (aX 61) none []
noncomputable def DV:aE:=aI 754 753 "_law_template" (aX 62) none []
noncomputable def DW:aE:=aI 761 760 "_law_after" (aX 63) none []
noncomputable def DX:aE:=aI 768 767 "_law_foreign" (aX 64) none []
noncomputable def fz:aE:=aI 775 774 "_law_ready" (aX 65) none []
noncomputable def DY:aE:=aI 780 779 "_law_copy" (aX 66) none []
noncomputable def DZ:aE:=aI 785 784 "_law_open" (aX 67) none []
noncomputable def D0:aE:=aI 792 791 "_law_implied" (aX 68) none []
noncomputable def D_:aE:=aI 797 796 "_law_ends" (aX 69) none []
noncomputable def Ea:aE:=aI 802 801 "_law_place" (aX 70) none []
noncomputable def Eb:aE:=aI 809 808 "_law_tell" (aX 71) none []
noncomputable def Ec:aE:=aI 816 815 "_law_hand" (aX 72) none []
noncomputable def Ed:aE:=aI 821 820 "_law_solid" (aX 73) none []
noncomputable def fA:aE:=aI 828 827 "_law_put" (aX 74) none []
noncomputable def Ee:aE:=aI 833 832 "_law_form_due" (aX 75) none []
noncomputable def Ef:aE:=aI 838 837 "_law_block_due" (aX 76) none []
noncomputable def Eg:aE:=aI 843 842 "_law_left_open" (aX 77) none []
noncomputable def Eh:aE:=aI 850 849 "_law_end_due" (aX 78) none []
noncomputable def iH:aE:=aI 855 854 "_law_merge" (aX 79) none []
noncomputable def Ei:aE:=aI 862 861 "_law_start_due" (aX 80) none []
noncomputable def Ej:aE:=aI 869 868 "_law_eof_due" (aX 81) none []
noncomputable def Ek:aE:=aI 874 873 "_law_take" (aX 82) none []
noncomputable def aU:aE:=aI 881 880 "law" (aX 83) none []
noncomputable def gz:List (Str×Addr):=[(Str.ofString "_wall",21),(Str.ofString "is_upper",28),(Str.ofString "lower",35),(Str.ofString "lower_text",42),(Str.ofString "is_heading",49),(Str.ofString "is_table_part",56),(Str.ofString "is_math_point",63),(Str.ofString "is_html_point",70),(Str.ofString "implied_names",77),(Str.ofString "stops_scope",189),(Str.ofString "in_scope",197),(Str.ofString "node_in_scope",205),(Str.ofString "pop_implied",213),(Str.ofString "foster_place",220),(Str.ofString "place_for",228),(Str.ofString "make",236),(Str.ofString "insert_element",245),(Str.ofString "insert_token",252),(Str.ofString "associate",259),(Str.ofString "close_p",266),(Str.ofString "merge_attrs",273),(Str.ofString "close_named",281),(Str.ofString "end_block",289),(Str.ofString "end_p",296),(Str.ofString "end_heading",303),(Str.ofString "end_form",310),(Str.ofString "block_end",317),(Str.ofString "alike",440),(Str.ofString "above",564),(Str.ofString "is_html_turn",642),(Str.ofString "finish",649),(Str.ofString "is_body_second",656),(Str.ofString "html_again",663),(Str.ofString "body_again",670),(Str.ofString "frameset_for_body",677),(Str.ofString "tell_left_open",684),(Str.ofString "leave_body",691),(Str.ofString "body_eof",698),(Str.ofString "plain_start",705),(Str.ofString "plain_end",712),(Str.ofString "_law_digit",719),(Str.ofString "_law_scenes",726),(Str.ofString "_law_tags",733),(Str.ofString "_law_words",740),(Str.ofString "_law_head",747),(Str.ofString "_law_template",754),(Str.ofString "_law_after",761),(Str.ofString "_law_foreign",768),(Str.ofString "_law_ready",775),(Str.ofString "_law_copy",780),(Str.ofString "_law_open",785),(Str.ofString "_law_implied",792),(Str.ofString "_law_ends",797),(Str.ofString "_law_place",802),(Str.ofString "_law_tell",809),(Str.ofString "_law_hand",816),(Str.ofString "_law_solid",821),(Str.ofString "_law_put",828),(Str.ofString "_law_form_due",833),(Str.ofString "_law_block_due",838),(Str.ofString "_law_left_open",843),(Str.ofString "_law_end_due",850),(Str.ofString "_law_merge",855),(Str.ofString "_law_start_due",862),(Str.ofString "_law_eof_due",869),(Str.ofString "_law_take",874),(Str.ofString "law",881)]
noncomputable def rN:cX:=⟨178,91,[(Str.ofString "push",98),(Str.ofString "pop",105),(Str.ofString "current",112),(Str.ofString "many",119),(Str.ofString "has",126),(Str.ofString "remove",133),(Str.ofString "place",140),(Str.ofString "put_at",147),(Str.ofString "name",154),(Str.ofString "has_name",161),(Str.ofString "pop_until",168),(Str.ofString "pop_to",175)],[Str.ofString "tree",Str.ofString "items"]⟩
noncomputable def rO:cX:=⟨429,363,[(Str.ofString "push",370),(Str.ofString "mark",377),(Str.ofString "clear_to_mark",384),(Str.ofString "find",391),(Str.ofString "has",398),(Str.ofString "place",405),(Str.ofString "remove",412),(Str.ofString "replace",419),(Str.ofString "put_at",426)],[Str.ofString "tree",Str.ofString "items"]⟩
noncomputable def rP:cX:=⟨553,454,[(Str.ofString "add",463),(Str.ofString "element",472),(Str.ofString "text",479),(Str.ofString "comment",486),(Str.ofString "doctype",493),(Str.ofString "insert",501),(Str.ofString "append",508),(Str.ofString "remove",515),(Str.ofString "move_children",522),(Str.ofString "place",529),(Str.ofString "last",536),(Str.ofString "value",543),(Str.ofString "is_html",550)],[Str.ofString "kinds",Str.ofString "spaces",Str.ofString "names",Str.ofString "attrs",Str.ofString "texts",Str.ofString "parents",Str.ofString "children",Str.ofString "contents"]⟩
noncomputable def mK:cX:=⟨631,579,[(Str.ofString "error",586),(Str.ofString "to",593),(Str.ofString "use",600),(Str.ofString "process",607),(Str.ofString "feed",614),(Str.ofString "adjusted",621),(Str.ofString "is_foreign",628)],[Str.ofString "rules",Str.ofString "tree",Str.ofString "stack",Str.ofString "formatting",Str.ofString "mode",Str.ofString "original",Str.ofString "modes",Str.ofString "head",Str.ofString "form",Str.ofString "owners",Str.ofString "is_frameset_ok",Str.ofString "is_scripting",Str.ofString "is_foster",Str.ofString "context",Str.ofString "quirks",Str.ofString "errors",Str.ofString "pending",Str.ofString "wish",Str.ofString "is_skipping",Str.ofString "is_acknowledged",Str.ofString "is_done"]⟩
noncomputable def eH:List (Str×cX):=[(Str.ofString "OpenStack",rN),(Str.ofString "Formatting",rO),(Str.ofString "Tree",rP),(Str.ofString "Builder",mK)]
noncomputable def eI:List aE:=[CZ,C0,DA,iF,Du,Dv,fv,Dz,Dx,Dy,Dt,C9,C_,Da,Db,Dc,Dd,De,iB,fu,Df,iC,iD,eG,Dg,Dh,DC,Dk,Di,Dj,Dl,iE,Dm,Dn,Do,Dp,Dq,Dr,Ds,DB,DD,DU,DV,DW,DX,DG,DH,DI,DE,DF,fw,DJ,DK,DL,fy,iG,DM,DN,DO,DP,DQ,DS,DT,d3,fz,DY,DZ,D0,D_,Ea,Eb,Ec,Ed,fA,Ee,Ef,Eg,Eh,iH,Ei,Ej,Ek,aU]
noncomputable def El:List aE->(Addr->List V->M V)->(Addr->List V->M V)
 |[],c=>c
 |f::fs,c=>El fs (λa vs=>if a=f.addr then iA ⟨gz,eH,c⟩ f vs else c a vs)
noncomputable def Em:Addr->List V->M V:=λ_ _=>UY
noncomputable abbrev rl:OpenLaw:=PySem.Challenge.rw_nt0618_01
theorem an {a b : Bool} (h : a = true) (k : b = true) : (a && b) = true := by rw [h, k]; rfl
set_option maxHeartbeats 0 in
theorem En : rl.wellSaid = true := by
  refine er (PySem.W.Fast.te9446332074065402090 ..) ?_
  delta PySem.W.Fast.tw9446332074065402090
  iterate 18 refine an ?_ ?_
  delta PySem.W.Fast.tw17960256430627541270
  iterate 2 refine an ?_ ?_
  delta PySem.W.Fast.tw2436336058641802641
  iterate 13 refine an ?_ ?_
  delta PySem.W.Fast.tw12908688711261696721
  iterate 5 refine an ?_ ?_
  all_goals decide +kernel
noncomputable def fB:List Str:=[Str.ofString "len",Str.ofString "list",Str.ofString "dict",Str.ofString "str",Str.ofString "range",Str.ofString "enumerate"]
noncomputable def iI(get:Addr->Option Obj)(as:List Addr):Frag:=as.filterMap λa=>(get a).map λo=>(a,o)
noncomputable def pc:List Addr:=[3,1,178,177,429,428,553,552,631,630]++gz.map (·.2)++eH.flatMap (λc=>c.2.init::c.2.meths.map (·.2))++eI.flatMap λf=>f.addr::f.code::(match f.dflt with|some d=>[d,d-1]| .none=>[])
noncomputable def pd(K:Frag)(f:aE):Option (Str×Str×Arguments×FuncBody×Scope×Addr×List (Str×Addr)×Addr):=match K.lookup f.addr with
 |some ⟨_,_,.func fd,_⟩=>some (fd.name,fd.qualname,fd.params,fd.body,fd.scope,fd.globals,fd.closure,fd.builtins)
 |_=> .none
noncomputable def f_:Value->Nat
 | .none=>1
 | .bool _=>2
 | .int .. =>3
 | .str .. =>4
 | .ref _=>5
 |_=>0
noncomputable def vM:Value->Int
 | .int b _=>b
 |_=>0
noncomputable def vN:Value->Str
 | .str b _=>b
 |_=>⟨#[]⟩
noncomputable def vO:Value->Addr
 | .ref b=>b
 |_=>0
noncomputable def vP(K:Frag)(v:V)(x:Value):Bool:=match v with
 | .none=>f_ x==1
 | .bool a=>decide (x= .bool a)
 | .int a=>f_ x==3&&decide (a=vM x)
 | .str a=>f_ x==4&&decide (a=vN x)
 | .tup []=>f_ x==5&&(match K.lookup (vO x)with
  |some ⟨.type t,.none,.seq xs _,sl⟩=>t=="tuple"&&xs.size==0&&sl.size==0
  |_=>false)
 |_=>false
noncomputable def pe(K:Frag):List V->List Value->Bool
 |[],[]=>true
 |a::as,b::bs=>vP K a b&&pe K as bs
 |_,_=>false
noncomputable def vQ(K:Frag)(dV:Value)(ds:List V):Bool:=match dV with
 | .none=>ds.isEmpty
 | .ref T=>(match K.lookup T with
  |some ⟨.type t,.none,.seq xs _,sl⟩=>t=="tuple"&&sl.size==0&&pe K ds xs.toList
  |_=>false)
 |_=>false
noncomputable def pf(K:Frag)(f:aE):Bool:=match K.lookup f.addr with
 |some ⟨_,_,.func fd,_⟩=>codeIn K fd.code f.qual&&vQ K fd.defaults f.dvals
 |_=>false
noncomputable def iJ(a:Option (Option Value))(b:Option (Option Value)):Bool:=decide (a=b)
noncomputable def rQ(K:Frag)(c:cX):Bool:=makesIn K c.addr&&iJ (findIn K (.ref c.addr) "__init__") (some (some (.ref c.init)))&&isFn K (.ref c.init)&&hasDictIn K c.addr&&iJ (findIn K (.ref c.addr) "__setattr__") (some (some (.builtin "object.__setattr__")))&&plainOver K c.addr&&keepIn K (.ref c.addr)&&
 (c.meths.all λp=>plainGet K c.addr p.1&&iJ (findIn K (.ref c.addr) p.1) (some (some (.ref p.2)))&&isFn K (.ref p.2)&&keepIn K (.ref p.2))&&(c.flds.all λn=>plainGet K c.addr n&&iJ (findIn K (.ref c.addr) n) (some .none)&&iJ (takerIn K c.addr n) (some .none))
noncomputable def pg(K:Frag):Bool:=(gz.all λp=>iJ (nsIn K mainGlobals p.1) (some (some (.ref p.2)))&&keepIn K (.ref p.2))&&(eH.all λp=>iJ (nsIn K mainGlobals p.1) (some (some (.ref p.2.addr)))&&rQ K p.2)&&
 (fB.all λn=>iJ (nsIn K mainGlobals n) (some .none))
noncomputable def mL(f:aE):Option (Str×Str×Arguments×FuncBody×Scope×Addr×List (Str×Addr)×Addr):=some (f.name,f.qual,f.params,.stmts f.body,f.scope,mainGlobals,[],builtinsNs)
noncomputable def vR(K:Frag):List (Option (Str×Str×Arguments×FuncBody×Scope×Addr×List (Str×Addr)×Addr))×Bool:=(eI.map (pd K),eI.all (pf K)&&pg K&&(K.lookup sysModules).isSome)
noncomputable def mM(K:Frag)(x:Addr)(o:Obj):=vR (K++[(x,o)])
noncomputable def mN(_:Addr)(_:Obj):=(eI.map mL,true)
section
noncomputable def Eo(_:Params):Obj:={cls:= .type "tuple",data:= .seq #[]}
noncomputable def Ep(_:Params):Obj:={cls:= .none,data:= .fields #[]}
noncomputable def Er(_:Params):Obj:={cls:=Value.type "code",data:=Data.fields #[Value.str (Str.ofString "<module>") 182,Value.str (Str.ofString "<module>") 183,Value.str (Str.ofString "/claim/cut.py") 184,Value.int 1 0,Value.int 0 0,Value.int 0 0,Value.int 0 0,Value.int 0 0,Value.ref 11,Value.bool false,Value.int 181 0,Value.ref 12,Value.none,Value.none,Value.none,Value.none,Value.int 185 0,Value.int 1 0,Value.str (Str.ofString "/claim/cut.py") 186]}
noncomputable def Es(_:Params):Obj:={cls:=Value.type "frame",slots:= #[some (Value.ref 13),some (Value.ref 3),some (Value.ref 3),none,some (Value.str (Str.ofString "__main__") 164),none,some (Value.ref 0)]}
noncomputable def Et(P:Params):BT:=
 ((((((((((((((BT.nil.ins 0 (boot_o_0 P)).ins 1 (boot_o_1 P)).ins 2 (boot_o_2 P)).ins 3 (boot_o_3 P)).ins 4 (boot_o_4 P)).ins 5 (boot_o_5 P)).ins 6 (boot_o_6 P)).ins 7 (boot_o_7 P)).ins 8 (boot_o_8 P)).ins 9 (boot_o_9 P)).ins 10 (boot_o_10 P)).ins 11 (Eo P)).ins 12 (Ep P)).ins 13 (Er P)).ins 14 (Es P)
noncomputable def jO:List Stmt:=behindTheImports pw
noncomputable def jP:Env:={scope:=pw.main.scope,locals:=mainNs,globals:=mainNs,cells:=[],code:= .ref 13,frame:=some 14}
noncomputable def gA:Pos:=⟨0,0,0,0⟩
noncomputable def ph:Pos:=⟨699,0,720,15⟩
noncomputable def eg:Option Value:=some (.ref 6)
noncomputable def g7(P:Params)(os:OsState):SharedT:=⟨Et P,15,{}, #[],boot_drawn,187,os⟩
noncomputable def mO(P:Params)(os:OsState):Shared:=⟨boot_heap P,Xg [],boot_drawn,boot_toks,os⟩
noncomputable def d4:Code:= .body jO jP
noncomputable def g8:List Frame:=[topFrame gA]
theorem Eu:∀(w:World) (os:OsState),topGo treeTable pw w 11 eg 12 (mO w.params os) (topStub pw)=some ((g7 w.params os).abs,⟨denote treeTable d4,d4,gA,g8⟩):=λw os=>by kernel_rfl
noncomputable def eJ:Program:=view pw [83]
noncomputable def k_:List Str:=importedModules pw.main.body
end
section
noncomputable def gB:List Str:=(pw.boundNames.filter λn=>n !=("law":Str)&&n !=("__name__":Str))
noncomputable def pi:Shared->Bool:=λ_=>true
noncomputable def mP(s:SharedT)(a:Addr):Option Obj:=match XV a s.n with
 |true=>alive ((s.tree.get a).getD default)
 |false=> .none
noncomputable def pj(P:Params)(s:Shared):=(staticsOk k_ (boot_heap P) s.heap&&namesBound pw s.heap&&gensDone s&&laidKept (boot_heap P) s.heap,PySem.W.Fast.tw4187177175401517315 eJ gB k_ pi true s)
theorem Ew:∀(w:World) (os:OsState),(PySem.W.Fast.tw10110043849684766642 treeTable pw w 11 eg 1 6000 (g7 w.params os) (piecesOf jO jP d4 gA g8)).map (λr=>(r.1,r.2.2.1,r.2.2.2,pj w.params r.2.1.abs,mM (iI (mP r.2.1) pc)))=some (.next,d4,ph,(true,openGood eJ gB),mN):=λw os=>by kernel_rfl
end
noncomputable abbrev Ro:=List (Addr×Addr)
noncomputable abbrev Nw:=List (Addr×Obj)
noncomputable abbrev i6(items:List Value):Obj:={cls:= .type "tuple",data:= .seq items.toArray}
noncomputable def bA(ρ:Ro)(a:Addr):Prop:=∃q∈ρ,a=q.1∨a=q.2
noncomputable def fD(K:Frag)(ρ:Ro)(nw:Nw)(a:Addr)(items:List Value):Prop:=
 ((a,i6 items)∈nw/\¬bA ρ a)∨∃n,K.lookup a=some ⟨.type "tuple",none,.seq items.toArray n, #[]⟩
mutual
inductive VR(K:Frag)(ρ:Ro)(nw:Nw):V->Value->Prop
 |none:VR K ρ nw .none .none
 |bool (b:Bool):VR K ρ nw (.bool b) (.bool b)
 |int (i:Int) (t:Tok):VR K ρ nw (.int i) (.int i t)
 |str (s:Str) (t:Tok):VR K ρ nw (.str s) (.str s t)
 |tup {xs:List V}{a:Addr}{items:List Value}:fD K ρ nw a items->VRs K ρ nw xs items->VR K ρ nw (.tup xs) (.ref a)
 |ref {k:Nat}{p:Addr×Addr}:ρ[k]?=some p->VR K ρ nw (.ref k) (.ref p.1)
 |fn (a:Addr):VR K ρ nw (.fn a) (.ref a)
 |frz {ns:List Int}{a:Addr}{items:List Value}{n:Nat}{dd:Option Addr}{sl:Array (Option Value)}:K.lookup a=some ⟨.type "list",dd,.seq items.toArray n,sl⟩->IntsAre items ns->VR K ρ nw (.frz ns) (.ref a)
inductive VRs(K:Frag)(ρ:Ro)(nw:Nw):List V->List Value->Prop
 |nil:VRs K ρ nw [] []
 |cons {x:V}{v:Value}{xs:List V}{vs:List Value}:VR K ρ nw x v->VRs K ρ nw xs vs->VRs K ρ nw (x::xs) (v::vs)
end
structure aG(ρ:Ro)(nw:Nw)(ρ':Ro)(nw':Nw):Prop where
 ro:∀(k:Nat) (p:Addr×Addr),ρ[k]?=some p->ρ'[k]?=some p
 keep:∀p∈nw,¬bA ρ p.1->p∈nw'/\¬bA ρ' p.1
theorem aG.refl{ρ:Ro}{nw:Nw}:aG ρ nw ρ nw:=⟨λ_ _ h=>h,λ_ h n=>⟨h,n⟩⟩
theorem aG.trans{ρ ρ' ρ'':Ro}{nw nw' nw'':Nw}(a:aG ρ nw ρ' nw')(b:aG ρ' nw' ρ'' nw''):aG ρ nw ρ'' nw'':=
 ⟨λk p h=>b.ro k p (a.ro k p h),λp h n=>let⟨x,y⟩:=a.keep p h n;b.keep p x y⟩
theorem fD.ext{K:Frag}{ρ ρ':Ro}{nw nw':Nw}{a:Addr}{items:List Value}(x:aG ρ nw ρ' nw'):fD K ρ nw a items->fD K ρ' nw' a items
 | .inl h=> .inl (x.keep _ h.1 h.2)
 | .inr h=> .inr h
theorem VR.ext{K:Frag}{ρ ρ':Ro}{nw nw':Nw}(x:aG ρ nw ρ' nw'):∀{v:V}{v':Value},VR K ρ nw v v'->VR K ρ' nw' v v':=
 λh=>VR.rec (motive_1:=λv v' _=>VR K ρ' nw' v v') (motive_2:=λl l' _=>VRs K ρ' nw' l l') .none .bool .int .str (λh _ i=> .tup (h.ext x) i) (λh=> .ref (x.ro _ _ h)) .fn (λh hs=> .frz h hs) .nil (λ_ _ a b=> .cons a b) h
theorem VRs.ext{K:Frag}{ρ ρ':Ro}{nw nw':Nw}(x:aG ρ nw ρ' nw'):∀{v:List V}{v':List Value},VRs K ρ nw v v'->VRs K ρ' nw' v v':=
 λh=>VRs.rec (motive_1:=λ_ _ _=>True) (motive_2:=λl l' _=>VRs K ρ' nw' l l') ⟨⟩ (λ_=>⟨⟩) (λ_ _=>⟨⟩) (λ_ _=>⟨⟩) (λ_ _ _=>⟨⟩) (λ_=>⟨⟩) (λ_=>⟨⟩) (λ_ _=>⟨⟩) .nil (λa _ _ b=> .cons (a.ext x) b) h
theorem VRs.ind{K:Frag}{ρ:Ro}{nw:Nw}{P:List V->List Value->Prop}(h0:P [] [])(h1:∀{x v xs vs},VR K ρ nw x v->VRs K ρ nw xs vs->P xs vs->P (x::xs) (v::vs)){l:List V}{l':List Value}(h:VRs K ρ nw l l'):P l l':=
 VRs.rec (motive_1:=λ_ _ _=>True) (motive_2:=λl l' _=>P l l') ⟨⟩ (λ_=>⟨⟩) (λ_ _=>⟨⟩) (λ_ _=>⟨⟩) (λ_ _ _=>⟨⟩) (λ_=>⟨⟩) (λ_=>⟨⟩) (λ_ _=>⟨⟩) h0 (λa b _ i=>h1 a b i) h
section
variable{K:Frag}{ρ:Ro}{nw:Nw}
theorem vS{v:Value}(h:VR K ρ nw .none v):v= .none:=by cases h;rfl
theorem lb{b:Bool}{v:Value}(h:VR K ρ nw (.bool b) v):v= .bool b:=by cases h;rfl
theorem cV{i:Int}{v:Value}(h:VR K ρ nw (.int i) v):∃t,v= .int i t:=by cases h;exact⟨_,rfl⟩
theorem eh{x:Str}{v:Value}(h:VR K ρ nw (.str x) v):∃t,v= .str x t:=by cases h;exact⟨_,rfl⟩
theorem pn{xs:List V}{v:Value}(h:VR K ρ nw (.tup xs) v):∃a items,v= .ref a/\fD K ρ nw a items/\VRs K ρ nw xs items:=by
 cases h with
 |tup h hs=>exact⟨_,_,rfl,h,hs⟩
theorem rR{k:Nat}{v:Value}(h:VR K ρ nw (.ref k) v):∃p:Addr×Addr,v= .ref p.1/\ρ[k]?=some p:=by
 cases h with
 |ref h=>exact⟨_,rfl,h⟩
theorem Ex{a:Addr}{v:Value}(h:VR K ρ nw (.fn a) v):v= .ref a:=by cases h;rfl
theorem Ey{ns:List Int}{v:Value}(h:VR K ρ nw (.frz ns) v):∃a items n dd sl,v= .ref a/\K.lookup a=some ⟨.type "list",dd,.seq items.toArray n,sl⟩/\IntsAre items ns:=by
 cases h with
 |frz h hs=>exact⟨_,_,_,_,_,rfl,h,hs⟩
theorem vT{l:List Value}(h:VRs K ρ nw [] l):l=[]:=by cases h;rfl
theorem vU{x:V}{xs:List V}{l:List Value}(h:VRs K ρ nw (x::xs) l):∃v vs,l=v::vs/\VR K ρ nw x v/\VRs K ρ nw xs vs:=by
 cases h with
 |cons h hs=>exact⟨_,_,rfl,h,hs⟩
@[elab_as_elim] theorem ei{P:Value->Prop}{i:Int}{v:Value}(h:VR K ρ nw (.int i) v)(k:∀t,P (.int i t)):P v:=ex1_1 (cV h) λt e=>e▸k t
@[elab_as_elim] theorem iK{P:Value->Prop}{x:Str}{v:Value}(h:VR K ρ nw (.str x) v)(k:∀t,P (.str x t)):P v:=ex1_1 (eh h) λt e=>e▸k t
@[elab_as_elim] theorem Ez{P:Value->Prop}{x:Bool}{v:Value}(h:VR K ρ nw (.bool x) v)(k:P (.bool x)):P v:=lb h▸k
@[elab_as_elim] theorem rS{P:Value->Prop}{v:Value}(h:VR K ρ nw .none v)(k:P .none):P v:=vS h▸k
@[elab_as_elim] theorem mQ{P:Value->Prop}{xs:List V}{v:Value}(h:VR K ρ nw (.tup xs) v)(k:∀a items,fD K ρ nw a items->VRs K ρ nw xs items->P (.ref a)):P v:=ex2_3 (pn h) λa items e h1 h2=>e▸k a items h1 h2
@[elab_as_elim] theorem vV{P:Value->Prop}{ns:List Int}{v:Value}(h:VR K ρ nw (.frz ns) v)(k:∀a items n dd sl,K.lookup a=some ⟨.type "list",dd,.seq items.toArray n,sl⟩->IntsAre items ns->P (.ref a)):P v:=ex5_3 (Ey h) λa items n dd sl e h1 h2=>e▸k a items n dd sl h1 h2
@[elab_as_elim] theorem pq{P:List Value->Prop}{x:V}{xs:List V}{l:List Value}(h:VRs K ρ nw (x::xs) l)(k:∀v vs,VR K ρ nw x v->VRs K ρ nw xs vs->P (v::vs)):P l:=ex2_3 (vU h) λv vs e h1 h2=>e▸k v vs h1 h2
@[elab_as_elim] theorem pt{P:List Value->Prop}{l:List Value}(h:VRs K ρ nw [] l)(k:P []):P l:=vT h▸k
theorem VRs.length:∀{xs:List V}{vs:List Value},VRs K ρ nw xs vs->vs.length=xs.length:=
 λh=>VRs.ind (P:=λxs vs=>vs.length=xs.length) rfl (λ_ _ i=>congrArg (·+1) i) h
theorem VRs.get:∀{xs:List V}{vs:List Value},VRs K ρ nw xs vs->∀{i:Nat}{x:V},xs[i]?=some x->∃v,vs[i]?=some v/\VR K ρ nw x v:=
 λ{_ _} h {i x}=>VRs.ind (P:=λxs vs=>∀(i:Nat) (x:V),xs[i]?=some x->∃v,vs[i]?=some v/\VR K ρ nw x v) (λ_ _ h=>ak h)
  (λa _ ih i=>Wp i (λ_ h=>⟨_,rfl,Option.some.inj h▸a⟩) λi x h=>ih i x h) h i x
theorem VRs.append:∀{xs ys:List V}{vs ws:List Value},VRs K ρ nw xs vs->VRs K ρ nw ys ws->VRs K ρ nw (xs++ys) (vs++ws):=
 λ{_ ys _ ws} h h'=>VRs.ind (P:=λxs vs=>VRs K ρ nw (xs++ys) (vs++ws)) h' (λa _ i=> .cons a i) h
theorem VRs.take:∀(n:Nat) {xs:List V}{vs:List Value},VRs K ρ nw xs vs->VRs K ρ nw (xs.take n) (vs.take n):=
 λn _ _ h=>VRs.ind (P:=λxs vs=>∀n,VRs K ρ nw (xs.take n) (vs.take n)) (λn=>Wp n .nil λ_=> .nil) (λa _ ih n=>Wp n .nil λn=> .cons a (ih n)) h n
theorem VRs.drop:∀(n:Nat) {xs:List V}{vs:List Value},VRs K ρ nw xs vs->VRs K ρ nw (xs.drop n) (vs.drop n):=
 λn _ _ h=>VRs.ind (P:=λxs vs=>∀n,VRs K ρ nw (xs.drop n) (vs.drop n)) (λn=>Wp n .nil λ_=> .nil) (λa b ih n=>Wp n (.cons a b) λn=>ih n) h n
theorem VRs.one{x:V}{v:Value}(h:VR K ρ nw x v):VRs K ρ nw [x] [v]:= .cons h .nil
theorem VRs.set:∀{xs:List V}{vs:List Value}(i:Nat) {x:V}{v:Value},VRs K ρ nw xs vs->VR K ρ nw x v->VRs K ρ nw (xs.set i x) (vs.set i v):=
 λ{_ _} i {x v} h h'=>VRs.ind (P:=λxs vs=>∀i,VRs K ρ nw (xs.set i x) (vs.set i v)) (λ_=> .nil) (λa b ih i=>Wp i (.cons h' b) λi=> .cons a (ih i)) h i
theorem VRs.dropLast{xs:List V}{vs:List Value}(h:VRs K ρ nw xs vs):VRs K ρ nw xs.dropLast vs.dropLast:=by
 rw[Xp,Xp,h.length];exact h.take _
theorem VRs.eraseIdx{xs:List V}{vs:List Value}(i:Nat)(h:VRs K ρ nw xs vs):VRs K ρ nw (xs.eraseIdx i) (vs.eraseIdx i):=by
 rw[Wi,Wi];exact(h.take _).append (h.drop _)
theorem VRs.replicate{x:V}{v:Value}(h:VR K ρ nw x v):∀n,VRs K ρ nw (VE n x) (VE n v)
 |0=> .nil
 |n+1=>by simp only[W3];exact .cons h (VRs.replicate h n)
end
inductive ER(K:Frag)(ρ:Ro)(nw:Nw):List (Str×V)->List DictEntry->Prop
 |nil:ER K ρ nw [] []
 |cons {n:Str}{v:V}{h:Int}{t:Tok}{v':Value}{es:List (Str×V)}{es':List DictEntry}:VR K ρ nw v v'->ER K ρ nw es es'->ER K ρ nw ((n,v)::es) (⟨h,.str n t,v'⟩::es')
noncomputable def rT(P:Params)(k:Value)(h:Int):Prop:=match k with
 | .str x _=>h=PyData.keyHash P x
 | .int i _=>h=hashInt i
 |_=>False
inductive DR(P:Params)(K:Frag)(ρ:Ro)(nw:Nw):List (V×V)->List DictEntry->Prop
 |nil:DR P K ρ nw [] []
 |cons {k v:V}{e:DictEntry}{es:List (V×V)}{es':List DictEntry}:VR K ρ nw k e.key->VR K ρ nw v e.val->rT P e.key e.hash->(∀f∈es,V.keyEq k f.1=false)->DR P K ρ nw es es'->DR P K ρ nw ((k,v)::es) (e::es')
theorem ER.ext{K:Frag}{ρ ρ':Ro}{nw nw':Nw}(x:aG ρ nw ρ' nw'):∀{es:List (Str×V)}{es':List DictEntry},ER K ρ nw es es'->ER K ρ' nw' es es':=
 λh=>ER.rec (motive:=λes es' _=>ER K ρ' nw' es es') .nil (λh _ i=> .cons (h.ext x) i) h
theorem DR.ext{P:Params}{K:Frag}{ρ ρ':Ro}{nw nw':Nw}(x:aG ρ nw ρ' nw'):∀{es:List (V×V)}{es':List DictEntry},DR P K ρ nw es es'->DR P K ρ' nw' es es':=
 λh=>DR.rec (motive:=λes es' _=>DR P K ρ' nw' es es') .nil (λh1 h2 h3 h4 _ i=> .cons (h1.ext x) (h2.ext x) h3 h4 i) h
theorem DR.length{P:Params}{K:Frag}{ρ:Ro}{nw:Nw}:∀{es:List (V×V)}{es':List DictEntry},DR P K ρ nw es es'->es'.length=es.length:=
 λh=>DR.rec (motive:=λes es' _=>es'.length=es.length) rfl (λ_ _ _ _ _ i=>congrArg (·+1) i) h
inductive OR(P:Params)(K:Frag)(ρ:Ro)(nw:Nw):O->Addr×Addr->Prop
 |list {xs:List V}{a:Addr}{items:List Value}{n:Nat}:(a,W.listOf items.toArray n)∈nw->VRs K ρ nw xs items->OR P K ρ nw (.list xs) (a,a)
 |dict {es:List (V×V)}{ep:Option Nat}{a:Addr}{es':List DictEntry}{n:Nat}:(a,dictOf es' n)∈nw->DR P K ρ nw es es'->(∀e,ep=some e->n=e)->OR P K ρ nw (.dict es ep) (a,a)
 |inst {C:Addr}{es:List (Str×V)}{a dx:Addr}{es':List DictEntry}{n:Nat}:(a,instObj C dx)∈nw->(dx,dictOf es' n)∈nw->ER K ρ nw es es'->OR P K ρ nw (.inst C es) (a,dx)
structure dL(P:Params)(K:Frag)(ρ:Ro)(nw:Nw)(H:Hp):Prop where
 len:ρ.length=H.length
 obj:∀(k:Nat) (o:O) (p:Addr×Addr),H[k]?=some o->ρ[k]?=some p->OR P K ρ nw o p
 apart:∀(j k:Nat) (p q:Addr×Addr),j≠k->ρ[j]?=some p->ρ[k]?=some q->p.1≠q.1/\p.1≠q.2/\p.2≠q.1/\p.2≠q.2
 nodup:(nw.map (·.1)).Nodup
theorem dL.at{P:Params}{K:Frag}{ρ:Ro}{nw:Nw}{H:Hp}(R:dL P K ρ nw H){k:Nat}{o:O}(h:H[k]?=some o):∃p,ρ[k]?=some p/\OR P K ρ nw o p:=by
 refine ex1_1 (List.getElem?_eq_some_iff.mp h) λhk _=>?_
 have hk':k<ρ.length:=R.len▸hk
 exact⟨ρ[k],by simp[hk'],R.obj k o _ h (by simp[hk'])⟩
theorem pu{ρ:Ro}{k:Nat}{p:Addr×Addr}(h:ρ[k]?=some p):bA ρ p.1/\bA ρ p.2:=⟨⟨p,Vb h,.inl rfl⟩,⟨p,Vb h,.inr rfl⟩⟩
theorem vW{nw:Nw}(h:(nw.map (·.1)).Nodup){p q:Addr×Obj}(hp:p∈nw)(hq:q∈nw)(e:p.1=q.1):p=q:=X.key_unique h hp hq e
theorem dL.owned{P:Params}{K:Frag}{ρ:Ro}{nw:Nw}{H:Hp}(R:dL P K ρ nw H){a:Addr}(h:bA ρ a):(∃items n,(a,W.listOf items n)∈nw)∨(∃es n,(a,dictOf es n)∈nw)∨(∃C dx,(a,instObj C dx)∈nw):=by
 refine bZ λgP gh=>?_
 refine ex1_2 (h) λq hq e=>?_
 obtain⟨k,hk,rfl⟩:=WC hq
 refine gh ?_;clear gh gP
 have hk':k<H.length:=R.len▸hk
 have o:=R.obj k H[k] ρ[k] (by simp[hk']) (by simp[hk])
 revert o e
 generalize ρ[k]=q
 generalize H[k]=o
 intro e o
 cases o with
 |list h _=>rcases e with rfl|rfl<;>exact .inl ⟨_,_,h⟩
 |dict h _ _=>rcases e with rfl|rfl<;>exact .inr (.inl ⟨_,_,h⟩)
 |inst h h' _=>rcases e with rfl|rfl;exact .inr (.inr ⟨_,_,h⟩);exact .inr (.inl ⟨_,_,h'⟩)
noncomputable def bt(nw:Nw)(a:Addr)(o:Obj):Nw:=nw.map λp=>if p.1=a then(a,o)else p
theorem jQ{a:Addr}{o o':Obj}:∀{nw:Nw},(nw.map (·.1)).Nodup->(a,o)∈nw->Upd a o o' nw (bt nw a o')
 |p::r,hn,h=>by
  rw[Vi,VV]at hn
  by_cases e:p.1=a
  ·have hp:p=(a,o):=by
    rcases List.mem_cons.mp h with h|h
    ·exact h.symm
    ·exact absurd (e▸V4 h:p.1∈r.map (·.1)) hn.1
   subst hp
   have hr:∀p∈r,p.1≠a:=λp hp q=>hn.1 (List.mem_map.mpr ⟨p,hp,q⟩)
   have:bt ((a,o)::r) a o'=(a,o')::r:=by
    unfold bt
    rw[Vi,if_pos rfl]
    congr 1
    conv=>rhs;rw[←WO r]
    exact Xz λp hp=>if_neg (hr p hp)
   rw[this]
   exact .head hr
  ·have:bt (p::r) a o'=p::bt r a o':=by
    unfold bt
    rw[Vi,if_neg e]
   rw[this]
   refine .tail e (jQ hn.2 ?_)
   rcases List.mem_cons.mp h with h|h
   ·exact absurd (by rw[←h]) e
   ·exact h
theorem jR(nw:Nw)(a:Addr)(o:Obj):(bt nw a o).map (·.1)=nw.map (·.1):=by
 unfold bt
 rw[Wg]
 refine Xz λp _=>?_
 show(if p.1=a then(a,o)else p).1=p.1
 split
 ·rename_i h;exact h.symm
 ·rfl
theorem gC{nw:Nw}{a:Addr}{o:Obj}{p:Addr×Obj}(h:p∈nw)(e:p.1≠a):p∈bt nw a o:=
 List.mem_map.mpr ⟨p,h,if_neg e⟩
theorem eK{nw:Nw}{a:Addr}{o o':Obj}(h:(a,o)∈nw):(a,o')∈bt nw a o':=
 List.mem_map.mpr ⟨(a,o),h,if_pos rfl⟩
theorem EA{ρ:Ro}{p:Addr×Addr}{a:Addr}:bA (ρ++[p]) a↔bA ρ a∨a=p.1∨a=p.2:=by
 constructor
 ·intro hI3
  refine ex1_2 hI3 λq hq e=>?_
  rcases List.mem_append.mp hq with h|h
  ·exact .inl ⟨q,h,e⟩
  ·rw[Ve]at h;subst h;exact .inr e
 ·rintro (⟨q,hq,e⟩|e)
  ·exact⟨q,VD _ hq,e⟩
  ·exact⟨p,VM _ (List.mem_singleton.mpr rfl),e⟩
section
variable{P:Params}{K:Frag}{ρ:Ro}{nw:Nw}{H:Hp}
theorem OR.ext{ρ':Ro}{nw':Nw}(x:aG ρ nw ρ' nw'){o:O}{p:Addr×Addr}(h:OR P K ρ nw o p)(h1:∀q∈nw,q.1=p.1∨q.1=p.2->q∈nw'):OR P K ρ' nw' o p:=by
 cases h with
 |list h hs=>exact .list (h1 _ h (.inl rfl)) (hs.ext x)
 |dict h hs e=>exact .dict (h1 _ h (.inl rfl)) (hs.ext x) e
 |inst h h' hs=>exact .inst (h1 _ h (.inl rfl)) (h1 _ h' (.inr rfl)) (hs.ext x)
theorem aG.more(more:Nw)(_fresh:∀p∈more,∀q∈nw,q.1≠p.1):aG ρ nw ρ (more++nw):=⟨λ_ _ h=>h,λ_ h n=>⟨VM _ h,n⟩⟩
theorem dL.more(R:dL P K ρ nw H)(more:Nw)(fresh:∀p∈more,∀q∈nw,q.1≠p.1)(hn:(more.map (·.1)).Nodup):dL P K ρ (more++nw) H:=by
 refine⟨R.len,λk o p h h'=>(R.obj k o p h h').ext (aG.more more fresh) λq hq _=>VM _ hq,R.apart,?_⟩
 simp only[VW]
 refine List.nodup_append.mpr ⟨hn,R.nodup,λa ha b hb e=>?_⟩
 refine ex1_2 (List.mem_map.mp ha) λp hp zq2=>?_;subst zq2
 refine ex1_2 (List.mem_map.mp hb) λq hq zq2=>?_;subst zq2
 exact fresh p hp q hq e.symm
theorem dL.new(R:dL P K ρ nw H){o:O}{p:Addr×Addr}{more:Nw}(fresh:∀p∈more,∀q∈nw,q.1≠p.1)(hn:(more.map (·.1)).Nodup)(hp1:p.1∈more.map (·.1))(hp2:p.2∈more.map (·.1))
  (ho:aG ρ nw (ρ++[p]) (more++nw)->OR P K (ρ++[p]) (more++nw) o p):dL P K (ρ++[p]) (more++nw) (H++[o])/\aG ρ nw (ρ++[p]) (more++nw):=by
 have un:∀q∈nw,q.1≠p.1/\q.1≠p.2:=λq hq=>by
  refine ex1_2 (List.mem_map.mp hp1) λa ha ea=>?_
  refine ex1_2 (List.mem_map.mp hp2) λb hb eb=>?_
  exact⟨ea▸fresh a ha q hq,eb▸fresh b hb q hq⟩
 have x:aG ρ nw (ρ++[p]) (more++nw):=⟨λk q h=>by
   refine ex1_1 (List.getElem?_eq_some_iff.mp h) λhk _=>?_
   rw[U4 hk];exact h,
  λq hq n=>⟨VM _ hq,λh=>by
   rcases EA.mp h with h|h|h
   ·exact n h
   ·exact(un q hq).1 h
   ·exact(un q hq).2 h⟩⟩
 have ownIn:∀{a:Addr},bA ρ a->∃q∈nw,q.1=a:=λh=>by
  rcases R.owned h with⟨_,_,h⟩|⟨_,_,h⟩|⟨_,_,h⟩<;>exact⟨_,h,rfl⟩
 have off:∀{q:Addr×Addr},q∈ρ->q.1≠p.1/\q.1≠p.2/\q.2≠p.1/\q.2≠p.2:=λ{q} hq=>by
  refine ex1_2 (ownIn (a:=q.1) ⟨q,hq,.inl rfl⟩) λa ha ea=>?_
  refine ex1_2 (ownIn (a:=q.2) ⟨q,hq,.inr rfl⟩) λb hb eb=>?_
  exact⟨ea▸(un a ha).1,ea▸(un a ha).2,eb▸(un b hb).1,eb▸(un b hb).2⟩
 refine⟨⟨by simp[R.len],λk o' q h h'=>?_,λj k q q' hjk hj hk=>?_,?_⟩,x⟩
 ·by_cases hk:k<ρ.length
  ·rw[U4 (R.len▸hk)]at h
   rw[U4 hk]at h'
   exact(R.obj k o' q h h').ext x λr hr _=>VM _ hr
  ·have hk2:k=ρ.length:=by
    have:=(List.getElem?_eq_some_iff.mp h').1
    simp only[Vs,Wx]at this
    exact nX ‹_› ‹_›
   subst hk2
   rw[Vd (by rw[R.len];exact Vf _),R.len,VZ]at h
   rw[Vd (Vf _),VZ]at h'
   cases h;cases h'
   exact ho x
 ·have one:∀{i:Nat}{q:Addr×Addr},(ρ++[p])[i]?=some q->(i<ρ.length/\ρ[i]?=some q)∨(i=ρ.length/\q=p):=λ{i q} h=>by
   by_cases hi:i<ρ.length
   ·rw[U4 hi]at h;exact .inl ⟨hi,h⟩
   ·have hi2:i=ρ.length:=by
     have:=(List.getElem?_eq_some_iff.mp h).1
     simp only[Vs,Wx]at this
     exact nX ‹_› ‹_›
    subst hi2
    rw[Vd (Vf _),VZ]at h
    cases h;exact .inr ⟨rfl,rfl⟩
  rcases one hj with⟨h1,h2⟩|⟨h1,rfl⟩<;>rcases one hk with⟨h3,h4⟩|⟨h3,rfl⟩
  ·exact R.apart j k q q' hjk h2 h4
  ·exact off (Vb h2)
  ·have z:=off (Vb h4)
   exact⟨z.1.symm,z.2.2.1.symm,z.2.1.symm,z.2.2.2.symm⟩
  ·exact absurd (h1.trans h3.symm) hjk
 ·simp only[VW]
  refine List.nodup_append.mpr ⟨hn,R.nodup,λa ha b hb e=>?_⟩
  refine ex1_2 (List.mem_map.mp ha) λp hp zq2=>?_;subst zq2
  refine ex1_2 (List.mem_map.mp hb) λq hq zq2=>?_;subst zq2
  exact fresh p hp q hq e.symm
theorem dL.change(R:dL P K ρ nw H){k:Nat}{o o':O}{p:Addr×Addr}{a:Addr}{ob ob':Obj}(hk:H[k]?=some o)(hp:ρ[k]?=some p)(ha:a=p.1∨a=p.2)(hm:(a,ob)∈nw)
  (ho:aG ρ nw ρ (bt nw a ob')->OR P K ρ (bt nw a ob') o' p):dL P K ρ (bt nw a ob') (H.set k o')/\aG ρ nw ρ (bt nw a ob'):=by
 have hown:bA ρ a:=by rcases ha with rfl|rfl;exact(pu hp).1;exact(pu hp).2
 have x:aG ρ nw ρ (bt nw a ob'):=⟨λ_ _ h=>h,λq hq n=>⟨gC hq λe=>n (e▸hown),n⟩⟩
 refine⟨⟨by rw[WD];exact R.len,λj o₁ q h h'=>?_,R.apart,by rw[jR];exact R.nodup⟩,x⟩
 by_cases hjk:j=k
 ·subst hjk
  rw[h']at hp;cases hp
  rw[Vl (List.getElem?_eq_some_iff.mp hk).1]at h
  obtain rfl:=Option.some.inj h
  exact ho x
 ·rw[Vn (λe=>hjk e.symm)]at h
  refine(R.obj j o₁ q h h').ext x λr hr e=>gC hr ?_
  have z:=R.apart j k q p hjk h' hp
  rcases e with e|e<;>rcases ha with ha|ha<;>rw[e,ha]
  ·exact z.1
  ·exact z.2.1
  ·exact z.2.2.1
  ·exact z.2.2.2
end
structure Cx where
 prog:Program
 w:World
 A:Around
 A₀:Around
 base:Heap
 outer:List Env
 fenv:Env
 L:Addr
 h₀:Heap
 K:Frag
 mg:Str->Option Value
 mb:Str->Option Value
 g:Array GenState
 d:Drawn
 o:OsState
structure rU(K:Frag)(c:cX):Prop where
 makes:makesIn K c.addr=true
 init:findIn K (.ref c.addr) "__init__"=some (some (.ref c.init))
 initFn:isFn K (.ref c.init)=true
 hasD:hasDictIn K c.addr=true
 setA:findIn K (.ref c.addr) "__setattr__"=some (some (.builtin "object.__setattr__"))
 over:plainOver K c.addr=true
 meth:∀n f,c.meths.lookup n=some f->plainGet K c.addr n=true/\findIn K (.ref c.addr) n=some (some (.ref f))/\isFn K (.ref f)=true/\keepIn K (.ref f)=true
 fld:∀n,c.flds.any (λf=>decide (f=n))=true->plainGet K c.addr n=true/\findIn K (.ref c.addr) n=some none/\takerIn K c.addr n=some none
 keep:keepIn K (.ref c.addr)=true
structure rV(K:Frag)(fns:List (Str×Addr))(clss:List (Str×cX)):Prop where
 fn:∀n a,fns.lookup n=some a->nsIn K mainGlobals n=some (some (.ref a))/\keepIn K (.ref a)=true
 cls:∀n c,clss.lookup n=some c->nsIn K mainGlobals n=some (some (.ref c.addr))/\rU K c
 clsAt:∀c∈clss,rU K c.2
 blt:∀n∈fB,nsIn K mainGlobals n=some none/\bootBuiltins n=some (if n=Str.ofString "len"then .builtin "len"else .type n.toString)
structure Cx.Ok(c:Cx)(T:bf):Prop where
 B:Below c.A₀ c.base c.outer c.h₀
 X:c.K.In c.h₀
 g:c.h₀.Ns mainGlobals c.mg
 b:c.h₀.Ns builtinsNs c.mb
 nolimit:c.h₀.NoLimit
 builtins:∀x:Str,x≠"__name__"->c.mb x=bootBuiltins x
 hA:c.A.frames=some (c.fenv::c.outer)
 hf:c.fenv.frame=some c.L
 hk:c.fenv.scope.kind= .function
 hh:c.A.handled=none
 mods:∃o,c.h₀.get? sysModules=some o
 units:c.A.units<=9700
 K:rV c.K T.fns T.clss
structure St(c:Cx)(m:Str->Option Value)(ρ:Ro)(nw:Nw)(H:Hp)(s:Shared):Prop where
 fr:Fr c.h₀ c.L s.heap m
 ns:News c.h₀ c.L s.heap nw
 rep:dL c.w.params c.K ρ nw H
 g:s.gens=c.g
 d:s.drawn=c.d
 o:s.os=c.o
structure i7(env:Env)(sc:Scope):Prop where
 glob:env.globals=mainGlobals
 blt:env.builtins=builtinsNs
 kind:env.scope.kind= .function
 loc:∀x,sc.names.lookup x=some .local->env.kindOf x=some .local
 cf:∀x,sc.names.lookup x=some .cell∨sc.names.lookup x=some .free->env.kindOf x=some .cell∨env.kindOf x=some .free
 gi:∀x,sc.names.lookup x=some .globalImplicit->env.kindOf x=some .globalImplicit
noncomputable def mR(c:Cx)(env:Env)(m:Str->Option Value)(ρ:Ro)(nw:Nw)(x:Str)(v:Value):Prop:=
 (env.kindOf x=some .local/\env.locals=c.L/\m x=some v)∨
 (env.kindOf x=some .local/\∃o es ep,(env.locals,o)∈nw/\¬bA ρ env.locals/\o.data= .dict es ep/\StrKeys es/\nsFind es x=some v)∨
 ((env.kindOf x=some .cell∨env.kindOf x=some .free)/\∃a o,env.cells.lookup x=some a/\(a,o)∈nw/\¬bA ρ a/\o.data= .cell (some v))
noncomputable def pv(c:Cx)(env:Env)(sc:Scope)(m:Str->Option Value)(ρ:Ro)(nw:Nw)(vars:Z):Prop:=
 ∀x v,ef sc vars x=some v->∃v',VR c.K ρ nw v v'/\mR c env m ρ nw x v'
noncomputable def pz(env:Env)(sc:Scope)(ρ:Ro)(nw:Nw):Prop:=
 ∀x,mH (sc.names.lookup x)=true->∃a o v,env.cells.lookup x=some a/\(a,o)∈nw/\¬bA ρ a/\o.data= .cell v
theorem pz.ext{env:Env}{sc:Scope}{ρ ρ':Ro}{nw nw':Nw}(h:pz env sc ρ nw)(e:aG ρ nw ρ' nw'):pz env sc ρ' nw':=
 λx hx=>let⟨a,o,v,h1,h2,h3,h4⟩:=h x hx;let⟨p,q⟩:=e.keep _ h2 h3;⟨a,o,v,h1,p,q,h4⟩
theorem mR.ext{c:Cx}{env:Env}{m:Str->Option Value}{ρ ρ':Ro}{nw nw':Nw}{x:Str}{v:Value}(e:aG ρ nw ρ' nw'):mR c env m ρ nw x v->mR c env m ρ' nw' x v
 | .inl h=> .inl h
 | .inr (.inl ⟨h,o,es,ep,h1,h2,h3⟩)=>let⟨a,b⟩:=e.keep _ h1 h2; .inr (.inl ⟨h,o,es,ep,a,b,h3⟩)
 | .inr (.inr ⟨h,a,o,h1,h2,h3,h4⟩)=>let⟨x,y⟩:=e.keep _ h2 h3; .inr (.inr ⟨h,a,o,h1,x,y,h4⟩)
theorem pv.ext{c:Cx}{env:Env}{sc:Scope}{m:Str->Option Value}{ρ ρ':Ro}{nw nw':Nw}{vars:Z}(h:pv c env sc m ρ nw vars)(e:aG ρ nw ρ' nw'):pv c env sc m ρ' nw' vars:=
 λx v hx=>let⟨v',a,b⟩:=h x v hx;⟨v',a.ext e,b.ext e⟩
theorem pA{h₀ h:Heap}{L a:Addr}{nw:Nw}{o:Obj}{es:Array DictEntry}{ep:Nat}(N:News h₀ L h nw)(hm:(a,o)∈nw)(hd:o.data= .dict es ep)(hk:StrKeys es):h.Ns a (nsFind es):=
 ⟨o,es,ep,N.get hm,hd,hk,λ_=>rfl⟩
section
variable{c:Cx}{T:bf}{env:Env}{sc:Scope}{m:Str->Option Value}{ρ:Ro}{nw:Nw}{H:Hp}{s:Shared}{vars:Z}{E:Value->Shared->Prop}
theorem vX{x:Str}{pos:Pos}{v':Value}{Q:Value->Shared->Prop}(S:St c m ρ nw H s)(Ev:i7 env sc)(h:mR c env m ρ nw x v')(hb:gX x=false)(q:Q v' s):
  wpAny (model c.prog c.w) c.A (eval (.Name x pos) env) Q E s:=by
 unfold gX at hb
 refine ai (Bool.or_eq_false_iff.mp hb) λb1 b2=>?_
 refine wpAny_Name ?_ b1
 rcases h with⟨hk,hl,hm⟩|⟨hk,o,es,ep,h1,_,h3,h4,h5⟩|⟨hk,a,o,h1,h2,_,h4⟩
 ·exact wpAny_loadName_local Ev.kind hk (hl▸S.fr.ns) hm q
 ·exact wpAny_loadName_local Ev.kind hk (pA S.ns h1 h3 h4) h5 q
 ·rcases hk with hk|hk
  ·exact wpAny_loadName_cell Ev.kind hk h1 ⟨o,S.ns.get h2,h4⟩ q
  ·exact wpAny_loadName_free Ev.kind hk h1 ⟨o,S.ns.get h2,h4⟩ q b2
theorem rW{x:Str}{pos:Pos}{v':Value}{Q:Value->Shared->Prop}(O:c.Ok T)(S:St c m ρ nw H s)(Ev:i7 env sc)(hk:sc.names.lookup x=some .globalImplicit)(h:nsIn c.K mainGlobals x=some (some v'))(hb:gX x=false)(q:Q v' s):
  wpAny (model c.prog c.w) c.A (eval (.Name x pos) env) Q E s:=by
 refine ai (Bool.or_eq_false_iff.mp hb) λb1 b2=>?_
 exact Name_function_global Ev.kind (Ev.gi x hk) (loadGlobal_global (env:=env) (Ev.glob▸O.g.keeps S.fr.keep) (mg_of O.X O.g h) q) b1
theorem vY{x:Str}{pos:Pos}{v':Value}{Q:Value->Shared->Prop}(O:c.Ok T)(S:St c m ρ nw H s)(Ev:i7 env sc)(hk:sc.names.lookup x=some .globalImplicit)(h:nsIn c.K mainGlobals x=some none)(hv:bootBuiltins x=some v')(hn:x≠"__name__")(hb:gX x=false)(q:Q v' s):
  wpAny (model c.prog c.w) c.A (eval (.Name x pos) env) Q E s:=by
 refine ai (Bool.or_eq_false_iff.mp hb) λb1 b2=>?_
 exact Name_function_global Ev.kind (Ev.gi x hk) (loadGlobal_builtin (env:=env) (Ev.glob▸O.g.keeps S.fr.keep) (mg_none_of O.X O.g h) (Ev.blt▸O.b.keeps S.fr.keep) ((O.builtins x hn).trans hv) q) b1
theorem rX{x:Str}(h:jI (sc.names.lookup x)=true):sc.names.lookup x=some .globalImplicit:=by
 revert h
 cases sc.names.lookup x with
 |none=>intro h;cases h
 |some k=>cases k<;>intro h<;>first|rfl|cases h
theorem St.same{s':Shared}(S:St c m ρ nw H s)(hh:s'.heap=s.heap)(hg:s'.gens=s.gens)(hd:s'.drawn=s.drawn)(ho:s'.os=s.os):St c m ρ nw H s':=
 ⟨hh▸S.fr,hh▸S.ns,S.rep,hg.trans S.g,hd.trans S.d,ho.trans S.o⟩
theorem St.toks(S:St c m ρ nw H s)(t:Nat):St c m ρ nw H {s with toks:=t}:=S.same rfl rfl rfl rfl
theorem g9{h₀ h:Heap}{L:Addr}{nw:Nw}(N:News h₀ L h nw):∀q∈nw,q.1≠h.objs.size:=λq hq=>VB (Heap.lt_size (N q hq).1)
theorem St.push(S:St c m ρ nw H s)(o:Obj)(hf:o.isFreed=false):St c m ρ ((s.heap.objs.size,o)::nw) H {s with heap:=s.heap.push o}/\aG ρ nw ρ ((s.heap.objs.size,o)::nw)/\¬bA ρ s.heap.objs.size:=by
 have fresh:∀p∈[(s.heap.objs.size,o)],∀q∈nw,q.1≠p.1:=λp hp q hq=>by rw[Ve]at hp;subst hp;exact g9 S.ns q hq
 refine⟨⟨S.fr.push o,S.ns.push S.fr o hf,S.rep.more [(s.heap.objs.size,o)] fresh (by simp),S.g,S.d,S.o⟩,aG.more [(s.heap.objs.size,o)] fresh,λh=>?_⟩
 rcases S.rep.owned h with⟨_,_,h⟩|⟨_,_,h⟩|⟨_,_,h⟩<;>exact g9 S.ns _ h rfl
theorem St.new1(S:St c m ρ nw H s){ob:Obj}(hf:ob.isFreed=false){o:O}
  (ho:aG ρ nw (ρ++[(s.heap.objs.size,s.heap.objs.size)]) ((s.heap.objs.size,ob)::nw)->OR c.w.params c.K (ρ++[(s.heap.objs.size,s.heap.objs.size)]) ((s.heap.objs.size,ob)::nw) o (s.heap.objs.size,s.heap.objs.size)):
  St c m (ρ++[(s.heap.objs.size,s.heap.objs.size)]) ((s.heap.objs.size,ob)::nw) (H++[o]) {s with heap:=s.heap.push ob}/\aG ρ nw (ρ++[(s.heap.objs.size,s.heap.objs.size)]) ((s.heap.objs.size,ob)::nw):=by
 have fresh:∀p∈[(s.heap.objs.size,ob)],∀q∈nw,q.1≠p.1:=λp hp q hq=>by rw[Ve]at hp;subst hp;exact g9 S.ns q hq
 refine ai (S.rep.new (o:=o) (p:=(s.heap.objs.size,s.heap.objs.size)) (more:=[(s.heap.objs.size,ob)]) fresh (by simp) (by simp) (by simp) ho) λR x=>?_
 exact⟨⟨S.fr.push ob,S.ns.push S.fr ob hf,R,S.g,S.d,S.o⟩,x⟩
theorem ld(a:Addr×Addr)(nw:Nw)(hl:ρ.length=H.length):VR c.K (ρ++[a]) nw (.ref H.length) (.ref a.1):= .ref (p:=a) (by rw[←hl];simp)
end
inductive Pv(c:Cx)(m:Str->Option Value)(ρ:Ro)(nw:Nw)(r:V×Hp)(v':Value)(s':Shared):Prop
 |mk (ρ':Ro) (nw':Nw) (a:VR c.K ρ' nw' r.1 v') (b:St c m ρ' nw' r.2 s') (d:aG ρ nw ρ' nw')
inductive EB(c:Cx)(ρ:Ro)(nw:Nw)(k:Nat)(xs:List V)(o':Value):Prop
 |mk (a:Addr) (items:List Value) (n:Nat) (e:o'= .ref a) (p:ρ[k]?=some (a,a)) (q:(a,W.listOf items.toArray n)∈nw) (r:VRs c.K ρ nw xs items)
inductive DictAt(c:Cx)(ρ:Ro)(nw:Nw)(k:Nat)(es:List (V×V))(ep:Option Nat)(o':Value):Prop
 |mk (a:Addr) (es':List DictEntry) (n:Nat) (e:o'= .ref a) (p:ρ[k]?=some (a,a)) (q:(a,dictOf es' n)∈nw) (r:DR c.w.params c.K ρ nw es es') (t:∀e,ep=some e->n=e)
inductive EC(c:Cx)(ρ:Ro)(nw:Nw)(k:Nat)(C:Addr)(es:List (Str×V))(o':Value):Prop
 |mk (a dx:Addr) (es':List DictEntry) (n:Nat) (e:o'= .ref a) (p:ρ[k]?=some (a,dx)) (q:(a,instObj C dx)∈nw) (q':(dx,dictOf es' n)∈nw) (r:ER c.K ρ nw es es')
inductive ED{α β:Type}(p:M α)(f:α->M β)(H:Hp)(r:β×Hp):Prop
 |mk (q:α×Hp) (a:p H=some q) (b:f q.1 q.2=some r)
inductive EE{β:Type}(k:Nat)(f:O->M β)(H:Hp)(r:β×Hp):Prop
 |mk (o:O) (a:H[k]?=some o) (b:f o H=some r)
section
variable{c:Cx}{T:bf}{m:Str->Option Value}{ρ:Ro}{nw:Nw}{H:Hp}{s:Shared}{E:Value->Shared->Prop}
theorem EF{P:Params}{K:Frag}{xs:List V}{q:Addr×Addr}(h:OR P K ρ nw (.list xs) q):∃a items n,q=(a,a)/\(a,W.listOf items.toArray n)∈nw/\VRs K ρ nw xs items:=by
 cases h with
 |list h1 h2=>exact⟨_,_,_,rfl,h1,h2⟩
theorem EG{P:Params}{K:Frag}{es:List (V×V)}{ep:Option Nat}{q:Addr×Addr}(h:OR P K ρ nw (.dict es ep) q):∃a es' n,q=(a,a)/\(a,dictOf es' n)∈nw/\DR P K ρ nw es es'/\(∀e,ep=some e->n=e):=by
 cases h with
 |dict h1 h2 h3=>exact⟨_,_,_,rfl,h1,h2,h3⟩
theorem EH{P:Params}{K:Frag}{C:Addr}{es:List (Str×V)}{q:Addr×Addr}(h:OR P K ρ nw (.inst C es) q):∃a dx es' n,q=(a,dx)/\(a,instObj C dx)∈nw/\(dx,dictOf es' n)∈nw/\ER K ρ nw es es':=by
 cases h with
 |inst h1 h2 h3=>exact⟨_,_,_,_,rfl,h1,h2,h3⟩
theorem St.listAt(S:St c m ρ nw H s){k:Nat}{xs:List V}(h:H[k]?=some (.list xs)){o':Value}(hv:VR c.K ρ nw (.ref k) o'):EB c ρ nw k xs o':=
 ex1_2 (rR hv) λp e hp=>ex3_3 (EF (S.rep.obj k _ p h hp)) λa items n e2 hm hs=>⟨a,items,n,e.trans (e2▸rfl),e2▸hp,hm,hs⟩
theorem St.dictAt(S:St c m ρ nw H s){k:Nat}{es:List (V×V)}{ep:Option Nat}(h:H[k]?=some (.dict es ep)){o':Value}(hv:VR c.K ρ nw (.ref k) o'):DictAt c ρ nw k es ep o':=
 ex1_2 (rR hv) λp e hp=>ex3_4 (EG (S.rep.obj k _ p h hp)) λa es' n e2 hm hs he=>⟨a,es',n,e.trans (e2▸rfl),e2▸hp,hm,hs,he⟩
theorem St.instAt(S:St c m ρ nw H s){k:Nat}{C:Addr}{es:List (Str×V)}(h:H[k]?=some (.inst C es)){o':Value}(hv:VR c.K ρ nw (.ref k) o'):EC c ρ nw k C es o':=
 ex1_2 (rR hv) λp e hp=>ex4_4 (EH (S.rep.obj k _ p h hp)) λa dx es' n e2 h1 h2 h3=>⟨a,dx,es',n,e.trans (e2▸rfl),e2▸hp,h1,h2,h3⟩
theorem St.isList(S:St c m ρ nw H s){a:Addr}{its:Array Value}{n:Nat}(h:(a,W.listOf its n)∈nw):s.heap.IsList a its:=⟨_,S.ns.get h,rfl,n,rfl⟩
theorem mS(O:c.Ok T)(S:St c m ρ nw H s){a:Addr}{o:Obj}(h:c.K.lookup a=some o):s.heap.get? a=some o:=S.fr.keep _ _ (O.X _ _ h)
theorem St.isTup(S:St c m ρ nw H s)(O:c.Ok T){a:Addr}{items:List Value}(h:fD c.K ρ nw a items):IsTup s.heap a items.toArray:=by
 rcases h with⟨h,_⟩|⟨n,h⟩
 ·exact⟨_,S.ns.get h,rfl,0,rfl⟩
 ·exact⟨_,mS O S h,rfl,n,rfl⟩
set_option tactic.hygienic true in
theorem EI{k:Nat}{r:O×Hp}(h:cC k H=some r):H[k]?=some r.1/\r.2=H:=by
 unfold cC at h
 split at h
 ·rename_i o ho;cases h;exact⟨ho,rfl⟩
 ·exact ak h
set_option tactic.hygienic true in
theorem bind_some{α β:Type}{p:M α}{f:α->M β}{r:β×Hp}(h:UX p f H=some r):ED p f H r:=by
 unfold UX at h
 split at h
 ·exact ak h
 ·rename_i q hq;exact⟨q,hq,h⟩
theorem dM{β:Type}{k:Nat}{f:O->M β}{r:β×Hp}(h:UX (cC k) f H=some r):EE k f H r:=by
 obtain⟨q,hq,h⟩:=bind_some h
 refine ai (EI hq) λh1 h2=>?_
 exact⟨q.1,h1,h2▸h⟩
theorem rY{α:Type}{o:Option α}{r:α×Hp}(h:gW o H=some r):o=some r.1/\r.2=H:=by
 unfold gW at h
 cases o with
 |none=>exact ak h
 |some a=>cases h;exact⟨rfl,rfl⟩
theorem eL{α:Type}{v:V}{f:Int->M α}{r:α×Hp}(h:cw v f H=some r):∃i,v= .int i/\f i H=some r:=by cases v<;>first|exact⟨_,rfl,h⟩|exact ak h
theorem pB{α:Type}{v:V}{f:Str->M α}{r:α×Hp}(h:mw v f H=some r):∃i,v= .str i/\f i H=some r:=by cases v<;>first|exact⟨_,rfl,h⟩|exact ak h
theorem vZ{α:Type}{v:V}{f:List V->M α}{r:α×Hp}(h:rx v f H=some r):∃i,v= .tup i/\f i H=some r:=by cases v<;>first|exact⟨_,rfl,h⟩|exact ak h
theorem i8{α:Type}{v:V}{f:Nat->M α}{r:α×Hp}(h:ed v f H=some r):∃i,v= .ref i/\f i H=some r:=by cases v<;>first|exact⟨_,rfl,h⟩|exact ak h
theorem gD{α β:Type}{xs:List β}{f:β->M α}{r:α×Hp}(h:eS xs f H=some r):∃y,xs=[y]/\f y H=some r:=by
 cases xs with
 |nil=>exact ak h
 |cons y ys=>cases ys with
  |nil=>exact⟨y,rfl,h⟩
  |cons _ _=>exact ak h
theorem v_{α:Type}{xs:List V}{f:M α}{r:α×Hp}(h:ry xs f H=some r):xs=[]/\f H=some r:=by
 cases xs with
 |nil=>exact⟨rfl,h⟩
 |cons _ _=>exact ak h
theorem wa{α:Type}{xs:List V}{f:V->V->M α}{r:α×Hp}(h:rz xs f H=some r):∃x y,xs=[x,y]/\f x y H=some r:=by
 cases xs with
 |nil=>exact ak h
 |cons x ys=>exact ex1_2 (gD h) λy e h=>⟨x,y,e▸rfl,h⟩
theorem d5{α β:Type}{o:Option α}{f:α->M β}{r:β×Hp}(h:cU o f H=some r):∃x,o=some x/\f x H=some r:=by
 cases o with
 |none=>exact ak h
 |some x=>exact⟨x,rfl,h⟩
theorem i9{α β:Type}{H0:β}{p:Prop} [d:Decidable p]{A B:β->Option α}{r:Option α}{G:Prop}(ht:p->A H0=r->G)(hf:¬p->B H0=r->G)(h:(if p then A else B) H0=r):G:=by
 cases d with
 |isTrue k=>exact ht k h
 |isFalse k=>exact hf k h
theorem wb{α β:Type}{o:Option α}{f:M β}{r:β×Hp}(h:rB o f H=some r):o=none/\f H=some r:=by
 cases o with
 |none=>exact⟨rfl,h⟩
 |some _=>exact ak h
theorem EJ{α:Type}{v:V}{f:Bool->M α}{r:α×Hp}(h:vA v f H=some r):∃i,v= .bool i/\f i H=some r:=by cases v<;>first|exact⟨_,rfl,h⟩|exact ak h
theorem rZ{α:Type}{v:O}{f:List V->M α}{r:α×Hp}(h:jD v f H=some r):∃i,v= .list i/\f i H=some r:=by cases v<;>first|exact⟨_,rfl,h⟩|exact ak h
theorem pC{α:Type}{v:O}{f:List (V×V)->M α}{r:α×Hp}(h:kL v f H=some r):∃i ep,v= .dict i ep/\f i H=some r:=by cases v<;>first|exact⟨_,_,rfl,h⟩|exact ak h
theorem gE{α:Type}{k:Nat}{f:List V->M α}{r:α×Hp}(h:eR k f H=some r):∃xs,H[k]?=some (.list xs)/\f xs H=some r:=by
 obtain⟨o,ho,h⟩:=dM h
 cases o<;>first|exact⟨_,ho,h⟩|exact ak h
theorem bW{α:Type}{a:α}{r:α×Hp}(h:UZ a H=some r):r=(a,H):=by cases h;rfl
theorem lf{i:Int}(h:small i=true): -1000000<=i/\i<=1000000:=by
 unfold small at h
 simpa using h
theorem wc{i:Int}{n j:Nat}(h:eQ i n=some j):j<n/\((0<=i/\i.toNat=j/\i<n)∨(i<0/\(i+n).toNat=j/\0<=i+n)):=by
 unfold eQ at h
 split at h
 ·split at h
  ·cases h;lia
  ·exact ak h
 ·split at h
  ·cases h;lia
  ·exact ak h
theorem we{i:Int}{n j:Nat}(h:eQ i n=some j):seqIndex? i n=some j:=by
 have e:∀x:Int,0<=x->x<n->x.toNat=j->(if(decide (0<=x)&&decide (x<(n:Int)))=true then some x.toNat else none)=some j:=λx h1 h2 h3=>by simp[h1,h2,h3]
 obtain⟨h1,⟨h2,h3,h4⟩|⟨h2,h3,h4⟩⟩:=wc h
 ·have:(if i<0 then i+(n:Int)else i)=i:=if_neg (by lia)
  unfold seqIndex?
  refine er (this ..) ?_
  exact e i h2 h4 h3
 ·have:(if i<0 then i+(n:Int)else i)=i+n:=if_pos ‹_›
  unfold seqIndex?
  refine er (this ..) ?_
  exact e _ h4 (by lia) h3
theorem EK:∀{vs:List Value}{ns:List Int},IntsAre vs ns->∀{i:Nat}{n:Int},ns[i]?=some n->∃t,vs[i]?=some (.int n t):=
 λ{_ _} h {i n}=>IntsAre.rec (motive:=λvs ns _=>∀i:Nat,ns[i]?=some n->∃t,vs[i]?=some (.int n t)) (λ_ h=>ak h)
  (λm t _ _ _ ih i=>Wp i (λh=>⟨t,Option.some.inj h▸rfl⟩) λi h=>ih i h) h i
theorem St.changed(S:St c m ρ nw H s){h':Heap}{k:Nat}{o o':O}{p:Addr×Addr}{a:Addr}{ob ob':Obj}(hk:H[k]?=some o)(hp:ρ[k]?=some p)(ha:a=p.1∨a=p.2)(hm:(a,ob)∈nw)
  (F':Fr c.h₀ c.L h' m) (N':News c.h₀ c.L h' (bt nw a ob')) (ho:aG ρ nw ρ (bt nw a ob')->OR c.w.params c.K ρ (bt nw a ob') o' p) (t:Nat):
  St c m ρ (bt nw a ob') (H.set k o') {s with heap:=h',toks:=t}/\aG ρ nw ρ (bt nw a ob'):=
 let⟨R,x⟩:=S.rep.change hk hp ha hm ho
 ⟨⟨F',N',R,S.g,S.d,S.o⟩,x⟩
theorem wg{h₀ h h':Heap}{L a:Addr}{ob ob':Obj}(N:News h₀ L h nw)(hn:(nw.map (·.1)).Nodup)(hm:(a,ob)∈nw)(hs:Heap.SameBut a h h')(hg:h'.get? a=some ob'):News h₀ L h' (bt nw a ob'):=by
 refine ex2_4 ((jQ (o':=ob') hn hm).split) λpre post e1 e2 a1 b1=>?_
 refine er (e2 ..) ?_
 rw[e1]at N
 exact N.setIn a1 b1 hs hg
theorem St.change(S:St c m ρ nw H s){h':Heap}{k:Nat}{o o':O}{p:Addr×Addr}{a:Addr}{ob ob':Obj}(hk:H[k]?=some o)(hp:ρ[k]?=some p)(ha:a=p.1∨a=p.2)(hm:(a,ob)∈nw)
  (hs:Heap.SameBut a s.heap h') (hg:h'.get? a=some ob') (ho:aG ρ nw ρ (bt nw a ob')->OR c.w.params c.K ρ (bt nw a ob') o' p) (t:Nat):
  St c m ρ (bt nw a ob') (H.set k o') {s with heap:=h',toks:=t}/\aG ρ nw ρ (bt nw a ob'):=
 have z:=S.ns _ hm
 S.changed hk hp ha hm (S.fr.change hs z.2.1 z.2.2) (wg S.ns S.rep.nodup hm hs hg) ho t
theorem jS{k:V}(h:V.isKeyInt k=true):∃i,k= .int i:=by cases k<;>first|exact⟨_,rfl⟩|(exact absurd h (by simp[V.isKeyInt]))
theorem lg{k:V}(h:V.isKeyStr k=true):∃i,k= .str i:=by cases k<;>first|exact⟨_,rfl⟩|(exact absurd h (by simp[V.isKeyStr]))
theorem wh(i:Int)(t:Tok):Value.isInt i (.int i t)=true:=by simp[Value.isInt]
theorem wi(x:Str)(t:Tok):Value.isStrOf x (.str x t)=true:=by simp[Value.isStrOf]
theorem g_(prog:Program){w:World}{es:List (V×V)}{es':List DictEntry}(hd:DR c.w.params c.K ρ nw es es')(hk:(es.all λe=>V.isKeyInt e.1)=true):KeysOf (PySem.intKind prog w) es'.toArray:=by
 intro e he
 rw[XN]at he
 induction hd with
 |nil=>cases he
 | @cons k v e' es es' h1 h2 h3 h4 hs ih=>
  simp only[VL,U2]at hk
  rcases List.mem_cons.mp he with rfl|he
  ·cases k<;>first|(cases hk.1;done)|skip
   rename_i i
   revert h3
   generalize e.key=q at h1
   refine ex1_1 (cV h1) λ_ zq=>?_;subst zq
   intro h3
   exact⟨i,wh i 0,h3⟩
  ·exact ih hk.2 he
set_option tactic.hygienic true in
theorem jT(prog:Program){es:List (V×V)}{es':List DictEntry}(hd:DR c.w.params c.K ρ nw es es')(hk:(es.all λe=>V.isKeyStr e.1)=true):KeysOf (PySem.strKind prog c.w) es'.toArray:=by
 intro e he
 rw[XN]at he
 induction hd with
 |nil=>cases he
 | @cons k v e' es es' h1 h2 h3 h4 hs ih=>
  simp only[VL,U2]at hk
  rcases List.mem_cons.mp he with rfl|he
  ·cases k<;>first|(cases hk.1;done)|skip
   rename_i i
   revert h3
   generalize e.key=q at h1
   refine ex1_1 (eh h1) λ_ zq=>?_;subst zq
   intro h3
   exact⟨i,wi i 0,h3⟩
  ·exact ih hk.2 he
theorem wj{k:V}{i:Int}{q:Value}(h:VR c.K ρ nw k q)(hk:V.isKeyInt k=true):Value.isInt i q=V.keyEq k (.int i):=by
 cases h<;>first|(cases hk;done)|skip
 dsimp only[Value.isInt,V.keyEq]
 rfl
theorem r7{k:V}{i:Str}{q:Value}(h:VR c.K ρ nw k q)(hk:V.isKeyStr k=true):Value.isStrOf i q=V.keyEq k (.str i):=by
 cases h<;>first|(cases hk;done)|skip
 dsimp only[Value.isStrOf,V.keyEq]
 rfl
inductive ej(K:Frag)(ρ:Ro)(nw:Nw):Option V->Option Value->Prop
 |none:ej K ρ nw .none .none
 |some {v:V}{v':Value}:VR K ρ nw v v'->ej K ρ nw (.some v) (.some v')
theorem ej.some_inv{K:Frag}{ρ:Ro}{nw:Nw}{v:V}{q:Option Value}(h:ej K ρ nw (.some v) q):∃v',q= .some v'/\VR K ρ nw v v':=by
 cases h with
 |some h=>exact⟨_,rfl,h⟩
theorem wl{P:DictEntry->Bool}{k:V}{es:List (V×V)}{es':List DictEntry}(hd:DR c.w.params c.K ρ nw es es')
  (hk:∀e∈es,∀q,VR c.K ρ nw e.1 q->∀h v,P ⟨h,q,v⟩=V.keyEq e.1 k):ej c.K ρ nw (bo k es) ((es'.find? P).map (·.val)):=by
 induction hd with
 |nil=>exact .none
 | @cons k' v e' es es' h1 h2 h3 h4 hs ih=>
  have e:=hk _ (U3 ..) _ h1 e'.hash e'.val
  unfold bo
  simp only[VF,VF]
  simp only[show P e'=V.keyEq k' k from e]
  cases V.keyEq k' k with
  |true=>exact .some h2
  |false=>exact ih λe he=>hk e (U7 _ he)
theorem r9{es:List (V×V)}{es':List DictEntry}{i:Int}(hd:DR c.w.params c.K ρ nw es es')(hk:(es.all λe=>V.isKeyInt e.1)=true):ej c.K ρ nw (bo (.int i) es) (findBy Value.isInt es'.toArray i):=by
 have:=wl (P:=λe=>Value.isInt i e.key) (k:= .int i) hd λe he q hq h v=>wj hq (List.all_eq_true.mp hk e he)
 simpa[findBy]using this
theorem r_{es:List (V×V)}{es':List DictEntry}{i:Str}(hd:DR c.w.params c.K ρ nw es es')(hk:(es.all λe=>V.isKeyStr e.1)=true):ej c.K ρ nw (bo (.str i) es) (findBy Value.isStrOf es'.toArray i):=by
 have:=wl (P:=λe=>Value.isStrOf i e.key) (k:= .str i) hd λe he q hq h v=>r7 hq (List.all_eq_true.mp hk e he)
 simpa[findBy]using this
theorem i_(S:St c m ρ nw H s){K:Type} [DecidableEq K]{knd:PySem.KeyKind c.prog c.w K}{a:Addr}{es':List DictEntry}{n:Nat}(h:(a,dictOf es' n)∈nw)(hk:KeysOf knd es'.toArray):s.heap.MapOf knd a (findBy knd.is es'.toArray):=
 ⟨_,es'.toArray,n,S.ns.get h,⟨rfl,rfl,rfl⟩,rfl,hk,λ_=>rfl⟩
noncomputable def lh(c:Cx)(m:Str->Option Value)(ρ:Ro)(nw:Nw)(s:Shared)(E:Value->Shared->Prop)(o' i':Value)(r:V×Hp):Prop:=
 (∃t id,s.TypeIs o' t/\typeLookup (Value.type t) (Str.ofString "__getitem__")=pure (some (Value.builtin id)))/\wpAny (model c.prog c.w) c.A (getItem o' i') (Pv c m ρ nw r) E s
theorem St.fin(S:St c m ρ nw H s){v:V}{v':Value}{r:V×Hp}(t:Nat)(hv:VR c.K ρ nw v v')(e:r=(v,H)):Pv c m ρ nw r v' {s with toks:=t}:=e▸⟨ρ,nw,hv,S.toks t,.refl⟩
theorem St.fin0(S:St c m ρ nw H s){v:V}{v':Value}{r:V×Hp}(hv:VR c.K ρ nw v v')(e:r=(v,H)):Pv c m ρ nw r v' s:=e▸⟨ρ,nw,hv,S,.refl⟩
theorem pD{α:Type}{o:Option α}{r:α×Hp}(h:gW o H=some r):∃x,o=some x/\r=(x,H):=ai (rY h) λh1 h2=>⟨r.1,h1,h2▸rfl⟩
theorem wm{xs:List V}{i:V}{r:V×Hp}(e:kM xs i H=some r):∃n j x,i= .int n/\small n=true/\eQ n xs.length=some j/\xs[j]?=some x/\r=(x,H):=
 ex1_2 (eL e) λn e1 e=>ai (bg e) λhs e=>ex1_2 (pD e) λx e2 e=>ex1_2 (Option.bind_eq_some_iff.mp e2) λj hj e2=>⟨n,j,x,e1,hs,hj,e2,e⟩
section
variable{o' i':Value}{r:V×Hp}
theorem EL{xs:List V}{i:V}(O:c.Ok T)(S:St c m ρ nw H s)(ho:VR c.K ρ nw (.tup xs) o')(hi:VR c.K ρ nw i i')(e:kM xs i H=some r):lh c m ρ nw s E o' i' r:=by
 refine ex3_5 (wm e) λn j x zq hsm hj hx e9=>?_
 clear e;subst zq;refine ei hi λ_=>?_
 refine mQ ho λ_ _ ht hs=>?_
 refine ai (lf hsm) λb1 b2=>?_
 refine ex1_2 (hs.get hx) λv' hv' hv=>?_
 have hT:=S.isTup O ht
 refine⟨⟨_,_,hT.typeIs,slot_tuple_getitem.lookup⟩,?_⟩
 refine getItem_tuple hT (by lia) (by lia) (j:=j) (x:=v') ?_ (by simpa using hv') (S.fin0 hv e9)
 refine er (VC ..) (er (hs.length ..) ?_)
 exact we hj
theorem EM{xs:List Int}{i:Int}(O:c.Ok T)(S:St c m ρ nw H s)(ho:VR c.K ρ nw (.frz xs) o')(hi:VR c.K ρ nw (.int i) i')(hsm:small i=true/\0<=i)(e:gW ((xs[i.toNat]?).map .int) H=some r):lh c m ρ nw s E o' i' r:=by
 refine ei hi λ_=>?_
 refine vV ho λ_ _ _ _ _ hl hs=>?_
 refine ai (lf hsm.1) λb1 b2=>?_
 refine ex1_2 (pD e) λx e1 e=>?_
 refine ex1_2 (Option.map_eq_some_iff.mp e1) λn hn e1=>?_
 have hL:s.heap.IsList _ _:=⟨_,mS O S hl,rfl,_,rfl⟩
 refine ex1_1 (EK hs hn) λt ht=>?_
 refine⟨⟨_,_,hL.typeIs,slot_list_getitem.lookup⟩,?_⟩
 exact wpAny_getItem_list hL hsm.2 (by lia) (x:= .int n t) (by simpa using ht) (S.fin0 (e1▸ .int _ _) e)
theorem EN{x:Str}{i:Int}(S:St c m ρ nw H s)(ho:VR c.K ρ nw (.str x) o')(hi:VR c.K ρ nw (.int i) i')(hz:small i=true)(hsm:0<=i/\i<x.cps.size)(e:r=(.str ⟨#[x.cps.getD i.toNat 0]⟩,H)):lh c m ρ nw s E o' i' r:=by
 refine ei hi λ_=>?_
 refine iK ho λt=>?_
 refine ai (lf hz) λb1 b2=>?_
 have hlt:i.toNat<x.cps.size:=by omega
 refine⟨⟨_,_,typeIs_str _ _ _,F.slot_str_getitem.lookup⟩,?_⟩
 refine getItem_str (c:=x.cps.getD i.toNat 0) ?_ ?_ (S.fin _ (.str _ _) e)
 ·simp;omega
 ·refine er ((show seqIndex? i x.length=some i.toNat from we (by unfold eQ;refine er (if_pos hsm.1 ..) ?_;exact if_pos hsm.2)) ..) ?_
  simp[Array.getD,hlt]
theorem EO{k:Nat}{xs:List V}{i:V}(S:St c m ρ nw H s)(hob:H[k]?=some (.list xs))(ho:VR c.K ρ nw (.ref k) o')(hi:VR c.K ρ nw i i')(e:kM xs i H=some r):lh c m ρ nw s E o' i' r:=by
 refine ex3_5 (wm e) λn j x zq hsm hj hx e9=>?_
 clear e;subst zq;refine ei hi λ_=>?_
 refine ai (lf hsm) λb1 b2=>?_
 obtain⟨a,items,n,rfl,hp,hm,hs⟩:=S.listAt hob ho
 refine ex1_2 (hs.get hx) λv' hv' hv=>?_
 have hL:=S.isList hm
 have hz:(items.toArray.size:Int)=xs.length:=by refine er (VC ..) (er (hs.length ..) rfl)
 refine⟨⟨_,_,hL.typeIs,slot_list_getitem.lookup⟩,?_⟩
 obtain⟨h1,⟨h2,h3,h4⟩|⟨h2,h3,h4⟩⟩:=wc hj
 ·exact wpAny_getItem_list hL h2 (by lia) (x:=v') (by refine er (h3 ..) ?_;simpa using hv') (S.fin0 hv e9)
 ·exact wpAny_getItem_list_neg hL h2 (by lia) (by lia) (x:=v') (by refine er (hz ..) (er (h3 ..) ?_);simpa using hv') (S.fin0 hv e9)
theorem EP{k:Nat}{es:List (V×V)}{ep:Option Nat}{i v:V}(S:St c m ρ nw H s)(hob:H[k]?=some (.dict es ep))(ho:VR c.K ρ nw (.ref k) o')(hi:VR c.K ρ nw i i')(hk:cD i es=true)(e1:bo i es=some v)(e:r=(v,H)):lh c m ρ nw s E o' i' r:=by
 obtain⟨a,es',n,rfl,hp,hm,hs,_⟩:=S.dictAt hob ho
 refine⟨⟨_,_,⟨_,S.ns.get hm,rfl⟩,slot_dict_getitem.lookup⟩,?_⟩
 unfold cD at hk
 simp only[VG,U2,U2]at hk
 rcases hk with⟨k1,k2⟩|⟨k1,k2⟩
 ·refine ex1_1 (jS k1) λx zq1=>?_;subst zq1
  refine ei hi λ_=>?_
  refine ex1_2 (ej.some_inv (e1▸r9 (i:=x) hs k2)) λq hf hv=>?_
  exact wpAny_getItem_of (PySem.intKind_is c.prog c.w x _) (i_ S hm (g_ c.prog hs k2)) hf (S.fin _ hv e)
 ·refine ex1_1 (lg k1) λx zq1=>?_;subst zq1
  refine iK hi λ_=>?_
  refine ex1_2 (ej.some_inv (e1▸r_ (i:=x) hs k2)) λq hf hv=>?_
  exact wpAny_getItem_of (PySem.strKind_is c.prog c.w x _) (i_ S hm (jT c.prog hs k2)) hf (S.fin _ hv e)
theorem EQ{o i:V}(O:c.Ok T)(S:St c m ρ nw H s)(ho:VR c.K ρ nw o o')(hi:VR c.K ρ nw i i')(e:aa o i H=some r):lh c m ρ nw s E o' i' r:=by
 cases o<;>first|exact ak e|skip
 ·refine ex1_2 (eL e) λn zq e=>?_
  refine ai (bg e) λhsm e=>?_
  simp only[U2,decide_eq_true_eq]at hsm
  exact EN S ho (zq▸hi) hsm.1 hsm.2 (bW e)
 ·exact EL O S ho hi e
 ·obtain⟨ob,hob,e⟩:=dM e
  cases ob<;>first|exact ak e|skip
  ·exact EO S hob ho hi e
  ·exact ai (bg e) λhk e=>ex1_2 (pD e) λv e1 e=>EP S hob ho hi hk e1 e
 ·refine ex1_2 (eL e) λn zq e=>?_
  refine ai (bg e) λhsm e=>?_
  simp only[U2,decide_eq_true_eq]at hsm
  exact EM O S ho (zq▸hi) hsm e
end
theorem ES{slice:Expr}(h:o_ slice=false)(o i:Value):subscripted slice false o i=operate [o,i] (getItem o i):=by
 cases slice<;>first|rfl|exact Bool.noConfusion h
theorem ga(O:c.Ok T)(S:St c m ρ nw H s){a:Addr}{o:Obj}(h:(a,o)∈nw):(a==sysModules)=false:=by
 refine ex1_1 (O.mods) λo' ho=>?_
 refine beq_eq_false_iff_ne.mpr λe=>?_
 have:=(S.ns _ h).2.2
 rw[show(a,o).1=sysModules from e,ho]at this
 cases this
theorem ET{value slice:Expr}{o i:V}{o' i':Value}{r:V×Hp}(O:c.Ok T)(S:St c m ρ nw H s)(hn:o_ slice=false)(ho:VR c.K ρ nw o o')(hi:VR c.K ρ nw i i')(e:aa o i H=some r):
  wpAny (model c.prog c.w) c.A (subscriptTail value slice o' i') (Pv c m ρ nw r) E s:=by
 refine ai (EQ (E:=E) O S ho hi e) λh0 h=>?_
 exact ex2_2 h0 λt id h1 h2=>tail_any h1 h2 h (ES hn _ _)
theorem St.newAt(S:St c m ρ nw H s){D:Addr}{ob:Obj}{h':Heap}{o:O}(F':Fr c.h₀ c.L h' m)(N':News c.h₀ c.L h' ((D,ob)::nw))(fresh:∀p∈nw,p.1<D)
  (ho:aG ρ nw (ρ++[(D,D)]) ((D,ob)::nw)->OR c.w.params c.K (ρ++[(D,D)]) ((D,ob)::nw) o (D,D)) (t:Nat):
  St c m (ρ++[(D,D)]) ((D,ob)::nw) (H++[o]) {s with heap:=h',toks:=t}/\aG ρ nw (ρ++[(D,D)]) ((D,ob)::nw):=by
 have fr:∀p∈[(D,ob)],∀q∈nw,q.1≠p.1:=λp hp q hq=>by rw[Ve]at hp;subst hp;exact VB (fresh q hq)
 refine ai (S.rep.new (o:=o) (p:=(D,D)) (more:=[(D,ob)]) fr (by simp) (by simp) (by simp) ho) λR x=>?_
 exact⟨⟨F',N',R,S.g,S.d,S.o⟩,x⟩
theorem St.newList(S:St c m ρ nw H s){D:Addr}{items:List Value}{xs:List V}{h':Heap}{n:Nat}(F':Fr c.h₀ c.L h' m)(N':News c.h₀ c.L h' ((D,W.listOf items.toArray n)::nw))(fresh:∀p∈nw,p.1<D)(hs:VRs c.K ρ nw xs items)(t:Nat):
  Pv c m ρ nw (.ref H.length,H++[.list xs]) (.ref D) {s with heap:=h',toks:=t}:=
 let⟨S',x⟩:=S.newAt F' N' fresh (o:= .list xs) (λx=> .list (U3 ..) (hs.ext x)) t
 ⟨_,_,ld (D,D) _ S.rep.len,S',x⟩
end
section
variable{c:Cx}{T:bf}{m:Str->Option Value}{ρ:Ro}{nw:Nw}{H:Hp}{s:Shared}{E:Value->Shared->Prop}
inductive iL(K:Frag)(ρ:Ro)(nw:Nw):Option V->Value->Prop
 |none:iL K ρ nw .none .none
 |some {v:V}{v':Value}:VR K ρ nw v v'->iL K ρ nw (.some v) v'
theorem iL.ext{K:Frag}{ρ':Ro}{nw':Nw}(x:aG ρ nw ρ' nw'){o:Option V}{v:Value}:iL K ρ nw o v->iL K ρ' nw' o v
 | .none=> .none
 | .some h=> .some (h.ext x)
set_option tactic.hygienic true in
theorem wo{l:Option V}{l':Value}{x:Option Int}(h:jE l=some x)(hl:iL c.K ρ nw l l'):IsPart l' x/\(x=none∨∃i,x=some i/\0<=i/\i<100000):=by
 cases hl with
 |none=>cases h;exact⟨.none,.inl rfl⟩
 |some hv=>
  unfold jE at h
  cases hv<;>first|(exact ak h)|skip
  rename_i i t
  simp only at h
  refine ai (eP h) λhi h=>?_
  cases h;exact⟨.int _ _,.inr ⟨i,rfl,hi⟩⟩
theorem EU{l u:Option Int}{xs:List Value}(hl:l=none∨∃i,l=some i/\0<=i/\i<100000)(hu:u=none∨∃i,u=some i/\0<=i/\i<100000):
  kms_pick xs l u=(xs.take ((u.map VK).getD xs.length)).drop ((l.map VK).getD 0):=by
 have lo:kms_lo l xs.length=min ((l.map VK).getD 0) xs.length:=by
  rcases hl with rfl|⟨i,rfl,h1,_⟩
  ·rfl
  ·simp[kms_lo];lia
 have hi:kms_hi u xs.length=min ((u.map VK).getD xs.length) xs.length:=by
  rcases hu with rfl|⟨i,rfl,h1,_⟩
  ·simp[kms_hi]
  ·simp[kms_hi];lia
 unfold kms_pick
 refine er (lo ..) (er (hi ..) ?_)
 generalize (l.map VK).getD 0=a
 generalize (u.map VK).getD xs.length=b
 apply Xe
 intro i
 simp only[XD,List.getElem?_drop]
 by_cases h:a+i<xs.length
 ·by_cases h2:a+i<b
  ·refine er (if_pos (by omega) ..) (er (if_pos h2 ..) (er ((show min a xs.length+i=a+i by lia) ..) rfl))
  ·refine er (if_neg (by omega) ..) (er (if_neg h2 ..) rfl)
 ·refine er (Vp (l:=xs) (i:=a+i) (Nat.not_lt.mp ‹_›) ..) ?_
  by_cases h3:min a xs.length+i<xs.length
  ·refine er (if_neg (by lia) ..) ?_;simp
  ·refine er (Vp (l:=xs) (i:=min a xs.length+i) (Nat.not_lt.mp ‹_›) ..) ?_;simp
theorem li{n:Nat}(h:n<=16777216):n<=sizeLine:=by refine er (sizeLine_eq ..) ?_;exact h
theorem gb{n:Nat}(h:aV n=true):n<=sizeLine:=li (by unfold aV at h;rw[decide_eq_true_eq]at h;exact nD ‹_›)
theorem sa{x:Str}(h:aD x=true):x.length<=1000:=by
 unfold aD at h;rw[U2,decide_eq_true_eq]at h;exact h.2
section
variable{value:Expr}{le ue:Option Expr}{p:Pos}{l' u':Value}{r:V×Hp}
theorem EV{k:Nat}{xs:List V}{x y:Option Int}{o':Value}(S:St c m ρ nw H s)(hob:H[k]?=some (.list xs))(ho:VR c.K ρ nw (.ref k) o')(hz:aV xs.length=true)(px:IsPart l' x)(cx:x=none∨∃i,x=some i/\0<=i/\i<100000)(py:IsPart u' y)(cy:y=none∨∃i,y=some i/\0<=i/\i<100000)
  (e2:r=(.ref H.length,H++[.list ((xs.take ((y.map VK).getD xs.length)).drop ((x.map VK).getD 0))])):
  wpAny (model c.prog c.w) c.A (subscriptTail value (.Slice le ue none p) o' (.ref s.heap.objs.size)) (Pv c m ρ nw r) E {s with heap:=s.heap.push {cls:= .type "slice",data:= .fields #[l',u',.none]}}:=by
 obtain⟨a,items,n,rfl,hp,hm,hs⟩:=S.listAt hob ho
 refine bK (S.push {cls:= .type "slice",data:= .fields #[l',u',.none]} rfl) λS1 x1 n1=>?_
 have hL:=S.isList hm
 refine tail_any (T:="list") (hL.push _).typeIs slot_list_getitem.lookup ?_ rfl
 refine wpAny_getItem_list_slice (hL.push _) (Heap.IsSliceOf.new ..) px py .none (by simp) ?_ (by refine er (VC ..) (er (hs.length ..) ?_);exact gb hz)
 refine ai (S1.new1 (ob:={cls:= .type "list",data:= .seq (slicePick items.toArray x y none)}) (o:= .list ((xs.take ((y.map VK).getD xs.length)).drop ((x.map VK).getD 0))) rfl λx2=>by
  refine .list (items:=(items.take ((y.map VK).getD xs.length)).drop ((x.map VK).getD 0)) (n:=0) ?_ (((hs.take _).drop _).ext (x1.trans x2))
  refine er (kms_pick_eq ..) (er (EU cx cy ..) (er (hs.length ..) ?_))
  exact U3 ..) λS2 x2=>?_
 exact e2▸⟨_,_,ld _ _ S.rep.len,S2,x1.trans x2⟩
theorem EW{txt:Str}{i:Int}{o':Value}(S:St c m ρ nw H s)(ho:VR c.K ρ nw (.str txt) o')(px:IsPart l' (some i))(py:IsPart u' none)(hz:aD txt=true)(e2:r=(.str (Txt.slice txt (some i) none),H)):
  wpAny (model c.prog c.w) c.A (subscriptTail value (.Slice le ue none p) o' (.ref s.heap.objs.size)) (Pv c m ρ nw r) E {s with heap:=s.heap.push {cls:= .type "slice",data:= .fields #[l',u',.none]}}:=by
 refine iK ho λt=>?_
 cases px with
 |int _ ti=>
  cases py
  have it:=SBH.sliceItem_sn (prog:=c.prog) (w:=c.w) (A:=c.A) (E:=E) (x:=txt) (t:=t) (i:=i) (ui:=ti) (s:=s) (Q:=Pv c m ρ nw r) (keptFrN (h₀:=c.h₀) (L:=c.L) (m:=m) (news:=nw)) ⟨S.fr,S.ns⟩ ?_ (li (Vm (sa hz) (by decide)))
  refine ex2_3 (it) λT id h1 h2 h3=>?_
  exact tail_any h2 h1 h3 rfl
  rintro h' t' k ⟨F',N'⟩
  exact e2▸⟨ρ,nw,.str _ _,⟨F',N',S.rep,S.g,S.d,S.o⟩,.refl⟩
theorem EX{o:V}{l u:Option V}{o':Value}(S:St c m ρ nw H s)(ho:VR c.K ρ nw o o')(hl:iL c.K ρ nw l l')(hu:iL c.K ρ nw u u')(e:bk o l u H=some r):
  wpAny (model c.prog c.w) c.A (subscriptTail value (.Slice le ue none p) o' (.ref s.heap.objs.size)) (Pv c m ρ nw r) E {s with heap:=s.heap.push {cls:= .type "slice",data:= .fields #[l',u',.none]}}:=by
 refine ex1_2 (d5 e) λx ex e=>?_
 refine ex1_2 (d5 e) λy ey e=>?_
 refine ai (wo ex hl) λpx cx=>?_
 refine ai (wo ey hu) λpy cy=>?_
 cases o<;>first|exact ak e|skip
 ·refine ex1_2 (d5 e) λi zq e=>?_
  refine ai (wb e) λzq2 e=>?_
  exact ai (bg e) λhz e=>EW S ho (zq▸px) (zq2▸py) hz (bW e)
 ·exact ex1_2 (gE e) λxs hob e=>ai (bg e) λhz e=>EV S hob ho hz px cx py cy (Option.some.inj e).symm
end
theorem EY{i:Int}(h:small i=true):Builtin.Int.intBits i<=64:=by
 refine ai (lf h) λh1 h2=>?_
 exact intBits_le_64 (by omega) (by omega)
theorem EZ{a b:Int}(h:small b=true):Builtin.divisionGoesByPylong a b=false:=by
 refine ai (lf h) λh1 h2=>?_
 have:¬(if b==0 then 0 else b.natAbs.log2/30+1)>300:=by
  split
  ·lia
  ·have h3:b.natAbs<2^21:=by lia
   have h4:b.natAbs≠0:=by intro e;simp_all
   have:=(Yu h4).mpr h3
   lia
 unfold Builtin.divisionGoesByPylong
 simp only[decide_eq_false this,Wv]
theorem E0(v:Value)(n:Nat):YG (λx1 x2=>x1++x2) #[] (VE n (#[v]:Array Value))=(VE n v).toArray:=by
 have h:∀(n:Nat) (acc:Array Value),YG (λx1 x2=>x1++x2) acc (VE n (#[v]:Array Value))=acc++(VE n v).toArray:=by
  intro n
  induction n with
  |zero=>simp
  |succ n ih=>intro acc;refine er (W3 ..) (er (WE ..) (er (ih ..) ?_));apply Array.toList_inj.mp;simp[W3]
 refine er (h ..) ?_;simp
theorem lj{v:V}{v':Value}{t:Nat}{r:V×Hp}(S:St c m ρ nw H s)(hv:VR c.K ρ nw v v')(e:UZ v H=some r):Pv c m ρ nw r v' {s with toks:=t}:=⟨ρ,nw,by refine er (bW e ..) ?_;exact hv,by refine er (bW e ..) ?_;exact S.toks _,.refl⟩
theorem E3{xs ys:List V}{a' b':Value}{r:V×Hp}(O:c.Ok T)(S:St c m ρ nw H s)(ha:VR c.K ρ nw (.tup xs) a')(hb:VR c.K ρ nw (.tup ys) b')(hz:aV (xs.length+ys.length)=true)(e:UZ (.tup (xs++ys)) H=some r):
  wpAny (model c.prog c.w) c.A (binaryOp .Add a' b') (Pv c m ρ nw r) E s:=by
 have e2:=bW e
 clear e
 refine ex2_3 (pn ha) λt vs e ht hs=>?_
 subst e
 refine ex2_3 (pn hb) λb ws e hb2 hs'=>?_
 subst e
 have app:=hs.append hs'
 refine add_tuples S.fr S.ns (S.isTup O ht) (S.isTup O hb2) (λh0=>⟨ρ,nw,?_,?_,.refl⟩) (λ_ h0=>⟨ρ,nw,?_,?_,.refl⟩) (λh0 h1 h' F' N'=>?_) ?_
 ·refine er (e2 ..) ?_;rw[h0]at app;exact .tup hb2 app
 ·refine er (e2 ..) ?_;exact S
 ·refine er (e2 ..) ?_;rw[h0,Vj]at app;exact .tup ht app
 ·refine er (e2 ..) ?_;exact S
 ·have fresh:∀p∈[(s.heap.objs.size,i6 (vs++ws))],∀q∈nw,q.1≠p.1:=λp hp q hq=>by rw[Ve]at hp;subst hp;exact g9 S.ns q hq
  have x:aG ρ nw ρ ((s.heap.objs.size,i6 (vs++ws))::nw):=aG.more [_] fresh
  refine⟨ρ,(s.heap.objs.size,i6 (vs++ws))::nw,?_,?_,x⟩
  ·refine er (e2 ..) ?_
   refine .tup (.inl ⟨U3 ..,λh=>?_⟩) (app.ext x)
   rcases S.rep.owned h with⟨_,_,h⟩|⟨_,_,h⟩|⟨_,_,h⟩<;>exact g9 S.ns _ h rfl
  ·simp only[e2]
   exact⟨F',N',S.rep.more [_] fresh (by simp),S.g,S.d,S.o⟩
 ·refine er (hs.length ..) (er (hs'.length ..) ?_);exact gb hz
theorem E4{j k:Nat}{xs ys:List V}{a' b':Value}{r:V×Hp}(S:St c m ρ nw H s)(ha:VR c.K ρ nw (.ref j) a')(hb:VR c.K ρ nw (.ref k) b')(hj:H[j]?=some (.list xs))(hk:H[k]?=some (.list ys))(hz:aV (xs.length+ys.length)=true)(e:aF (.list (xs++ys)) H=some r):
  wpAny (model c.prog c.w) c.A (binaryOp .Add a' b') (Pv c m ρ nw r) E s:=by
 obtain⟨a,items,n,rfl,hp,hm,hs⟩:=S.listAt hj ha
 obtain⟨b,items',n',rfl,hp',hm',hs'⟩:=S.listAt hk hb
 have e2:r=(.ref H.length,H++[.list (xs++ys)]):=(Option.some.inj e).symm
 refine add_lists S.fr S.ns (S.isList hm) (S.isList hm') (λh' F' N'=>?_) ?_
 ·refine er (e2 ..) ?_
  exact S.newList (n:=0) F' N' (λp hp=>Heap.lt_size (S.ns p hp).1) (hs.append hs') s.toks
 ·refine er (hs.length ..) (er (hs'.length ..) ?_);exact gb hz
theorem E5{a b:V}{a' b':Value}{r:V×Hp}(O:c.Ok T)(S:St c m ρ nw H s)(ha:VR c.K ρ nw a a')(hb:VR c.K ρ nw b b')(e:vB a b H=some r):
  wpAny (model c.prog c.w) c.A (binaryOp .Add a' b') (Pv c m ρ nw r) E s:=by
 cases a<;>first|exact ak e|skip
 ·refine ex1_2 (eL e) λj zq e=>?_;subst zq
  refine ex1_1 (cV ha) λ_ zq=>?_;subst zq
  refine ex1_1 (cV hb) λ_ zq=>?_;subst zq
  exact add_int (lj S (.int _ _) e)
 ·refine ex1_2 (pB e) λj zq e=>?_;subst zq
  refine ai (bg e) λhz e=>?_
  refine ex1_1 (eh ha) λ_ zq=>?_;subst zq
  refine ex1_1 (eh hb) λ_ zq=>?_;subst zq
  exact add_str (λt' tk=>lj S (.str _ _) e) (li (Vm hz (by decide)))
 ·refine ex1_2 (vZ e) λj zq e=>?_;subst zq
  exact ai (bg e) λhz e=>E3 O S ha hb hz e
 ·refine ex1_2 (i8 e) λj zq e=>?_;subst zq
  exact ex1_2 (gE e) λxs hx e=>ex1_2 (gE e) λys hy e=>ai (bg e) λhz e=>E4 S ha hb hx hy hz e
theorem E6{j:Nat}{n:Int}{y:V}{a' b':Value}{r:V×Hp}(S:St c m ρ nw H s)(ha:VR c.K ρ nw (.ref j) a')(hb:VR c.K ρ nw (.int n) b')(hj:H[j]?=some (.list [y]))(hz:0<=n/\n<=100000)(e:aF (.list (VE n.toNat y)) H=some r):
  wpAny (model c.prog c.w) c.A (binaryOp .Mult a' b') (Pv c m ρ nw r) E s:=by
 obtain⟨a,items,n',rfl,hp,hm,hs⟩:=S.listAt hj ha
 refine ex1_1 (cV hb) λ_ zq=>?_;subst zq
 have e2:r=(.ref H.length,H++[.list (VE n.toNat y)]):=(Option.some.inj e).symm
 refine ex2_3 (vU hs) λv vs zq hv hs2=>?_;subst zq
 have zq:=vT hs2;subst zq
 refine mul_list S.fr S.ns (S.ns.get hm) (by lia) (by lia) (by simp;lia) (λh' F' N'=>?_)
 rw[show(if(#[v]:Array Value).isEmpty=true then 0 else n.toNat)=n.toNat by simp,E0]at N'
 refine er (e2 ..) ?_
 exact S.newList (n:=0) F' N' (λp hp=>Heap.lt_size (S.ns p hp).1) (VRs.replicate hv _) s.toks
theorem E7{a b:V}{a' b':Value}{r:V×Hp}(S:St c m ρ nw H s)(ha:VR c.K ρ nw a a')(hb:VR c.K ρ nw b b')(e:vC a b H=some r):
  wpAny (model c.prog c.w) c.A (binaryOp .Mult a' b') (Pv c m ρ nw r) E s:=by
 refine ex1_2 (eL e) λn zq e=>?_;subst zq
 cases a<;>first|exact ak e|skip
 ·refine ai (bg e) λhz e=>?_
  rw[U2]at hz
  refine ex1_1 (cV ha) λ_ zq=>?_;subst zq
  refine ex1_1 (cV hb) λ_ zq=>?_;subst zq
  exact mul_int (lj S (.int _ _) e) (IntMulOk.of_left (EY hz.1))
 ·exact ex1_2 (gE e) λxs hx e=>ex1_2 (gD e) λy zq e=>ai (bg e) λhz e=>E6 S ha hb (zq▸hx) hz e
theorem E8{op:Operator}{a b:V}{a' b':Value}{r:V×Hp}(O:c.Ok T)(S:St c m ρ nw H s)(ha:VR c.K ρ nw a a')(hb:VR c.K ρ nw b b')(e:ax op a b H=some r):
  wpAny (model c.prog c.w) c.A (binaryOp op a' b') (Pv c m ρ nw r) E s:=by
 cases op<;>first|exact ak e|exact E5 O S ha hb e|exact E7 S ha hb e|skip
 all_goals
  refine ex1_2 (eL e) λi zq e=>?_;subst zq
  refine ex1_2 (eL e) λj zq e=>?_;subst zq
  refine ex1_1 (cV ha) λ_ zq=>?_;subst zq
  refine ex1_1 (cV hb) λ_ zq=>?_;subst zq
 ·exact sub_int (lj S (.int _ _) e)
 ·exact ai (bg e) λhz e=>mod_int' (by omega) (lj S (.int _ _) e)
 ·refine ai (bg e) λhz e=>?_
  rw[U2,decide_eq_true_eq]at hz
  exact floordiv_int (by omega) (lj S (.int _ _) e) (.inl (EZ hz.1))
end
section
variable{c:Cx}{T:bf}{m:Str->Option Value}{ρ:Ro}{nw:Nw}{H:Hp}{s:Shared}{E:Value->Shared->Prop}
theorem sb{α β:Type}{f:α->Option β}{x:α}{xs:List α}{r:List β}(h:(x::xs).mapM f=some r):∃y ys,f x=some y/\xs.mapM f=some ys/\r=y::ys:=by
 replace h:=Vu (We (VS)) h
 cases hx:f x with
 |none=>rw[hx]at h;exact ak h
 |some y=>
  rw[hx]at h
  cases hs:xs.mapM f with
  |none=>rw[hs]at h;exact ak h
  |some ys=>rw[hs]at h;cases h;exact⟨y,ys,rfl,rfl,rfl⟩
set_option tactic.hygienic true in
theorem lm(O:c.Ok T)(S:St c m ρ nw H s):∀(n:Nat) (v:V) (d:PyData) (v':Value),V.toD H n v=some d->VR c.K ρ nw v v'->(∃as,Reads s.heap v' d as)/\d.canLay0=true/\d.depth<=n:=by
 intro n
 induction n with
 |zero=>intro v d v' h;exact ak h
 |succ n ih=>
  have all:∀(xs:List V) (ds:List PyData) (vs:List Value),xs.mapM (V.toD H n)=some ds->VRs c.K ρ nw xs vs->(∃as,ReadsAll s.heap vs ds as)/\PyData.canLayAll0 ds=true/\PyData.depthAll ds<=n:=by
   intro xs
   induction xs with
   |nil=>intro ds vs h hs;cases h;cases hs;exact⟨⟨_,.nil⟩,rfl,by simp[PyData.depthAll]⟩
   |cons x xs ihx=>
    intro ds vs h hs
    refine ex2_3 (sb h) λy ys h1 h2 zq4=>?_;subst zq4
    cases hs with
    |cons hv hs=>
    refine bZ λgP gh=>?_
    refine bK (ih x y _ h1 hv) λhn1 c1 d1=>?_
    refine ex1_1 hn1 λas ra=>?_
    refine bK (ihx ys _ h2 hs) λhn4 c2 d2=>?_
    refine ex1_1 hn4 λbs rb=>?_
    refine gh ?_;clear gh gP
    exact⟨⟨_,.cons ra rb⟩,by simp[PyData.canLayAll0,c1,c2],by dsimp only[PyData.depthAll];lia⟩
  intro v d v' h hv
  cases hv with
  |none=>cases h;exact⟨⟨_,.none⟩,by simp[PyData.canLay0],by simp[PyData.depth]⟩
  |bool b=>cases h;exact⟨⟨_,.bool b⟩,by simp[PyData.canLay0],by simp[PyData.depth]⟩
  |int i t=>cases h;exact⟨⟨_,.int i t⟩,by simp[PyData.canLay0],by simp[PyData.depth]⟩
  |str x t=>
   dsimp only[V.toD]at h
   refine ai (eP h) λhz h=>?_
   obtain rfl:=Option.some.inj h
   unfold aD at hz
   simp only[U2]at hz
   exact⟨⟨_,.str x t⟩,hz.1,by simp[PyData.depth]⟩
  |tup ht hs=>
   dsimp only[V.toD]at h
   refine bZ λgP gh=>?_
   refine ex1_2 (Option.map_eq_some_iff.mp h) λds hd zq2=>?_;subst zq2
   refine bK (all _ _ _ hd hs) λhn7 c1 d1=>?_
   refine ex1_1 hn7 λas ra=>?_
   obtain⟨o,h1,h2,k,h3⟩:=S.isTup O ht
   refine gh ?_;clear gh gP
   exact⟨⟨_,.tuple h1 h2 h3 (by simpa using ra)⟩,by dsimp only[PyData.canLay0];exact c1,by dsimp only[PyData.depth];exact V9 ‹_›⟩
  |ref hp=>
   dsimp only[V.toD]at h
   split at h
   ·rename_i xs hx
    refine bZ λgP gh=>?_
    refine ex1_2 (Option.map_eq_some_iff.mp h) λds hd zq2=>?_;subst zq2
    obtain⟨a,items,k,e,hp',hm,hs⟩:=S.listAt hx (.ref hp)
    obtain⟨⟨as,ra⟩,c1,d1⟩:=all _ _ _ hd hs
    refine gh ?_;clear gh gP
    refine er (e ..) ?_
    exact⟨⟨_,.list (S.ns.get hm) rfl rfl (by simpa using ra)⟩,by dsimp only[PyData.canLay0];exact c1,by dsimp only[PyData.depth];exact V9 ‹_›⟩
   ·exact ak h
  |fn a=>exact ak h
  |frz h1 h2=>exact ak h
theorem E9{A:Around}(O:c.Ok T)(S:St c m ρ nw H s){a b:V}{a' b':Value}{da db:PyData}(ha:V.toD H 7 a=some da)(hb:V.toD H 7 b=some db)(va:VR c.K ρ nw a a')(vb:VR c.K ρ nw b b')(hu:A.units+64<cLine):
  SeqAt.EqAt A s a' b' (PyData.eqv da db):=by
 refine bZ λgP gh=>?_
 refine bK (lm O S _ _ _ _ ha va) λhn15 c1 d1=>?_
 refine ex1_1 hn15 λas ra=>?_
 refine bK (lm O S _ _ _ _ hb vb) λhn18 c2 d2=>?_
 refine ex1_1 hn18 λbs rb=>?_
 refine gh ?_;clear gh gP
 refine SeqAt.eqAt_reads da db A s a' b' as bs ra rb c1 c2 ?_
 have:min da.depth db.depth<=7:=Vm (VU _ _) d1
 lia
inductive IP(K:Frag)(ρ:Ro)(nw:Nw):List (V×V)->List (Int×Value)->Prop
 |nil:IP K ρ nw [] []
 |cons {i:Int}{v:V}{v':Value}{es:List (V×V)}{kvs:List (Int×Value)}:VR K ρ nw v v'->IP K ρ nw es kvs->IP K ρ nw ((.int i,v)::es) ((i,v')::kvs)
theorem E_{es:List (V×V)}{kvs:List (Int×Value)}(h:IP c.K ρ nw es kvs){i:Int}(hm:i∈kvs.map (·.1)):∃v,(V.int i,v)∈es:=by
 induction h with
 |nil=>cases hm
 | @cons j v v' es kvs _ _ ih=>
  rw[Vi,WP]at hm
  rcases hm with rfl|hm
  ·exact⟨v,U3 ..⟩
  ·obtain⟨v,hv⟩:=ih hm;exact⟨v,U7 _ hv⟩
theorem mT{es:List (V×V)}{es':List DictEntry}(prog:Program)(w:World)(hd:DR c.w.params c.K ρ nw es es')(hk:(es.all λe=>V.isKeyInt e.1)=true):
  ∃kvs,Pairs (PySem.intKind prog w) es' kvs/\(kvs.map (·.1)).Nodup/\IP c.K ρ nw es kvs:=by
 induction hd with
 |nil=>exact⟨[],.nil,by simp,.nil⟩
 | @cons k v e es es' h1 h2 h3 h4 hs ih=>
  simp only[VL,U2]at hk
  refine ex1_3 (ih hk.2) λkvs p1 p2 p3=>?_
  refine ex1_1 (jS hk.1) λi zq1=>?_;subst zq1
  refine⟨(i,e.val)::kvs,.cons ?_ rfl p1,?_,.cons h2 p3⟩
  ·revert h1
   generalize e.key=q
   intro h1
   refine ex1_1 (cV h1) λ_ zq=>?_;subst zq
   exact wh i 0
  ·rw[Vi,VV]
   refine⟨λhm=>?_,p2⟩
   refine ex1_1 (E_ p3 hm) λv hv=>?_
   have:=h4 _ hv
   simp[V.keyEq]at this
theorem mU{es:List (V×V)}{kvs:List (Int×Value)}(h:IP c.K ρ nw es kvs):kvs.length=es.length:=by
 induction h with
 |nil=>rfl
 |cons _ _ ih=>simp[ih]
theorem Fa{es:List (V×V)}{kvs:List (Int×Value)}(h:IP c.K ρ nw es kvs)(k:Int):ej c.K ρ nw (bo (.int k) es) (valueAt kvs k):=by
 induction h with
 |nil=>exact .none
 | @cons i v v' es kvs hv _ ih=>
  delta bo valueAt
  simp only[VF,VF]
  by_cases e:i=k
  ·subst e
   simp only[V.keyEq,decide_true]
   exact .some hv
  ·simp only[V.keyEq,decide_eq_false e]
   exact ih
theorem wp{A:Around}{x y:List (V×V)}{b:Bool}{ka kb:List (Int×Value)}(px:IP c.K ρ nw x ka)(py:IP c.K ρ nw y kb)
  (kx:(x.all λe=>V.isKeyInt e.1&&V.isKeyInt e.2)=true) (ky:(y.all λe=>V.isKeyInt e.1&&V.isKeyInt e.2)=true)
  (hb:(x.all λe=>match bo e.1 y with|some v=>V.keyEq e.2 v| .none=>false)=b):KeqHits A s kb ka b:=by
 induction px generalizing b with
 |nil=>subst hb;exact .nil
 | @cons i v v' es kvs hv _ ih=>
  rw[VL,U2]at kx
  replace hb:=Vu (We (VL)) hb
  have g:=Fa py i
  simp only at hb
  revert hb g
  generalize hq:valueAt kb i=q
  generalize hd:bo (.int i) y=d
  intro hb g
  cases g with
  |none=>dsimp only[Wv]at hb;subst hb;exact .miss hq
  | @some u u' hu=>
   simp only at hb
   subst hb
   refine .hit hq ?_ (ih kx.2 rfl)
   have k1:=kx.1
   simp only[U2]at k1
   refine ex1_1 (jS k1.2) λj zq1=>?_;subst zq1
   have ku:V.isKeyInt u=true:=by
    unfold bo at hd
    refine ex1_2 (Option.map_eq_some_iff.mp hd) λe he zq2=>?_;subst zq2
    have:=List.all_eq_true.mp ky e (VJ he)
    simp only[U2]at this
    exact this.2
   refine ex1_1 (jS ku) λl zq1=>?_;subst zq1
   refine ex1_1 (cV hv) λt1 zq=>?_;subst zq
   refine ex1_1 (cV hu) λt2 zq=>?_;subst zq
   exact SeqAt.EqAt.int_int (A:=A) (s:=s) j t1 l t2
theorem mV(S:St c m ρ nw H s){a:Addr}{es':List DictEntry}{n:Nat}{K:Type} [DecidableEq K]{prog:Program}{w:World}{knd:PySem.KeyKind prog w K}{kvs:List (K×Value)}(h:(a,dictOf es' n)∈nw)(hk:KeysOf knd es'.toArray)(hp:Pairs knd es' kvs)(hn:(kvs.map (·.1)).Nodup):s.heap.DictOf knd a kvs:=
 ⟨_,es'.toArray,n,S.ns.get h,⟨rfl,rfl,rfl⟩,rfl,hk,by simpa using hp,hn⟩
theorem jb{x:List (V×V)}(h:(x.all λe=>V.isKeyInt e.1&&V.isKeyInt e.2)=true):(x.all λe=>V.isKeyInt e.1)=true:=
 List.all_eq_true.mpr λe he=>by
  have:=List.all_eq_true.mp h e he
  rw[U2]at this
  exact this.1
theorem wq{x y:List (V×V)}{b:Bool}(h:iw x y=some b):(x.all λe=>V.isKeyInt e.1&&V.isKeyInt e.2)=true/\(y.all λe=>V.isKeyInt e.1&&V.isKeyInt e.2)=true/\
  b=(decide (x.length=y.length)&&x.all λe=>match bo e.1 y with|some v=>V.keyEq e.2 v| .none=>false):=by
 unfold iw at h
 refine ai (eP h) λhz h=>?_
 simp only[U2]at hz
 obtain rfl:=Option.some.inj h
 exact⟨hz.1.1.1,hz.1.1.2,rfl⟩
theorem wr{A:Around}(O:c.Ok T)(S:St c m ρ nw H s){j k:Nat}{x y:List (V×V)}{p q:Option Nat}{a' b':Value}{b:Bool}(hj:H[j]?=some (.dict x p))(hk:H[k]?=some (.dict y q))(va:VR c.K ρ nw (.ref j) a')(vb:VR c.K ρ nw (.ref k) b')(hu:A.units<cLine)(h:iw x y=some b):
  SeqAt.RcAt A s a' b' b:=by
 intro prog w E Q hQ
 refine bK (wq h) λkx ky zq2=>?_;subst zq2
 obtain⟨a,ea,n1,rfl,_,ma,da,_⟩:=S.dictAt hj va
 obtain⟨b,eb,n2,rfl,_,mb,db,_⟩:=S.dictAt hk vb
 refine ex1_3 (mT prog w da (jb kx)) λka pa na ia=>?_
 refine ex1_3 (mT prog w db (jb ky)) λkb pb nb ib=>?_
 refine keq_eq (ga O S ma) (ga O S mb) (mV S ma (g_ prog da (jb kx)) pa na) (mV S mb (g_ prog db (jb ky)) pb nb) hu (λ_=>wp ia ib kx ky rfl) ?_
 refine er (mU ia ..) (er (mU ib ..) ?_)
 exact hQ
theorem Fb{A:Around}{n:Nat}(O:c.Ok T)(S:St c m ρ nw H s){a b:V}{a' b':Value}{da db:PyData}(ha:V.toD H n a=some da)(hb:V.toD H n b=some db)(va:VR c.K ρ nw a a')(vb:VR c.K ρ nw b b')(hu:A.units+n<cLine):
  SeqAt.RcAt A s a' b' (PyData.eqv da db):=by
 refine bZ λgP gh=>?_
 refine bK (lm O S _ _ _ _ ha va) λhn26 c1 d1=>?_
 refine ex1_1 hn26 λas ra=>?_
 refine bK (lm O S _ _ _ _ hb vb) λhn29 c2 d2=>?_
 refine ex1_1 hn29 λbs rb=>?_
 refine gh ?_;clear gh gP
 refine SeqAt.rcAt_reads ra rb c1 c2 ?_
 have:min da.depth db.depth<=n:=Vm (VU _ _) d1
 lia
theorem Fc{n:Nat}{Q:Value->Shared->Prop}(O:c.Ok T)(S:St c m ρ nw H s){a b:V}{a' b':Value}{da db:PyData}(ha:V.toD H n a=some da)(hb:V.toD H n b=some db)(va:VR c.K ρ nw a a')(vb:VR c.K ρ nw b b')(hu:c.A.units+n<cLine)(hQ:Q (.bool (!PyData.eqv da db)) s):
  wpAny (model c.prog c.w) c.A (compareOp .NotEq a' b') Q E s:=by
 refine bZ λgP gh=>?_
 refine bK (lm O S _ _ _ _ ha va) λhn32 c1 d1=>?_
 refine ex1_1 hn32 λas ra=>?_
 refine bK (lm O S _ _ _ _ hb vb) λhn35 c2 d2=>?_
 refine ex1_1 hn35 λbs rb=>?_
 refine gh ?_;clear gh gP
 refine SeqAt.compareNe_reads ra rb c1 c2 ?_ hQ
 have:min da.depth db.depth<=n:=Vm (VU _ _) d1
 lia
set_option tactic.hygienic true in
theorem Fd{A:Around}(O:c.Ok T)(S:St c m ρ nw H s){a b:V}{a' b':Value}(va:VR c.K ρ nw a a')(vb:VR c.K ρ nw b b')(hu:A.units+64<cLine)(h:cY H a b=true):SeqAt.EqAt A s a' b' true:=by
 unfold cY at h
 split at h
 ·rename_i x y hx hy
  exact h▸E9 O S hx hy va vb hu
 ·split at h
  ·rename_i j k _
   split at h
   ·rename_i x _ y _ hx hy
    have hd:iw x y=some true:=by simpa using h
    obtain⟨a,ea,n1,rfl,pa,_⟩:=S.dictAt hx va
    obtain⟨b,eb,n2,rfl,pb,_⟩:=S.dictAt hy vb
    by_cases e:a=b
    ·subst e;exact .same _
    ·exact .of_refs e (wr O S hx hy va vb (eC ‹_›) hd)
   ·exact absurd h (by decide)
  ·exact absurd h (by decide)
theorem Fe{A:Around}(O:c.Ok T)(S:St c m ρ nw H s)(hu:A.units+64<cLine):∀{xs ys:List V}{vs ws:List Value},VRs c.K ρ nw xs vs->VRs c.K ρ nw ys ws->gx H xs ys=true->vs.length=ws.length/\∀j (h1:j<vs.length) (h2:j<ws.length),SeqAt.EqAt A s vs[j] ws[j] true:=
 λ{_ ys _ ws} h1=>VRs.ind (P:=λxs vs=>∀ys ws,VRs c.K ρ nw ys ws->gx H xs ys=true->vs.length=ws.length/\∀j (h1:j<vs.length) (h2:j<ws.length),SeqAt.EqAt A s vs[j] ws[j] true)
  (λys ws h2=>VRs.ind (P:=λys ws=>gx H [] ys=true->[].length=ws.length/\∀j (h1:j<[].length) (h2:j<ws.length),SeqAt.EqAt A s [][j] ws[j] true) (λ_=>⟨rfl,λ_ h=>nomatch h⟩) (λ_ _ _ h=>nomatch h) h2)
  (λ{x v xs vs} a1 _ ih ys ws h2=>VRs.ind (P:=λys ws=>gx H (x::xs) ys=true->(v::vs).length=ws.length/\∀j (h1:j<(v::vs).length) (h2:j<ws.length),SeqAt.EqAt A s (v::vs)[j] ws[j] true) (λh=>nomatch h)
   (λa2 t2 _ h=>by
    have h:=(U2 _ _).mp h
    refine ai (ih _ _ t2 h.2) λe1 e2=>⟨congrArg (·+1) e1,λj=>?_⟩
    exact Wp j (λ_ _=>Fd O S a1 a2 hu h.1) λj h3 h4=>e2 j (Xl h3) (Xl h4)) h2) h1 ys ws
theorem mW(O:c.Ok T):c.A.units+100<cLine:=by have:=O.units;have:cLine=9900:=rfl;omega
theorem wt{α:Type} [DecidableEq α](x y:α):(x==y)=decide (x=y):=by by_cases h:x=y<;>simp[h]
theorem wu{a b:V}{r:Bool×Hp}(e:f6 a b H=some r):∃x y,V.toD H 8 a=some x/\V.toD H 8 b=some y/\r=(PyData.eqv x y,H):=by
 unfold f6 at e
 refine ex1_2 (Option.bind_eq_some_iff.mp e) λx hx e=>?_
 exact ex1_2 (Option.map_eq_some_iff.mp e) λy hy e=>⟨x,y,hx,hy,e.symm⟩
theorem Ff{a b:V}{xs ys:List V}{r:Bool×Hp}(e:i0 a b xs ys H=some r):f6 a b H=some r∨(gx H xs ys=true/\r=(true,H)):=by
 unfold i0 at e
 cases hq:f6 a b H with
 |some q=>rw[hq]at e;exact .inl e
 |none=>
  rw[hq]at e
  exact ai (eP e) λhz e=> .inr ⟨(Bool.and_eq_true_iff.mp hz).1,(Option.some.inj e).symm⟩
theorem wv{a b:V}{a' b':Value}{r:Bool×Hp}(O:c.Ok T)(S:St c m ρ nw H s)(va:VR c.K ρ nw a a')(vb:VR c.K ρ nw b b')(e:f6 a b H=some r):r.2=H/\SeqAt.RcAt c.A s a' b' r.1:=by
 have hu:=mW O
 refine ex2_3 (wu e) λx y e1 e2 e3=>?_
 refine er (e3 ..) ?_
 exact⟨rfl,Fb O S e1 e2 va vb (by omega)⟩
theorem Fg{j k:Nat}{xs ys:List V}{a' b':Value}(O:c.Ok T)(S:St c m ρ nw H s)(va:VR c.K ρ nw (.ref j) a')(vb:VR c.K ρ nw (.ref k) b')(hx:H[j]?=some (.list xs))(hy:H[k]?=some (.list ys))(hz:gx H xs ys=true):SeqAt.RcAt c.A s a' b' true:=by
 have hu:=mW O
 have hu1:c.A.in1.units+64<cLine:=by
  have:c.A.in1.units=c.A.units+1:=rfl
  lia
 obtain⟨a,items,n,rfl,hp,hm,hs⟩:=S.listAt hx va
 obtain⟨b,items',n',rfl,hp',hm',hs'⟩:=S.listAt hy vb
 refine ai (Fe O S hu1 hs hs' hz) λq1 q2=>?_
 have:=SeqAt.RcAt.lists (A:=c.A) (e:=λ_=>true) (S.isList hm) (S.isList hm') (by simpa using q1) (eC ‹_›) (λj h1 h2=>by simpa using q2 j (by simpa using h1) (by simpa using h2))
 rw[show(Vr items.toArray.size).all (λ_=>true)=true by rw[WB];exact λ_ _=>rfl]at this
 exact this
theorem Fh{a b:V}{a' b':Value}{r:Bool×Hp}(O:c.Ok T)(S:St c m ρ nw H s)(va:VR c.K ρ nw a a')(vb:VR c.K ρ nw b b')(e:jF a b H=some r):r.2=H/\SeqAt.RcAt c.A s a' b' r.1:=by
 have hu:=mW O
 cases a<;>first|exact ak e|skip
 ·refine ex1_2 (EJ e) λj zq e=>?_;subst zq
  refine er (lb va ..) (er (lb vb ..) (er (bW e ..) ?_))
  exact⟨rfl,wt (α:=Bool) _ _▸SeqAt.RcAt.bool_bool _ _⟩
 ·refine ex1_2 (eL e) λj zq e=>?_;subst zq
  refine ex1_1 (cV va) λ_ zq=>?_;subst zq
  refine ex1_1 (cV vb) λ_ zq=>?_;subst zq
  refine er (bW e ..) ?_
  exact⟨rfl,SeqAt.RcAt.int_int _ _ _ _⟩
 ·refine ex1_2 (pB e) λj zq e=>?_;subst zq
  refine ex1_1 (eh va) λ_ zq=>?_;subst zq
  refine ex1_1 (eh vb) λ_ zq=>?_;subst zq
  refine er (bW e ..) ?_
  exact⟨rfl,wt (α:=Str) _ _▸SeqAt.RcAt.str_str _ _ _ _⟩
 ·refine ex1_2 (vZ e) λj zq e=>?_;subst zq
  exact wv O S va vb e
 ·refine ex1_2 (i8 e) λk zq e=>?_;subst zq
  obtain⟨x,hx,e⟩:=dM e
  obtain⟨y,hy,e⟩:=dM e
  cases x with
  |inst _ _=>exact ak e
  |dict es _=>
   refine ex2_2 (pC e) λfs ep zq e=>?_;subst zq
   refine ai (rY e) λh1 h2=>⟨h2,wr O S hx hy va vb (eC ‹_›) h1⟩
  |list xs=>
   refine ex1_2 (rZ e) λys zq e=>?_;subst zq
   rcases Ff e with e|⟨hz,e⟩
   ·exact wv O S va vb e
   ·refine er (e ..) ?_;exact⟨rfl,Fg O S va vb hx hy hz⟩
theorem Fi{j k:Nat}{x y:List (V×V)}{e1 e2:Option Nat}{a' b':Value}{b:Bool}{Q:Value->Shared->Prop}(O:c.Ok T)(S:St c m ρ nw H s)(va:VR c.K ρ nw (.ref j) a')(vb:VR c.K ρ nw (.ref k) b')(hx:H[j]?=some (.dict x e1))(hy:H[k]?=some (.dict y e2))(hb:iw x y=some b)(hQ:Q (.bool !b) s):
  wpAny (model c.prog c.w) c.A (compareOp .NotEq a' b') Q E s:=by
 have hu:=mW O
 refine bK (wq hb) λkx ky zq2=>?_;subst zq2
 obtain⟨a,ea,n1,rfl,_,ma,da,_⟩:=S.dictAt hx va
 obtain⟨b,eb,n2,rfl,_,mb,db,_⟩:=S.dictAt hy vb
 refine ex1_3 (mT c.prog c.w da (jb kx)) λka pa na ia=>?_
 refine ex1_3 (mT c.prog c.w db (jb ky)) λkb pb nb ib=>?_
 refine keq_ne (ga O S ma) (ga O S mb) (mV S ma (g_ c.prog da (jb kx)) pa na) (mV S mb (g_ c.prog db (jb ky)) pb nb) (eC ‹_›) (λ_=>wp ia ib kx ky rfl) ?_
 refine er (mU ia ..) (er (mU ib ..) ?_)
 exact hQ
theorem Fj{x y:Str}{t u:Tok}{Q:Value->Shared->Prop}(hQ:Q (.bool !decide (x=y)) s):wpAny (model c.prog c.w) c.A (compareOp .NotEq (.str x t) (.str y u)) Q E s:=by
 refine PySem.P.ne_str ?_
 rw[show(x.cps.toList !=y.cps.toList)= !decide (x=y)from ?_]
 ·exact hQ
 ·by_cases h:x=y
  ·subst h;simp
  ·have:x.cps.toList≠y.cps.toList:=λe=>h (by cases x;cases y;simp only[Str.mk.injEq];exact Array.toList_inj.mp e)
   simp[h,this]
theorem Fk{a b:V}{a' b':Value}{r:Bool×Hp}{Q:Value->Shared->Prop}(O:c.Ok T)(S:St c m ρ nw H s)(va:VR c.K ρ nw a a')(vb:VR c.K ρ nw b b')(e:i1 a b H=some r)(hQ:r.2=H->Q (.bool r.1) s):
  wpAny (model c.prog c.w) c.A (compareOp .NotEq a' b') Q E s:=by
 have hu:=mW O
 cases a<;>first|exact ak e|skip
 ·refine ex1_2 (eL e) λj zq e=>?_;subst zq
  refine ex1_1 (cV va) λ_ zq=>?_;subst zq
  refine ex1_1 (cV vb) λ_ zq=>?_;subst zq
  rw[bW e]at hQ
  exact PyProof.Rows.ne_int (hQ rfl)
 ·refine ex1_2 (pB e) λj zq e=>?_;subst zq
  refine ex1_1 (eh va) λ_ zq=>?_;subst zq
  refine ex1_1 (eh vb) λ_ zq=>?_;subst zq
  rw[bW e]at hQ
  exact Fj (hQ rfl)
 ·refine ex1_2 (i8 e) λk zq e=>?_;subst zq
  obtain⟨x,hx,e⟩:=dM e
  obtain⟨y,hy,e⟩:=dM e
  cases x with
  |inst _ _=>exact ak e
  |dict es _=>
   refine ex2_2 (pC e) λfs ep zq e9=>?_;subst zq;clear e
   obtain⟨⟨b,H'⟩,h1,e⟩:=bind_some e9
   refine ai (rY h1) λh1 h2=>?_
   rw[bW e]at hQ
   exact Fi O S va vb hx hy h1 (hQ h2)
  |list xs=>
   refine ex1_2 (rZ e) λys zq e9=>?_;subst zq;clear e
   obtain⟨⟨b,H'⟩,h1,e⟩:=bind_some e9
   rw[bW e]at hQ
   refine ex2_3 (wu h1) λx y e1 e2 e3=>?_
   cases e3
   exact Fc O S e1 e2 va vb (by omega) (hQ rfl)
theorem pE:∀{ys:List V}{l:List Str}{vs:List Value},ys.mapM (λy=>match y with|V.str s=>some s|_=> .none)=some l->VRs c.K ρ nw ys vs->StrsAre vs l
 |[],_,_,h,hs=>by cases h;cases hs;exact .nil
 |y::ys,_,_,h,hs=>by
  refine ex2_3 (sb h) λx xs h1 h2 zq4=>?_;subst zq4
  cases hs with
  |cons hv hs=>
  cases y<;>first|(exact ak h1)|skip
  cases h1
  refine ex1_1 (eh hv) λ_ zq=>?_;subst zq
  exact .cons _ _ (pE h2 hs)
theorem wx:∀{ys:List V}{l:List Int}{vs:List Value},ys.mapM (λy=>match y with|V.int s=>some s|_=> .none)=some l->VRs c.K ρ nw ys vs->IntsAre vs l
 |[],_,_,h,hs=>by cases h;cases hs;exact .nil
 |y::ys,_,_,h,hs=>by
  refine ex2_3 (sb h) λx xs h1 h2 zq4=>?_;subst zq4
  cases hs with
  |cons hv hs=>
  cases y<;>first|(exact ak h1)|skip
  cases h1
  refine ex1_1 (cV hv) λ_ zq=>?_;subst zq
  exact .cons _ _ (wx h2 hs)
theorem wy:∀{vs:List Value}{l:List Int},IntsAre vs l->kf_ints vs=true:=
 λh=>IntsAre.rec (motive:=λvs _ _=>kf_ints vs=true) rfl (λ_ _ _ _ _ ih=>ih) h
end
section
variable{c:Cx}{T:bf}{m:Str->Option Value}{ρ:Ro}{nw:Nw}{H:Hp}{s:Shared}{E:Value->Shared->Prop}
theorem ln{α:Type} [DecidableEq α](l:List α)(x:α):(l.any λy=>decide (y=x))=l.any (·==x):=by
 congr 1
theorem Fm(z x:Str)(t u:Tok):MeetsSeq.EqGives (.str z t) (.str x u) (Value.isStrOf x (.str z t)):=by
 have:=SeqRoads2.EqGives.str z x t u
 rw[show(z.cps.toList==x.cps.toList)=(z==x)from ?_]at this
 ·exact this
 ·by_cases h:z=x
  ·subst h;simp
  ·have h2:z.cps.toList≠x.cps.toList:=λe=>h (by cases z;cases x;simp only[Str.mk.injEq];exact Array.toList_inj.mp e)
   simp only[beq_eq_false_iff_ne.mpr h2,beq_eq_false_iff_ne.mpr h]
theorem sd{x:Str}{u:Tok}:∀{vs:List Value}{l:List Str},StrsAre vs l->∀y,y∈vs->MeetsSeq.EqGives y (.str x u) (Value.isStrOf x y):=
 λh=>StrsAre.rec (motive:=λvs l _=>∀y,y∈vs->MeetsSeq.EqGives y (.str x u) (Value.isStrOf x y)) (λ_ h=>nomatch h)
  (λz t _ _ _ ih y h=>(List.mem_cons.mp h).elim (λe=>e▸Fm z x t u) (ih y)) h
theorem wz{x:Str}:∀{vs:List Value}{l:List Str},StrsAre vs l->vs.any (Value.isStrOf x)=l.any (·==x):=
 λh=>StrsAre.rec (motive:=λvs l _=>vs.any (Value.isStrOf x)=l.any (·==x)) rfl (λz _ _ _ _ ih=>congrArg (z==x||·) ih) h
theorem Fn{x:Str}{es:List (V×V)}(h:cD (.str x) es=true):(es.all λe=>V.isKeyStr e.1)=true:=by simpa[cD,V.isKeyInt,V.isKeyStr]using h
theorem Fo{x:Int}{es:List (V×V)}(h:cD (.int x) es=true):(es.all λe=>V.isKeyInt e.1)=true:=by simpa[cD,V.isKeyInt,V.isKeyStr]using h
theorem ej.isSome{o:Option V}{q:Option Value}(h:ej c.K ρ nw o q):o.isSome=q.isSome:=by cases h<;>rfl
set_option tactic.hygienic true in
theorem wA{x:Str}{ys:List V}{r:Bool×Hp}(e:ix x ys H=some r):∃l,ys.mapM (λy=>match y with|V.str s=>some s|_=> .none)=some l/\r=(l.any λy=>decide (y=x),H):=by
 unfold ix at e
 split at e
 ·rename_i l hz;exact⟨l,hz,(Option.some.inj e).symm⟩
 ·exact ak e
set_option tactic.hygienic true in
theorem Fp{x:Int}{ys:List V}{r:Bool×Hp}(e:kO x ys H=some r):∃l,ys.mapM (λy=>match y with|V.int s=>some s|_=> .none)=some l/\r=(l.any λy=>decide (y=x),H):=by
 unfold kO at e
 split at e
 ·rename_i l hz;exact⟨l,hz,(Option.some.inj e).symm⟩
 ·exact ak e
noncomputable def lq(neg:Bool):CmpOp:=if neg then .NotIn else .In
theorem Fq{neg:Bool}{x:Str}{ys:List V}{a' b':Value}{r:Bool×Hp}{Q:Value->Shared->Prop}(O:c.Ok T)(S:St c m ρ nw H s)(va:VR c.K ρ nw (.str x) a')(vb:VR c.K ρ nw (.tup ys) b')(e:ix x ys H=some r)(hQ:∀t,r.2=H->Q (.bool (bif neg then !r.1 else r.1)) {s with toks:=t}):
  wpAny (model c.prog c.w) c.A (compareOp (lq neg) a' b') Q E s:=by
 refine ex1_2 (wA e) λl hz e=>?_
 subst e
 refine ex1_1 (eh va) λ_ zq=>?_;subst zq
 refine ex2_3 (pn vb) λ_ _ zq ht hs=>?_;subst zq
 cases neg
 ·refine in_tuple_strs (S.isTup O ht) (by simpa using pE hz hs) ?_
  refine el (ln ..) ?_
  exact hQ _ rfl
 ·refine notin_tuple_strs (S.isTup O ht) (by simpa using pE hz hs) ?_
  refine el (ln ..) ?_
  exact hQ _ rfl
theorem Fs{neg:Bool}{x:Str}{k:Nat}{ys:List V}{a' b':Value}{r:Bool×Hp}{Q:Value->Shared->Prop}(O:c.Ok T)(S:St c m ρ nw H s)(va:VR c.K ρ nw (.str x) a')(vb:VR c.K ρ nw (.ref k) b')(hk:H[k]?=some (.list ys))(e:ix x ys H=some r)(hQ:∀t,r.2=H->Q (.bool (bif neg then !r.1 else r.1)) {s with toks:=t}):
  wpAny (model c.prog c.w) c.A (compareOp (lq neg) a' b') Q E s:=by
 refine ex1_2 (wA e) λl hz e=>?_
 subst e
 obtain⟨a,items,n,rfl,hp,hm,hs⟩:=S.listAt hk vb
 refine ex1_1 (eh va) λ_ zq=>?_;subst zq
 have hh:=pE hz hs
 cases neg
 ·refine SeqInW.in_listW (Value.isStrOf _) (λy hy=>sd hh y (by simpa using hy)) (S.isList hm) ?_
  refine el (XQ ..) (er ((show items.toArray.toList=items from rfl) ..) (er (wz hh ..) (el (ln ..) ?_)))
  exact hQ _ rfl
 ·refine SeqInW.notIn_listW (Value.isStrOf _) (λy hy=>sd hh y (by simpa using hy)) (S.isList hm) ?_
  refine el (XQ ..) (er ((show items.toArray.toList=items from rfl) ..) (er (wz hh ..) (el (ln ..) ?_)))
  exact hQ _ rfl
theorem Ft{neg:Bool}{x:Int}{k:Nat}{ys:List V}{a' b':Value}{r:Bool×Hp}{Q:Value->Shared->Prop}(O:c.Ok T)(S:St c m ρ nw H s)(va:VR c.K ρ nw (.int x) a')(vb:VR c.K ρ nw (.ref k) b')(hk:H[k]?=some (.list ys))(e:kO x ys H=some r)(hQ:∀t,r.2=H->Q (.bool (bif neg then !r.1 else r.1)) {s with toks:=t}):
  wpAny (model c.prog c.w) c.A (compareOp (lq neg) a' b') Q E s:=by
 refine ex1_2 (Fp e) λl hz e=>?_
 subst e
 obtain⟨a,items,n,rfl,hp,hm,hs⟩:=S.listAt hk vb
 refine ex1_1 (cV va) λ_ zq=>?_;subst zq
 have hh:=wx hz hs
 cases neg
 ·refine kf_in S.ns hm (by simpa using wy hh) (b:=_) rfl ?_
  refine er ((show items.toArray.toList=items from rfl) ..) (er (any_isInt _ hh ..) (el (ln ..) ?_))
  exact hQ _ rfl
 ·refine kf_notin S.ns hm (by simpa using wy hh) (b:= ! _) rfl ?_
  refine er ((show items.toArray.toList=items from rfl) ..) (er (any_isInt _ hh ..) (el (ln ..) ?_))
  exact hQ _ rfl
theorem Fu{neg:Bool}{x:Str}{k:Nat}{es:List (V×V)}{ep:Option Nat}{a' b':Value}{r:Bool×Hp}{Q:Value->Shared->Prop}(O:c.Ok T)(S:St c m ρ nw H s)(va:VR c.K ρ nw (.str x) a')(vb:VR c.K ρ nw (.ref k) b')(hx:H[k]?=some (.dict es ep))(hk:cD (.str x) es=true)(e:UZ (bo (.str x) es).isSome H=some r)(hQ:∀t,r.2=H->Q (.bool (bif neg then !r.1 else r.1)) {s with toks:=t}):
  wpAny (model c.prog c.w) c.A (compareOp (lq neg) a' b') Q E s:=by
 have e:=bW e
 subst e
 obtain⟨a,es',n,rfl,hp,hm,hs,_⟩:=S.dictAt hx vb
 refine ex1_1 (eh va) λ_ zq=>?_;subst zq
 have hk':=Fn hk
 have z:=(r_ (i:=x) hs hk').isSome
 cases neg
 ·refine wpAny_in_of (PySem.strKind_is c.prog c.w x _) (ga O S hm) (i_ S hm (jT c.prog hs hk')) ?_
  refine er ((show(findBy (PySem.strKind c.prog c.w).is es'.toArray x).isSome=_ from z.symm) ..) ?_
  exact hQ _ rfl
 ·refine wpAny_notIn_of (PySem.strKind_is c.prog c.w x _) (ga O S hm) (i_ S hm (jT c.prog hs hk')) ?_
  refine er ((show(findBy (PySem.strKind c.prog c.w).is es'.toArray x).isSome=_ from z.symm) ..) ?_
  exact hQ _ rfl
theorem Fv{neg:Bool}{x:Int}{k:Nat}{es:List (V×V)}{ep:Option Nat}{a' b':Value}{r:Bool×Hp}{Q:Value->Shared->Prop}(O:c.Ok T)(S:St c m ρ nw H s)(va:VR c.K ρ nw (.int x) a')(vb:VR c.K ρ nw (.ref k) b')(hx:H[k]?=some (.dict es ep))(hk:cD (.int x) es=true)(e:UZ (bo (.int x) es).isSome H=some r)(hQ:∀t,r.2=H->Q (.bool (bif neg then !r.1 else r.1)) {s with toks:=t}):
  wpAny (model c.prog c.w) c.A (compareOp (lq neg) a' b') Q E s:=by
 have e:=bW e
 subst e
 obtain⟨a,es',n,rfl,hp,hm,hs,_⟩:=S.dictAt hx vb
 refine ex1_1 (cV va) λ_ zq=>?_;subst zq
 have hk':=Fo hk
 have z:=(r9 (i:=x) hs hk').isSome
 cases neg
 ·refine wpAny_in_of (PySem.intKind_is c.prog c.w x _) (ga O S hm) (i_ S hm (g_ c.prog hs hk')) ?_
  refine er ((show(findBy (PySem.intKind c.prog c.w).is es'.toArray x).isSome=_ from z.symm) ..) ?_
  exact hQ _ rfl
 ·refine wpAny_notIn_of (PySem.intKind_is c.prog c.w x _) (ga O S hm) (i_ S hm (g_ c.prog hs hk')) ?_
  refine er ((show(findBy (PySem.intKind c.prog c.w).is es'.toArray x).isSome=_ from z.symm) ..) ?_
  exact hQ _ rfl
set_option tactic.hygienic true in
theorem wB{neg:Bool}{a b:V}{a' b':Value}{r:Bool×Hp}{Q:Value->Shared->Prop}(O:c.Ok T)(S:St c m ρ nw H s)(va:VR c.K ρ nw a a')(vb:VR c.K ρ nw b b')(e:dA a b H=some r)(hQ:∀t,r.2=H->Q (.bool (bif neg then !r.1 else r.1)) {s with toks:=t}):
  wpAny (model c.prog c.w) c.A (compareOp (lq neg) a' b') Q E s:=by
 cases a<;>first|exact ak e|skip
 ·rename_i x
  refine ex1_2 (i8 e) λk zq e9=>?_;subst zq;clear e
  obtain⟨o,ho,e⟩:=dM e9
  cases o with
  |list ys=>exact Ft O S va vb ho e hQ
  |dict es ep=>exact ai (bg e) λhk e=>Fv O S va vb ho hk e hQ
  |inst _ _=>exact ak e
 ·cases b<;>first|exact ak e|skip
  ·exact Fq O S va vb e hQ
  ·rename_i x k
   obtain⟨o,ho,e⟩:=dM (f:=λo=>jG o (.str x) (ix x)) e
   cases o with
   |list ys=>exact Fs O S va vb ho e hQ
   |dict es ep=>exact ai (bg e) λhk e=>Fu O S va vb ho hk e hQ
   |inst _ _=>exact ak e
theorem Fw{a b:V}{a' b':Value}{r:Bool×Hp}{Q:Value->Shared->Prop}(O:c.Ok T)(S:St c m ρ nw H s)(va:VR c.K ρ nw a a')(vb:VR c.K ρ nw b b')(e:dA a b H=some r)(hQ:∀t,r.2=H->Q (.bool r.1) {s with toks:=t}):
  wpAny (model c.prog c.w) c.A (compareOp .In a' b') Q E s:=wB (neg:=false) O S va vb e hQ
theorem Fx{a b:V}{a' b':Value}{r:Bool×Hp}{Q:Value->Shared->Prop}(O:c.Ok T)(S:St c m ρ nw H s)(va:VR c.K ρ nw a a')(vb:VR c.K ρ nw b b')(e:dA a b H=some r)(hQ:∀t,r.2=H->Q (.bool !r.1) {s with toks:=t}):
  wpAny (model c.prog c.w) c.A (compareOp .NotIn a' b') Q E s:=wB (neg:=true) O S va vb e hQ
theorem Fy{α:Type}{v:V}{f:M α}{r:α×Hp}(h:oQ v f H=some r):v= .none/\f H=some r:=by cases v<;>first|exact⟨rfl,h⟩|exact ak h
theorem wC{v:V}{t:Bool}(h:mx v=some t):(v= .none/\t=true)∨∃x,v= .str x/\t=false:=by
 cases v<;>first|exact ak h|exact .inl ⟨rfl,(Option.some.inj h).symm⟩|exact .inr ⟨_,rfl,(Option.some.inj h).symm⟩
section
variable{a b:V}{a' b':Value}{r:Bool×Hp}{Q:Value->Shared->Prop}
theorem pF{op:CmpOp}{f:Int->Int->Bool}(hc:∀{x y:Int}{u v:Tok},Q (.bool (f x y)) s->wpAny (model c.prog c.w) c.A (compareOp op (.int x u) (.int y v)) Q E s)(va:VR c.K ρ nw a a')(vb:VR c.K ρ nw b b')(e:cw a (λa=>cw b λb=>UZ (f a b)) H=some r)(hQ:∀t,r.2=H->Q (.bool r.1) {s with toks:=t}):
  wpAny (model c.prog c.w) c.A (compareOp op a' b') Q E s:=by
 refine ex1_2 (eL e) λx e1 e=>?_
 refine ex1_2 (eL e) λy e2 e=>?_
 replace va:=e1▸va
 replace vb:=e2▸vb
 have e:=bW e
 refine ei va λu=>?_
 refine ei vb λv=>?_
 exact hc (by have:=hQ s.toks (by refine er (e ..) rfl);rw[e]at this;exact this)
theorem wD{op:CmpOp}{f:Bool->Bool}(hc:∀{x y:Value}{t:Bool},VR c.K ρ nw a x->mx a=some t->Q (.bool (f t)) s->wpAny (model c.prog c.w) c.A (compareOp op x .none) Q E s)(va:VR c.K ρ nw a a')(vb:VR c.K ρ nw b b')(e:oQ b (cU (mx a) λt=>UZ (f t)) H=some r)(hQ:∀t,r.2=H->Q (.bool r.1) {s with toks:=t}):
  wpAny (model c.prog c.w) c.A (compareOp op a' b') Q E s:=by
 refine ai (Fy e) λe1 e=>?_
 refine ex1_2 (d5 e) λt e2 e=>?_
 replace vb:=e1▸vb
 have e:=bW e
 refine rS vb ?_
 exact hc (y:= .none) va e2 (by have:=hQ s.toks (by refine er (e ..) rfl);rw[e]at this;exact this)
theorem Fz{op:CmpOp}(O:c.Ok T)(S:St c m ρ nw H s)(va:VR c.K ρ nw a a')(vb:VR c.K ρ nw b b')(e:af op a b H=some r)(hQ:∀t,r.2=H->Q (.bool r.1) {s with toks:=t}):
  wpAny (model c.prog c.w) c.A (compareOp op a' b') Q E s:=by
 cases op
 ·refine ai (Fh O S va vb e) λh1 h2=>?_
  exact h2 c.prog c.w E Q (hQ s.toks h1)
 ·exact Fk O S va vb e (hQ s.toks)
 ·exact pF PySem.P.lt_int va vb e hQ
 ·exact pF PySem.P.le_int va vb e hQ
 ·exact pF PySem.P.gt_int va vb e hQ
 ·exact pF PySem.P.ge_int va vb e hQ
 ·refine wD (f:=id) (λ{x y t} hv ht q=>?_) va vb e hQ
  rcases wC ht with⟨e1,e2⟩|⟨w,e1,e2⟩
  ·refine rS (e1▸hv:VR c.K ρ nw .none x) ?_;rw[e2]at q;exact wpAny_is_plain rfl q
  ·refine iK (e1▸hv:VR c.K ρ nw (.str w) x) λu=>?_;rw[e2]at q;exact wpAny_is_plain rfl q
 ·refine wD (λ{x y t} hv ht q=>?_) va vb e hQ
  rcases wC ht with⟨e1,e2⟩|⟨w,e1,e2⟩
  ·refine rS (e1▸hv:VR c.K ρ nw .none x) ?_;rw[e2]at q;exact wpAny_isNot_plain rfl q
  ·refine iK (e1▸hv:VR c.K ρ nw (.str w) x) λu=>?_;rw[e2]at q;exact wpAny_isNot_plain rfl q
 ·exact Fw O S va vb e hQ
 ·obtain⟨q,hq,e'⟩:=bind_some (p:=dA a b) (f:=λr=>UZ (!r)) e
  have e2:=bW e'
  refine Fx O S va vb hq λt h=>?_
  have:=hQ t (by refine er (e2 ..) ?_;exact h)
  rw[e2]at this
  exact this
end
theorem se{es:List (Str×V)}{es':List DictEntry}(h:ER c.K ρ nw es es')(n:Str):match(es.find? λe=>decide (e.1=n))with
  |some e=>∃v',getL n es'=some (some v')/\VR c.K ρ nw e.2 v'
  |none=>getL n es'=some none:=by
 induction h with
 |nil=>rfl
 | @cons k v h t v' es es' hv hs ih=>
  simp only[VF]
  by_cases e:k=n
  ·subst e
   simp only[decide_true]
   exact⟨v',by simp[getL,Value.isStr],hv⟩
  ·simp only[decide_eq_false e]
   have g:getL n (⟨h,.str k t,v'⟩::es')=getL n es':=by
    have e2:(Value.str k t).isStr n=false:=by simp[Value.isStr,e]
    unfold getL
    simp only[VF]
    simp only[e2]
    rfl
   refine er (g ..) ?_
   exact ih
theorem FB{v:V}{v':Value}(h:VR c.K ρ nw v v'):handedIn v'=true:=by cases h<;>rfl
theorem wE{C:Addr}{cl:List (Str×cX)}{q:Str×cX}(h:cl.find? (λc=>decide (c.2.addr=C))=some q):q∈cl/\q.2.addr=C:=
 ⟨VJ h,by have:=WY h;simpa using this⟩
theorem wF{α:Type}{o:V}{f:Nat->Addr->Str×cX->List (Str×V)->M α}{r:α×Hp}(h:my T o f H=some r):∃k c es,o= .ref k/\H[k]?=some (.inst c.2.addr es)/\c∈T.clss/\f k c.2.addr c es H=some r:=by
 refine ex1_2 (i8 h) λk e h=>?_
 obtain⟨ob,hob,h⟩:=dM h
 cases ob<;>first|exact ak h|skip
 refine ex1_2 (d5 h) λc hq h=>?_
 refine ai (wE hq) λhm zq=>?_;subst zq
 exact⟨k,c,_,e,hob,hm,h⟩
theorem FD{o:V}{o':Value}{n:Str}{ex:Bool}{r:V×Hp}(O:c.Ok T)(S:St c m ρ nw H s)(vo:VR c.K ρ nw o o')(e:ab o n T H=some r):wpAny (model c.prog c.w) c.A (getAttr o' n ex) (Pv c m ρ nw r) E s:=by
 refine ex3_4 (wF e) λk q es zq hob hqm e=>?_
 refine ai (bg e) λhf e=>?_
 refine ex1_2 (pD e) λv e1 e=>?_
 refine ex1_2 (Option.map_eq_some_iff.mp e1) λx hx e1=>?_
 obtain⟨a,dx,es',k,rfl,hp,h1,h2,h3⟩:=S.instAt hob (zq▸vo)
 have z:=se h3 n
 rw[hx]at z
 refine ex1_2 (z) λv' g1 g2=>?_
 have cl:=O.K.clsAt _ hqm
 refine bK (cl.fld n hf) λf1 f2 f3=>?_
 exact get_own S.fr O.X (InstAt.of_news S.ns h1 h2) f1 cl.hasD f2 rfl g1 (FB g2) (S.fin _ (e1▸g2) e)
theorem wG{es:List (Str×V)}{es':List DictEntry}{n:Str}{v:V}{v':Value}{hsh:Int}{t:Tok}(h:ER c.K ρ nw es es')(hv:VR c.K ρ nw v v'):ER c.K ρ nw (kK n v es) (putL n hsh (.str n t) v' es')/\(putL n hsh (.str n t) v' es').length<=es.length+1:=by
 induction h with
 |nil=>exact⟨.cons hv .nil,by simp[putL]⟩
 | @cons k u h t' u' es es' hu hs ih=>
  unfold kK putL
  by_cases e:k=n
  ·subst e
   have e2:(Value.str k t').isStr k=true:=by simp[Value.isStr]
   simp only[e2,if_true]
   have hl:es'.length=es.length:=by
    clear ih
    induction hs with
    |nil=>rfl
    |cons _ _ ih=>simp[ih]
   exact⟨.cons hv hs,by simp[hl]⟩
  ·have e2:(Value.str k t').isStr n=false:=by simp[Value.isStr,e]
   simp only[e2,if_neg e]
   exact⟨.cons hu ih.1,by have:=ih.2;simp;assumption⟩
theorem FE{o v:V}{o' v':Value}{n:Str}{r:Unit×Hp}(O:c.Ok T)(S:St c m ρ nw H s)(vo:VR c.K ρ nw o o')(vv:VR c.K ρ nw v v')(e:a_ o n v T H=some r)
  {Q:Unit->Shared->Prop}(hQ:∀s' nw',St c m ρ nw' r.2 s'->aG ρ nw ρ nw'->Q () s'):wpAny (model c.prog c.w) c.A (setAttr o' n v') Q E s:=by
 refine ex3_4 (wF e) λk q es zq hob hqm e=>?_
 refine ai (bg e) λhf e=>?_
 obtain⟨a,dx,es',k,rfl,hp,h1,h2,h3⟩:=S.instAt hob (zq▸vo)
 have cl:=O.K.clsAt _ hqm
 refine bK (cl.fld n ((U2 _ _).mp hf).1) λf1 f2 f3=>?_
 have gl:(getL n es').isSome=true:=by
  have z:=se h3 n
  revert z
  cases(es.find? λe=>decide (e.1=n))with
  |none=>intro z;refine er (z ..) ?_;rfl
  |some e=>intro z;exact ex1_1 z λ_ g=>by refine er (g.1 ..) ?_;rfl
 have zz:=wG (n:=n) (hsh:=PyData.keyHash c.w.params n) (t:=s.toks+1) h3 vv
 have hl:es.length<=100:=by simpa using((U2 _ _).mp hf).2
 refine set_dict S.fr O.X S.ns (InstAt.of_news S.ns h1 h2) rfl cl.setA cl.over f3 cl.hasD gl rfl (jQ S.rep.nodup h2) (by lia) λh' F' N'=>?_
 have hr:r.2=_:=congrArg (·.2) (Option.some.inj e).symm
 refine ai (S.changed (o':= .inst q.2.addr (kK n v es)) hob hp (.inr rfl) h2 F' N' (λx=> .inst (gC h1 λe=>nomatch vW S.rep.nodup h1 h2 e) (eK h2) (wG (h3.ext x) (vv.ext x)).1) (s.toks+2)) λS' x=>?_
 exact hQ _ _ (hr▸S') x
end
section
variable{c:Cx}{T:bf}{m:Str->Option Value}{ρ:Ro}{nw:Nw}{H:Hp}{s:Shared}{E:Value->Shared->Prop}
theorem FH{prog:Program}{w:World}{A:Around}{K:Type} [DecidableEq K]{knd:PySem.KeyKind prog w K}{d:Addr}{es:List DictEntry}{n:Nat}{k:K}{key v:Value}{Q:Unit->Shared->Prop}(hkey:knd.is k key=true)
  (ho:s.heap.get? d=some (dictOf es n)) (hk:KeysOf knd es.toArray) (hz:es.length<=sizeLine)
  (h1:∀i,(es.findIdx? λe=>knd.is k e.key)=some i->∀h',Heap.SameBut d s.heap h'->h'.get? d=some (dictOf (es.modify i λe=>{e with val:=v}) n)->Q () {s with heap:=h',toks:=s.toks+1})
  (h2:(es.findIdx? λe=>knd.is k e.key)=none->∀h',Heap.SameBut d s.heap h'->h'.get? d=some (dictOf (es++[⟨knd.hash k,key,v⟩]) (n+1))->Q () {s with heap:=h',toks:=s.toks+1}):
  wpAny (model prog w) A (dictSet d key v) Q E s:=by
 have hd:(dictOf es n).data= .dict es.toArray n:=rfl
 unfold dictSet
 try with_reducible refine wpAny_holding ?_
 refine wpAny_bind (knd.pyHash hkey ?_)
 unfold dictSetHashed
 try with_reducible refine wpAny_holding ?_
 refine wpAny_bind (wpAny_dictFind_of (s:={s with toks:=s.toks+1}) hkey ho hd hk ?_)
 cases hi:es.toArray.findIdx? λe=>knd.is k e.key with
 |some i=>
  rw[Xo]at hi
  refine wpAny_bind (wpAny_rule (wpAny_bind (wpAny_updateDict (s:={s with toks:=s.toks+1}) ho hd (wpAny_point (h1 i hi _ (Heap.SameBut.update ..) ?_)))))
  refine Vu (Heap.get?_update_self _ ho (Obj.isFreed_of_dict (Obj.data_mapDict hd _))) ?_
  simp[Obj.mapDict]
 |none=>
  rw[Xo]at hi
  refine wpAny_bind (wpAny_rule (wpAny_updateDictKeys (hz:=by simpa using hz) (s:={s with toks:=s.toks+1}) ho hd (h2 hi _ (Heap.SameBut.update ..) ?_)))
  refine Vu (Heap.get?_update_self _ ho (Obj.isFreed_of_dict (Obj.data_mapDictKeys hd _))) ?_
  simp[Obj.mapDictKeys]
theorem FI{prog:Program}{w:World}{A:Around}{d:Addr}{es:List DictEntry}{n:Nat}{key v:Value}{Q:Unit->Shared->Prop}(ho:s.heap.get? d=some (dictOf es n))(h:wpAny (model prog w) A.in1 (dictSet d key v) Q E s):
  wpAny (model prog w) A (setItem (.ref d) key v) Q E s:=by
 have hT:s.TypeIs (.ref d) "dict":=⟨_,ho,rfl⟩
 unfold setItem
 try with_reducible refine wpAny_holding ?_
 refine wpAny_bind (wpAny_sequenceKey hT (by decide) ?_)
 refine wpAny_bind (wpAny_callSpecial?_slot (name:=Str.ofString "__setitem__") hT slot_dict_setitem
  (wpAny_call_entry slot_dict_setitem hT entry_dict_setitem ?_ (args_dict_setitem _ _ _)))
 refine wpAny_bind (wpAny_notOrdered_dict hT ?_)
 show wpAny _ _ (dictSet d key v>>=_) _ _ s
 exact wpAny_bind (wpAny_mono h (λ_ _ q=>wpAny_pure ⟨_,rfl,wpAny_pure q⟩) λ_ _ x=>x)
theorem wH{k v:V}:∀{es:List (V×V)}{f:V×V},f∈dJ k v es->f.1=k∨∃g∈es,g.1=f.1
 |[],f,h=>by
  unfold dJ at h
  rw[Ve]at h;subst h;exact .inl rfl
 |e::r,f,h=>by
  unfold dJ at h
  split at h
  ·rcases List.mem_cons.mp h with rfl|h
   ·exact .inr ⟨e,U3 ..,rfl⟩
   ·exact .inr ⟨f,U7 _ h,rfl⟩
  ·rcases List.mem_cons.mp h with rfl|h
   ·exact .inr ⟨_,U3 ..,rfl⟩
   ·rcases wH h with h|⟨g,hg,e⟩
    ·exact .inl h
    ·exact .inr ⟨g,U7 _ hg,e⟩
theorem FJ{P:DictEntry->Bool}{k v:V}{key v':Value}{hsh:Int}{es:List (V×V)}{es':List DictEntry}(hd:DR c.w.params c.K ρ nw es es')
  (hk:∀e∈es,∀q,VR c.K ρ nw e.1 q->∀h v,P ⟨h,q,v⟩=V.keyEq e.1 k) (hkey:VR c.K ρ nw k key) (hv:VR c.K ρ nw v v') (hh:rT c.w.params key hsh):
  (∀i,es'.findIdx? P=some i->(bo k es).isSome=true/\DR c.w.params c.K ρ nw (dJ k v es) (es'.modify i λe=>{e with val:=v'}))/\
  (es'.findIdx? P=none->(bo k es).isSome=false/\DR c.w.params c.K ρ nw (dJ k v es) (es'++[⟨hsh,key,v'⟩])):=by
 induction hd with
 |nil=>exact⟨λi h=>(by exact ak h),λ_=>⟨rfl,.cons hkey hv hh (λf h=>nomatch h) .nil⟩⟩
 | @cons k' u e' es es' h1 h2 h3 h4 hs ih=>
  have e:=hk _ (U3 ..) _ h1 e'.hash e'.val
  refine ai (ih λe he=>hk e (U7 _ he)) λih1 ih2=>?_
  refine er (VQ ..) ?_
  have e0:P e'=V.keyEq k' k:=e
  unfold dJ bo
  refine er (VF ..) (er (e0 ..) ?_)
  cases hq:V.keyEq k' k with
  |true=>
   dsimp only[if_true]
   refine⟨λi h=>?_,λh=>by cases h⟩
   obtain rfl:=Option.some.inj h
   exact⟨rfl,.cons h1 hv h3 h4 hs⟩
  |false=>
   dsimp only[U0,if_false]
   have ap:∀f∈dJ k v es,V.keyEq k' f.1=false:=λf hf=>by
    rcases wH hf with h|⟨g,hg,e⟩
    ·refine er (h ..) ?_;exact hq
    ·refine el (e ..) ?_;exact h4 g hg
   refine⟨λi h=>?_,λh=>?_⟩
   ·refine ex1_2 (Option.map_eq_some_iff.mp h) λj hj zq2=>?_;subst zq2
    refine ai (ih1 j hj) λa b=>?_
    exact⟨a,.cons h1 h2 h3 ap b⟩
   ·refine ai (ih2 (Option.map_eq_none_iff.mp h)) λa b=>?_
    exact⟨a,.cons h1 h2 h3 ap b⟩
theorem wI{A:Around}{i v:V}{i' v':Value}{a:Addr}{k:Nat}{es:List (V×V)}{ep:Option Nat}{es':List DictEntry}{n:Nat}(S:St c m ρ nw H s)(hob:H[k]?=some (.dict es ep))(hp:ρ[k]?=some (a,a))(hm:(a,dictOf es' n)∈nw)(hs:DR c.w.params c.K ρ nw es es')
  (hep:∀e,ep=some e->n=e) (vi:VR c.K ρ nw i i') (vv:VR c.K ρ nw v v') (hk:cD i es=true) (hz:aV es.length=true)
  {Q:Unit->Shared->Prop}(hQ:∀s' nw',St c m ρ nw' (H.set k (.dict (dJ i v es) (if(bo i es).isSome then ep else ep.map (·+1)))) s'->aG ρ nw ρ nw'->Q () s'):wpAny (model c.prog c.w) A (dictSet a i' v') Q E s:=by
 have fin:∀{K:Type} [DecidableEq K] {knd:PySem.KeyKind c.prog c.w K}{kk:K},knd.is kk i'=true->KeysOf knd es'.toArray->rT c.w.params i' (knd.hash kk)->
   (∀e∈es,∀q,VR c.K ρ nw e.1 q->∀(h:Int) (v:Value),knd.is kk (DictEntry.key ⟨h,q,v⟩)=V.keyEq e.1 i)->wpAny (model c.prog c.w) A (dictSet a i' v') Q E s:=by
  intro K _ knd kk hkey hkeys hh hpp
  refine ai (FJ (P:=λe=>knd.is kk e.key) (v:=v) (v':=v') hs hpp vi vv hh) λp1 p2=>?_
  refine FH hkey (S.ns.get hm) hkeys (by refine er (hs.length ..) ?_;exact gb hz) (λj hj h' hsb hg=>?_) (λhj h' hsb hg=>?_)
  ·refine ai (p1 j hj) λg1 g2=>?_
   refine ai (S.change (o':= .dict (dJ i v es) ep) hob hp (.inl rfl) hm hsb hg (λx=> .dict (eK hm) (g2.ext x) hep) (s.toks+1)) λS' x=>?_
   rw[g1]at hQ
   exact hQ _ _ S' x
  ·refine ai (p2 hj) λg1 g2=>?_
   obtain⟨S',x⟩:=S.change (o':= .dict (dJ i v es) (ep.map (·+1))) hob hp (.inl rfl) hm hsb hg (λx=> .dict (eK hm) (g2.ext x) λe he=>by
    refine ex1_2 (Option.map_eq_some_iff.mp he) λe0 h0 zq2=>?_;subst zq2
    refine er (hep e0 h0 ..) rfl) (s.toks+1)
   rw[g1]at hQ
   exact hQ _ _ S' x
 have hk1:=hk
 unfold cD at hk1
 simp only[VG,U2,U2]at hk1
 rcases hk1 with⟨k1,k2⟩|⟨k1,k2⟩
 ·refine ex1_1 (jS k1) λx zq1=>?_;subst zq1
  refine ex1_1 (cV vi) λt zq=>?_;subst zq
  exact fin (PySem.intKind_is c.prog c.w x t) (g_ c.prog hs k2) rfl λe he q hq h v=>wj hq (List.all_eq_true.mp k2 e he)
 ·refine ex1_1 (lg k1) λx zq1=>?_;subst zq1
  refine ex1_1 (eh vi) λt zq=>?_;subst zq
  exact fin (PySem.strKind_is c.prog c.w x t) (jT c.prog hs k2) rfl λe he q hq h v=>r7 hq (List.all_eq_true.mp k2 e he)
section
variable{o i v:V}{o' i' v':Value}{Q:Unit->Shared->Prop}{k:Nat}
theorem FK{xs:List V}{i:Int}(S:St c m ρ nw H s)(hob:H[k]?=some (.list xs))(vo:VR c.K ρ nw (.ref k) o')(vi:VR c.K ρ nw (.int i) i')(vv:VR c.K ρ nw v v')(hz:0<=i/\i<xs.length/\aV xs.length)
  (hQ:∀s' nw',St c m ρ nw' (H.set k (.list (xs.set i.toNat v))) s'->aG ρ nw ρ nw'->Q () s'):wpAny (model c.prog c.w) c.A (setItem o' i' v') Q E s:=by
 obtain⟨a,items,n,rfl,hp,hm,hs⟩:=S.listAt hob vo
 refine ei vi λ_=>?_
 have hz3:=hz.2.2
 unfold aV at hz3
 rw[decide_eq_true_eq]at hz3
 refine ki_setAt (S.ns.get hm) hz.1 (by omega) (by refine er (VC ..) (er (hs.length ..) ?_);exact hz.2.1) ?_
 refine ai (S.change (h':=s.heap.update a (Obj.mapSeq (·.setIfInBounds i.toNat v'))) (ob':=W.listOf (items.set i.toNat v').toArray n) (o':= .list (xs.set i.toNat v)) hob hp (.inl rfl) hm (Heap.SameBut.update ..)
  (by
   refine Vu (Heap.get?_update_self _ (S.ns.get hm) rfl) ?_
   simp[Obj.mapSeq,W.listOf]) (λx=> .list (eK hm) ((hs.ext x).set _ (vv.ext x))) s.toks) λS' x=>?_
 exact hQ _ _ S' x
theorem FL{r:Unit×Hp}(S:St c m ρ nw H s)(vo:VR c.K ρ nw o o')(vi:VR c.K ρ nw i i')(vv:VR c.K ρ nw v v')(e:bi o i v H=some r)
  (hQ:∀s' nw',St c m ρ nw' r.2 s'->aG ρ nw ρ nw'->Q () s'):wpAny (model c.prog c.w) c.A (setItem o' i' v') Q E s:=by
 refine ex1_2 (i8 e) λk zq e=>?_
 replace vo:=zq▸vo
 obtain⟨ob,hob,e⟩:=dM e
 cases ob<;>first|exact ak e|skip
 ·refine ex1_2 (eL e) λn zq e=>?_
  refine ai (bg e) λhz e=>?_
  obtain rfl:=Option.some.inj e
  exact FK S hob vo (zq▸vi) vv hz hQ
 ·refine ai (bg e) λhk e=>?_
  rw[U2]at hk
  refine bZ λgP gh=>?_
  obtain⟨a,es',n,rfl,hp,hm,hs,hep⟩:=S.dictAt hob vo
  refine gh ?_;clear gh gP
  obtain rfl:=Option.some.inj e
  exact FI (S.ns.get hm) (wI S hob hp hm hs hep vi vv hk.1 hk.2 hQ)
end
end
section
variable{c:Cx}{T:bf}{m:Str->Option Value}{ρ:Ro}{nw:Nw}{H:Hp}{s:Shared}{E:Value->Shared->Prop}
theorem pG{n:Nat}(h:aV n=true):n<=100000:=by unfold aV at h;rwa[decide_eq_true_eq]at h
section
variable{v:V}{v':Value}{r:V×Hp}
theorem FM(O:c.Ok T)(S:St c m ρ nw H s)(hv:VR c.K ρ nw v v')(e:bw v H=some r):wpAny (model c.prog c.w) c.A (call (.builtin "len") [v']) (Pv c m ρ nw r) E s:=by
 cases v<;>first|exact ak e|skip
 ·refine ai (bg e) λhz e=>?_
  have:=sa hz
  exact iK hv λt=>PySem.P.len_str (by lia) (S.fin _ (.int _ _) (bW e))
 ·refine ai (bg e) λhz e=>?_
  have:=pG hz
  refine mQ hv λ_ _ ht hs=>?_
  refine len_tuple (S.isTup O ht) (by refine er (VC ..) (er (hs.length ..) ?_);omega) (S.fin _ (.int _ _) ?_)
  refine er (VC ..) (er (hs.length ..) ?_);exact bW e
 ·refine ex1_2 (gE e) λxs hob e=>?_
  refine ai (bg e) λhz e=>?_
  have:=pG hz
  obtain⟨a,items,n,rfl,hp,hm,hs⟩:=S.listAt hob hv
  refine len_list (S.isList hm) (by refine er (VC ..) (er (hs.length ..) ?_);omega) (S.fin _ (.int _ _) ?_)
  refine er (VC ..) (er (hs.length ..) ?_);exact bW e
 ·refine ai (bg e) λhz e=>?_
  rw[decide_eq_true_eq]at hz
  refine vV hv λa items n dd sl hl hs=>?_
  have hL:s.heap.IsList a items.toArray:=⟨_,mS O S hl,rfl,_,rfl⟩
  have hlen:items.length=_:=hs.length
  refine len_list hL (by refine er (VC ..) (er (hlen ..) ?_);lia) (S.fin _ (.int _ _) ?_)
  refine er (VC ..) (er (hlen ..) ?_);exact bW e
theorem FN(O:c.Ok T)(S:St c m ρ nw H s)(hv:VR c.K ρ nw v v')(e:dK v H=some r):wpAny (model c.prog c.w) c.A (call (.type "list") [v']) (Pv c m ρ nw r) E s:=by
 cases v<;>first|exact ak e|skip
 ·refine ai (bg e) λhz e=>?_
  obtain rfl:=Option.some.inj e
  refine mQ hv λ_ _ ht hs=>?_
  refine list_copyKT S.fr S.ns (S.isTup O ht) (λD k h' F' N' fresh=>?_) (by refine er (VC ..) (er (hs.length ..) ?_);exact gb hz)
  exact S.newList F' N' fresh hs s.toks
 ·refine ex1_2 (gE e) λxs hob e=>?_
  refine ai (bg e) λhz e=>?_
  obtain rfl:=Option.some.inj e
  obtain⟨a,items,n,rfl,hp,hm,hs⟩:=S.listAt hob hv
  refine kup_listOf S.fr S.ns hm rfl (λD k h' F' N' fresh=>?_) (by refine er ((show items.toArray.toList=items from rfl) ..) (er (hs.length ..) ?_);exact gb hz)
  exact S.newList F' N' fresh hs s.toks
theorem FP(S:St c m ρ nw H s)(hv:VR c.K ρ nw v v')(e:jH v H=some r):wpAny (model c.prog c.w) c.A (call (.type "str") [v']) (Pv c m ρ nw r) E s:=by
 refine ex1_2 (eL e) λi zq e=>?_
 refine ai (bg e) λhz e=>?_
 simp only[U2,decide_eq_true_eq,decide_eq_true_eq]at hz
 refine ei (zq▸hv:VR c.K ρ nw (.int i) v') λt=>?_
 refine PySem.P.str_of_int ?_ (S.fin _ (.str _ _) (bW e))
 have h1:i.natAbs<2^4:=by lia
 by_cases h0:i.natAbs=0
 ·refine er (h0 ..) ?_;decide
 ·have:=(Yu h0).mpr h1;exact nD ‹_›
end
theorem IP.ext{ρ':Ro}{nw':Nw}(x:aG ρ nw ρ' nw'){es:List (V×V)}{kvs:List (Int×Value)}(h:IP c.K ρ nw es kvs):IP c.K ρ' nw' es kvs:=by
 induction h with
 |nil=>exact .nil
 |cons hv _ ih=>exact .cons (hv.ext x) ih
theorem FQ{es:List (V×V)}{es':List DictEntry}{kvs:List (Int×Value)}{prog:Program}{w:World}(hk:∀e∈es',∃k,(PySem.intKind prog w).is k e.key=true/\e.hash=(PySem.intKind prog w).hash k)(hp:Pairs (PySem.intKind prog w) es' kvs)(hn:(kvs.map (·.1)).Nodup)(hi:IP c.K ρ nw es kvs):DR c.w.params c.K ρ nw es es':=by
 induction hp generalizing es with
 |nil=>cases hi;exact .nil
 | @cons e kv es' kvs h1 h2 ht ih=>
  obtain⟨k,v'⟩:=kv
  rw[Vi,VV]at hn
  cases hi with
  | @cons i v v' es kvs hv hi=>
   obtain⟨t,ht⟩:=Value.isInt_shape h1
   obtain⟨k2,q1,q2⟩:=hk e (U3 ..)
   have hke:k2=k:=Value.isInt_inj _ _ _ q1 h1
   subst hke
   refine .cons ?_ ?_ ?_ ?_ (ih (λe he=>hk e (U7 _ he)) hn.2 hi)
   ·refine er (ht ..) ?_;exact .int _ _
   ·refine er (h2 ..) ?_;exact hv
   ·refine er (ht ..) ?_;exact q2
   ·intro f hf
    have:∀{es:List (V×V)}{kvs:List (Int×Value)},IP c.K ρ nw es kvs->f∈es->∃j∈kvs.map (·.1),f.1= .int j:=by
     intro es kvs h hf
     induction h with
     |nil=>cases hf
     | @cons j _ _ _ _ _ _ ih=>
      rcases List.mem_cons.mp hf with rfl|hf
      ·exact⟨j,by simp,rfl⟩
      ·obtain⟨q,hq,e⟩:=ih hf;exact⟨q,by refine er (Vi ..) ?_;exact U7 _ hq,e⟩
    obtain⟨j,hj,e⟩:=this hi hf
    refine er (e ..) ?_
    simp only[V.keyEq,decide_eq_false_iff_not]
    rintro rfl
    exact hn.1 hj
theorem FR{o:Obj}{es:Array DictEntry}{n:Nat}(h:o.ExactDict)(hd:o.data= .dict es n):o=dictOf es.toList n:=by
 obtain⟨h1,h2,h3⟩:=h
 obtain⟨a,b,d,e⟩:=o
 simp only at h1 h2 h3 hd
 subst h1 h2 h3 hd
 rfl
theorem FS{v:V}{v':Value}{r:V×Hp}(O:c.Ok T)(S:St c m ρ nw H s)(hv:VR c.K ρ nw v v')(e:mz v H=some r):wpAny (model c.prog c.w) c.A (call (.type "dict") [v']) (Pv c m ρ nw r) E s:=by
 refine ex1_2 (i8 e) λk zq e=>?_
 replace hv:=zq▸hv
 obtain⟨ob,hob,e⟩:=dM e
 refine ex2_2 (pC e) λes ep zq e=>?_
 replace hob:=zq▸hob
 refine ai (bg e) λhz e=>?_
 rw[U2]at hz
 refine bZ λgP gh=>?_
 obtain⟨a,es',n,rfl,hp,hm,hs,_⟩:=S.dictAt hob hv
 obtain⟨kvs,p1,p2,p3⟩:=mT c.prog c.w hs hz.2
 refine gh ?_;clear gh gP
 refine kt_call_dict (ga O S hm) (mV S hm (g_ c.prog hs hz.2) p1 p2) (by refine er (mU p3 ..) ?_;exact gb hz.1) λh' hd hsb=>?_
 obtain rfl:=Option.some.inj e
 obtain⟨o,es2,ep2,hg,hx,hdat,hk2,hp2,hn2⟩:=hd
 have ho:=FR hx hdat
 subst ho
 have F1:=S.fr.push {cls:= .type "dict",data:= .dict #[]}
 have N1:=News.push S.fr S.ns {cls:= .type "dict",data:= .dict #[]}
 have z:=N1 _ (U3 ..)
 refine ai (S.newAt (o:= .dict es .none) (F1.change hsb z.2.1 z.2.2) (News.setIn (own:=[]) N1 (λ_ h=>nomatch h) (λp hp=>g9 S.ns p hp) hsb hg) (λp hp=>Heap.lt_size (S.ns p hp).1)
  (λx=> .dict (U3 ..) (FQ (prog:=c.prog) (w:=c.w) (λe he=>hk2 e (by simpa using he)) hp2 hn2 (p3.ext x)) (λ_ h=>nomatch h)) s.toks) λS' x=>?_
 exact⟨_,_,ld (_,_) _ S.rep.len,S',x⟩
theorem FT{n:Str}{v:V}{v' f:Value}{r:V×Hp}(O:c.Ok T)(S:St c m ρ nw H s)(hv:VR c.K ρ nw v v')(e:o0 n v H=some r)(hf:f=if n=Str.ofString "len"then .builtin "len"else .type n.toString):
  n∈fB/\wpAny (model c.prog c.w) c.A (call f [v']) (Pv c m ρ nw r) E s:=by
 refine hf▸?_;clear hf
 unfold o0 at e
 refine i9 (λh e=>?_) (λh e=>i9 (λh e=>?_) (λh e=>i9 (λh e=>?_) (λh e=>i9 (λh e=>?_) (λh e=>ak e) e) e) e) e<;>subst h
 ·exact⟨by simp[fB],FM O S hv e⟩
 ·exact⟨by simp[fB],FN O S hv e⟩
 ·exact⟨by simp[fB],FS O S hv e⟩
 ·exact⟨by simp[fB],FP S hv e⟩
end
section
variable{c:Cx}{T:bf}{m:Str->Option Value}{ρ:Ro}{nw:Nw}{H:Hp}{s:Shared}{E:Value->Shared->Prop}
theorem FU{v:V}{v':Value}{xs:List V}{vs:List Value}(hv:VR c.K ρ nw v v')(h1:v.isKeyInt=true)(hs:kf_ints vs=true/\∀k,kf_at k vs=f7 xs k):kf_ints (v'::vs)=true/\∀k,kf_at k (v'::vs)=f7 (v::xs) k:=by
 refine ex1_1 (jS h1) λi zq1=>?_
 subst zq1
 refine ex1_1 (cV hv) λt zq=>?_;subst zq
 refine⟨hs.1,λk=>?_⟩
 have b:=hs.2 k
 unfold f7 at b⊢
 simp only[show kf_at k (Value.int i t::vs)=(bif isInt k (Value.int i t)then some 0 else match kf_at k vs with|some j=>some (j+1)|none=>none)from rfl,VQ,b,show V.keyEq (.int i) (.int k)=(i==k)from rfl,show isInt k (.int i t)=(i==k)from rfl]
 cases i==k
 ·cases Yb (λv=>v.keyEq (V.int k)) xs<;>rfl
 ·rfl
theorem wJ:∀{xs:List V}{vs:List Value},VRs c.K ρ nw xs vs->i2 xs=true->kf_ints vs=true/\∀k,kf_at k vs=f7 xs k:=
 λh=>VRs.ind (P:=λxs vs=>i2 xs=true->kf_ints vs=true/\∀k,kf_at k vs=f7 xs k) (λ_=>⟨rfl,λ_=>rfl⟩)
  (λhv _ ih h=>have h:=(U2 _ _).mp h;FU hv h.1 (ih h.2)) h
theorem FV:∀{xs:List V}{vs:List Value},VRs c.K ρ nw xs vs->dY xs=true->∃l,StrsAre vs l:=
 λh=>VRs.ind (P:=λxs vs=>dY xs=true->∃l,StrsAre vs l) (λ_=>⟨[],.nil⟩)
  (λhv _ ih h=>by
   have h:=(U2 _ _).mp h
   refine ex1_1 (lg h.1) λi zq4=>?_
   subst zq4
   refine ex1_1 (ih h.2) λl hl=>?_
   refine ex1_1 (eh hv) λt zq=>?_;subst zq
   exact⟨i::l,.cons i t hl⟩) h
theorem wK:∀{xs:List V}{vs:List Value},VRs c.K ρ nw xs vs->dY xs=true->∀(k:Nat) (y:Str) (h1:k<xs.length) (h2:k<vs.length),Value.isStrOf y vs[k]=V.keyEq xs[k] (.str y):=by
 intro xs vs h h3 k y h1 h2
 refine ex1_2 (h.get (U8 h1)) λv e hv=>?_
 rw[U8 h2]at e
 refine er (Option.some.inj e ..) ?_
 exact r7 hv (List.all_eq_true.mp h3 _ (VO h1))
theorem wL:∀{vs:List Value}{y:Value},vs.getLast?=some y->kl_last vs=some (vs.dropLast,y)
 |[],_,h=>by exact ak h
 |[x],y,h=>by cases h;rfl
 |x::z::r,y,h=>by
  rw[List.getLast?_cons_cons]at h
  unfold kl_last
  refine er (wL h ..) ?_
  rfl
theorem VRs.last:∀{xs:List V}{vs:List Value},VRs c.K ρ nw xs vs->∀{x:V},xs.getLast?=some x->∃v,vs.getLast?=some v/\VR c.K ρ nw x v:=
 λ{xs vs} h {x} e=>by
  rw[VY,←h.length]at e
  refine er (VY ..) ?_
  exact h.get e
theorem wM:∀{l:List Value}{j:Nat},j<l.length->ki_delL l j=some (l.eraseIdx j)
 |x::r,0,_=>rfl
 |x::r,j+1,h=>by
  unfold ki_delL
  refine er (wM (by simpa using h) ..) ?_
  rfl
noncomputable def gc:Me->String
 | .append=>"list.append"
 | .pop=>"list.pop"
 | .remove=>"list.remove"
 | .index=>"list.index"
 | .insert=>"list.insert"
 |_=>""
theorem FW{k:Nat}{xs:List V}{o':Value}{r:V×Hp}(S:St c m ρ nw H s)(hk:H[k]?=some (.list xs))(vo:VR c.K ρ nw (.ref k) o')(hz:aV xs.length=true){v:V}{v':Value}(hv:VR c.K ρ nw v v')(e:UX (c_ k (.list (xs++[v]))) (λ_=>UZ .none) H=some r):
  wpAny (model c.prog c.w) c.A (call (.builtin (gc .append)) [o',v']) (Pv c m ρ nw r) E s:=by
 obtain⟨a,items,n,rfl,hp,hm,hs⟩:=S.listAt hk vo
 have hz1:items.length<=sizeLine:=by refine er (hs.length ..) ?_;exact gb hz
 refine append_K S.fr S.ns (jQ S.rep.nodup hm) (λh' F' N'=>?_) (by simpa using hz1)
 have hl:items.toArray.push v'=(items++[v']).toArray:=by simp
 rw[hl]at N'
 obtain⟨S',x⟩:=S.changed (o':= .list (xs++[v])) hk hp (.inl rfl) hm F' N' (λx=> .list (eK hm) ((hs.append (.one hv)).ext x)) s.toks
 obtain rfl:=Option.some.inj e
 exact⟨_,_,.none,S',x⟩
theorem FX{k:Nat}{xs:List V}{o':Value}{r:V×Hp}(S:St c m ρ nw H s)(hk:H[k]?=some (.list xs))(vo:VR c.K ρ nw (.ref k) o')(hz:aV xs.length=true){v:V}(hl:xs.getLast?=some v)(e:UX (c_ k (.list xs.dropLast)) (λ_=>UZ v) H=some r):
  wpAny (model c.prog c.w) c.A (call (.builtin (gc .pop)) [o']) (Pv c m ρ nw r) E s:=by
 obtain⟨a,items,n,rfl,hp,hm,hs⟩:=S.listAt hk vo
 have hz1:items.length<=sizeLine:=by refine er (hs.length ..) ?_;exact gb hz
 obtain⟨v',h1,h2⟩:=hs.last hl
 refine kl_pop S.fr S.ns (wL h1) (jQ S.rep.nodup hm) hz1 (λh' F' N'=>?_)
 obtain⟨S',x⟩:=S.changed (o':= .list xs.dropLast) hk hp (.inl rfl) hm F' N' (λx=> .list (eK hm) (hs.dropLast.ext x)) s.toks
 obtain rfl:=Option.some.inj e
 exact⟨_,_,h2.ext x,S',x⟩
theorem FY{k:Nat}{xs:List V}{o':Value}{r:V×Hp}(S:St c m ρ nw H s)(hk:H[k]?=some (.list xs))(vo:VR c.K ρ nw (.ref k) o')(hz:aV xs.length=true){y:Int}{v':Value}{j:Nat}(hv:VR c.K ρ nw (.int y) v')(hi:i2 xs=true)(hj:f7 xs y=some j)(e:UX (c_ k (.list (xs.eraseIdx j))) (λ_=>UZ .none) H=some r):
  wpAny (model c.prog c.w) c.A (call (.builtin (gc .remove)) [o',v']) (Pv c m ρ nw r) E s:=by
 obtain⟨a,items,n,rfl,hp,hm,hs⟩:=S.listAt hk vo
 have hz1:items.length<=sizeLine:=by refine er (hs.length ..) ?_;exact gb hz
 obtain⟨k1,k2⟩:=wJ hs hi
 refine ex1_1 (cV hv) λt zq=>?_;subst zq
 have hj':kf_at y items=some j:=by refine er (k2 ..) ?_;exact hj
 obtain⟨b1,_⟩:=kf_at_spec hj'
 refine kf_remove S.fr S.ns k1 hj' (wM b1) (jQ S.rep.nodup hm) hz1 (λh' F' N'=>?_)
 obtain⟨S',x⟩:=S.changed (o':= .list (xs.eraseIdx j)) hk hp (.inl rfl) hm F' N' (λx=> .list (eK hm) ((hs.eraseIdx j).ext x)) s.toks
 obtain rfl:=Option.some.inj e
 exact⟨_,_,.none,S',x⟩
theorem FZ{k:Nat}{xs:List V}{o':Value}{r:V×Hp}(S:St c m ρ nw H s)(hk:H[k]?=some (.list xs))(vo:VR c.K ρ nw (.ref k) o')(hz:aV xs.length=true){y:Int}{v':Value}{j:Nat}(hv:VR c.K ρ nw (.int y) v')(hi:i2 xs=true)(hj:f7 xs y=some j)(e:UZ (.int j) H=some r):
  wpAny (model c.prog c.w) c.A (call (.builtin (gc .index)) [o',v']) (Pv c m ρ nw r) E s:=by
 obtain⟨a,items,n,rfl,hp,hm,hs⟩:=S.listAt hk vo
 have hz1:items.length<=sizeLine:=by refine er (hs.length ..) ?_;exact gb hz
 obtain⟨k1,k2⟩:=wJ hs hi
 refine ex1_1 (cV hv) λt zq=>?_;subst zq
 exact kf_index S.ns hm k1 ((k2 y).trans hj) rfl hz1 (S.fin _ (.int _ _) (bW e))
theorem F7{k:Nat}{xs:List V}{o':Value}{r:V×Hp}(S:St c m ρ nw H s)(hk:H[k]?=some (.list xs))(vo:VR c.K ρ nw (.ref k) o')(hz:aV xs.length=true){y:Str}{v':Value}{j:Nat}(hv:VR c.K ρ nw (.str y) v')(hi:dY xs=true)(hj:xs.findIdx? (λv=>V.keyEq v (.str y))=some j)(e:UZ (.int j) H=some r):
  wpAny (model c.prog c.w) c.A (call (.builtin (gc .index)) [o',v']) (Pv c m ρ nw r) E s:=by
 obtain⟨a,items,n,rfl,hp,hm,hs⟩:=S.listAt hk vo
 have hz2:items.length<=100000:=by refine er (hs.length ..) ?_;exact pG hz
 refine ex1_1 (eh hv) λt zq=>?_;subst zq
 obtain⟨l,hl⟩:=FV hs hi
 obtain⟨q1,q2,q3⟩:=List.findIdx?_eq_some_iff_getElem.mp hj
 have q1':j<items.length:=by refine er (hs.length ..) ?_;exact q1
 refine call_meets PySem.F.slot_list_index ⟨_,S.ns.get hm,rfl⟩ PySem.F.entry_list_index (PySem.F.args_list_index_2 _ _)
  (MeetsSeq.list_index a items.toArray n (.str y t) (Value.isStrOf y) (λz hz=>sd hl z (by simpa using hz)) j (by simpa using q1') (by lia) ?_ ?_) ⟨S.ns.get hm,S.fin _ (.int _ _) (bW e)⟩
 ·have:=wK hs hi j y q1 q1'
  simpa[q2]using this
 ·intro i hi' hlt
  have hi2:i<items.length:=by simpa using hi'
  have:=wK hs hi i y (by refine el (hs.length ..) ?_;exact hi2) hi2
  have q:=q3 i hlt
  simp only[WS]at q
  rw[q]at this
  simpa using this
theorem F8{k:Nat}{xs:List V}{o':Value}{r:V×Hp}(S:St c m ρ nw H s)(hk:H[k]?=some (.list xs))(vo:VR c.K ρ nw (.ref k) o')(hz:aV xs.length=true){i:Int}{v:V}{i' v':Value}(hv:VR c.K ρ nw (.int i) i')(hw:VR c.K ρ nw v v')(hi:0<=i/\i<=xs.length)(e:UX (c_ k (.list (xs.take i.toNat++v::xs.drop i.toNat))) (λ_=>UZ .none) H=some r):
  wpAny (model c.prog c.w) c.A (call (.builtin (gc .insert)) [o',i',v']) (Pv c m ρ nw r) E s:=by
 obtain⟨a,items,n,rfl,hp,hm,hs⟩:=S.listAt hk vo
 have hz1:items.length<=sizeLine:=by refine er (hs.length ..) ?_;exact gb hz
 refine ex1_1 (cV hv) λt zq=>?_;subst zq
 have hz2:items.length<=100000:=by refine er (hs.length ..) ?_;exact pG hz
 have hi2:i<=items.length:=by refine er (hs.length ..) ?_;exact hi.2
 have he:kl_ins items i v'=items.take i.toNat++v'::items.drop i.toNat:=by
  unfold kl_ins
  have:(if i<0 then(i+(items.length:Int)).toNat else min i.toNat items.length)=i.toNat:=by
   refine er (if_neg (by lia) ..) ?_;lia
  refine er (this ..) rfl
 refine kl_insert S.fr S.ns (by simp[Builtin.List.listFitsIndex];omega) he (jQ S.rep.nodup hm) hz1 (λh' F' N'=>?_)
 obtain⟨S',x⟩:=S.changed (o':= .list (xs.take i.toNat++v::xs.drop i.toNat)) hk hp (.inl rfl) hm F' N' (λx=> .list (eK hm) (((hs.take _).append (.cons hw (hs.drop _))).ext x)) s.toks
 obtain rfl:=Option.some.inj e
 exact⟨_,_,.none,S',x⟩
@[elab_as_elim] theorem jU{P:List Value->Prop}{x:V}{l:List Value}(h:VRs c.K ρ nw [x] l)(k:∀v,VR c.K ρ nw x v->P [v]):P l:=pq h λv _ hv hs=>pt hs (k v hv)
@[elab_as_elim] theorem pH{P:List Value->Prop}{x y:V}{l:List Value}(h:VRs c.K ρ nw [x,y] l)(k:∀v w,VR c.K ρ nw x v->VR c.K ρ nw y w->P [v,w]):P l:=pq h λv _ hv hs=>jU hs λw hw=>k v w hv hw
section
variable{args:List V}{o':Value}{vs:List Value}{r:V×Hp}{k:Nat}
theorem wN{xs:List V}{me:Me}(S:St c m ρ nw H s)(hk:H[k]?=some (.list xs))(vo:VR c.K ρ nw (.ref k) o')(va:VRs c.K ρ nw args vs)(e:i3 k xs me args H=some r):
  wpAny (model c.prog c.w) c.A (call (.builtin (gc me)) (o'::vs)) (Pv c m ρ nw r) E s:=by
 refine ai (bg e) λhz e9=>?_
 clear e
 cases me<;>first|exact ak e9|skip
 ·exact ex1_2 (gD e9) λy zq e=>jU (zq▸va:VRs c.K ρ nw [y] vs) λy' hv=>FW S hk vo hz hv e
 ·refine ai (v_ e9) λzq e=>?_
  refine pt (zq▸va:VRs c.K ρ nw [] vs) ?_
  exact ex1_2 (d5 e) λv hl e=>FX S hk vo hz hl e
 ·refine ex1_2 (gD e9) λy zq e=>?_
  refine jU (zq▸va:VRs c.K ρ nw [y] vs) λy' hv=>?_
  refine ex1_2 (eL e) λi zq e=>?_
  exact ai (bg e) λhi e=>ex1_2 (d5 e) λj hj e=>FY S hk vo hz (zq▸hv) hi hj e
 ·refine ex1_2 (gD e9) λy zq e=>?_
  refine jU (zq▸va:VRs c.K ρ nw [y] vs) λy' hv=>?_
  clear e9 va
  cases y<;>first|exact ak e|skip
  ·exact ai (bg e) λhi e=>ex1_2 (d5 e) λj hj e=>FZ S hk vo hz hv hi hj e
  ·exact ai (bg e) λhi e=>ex1_2 (d5 e) λj hj e=>F7 S hk vo hz hv hi hj e
 ·refine ex2_2 (wa e9) λx y zq e=>?_
  refine pH (zq▸va:VRs c.K ρ nw [x,y] vs) λx' y' hv hw=>?_
  refine ex1_2 (eL e) λi zq e=>?_
  refine ai (bg e) λhi e=>?_
  rw[U2,decide_eq_true_eq,decide_eq_true_eq]at hi
  exact F8 S hk vo hz (zq▸hv) hw hi e
theorem ej.getD{o:Option V}{q:Option Value}{d:V}{d':Value}(h:ej c.K ρ nw o q)(hd:VR c.K ρ nw d d'):VR c.K ρ nw (o.getD d) (q.getD d'):=by
 cases h with
 |none=>exact hd
 |some hv=>exact hv
theorem F_{es:List (V×V)}{ep:Option Nat}(O:c.Ok T)(S:St c m ρ nw H s)(hk:H[k]?=some (.dict es ep))(vo:VR c.K ρ nw (.ref k) o')(va:VRs c.K ρ nw args vs)(e:kP es .get args H=some r):
  wpAny (model c.prog c.w) c.A (call (.builtin "dict.get") (o'::vs)) (Pv c m ρ nw r) E s:=by
 refine ex2_2 (wa e) λi d zq e=>?_
 refine pH (zq▸va:VRs c.K ρ nw [i,d] vs) λi' d' hi hd=>?_
 refine ai (bg e) λhkk e=>?_
 have e:=bW e
 obtain⟨a,es',n,rfl,hp,hm,hs,_⟩:=S.dictAt hk vo
 have hT:s.TypeIs (.ref a) "dict":=⟨_,S.ns.get hm,rfl⟩
 unfold cD at hkk
 simp only[VG,U2,U2]at hkk
 rcases hkk with⟨k1,k2⟩|⟨k1,k2⟩
 ·refine ex1_1 (jS k1) λx zq1=>?_
  refine ei (zq1▸hi:VR c.K ρ nw (.int x) i') λt=>?_
  exact call_meetsIn PySem.F.slot_dict_get hT PySem.F.entry_dict_get (PySem.F.args_dict_get_3 _ _ _) (meets_dict_get_default (PySem.intKind c.prog c.w) a (PySem.intKind_is c.prog c.w x t) (ga O S hm) d') ⟨_,i_ S hm (g_ c.prog hs k2),S.fin _ ((zq1▸r9 (i:=x) hs k2:ej c.K ρ nw (bo i es) _).getD hd) e⟩
 ·refine ex1_1 (lg k1) λx zq1=>?_
  refine iK (zq1▸hi:VR c.K ρ nw (.str x) i') λt=>?_
  exact call_meetsIn PySem.F.slot_dict_get hT PySem.F.entry_dict_get (PySem.F.args_dict_get_3 _ _ _) (meets_dict_get_default (PySem.strKind c.prog c.w) a (PySem.strKind_is c.prog c.w x t) (ga O S hm) d') ⟨_,i_ S hm (jT c.prog hs k2),S.fin _ ((zq1▸r_ (i:=x) hs k2:ej c.K ρ nw (bo i es) _).getD hd) e⟩
theorem sf:∀{l:List (Str×Tok)}{ys:List Str},l.map (·.1)=ys->VRs c.K ρ nw (ys.map .str) (strValues l)
 |[],_,rfl=> .nil
 |_::_,_,rfl=> .cons (.str _ _) (sf rfl)
theorem Ga{x:Str}{t:Tok}(S:St c m ρ nw H s)(va:VRs c.K ρ nw args vs)(e:oS x .split args H=some r):
  wpAny (model c.prog c.w) c.A (call (.builtin "str.split") (.str x t::vs)) (Pv c m ρ nw r) E s:=by
 refine ai (bg e) λhz e=>?_
 have hz1:x.length+2<=sizeLine:=li (by have:=sa hz;lia)
 cases args with
 |nil=>
  refine pt va ?_
  obtain rfl:=Option.some.inj e
  exact KSpl.split0 S.fr S.ns (λD l h' k e1 _ F' N' fresh=>S.newList F' N' fresh (sf e1) k) hz1
 |cons cc r=>
  refine ai (v_ e) λzq e=>?_
  refine ex1_2 (pB e) λy zq2 e=>?_
  refine ai (bg e) λhc e=>?_
  refine jU (zq2▸zq▸va:VRs c.K ρ nw [.str y] vs) λv hv=>?_
  refine iK hv λu=>?_
  obtain rfl:=Option.some.inj e
  exact KSpl.split1 S.fr S.ns (by refine er (of_decide_eq_true hc ..) ?_;rfl) (λD l h' k e1 _ F' N' fresh=>S.newList F' N' fresh (sf e1) k) hz1
end
end
inductive b_(c:Cx)(m:Str->Option Value)(ρ:Ro)(nw:Nw)(k:V->K)(res:V×Hp)(v':Value)(s':Shared):Prop
 |mk (v:V) (H':Hp) (ρ':Ro) (nw':Nw) (a:VR c.K ρ' nw' v v') (b:St c m ρ' nw' H' s') (d:aG ρ nw ρ' nw') (e:k v H'=some res)
inductive jc(c:Cx)(m:Str->Option Value)(ρ:Ro)(nw:Nw)(k:Bool->K)(res:V×Hp)(t:Bool)(s':Shared):Prop
 |mk (H':Hp) (ρ':Ro) (nw':Nw) (b:St c m ρ' nw' H' s') (d:aG ρ nw ρ' nw') (e:k t H'=some res)
inductive pJ(c:Cx)(m:Str->Option Value)(ρ:Ro)(nw:Nw)(k:List V->K)(res:V×Hp)(vs':List Value)(s':Shared):Prop
 |mk (vs:List V) (H':Hp) (ρ':Ro) (nw':Nw) (a:VRs c.K ρ' nw' vs vs') (b:St c m ρ' nw' H' s') (d:aG ρ nw ρ' nw') (e:k vs H'=some res)
structure At(c:Cx)(env:Env)(sc:Scope)(m:Str->Option Value)(ρ:Ro)(nw:Nw)(H:Hp)(s:Shared)(vars:Z):Prop where
 st:St c m ρ nw H s
 ev:i7 env sc
 vs:pv c env sc m ρ nw vars
 cl:pz env sc ρ nw
noncomputable def SE(c:Cx)(re:Scope->Expr->Z->(V->K)->K):Prop:=
 ∀{m:Str->Option Value}{ρ:Ro}{nw:Nw}{H:Hp}{s:Shared}{env:Env}{sc:Scope}{vars:Z}{e:Expr}{k:V->K}{res:V×Hp}(E:Value->Shared->Prop),
  At c env sc m ρ nw H s vars->re sc e vars k H=some res->wpAny (model c.prog c.w) c.A (eval e env) (b_ c m ρ nw k res) E s
noncomputable def SB(c:Cx)(rb:Scope->Expr->Z->(Bool->K)->K):Prop:=
 ∀{m:Str->Option Value}{ρ:Ro}{nw:Nw}{H:Hp}{s:Shared}{env:Env}{sc:Scope}{vars:Z}{e:Expr}{k:Bool->K}{res:V×Hp}(E:Value->Shared->Prop),
  At c env sc m ρ nw H s vars->rb sc e vars k H=some res->wpAny (model c.prog c.w) c.A (isTrue e env (eval e env)) (jc c m ρ nw k res) E s
structure hF(c:Cx)(T:bf):Prop where
 fn:∀{m:Str->Option Value}{ρ:Ro}{nw:Nw}{H:Hp}{s:Shared}(E:Value->Shared->Prop) {a:Addr}{vs:List V}{vs':List Value}{r:V×Hp},St c m ρ nw H s->VRs c.K ρ nw vs vs'->T.call a vs H=some r->
  keepIn c.K (.ref a)=true/\wpAny (model c.prog c.w) c.A (call (.ref a) vs') (Pv c m ρ nw r) E s
 cls:∀{m:Str->Option Value}{ρ:Ro}{nw:Nw}{H:Hp}{s:Shared}(E:Value->Shared->Prop) {n:Str}{q:cX}{vs:List V}{vs':List Value}{r:V×Hp},T.clss.lookup n=some q->St c m ρ nw H s->VRs c.K ρ nw vs vs'->gZ T q vs H=some r->
  wpAny (model c.prog c.w) c.A (call (.ref q.addr) vs') (Pv c m ρ nw r) E s
section
variable{c:Cx}{T:bf}{r:Lv}{m:Str->Option Value}{ρ:Ro}{nw:Nw}{H:Hp}{s:Shared}{E:Value->Shared->Prop}{env:Env}{sc:Scope}{vars:Z}
theorem At.next{H':Hp}{ρ':Ro}{nw':Nw}{s':Shared}(A:At c env sc m ρ nw H s vars)(S:St c m ρ' nw' H' s')(x:aG ρ nw ρ' nw'):At c env sc m ρ' nw' H' s' vars:=⟨S,A.ev,A.vs.ext x,A.cl.ext x⟩
theorem fE{ρ':Ro}{nw':Nw}{k:V->K}{res:V×Hp}(x:aG ρ nw ρ' nw'){v:Value}{s':Shared}:b_ c m ρ' nw' k res v s'->b_ c m ρ nw k res v s'
 |⟨v,H',r',n',a,b,d,e⟩=>⟨v,H',r',n',a,b,x.trans d,e⟩
theorem hG{k:V->K}{res p:V×Hp}(e:k p.1 p.2=some res){v:Value}{s':Shared}:Pv c m ρ nw p v s'->b_ c m ρ nw k res v s'
 |⟨r',n',a,b,d⟩=>⟨p.1,p.2,r',n',a,b,d,e⟩
theorem lr{k:V->K}{res:V×Hp}{v:V}{v':Value}(S:St c m ρ nw H s)(hv:VR c.K ρ nw v v')(e:k v H=some res):b_ c m ρ nw k res v' s:=⟨v,H,ρ,nw,hv,S,.refl,e⟩
theorem jV{e:Expr}{es:List Expr}{env:Env}(ns:cr (e::es)=true):starEach (e::es) env=(false,eval e env)::starEach es env:=by
 have n1:=((U2 _ _).mp ns).1
 clear ns
 cases e<;>first|rfl|exact Bool.noConfusion n1
theorem mX{e:Expr}{es:List Expr}(ns:cr (e::es)=true):cr es=true:=((U2 _ _).mp ns).2
theorem pK(he:SE c r.e):∀(es:List Expr) {m:Str->Option Value}{ρ:Ro}{nw:Nw}{H:Hp}{s:Shared}{env:Env}{sc:Scope}{vars:Z}{k:List V->K}{res:V×Hp}{pos:Pos}(E:Value->Shared->Prop),At c env sc m ρ nw H s vars->cr es=true->dc r sc vars es k H=some res->
  wpAny (model c.prog c.w) c.A (spliced (backTo pos (starEach es env))) (pJ c m ρ nw k res) E s
 |[],m,ρ,nw,H,s,env,sc,vars,k,res,pos,E,A,_,h=>spliced_none ⟨[],H,ρ,nw,.nil,A.st,.refl,h⟩
 |e::es,m,ρ,nw,H,s,env,sc,vars,k,res,pos,E,A,ns,h=>by
  have hs:=jV (env:=env) ns
  refine spliced_more (wpAny_mono (he E A h) (λv s₁ q=>?_) λ_ _ x=>x) hs
  obtain⟨v1,H1,ρ1,nw1,hv,S1,x1,e1⟩:=q
  refine wpAny_mono (pK he es E (A.next S1 x1) (mX ns) e1) (λvs s₂ q=>?_) λ_ _ x=>x
  obtain⟨vs1,H2,ρ2,nw2,hvs,S2,x2,e2⟩:=q
  exact⟨v1::vs1,H2,ρ2,nw2,.cons (hv.ext x2) hvs,S2,x1.trans x2,e2⟩
theorem mY{pos:Pos}:∀{es:List Expr},cr es=true->(backTo pos (starEach es env)).any (·.1)=false
 |[],_=>rfl
 |e::es,h=>by
  have hs:=jV (env:=env) h
  refine er (hs ..) ?_
  show(false||(backTo pos (starEach es env)).any (·.1))=false
  refine er (mY (mX h) ..) ?_;rfl
end
section
variable{c:Cx}{T:bf}{r:Lv}{m:Str->Option Value}{ρ:Ro}{nw:Nw}{H:Hp}{s:Shared}{E:Value->Shared->Prop}{env:Env}{sc:Scope}{vars:Z}
theorem sg{v:V}{q:Bool×Hp}(h:truthy v H=some q):v= .bool q.1/\q.2=H:=by
 unfold truthy at h
 split at h
 ·cases h;exact⟨rfl,rfl⟩
 ·exact ak h
theorem wO(he:SE c r.e){op:BoolOp}{pos:Pos}:∀(es:List Expr) {m:Str->Option Value}{ρ:Ro}{nw:Nw}{H:Hp}{s:Shared}{env:Env}{sc:Scope}{vars:Z}{k:V->K}{res:V×Hp}(E:Value->Shared->Prop),At c env sc m ρ nw H s vars->mC r sc vars op es k H=some res->
  wpAny (model c.prog c.w) c.A (boolOp pos op (evalEach es env)) (b_ c m ρ nw k res) E s
 |[],m,ρ,nw,H,s,env,sc,vars,k,res,E,A,h=>by exact ak h
 |[e],m,ρ,nw,H,s,env,sc,vars,k,res,E,A,h=>he E A h
 |e::e2::es,m,ρ,nw,H,s,env,sc,vars,k,res,E,A,h=>by
  show wpAny _ _ (do
   let v←eval e env
   standAt pos
   let t←holding [v] (PySem.truthy v)
   match op,t with
   | .And,false| .Or,true=>pure v
   |_,_=>boolOp pos op (evalEach (e2::es) env)) _ _ _
  refine wpAny_bind (wpAny_mono (he E A h) (λv s₁ q=>?_) λ_ _ x=>x)
  obtain⟨v1,H1,ρ1,nw1,hv,S1,x1,e1⟩:=q
  obtain⟨q,hq,e1⟩:=bind_some e1
  refine ai (sg hq) λzq0 hq2=>?_;subst zq0
  rw[hq2]at e1
  have zq:=lb hv;subst zq
  refine wpAny_bind (wpAny_standAt (wpAny_bind (wpAny_holding (wpAny_truthy_bool ?_))))
  have more:mC r sc vars op (e2::es) k H1=some res->wpAny (model c.prog c.w) c.A (boolOp pos op (evalEach (e2::es) env)) (b_ c m ρ nw k res) E s₁:=λh1=>
   wpAny_mono (wO he (e2::es) E (A.next S1 x1) h1) (λ_ _ q=>fE x1 q) λ_ _ x=>x
  have now:k (.bool q.1) H1=some res->wpAny (model c.prog c.w) c.A (pure (Value.bool q.1)) (b_ c m ρ nw k res) E s₁:=λh1=>
   wpAny_pure ⟨_,H1,ρ1,nw1,.bool _,S1,x1,h1⟩
  revert e1 now
  cases op<;>cases q.1<;>intro e1 now
  ·exact now e1
  ·exact more e1
  ·exact more e1
  ·exact now e1
theorem wP(hb:SB c r.b){op:BoolOp}:∀(es:List Expr) {m:Str->Option Value}{ρ:Ro}{nw:Nw}{H:Hp}{s:Shared}{env:Env}{sc:Scope}{vars:Z}{k:Bool->K}{res:V×Hp}(E:Value->Shared->Prop),At c env sc m ρ nw H s vars->mD r sc vars op es k H=some res->
  wpAny (model c.prog c.w) c.A (allTrue op es env) (jc c m ρ nw k res) E s
 |[],m,ρ,nw,H,s,env,sc,vars,k,res,E,A,h=>by
  refine er (arm_allTrue_nil ..) ?_
  refine wpAny_pure ⟨H,ρ,nw,A.st,.refl,?_⟩
  cases op<;>exact h
 |e::es,m,ρ,nw,H,s,env,sc,vars,k,res,E,A,h=>by
  refine er (arm_allTrue_cons ..) ?_
  refine wpAny_bind (wpAny_mono (hb E A h) (λt s₁ q=>?_) λ_ _ x=>x)
  obtain⟨H1,ρ1,nw1,S1,x1,e1⟩:=q
  have more:mD r sc vars op es k H1=some res->wpAny (model c.prog c.w) c.A (allTrue op es env) (jc c m ρ nw k res) E s₁:=λh1=>
   wpAny_mono (wP hb es E (A.next S1 x1) h1) (λ_ _ ⟨H2,ρ2,nw2,S2,x2,e2⟩=>⟨H2,ρ2,nw2,S2,x1.trans x2,e2⟩) λ_ _ x=>x
  revert e1
  cases op<;>cases t<;>intro e1
  ·exact wpAny_pure ⟨H1,ρ1,nw1,S1,x1,e1⟩
  ·exact more e1
  ·exact more e1
  ·exact wpAny_pure ⟨H1,ρ1,nw1,S1,x1,e1⟩
theorem Gb{cc:Const}{p1:Nat}{p2:Pos}{k:V->K}{res:V×Hp}(A:At c env sc m ρ nw H s vars)(h:jJ (vD cc) k H=some res):wpAny (model c.prog c.w) c.A (eval (.Constant cc p1 p2) env) (b_ c m ρ nw k res) E s:=by
 simp only[arm_eval_Constant]
 unfold jJ at h
 cases cc<;>first|(exact ak h)|skip
 ·exact wpAny_pure (lr A.st .none h)
 ·exact wpAny_pure (lr A.st (.bool _) h)
 ·exact wpAny_mkInt (lr (A.st.toks _) (.int _ _) h)
 ·exact wpAny_mkText (lr (A.st.toks _) (.str _ _) h)
theorem Gc{x:Str}{pos:Pos}{k:V->K}{res:V×Hp}(O:c.Ok T)(A:At c env sc m ρ nw H s vars)(hb:gX x=false)(h:(if jI (sc.names.lookup x)then jJ ((T.fns.lookup x).map .fn) k else jJ (ef sc vars x) k) H=some res):
  wpAny (model c.prog c.w) c.A (eval (.Name x pos) env) (b_ c m ρ nw k res) E s:=by
 split at h
 ·rename_i hg
  cases hf:T.fns.lookup x with
  |none=>rw[hf]at h;exact ak h
  |some a=>
   rw[hf]at h
   exact rW O A.st A.ev (rX hg) (O.K.fn x a hf).1 hb (lr A.st (.fn a) h)
 ·cases hf:ef sc vars x with
  |none=>rw[hf]at h;exact ak h
  |some v=>
   rw[hf]at h
   refine ex1_2 (A.vs x v hf) λv' hv hn=>?_
   exact vX A.st A.ev hn hb (lr A.st hv h)
theorem Gd(O:c.Ok T)(he:SE c r.e){a b:Expr}{op:Operator}{pos:Pos}{k:V->K}{res:V×Hp}(A:At c env sc m ρ nw H s vars)(h:(r.e sc a vars λx=>r.e sc b vars λy=>UX (ax op x y) k) H=some res):
  wpAny (model c.prog c.w) c.A (eval (.BinOp a op b pos) env) (b_ c m ρ nw k res) E s:=by
 refine wpAny_BinOp (wpAny_mono (he E A h) (λv s₁ q=>?_) λ_ _ x=>x)
 obtain⟨v1,H1,ρ1,nw1,hv,S1,x1,e1⟩:=q
 refine wpAny_mono (he E (A.next S1 x1) e1) (λw s₂ q=>?_) λ_ _ x=>x
 obtain⟨v2,H2,ρ2,nw2,hw,S2,x2,e2⟩:=q
 obtain⟨q,hq,e2⟩:=bind_some e2
 exact wpAny_mono (E8 O S2 (hv.ext x2) hw hq) (λ_ _ q=>fE (x1.trans x2) (hG e2 q)) λ_ _ x=>x
theorem wQ(O:c.Ok T)(he:SE c r.e){a b:Expr}{op:CmpOp}{k:Bool->K}{res:V×Hp}{Q:Value->Shared->Prop}(A:At c env sc m ρ nw H s vars)(h:(r.e sc a vars λx=>r.e sc b vars λy=>UX (af op x y) k) H=some res)
  (hQ:∀t s',jc c m ρ nw k res t s'->Q (.bool t) s'):wpAny (model c.prog c.w) c.A (eval a env) (λx s₁=>wpAny (model c.prog c.w) c.A (eval b env) (λy s₂=>wpAny (model c.prog c.w) c.A (compareOp op x y) Q E s₂) E s₁) E s:=by
 refine wpAny_mono (he E A h) (λv s₁ q=>?_) λ_ _ x=>x
 obtain⟨v1,H1,ρ1,nw1,hv,S1,x1,e1⟩:=q
 refine wpAny_mono (he E (A.next S1 x1) e1) (λw s₂ q=>?_) λ_ _ x=>x
 obtain⟨v2,H2,ρ2,nw2,hw,S2,x2,e2⟩:=q
 obtain⟨q,hq,e2⟩:=bind_some e2
 refine Fz O S2 (hv.ext x2) hw hq λt ht=>hQ _ _ ?_
 rw[ht]at e2
 exact⟨H2,ρ2,nw2,S2.toks t,x1.trans x2,e2⟩
theorem wR{op:CmpOp}{b:Expr}(h:kR b=false):behindInMarks op b=false:=by
 cases b<;>first|rfl|(cases h)
theorem Ge(O:c.Ok T)(he:SE c r.e){a b:Expr}{op:CmpOp}{pos:Pos}{k:V->K}{res:V×Hp}(A:At c env sc m ρ nw H s vars)(hm:kR b=false)(h:(r.e sc a vars λx=>r.e sc b vars λy=>UX (af op x y) λt=>k (.bool t)) H=some res):
  wpAny (model c.prog c.w) c.A (eval (.Compare a [op] [b] pos) env) (b_ c m ρ nw k res) E s:=by
 refine wpAny_Compare1 (wQ O he A h λt s' q=>?_) (wR hm)
 obtain⟨H1,ρ1,nw1,S1,x1,e1⟩:=q
 exact⟨_,H1,ρ1,nw1,.bool t,S1,x1,e1⟩
theorem Gf(O:c.Ok T)(he:SE c r.e){a b:Expr}{op:CmpOp}{pos:Pos}{whole:Sem Value}{k:Bool->K}{res:V×Hp}(A:At c env sc m ρ nw H s vars)(hm:kR b=false)(h:(r.e sc a vars λx=>r.e sc b vars λy=>UX (af op x y) k) H=some res):
  wpAny (model c.prog c.w) c.A (isTrue (.Compare a [op] [b] pos) env whole) (jc c m ρ nw k res) E s:=
 wpAny_isTrue_Compare1 (wQ O he A h λ_ _ q=>wpAny_truthy_bool q) (wR hm)
theorem Gg(he:SE c r.e)(hb:SB c r.b){t a b:Expr}{pos:Pos}{k:V->K}{res:V×Hp}(A:At c env sc m ρ nw H s vars)(h:(r.b sc t vars λc=>if c then r.e sc a vars k else r.e sc b vars k) H=some res):
  wpAny (model c.prog c.w) c.A (eval (.IfExp t a b pos) env) (b_ c m ρ nw k res) E s:=by
 refine wpAny_IfExp (wpAny_mono (hb E A h) (λv s₁ q=>?_) λ_ _ x=>x)
 obtain⟨H1,ρ1,nw1,S1,x1,e1⟩:=q
 cases v with
 |true=>exact wpAny_mono (he E (A.next S1 x1) e1) (λ_ _ q=>fE x1 q) λ_ _ x=>x
 |false=>exact wpAny_mono (he E (A.next S1 x1) e1) (λ_ _ q=>fE x1 q) λ_ _ x=>x
theorem Gh(hb:SB c r.b){t a b:Expr}{pos:Pos}{whole:Sem Value}{k:Bool->K}{res:V×Hp}(A:At c env sc m ρ nw H s vars)(h:(r.b sc t vars λc=>if c then r.b sc a vars k else r.b sc b vars k) H=some res):
  wpAny (model c.prog c.w) c.A (isTrue (.IfExp t a b pos) env whole) (jc c m ρ nw k res) E s:=by
 simp only[arm_isTrue_IfExp]
 refine wpAny_bind (wpAny_mono (hb E A h) (λv s₁ q=>?_) λ_ _ x=>x)
 obtain⟨H1,ρ1,nw1,S1,x1,e1⟩:=q
 cases v with
 |true=>exact wpAny_mono (hb E (A.next S1 x1) e1) (λ_ _ ⟨H2,ρ2,nw2,S2,x2,e2⟩=>⟨H2,ρ2,nw2,S2,x1.trans x2,e2⟩) λ_ _ x=>x
 |false=>exact wpAny_mono (hb E (A.next S1 x1) e1) (λ_ _ ⟨H2,ρ2,nw2,S2,x2,e2⟩=>⟨H2,ρ2,nw2,S2,x1.trans x2,e2⟩) λ_ _ x=>x
theorem Gi(hb:SB c r.b){x:Expr}{pos:Pos}{whole:Sem Value}{k:Bool->K}{res:V×Hp}(A:At c env sc m ρ nw H s vars)(h:(r.b sc x vars λt=>k (!t)) H=some res):
  wpAny (model c.prog c.w) c.A (isTrue (.UnaryOp .Not x pos) env whole) (jc c m ρ nw k res) E s:=by
 simp only[arm_isTrue_UnaryOp]
 refine wpAny_bind (wpAny_mono (hb E A h) (λv s₁ q=>?_) λ_ _ x=>x)
 obtain⟨H1,r1,n1,a,b,d⟩:=q
 exact wpAny_pure ⟨H1,r1,n1,a,b,d⟩
theorem Gj(he:SE c r.e){x:Expr}{pos:Pos}{k:V->K}{res:V×Hp}(A:At c env sc m ρ nw H s vars)(h:(r.e sc x vars λv=>UX (truthy v) λt=>k (.bool !t)) H=some res):
  wpAny (model c.prog c.w) c.A (eval (.UnaryOp .Not x pos) env) (b_ c m ρ nw k res) E s:=by
 refine wpAny_UnaryOp (wpAny_mono (he E A h) (λv s₁ q=>?_) λ_ _ x=>x)
 refine bZ λgP gh=>?_
 obtain⟨v1,H1,ρ1,nw1,hv,S1,x1,e1⟩:=q
 obtain⟨q,hq,e2⟩:=bind_some e1
 refine ai (sg hq) λzq0 hq2=>?_;subst zq0
 refine gh ?_;clear gh gP
 rw[hq2]at e2
 have zq:=lb hv;subst zq
 exact wpAny_bind (wpAny_truthy_bool (wpAny_pure ⟨_,H1,ρ1,nw1,.bool _,S1,x1,e2⟩))
theorem Gk(he:SE c r.e){x:Expr}{pos:Pos}{k:V->K}{res:V×Hp}(A:At c env sc m ρ nw H s vars)(h:(r.e sc x vars λv=>match v with| .int i=>k (.int (-i))|_=>UY) H=some res):
  wpAny (model c.prog c.w) c.A (eval (.UnaryOp .USub x pos) env) (b_ c m ρ nw k res) E s:=by
 refine wpAny_UnaryOp (wpAny_mono (he E A h) (λv s₁ q=>?_) λ_ _ x=>x)
 obtain⟨v1,H1,ρ1,nw1,hv,S1,x1,e1⟩:=q
 cases hv<;>first|(exact ak e1)|skip
 exact PySem.P.neg_int ⟨_,H1,ρ1,nw1,.int _ _,S1.toks _,x1,e1⟩
theorem pL{es:List Expr}{n:Nat}(h:(cr es&&decide (es.length<=n))=true):cr es=true/\es.length<=n:=by
 rw[U2,decide_eq_true_eq]at h;exact h
theorem sh(he:SE c r.e):∀(es:List Expr) {m:Str->Option Value}{ρ:Ro}{nw:Nw}{H:Hp}{s:Shared}{env:Env}{sc:Scope}{vars:Z}{k:List V->K}{res:V×Hp}{pos:Pos}(E:Value->Shared->Prop),At c env sc m ρ nw H s vars->cr es=true->dc r sc vars es k H=some res->
  wpAny (model c.prog c.w) c.A (spliced (backTo pos (starEach es env))) (λvs s'=>vs.length=es.length/\pJ c m ρ nw k res vs s') E s
 |[],m,ρ,nw,H,s,env,sc,vars,k,res,pos,E,A,_,h=>spliced_none ⟨rfl,[],H,ρ,nw,.nil,A.st,.refl,h⟩
 |e::es,m,ρ,nw,H,s,env,sc,vars,k,res,pos,E,A,ns,h=>by
  have hs:=jV (env:=env) ns
  refine spliced_more (wpAny_mono (he E A h) (λv s₁ q=>?_) λ_ _ x=>x) hs
  obtain⟨v1,H1,ρ1,nw1,hv,S1,x1,e1⟩:=q
  refine wpAny_mono (sh he es E (A.next S1 x1) (mX ns) e1) (λvs s₂ q=>?_) λ_ _ x=>x
  obtain⟨hl,vs1,H2,ρ2,nw2,hvs,S2,x2,e2⟩:=q
  exact⟨by simp[hl],v1::vs1,H2,ρ2,nw2,.cons (hv.ext x2) hvs,S2,x1.trans x2,e2⟩
theorem Gl(he:SE c r.e){es:List Expr}{pos:Pos}{k:V->K}{res:V×Hp}(A:At c env sc m ρ nw H s vars)(hg:(cr es&&decide (es.length<=100))=true)(h:(dc r sc vars es λvs=>UX (aF (.list vs)) k) H=some res):
  wpAny (model c.prog c.w) c.A (eval (.List es pos) env) (b_ c m ρ nw k res) E s:=by
 refine ai (pL hg) λns hn=>?_
 refine wpAny_List (wpAny_mono (sh he es E A ns h) (λvs s₁ q=>?_) λ_ _ x=>x)
 obtain⟨hl,vs1,H1,ρ1,nw1,hvs,S1,x1,e1⟩:=q
 refine⟨li (by refine er (hl ..) ?_;exact nD ‹_›),?_⟩
 have e2:k (.ref H1.length) (H1++[.list vs1])=some res:=e1
 refine ai (S1.new1 (ob:={cls:= .type "list",data:= .seq vs.toArray}) (o:= .list vs1) rfl λx2=> .list (n:=0) (U3 ..) (hvs.ext x2)) λS2 x2=>?_
 exact⟨_,_,_,_,ld _ _ S1.rep.len,S2,x1.trans x2,e2⟩
theorem Gm(he:SE c r.e){es:List Expr}{n:Nat}{pos:Pos}{k:V->K}{res:V×Hp}(A:At c env sc m ρ nw H s vars)(hg:(cr es&&decide (es.length<=100))=true)(h:(dc r sc vars es λvs=>k (.tup vs)) H=some res):
  wpAny (model c.prog c.w) c.A (eval (.Tuple es n pos) env) (b_ c m ρ nw k res) E s:=by
 refine ai (pL hg) λns hn=>?_
 refine wpAny_Tuple (wpAny_mono (sh he es E A ns h) (λvs s₁ q=>?_) λ_ _ x=>x)
 obtain⟨hl,vs1,H1,ρ1,nw1,hvs,S1,x1,e1⟩:=q
 refine⟨li (by refine er (hl ..) ?_;exact nD ‹_›),?_⟩
 refine bK (S1.push (i6 vs) rfl) λS2 x2 n2=>?_
 exact⟨_,_,_,_,.tup (.inl ⟨U3 ..,n2⟩) (hvs.ext x2),S2,x1.trans x2,e1⟩
set_option tactic.hygienic true in
theorem wS{o:Expr}(h:mA o=false)(n:Str)(w:Sem Value):attributeBase o n env w=w:=by
 cases o<;>first|rfl|skip
 rename_i f args kws p
 cases f<;>first|rfl|skip
 cases args with
 |cons _ _=>rfl
 |nil=>
  cases kws with
  |cons _ _=>rfl
  |nil=>
   rename_i id _
   have h3:(id !=("super":Str))=true:=congrArg (!·) (show(id==("super":Str))=false from h)
   show(if(id !=("super":Str)||_||_||_:Bool)=true then w else _)=w
   refine er (h3 ..) ?_;rfl
theorem Gn(O:c.Ok T)(he:SE c r.e){o:Expr}{n:Str}{pos:Pos}{k:V->K}{res:V×Hp}(A:At c env sc m ρ nw H s vars)(hs:mA o=false)(h:(r.e sc o vars λv=>UX (ab v n T) k) H=some res):
  wpAny (model c.prog c.w) c.A (eval (.Attribute o n pos) env) (b_ c m ρ nw k res) E s:=by
 refine Attribute_any_ (wpAny_mono (he E A h) (λv s₁ q=>?_) λ_ _ x=>x) (by refine er (arm_eval_Attribute ..) (er (wS hs ..) rfl))
 obtain⟨v1,H1,ρ1,nw1,hv,S1,x1,e1⟩:=q
 obtain⟨q,hq,e1⟩:=bind_some e1
 exact wpAny_mono (FD O S1 hv hq) (λ_ _ q=>fE x1 (hG e1 q)) λ_ _ x=>x
theorem Go(O:c.Ok T)(he:SE c r.e){o i:Expr}{pos:Pos}{k:V->K}{res:V×Hp}(A:At c env sc m ρ nw H s vars)(hn:o_ i=false)(h:(r.e sc o vars λv=>r.e sc i vars λj=>UX (aa v j) k) H=some res):
  wpAny (model c.prog c.w) c.A (eval (.Subscript o i pos) env) (b_ c m ρ nw k res) E s:=by
 refine Subscript_ (wpAny_mono (he E A h) (λv s₁ q=>?_) λ_ _ x=>x)
 obtain⟨v1,H1,ρ1,nw1,hv,S1,x1,e1⟩:=q
 refine wpAny_mono (he E (A.next S1 x1) e1) (λw s₂ q=>?_) λ_ _ x=>x
 obtain⟨v2,H2,ρ2,nw2,hw,S2,x2,e2⟩:=q
 obtain⟨q,hq,e2⟩:=bind_some e2
 exact wpAny_mono (ET O S2 hn (hv.ext x2) hw hq) (λ_ _ q=>fE (x1.trans x2) (hG e2 q)) λ_ _ x=>x
theorem wT(he:SE c r.e){o:Option Expr}{k:Option V->K}{res:V×Hp}(A:At c env sc m ρ nw H s vars)(h:mB r sc vars o k H=some res):
  wpAny (model c.prog c.w) c.A (evalPart o env) (λv' s'=>∃v H' ρ' nw',iL c.K ρ' nw' v v'/\St c m ρ' nw' H' s'/\aG ρ nw ρ' nw'/\k v H'=some res) E s:=by
 cases o with
 |none=>exact wpAny_pure ⟨_,H,ρ,nw,.none,A.st,.refl,h⟩
 |some e=>
  refine wpAny_mono (he E A h) (λv s₁ q=>?_) λ_ _ x=>x
  obtain⟨v1,H1,ρ1,nw1,hv,S1,x1,e1⟩:=q
  exact⟨_,H1,ρ1,nw1,.some hv,S1,x1,e1⟩
theorem Gp(he:SE c r.e){o:Expr}{l u:Option Expr}{p pos:Pos}{k:V->K}{res:V×Hp}(A:At c env sc m ρ nw H s vars)(h:(r.e sc o vars λv=>mB r sc vars l λa=>mB r sc vars u λb=>UX (bk v a b) k) H=some res):
  wpAny (model c.prog c.w) c.A (eval (.Subscript o (.Slice l u none p) pos) env) (b_ c m ρ nw k res) E s:=by
 refine Subscript_ (wpAny_mono (he E A h) (λv s₁ q=>?_) λ_ _ x=>x)
 obtain⟨v1,H1,ρ1,nw1,hv,S1,x1,e1⟩:=q
 refine wpAny_Slice (wpAny_mono (wT he (A.next S1 x1) e1) (λw s₂ q=>?_) λ_ _ x=>x)
 refine ex4_4 (q) λv2 H2 ρ2 nw2 hw S2 x2 e2=>?_
 refine wpAny_mono (wT he (A.next S2 (x1.trans x2)) e2) (λz s₃ q=>?_) λ_ _ x=>x
 refine ex4_4 (q) λv3 H3 ρ3 nw3 hz S3 x3 e3=>?_
 simp only[evalPart_none]
 refine wpAny_pure ?_
 obtain⟨q,hq,e3⟩:=bind_some e3
 exact wpAny_mono (EX S3 (hv.ext (x2.trans x3)) (hw.ext x3) hz hq) (λ_ _ q=>fE (x1.trans (x2.trans x3)) (hG e3 q)) λ_ _ x=>x
end
section
variable{c:Cx}{T:bf}{r:Lv}{m:Str->Option Value}{ρ:Ro}{nw:Nw}{H:Hp}{s:Shared}{E:Value->Shared->Prop}{env:Env}{sc:Scope}{vars:Z}
theorem Gq{o:Expr}{n:Str}{ap pos:Pos}{args:List Expr}(hs:mA o=false)(hl:(ap.endLine==pos.line)=true)(ns:cr args=true)(hn:args.length<=20):
  eval (.Call (.Attribute o n ap) args [] pos) env=(do
   let ov←eval o env
   standAt ap.atName
   let(f,first)←holding [ov] (getMethod ov n (do return(←importBound o env).getD true))
   callWith pos f first (backTo pos (starEach args env)) []):=by
 have hall:(backTo pos (starEach args env)).all (λx=> !x.1)=true:=by
  have:=mY (env:=env) (pos:=pos) ns
  rw[List.any_eq_false]at this
  rw[WB]
  intro x hx
  have:=this x hx
  simpa using this
 have hform:methodCallForm (args.length+([]:List Keyword).length) (backTo pos (starEach args env)) (backToKw pos (keywordEach [] env))=true:=by
  unfold methodCallForm
  simp only[hall]
  show(true&&true&&decide (args.length+0+0<30))=true
  simp;exact iY ‹_›
 have hpos:methodCallPos true o env ap pos=pure pos:=by unfold methodCallPos;simp[hl]
 simp only[arm_eval_Call,wS hs]
 delta methodCall calleeOf
 refine er (hform ..) (er (hpos ..) ?_)
 rfl
theorem pM(O:c.Ok T)(he:SE c r.e){f:Value}{first:List Value}{args:List Expr}{pos:Pos}{kk:List V->K}{res:V×Hp}{Q:Value->Shared->Prop}(A:At c env sc m ρ nw H s vars)(ns:cr args=true)(h:dc r sc vars args kk H=some res)
  (fin:∀vs s₁,pJ c m ρ nw kk res vs s₁->keepIn c.K f=true/\wpAny (model c.prog c.w) c.A (call f (first++vs)) Q E s₁):wpAny (model c.prog c.w) c.A (callWith pos f first (backTo pos (starEach args env)) []) Q E s:=by
 have pl:((backTo pos (starEach args env)).any (·.1)||([]:List (Option Str×Sem Value)).any (·.1.isNone))=false:=by refine er (mY ns ..) ?_;rfl
 refine callWith_of (P:=λh=>c.K.In h/\keepIn c.K f=true) pl (λh p=>keeps_K p.2 h p.1) ?_
 cases args with
 |nil=>
  refine bZ λgP gh=>?_
  refine ai (fin [] s ⟨[],H,ρ,nw,.nil,A.st,.refl,h⟩) λh1 h2=>?_
  refine gh ?_;clear gh gP
  exact evalArgs_nil3 ⟨⟨O.X.keeps A.st.fr.keep,h1⟩,h2⟩
 |cons e es=>
  have hs:starEach (e::es) env=(false,eval e env)::starEach es env:=jV ns
  have go:=pK he (e::es) (pos:=pos) E A ns h
  rw[hs]at go⊢
  refine evalArgs_plain (wpAny_mono go (λvs s₁ q=>?_) λ_ _ x=>x)
  refine ai (fin vs s₁ q) λh1 h2=>?_
  exact⟨⟨O.X.keeps (by obtain⟨_,_,_,_,_,S,_⟩:=q;exact S.fr.keep),h1⟩,h2⟩
theorem sj(he:SE c r.e){id:String}{first:List Value}{args:List Expr}{pos:Pos}{kk:List V->K}{res:V×Hp}{Q:Value->Shared->Prop}(A:At c env sc m ρ nw H s vars)(ns:cr args=true)(h:dc r sc vars args kk H=some res)
  (fin:∀vs s₁,pJ c m ρ nw kk res vs s₁->wpAny (model c.prog c.w) c.A (call (.builtin id) (first++vs)) Q E s₁):wpAny (model c.prog c.w) c.A (callWith pos (.builtin id) first (backTo pos (starEach args env)) []) Q E s:=by
 cases args with
 |nil=>exact callWith_method0 (by simpa using fin [] s ⟨[],H,ρ,nw,.nil,A.st,.refl,h⟩)
 |cons e es=>
  have hs:starEach (e::es) env=(false,eval e env)::starEach es env:=jV ns
  have pl:(backTo pos (starEach es env)).any (·.1)=false:=mY (mX ns)
  exact callWith_method1 (wpAny_mono (pK he (e::es) (pos:=pos) E A ns h) (λvs s₁ q=>fin vs s₁ q) λ_ _ x=>x) hs pl
theorem jW{α:Type}{p:Prop} [d:Decidable p]{A B r:Option α}{G:Prop}(h:(if p then A else B)=r)(ht:p->A=r->G)(hf:B=r->G):G:=by
 cases d with
 |isTrue k=>exact ht k h
 |isFalse k=>exact hf h
theorem Gr(me:Me)(n:Str)(h:iy n=some me)(hm:gc me≠""):Slot "list" n (gc me)/\typeOf (.builtin (gc me))=pure (.type "method_descriptor"):=by
 refine jW h (λe h=>?_) λh=>jW h (λe h=>?_) λh=>jW h (λe h=>?_) λh=>jW h (λe h=>?_) λh=>jW h (λe h=>?_) λh=>jW h (λe h=>?_) λh=>jW h (λe h=>?_) λh=>ak h
 all_goals (obtain rfl:=Option.some.inj h;subst e)
 ·exact⟨PySem.F.slot_list_append,PySem.F.type_list_append⟩
 ·exact⟨PySem.F.slot_list_pop,PySem.F.type_list_pop⟩
 ·exact⟨PySem.F.slot_list_remove,PySem.F.type_list_remove⟩
 ·exact⟨PySem.F.slot_list_index,PySem.F.type_list_index⟩
 ·exact⟨PySem.F.slot_list_insert,PySem.F.type_list_insert⟩
 ·exact absurd rfl hm
 ·exact absurd rfl hm
theorem Gs{x:Str}(h:oZ x=true):x∈fB/\x≠"__name__":=by
 unfold oZ at h
 simp only[VG,decide_eq_true_eq]at h
 rcases h with((h|h)|h)|h<;>subst h<;>exact⟨by simp[fB],by decide⟩
section
variable{x:Str}{p pos:Pos}{args:List Expr}{k:V->K}{res:V×Hp}
theorem sm(C:hF c T){g:Addr}{vs:List V}{vs':List Value}{H1:Hp}{ρ1:Ro}{nw1:Nw}{s₁:Shared}(hvs:VRs c.K ρ1 nw1 vs vs')(S1:St c m ρ1 nw1 H1 s₁)(x1:aG ρ nw ρ1 nw1)(e1:UX (T.call g vs) k H1=some res):
  keepIn c.K (.ref g)=true/\wpAny (model c.prog c.w) c.A (call (.ref g) vs') (b_ c m ρ nw k res) E s₁:=by
 obtain⟨q,hq,e1⟩:=bind_some e1
 refine ai (C.fn E S1 hvs hq) λg1 g2=>?_
 exact⟨g1,wpAny_mono g2 (λ_ _ q=>fE x1 (hG e1 q)) λ_ _ x=>x⟩
theorem Gu(O:c.Ok T)(he:SE c r.e){a:Expr}(A:At c env sc m ρ nw H s vars)(ns:cr [a]=true)(hk:sc.names.lookup x=some .globalImplicit)(hb:gX x=false)(hbl:oZ x=true)(h:(r.e sc a vars λv=>UX (o0 x v) k) H=some res):
  wpAny (model c.prog c.w) c.A (eval (.Call (.Name x p) [a] [] pos) env) (b_ c m ρ nw k res) E s:=by
 refine ai (Gs hbl) λb1 b2=>?_
 refine ai (O.K.blt x b1) λk1 k2=>?_
 refine Call_Name rfl (vY O A.st A.ev hk k1 k2 b2 hb ?_)
 have hs:starEach [a] env=(false,eval a env)::starEach [] env:=jV ns
 have sp:wpAny (model c.prog c.w) c.A (spliced (backTo pos (starEach [a] env))) (λvs s₁=>wpAny (model c.prog c.w) c.A (call (if x=Str.ofString "len"then .builtin "len"else .type x.toString) vs) (b_ c m ρ nw k res) E s₁) E s:=by
  refine spliced_more (wpAny_mono (he E A h) (λv s₁ q=>?_) λ_ _ x=>x) hs
  obtain⟨v1,H1,ρ1,nw1,hv,S1,x1,e1⟩:=q
  refine spliced_none ?_
  obtain⟨q,hq,e1⟩:=bind_some e1
  exact wpAny_mono (FT O S1 hv hq rfl).2 (λ_ _ q=>fE x1 (hG e1 q)) λ_ _ x=>x
 by_cases hx:x=Str.ofString "len"
 ·rw[if_pos hx]at sp⊢
  exact callWith_method1 (first:=[]) sp hs rfl
 ·rw[if_neg hx]at sp⊢
  exact callWith_type1 sp hs rfl
theorem Gv(O:c.Ok T)(C:hF c T)(he:SE c r.e)(A:At c env sc m ρ nw H s vars)(ns:cr args=true)(h:rH T r sc vars x args k H=some res):
  wpAny (model c.prog c.w) c.A (eval (.Call (.Name x p) args [] pos) env) (b_ c m ρ nw k res) E s:=by
 refine ai (iu h) λhb h=>?_
 replace hb:=Bool.eq_false_iff.mpr hb
 refine i9 (λhgl h=>?_) (λhgl h=>?_) h
 ·have hk:=rX hgl
  cases hf:T.fns.lookup x with
  |some g=>
   rw[hf]at h
   refine Call_Name rfl (rW O A.st A.ev hk (O.K.fn x g hf).1 hb ?_)
   exact pM O he A ns h λvs s₁ ⟨vs1,H1,ρ1,nw1,hvs,S1,x1,e1⟩=>sm C hvs S1 x1 e1
  |none=>
   rw[hf]at h
   dsimp only at h
   cases hc:T.clss.lookup x with
   |some q=>
    rw[hc]at h
    refine ai (O.K.cls x q hc) λk1 k2=>?_
    refine Call_Name rfl (rW O A.st A.ev hk k1 hb ?_)
    refine pM O he A ns h λvs s₁ ⟨vs1,H1,ρ1,nw1,hvs,S1,x1,e1⟩=>⟨k2.keep,?_⟩
    obtain⟨q,hq,e1⟩:=bind_some e1
    exact wpAny_mono (C.cls E hc S1 hvs hq) (λ_ _ q=>fE x1 (hG e1 q)) λ_ _ x=>x
   |none=>
    rw[hc]at h
    cases args with
    |nil=>exact ak h
    |cons a as=>cases as with
     |nil=>exact ai (bg h) λhbl h=>Gu O he A ns hk hb hbl h
     |cons _ _=>exact ak h
 ·refine ex1_2 (d5 h) λv hf h=>?_
  cases v<;>first|(exact ak h)|skip
  rename_i g
  refine ex1_2 (A.vs x _ hf) λv' hv hn=>?_
  rw[Ex hv]at hn
  refine Call_Name rfl (vX A.st A.ev hn hb ?_)
  exact pM O he A ns h λvs s₁ ⟨vs1,H1,ρ1,nw1,hvs,S1,x1,e1⟩=>sm C hvs S1 x1 e1
end
end
section
variable{c:Cx}{T:bf}{r:Lv}{m:Str->Option Value}{ρ:Ro}{nw:Nw}{H:Hp}{s:Shared}{E:Value->Shared->Prop}{env:Env}{sc:Scope}{vars:Z}
theorem Gw{me:Me}(h:oR me=true):gc me≠"":=by
 cases me<;>first|(cases h;done)|(unfold gc;decide)
set_option tactic.hygienic true in
theorem Gx{es:List (Str×V)}{es':List DictEntry}(h:ER c.K ρ nw es es'){n:Str}{fl:List Str}(h1:(es.all λe=>fl.contains e.1)=true)(h2:fl.contains n=false):getL n es'=some none:=by
 have z:=se h n
 split at z
 ·rename_i e he
  have hm:=VJ he
  have hn:e.1=n:=by have:=WY he;simpa using this
  have:=List.all_eq_true.mp h1 e hm
  rw[hn,h2]at this
  exact absurd this (by decide)
 ·exact z
section
variable{o:Expr}{n:Str}{ap pos:Pos}{args:List Expr}{k:V->K}{res:V×Hp}{v':Value}{ρ1:Ro}{nw1:Nw}{H1:Hp}{s1:Shared}{pl:Sem Bool}{j:Nat}
noncomputable def mZ(c:Cx)(m:Str->Option Value)(ρ:Ro)(nw:Nw)(k:V->K)(res:V×Hp)(E:Value->Shared->Prop)(pos:Pos)(args:List Expr)(env:Env)(pl:Sem Bool)(n:Str)(v':Value)(s1:Shared):Prop:=
 wpAny (model c.prog c.w) c.A (getMethod v' n pl) (λfx s₂=>wpAny (model c.prog c.w) c.A (callWith pos fx.fst fx.snd (backTo pos (starEach args env)) []) (b_ c m ρ nw k res) E s₂) E s1
theorem Gy(O:c.Ok T)(C:hF c T)(he:SE c r.e)(ns:cr args=true)(A1:At c env sc m ρ1 nw1 H1 s1 vars)(x1:aG ρ nw ρ1 nw1)(hv:VR c.K ρ1 nw1 (.ref j) v'){q:Str×cX}{es:List (Str×V)}(hqm:q∈T.clss)(hob:H1[j]?=some (.inst q.2.addr es))
  (h:rG T j n (dc r sc vars args) k q.2 es H1=some res):mZ c m ρ nw k res E pos args env pl n v' s1:=by
 refine ex1_2 (d5 h) λg hml h=>?_
 refine ai (bg h) λhfl h=>?_
 simp only[U2,Wt]at hfl
 obtain⟨a,dx,es',kk,rfl,hp,h1,h2,h3⟩:=A1.st.instAt hob hv
 have cl:=O.K.clsAt _ hqm
 refine kJ (cl.meth n g hml) λf1 f2 f3 f4=>?_
 refine method_inst A1.st.fr O.X (InstAt.of_news A1.st.ns h1 h2) f1 f2 f3 (Gx h3 hfl.1 hfl.2) ?_
 exact pM O he A1 ns h λvs s₂ ⟨vs1,H2,ρ2,nw2,hvs,S2,x2,e3⟩=>sm C (.cons (hv.ext x2) hvs) S2 (x1.trans x2) e3|>.imp_left λ_=>f4
theorem Gz(he:SE c r.e)(ns:cr args=true)(A1:At c env sc m ρ1 nw1 H1 s1 vars)(x1:aG ρ nw ρ1 nw1)(hv:VR c.K ρ1 nw1 (.ref j) v'){xs:List V}(hob:H1[j]?=some (.list xs))
  (h:vF j n (dc r sc vars args) k H1=some res):mZ c m ρ nw k res E pos args env pl n v' s1:=by
 refine ex1_2 (d5 h) λme hme h=>?_
 refine ai (bg h) λhl h=>?_
 refine ai (Gr me n hme (Gw hl)) λsl ty=>?_
 obtain⟨a,items,kk,rfl,hp,hm,hs⟩:=A1.st.listAt hob hv
 refine kf_method A1.st.ns hm sl ty ?_
 refine sj he A1 ns h λvs s₂ ⟨vs1,H2,ρ2,nw2,hvs,S2,x2,e3⟩=>?_
 obtain⟨ob,hob,e3⟩:=dM e3
 refine ex1_2 (rZ e3) λxs zq e3=>?_
 obtain⟨q,hq,e5⟩:=bind_some e3
 exact wpAny_mono (wN S2 (zq▸hob) (hv.ext x2) hvs hq) (λ_ _ q=>fE (x1.trans x2) (hG e5 q)) λ_ _ x=>x
theorem GA(O:c.Ok T)(he:SE c r.e)(ns:cr args=true)(A1:At c env sc m ρ1 nw1 H1 s1 vars)(x1:aG ρ nw ρ1 nw1)(hv:VR c.K ρ1 nw1 (.ref j) v'){es:List (V×V)}{ep:Option Nat}(hob:H1[j]?=some (.dict es ep))
  (h:dc r sc vars args (jN j k) H1=some res):mZ c m ρ nw k res E pos args env pl (Str.ofString "get") v' s1:=by
 obtain⟨a,es',kk,rfl,hp,hm,hs,_⟩:=A1.st.dictAt hob hv
 have ty:s1.TypeIs (.ref a) "dict":=⟨_,A1.st.ns.get hm,rfl⟩
 refine getMethod_builtin ty PySem.F.plainAttrs_dict PySem.F.slot_dict_get PySem.F.type_dict_get (λa e=>by cases e;exact⟨_,A1.st.ns.get hm,rfl⟩) ?_
 refine sj he A1 ns h λvs s₂ ⟨vs1,H2,ρ2,nw2,hvs,S2,x2,e3⟩=>?_
 obtain⟨ob,hob,e3⟩:=dM e3
 refine ex2_2 (pC e3) λes ep zq e3=>?_
 obtain⟨q,hq,e5⟩:=bind_some e3
 exact wpAny_mono (F_ O S2 (zq▸hob) (hv.ext x2) hvs hq) (λ_ _ q=>fE (x1.trans x2) (hG e5 q)) λ_ _ x=>x
theorem GB(he:SE c r.e)(ns:cr args=true)(A1:At c env sc m ρ1 nw1 H1 s1 vars)(x1:aG ρ nw ρ1 nw1){x:Str}(hv:VR c.K ρ1 nw1 (.str x) v')
  (h:(dc r sc vars args λvs=>UX (oS x .split vs) k) H1=some res):mZ c m ρ nw k res E pos args env pl (Str.ofString "split") v' s1:=by
 refine iK hv λt=>?_
 refine GM.split ?_
 refine sj he A1 ns h λvs s₂ ⟨vs1,H2,ρ2,nw2,hvs,S2,x2,e3⟩=>?_
 obtain⟨q,hq,e5⟩:=bind_some e3
 exact wpAny_mono (Ga S2 hvs hq) (λ_ _ q=>fE (x1.trans x2) (hG e5 q)) λ_ _ x=>x
theorem GC(O:c.Ok T)(C:hF c T)(he:SE c r.e)(ns:cr args=true)(A1:At c env sc m ρ1 nw1 H1 s1 vars)(x1:aG ρ nw ρ1 nw1){v:V}(hv:VR c.K ρ1 nw1 v v')(h:ao T v n (dc r sc vars args) k H1=some res):mZ c m ρ nw k res E pos args env pl n v' s1:=by
 cases v<;>first|exact ak h|skip
 ·exact ai (bg h) λhn h=>of_decide_eq_true hn▸GB he ns A1 x1 hv h
 ·obtain⟨ob,hob,h⟩:=dM (f:=mJ T _ n (dc r sc vars args) k) h
  cases ob
  ·exact Gz he ns A1 x1 hv hob h
  ·exact ai (bg h) λhn h=>of_decide_eq_true hn▸GA O he ns A1 x1 hv hob h
  ·refine ex1_2 (d5 h) λq hq h=>?_
   refine ai (wE hq) λhqm zq1=>?_
   exact Gy O C he ns A1 x1 hv hqm (zq1▸hob) h
theorem GD(O:c.Ok T)(C:hF c T)(he:SE c r.e)(A:At c env sc m ρ nw H s vars)(ns:cr args=true)(hn:args.length<=20)(h:rI T r sc vars o n ap args pos k H=some res):
  wpAny (model c.prog c.w) c.A (eval (.Call (.Attribute o n ap) args [] pos) env) (b_ c m ρ nw k res) E s:=by
 refine ai (iu h) λhb h=>?_
 simp only[VG,Wt,not_or,WS,XH]at hb
 refine MethodCall_ (pl:=do return(←importBound o env).getD true) (wpAny_mono (he E A h) (λv s₁ q=>?_) λ_ _ x=>x) (Gq hb.1 hb.2 ns hn)
 obtain⟨v1,H1,ρ1,nw1,hv,S1,x1,e1⟩:=q
 exact GC O C he ns (A.next S1 x1) x1 hv e1
end
end
section
variable{c:Cx}{T:bf}{r:Lv}{m:Str->Option Value}{ρ:Ro}{nw:Nw}{H:Hp}{s:Shared}{E:Value->Shared->Prop}{env:Env}{sc:Scope}{vars:Z}
theorem GE(a b:V):V.keyEq a b=V.keyEq b a:=by
 cases a<;>cases b<;>first|rfl|(simp only[V.keyEq];rw[decide_eq_decide];exact eq_comm)
inductive PR(K:Frag)(ρ:Ro)(nw:Nw):List (V×V)->List (Value×Value)->Prop
 |nil:PR K ρ nw [] []
 |cons {k v:V}{k' v':Value}{ps:List (V×V)}{vs:List (Value×Value)}:VR K ρ nw k k'->VR K ρ nw v v'->PR K ρ nw ps vs->PR K ρ nw ((k,v)::ps) ((k',v')::vs)
theorem PR.ext{ρ':Ro}{nw':Nw}(x:aG ρ nw ρ' nw'){ps:List (V×V)}{vs:List (Value×Value)}(h:PR c.K ρ nw ps vs):PR c.K ρ' nw' ps vs:=by
 induction h with
 |nil=>exact .nil
 |cons h1 h2 _ ih=>exact .cons (h1.ext x) (h2.ext x) ih
theorem wU{k v:V}:∀{es:List (V×V)},(∀e∈es,V.keyEq e.1 k=false)->dJ k v es=es++[(k,v)]/\bo k es=none
 |[],_=>⟨rfl,rfl⟩
 |e::r,h=>by
  have h1:=h e (U3 ..)
  obtain⟨a,b⟩:=wU (k:=k) (v:=v) (es:=r) λe he=>h e (U7 _ he)
  unfold dJ bo
  refine er (VF ..) (er (h1 ..) ?_)
  refine⟨?_,b⟩
  refine er (if_neg (by simp) ..) (er (a ..) ?_)
  rfl
theorem wV{A:Around}{j:Nat}{a:Addr}:∀(ps:List (V×V)) (vs:List (Value×Value)) {acc:List (V×V)}{ρ:Ro}{nw:Nw}{H:Hp}{s:Shared}{Q:PUnit->Shared->Prop},PR c.K ρ nw ps vs->St c m ρ nw H s->H[j]?=some (.dict acc (some acc.length))->ρ[j]?=some (a,a)->
  iz ps=true->(acc.all λe=>V.isKeyStr e.1)=true->(∀e∈acc,∀f∈ps,V.keyEq e.1 f.1=false)->acc.length+ps.length<=100000->
  (∀s' nw',St c m ρ nw' (H.set j (.dict (acc++ps) (some (acc++ps).length))) s'->aG ρ nw ρ nw'->Q PUnit.unit s')->
  wpAny (model c.prog c.w) A (forIn vs PUnit.unit λ(x:Value×Value) (_:PUnit)=>(do dictSet a x.1 x.2;pure (ForInStep.yield PUnit.unit):Sem (ForInStep PUnit))) Q E s
 |[],vs,acc,ρ,nw,H,s,Q,hp,S,hj,hr,_,_,_,_,hQ=>by
  cases hp
  refine er (List.forIn_nil ..) ?_
  refine wpAny_pure (hQ s nw ?_ .refl)
  refine er (Vj ..) ?_
  have:H.set j (.dict acc (some acc.length))=H:=by
   obtain⟨h1,h2⟩:=List.getElem?_eq_some_iff.mp hj
   refine el (h2 ..) ?_;exact List.set_getElem_self h1
  refine er (this ..) ?_
  exact S
 |(k,v)::ps,vs,acc,ρ,nw,H,s,Q,hp,S,hj,hr,ka,ac,ap,hl,hQ=>by
  cases hp with
  | @cons _ _ k' v' _ vs hk hv hp=>
  unfold iz at ka
  simp only[U2]at ka
  obtain⟨⟨k1,k2⟩,k3⟩:=ka
  refine er (XS ..) ?_
  obtain⟨b,es',n,e1,e2,hm,hs,hep⟩:=S.dictAt hj (.ref hr)
  have hb:b=a:=by injection e1 with e1;exact e1.symm
  subst hb
  have new:∀e∈acc,V.keyEq e.1 k=false:=λe he=>ap e he (k,v) (U3 ..)
  obtain⟨d1,d2⟩:=wU (v:=v) new
  obtain⟨x,rfl⟩:=lg k1
  have hk2:cD (.str x) acc=true:=by unfold cD;refine er (VG ..) ?_;right;refine er (U2 ..) ?_;exact⟨rfl,ac⟩
  rw[Wh]at hl
  refine wpAny_bind (wpAny_bind (wI S hj hr hm hs hep hk hv hk2 (by unfold aV;refine er (decide_eq_true_eq ..) ?_;exact nB ‹_›) λs1 nw1 S1 x1=>wpAny_pure ?_))
  rw[d1,d2]at S1
  simp only[WK,U0,if_false,WU]at S1
  have hlen:acc.length+1=(acc++[(V.str x,v)]).length:=by simp
  rw[hlen]at S1
  have hjl:j<H.length:=(List.getElem?_eq_some_iff.mp hj).1
  refine wV ps vs (hp.ext x1) S1 (by refine er (Vl hjl ..) rfl) hr k3 ?_ ?_ (by simp;exact oO ‹_›) λs2 nw2 S2 x2=>hQ s2 nw2 ?_ (x1.trans x2)
  ·refine er (List.all_append ..) (er (ac ..) ?_);simp[V.isKeyStr]
  ·intro e he f hf
   rcases List.mem_append.mp he with he|he
   ·exact ap e he f (U7 _ hf)
   ·rw[Ve]at he
    subst he
    have k2':ps.any (λf=>V.keyEq f.1 (.str x))=false:=by simpa using k2
    have:=List.any_eq_false.mp k2' f hf
    refine er (GE ..) ?_
    simpa using this
  ·rw[List.set_set,U9]at S2
   exact S2
theorem wW(he:SE c r.e):∀(ks:List (Option Expr)) (vs:List Expr) {m:Str->Option Value}{ρ:Ro}{nw:Nw}{H:Hp}{s:Shared}{env:Env}{sc:Scope}{vars:Z}{pos:Pos}{k:List (V×V)->K}{res:V×Hp}(E:Value->Shared->Prop),At c env sc m ρ nw H s vars->ks.all (·.isSome)=true->ks.length=vs.length->kX r sc vars ks vs k H=some res->
  wpAny (model c.prog c.w) c.A (evalPairs (pairTrees ks vs env pos)) (λq s'=>q.length=ks.length/\∃ps H' ρ' nw',PR c.K ρ' nw' ps q/\St c m ρ' nw' H' s'/\aG ρ nw ρ' nw'/\k ps H'=some res) E s
 |[],[],m,ρ,nw,H,s,env,sc,vars,pos,k,res,E,A,_,_,h=>pairTrees_nil_walk ⟨rfl,[],H,ρ,nw,.nil,A.st,.refl,h⟩
 |[],_::_,_,_,_,_,_,_,_,_,_,_,_,_,_,_,hl,_=>by cases hl
 |none::_,_,_,_,_,_,_,_,_,_,_,_,_,_,_,hs,_,_=>by cases hs
 |some a::ks,[],_,_,_,_,_,_,_,_,_,_,_,_,_,_,hl,_=>by cases hl
 |some a::ks,b::vs,m,ρ,nw,H,s,env,sc,vars,pos,k,res,E,A,hs,hl,h=>by
  refine pairTrees_cons_walk (wpAny_mono (he E A h) (λv s₁ q=>?_) λ_ _ x=>x)
  obtain⟨v1,H1,ρ1,nw1,hv,S1,x1,e1⟩:=q
  refine wpAny_mono (he E (A.next S1 x1) e1) (λw s₂ q=>?_) λ_ _ x=>x
  obtain⟨v2,H2,ρ2,nw2,hw,S2,x2,e2⟩:=q
  refine wpAny_mono (wW he ks vs E (A.next S2 (x1.trans x2)) (by simpa using hs) (by simpa using hl) e2) (λq s₃ z=>?_) λ_ _ x=>x
  obtain⟨z0,ps,H3,ρ3,nw3,hp,S3,x3,e3⟩:=z
  exact⟨by simp[z0],_,H3,ρ3,nw3,.cons (hv.ext (x2.trans x3)) (hw.ext x3) hp,S3,x1.trans (x2.trans x3),e3⟩
theorem GF{pairs:List (Sem Value×Sem Value)}{A:Around}{prog:Program}{w:World}{Q:Addr->Shared->Prop}(hlen:pairs.length<=15)
  (h:wpAny (model prog w) A (evalPairs pairs) (λvs s₁=>wpAny (model prog w) A (forIn vs PUnit.unit λ(x:Value×Value) (_:PUnit)=>(do dictSet s.heap.objs.size x.1 x.2;pure (ForInStep.yield PUnit.unit):Sem (ForInStep PUnit))) (λ_ s₂=>Q s.heap.objs.size s₂) E s₁) E
   {s with heap:=s.heap.push {cls:= .type "dict",data:= .dict #[]}}):
  wpAny (model prog w) A (subDict pairs) Q E s:=by
 unfold subDict
 refine wpAny_bind (wpAny_alloc ?_)
 refine wpAny_bind (wpAny_holding ?_)
 refine er (if_pos hlen ..) ?_
 refine wpAny_bind (wpAny_mono h (λvs s₁ h₁=>?_) λ_ _ e=>e)
 refine wpAny_holding ?_
 exact wpAny_bind (wpAny_mono h₁ (λ_ _ q=>wpAny_pure (wpAny_pure q)) λ_ _ x=>x)
theorem GG(he:SE c r.e){ks:List (Option Expr)}{vs:List Expr}{pos:Pos}{k:V->K}{res:V×Hp}(A:At c env sc m ρ nw H s vars)(hne:ks≠[])
  (h:(if ks.all (·.isSome)&&decide (ks.length=vs.length)&&decide (ks.length<=15)then UX (aF (.dict [] (some 0))) λo=>kX r sc vars ks vs λps=>match o with
    | .ref j=>UX (cC j) λob=>match ob with
     | .dict [] (some 0)=>if iz ps&&decide (ps.length<=15)then UX (c_ j (.dict ps (some ps.length))) λ_=>k o else UY
     |_=>UY
    |_=>UY
   else UY) H=some res):
  wpAny (model c.prog c.w) c.A (eval (.Dict ks vs pos) env) (b_ c m ρ nw k res) E s:=by
 obtain⟨S1,x1⟩:=A.st.new1 (ob:={cls:= .type "dict",data:= .dict #[]}) (o:= .dict [] (some 0)) rfl λx=> .dict (es':=[]) (n:=0) (U3 ..) .nil (λe h=>by cases h;rfl)
 obtain⟨hg,h⟩:=bg h
 rw[U2,U2,decide_eq_true_eq,decide_eq_true_eq]at hg
 obtain⟨⟨g1,g2⟩,g3⟩:=hg
 have hn:=pairTrees_length ks vs env pos g1 g2
 rw[arm_eval_Dict,zip_pairTrees ks vs env pos g1 g2,dictDisplay_pairs (pairTrees ks vs env pos) (by
  intro he
  rw[he]at hn
  exact hne (List.length_eq_zero_iff.mp hn.symm)) (by omega)]
 refine wpAny_bind (wpAny_standAt (wpAny_bind (GF (Q:=λd s'=>wpAny (model c.prog c.w) c.A (pure (Value.ref d)) (b_ c m ρ nw k res) E s') (nQ ‹_› ‹_›) ?_)))
 have h2:kX r sc vars ks vs (λps=>UX (cC H.length) λob=>match ob with
    | .dict [] (some 0)=>if iz ps&&decide (ps.length<=15)then UX (c_ H.length (.dict ps (some ps.length))) λ_=>k (.ref H.length)else UY
    |_=>UY) (H++[.dict [] (some 0)])=some res:=h
 have hk:(ρ++[(s.heap.objs.size,s.heap.objs.size)])[H.length]?=some (s.heap.objs.size,s.heap.objs.size):=by refine el (A.st.rep.len ..) ?_;simp
 refine wpAny_mono (wW he ks vs E (A.next S1 x1) g1 g2 h2) (λq s₁ z=>?_) λ_ _ x=>x
 obtain⟨z0,ps,H2,ρ2,nw2,hp,S2,x2,e2⟩:=z
 obtain⟨ob,hob,e3⟩:=dM e2
 split at e3
 ·split at e3
  ·rename_i hka
   rw[U2,decide_eq_true_eq]at hka
   refine wV ps q hp S2 hob (x2.ro _ _ hk) hka.1 rfl (λ_ h=>nomatch h) (by simp;omega) λs3 nw3 S3 x3=>wpAny_pure ?_
   rw[WW]at S3
   exact⟨_,_,_,_,.ref (x2.ro _ _ hk),S3,x1.trans (x2.trans x3),e3⟩
  ·exact ak e3
 ·exact ak e3
theorem GH(he:SE c r.e){ks:List (Option Expr)}{vs:List Expr}{pos:Pos}{k:V->K}{res:V×Hp}(A:At c env sc m ρ nw H s vars)
  (h:(match ks,vs with
  |[],[]=>UX (aF (.dict [] (some 0))) k
  |ks,vs=>if ks.all (·.isSome)&&decide (ks.length=vs.length)&&decide (ks.length<=15)then UX (aF (.dict [] (some 0))) λo=>kX r sc vars ks vs λps=>match o with
    | .ref j=>UX (cC j) λob=>match ob with
     | .dict [] (some 0)=>if iz ps&&decide (ps.length<=15)then UX (c_ j (.dict ps (some ps.length))) λ_=>k o else UY
     |_=>UY
    |_=>UY
   else UY) H=some res):
  wpAny (model c.prog c.w) c.A (eval (.Dict ks vs pos) env) (b_ c m ρ nw k res) E s:=by
 rcases ks with _|⟨k0,ks⟩
 ·rcases vs with _|⟨v0,vs⟩
  ·obtain⟨S1,x1⟩:=A.st.new1 (ob:={cls:= .type "dict",data:= .dict #[]}) (o:= .dict [] (some 0)) rfl λx=> .dict (es':=[]) (n:=0) (U3 ..) .nil (λe h=>by cases h;rfl)
   refine wpAny_Dict_empty ?_
   exact⟨_,_,_,_,ld _ _ A.st.rep.len,S1,x1,h⟩
  ·simp only at h
   obtain⟨hg,h⟩:=bg h
   simp at hg
 ·exact GG he A (by simp) h
end
noncomputable def m0(o:Obj):Prop:=∀items,o≠i6 items
structure iM(K:Frag)(ρ:Ro)(nw:Nw)(ρ':Ro)(nw':Nw):Prop where
 ro:∀(k:Nat) (p:Addr×Addr),ρ[k]?=some p->ρ'[k]?=some p
 tup:∀a items,fD K ρ nw a items->fD K ρ' nw' a items
theorem VR.mono{K:Frag}{ρ ρ':Ro}{nw nw':Nw}(x:iM K ρ nw ρ' nw'):∀{v:V}{v':Value},VR K ρ nw v v'->VR K ρ' nw' v v':=
 λh=>VR.rec (motive_1:=λv v' _=>VR K ρ' nw' v v') (motive_2:=λl l' _=>VRs K ρ' nw' l l') .none .bool .int .str (λh _ i=> .tup (x.tup _ _ h) i) (λh=> .ref (x.ro _ _ h)) .fn (λh hs=> .frz h hs) .nil (λ_ _ a b=> .cons a b) h
theorem VRs.mono{K:Frag}{ρ ρ':Ro}{nw nw':Nw}(x:iM K ρ nw ρ' nw'):∀{v:List V}{v':List Value},VRs K ρ nw v v'->VRs K ρ' nw' v v':=
 λh=>VRs.ind (P:=VRs K ρ' nw') .nil (λa _ b=> .cons (a.mono x) b) h
theorem ER.mono{K:Frag}{ρ ρ':Ro}{nw nw':Nw}(x:iM K ρ nw ρ' nw'):∀{es:List (Str×V)}{es':List DictEntry},ER K ρ nw es es'->ER K ρ' nw' es es':=
 λh=>ER.rec (motive:=λes es' _=>ER K ρ' nw' es es') .nil (λh _ i=> .cons (h.mono x) i) h
theorem DR.mono{P:Params}{K:Frag}{ρ ρ':Ro}{nw nw':Nw}(x:iM K ρ nw ρ' nw'):∀{es:List (V×V)}{es':List DictEntry},DR P K ρ nw es es'->DR P K ρ' nw' es es':=
 λh=>DR.rec (motive:=λes es' _=>DR P K ρ' nw' es es') .nil (λh1 h2 h3 h4 _ i=> .cons (h1.mono x) (h2.mono x) h3 h4 i) h
theorem OR.mono{P:Params}{K:Frag}{ρ ρ':Ro}{nw nw':Nw}(x:iM K ρ nw ρ' nw'){o:O}{p:Addr×Addr}(h:OR P K ρ nw o p)(h1:∀q∈nw,q.1=p.1∨q.1=p.2->q∈nw'):OR P K ρ' nw' o p:=by
 cases h with
 |list h hs=>exact .list (h1 _ h (.inl rfl)) (hs.mono x)
 |dict h hs e=>exact .dict (h1 _ h (.inl rfl)) (hs.mono x) e
 |inst h h' hs=>exact .inst (h1 _ h (.inl rfl)) (h1 _ h' (.inr rfl)) (hs.mono x)
section
variable{c:Cx}{T:bf}{r:Lv}{m:Str->Option Value}{ρ:Ro}{nw:Nw}{H:Hp}{s:Shared}{E:Value->Shared->Prop}{env:Env}{sc:Scope}{vars:Z}
structure dB(ia:List Addr)(nw nw':Nw):Prop where
 keep:∀p∈nw,p.1∉ia->p∈nw'
noncomputable def cJ(ia:List Addr)(ρ:Ro)(nw:Nw):Prop:=∀a∈ia,¬bA ρ a/\∀o,(a,o)∈nw->m0 o
theorem dB.mono{K:Frag}{ia:List Addr}{nw':Nw}(k:dB ia nw nw')(f:cJ ia ρ nw):iM K ρ nw ρ nw':=by
 refine⟨λ_ _ h=>h,λa items h=>?_⟩
 rcases h with⟨h,n⟩|h
 ·by_cases ha:a∈ia
  ·exact absurd rfl ((f a ha).2 _ h items)
  ·exact .inl ⟨k.keep _ h ha,n⟩
 ·exact .inr h
theorem St.shift(S:St c m ρ nw H s){ia:List Addr}{h':Heap}{nw':Nw}(k:dB ia nw nw')(f:cJ ia ρ nw)(F':Fr c.h₀ c.L h' m)(N':News c.h₀ c.L h' nw')(nd:(nw'.map (·.1)).Nodup)(t:Nat):
  St c m ρ nw' H {s with heap:=h',toks:=t}:=by
 refine⟨F',N',⟨S.rep.len,λi o p h hp=>?_,S.rep.apart,nd⟩,S.g,S.d,S.o⟩
 refine(S.rep.obj i o p h hp).mono (k.mono f) λq hq e=>k.keep q hq λhi=>(f _ hi).1 ?_
 rcases e with e|e<;>rw[e]
 ·exact(pu hp).1
 ·exact(pu hp).2
theorem Fr.extBut{h₀ h h':Heap}{L I:Addr}{m:Str->Option Value}(F:Fr h₀ L h m)(hs:Heap.ExtBut I h h')(hL:L≠I)(hI:h₀.get? I=none):Fr h₀ L h' m:=by
 refine ex3_2 (F.ns) λoL a1 a2 hoL a3=>?_
 refine⟨⟨oL,a1,a2,hs L oL hL hoL,a3⟩,λb o e=>hs b o (λh=>by rw[h,hI]at e;exact ak e) (F.keep b o e),F.above⟩
theorem GI{p:Addr×Obj->Bool}(h:(nw.map (·.1)).Nodup):((nw.filter p).map (·.1)).Nodup:=List.Sublist.nodup (List.Sublist.map _ List.filter_sublist) h
theorem St.drop(S:St c m ρ nw H s){I:Addr}{ob:Obj}{h':Heap}(hm:(I,ob)∈nw)(f:cJ [I] ρ nw)(hs:Heap.ExtBut I s.heap h')(t:Nat):
  St c m ρ (nw.filter λp=>decide (p.1≠I)) H {s with heap:=h',toks:=t}/\dB [I] nw (nw.filter λp=>decide (p.1≠I)):=by
 have z:=S.ns _ hm
 have k:dB [I] nw (nw.filter λp=>decide (p.1≠I)):=⟨λp hp hn=>List.mem_filter.mpr ⟨hp,by simpa using hn⟩⟩
 refine⟨S.shift k f (Fr.extBut S.fr hs (Ne.symm z.2.1) z.2.2) (λp hp=>?_) (GI S.rep.nodup) t,k⟩
 refine ai (List.mem_filter.mp hp) λh1 h2=>?_
 have y:=S.ns p h1
 exact⟨hs _ _ (by simpa using h2) y.1,y.2.1,y.2.2⟩
theorem St.updFree(S:St c m ρ nw H s){I:Addr}{ob ob':Obj}{h':Heap}(hm:(I,ob)∈nw)(f:cJ [I] ρ nw)(hs:Heap.SameBut I s.heap h')(hg:h'.get? I=some ob')(t:Nat):
  St c m ρ (bt nw I ob') H {s with heap:=h',toks:=t}/\dB [I] nw (bt nw I ob'):=by
 have z:=S.ns _ hm
 have k:dB [I] nw (bt nw I ob'):=⟨λp hp hn=>gC hp (by simpa using hn)⟩
 exact⟨S.shift k f (S.fr.change hs z.2.1 z.2.2) (wg S.ns S.rep.nodup hm hs hg) (by refine er (jR ..) ?_;exact S.rep.nodup) t,k⟩
theorem aG.kept{ρ₀:Ro}{nw₀ nw':Nw}{ia:List Addr}(x:aG ρ₀ nw₀ ρ nw)(k:dB ia nw nw')(h:∀p∈nw₀,p.1∉ia):aG ρ₀ nw₀ ρ nw':=
 ⟨x.ro,λp hp hn=>let⟨a,b⟩:=x.keep p hp hn;⟨k.keep p a (h p hp),b⟩⟩
end
noncomputable abbrev wX(x left step:Int):Obj:={cls:= .type "range_iterator",dict:=none,data:= .fields #[rawInt x,rawInt left,rawInt step],slots:= #[]}
noncomputable abbrev m3(it:Addr)(i:Int)(old:Value):Obj:={cls:= .type "enumerate",dict:=none,data:= .fields #[.none,.bool false,.ref it,rawInt i,.none,old],slots:= #[]}
noncomputable abbrev m5(it:Addr)(i:Int)(item:Value)(a:Addr):Obj:={cls:= .type "enumerate",dict:=none,data:= .fields #[rawInt a,.bool false,.ref it,rawInt i,.none,item],slots:= #[]}
noncomputable def jX(o:Obj)(l:Addr)(i:Nat):Prop:=o.cls= .type "list_iterator"/\o.data= .fields #[.ref l,.int i 0]
inductive bx(c:Cx)(ρ:Ro)(nw:Nw):It->Nat->Addr->List Addr->Prop
 |tup {xs:List V}{i:Nat}{I t:Addr}{o:Obj}{items:List Value}:(I,o)∈nw->¬bA ρ I->o.cls= .type "tuple_iterator"->o.data= .fields #[.ref t,.int i 0]->fD c.K ρ nw t items->VRs c.K ρ nw xs items->bx c ρ nw (.vals xs) i I [I]
 |range {xs:List V}{i:Nat}{I:Addr}{x left step:Int}:(I,wX x left step)∈nw->¬bA ρ I->0<=left->xs.drop i=cI x step left.toNat->bx c ρ nw (.vals xs) i I [I]
 |live {k i:Nat}{I l:Addr}{o:Obj}:(I,o)∈nw->¬bA ρ I->jX o l i->ρ[k]?=some (l,l)->bx c ρ nw (.live k) i I [I]
 |keys {k ep n i:Nat}{I d:Addr}{o:Obj}:(I,o)∈nw->¬bA ρ I->o.cls= .type "dict_keyiterator"->o.data= .fields #[.ref d,.int i 0,.int n 0,.int ep 0]->ρ[k]?=some (d,d)->bx c ρ nw (.keys k ep n) i I [I]
 |enum {k i:Nat}{I it l:Addr}{o:Obj}{old:Value}:(I,m3 it i old)∈nw->¬bA ρ I->(it,o)∈nw->¬bA ρ it->jX o l i->I≠it->ρ[k]?=some (l,l)->bx c ρ nw (.enum k) i I [I,it]
inductive hH(c:Cx)(ρ:Ro)(nw:Nw):It->Nat->Addr->List Addr->Value->Prop
 |std {it:It}{i:Nat}{I:Addr}{ia:List Addr}{v:Value}:bx c ρ nw it i I ia->(∀k,it≠ .enum k)->hH c ρ nw it i I ia v
 |out {k i:Nat}{I it l a:Addr}{o:Obj}{old:Value}:(I,m5 it i old a)∈nw->¬bA ρ I->(it,o)∈nw->¬bA ρ it->jX o l i->I≠it->ρ[k]?=some (l,l)->hH c ρ nw (.enum k) i I [I,it] (.ref a)
section
variable{c:Cx}{T:bf}{r:Lv}{m:Str->Option Value}{ρ:Ro}{nw:Nw}{H:Hp}{s:Shared}{E:Value->Shared->Prop}{env:Env}{sc:Scope}{vars:Z}
theorem iN{o:Obj}{n:String}(h:o.cls= .type n)(hn:n≠"tuple"):m0 o:=λitems e=>by
 rw[e]at h
 injection h with h
 exact hn h.symm
theorem eU(nd:(nw.map (·.1)).Nodup){I:Addr}{o:Obj}(h:(I,o)∈nw)(hn:¬bA ρ I)(ht:m0 o):cJ [I] ρ nw:=λa ha=>by
 rw[Ve]at ha
 subst ha
 refine⟨hn,λo' h'=>?_⟩
 have:=vW nd h h' rfl
 injection this with _ e
 exact e▸ht
theorem wY{I J:Addr}(a:cJ [I] ρ nw)(b:cJ [J] ρ nw):cJ [I,J] ρ nw:=λx hx=>by
 rcases List.mem_cons.mp hx with rfl|hx
 ·exact a _ (List.mem_singleton.mpr rfl)
 ·exact b _ hx
theorem bx.free(nd:(nw.map (·.1)).Nodup){it:It}{i:Nat}{I:Addr}{ia:List Addr}(h:bx c ρ nw it i I ia):cJ ia ρ nw:=by
 cases h with
 |tup h1 h2 h3 _ _ _=>exact eU nd h1 h2 (iN h3 (by decide))
 |range h1 h2 _ _=>exact eU nd h1 h2 (iN rfl (by decide))
 |live h1 h2 h3 _=>exact eU nd h1 h2 (iN h3.1 (by decide))
 |keys h1 h2 h3 _ _=>exact eU nd h1 h2 (iN h3 (by decide))
 |enum h1 h2 h3 h4 h5 _ _=>exact wY (eU nd h1 h2 (iN rfl (by decide))) (eU nd h3 h4 (iN h5.1 (by decide)))
theorem bx.ext{ρ':Ro}{nw':Nw}(x:aG ρ nw ρ' nw'){it:It}{i:Nat}{I:Addr}{ia:List Addr}(h:bx c ρ nw it i I ia):bx c ρ' nw' it i I ia:=by
 cases h with
 |tup h1 h2 h3 h4 h5 h6=>exact .tup (x.keep _ h1 h2).1 (x.keep _ h1 h2).2 h3 h4 (h5.ext x) (h6.ext x)
 |range h1 h2 h3 h4=>exact .range (x.keep _ h1 h2).1 (x.keep _ h1 h2).2 h3 h4
 |live h1 h2 h3 h4=>exact .live (x.keep _ h1 h2).1 (x.keep _ h1 h2).2 h3 (x.ro _ _ h4)
 |keys h1 h2 h3 h4 h5=>exact .keys (x.keep _ h1 h2).1 (x.keep _ h1 h2).2 h3 h4 (x.ro _ _ h5)
 |enum h1 h2 h3 h4 h5 h6 h7=>exact .enum (x.keep _ h1 h2).1 (x.keep _ h1 h2).2 (x.keep _ h3 h4).1 (x.keep _ h3 h4).2 h5 h6 (x.ro _ _ h7)
theorem GJ{x d:Int}{n:Nat}(h:cI x d n=[]):n=0:=by cases n with|zero=>rfl|succ n=>cases h
noncomputable def gF(c:Cx)(m:Str->Option Value)(ρ:Ro)(nw:Nw)(H:Hp)(it:It)(i:Nat)(I:Addr)(ia:List Addr)(o:Option V)(rv:Option Value)(s':Shared):Prop:=
 ∃nw',St c m ρ nw' H s'/\dB ia nw nw'/\match o with
  |none=>rv=none
  |some v=>∃v',rv=some v'/\VR c.K ρ nw' v v'/\hH c ρ nw' it (i+1) I ia v'
theorem so(S:St c m ρ nw H s){I l:Addr}{o:Obj}{i:Nat}(h:(I,o)∈nw)(hl:jX o l i):s.heap.IsListIter I l i:=⟨o,S.ns.get h,hl.1,hl.2⟩
theorem wZ{es:List (V×V)}{es':List DictEntry}(prog:Program)(w:World)(hd:DR c.w.params c.K ρ nw es es')(hk:(es.all λe=>V.isKeyStr e.1)=true):
  ∃kvs,Pairs (PySem.strKind prog w) es' kvs/\(kvs.map (·.1)).Nodup/\kvs.length=es.length/\∀(i:Nat) (e:V×V),es[i]?=some e->∃(x:Str) (v':Value),e.1=V.str x/\kvs[i]?=some (x,v'):=by
 induction hd with
 |nil=>exact⟨[],.nil,by simp,rfl,λi e h=>by simp at h⟩
 | @cons k v e es es' h1 h2 h3 h4 hs ih=>
  simp only[VL,U2]at hk
  refine ex1_4 (ih hk.2) λkvs p1 p2 p3 p4=>?_
  refine ex1_1 (lg hk.1) λx zq2=>?_
  subst zq2
  refine⟨(x,e.val)::kvs,.cons ?_ rfl p1,?_,by simp[p3],λi e h=>?_⟩
  ·revert h1
   generalize e.key=q
   intro h1
   refine ex1_1 (eh h1) λ_ zq=>?_;subst zq
   exact wi x 0
  ·rw[Vi,VV]
   refine⟨λhm=>?_,p2⟩
   refine ex1_2 (List.mem_map.mp hm) λq hq eq=>?_
   obtain⟨j,hj,hj2⟩:=WC hq
   have hj3:j<es.length:=p3▸hj
   obtain⟨y,v',e1,e2⟩:=p4 j es[j] (by simp[hj3])
   have:=h4 es[j] (VO hj3)
   rw[e1]at this
   have e3:kvs[j]?=some q:=by simp[hj,hj2]
   replace e2:=Vu (We (e3)) e2
   obtain rfl:=Option.some.inj e2
   simp only at eq
   subst eq
   simp[V.keyEq]at this
  ·cases i with
   |zero=>simp at h;subst h;exact⟨x,_,rfl,by simp;rfl⟩
   |succ i=>simp at h;obtain⟨y,v',a,b⟩:=p4 i e h;exact⟨y,v',a,by simpa using b⟩
theorem w3{I:Addr}{o o':Obj}(h:(I,o)∈nw):(I,o')∈bt nw I o':=eK h
section
variable{i:Nat}{I:Addr}{o:Obj}{h':Heap}{it:It}{q:Option V×Hp}{xs:List V}{t:Nat}
theorem pN(S:St c m ρ nw H s)(h1:(I,o)∈nw)(fr:cJ [I] ρ nw)(hs:Heap.ExtBut I s.heap h')(e1:q.1=none)(e2:q.2=H):gF c m ρ nw q.2 it i I [I] q.1 none {s with heap:=h'}:=by
 refine ai (S.drop h1 fr hs s.toks) λS' k=>?_
 refine er (e1 ..) (er (e2 ..) ?_)
 exact⟨_,S',k,rfl⟩
theorem pO(S:St c m ρ nw H s)(h1:(I,o)∈nw)(fr:cJ [I] ρ nw)(hs:Heap.SameBut I s.heap h'){o':Obj}(hg:h'.get? I=some o'){v:V}{v':Value}(hne:∀k,it≠ .enum k)(hv:VR c.K ρ nw v v')(R:iM c.K ρ nw ρ (bt nw I o')->(I,o')∈bt nw I o'->bx c ρ (bt nw I o') it (i+1) I [I])(e1:q.1=some v)(e2:q.2=H):
  gF c m ρ nw q.2 it i I [I] q.1 (some v') {s with heap:=h',toks:=t}:=by
 refine ai (S.updFree h1 fr hs hg t) λS' k=>?_
 refine er (e1 ..) (er (e2 ..) ?_)
 have mo:=k.mono (K:=c.K) fr
 exact⟨_,S',k,v',rfl,hv.mono mo,.std (R mo (w3 h1)) hne⟩
theorem sq{ys:List Value}(h:VRs c.K ρ nw xs ys)(hx:xs[i]?=none):ys.toArray[i]?=none:=by
 have:=List.getElem?_eq_none_iff.mp hx
 have hl:=h.length
 simp;omega
theorem GK(O:c.Ok T)(S:St c m ρ nw H s)(fr:cJ [I] ρ nw){a:Addr}{items:List Value}(h1:(I,o)∈nw)(h2:¬bA ρ I)(h3:o.cls= .type "tuple_iterator")(h4:o.data= .fields #[.ref a,.int i 0])(h5:fD c.K ρ nw a items)(h6:VRs c.K ρ nw xs items)(e1:q.1=xs[i]?)(e2:q.2=H):
  wpAny (model c.prog c.w) c.A (pyNext (.ref I)) (gF c m ρ nw q.2 (.vals xs) i I [I] q.1) E s:=by
 have hit:s.heap.IsTupleIter I a i:=⟨o,S.ns.get h1,h3,h4⟩
 have hT:s.heap.IsTuple a items.toArray:=S.isTup O h5
 cases hx:xs[i]? with
 |none=>exact wpAny_pyNext_tuple_end O.hh hit hT (sq h6 hx) λh' hs=>pN S h1 fr hs (e1.trans hx) e2
 |some v=>
  refine ex1_2 (h6.get hx) λv' a b=>?_
  refine wpAny_pyNext_tuple_item hit hT (x:=v') (by simpa using a) λh' hi hs=>?_
  refine ex1_3 (hi) λo' g1 g2 g3=>?_
  exact pO S h1 fr hs g1 (λ_ h=>nomatch h) b (λmo hm=> .tup hm h2 g2 g3 (mo.tup _ _ h5) (h6.mono mo)) (e1.trans hx) e2
theorem GL(O:c.Ok T)(S:St c m ρ nw H s)(fr:cJ [I] ρ nw){x left step:Int}(h1:(I,wX x left step)∈nw)(h2:¬bA ρ I)(h3:0<=left)(h4:xs.drop i=cI x step left.toNat)(e1:q.1=xs[i]?)(e2:q.2=H):
  wpAny (model c.prog c.w) c.A (pyNext (.ref I)) (gF c m ρ nw q.2 (.vals xs) i I [I] q.1) E s:=by
 have hit:IsRangeIter s.heap I x left step:=S.ns.get h1
 cases hx:xs[i]? with
 |none=>
  have hl:left.toNat=0:=GJ (by refine el (h4 ..) ?_;exact VN (List.getElem?_eq_none_iff.mp hx))
  exact wpAny_pyNext_range_end O.hh hit (by lia) λh' hs=>pN S h1 fr hs (e1.trans hx) e2
 |some v=>
  refine ex1_1 (List.getElem?_eq_some_iff.mp hx) λhlt hv=>?_
  rw[Wc hlt,hv]at h4
  cases hn:left.toNat with
  |zero=>rw[hn]at h4;exact nomatch h4
  |succ n=>
   rw[hn]at h4
   refine ai (List.cons.inj h4) λhv2 h4=>?_
   refine wpAny_pyNext_range_item hit (by omega) λh' hi hs=>?_
   exact pO S h1 fr hs hi (λ_ h=>nomatch h) (hv2▸ .int _ _) (λmo hm=> .range hm h2 (by omega) (by refine er (h4 ..) (er ((show(left-1).toNat=n by lia) ..) rfl))) (e1.trans hx) e2
theorem GN(O:c.Ok T)(S:St c m ρ nw H s)(fr:cJ [I] ρ nw){k:Nat}{l:Addr}(h1:(I,o)∈nw)(h2:¬bA ρ I)(h3:jX o l i)(h4:ρ[k]?=some (l,l))(hob:H[k]?=some (.list xs))(e1:q.1=xs[i]?)(e2:q.2=H):
  wpAny (model c.prog c.w) c.A (pyNext (.ref I)) (gF c m ρ nw q.2 (.live k) i I [I] q.1) E s:=by
 obtain⟨l',items,n,e3,hp,hm,hs⟩:=S.listAt hob (.ref h4)
 obtain rfl:l=l':=Value.ref.inj e3
 have hit:=so S h1 h3
 cases hx:xs[i]? with
 |none=>exact wpAny_pyNext_list_end O.hh hit (S.isList hm) (sq hs hx) λh' hs=>pN S h1 fr hs (e1.trans hx) e2
 |some v=>
  refine ex1_2 (hs.get hx) λv' a b=>?_
  refine wpAny_pyNext_list_item hit (S.isList hm) (x:=v') (by simpa using a) λh' hi hs=>?_
  refine ex1_3 (hi) λo' g1 g2 g3=>?_
  exact pO S h1 fr hs g1 (λ_ h=>nomatch h) b (λmo hm=> .live hm h2 ⟨g2,g3⟩ h4) (e1.trans hx) e2
theorem GO(O:c.Ok T)(S:St c m ρ nw H s)(fr:cJ [I] ρ nw){k ep n:Nat}{d:Addr}{es:List (V×V)}(h1:(I,o)∈nw)(h2:¬bA ρ I)(h3:o.cls= .type "dict_keyiterator")(h4:o.data= .fields #[.ref d,.int i 0,.int n 0,.int ep 0])(h5:ρ[k]?=some (d,d))(hob:H[k]?=some (.dict es (some ep)))(hn:es.length=n)(hk:(es.all λe=>V.isKeyStr e.1)=true)(e1:q.1=(es[i]?).map (·.1))(e2:q.2=H):
  wpAny (model c.prog c.w) c.A (pyNext (.ref I)) (gF c m ρ nw q.2 (.keys k ep n) i I [I] q.1) E s:=by
 obtain⟨d',es',n',e3,hp,hm,hs,hep⟩:=S.dictAt hob (.ref h5)
 obtain rfl:d=d':=Value.ref.inj e3
 refine ex1_4 (wZ c.prog c.w hs hk) λkvs p1 p2 p3 p4=>?_
 obtain rfl:n'=ep:=hep _ rfl
 have hd:s.heap.DictAt (PySem.strKind c.prog c.w) d kvs n':=⟨_,es'.toArray,S.ns.get hm,⟨rfl,rfl,rfl⟩,rfl,jT c.prog hs hk,by simpa using p1,p2⟩
 have hit:s.heap.IsKeyIter I d i kvs.length n':=⟨o,S.ns.get h1,h3,by refine er (p3 ..) (er (hn ..) ?_);exact h4⟩
 cases hx:es[i]? with
 |none=>
  have hx':kvs[i]?=none:=by
   have:=List.getElem?_eq_none_iff.mp hx
   simp;lia
  exact wpAny_pyNext_dict_end O.hh hit hd hx' λh' hs=>pN S h1 fr hs (e1.trans (hx▸rfl)) e2
 |some e0=>
  refine ex2_2 (p4 i e0 hx) λx v' a b=>?_
  refine wpAny_pyNext_dict_item hit hd b λkey h' hkey hi hs=>?_
  refine ex1_3 (hi) λo' g1 g2 g3=>?_
  refine ex1_1 (Value.isStrOf_shape hkey) λt e=>?_
  exact pO (v:=e0.1) S h1 fr hs g1 (λ_ h=>nomatch h) (by refine er (a ..) (er (e ..) ?_);exact .str _ _) (λmo hm=> .keys hm h2 g2 (by refine el (hn ..) (el (p3 ..) ?_);exact g3) h5) (e1.trans (hx▸rfl)) e2
theorem iO{α:Type}{a:α}{r:α×Hp}(h:UZ a H=some r):r.1=a/\r.2=H:=bW h▸⟨rfl,rfl⟩
theorem pP(O:c.Ok T)(S:St c m ρ nw H s){ia:List Addr}(R:bx c ρ nw it i I ia)(hne:∀k,it≠ .enum k)(e:b8 it i H=some q):
  wpAny (model c.prog c.w) c.A (pyNext (.ref I)) (gF c m ρ nw q.2 it i I ia q.1) E s:=by
 have fr:=R.free S.rep.nodup
 cases R with
 |tup h1 h2 h3 h4 h5 h6=>exact ai (iO e) λe1 e2=>GK O S fr h1 h2 h3 h4 h5 h6 e1 e2
 |range h1 h2 h3 h4=>exact ai (iO e) λe1 e2=>GL O S fr h1 h2 h3 h4 e1 e2
 |live h1 h2 h3 h4=>exact ex1_2 (gE e) λxs hob e=>ai (iO e) λe1 e2=>GN O S fr h1 h2 h3 h4 hob e1 e2
 |keys h1 h2 h3 h4 h5=>
  obtain⟨ob,hob,e⟩:=dM (f:=rC _ _ _) e
  cases ob<;>first|exact ak e|skip
  refine ex1_2 (d5 e) λep' zq e=>?_
  refine ai (bg e) λhz e=>?_
  simp only[U2,decide_eq_true_eq]at hz
  exact ai (iO e) λe1 e2=>GO O S fr h1 h2 h3 h4 h5 (by refine er (hob ..) (er (zq ..) (er (hz.1.1 ..) rfl))) hz.1.2 hz.2 e1 e2
 |enum=>exact absurd rfl (hne _)
end
end
section
variable{c:Cx}{T:bf}{r:Lv}{m:Str->Option Value}{ρ:Ro}{nw:Nw}{H:Hp}{s:Shared}{E:Value->Shared->Prop}{env:Env}{sc:Scope}{vars:Z}
theorem w4{a:Addr}{o:Obj}{p:Addr×Obj}(h:p∈bt nw a o):p=(a,o)∨(p∈nw/\p.1≠a):=by
 refine ex1_2 (List.mem_map.mp h) λq hq e=>?_
 by_cases hqa:q.1=a
 ·rw[if_pos hqa]at e;exact .inl e.symm
 ·rw[if_neg hqa]at e;subst e;exact .inr ⟨hq,hqa⟩
theorem GP{h₀ h h':Heap}{L I J:Addr}{oI oJ oI' oJ':Obj}(N:News h₀ L h nw)(hI:(I,oI)∈nw)(hJ:(J,oJ)∈nw)(gI:h'.get? I=some oI')(gJ:h'.get? J=some oJ')
  (k:∀b o,b≠I->b≠J->h.get? b=some o->h'.get? b=some o):News h₀ L h' (bt (bt nw J oJ') I oI'):=by
 intro p hp
 rcases w4 hp with rfl|⟨hp,n1⟩
 ·exact⟨gI,(N _ hI).2⟩
 ·rcases w4 hp with rfl|⟨hp,n2⟩
  ·exact⟨gJ,(N _ hJ).2⟩
  ·exact⟨k _ _ n1 n2 (N p hp).1,(N p hp).2⟩
theorem Fr.two{h₀ h h':Heap}{L I J:Addr}{m:Str->Option Value}(F:Fr h₀ L h m)(k:∀b o,b≠I->b≠J->h.get? b=some o->h'.get? b=some o)(hLI:L≠I)(hLJ:L≠J)(hI:h₀.get? I=none)(hJ:h₀.get? J=none):Fr h₀ L h' m:=by
 refine ex3_2 (F.ns) λoL a1 a2 hoL a3=>?_
 exact⟨⟨oL,a1,a2,k L oL hLI hLJ hoL,a3⟩,λb o e=>k b o (λh=>by rw[h,hI]at e;cases e) (λh=>by rw[h,hJ]at e;cases e) (F.keep b o e),F.above⟩
theorem St.size_ok(S:St c m ρ nw H s):s.heap.objs.size≠c.L/\c.h₀.get? s.heap.objs.size=none:=by
 refine ex3_2 (S.fr.ns) λoL _ _ hL _=>?_
 refine⟨WH (Heap.lt_size hL),?_⟩
 cases hq:c.h₀.get? s.heap.objs.size with
 |none=>rfl
 |some o=>exact absurd (Heap.lt_size (S.fr.keep _ _ hq)) (Wj _)
theorem St.size_own(S:St c m ρ nw H s):¬bA ρ s.heap.objs.size:=λh=>by
 rcases S.rep.owned h with⟨_,_,h⟩|⟨_,_,h⟩|⟨_,_,h⟩<;>exact g9 S.ns _ h rfl
section
variable{k i:Nat}{I it l:Addr}{o o' x:Obj}{old v':Value}{q:Option V×Hp}{h':Heap}{v:V}
theorem GQ(S:St c m ρ nw H s)(fr:cJ [I,it] ρ nw)(h1:(I,m3 it i old)∈nw)(h2:¬bA ρ I)(h3:(it,o)∈nw)(h4:¬bA ρ it)(h6:I≠it)(h7:ρ[k]?=some (l,l))(hv:VR c.K ρ nw v v')
  (g1:h'.get? I=some (m5 it ((i:Int)+1) v' s.heap.objs.size)) (p1:h'.get? it=some o') (p2:jX o' l (i+1)) (g3:h'.get? s.heap.objs.size=some (i6 [.int (i:Int) s.toks,v'])) (N1:News c.h₀ c.L h' (bt (bt nw it o') I (m5 it ((i:Int)+1) v' s.heap.objs.size))) (F:Fr c.h₀ c.L h' m) (e1:q.1=some (.tup [.int i,v])) (e2:q.2=H):
  gF c m ρ nw q.2 (.enum k) i I [I,it] q.1 (some (.ref s.heap.objs.size)) {s with heap:=h',toks:=s.toks+1}:=by
 have fresh:∀q∈bt (bt nw it o') I (m5 it ((i:Int)+1) v' s.heap.objs.size),q.1≠s.heap.objs.size:=λq hq=>by
  have:q.1∈nw.map (·.1):=by
   have:=V4 (f:=(·.1)) hq
   rwa[jR,jR]at this
  refine ex1_2 (List.mem_map.mp this) λp hp e=>?_
  exact e▸g9 S.ns p hp
 have kp:dB [I,it] nw ((s.heap.objs.size,i6 [.int (i:Int) s.toks,v'])::bt (bt nw it o') I (m5 it ((i:Int)+1) v' s.heap.objs.size)):=
  ⟨λp hp hn=>U7 _ (gC (gC hp λh=>hn (by simp[h])) λh=>hn (by simp[h]))⟩
 refine er (e1 ..) (er (e2 ..) ?_)
 refine⟨_,S.shift (h':=h') kp fr F (λp hp=>?_) ?_ (s.toks+1),kp,_,rfl,.tup (.inl ⟨U3 ..,S.size_own⟩) (.cons (.int _ _) (.cons (hv.mono (kp.mono fr)) .nil)),?_⟩
 ·rcases List.mem_cons.mp hp with rfl|hp
  ·exact⟨g3,S.size_ok⟩
  ·exact N1 p hp
 ·rw[Vi,VV]
  refine⟨λh=>?_,by refine er (jR ..) (er (jR ..) ?_);exact S.rep.nodup⟩
  exact ex1_2 (List.mem_map.mp h) λp hp e=>fresh p hp e
 ·refine .out (old:=v') (a:=s.heap.objs.size) (o:=o') ?_ h2 ?_ h4 p2 h6 h7
  ·exact U7 _ (eK (gC h1 h6))
  ·exact U7 _ (gC (eK h3) (Ne.symm h6))
theorem GR{xs:List V}(O:c.Ok T)(S:St c m ρ nw H s)(fr:cJ [I,it] ρ nw)(h1:(I,m3 it i old)∈nw)(h2:¬bA ρ I)(h3:(it,o)∈nw)(h4:¬bA ρ it)(h5:jX o l i)(h6:I≠it)(h7:ρ[k]?=some (l,l))(hob:H[k]?=some (.list xs))(e1:q.1=(xs[i]?).map λv=> .tup [.int i,v])(e2:q.2=H):
  wpAny (model c.prog c.w) c.A (pyNext (.ref I)) (gF c m ρ nw q.2 (.enum k) i I [I,it] q.1) E s:=by
 obtain⟨l',items,n,e3,hp,hm,hs⟩:=S.listAt hob (.ref h7)
 obtain rfl:l=l':=Value.ref.inj e3
 have hit:=so S h3 h5
 have hen:IsEnum s.heap I it (i:Int) old:=S.ns.get h1
 cases hx:xs[i]? with
 |none=>
  refine wpAny_pyNext_enum_end O.hh hen hit (S.isList hm) (sq hs hx) λh' hs'=>?_
  refine ai (S.drop h3 (λa ha=>fr a (U7 _ ha)) hs' s.toks) λS' k'=>?_
  refine er (e1 ..) (er (e2 ..) (er (hx ..) ?_))
  exact⟨_,S',⟨λp hp hn=>k'.keep p hp λh=>hn (U7 _ h)⟩,rfl⟩
 |some v=>
  refine ex1_2 (hs.get hx) λv' a b=>?_
  refine wpAny_pyNext_enum_item hen hit (S.isList hm) (x:=v') (by simpa using a) h6 λh' g1 g2 g3 g4 g5=>?_
  refine ex1_3 (g2) λo' p1 p2 p3=>?_
  have zI:=S.ns _ h1
  have zT:=S.ns _ h3
  exact GQ S fr h1 h2 h3 h4 h6 h7 b g1 p1 ⟨p2,p3⟩ g3 (GP S.ns h1 h3 g1 p1 g5) (Fr.two S.fr g5 (Ne.symm zI.2.1) (Ne.symm zT.2.1) zI.2.2 zT.2.2) (e1.trans (hx▸rfl)) e2
theorem GS(O:c.Ok T)(S:St c m ρ nw H s){ia:List Addr}(R:bx c ρ nw (.enum k) i I ia)(e:b8 (.enum k) i H=some q):
  wpAny (model c.prog c.w) c.A (pyNext (.ref I)) (gF c m ρ nw q.2 (.enum k) i I ia q.1) E s:=by
 have fr:=R.free S.rep.nodup
 cases R with
 |enum h1 h2 h3 h4 h5 h6 h7=>exact ex1_2 (gE e) λxs hob e=>ai (iO e) λe1 e2=>GR O S fr h1 h2 h3 h4 h5 h6 h7 hob e1 e2
end
noncomputable def GT(I a:Addr):Sem Unit:=do
   let o←load I
   match o.cls,o.data with
   | .type n,.fields vs=>
    if["enumerate","zip","dict_itemiterator","dict_reverseitemiterator","odict_iterator","itertools.zip_longest","itertools.pairwise"].contains n&&vs[0]?==some (rawInt a)then
     rule "for.unpacks-the-owned-tuple"
     updateField I 0 .none
   |_,_=>pure ()
theorem GU{A:Around}{I a:Addr}{o:Obj}{n:String}{Q:Unit->Shared->Prop}(ho:s.heap.get? I=some o)(hc:o.cls= .type n)
  (hn:(["enumerate","zip","dict_itemiterator","dict_reverseitemiterator","odict_iterator","itertools.zip_longest","itertools.pairwise"].contains n)=false) (hQ:Q () s):wpAny (model c.prog c.w) A (GT I a) Q E s:=by
 refine wpAny_bind (wpAny_load ho ?_)
 obtain⟨oc,_,od,_⟩:=o
 cases hc
 cases od<;>first|exact wpAny_pure hQ|skip
 refine(congrArg (λx=>wpAny (model c.prog c.w) A x Q E s) (if_neg (by refine er (hn ..) ?_;exact V7))).mpr (wpAny_pure hQ)
theorem GV{A:Around}{t:Expr}{I:Addr}{o:Obj}{v:Value}{n:String}{Q:Unit->Shared->Prop}(ho:s.heap.get? I=some o)(hc:o.cls= .type n)
  (hn:(["enumerate","zip","dict_itemiterator","dict_reverseitemiterator","odict_iterator","itertools.zip_longest","itertools.pairwise"].contains n)=false) (hQ:Q () s):
  wpAny (model c.prog c.w) A (letOwnedTupleGo t (.ref I) v) Q E s:=by
 have key:=λa=>GU (E:=E) (c:=c) (A:=A) (a:=a) ho hc hn hQ
 have z:wpAny (model c.prog c.w) A (pure ()) Q E s:=wpAny_pure hQ
 clear ho hc hn hQ
 cases t<;>first|exact z|(cases v<;>first|exact z|exact key _)
theorem GW{t:Expr}(h:jK t=true):∃es n p,t= .Tuple es n p:=by cases t<;>first|exact Bool.noConfusion h|exact⟨_,_,_,rfl⟩
theorem bx.cls{it:It}{i:Nat}{I:Addr}{ia:List Addr}(R:bx c ρ nw it i I ia)(hne:∀k,it≠ .enum k):∃o n,(I,o)∈nw/\o.cls= .type n/\(["enumerate","zip","dict_itemiterator","dict_reverseitemiterator","odict_iterator","itertools.zip_longest","itertools.pairwise"].contains n)=false:=by
 cases R with
 |tup h1 h2 h3 h4 _ _=>exact⟨_,_,h1,h3,by decide⟩
 |range h1 _ _ _=>exact⟨_,_,h1,rfl,by decide⟩
 |live h1 h2 h3 _=>exact⟨_,_,h1,h3.1,by decide⟩
 |keys h1 h2 h3 h4 _=>exact⟨_,_,h1,h3,by decide⟩
 |enum=>exact absurd rfl (hne _)
theorem GX(S:St c m ρ nw H s){t:Expr}{it:It}{i:Nat}{I:Addr}{ia:List Addr}{v':Value}(R:hH c ρ nw it i I ia v')(ht:(f9 it||jK t)=true){Q:Unit->Shared->Prop}
  (hQ:∀s' nw',St c m ρ nw' H s'->dB ia nw nw'->bx c ρ nw' it i I ia->Q () s'):wpAny (model c.prog c.w) c.A (letOwnedTupleGo t (.ref I) v') Q E s:=by
 cases R with
 |std R hne=>exact ex2_3 (R.cls hne) λo n h1 h2 h3=>GV (S.ns.get h1) h2 h3 (hQ s nw S ⟨λ_ h _=>h⟩ R)
 |out h1 h2 h3 h4 h5 h6 h7=>
  refine ex3_1 (GW ht) λ_ _ _ e=>?_
  refine er (e ..) ?_
  refine wpAny_letOwnedTupleGo_enum (S.ns.get h1) λh' g1 g2=>?_
  have fr:cJ [I] ρ nw:=eU S.rep.nodup h1 h2 (iN rfl (by decide))
  refine ai (S.updFree h1 fr g2 g1 s.toks) λS' k'=>?_
  refine hQ _ _ S' ⟨λp hp hn=>k'.keep p hp λh=>hn (by rw[Ve]at h;simp[h])⟩ ?_
  exact .enum (w3 h1) h2 (gC h3 (Ne.symm h6)) h4 h5 h6 h7
end
section
variable{c:Cx}{T:bf}{r:Lv}{m:Str->Option Value}{ρ:Ro}{nw:Nw}{H:Hp}{s:Shared}{E:Value->Shared->Prop}{env:Env}{sc:Scope}{vars:Z}
inductive jd(c:Cx)(m:Str->Option Value)(ρ:Ro)(nw:Nw)(k:It->K)(res:V×Hp)(it':Value)(s':Shared):Prop
 |mk (I:Addr) (it:It) (H':Hp) (ρ':Ro) (nw':Nw) (ia:List Addr) (e:it'= .ref I) (r:bx c ρ' nw' it 0 I ia) (b:St c m ρ' nw' H' s') (d:aG ρ nw ρ' nw') (f:∀p∈nw,p.1∉ia) (e':k it H'=some res)
theorem aG.keys{ρ':Ro}{nw':Nw}{P:Params}{K:Frag}{H':Hp}(x:aG ρ nw ρ' nw')(_R:dL P K ρ nw H)(R:dL P K ρ' nw' H'):∀p∈nw,∃q∈nw',q.1=p.1:=λp hp=>by
 by_cases h:bA ρ p.1
 ·have h':bA ρ' p.1:=by
   refine ex1_2 (h) λq hq e=>?_
   obtain⟨k,hk,rfl⟩:=WC hq
   exact⟨ρ[k],Vb (x.ro k ρ[k] (by simp[hk])),e⟩
  rcases R.owned h' with⟨_,_,h⟩|⟨_,_,h⟩|⟨_,_,h⟩<;>exact⟨_,h,rfl⟩
 ·exact⟨p,(x.keep p hp h).1,rfl⟩
theorem aG.below{ρ':Ro}{nw':Nw}{H':Hp}{s':Shared}(x:aG ρ nw ρ' nw')(S₀:St c m ρ nw H s)(S:St c m ρ' nw' H' s'):∀p∈nw,p.1<s'.heap.objs.size:=λp hp=>by
 refine ex1_2 (x.keys S₀.rep S.rep p hp) λq hq e=>?_
 exact e▸Heap.lt_size (S.ns q hq).1
theorem St.freshI(S:St c m ρ nw H s):∀p∈nw,p.1∉[s.heap.objs.size]:=λp hp h=>g9 S.ns p hp (List.mem_singleton.mp h)
theorem GY{j:Nat}{xs:List V}{v':Value}{k:It->K}{res:V×Hp}(S:St c m ρ nw H s)(hob:H[j]?=some (.list xs))(hv:VR c.K ρ nw (.ref j) v')(h:k (.live j) H=some res):wpAny (model c.prog c.w) c.A (pyIter v') (jd c m ρ nw k res) E s:=by
 obtain⟨a,items,n,rfl,hp,hm,hs⟩:=S.listAt hob hv
 refine wpAny_pyIter_list (S.isList hm) ?_
 refine bK (S.push {cls:= .type "list_iterator",data:= .fields #[.ref a,.int 0 0]} rfl) λS1 x1 n1=>?_
 exact⟨_,_,_,_,_,_,rfl,.live (U3 ..) n1 ⟨rfl,rfl⟩ hp,S1,x1,S.freshI,h⟩
theorem GZ{j ep:Nat}{es:List (V×V)}{v':Value}{k:It->K}{res:V×Hp}(O:c.Ok T)(S:St c m ρ nw H s)(hob:H[j]?=some (.dict es (some ep)))(hk:(es.all λe=>V.isKeyStr e.1)=true)(hv:VR c.K ρ nw (.ref j) v')(h:k (.keys j ep es.length) H=some res):wpAny (model c.prog c.w) c.A (pyIter v') (jd c m ρ nw k res) E s:=by
 obtain⟨a,es',n,rfl,hp,hm,hs,hep⟩:=S.dictAt hob hv
 refine ex1_4 (wZ c.prog c.w hs hk) λkvs p1 p2 p3 p4=>?_
 obtain rfl:n=ep:=hep _ rfl
 have hd:s.heap.DictAt (PySem.strKind c.prog c.w) a kvs n:=⟨_,es'.toArray,S.ns.get hm,⟨rfl,rfl,rfl⟩,rfl,jT c.prog hs hk,by simpa using p1,p2⟩
 refine wpAny_pyIter_dict (ga O S hm) hd ?_
 refine bK (S.push {cls:= .type "dict_keyiterator",data:= .fields #[.ref a,.int 0 0,.int kvs.length 0,.int n 0]} rfl) λS1 x1 n1=>?_
 exact⟨_,_,_,_,_,_,rfl,.keys (U3 ..) n1 rfl (by refine er (p3 ..) ?_;rfl) hp,S1,x1,S.freshI,h⟩
theorem G0{v:V}{v':Value}{k:It->K}{res:V×Hp}(O:c.Ok T)(S:St c m ρ nw H s)(hv:VR c.K ρ nw v v')(h:UX (ce v) k H=some res):wpAny (model c.prog c.w) c.A (pyIter v') (jd c m ρ nw k res) E s:=by
 obtain⟨q,hq,h⟩:=bind_some h
 cases v<;>first|exact ak hq|skip
 ·obtain rfl:=bW hq
  refine mQ hv λt items ht hs=>?_
  have hT:s.heap.IsTuple t items.toArray:=S.isTup O ht
  refine wpAny_pyIter_tuple hT ?_
  refine bK (S.push {cls:= .type "tuple_iterator",data:= .fields #[.ref t,.int 0 0]} rfl) λS1 x1 n1=>?_
  exact⟨_,_,_,_,_,_,rfl,.tup (U3 ..) n1 rfl rfl (ht.ext x1) (hs.ext x1),S1,x1,S.freshI,h⟩
 ·obtain⟨ob,hob,e⟩:=dM (f:=oV _) hq
  clear hq
  cases ob<;>first|exact ak e|skip
  ·obtain rfl:=bW e
   exact GY S hob hv h
  ·refine ex1_2 (d5 e) λep zq e=>?_
   refine ai (bg e) λhk e=>?_
   obtain rfl:=bW e
   exact GZ O S (zq▸hob) hk hv h
theorem G5{a b st:Int}{t u v:Tok}{xs:List V}{Q:Value->Shared->Prop}(S:St c m ρ nw H s)(hsm:Builtin.Range.small a b st=true)(h0:0<=Builtin.Range.rangeSize a b st)(hx:xs=cI a st (Builtin.Range.rangeSize a b st).toNat){r0:Addr}(hr:IsRange s.heap r0 a b st t u v)
  (h:∀nw' s',bx c ρ nw' (.vals xs) 0 s.heap.objs.size [s.heap.objs.size]->St c m ρ nw' H s'->aG ρ nw ρ nw'->Q (.ref s.heap.objs.size) s'):wpAny (model c.prog c.w) c.A (pyIter (.ref r0)) Q E s:=by
 refine wpAny_pyIter_range hr hsm ?_
 refine bK (S.push {cls:= .type "range_iterator",data:= .fields #[rawInt a,rawInt (Builtin.Range.rangeSize a b st),rawInt st]} rfl) λS1 x1 n1=>?_
 exact h _ _ (.range (U3 ..) n1 h0 hx) S1 x1
theorem w5(a:Int)(h: -1<=a):Builtin.Range.rangeSize a (-1) (-1)=a+1:=by
 unfold Builtin.Range.rangeSize
 simp only[show¬((-1:Int)>0) by decide,if_false]
 split
 ·refine er ((show-(-1:Int)=1 by decide) ..) (er (Int.ediv_one ..) ?_);lia
 ·lia
theorem sr{α:Type}{v:V}{f:Int->Option α}{r:α}(h:oW v f=some r):∃i,v= .int i/\f i=some r:=by cases v<;>first|exact⟨_,rfl,h⟩|exact ak h
section
variable{vs:List V}{vs':List Value}{xs:List V}{k:It->K}{res:V×Hp}{ρ₀:Ro}{nw₀:Nw}{H₀:Hp}{s₀:Shared}
theorem G6(S₀:St c m ρ₀ nw₀ H₀ s₀)(x₀:aG ρ₀ nw₀ ρ nw)(S:St c m ρ nw H s)(h:k (.vals xs) H=some res){a b st:Int}{t u v:Tok}{k0:Nat}(h1:Builtin.Range.small a b st=true)(h2:0<=Builtin.Range.rangeSize a b st)(h3:xs=cI a st (Builtin.Range.rangeSize a b st).toNat):
   wpAny (model c.prog c.w) c.A (pyIter (.ref s.heap.objs.size)) (jd c m ρ₀ nw₀ k res) E {s with heap:=s.heap.push {cls:= .type "range",data:= .fields #[.int a t,.int b u,.int st v]},toks:=k0}:=by
 refine bK (S.push {cls:= .type "range",data:= .fields #[.int a t,.int b u,.int st v]} rfl) λS1 x1 n1=>?_
 have S2:=S1.toks k0
 refine G5 S2 h1 h2 h3 (IsRange.new s.heap a b st t u v) λnw' s' R S3 x3=>?_
 refine⟨_,_,_,_,_,_,rfl,R,S3,x₀.trans (x1.trans x3),λp hp hi=>?_,h⟩
 have:=(x₀.trans x1).below S₀ S2 p hp
 rw[List.mem_singleton.mp hi]at this
 exact Wj _ this
@[elab_as_elim] theorem G7{P:List V->Prop}(hr:mE vs=some xs)(h1:∀n:Int,-100000<=n/\n<=100000->cI 0 1 n.toNat=xs->P [.int n])(h2:∀a n:Int,((0<=a/\a<=100000)/\-100000<=n)/\n<=100000->cI a 1 (n-a).toNat=xs->P [.int a,.int n])
  (h3:∀a:Int,-1<=a/\a<=100000->cI a (-1) (a+1).toNat=xs->P [.int a,.int (-1),.int (-1)]):P vs:=by
 cases vs with
 |nil=>exact ak hr
 |cons a vs=>
 refine ex1_2 (sr hr) λn e hr=>?_
 refine er (e ..) ?_
 cases vs with
 |nil=>exact ai (eP hr) λhz hr=>h1 n (by simpa using hz) (Option.some.inj hr)
 |cons b vs=>
 refine ex1_2 (sr hr) λp e hr=>?_
 refine er (e ..) ?_
 cases vs with
 |nil=>exact ai (eP hr) λhz hr=>h2 n p (by simpa using hz) (Option.some.inj hr)
 |cons d vs=>
 refine ex1_2 (sr hr) λq e hr=>?_
 refine er (e ..) ?_
 cases vs with
 |nil=>
  refine ai (eP hr) λhz hr=>?_
  simp only[U2,decide_eq_true_eq]at hz
  refine er (hz.1.1.1 ..) (er (hz.1.1.2 ..) ?_)
  exact h3 n ⟨hz.1.2,hz.2⟩ (Option.some.inj hr)
 |cons _ _=>exact ak hr
theorem G8(S₀:St c m ρ₀ nw₀ H₀ s₀)(x₀:aG ρ₀ nw₀ ρ nw)(S:St c m ρ nw H s)(hv:VRs c.K ρ nw vs vs')(hr:mE vs=some xs)(h:k (.vals xs) H=some res):
  wpAny (model c.prog c.w) c.A (call (.type "range") vs') (λx s₁=>wpAny (model c.prog c.w) c.A (pyIter x) (jd c m ρ₀ nw₀ k res) E s₁) E s:=by
 have fin:= @G6 c m ρ nw H s E xs k res ρ₀ nw₀ H₀ s₀ S₀ x₀ S h
 clear S₀ x₀ S h
 revert hv
 refine G7 hr (λn hz hx hv=>?_) (λn p hz hx hv=>?_) λn hz hx hv=>?_<;>clear hr
 ·refine jU hv λa' ha=>?_
  refine ei ha λt=>?_
  refine call_range_1 (fin (small_one (by decide) (by decide) (by omega) (by omega)) ?_ ?_)
  ·refine er (rangeSize_nat ..) ?_;exact VP _
  ·refine er (rangeSize_nat ..) (el (hx ..) ?_);congr 1;lia
 ·refine pH hv λa' b' ha hb=>?_
  refine ei ha λt=>?_
  refine ei hb λu=>?_
  refine call_range_2 (fin (small_one (by omega) (by omega) (by omega) (by omega)) ?_ ?_)
  ·refine er (rangeSize_nat ..) ?_;exact VP _
  ·refine er (rangeSize_nat ..) ?_;exact hx.symm
 ·refine pq hv λa' ws ha hv=>?_
  refine pH hv λb' d' hb hd=>?_
  refine ei ha λt=>?_
  refine ei hb λu=>?_
  refine ei hd λw=>?_
  refine call_range_3 (by decide) (fin (small_down (by lia) (by lia) (by decide) (by decide)) ?_ ?_) (.inl (PyProof.noPylong_small (by decide)))
  ·refine er (w5 _ hz.1 ..) ?_;lia
  ·refine er (w5 _ hz.1 ..) ?_;exact hx.symm
end
theorem G9{n:Nat}{xs:List V}{v':Value}{k:It->K}{res:V×Hp}{ρ₀:Ro}{nw₀:Nw}{H₀:Hp}{s₀:Shared}(S₀:St c m ρ₀ nw₀ H₀ s₀)(x₀:aG ρ₀ nw₀ ρ nw)(S:St c m ρ nw H s)(hob:H[n]?=some (.list xs))(hv:VR c.K ρ nw (.ref n) v')(h:k (.enum n) H=some res):
  wpAny (model c.prog c.w) c.A (call (.type "enumerate") [v']) (λx s₁=>wpAny (model c.prog c.w) c.A (pyIter x) (jd c m ρ₀ nw₀ k res) E s₁) E s:=by
 obtain⟨a,items,kk,rfl,hp,hm,hs⟩:=S.listAt hob hv
 refine call_enumerate_list (S.isList hm) λh' g1 g2 g3 g4=>?_
 refine ex1_3 (g2) λo' p1 p2 p3=>?_
 have szL:s.heap.objs.size>c.L:=by
  refine ex3_2 (S.fr.ns) λoL _ _ hL _=>?_
  exact Heap.lt_size hL
 have szh:∀j,s.heap.objs.size<=j->c.h₀.get? j=none:=λj hj=>by
  cases hq:c.h₀.get? j with
  |none=>rfl
  |some o=>exact absurd (Heap.lt_size (S.fr.keep _ _ hq)) (Nat.not_lt.mpr hj)
 have fresh:∀p∈[(s.heap.objs.size+1,m3 s.heap.objs.size 0 .none),(s.heap.objs.size,o')],∀q∈nw,q.1≠p.1:=λp hp q hq=>by
  have:=Heap.lt_size (S.ns q hq).1
  rcases List.mem_cons.mp hp with rfl|hp
  ·exact VB (Xa this)
  ·rw[Ve]at hp;subst hp;exact VB this
 have R:=S.rep.more _ fresh (by simp)
 have x1:aG ρ nw ρ _:=aG.more _ fresh
 have S1:St c m ρ ([(s.heap.objs.size+1,m3 s.heap.objs.size 0 .none),(s.heap.objs.size,o')]++nw) H {s with heap:=h'}:=by
  refine⟨?_,?_,R,S.g,S.d,S.o⟩
  ·refine ex3_2 (S.fr.ns) λoL a1 a2 hoL a3=>?_
   exact⟨⟨oL,a1,a2,g4 _ _ hoL,a3⟩,λb o e=>g4 _ _ (S.fr.keep b o e),S.fr.above⟩
  ·intro p hp
   rcases List.mem_append.mp hp with hp|hp
   ·rcases List.mem_cons.mp hp with rfl|hp
    ·exact⟨g1,by show s.heap.objs.size+1≠c.L;omega,szh _ (by show _<=s.heap.objs.size+1;exact Va _ _)⟩
    ·rw[Ve]at hp;subst hp
     exact⟨p1,by show s.heap.objs.size≠c.L;exact WH ‹_›,szh _ (Vf _)⟩
   ·exact⟨g4 _ _ (S.ns p hp).1,(S.ns p hp).2⟩
 have own:∀j,s.heap.objs.size<=j->¬bA ρ j:=λj hj h=>by
  rcases S.rep.owned h with⟨_,_,h⟩|⟨_,_,h⟩|⟨_,_,h⟩<;>exact absurd (Heap.lt_size (S.ns _ h).1) (Nat.not_lt.mpr hj)
 refine wpAny_pyIter_enum g1 ?_
 refine⟨_,_,_,_,_,_,rfl,.enum (old:= .none) (it:=s.heap.objs.size) (l:=a) (o:=o') (U3 ..) (own _ (Va _ _)) (VD _ (.tail _ (.head _))) (own _ (Vf _)) ⟨p2,p3⟩ (Nat.succ_ne_self _) hp,S1,x₀.trans x1,λp hp hi=>?_,h⟩
 have hb:=x₀.below S₀ S p hp
 rcases List.mem_cons.mp hi with hi|hi
 ·exact absurd (hi▸hb) (by simp)
 ·rw[Ve]at hi;exact absurd (hi▸hb) (Wj _)
theorem su{e:Expr}{x:Str}(h:fq e=some x):∃p,e= .Name x p:=by
 cases e<;>first|exact ak h|skip
 obtain rfl:=Option.some.inj h;exact⟨_,rfl⟩
set_option tactic.hygienic true in
theorem w6{e:Expr}{q:Str×List Expr}(h:rD e=some q):∃fp cp,e= .Call (.Name q.1 fp) q.2 [] cp:=by
 cases e<;>first|exact ak h|skip
 rename_i f args kws p
 cases kws with
 |cons _ _=>exact ak h
 |nil=>exact ex1_2 (Option.map_eq_some_iff.mp h) λx hx e=>ex1_1 (su hx) λfp e2=>⟨fp,p,by refine er (e2 ..) (el (e ..) rfl)⟩
theorem w7{T:bf}{sc:Scope}{f:Str}{n:String}(h:oY T sc f n=true):jI (sc.names.lookup f)=true/\f=Str.ofString n:=by
 unfold oY at h
 simp only[U2,decide_eq_true_eq]at h
 exact⟨h.1.1.1,h.2⟩
section
variable{k:It->K}{res:V×Hp}
noncomputable def sv(c:Cx)(env:Env)(m:Str->Option Value)(ρ:Ro)(nw:Nw)(k:It->K)(res:V×Hp)(E:Value->Shared->Prop)(s:Shared)(e:Expr):Prop:=
 wpAny (model c.prog c.w) c.A (eval e env) (λx s₁=>wpAny (model c.prog c.w) c.A (pyIter x) (jd c m ρ nw k res) E s₁) E s
theorem w8(O:c.Ok T)(he:SE c r.e){e:Expr}(A:At c env sc m ρ nw H s vars)(h:(r.e sc e vars λv=>UX (ce v) k) H=some res):sv c env m ρ nw k res E s e:=by
 refine wpAny_mono (he E A h) (λv s₁ q=>?_) λ_ _ x=>x
 obtain⟨v1,H1,ρ1,nw1,hv,S1,x1,e1⟩:=q
 refine wpAny_mono (G0 O S1 hv e1) (λit s₂ q=>?_) λ_ _ x=>x
 obtain⟨I,it1,H2,ρ2,nw2,ia,h1,h2,h3,h4,h5,h6⟩:=q
 refine⟨I,it1,H2,ρ2,nw2,ia,h1,h2,h3,x1.trans h4,λp hp hi=>?_,h6⟩
 refine ex1_2 (x1.keys A.st.rep S1.rep p hp) λq hq e=>?_
 exact h5 q hq (e▸hi)
theorem w9(O:c.Ok T)(he:SE c r.e){x:String}{args:List Expr}{fp cp:Pos}{kk:List V->K}(hx:Str.ofString x∈fB)(hx2:Str.ofString x≠"__name__")(hx3:Str.ofString x≠Str.ofString "len")(A:At c env sc m ρ nw H s vars)(hg:jI (sc.names.lookup (Str.ofString x))=true)(hb:gX (Str.ofString x)=false)(ns:cr args=true)(h:dc r sc vars args kk H=some res)(h0:kk [] H=none)
  (fin:∀{vs:List V}{H1:Hp}{ρ1:Ro}{nw1:Nw}{vs':List Value}{s₁:Shared},VRs c.K ρ1 nw1 vs vs'->St c m ρ1 nw1 H1 s₁->aG ρ nw ρ1 nw1->kk vs H1=some res->wpAny (model c.prog c.w) c.A (call (.type (Str.ofString x).toString) vs') (λx s₁=>wpAny (model c.prog c.w) c.A (pyIter x) (jd c m ρ nw k res) E s₁) E s₁):sv c env m ρ nw k res E s (.Call (.Name (Str.ofString x) fp) args [] cp):=by
 refine ai (O.K.blt (Str.ofString x) hx) λk1 k2=>?_
 refine Call_Name rfl (vY O A.st A.ev (rX hg) k1 k2 hx2 hb ?_)
 refine er (if_neg hx3 ..) ?_
 cases args with
 |nil=>exact ak (h0.symm.trans h)
 |cons e es=>
  refine PyProof.Rows.callWith_type1 (wpAny_mono (pK he (e::es) (pos:=cp) E A ns h) (λvs s₁ q=>?_) λ_ _ x=>x) (jV ns) (mY (mX ns))
  obtain⟨vs1,H1,ρ1,nw1,hvs,S1,x1,e1⟩:=q
  exact fin hvs S1 x1 e1
theorem w_(O:c.Ok T)(he:SE c r.e){e:Expr}(A:At c env sc m ρ nw H s vars)(h:i4 T r sc vars e k H=some res):sv c env m ρ nw k res E s e:=by
 refine ai (iu h) λ_ h=>?_
 cases hc:rD e with
 |none=>rw[hc]at h;exact w8 O he A h
 |some q=>
 rw[hc]at h
 refine ai (iu h) λhg h=>?_
 simp only[VG,Wt,not_or,WS,XH]at hg
 refine ai (hg) λhb hg=>?_
 refine ai (pL hg) λns hn=>?_
 refine i9 (λhz h=>?_) (λ_ h=>i9 (λhz h=>?_) (λ_ h=>w8 O he A h) h) h
 ·refine ai (w7 hz) λz1 z2=>?_
  refine ex2_1 (w6 hc) λfp cp ee=>?_
  rw[z2]at z1 hb
  refine er (ee ..) (er (z2 ..) ?_)
  exact w9 O he (by simp[fB]) (by decide) (by decide) A z1 hb ns h rfl λhvs S1 x1 e1=>ex1_2 (d5 e1) λxs hxs e2=>G8 A.st x1 S1 hvs hxs e2
 ·refine ai (w7 hz) λz1 z2=>?_
  refine ex2_1 (w6 hc) λfp cp ee=>?_
  rw[z2]at z1 hb
  refine er (ee ..) (er (z2 ..) ?_)
  refine w9 O he (by simp[fB]) (by decide) (by decide) A z1 hb ns h rfl λ{_ _ _ _ vs' _} hvs S1 x1 e1=>?_
  refine ex1_2 (gD e1) λv zq e1=>?_
  refine jU (zq▸hvs:VRs c.K _ _ [v] vs') λv' hv=>?_
  refine ex1_2 (i8 e1) λn zq e1=>?_
  exact ex1_2 (gE e1) λxs hob e2=>G9 A.st x1 S1 hob (zq▸hv) e2
end
end
structure Xt(K:Frag)(cs:List Addr)(ρ:Ro)(nw:Nw)(ρ':Ro)(nw':Nw):Prop where
 ro:∀(k:Nat) (p:Addr×Addr),ρ[k]?=some p->ρ'[k]?=some p
 keep:∀p∈nw,¬bA ρ p.1->p.1∉cs->p∈nw'/\¬bA ρ' p.1
 tup:∀a items,fD K ρ nw a items->fD K ρ' nw' a items
 low:∀p∈nw,∃q∈nw',q.1=p.1
theorem Xt.mono{K:Frag}{cs:List Addr}{ρ ρ':Ro}{nw nw':Nw}(x:Xt K cs ρ nw ρ' nw'):iM K ρ nw ρ' nw':=⟨x.ro,x.tup⟩
theorem Xt.refl{K:Frag}{cs:List Addr}{ρ:Ro}{nw:Nw}:Xt K cs ρ nw ρ nw:=⟨λ_ _ h=>h,λ_ h n _=>⟨h,n⟩,λ_ _ h=>h,λp hp=>⟨p,hp,rfl⟩⟩
theorem Xt.trans{K:Frag}{cs:List Addr}{ρ ρ' ρ'':Ro}{nw nw' nw'':Nw}(a:Xt K cs ρ nw ρ' nw')(b:Xt K cs ρ' nw' ρ'' nw''):Xt K cs ρ nw ρ'' nw'':=
 ⟨λk p h=>b.ro k p (a.ro k p h),λp h n hc=>let⟨x,y⟩:=a.keep p h n hc;b.keep p x y hc,λ_ _ h=>b.tup _ _ (a.tup _ _ h),λp hp=>let⟨q,hq,e⟩:=a.low p hp;let⟨q',hq',e'⟩:=b.low q hq;⟨q',hq',e'.trans e⟩⟩
structure eV(c:Cx)(env:Env)(sc:Scope)(cs:List Addr):Prop where
 loc:env.locals=c.L
 inj:∀x y a,env.cells.lookup x=some a->env.cells.lookup y=some a->x=y
 cs:∀x a,env.cells.lookup x=some a->a∈cs
 cell:∀x,sc.names.lookup x=some .cell->env.kindOf x=some .cell
section
variable{c:Cx}{T:bf}{r:Lv}{m:Str->Option Value}{ρ:Ro}{nw:Nw}{H:Hp}{s:Shared}{E:Value->Shared->Prop}{env:Env}{sc:Scope}{vars:Z}{cs:List Addr}
theorem aG.xt{ρ':Ro}{nw':Nw}{H':Hp}{P:Params}(x:aG ρ nw ρ' nw')(R₀:dL P c.K ρ nw H)(R:dL P c.K ρ' nw' H'):Xt c.K cs ρ nw ρ' nw':=
 ⟨x.ro,λp h n _=>x.keep p h n,λ_ _ h=>h.ext x,x.keys R₀ R⟩
inductive Nx(c:Cx)(env:Env)(sc:Scope)(cs:List Addr)(ρ:Ro)(nw:Nw)(k:Z->K)(res:V×Hp)(s':Shared):Prop
 |mk (m':Str->Option Value) (vars':Z) (H':Hp) (ρ':Ro) (nw':Nw) (a:At c env sc m' ρ' nw' H' s' vars') (x:Xt c.K cs ρ nw ρ' nw') (e:k vars' H'=some res)
theorem Nx.trans{ρ':Ro}{nw':Nw}{k:Z->K}{res:V×Hp}{s':Shared}(x:Xt c.K cs ρ nw ρ' nw'):Nx c env sc cs ρ' nw' k res s'->Nx c env sc cs ρ nw k res s'
 |⟨m',v',H',r',n',a,b,d⟩=>⟨m',v',H',r',n',a,x.trans b,d⟩
theorem m7{o:Option NameKind}(h:mH o=true):o=some .cell∨o=some .free:=by
 cases o with
 |none=>cases h
 |some k=>cases k<;>first|exact .inl rfl|exact .inr rfl|cases h
theorem sw(A:At c env sc m ρ nw H s vars)(F:eV c env sc cs){x:Str}{v:V}{v':Value}(hv:VR c.K ρ nw v v')(hk:sc.names.lookup x=some .local∨sc.names.lookup x=some .cell){Q:Unit->Shared->Prop}
  (q:∀s' m' nw',At c env sc m' ρ nw' H s' (cZ vars x v)->Xt c.K cs ρ nw ρ nw'->Q () s'):wpAny (model c.prog c.w) c.A (storeName env x v') Q E s:=by
 have S:=A.st
 rcases hk with hk|hk
 ·have hl:=A.ev.loc x hk
  refine wpAny_storeName_local hl (F.loc▸S.fr.ns) (λh' hn hs=>?_) (by refine er (A.ev.kind ..) ?_;rfl)
  rw[F.loc]at hn hs
  refine q _ (λy=>if y=x then some v' else m y) nw ⟨⟨S.fr.set hn hs,S.ns.set hs,S.rep,S.g,S.d,S.o⟩,A.ev,λy w hy=>?_,A.cl⟩ .refl
  by_cases e:y=x
  ·subst e
   have hw:w=v:=by
    unfold ef at hy
    rw[kQ,if_pos rfl]at hy
    refine ai (eP hy) λ_ hy=>?_
    cases hy;rfl
   subst hw
   exact⟨v',hv,.inl ⟨hl,F.loc,by simp⟩⟩
  ·have hy':ef sc vars y=some w:=by
    unfold ef at hy⊢
    rw[kQ,if_neg e]at hy
    exact hy
   refine ex1_2 (A.vs y w hy') λw' hw hn'=>?_
   refine⟨w',hw,?_⟩
   rcases hn' with⟨a1,a2,a3⟩|h|h
   ·exact .inl ⟨a1,a2,by simpa[e]using a3⟩
   ·exact .inr (.inl h)
   ·exact .inr (.inr h)
 ·have hl:=F.cell x hk
  refine ex3_4 (A.cl x (by refine er (hk ..) ?_;rfl)) λa o v0 h1 h2 h3 h4=>?_
  refine wpAny_storeName_cell A.ev.kind hl h1 ⟨o,S.ns.get h2,h4⟩ λh' hc hs=>?_
  refine ex1_2 (hc) λo' g1 g2=>?_
  have nt:∀{o:Obj}{v:Option Value},o.data= .cell v->m0 o:=λ{o v} h items e=>by rw[e]at h;cases h
  have fr:cJ [a] ρ nw:=eU S.rep.nodup h2 h3 (nt h4)
  refine ai (S.updFree h2 fr hs g1 s.toks) λS' k'=>?_
  have mo:iM c.K ρ nw ρ (bt nw a o'):=k'.mono fr
  have ina:a∈cs:=F.cs x a h1
  refine q _ m _ ⟨S',A.ev,λy w hy=>?_,λy hy=>?_⟩ ⟨λ_ _ h=>h,λp hp hn hc=>⟨k'.keep p hp λh=>hc (by rw[Ve]at h;exact h▸ina),hn⟩,mo.tup,λp hp=>?_⟩
  ·by_cases e:y=x
   ·subst e
    have hw:w=v:=by
     unfold ef at hy
     rw[kQ,if_pos rfl]at hy
     refine ai (eP hy) λ_ hy=>?_
     cases hy;rfl
    subst hw
    exact⟨v',hv.mono mo,.inr (.inr ⟨.inl hl,a,o',h1,eK h2,h3,g2⟩)⟩
   ·have hy':ef sc vars y=some w:=by
     unfold ef at hy⊢
     rw[kQ,if_neg e]at hy
     exact hy
    refine ex1_2 (A.vs y w hy') λw' hw hn'=>?_
    refine⟨w',hw.mono mo,?_⟩
    rcases hn' with h|⟨a1,o1,es,ep,a2,_⟩|⟨a1,a',o1,a2,a3,a4,a5⟩
    ·exact .inl h
    ·exact absurd F.loc (S.ns _ a2).2.1
    ·exact .inr (.inr ⟨a1,a',o1,a2,gC a3 (λh=>e (F.inj y x a (h▸a2) h1)),a4,a5⟩)
  ·by_cases e:y=x
   ·subst e;exact⟨a,o',_,h1,eK h2,h3,g2⟩
   ·refine ex3_4 (A.cl y hy) λa' o1 v1 b1 b2 b3 b4=>?_
    exact⟨a',o1,v1,b1,gC b2 (λh=>e (F.inj y x a (h▸b1) h1)),b3,b4⟩
  ·have:p.1∈(bt nw a o').map (·.1):=by refine er (jR ..) ?_;exact V4 hp
   refine ex1_2 (List.mem_map.mp this) λq hq e=>?_
   exact⟨q,hq,e⟩
theorem G_{o:Option NameKind}(h:mG o=true):o=some .local:=by
 rcases o with _|k
 ·exact Bool.noConfusion (h:false=true)
 ·cases k<;>first|rfl|exact Bool.noConfusion (h:false=true)
theorem xa{e:Expr}(h:rE sc e=true):∃x p,e= .Name x p/\sc.names.lookup x=some .local:=by
 unfold rE at h
 cases hn:fq e with
 |none=>rw[hn]at h;exact Bool.noConfusion h
 |some x=>rw[hn]at h;exact ex1_1 (su hn) λp e=>⟨x,p,e,G_ h⟩
theorem xb:∀{es:List Expr},kU sc es=true->(assignEach es env).length=es.length/\(assignEach es env).findIdx? (·.1)=none
 |[],_=>⟨rfl,rfl⟩
 |e::es,h=>by
  have h:=(U2 _ _).mp h
  refine ex2_2 (xa h.1) λx p e _=>?_
  refine er (e ..) ?_
  refine ai (xb h.2) λa b=>?_
  refine⟨congrArg Za a,?_⟩
  show Yb _ ((false,_)::assignEach _ env)=none
  refine er (VQ ..) ?_
  simp[b]
theorem xd(F:eV c env sc cs):∀(es:List Expr) (xs:List V) (vs:List Value) {m:Str->Option Value}{nw:Nw}{H:Hp}{s:Shared}{vars vars':Z}{Q:Unit->Shared->Prop},At c env sc m ρ nw H s vars->VRs c.K ρ nw xs vs->kU sc es=true->kT es xs vars=some vars'->
  (∀s' m' nw',At c env sc m' ρ nw' H s' vars'->Xt c.K cs ρ nw ρ nw'->Q () s')->wpAny (model c.prog c.w) c.A (assignInOrder ((assignEach es env).map (·.2)) vs) Q E s
 |[],[],vs,m,nw,H,s,vars,vars',Q,A,hs,ha,hb,q=>pt hs (wpAny_pure (q s m nw (Option.some.inj hb▸A) .refl))
 |[],_::_,vs,m,nw,H,s,vars,vars',Q,A,hs,ha,hb,q=>ak hb
 |_::_,[],vs,m,nw,H,s,vars,vars',Q,A,hs,ha,hb,q=>ak hb
 |e::es,y::xs,vs,m,nw,H,s,vars,vars',Q,A,hs,ha,hb,q=>by
  have ha:=(U2 _ _).mp ha
  refine ex2_2 (xa ha.1) λx p e hx=>?_
  rw[e]at hb⊢
  refine pq hs λv' ws hv hs=>?_
  show wpAny _ _ (do holding ws (assign (.Name x p) env v');assignInOrder ((assignEach es env).map (·.2)) ws) _ _ _
  refine wpAny_bind (wpAny_holding (wpAny_assign_Name (sw A F hv (.inl hx) λs' m' nw' A' x'=>?_)))
  exact xd F es _ ws A' (hs.mono x'.mono) ha.2 hb λs'' m'' nw'' A'' x''=>q s'' m'' nw'' A'' (x'.trans x'')
theorem Ha{v:V}{f:List V->K}{H:Hp}{res:V×Hp}(h:dZ v f H=some res):∃xs,v= .tup xs/\f xs H=some res:=by
 cases v<;>first|exact ak h|exact⟨_,rfl,h⟩
theorem xe{k:Z->K}{H:Hp}{res:V×Hp}:∀(es:List Expr) (xs:List V) (vars:Z),kS es xs vars k H=some res->∃vars',kT es xs vars=some vars'/\k vars' H=some res
 |[],[],vars,h=>⟨vars,rfl,h⟩
 |[],_::_,_,h=>ak h
 |e::es,xs,vars,h=>by
  replace h:(match fq e with|some x=>cO xs λv vs=>kS es vs (cZ vars x v) k| .none=>(UY:K)) H=some res:=h
  cases xs with
  |nil=>
   exfalso
   revert h
   generalize fq e=z
   intro h
   cases z<;>exact ak h
  |cons y ys=>
   show∃vars',(match fq e with|some x=>kT es ys (cZ vars x y)| .none=> .none)=some vars'/\k vars' H=some res
   revert h
   generalize fq e=z
   intro h
   cases z with
   |none=>exact ak h
   |some x=>exact xe es ys _ h
theorem xf:∀{es:List Expr}{xs:List V}{vars vars':Z},kT es xs vars=some vars'->es.length=xs.length
 |[],[],_,_,_=>rfl
 |[],_::_,_,_,h=>ak h
 |_::_,[],_,_,h=>ak h
 |e::es,x::xs,vars,vars',h=>by
  replace h:(match fq e with|some y=>kT es xs (cZ vars y x)| .none=> .none)=some vars':=h
  revert h
  generalize fq e=z
  intro h
  cases z with
  |none=>exact ak h
  |some y=>exact congrArg Za (xf h)
theorem xg{o:Option NameKind}(h:rF o=true):o=some .local∨o=some .cell:=by
 rcases o with _|k
 ·exact Bool.noConfusion (h:false=true)
 ·cases k<;>first|exact Bool.noConfusion (h:false=true)|exact .inl rfl|exact .inr rfl
theorem St.other(S:St c m ρ nw H s){h':Heap}(hx:∀a o,a≠s.heap.objs.size->s.heap.get? a=some o->h'.get? a=some o):St c m ρ nw H {s with heap:=h'}:=by
 have fL:c.L≠s.heap.objs.size:=ex3_2 S.fr.ns λoL _ _ hL _=>VB (Heap.lt_size hL)
 refine⟨Fr.extBut S.fr hx fL ?_,λp hp=>⟨hx _ _ (VB (Heap.lt_size (S.ns p hp).1)) (S.ns p hp).1,(S.ns p hp).2⟩,S.rep,S.g,S.d,S.o⟩
 cases hq:c.h₀.get? s.heap.objs.size with
 |none=>rfl
 |some o=>exact absurd (Heap.lt_size (S.fr.keep _ _ hq)) (Wj _)
@[elab_as_elim] theorem Hb{P:Expr->Prop}{t:Expr}{v:V}{k:Z->K}{res:V×Hp}(h:gy r T sc vars t v k H=some res)(h1:∀x p,rF (sc.names.lookup x)=true->k (cZ vars x v) H=some res->P (.Name x p))
  (h2:∀o n p,(r.e sc o vars λov=>UX (a_ ov n v T) λ_=>k vars) H=some res->P (.Attribute o n p)) (h3:∀o i p,(r.e sc o vars λov=>r.e sc i vars λiv=>UX (bi ov iv v) λ_=>k vars) H=some res->P (.Subscript o i p))
  (h4:∀es c p,kU sc es=true->(dZ v λxs=>kS es xs vars k) H=some res->P (.Tuple es c p)):P t:=by
 cases t<;>first|exact ak h|skip
 ·exact h2 _ _ _ h
 ·exact h3 _ _ _ h
 ·exact ai (bg h) λhz h=>h1 _ _ hz h
 ·exact ai (bg h) λhz h=>h4 _ _ _ ((U2 _ _).mp hz).1 h
section
variable{v:V}{v':Value}{k:Z->K}{res:V×Hp}
theorem Hc(O:c.Ok T)(he:SE c r.e){o:Expr}{n:Str}{p:Pos}(A:At c env sc m ρ nw H s vars)(hv:VR c.K ρ nw v v')(h:(r.e sc o vars λov=>UX (a_ ov n v T) λ_=>k vars) H=some res):
  wpAny (model c.prog c.w) c.A (assign (.Attribute o n p) env v') (λ_ s'=>Nx c env sc cs ρ nw k res s') E s:=by
 refine er (arm_assign_Attribute ..) ?_
 refine wpAny_bind (wpAny_holding (wpAny_mono (he E A h) (λov s₁ q=>?_) λ_ _ x=>x))
 obtain⟨v1,H1,ρ1,nw1,ho,S1,x1,e1⟩:=q
 obtain⟨q,hq,e2⟩:=bind_some e1
 refine wpAny_bind (wpAny_standAt (wpAny_bind (wpAny_holding (FE O S1 ho (hv.ext x1) hq λs2 nw2 S2 x2=>wpAny_release ?_))))
 exact⟨m,vars,_,ρ1,nw2,A.next S2 (x1.trans x2),(x1.trans x2).xt A.st.rep S2.rep,e2⟩
theorem Hd(he:SE c r.e){o i:Expr}{p:Pos}(A:At c env sc m ρ nw H s vars)(hv:VR c.K ρ nw v v')(h:(r.e sc o vars λov=>r.e sc i vars λiv=>UX (bi ov iv v) λ_=>k vars) H=some res):
  wpAny (model c.prog c.w) c.A (assign (.Subscript o i p) env v') (λ_ s'=>Nx c env sc cs ρ nw k res s') E s:=by
 refine er (arm_assign_Subscript ..) ?_
 refine wpAny_bind (wpAny_holding (wpAny_mono (he E A h) (λov s₁ q=>?_) λ_ _ x=>x))
 obtain⟨v1,H1,ρ1,nw1,ho,S1,x1,e1⟩:=q
 refine wpAny_bind (wpAny_holding (wpAny_mono (he E (A.next S1 x1) e1) (λiv s₂ q=>?_) λ_ _ x=>x))
 obtain⟨v2,H2,ρ2,nw2,hi,S2,x2,e2⟩:=q
 obtain⟨q,hq,e3⟩:=bind_some e2
 refine wpAny_bind (wpAny_standAt (wpAny_bind (wpAny_holding (FL S2 (ho.ext x2) hi (hv.ext (x1.trans x2)) hq λs3 nw3 S3 x3=>wpAny_release ?_))))
 have xx:=x1.trans (x2.trans x3)
 exact⟨m,vars,_,ρ2,nw3,A.next S3 xx,xx.xt A.st.rep S3.rep,e3⟩
theorem He(O:c.Ok T){es:List Expr}{n:Nat}{p:Pos}(A:At c env sc m ρ nw H s vars)(F:eV c env sc cs)(hv:VR c.K ρ nw v v')(hn:kU sc es=true)(h:(dZ v λxs=>kS es xs vars k) H=some res):
  wpAny (model c.prog c.w) c.A (assign (.Tuple es n p) env v') (λ_ s'=>Nx c env sc cs ρ nw k res s') E s:=by
 refine ex1_2 (Ha h) λxs zq h=>?_
 refine ex1_2 (xe es xs vars h) λvars' hb h=>?_
 refine mQ (zq▸hv:VR c.K ρ nw (.tup xs) v') λt items ht hs=>?_
 refine ai (xb (env:=env) hn) λn1 n2=>?_
 refine wpAny_assign_Tuple O.hh (A.st.isTup O ht) (by refine er (n1 ..) (er (VC ..) (er (hs.length ..) ?_));exact xf hb) n2 λh' hx=>?_
 exact xd F es xs _ ⟨A.st.other hx,A.ev,A.vs,A.cl⟩ (by simpa using hs) hn hb λs' m' nw' A' x'=>⟨m',vars',H,ρ,nw',A',x',h⟩
theorem xh(O:c.Ok T)(he:SE c r.e){t:Expr}(A:At c env sc m ρ nw H s vars)(F:eV c env sc cs)(hv:VR c.K ρ nw v v')(h:gy r T sc vars t v k H=some res):
  wpAny (model c.prog c.w) c.A (assign t env v') (λ_ s'=>Nx c env sc cs ρ nw k res s') E s:=by
 refine Hb h (λx p hk h=>?_) (λo n p h=>Hc O he A hv h) (λo i p h=>Hd he A hv h) λes n p hn h=>He O A F hv hn h
 exact wpAny_assign_Name (sw A F hv (xg hk) λs' m' nw' A' x'=>⟨m',_,H,ρ,nw',A',x',h⟩)
end
end
theorem sx{α β:Type}{f:α->β->Sem (ForInStep β)}(g:α->β->β):∀(l:List α) (c:β),(∀x∈l,∀c,f x c=pure (.yield (g x c)))->forIn l c f=pure (l.foldl (λc x=>g x c) c)
 |[],_,_=>rfl
 |x::l,c,h=>by
  refine er (XS ..) (er (h x U3 ..) (er (pure_bind ..) ?_))
  exact sx g l _ λy hy=>h y (U7 _ hy)
noncomputable def ek(env:Env)(y:Str×NameKind)(cs:List (Str×Addr)):List (Str×Addr):=if y.2== .free then(y.1,(env.cells.lookup y.1).getD 0)::cs else cs
theorem Hf{scope:Scope}{env:Env}(h:∀y∈scope.names,y.2= .free->∃a,env.cells.lookup y.1=some a):closureFor scope env=pure (scope.names.foldl (λc y=>ek env y c) []):=by
 rw[closureFor]
 rw[sx (ek env) _ _ λy hy c=>by
  obtain⟨n,kind⟩:=y
  by_cases hk:kind= .free
  ·refine ex1_1 (h _ hy hk) λa ha=>?_
   subst hk
   have hc:cellOf env n=pure a:=by unfold cellOf;refine er ((show env.cells.lookup n=some a from ha) ..) rfl
   simp only[ek,beq_self_eq_true,if_true,hc,pure_bind]
   refine er ((show env.cells.lookup n=some a from ha) ..) ?_;rfl
  ·have:(kind==NameKind.free)=false:=by simpa using hk
   simp only[ek,this,U0,if_false]]
 rfl
theorem pQ{env:Env}{x:Str}:∀(l:List (Str×NameKind)) (cs:List (Str×Addr)),(∀a,cs.lookup x=some a->env.cells.lookup x=some a)->(∀y∈l,y.2= .free->∃a,env.cells.lookup y.1=some a)->
  ((l.foldl (λc y=>ek env y c) cs).lookup x=cs.lookup x∨(l.foldl (λc y=>ek env y c) cs).lookup x=env.cells.lookup x)
 |[],cs,_,_=> .inl rfl
 |y::l,cs,h,hl=>by
  refine er (WE ..) ?_
  have hl':∀y∈l,y.2= .free->∃a,env.cells.lookup y.1=some a:=λy hy=>hl y (U7 _ hy)
  by_cases hk:y.2= .free
  ·refine ex1_1 (hl y (U3 ..) hk) λa ha=>?_
   have e:ek env y cs=(y.1,a)::cs:=by unfold ek;refine er (hk ..) (er (ha ..) ?_);rfl
   refine er (e ..) ?_
   by_cases hx:x=y.1
   ·have h0:W7 x ((y.1,a)::cs)=some a:=by refine er (Vg ..) (er (hx ..) ?_);simp
    rcases pQ (x:=x) l ((y.1,a)::cs) (λb hb=>by rw[h0]at hb;cases hb;refine er (hx ..) ?_;exact ha) hl' with h1|h1
    ·right;refine er (h1 ..) (er (h0 ..) (er (hx ..) (er (ha ..) rfl)))
    ·exact .inr h1
   ·have h0:W7 x ((y.1,a)::cs)=cs.lookup x:=by
     refine er (Vg ..) ?_
     have:(x==y.1)=false:=by simpa using hx
     refine er (this ..) rfl
    rcases pQ (x:=x) l ((y.1,a)::cs) (λb hb=>by rw[h0]at hb;exact h b hb) hl' with h1|h1
    ·left;refine er (h1 ..) (er (h0 ..) rfl)
    ·exact .inr h1
  ·have e:ek env y cs=cs:=by
    unfold ek
    have:(y.2==NameKind.free)=false:=by simpa using hk
    refine er (this ..) ?_;rfl
   refine er (e ..) ?_
   exact pQ l cs h hl'
theorem xi{env:Env}{x:Str}:∀(l:List (Str×NameKind)) (cs:List (Str×Addr)),(∃a,cs.lookup x=some a)∨(x,NameKind.free)∈l->∃a,(l.foldl (λc y=>ek env y c) cs).lookup x=some a
 |[],cs,h=>by
  rcases h with h|h
  ·exact h
  ·cases h
 |y::l,cs,h=>by
  refine er (WE ..) ?_
  refine xi l _ ?_
  have step:(∃a,cs.lookup x=some a)->∃a,(ek env y cs).lookup x=some a:=λ⟨a,h⟩=>by
   unfold ek
   split
   ·refine er (Vg ..) ?_
    cases x==y.1 with
    |true=>exact⟨_,rfl⟩
    |false=>exact⟨a,h⟩
   ·exact⟨a,h⟩
  rcases h with h|h
  ·exact .inl (step h)
  ·rcases List.mem_cons.mp h with h|h
   ·left;subst h;unfold ek;refine er (if_pos (by simp) ..) (er (Vg ..) ?_);simp
   ·exact .inr h
theorem Hg{scope:Scope}{env:Env}{x:Str}(h:∀y∈scope.names,y.2= .free->∃a,env.cells.lookup y.1=some a)(hx:(x,NameKind.free)∈scope.names):(scope.names.foldl (λc y=>ek env y c) []).lookup x=env.cells.lookup x:=by
 refine ex1_1 (xi (env:=env) (x:=x) scope.names [] (.inr hx)) λa ha=>?_
 rcases pQ (env:=env) (x:=x) scope.names [] (λa h=>by exact ak h) h with h1|h1
 ·rw[h1]at ha;exact ak ha
 ·exact h1
theorem hO{α:Type}{x:Str}{k:α}:∀{l:List (Str×α)},l.lookup x=some k->(x,k)∈l
 |[],h=>by exact ak h
 |(y,j)::l,h=>by
  rw[Vg]at h
  cases hx:x==y with
  |true=>
   rw[hx]at h
   cases h
   have:x=y:=by simpa using hx
   subst this
   exact U3 ..
  |false=>
   rw[hx]at h
   exact U7 _ (hO h)
theorem pR{sc scope:Scope}{x:Str}(h:gY sc scope x=true):scope.kind= .function/\scope.names.lookup x=some .local/\∀y∈scope.names,(y.2= .local/\scope.names.lookup y.1=some .local/\(y.1=x∨oU y.1=true))∨(y.2= .free/\mH (sc.names.lookup y.1)=true)∨y.2= .globalImplicit:=by
 unfold gY at h
 simp only[U2]at h
 refine ai (h) λhn2 h3=>?_
 refine ai hn2 λh1 h2=>?_
 have loc:∀{o:Option NameKind},mG o=true->o=some .local:=λ{o} h=>by
  cases o with
  |none=>cases h
  |some k=>cases k<;>first|rfl|cases h
 refine⟨?_,loc h2,λy hy=>?_⟩
 ·revert h1
  cases scope.kind<;>intro h1<;>first|rfl|cases h1
 ·have:=List.all_eq_true.mp h3 y hy
  revert this
  cases hk:y.2<;>intro this<;>simp at this
  ·exact .inl ⟨rfl,loc this.1,this.2⟩
  ·exact .inr (.inl ⟨rfl,this⟩)
  ·exact .inr (.inr rfl)
section
variable{c:Cx}{T:bf}{r:Lv}{m:Str->Option Value}{ρ:Ro}{nw:Nw}{H:Hp}{s:Shared}{E:Value->Shared->Prop}{env:Env}{sc scope:Scope}{vars:Z}{cs:List Addr}{cl:List (Str×Addr)}{x:Str}{C:Addr}
theorem m8{y:Str}{k:NameKind}:∀{names:List (Str×NameKind)},names.lookup y=some k->
  (names.map λ(n,k)=>if(k==NameKind.free&&env.scope.kind== .function&&env.kindOf n==some .cell)then(n,NameKind.cell)else(n,k)).lookup y=some k∨
  (k= .free/\(names.map λ(n,k)=>if(k==NameKind.free&&env.scope.kind== .function&&env.kindOf n==some .cell)then(n,NameKind.cell)else(n,k)).lookup y=some .cell)
 |[],h=>by exact ak h
 |(n,j)::l,h=>by
  refine er (Vi ..) ?_
  rw[Vg]at h
  by_cases hc:(j==NameKind.free&&env.scope.kind== .function&&env.kindOf n==some .cell)=true
  ·simp only[hc,if_true]
   refine er (Vg ..) ?_
   cases hx:y==n with
   |true=>
    rw[hx]at h
    cases h
    right
    simp only[U2]at hc
    exact⟨by simpa using hc.1.1,rfl⟩
   |false=>
    rw[hx]at h
    exact m8 h
  ·simp only[hc]
   refine er (if_neg (by decide) ..) (er (Vg ..) ?_)
   cases hx:y==n with
   |true=>rw[hx]at h;cases h;exact .inl rfl
   |false=>rw[hx]at h;exact m8 h
theorem xj(ev:i7 env sc)(hk:scope.kind= .function):i7 (compEnvC scope cl C env) scope:=by
 refine⟨ev.glob,ev.blt,hk,λy hy=>?_,λy hy=>?_,λy hy=>?_⟩
 ·exact lookup_relabel_local hy
 ·rcases hy with hy|hy
  ·rcases m8 (env:=env) hy with h|⟨h,_⟩
   ·exact .inl h
   ·cases h
  ·rcases m8 (env:=env) hy with h|⟨_,h⟩
   ·exact .inr h
   ·exact .inl h
 ·rcases m8 (env:=env) hy with h|⟨h,_⟩
  ·exact h
  ·cases h
theorem Hh{v:V}{v':Value}{o:Obj}{es:Array DictEntry}{ep:Nat}(A:At c env sc m ρ nw H s vars)(hok:gY sc scope x=true)(hcl:∀y,(y,NameKind.free)∈scope.names->cl.lookup y=env.cells.lookup y)
  (hm:(C,o)∈nw) (hn:¬bA ρ C) (hd:o.data= .dict es ep) (hs:StrKeys es) (hf:nsFind es x=some v') (hv:VR c.K ρ nw v v'):At c (compEnvC scope cl C env) scope m ρ nw H s (cZ vars x v):=by
 refine bK (pR hok) λk1 k2 k3=>?_
 have ev:=xj (cl:=cl) (C:=C) A.ev k1
 have free:∀y,scope.names.lookup y=some .free->cl.lookup y=env.cells.lookup y/\mH (sc.names.lookup y)=true:=λy hy=>by
  have hm:=hO hy
  refine⟨hcl y hm,?_⟩
  rcases k3 _ hm with⟨h,_⟩|⟨_,h⟩|h
  ·cases h
  ·exact h
  ·cases h
 refine⟨A.st,ev,λy w hy=>?_,λy hy=>?_⟩
 ·unfold ef at hy
  split at hy
  ·rename_i hl
   rw[kQ]at hy
   by_cases e:y=x
   ·subst e
    simp at hy
    subst hy
    exact⟨v',hv,.inr (.inl ⟨ev.loc y k2,o,es,ep,hm,hn,hd,hs,hf⟩)⟩
   ·simp only[e,if_false]at hy
    cases hk:scope.names.lookup y with
    |none=>rw[hk]at hl;cases hl
    |some k=>
     rcases k3 _ (hO hk)with⟨_,_,h⟩|⟨h,h2⟩|h
     ·rcases h with h|h
      ·exact absurd h e
      ·simp only at h;rw[h]at hl;simp at hl
     ·simp only at h h2
      subst h
      have hl2:ef sc vars y=some w:=by
       unfold ef
       have:(oT (sc.names.lookup y)&& !oU y)=true:=by
        rw[U2]at hl⊢
        refine⟨?_,hl.2⟩
        rcases m7 h2 with h|h<;>rw[h]<;>rfl
       refine er (if_pos this ..) ?_;exact hy
      refine ex1_2 (A.vs y w hl2) λw' hw hn'=>?_
      have ck:=A.ev.cf y (m7 h2)
      rcases hn' with⟨a1,_⟩|⟨a1,_⟩|⟨_,a,o1,a2,a3,a4,a5⟩
      ·rcases ck with ck|ck<;>rw[a1]at ck<;>cases ck
      ·rcases ck with ck|ck<;>rw[a1]at ck<;>cases ck
      ·exact⟨w',hw,.inr (.inr ⟨ev.cf y (.inr hk),a,o1,(free y hk).1.trans a2,a3,a4,a5⟩)⟩
     ·simp only at h;subst h;rw[hk]at hl;cases hl
  ·exact ak hy
 ·rcases m7 hy with hy|hy
  ·rcases k3 _ (hO hy)with⟨h,_⟩|⟨h,_⟩|h<;>cases h
  ·refine ai (free y hy) λf1 f2=>?_
   refine ex3_2 (A.cl y f2) λa o1 v1 b1 b2=>?_
   exact⟨a,o1,v1,f1.trans b1,b2⟩
theorem bx.kept{ja:List Addr}{nw':Nw}(k:dB ja nw nw')(f:cJ ja ρ nw){it:It}{i:Nat}{I:Addr}{ia:List Addr}(h:bx c ρ nw it i I ia)(hd:∀a∈ia,a∉ja):bx c ρ nw' it i I ia:=by
 have mo:=k.mono (K:=c.K) f
 cases h with
 |tup h1 h2 h3 h4 h5 h6=>exact .tup (k.keep _ h1 (hd _ (by simp))) h2 h3 h4 (mo.tup _ _ h5) (h6.mono mo)
 |range h1 h2 h3 h4=>exact .range (k.keep _ h1 (hd _ (by simp))) h2 h3 h4
 |live h1 h2 h3 h4=>exact .live (k.keep _ h1 (hd _ (by simp))) h2 h3 h4
 |keys h1 h2 h3 h4 h5=>exact .keys (k.keep _ h1 (hd _ (by simp))) h2 h3 h4 h5
 |enum h1 h2 h3 h4 h5 h6 h7=>exact .enum (k.keep _ h1 (hd _ (by simp))) h2 (k.keep _ h3 (hd _ (by simp))) h4 h5 h6 h7
theorem bx.self(S:St c m ρ nw H s){it:It}{i:Nat}{I:Addr}{ia:List Addr}(h:bx c ρ nw it i I ia){Q:Value->Shared->Prop}(q:Q (.ref I) s):wpAny (model c.prog c.w) c.A (pyIter (.ref I)) Q E s:=by
 cases h with
 |tup h1 h2 h3 h4 h5 h6=>exact wpAny_pyIter_tupleiter ⟨_,S.ns.get h1,h3,h4⟩ q
 |range h1 h2 h3 h4=>exact wpAny_pyIter_rangeiter (S.ns.get h1) q
 |live h1 h2 h3 h4=>exact wpAny_pyIter_listiter (so S h1 h3) q
 |keys h1 h2 h3 h4 h5=>exact wpAny_pyIter_keyiter ⟨_,S.ns.get h1,h3,h4⟩ q
 |enum h1 h2 h3 h4 h5 h6 h7=>exact wpAny_pyIter_enum (S.ns.get h1) q
end
section
variable{c:Cx}{T:bf}{r:Lv}{m:Str->Option Value}{ρ:Ro}{nw:Nw}{H:Hp}{s:Shared}{E:Value->Shared->Prop}{env:Env}{sc scope:Scope}{vars:Z}{cs:List Addr}{cl:List (Str×Addr)}{x:Str}{C:Addr}
inductive du(C:Addr)(ρ:Ro)(nw:Nw):Prop
 |mk (o:Obj) (es:Array DictEntry) (ep:Nat) (a:(C,o)∈nw) (b:¬bA ρ C) (d:o.data= .dict es ep) (e:StrKeys es)
theorem du.ext{ρ':Ro}{nw':Nw}(x:aG ρ nw ρ' nw'):du C ρ nw->du C ρ' nw'
 |⟨o,es,ep,h1,h2,h3,h4⟩=>let⟨a,b⟩:=x.keep _ h1 h2;⟨o,es,ep,a,b,h3,h4⟩
theorem pS{o:Obj}{es:Array DictEntry}{ep:Nat}(h:o.data= .dict es ep):m0 o:=λitems e=>by rw[e]at h;cases h
theorem du.free(nd:(nw.map (·.1)).Nodup):du C ρ nw->cJ [C] ρ nw
 |⟨o,es,ep,h1,h2,h3,h4⟩=>eU nd h1 h2 (pS h3)
theorem hH.free(nd:(nw.map (·.1)).Nodup){it:It}{i:Nat}{I:Addr}{ia:List Addr}{v:Value}(h:hH c ρ nw it i I ia v):cJ ia ρ nw:=by
 cases h with
 |std R _=>exact R.free nd
 |out h1 h2 h3 h4 h5 h6 h7=>exact wY (eU nd h1 h2 (iN rfl (by decide))) (eU nd h3 h4 (iN h5.1 (by decide)))
theorem hH.plain{it:It}{i:Nat}{I:Addr}{ia:List Addr}{v:Value}(h:hH c ρ nw it i I ia v)(hne:f9 it=true):bx c ρ nw it i I ia:=by
 cases h with
 |std R _=>exact R
 |out _ _ _ _ _ _ _=>cases hne
theorem Hi{it:It}(h:f9 it=true)(k:Nat):it≠ .enum k:=λe=>by rw[e]at h;cases h
theorem du.kept{ia:List Addr}{nw':Nw}(k:dB ia nw nw')(h:C∉ia):du C ρ nw->du C ρ nw'
 |⟨o,es,ep,h1,h2,h3,h4⟩=>⟨o,es,ep,k.keep _ h1 h,h2,h3,h4⟩
def sy(j:Nat)(y:V)(k:K):K:=UX (cC j) λo=>match o with
 | .list ys=>if aV ys.length then UX (c_ j (.list (ys++[y]))) λ_=>k else UY
 |_=>UY
theorem Hj(O:c.Ok T){it:It}{I:Addr}{ia:List Addr}{el:V->(V->K)->K}{co:V->(Bool->K)->K}{k:K}{j i n:Nat}{res:V×Hp}(hne:f9 it=true)(S:St c m ρ nw H s)(R:bx c ρ nw it i I ia)(h:eE (b8 it) el co j k n i H=some res){Q:Option Value->Shared->Prop}
  (fin:∀s' nw' H',St c m ρ nw' H' s'->dB ia nw nw'->k H'=some res->Q .none s')
  (go:∀s' nw' H' n' v v',n'<n->St c m ρ nw' H' s'->dB ia nw nw'->VR c.K ρ nw' v v'->bx c ρ nw' it (i+1) I ia->co v (λt=>if t then el v λy=>sy j y (eE (b8 it) el co j k n' (i+1))else eE (b8 it) el co j k n' (i+1)) H'=some res->Q (some v') s'):
  wpAny (model c.prog c.w) c.A (pyNext (.ref I)) Q E s:=by
 cases n with
 |zero=>exact ak h
 |succ n=>
  unfold eE at h
  obtain⟨⟨o,H'⟩,hq,h⟩:=bind_some h
  refine wpAny_mono (pP O S R (Hi hne) hq) (λrv s₁ z=>?_) λ_ _ x=>x
  refine ex1_3 z λnw1 S1 K1 z=>?_
  cases o with
  |none=>exact(show rv= .none from z)▸fin _ _ _ S1 K1 h
  |some v=>exact ex1_3 z λv' e hv RM=>e▸go _ _ _ _ _ _ (WQ _) S1 K1 hv (RM.plain hne) h
inductive sz(r:Lv)(scope:Scope)(x:Str)(vars:Z)(v:V)(k:Bool->K)(H:Hp)(res:V×Hp):List Expr->Prop
 |nil:k true H=some res->sz r scope x vars v k H res []
 |one {e:Expr}:r.b scope e (cZ vars x v) k H=some res->sz r scope x vars v k H res [e]
theorem Hk{ifs:List Expr}{v:V}{k:Bool->K}{res:V×Hp}(h:jM r scope x ifs vars v k H=some res):sz r scope x vars v k H res ifs:=by
 cases ifs with
 |nil=>exact .nil h
 |cons e l=>
  cases l with
  |nil=>exact .one h
  |cons _ _=>exact ak h
inductive sA(c:Cx)(m:Str->Option Value)(ρ₀:Ro)(nw₀:Nw)(it:It)(I:Addr)(ia:List Addr)(C D:Addr)(j:Nat)(el:V->(V->K)->K)(co:V->(Bool->K)->K)(k:K)(res:V×Hp)(n:Nat)(s:Shared):Prop
 |mk {i:Nat}{ρ:Ro}{nw:Nw}{H:Hp}:St c m ρ nw H s->aG ρ₀ nw₀ ρ nw->bx c ρ nw it i I ia->du C ρ nw->ρ[j]?=some (D,D)->eE (b8 it) el co j k n i H=some res->sA c m ρ₀ nw₀ it I ia C D j el co k res n s
theorem xk(he:SE c r.e){elt:Expr}{it:It}{I D:Addr}{ia:List Addr}{i j n:Nat}{el:V->(V->K)->K}{co:V->(Bool->K)->K}{k:K}{res:V×Hp}{ρ₀:Ro}{nw₀:Nw}{E2:Value->Shared->Prop}(A:At c env sc m ρ nw H s vars)(X:aG ρ₀ nw₀ ρ nw)(R:bx c ρ nw it i I ia)(CD:du C ρ nw)(hj:ρ[j]?=some (D,D))
  (h:(r.e sc elt vars λy=>sy j y (eE (b8 it) el co j k n i)) H=some res) {Q:Shared->Prop}(hQ:∀s',sA c m ρ₀ nw₀ it I ia C D j el co k res n s'->Q s'):
  wpAny (model c.prog c.w) c.A (eval elt env) (λy s₄=>wpAny (model c.prog c.w) c.A (call (.builtin "list.append") [.ref D,y]) (λ_ s₅=>Q s₅) E2 s₄) E s:=by
 refine wpAny_mono (he E A h) (λy s₄ q=>?_) λ_ _ x=>x
 obtain⟨y1,H4,ρ4,nw4,hy,S4,X4,e4⟩:=q
 unfold sy at e4
 obtain⟨ob,hob,e5⟩:=dM e4
 cases ob with
 |dict _ _=>exact ak e5
 |inst _ _=>exact ak e5
 |list ys=>
 refine ai (bg e5) λhz e5=>?_
 have hj4:=X4.ro _ _ hj
 have e6:i3 j ys .append [y1] H4=some (.none,H4.set j (.list (ys++[y1]))):=by unfold i3;refine er (if_pos hz ..) ?_;rfl
 refine wpAny_mono (wN S4 hob (.ref hj4) (.cons hy .nil) e6) (λ_ s₅ q=>?_) λ_ _ x=>x
 obtain⟨ρ5,nw5,_,S5,X5⟩:=q
 exact hQ _ ⟨S5,X.trans (X4.trans X5),(R.ext X4).ext X5,(CD.ext X4).ext X5,X5.ro _ _ hj4,e5⟩
theorem Hl{ρ₀:Ro}{nw₀:Nw}{H₀:Hp}{s₀:Shared}{px:Pos}{it:It}{I:Addr}{ia:List Addr}{i:Nat}{v:V}{v':Value}(A:At c env sc m ρ₀ nw₀ H₀ s₀ vars)(hok:gY sc scope x=true)(hcl:∀y,(y,NameKind.free)∈scope.names->cl.lookup y=env.cells.lookup y)
  (hC:∀p∈nw₀,p.1≠C) (hCi:C∉ia) (S1:St c m ρ nw H s) (X1:aG ρ₀ nw₀ ρ nw) (R1:bx c ρ nw it i I ia) (CD1:du C ρ nw) (hv:VR c.K ρ nw v v') {Q:Unit->Shared->Prop}
  (hQ:∀s' nw',At c (compEnvC scope cl C env) scope m ρ nw' H s' (cZ vars x v)->aG ρ₀ nw₀ ρ nw'->bx c ρ nw' it i I ia->du C ρ nw'->Q () s'):
  wpAny (model c.prog c.w) c.A (assign (.Name x px) (compEnvC scope cl C env) v') Q E s:=by
 obtain⟨oC,es,ep,c1,c2,c3,c4⟩:=CD1
 refine bK (pR hok) λk1 k2 k3=>?_
 have ev:i7 (compEnvC scope cl C env) scope:=xj A.ev k1
 refine wpAny_assign_Name (wpAny_storeName_local (ev.loc x k2) (pA S1.ns c1 c3 c4) (λh' hn hs=>?_) (by refine er (ev.kind ..) ?_;rfl))
 have fC:cJ [C] ρ nw:=eU S1.rep.nodup c1 c2 (pS c3)
 refine ex3_4 (hn) λoC' es' ep' g1 g2 g3 g4=>?_
 refine ai (S1.updFree (h':=h') c1 fC hs g1 (s.toks+1)) λS2 K2=>?_
 have X2:aG ρ₀ nw₀ ρ (bt nw C oC'):=X1.kept K2 λp hp h=>hC p hp (by rw[Ve]at h;exact h)
 have R2:bx c ρ (bt nw C oC') it i I ia:=R1.kept K2 fC λa ha h=>hCi (by rw[Ve]at h;exact h▸ha)
 exact hQ _ _ (Hh (A.next S2 X2) hok hcl (eK c1) c2 g2 g3 (by refine er (g4 ..) ?_;simp) (hv.mono (K2.mono fC))) X2 R2 ⟨oC',es',ep',eK c1,c2,g2,g3⟩
theorem Hm(O:c.Ok T)(he:SE c r.e)(hb:SB c r.b){elt iter:Expr}{px:Pos}{ifs:List Expr}{pos:Pos}{it:It}{I D:Addr}{ia:List Addr}{j N:Nat}{k:V->K}{res:V×Hp}{R:Result->Shared->Prop}
  {ρ₀:Ro}{nw₀:Nw}{H₀:Hp}{s₀:Shared}(A:At c env sc m ρ₀ nw₀ H₀ s₀ vars) (hok:gY sc scope x=true) (hcl:∀y,(y,NameKind.free)∈scope.names->cl.lookup y=env.cells.lookup y)
  (hne:f9 it=true) (hia:∀p∈nw₀,p.1∉ia) (hC:∀p∈nw₀,p.1≠C) (hCi:C∉ia)
  (fin:∀ρ' nw' H' s',St c m ρ' nw' H' s'->aG ρ₀ nw₀ ρ' nw'->du C ρ' nw'->ρ'[j]?=some (D,D)->k (.ref j) H'=some res->R (.ok .next) s')
  (S:St c m ρ nw H s) (X:aG ρ₀ nw₀ ρ nw) (RI:bx c ρ nw it 0 I ia) (CD:du C ρ nw) (hj:ρ[j]?=some (D,D)) (h:eE (b8 it) (λv k=>r.e scope elt (cZ vars x v) k) (jM r scope x ifs vars) j (k (.ref j)) N 0 H=some res):
  codeAny (model c.prog c.w) c.A (.compLoop (.ListComp elt [⟨.Name x px,iter,ifs,0⟩] scope pos) 0 (.ref I) (.ref D) (compEnvC scope cl C env)) R s:=by
 refine codeAny_compLoop_tests (sA c m ρ₀ nw₀ it I ia C D j (λv k=>r.e scope elt (cZ vars x v) k) (jM r scope x ifs vars) (k (.ref j)) res) ?_ N ⟨S,X,RI,CD,hj,h⟩
 clear h hj CD RI X S
 intro n s z
 obtain⟨S,X,RI,CD,hj,h⟩:=z
 refine Hj O hne S RI h (λs1 nw1 H1 S1 K1 h2=>fin _ _ _ _ S1 (X.kept K1 hia) (CD.kept K1 hCi) hj h2) λs1 nw1 H1 n' v v' lt S1 K1 hv R1 h2=>?_
 refine Hl A hok hcl hC hCi S1 (X.kept K1 hia) R1 (CD.kept K1 hCi) hv λs2 nw2 A2 X2 R2 CD2=>?_
 clear h A hC hCi hia fin S X RI CD S1 K1 R1 hv
 cases Hk h2 with
 |nil h3=>
  refine wpAny_tests_nil ?_
  refine er (if_pos rfl ..) ?_
  exact xk he A2 X2 R2 CD2 hj h3 λs' q=>⟨_,lt,q⟩
 |one h3=>
  refine wpAny_tests_one (wpAny_mono (hb _ A2 h3) (λt s₃ q=>?_) λ_ _ x=>x)
  obtain⟨H3,ρ3,nw3,S3,X3,e3⟩:=q
  cases t with
  |true=>
   refine er (if_pos rfl ..) ?_
   exact xk he (A2.next S3 X3) (X2.trans X3) (R2.ext X3) (CD2.ext X3) (X3.ro _ _ hj) e3 λs' q=>⟨_,lt,q⟩
  |false=>
   refine er (if_neg (by decide) ..) ?_
   exact⟨_,lt,S3,X2.trans X3,R2.ext X3,CD2.ext X3,X3.ro _ _ hj,e3⟩
theorem bx.inNw{it:It}{i:Nat}{I:Addr}{ia:List Addr}(h:bx c ρ nw it i I ia):∀a∈ia,∃o,(a,o)∈nw:=λa ha=>by
 cases h with
 |tup h1 _ _ _ _ _=>rw[Ve]at ha;exact⟨_,ha▸h1⟩
 |range h1 _ _ _=>rw[Ve]at ha;exact⟨_,ha▸h1⟩
 |live h1 _ _ _=>rw[Ve]at ha;exact⟨_,ha▸h1⟩
 |keys h1 _ _ _ _=>rw[Ve]at ha;exact⟨_,ha▸h1⟩
 |enum h1 _ h3 _ _ _ _=>
  rcases List.mem_cons.mp ha with ha|ha
  ·exact⟨_,ha▸h1⟩
  ·rw[Ve]at ha;exact⟨_,ha▸h3⟩
theorem xl{it:It}{q:Nat×Hp}(hq:jL it H=some q):q.2=H:=by
 cases it with
 |vals _=>exact(iO hq).2
 |keys _ _ _=>exact(iO hq).2
 |live _=>exact ex1_2 (gE hq) λ_ _ h=>(iO h).2
 |enum _=>exact ex1_2 (gE hq) λ_ _ h=>(iO h).2
theorem xm{i:Expr}{k:It->K}{res:V×Hp}(h:i4 T r sc vars i k H=some res):∀v,foldedSetIterable i env v=pure v:=by
 intro v
 cases i<;>first|rfl|(exact absurd h (by intro h;exact ak h))
theorem St.newNs(S:St c m ρ nw H s){h₁:Heap}{X:Obj}{mm:Str->Option Value}(hns:h₁.Ns s.heap.objs.size mm)(hsb:Heap.SameBut s.heap.objs.size (s.heap.push X) h₁)(t:Nat):
  ∃nw',St c m ρ nw' H {s with heap:=h₁,toks:=t}/\aG ρ nw ρ nw'/\du s.heap.objs.size ρ nw':=by
 obtain⟨oC,es,ep,g1,g2,g3,g4⟩:=id hns
 have up:∀b o,s.heap.get? b=some o->h₁.get? b=some o:=λb o e=>hsb.extBut b o (VB (Heap.lt_size e)) (Heap.get?_push_of_some _ e)
 have fresh:∀p∈[(s.heap.objs.size,oC)],∀q∈nw,q.1≠p.1:=λp hp q hq=>by
  refine er (List.mem_singleton.mp hp ..) ?_;exact g9 S.ns q hq
 refine⟨[(s.heap.objs.size,oC)]++nw,⟨?_,?_,S.rep.more _ fresh (by simp),S.g,S.d,S.o⟩,aG.more _ fresh,oC,es,ep,VD _ (List.mem_singleton.mpr rfl),S.size_own,g2,g3⟩
 ·refine ex3_2 S.fr.ns λoL a1 a2 hoL a3=>?_
  exact⟨⟨oL,a1,a2,up _ _ hoL,a3⟩,λb o e=>up _ _ (S.fr.keep b o e),S.fr.above⟩
 ·intro p hp
  rcases List.mem_append.mp hp with hp|hp
  ·refine er (List.mem_singleton.mp hp ..) ?_;exact⟨g1,S.size_ok⟩
  ·exact⟨up _ _ (S.ns p hp).1,(S.ns p hp).2⟩
theorem Hn(A:At c env sc m ρ nw H s vars)(hok:gY sc scope x=true):(∀y∈scope.names,y.2= .free->∃a,env.cells.lookup y.1=some a)/\(∀y∈scope.names,y.2≠ .cell)/\∀y∈scope.names,y.2= .local->scope.names.lookup y.1=some .local:=by
 refine bK (pR hok) λk1 k2 k3=>⟨λy hy e=>?_,λy hy e=>?_,λy hy e=>?_⟩<;>rcases k3 y hy with h|h|h
 ·exact nomatch h.1.symm.trans e
 ·exact ex1_1 (A.cl y.1 h.2) λa h=>ex1_1 h λ_ h=>ex1_1 h λ_ h=>⟨a,h.1⟩
 ·exact nomatch h.symm.trans e
 ·exact nomatch h.1.symm.trans e
 ·exact nomatch h.1.symm.trans e
 ·exact nomatch h.symm.trans e
 ·exact h.2.1
 ·exact nomatch h.1.symm.trans e
 ·exact nomatch h.symm.trans e
theorem Ho{it:It}{el:V->(V->K)->K}{co:V->(Bool->K)->K}{k:V->K}{res:V×Hp}(h:cg it el co k H=some res):f9 it=true/\∃N,eE (b8 it) el co H.length (k (.ref H.length)) (N+1) 0 (H++[.list []])=some res:=by
 refine ai (bg h) λhn h=>?_
 obtain⟨q,hq,h⟩:=bind_some h
 refine⟨hn,q.1,?_⟩
 rw[xl hq]at h
 exact h
theorem xn(O:c.Ok T)(he:SE c r.e)(hb:SB c r.b){elt iter:Expr}{px:Pos}{ifs:List Expr}{pos p0:Pos}{use:Option (Value->Sem Unit)}{Q:Value->Shared->Prop}{k:V->K}{res:V×Hp}(A:At c env sc m ρ nw H s vars)(hok:gY sc scope x=true)
  (h:(i4 T r sc vars iter λit=>cg it (λv k=>r.e scope elt (cZ vars x v) k) (jM r scope x ifs vars) k) H=some res)
  (fin:∀C D j ρ' nw' H' s',(∀p∈nw,p.1≠C)->St c m ρ' nw' H' s'->aG ρ nw ρ' nw'->du C ρ' nw'->ρ'[j]?=some (D,D)->k (.ref j) H'=some res->compPost (model c.prog c.w) c.A E use Q (.ref D) C (.ok .next) s'):
  wpAny (model c.prog c.w) c.A (comprehension (.ListComp elt [⟨.Name x px,iter,ifs,0⟩] scope pos) scope env p0 (newList []) false (eval iter env) use) Q E s:=by
 refine bK (Hn A hok) λhfr hnc hlc=>?_
 have k1:=(pR hok).1
 refine wpAny_comprehension_free (cl:=scope.names.foldl (λc y=>ek env y c) []) rfl (xm h) (Hf hfr) k1 hlc (wpAny_mono (w_ O he A h) (λxv s₁ q=>wpAny_mono q (λitv s₂ q=>?_) λ_ _ x=>x) λ_ _ x=>x)
 obtain⟨I,it,H1,ρ1,nw1,ia,rfl,R1,S1,X1,hia,e1⟩:=q
 refine ai (Ho e1) λhne e2=>ex1_1 e2 λN e3=>?_
 refine wpAny_newObj_type ?_
 refine ai (S1.new1 (ob:={cls:= .type "list",data:= .seq ([]:List Value).toArray}) (o:= .list []) rfl λx2=> .list (items:=[]) (n:=0) (U3 ..) .nil) λS2 X2=>?_
 have hj2:(ρ1++[(s₂.heap.objs.size,s₂.heap.objs.size)])[H1.length]?=some (s₂.heap.objs.size,s₂.heap.objs.size):=by refine el (S1.rep.len ..) ?_;simp
 refine wpAny_newFunctionEnv hnc (by intro y hy;cases hy) (λh₁ hns hsb=>?_) k1
 refine ex1_3 (S2.newNs hns hsb (s₂.toks+([]:List (Str×Value)).length)) λnw3 S3 X3 CD3=>?_
 have hCs:=λp hp=>Heap.lt_size (S2.ns p hp).1
 have low:∀p∈nw,p.1≠_:=λp hp=>ex1_2 (X1.keys A.st.rep S1.rep p hp) λq hq e=>e▸VB (hCs q (U7 _ hq))
 have hCi:_∉ia:=λh=>ex1_1 (R1.inNw _ h) λo ho=>absurd (hCs _ (U7 _ ho)) (Wj _)
 have R3:=(R1.ext X2).ext X3
 have loop:=Hm (R:=compPost (model c.prog c.w) c.A E use Q (.ref s₂.heap.objs.size) _) (px:=px) (pos:=pos) (iter:=iter) O he hb A hok (λy hy=>Hg hfr hy) hne hia low hCi
  (λρ' nw' H' s' a b d e f=>fin _ _ _ ρ' nw' H' s' low a b d e f) S3 (X1.trans (X2.trans X3)) R3 CD3 (X3.ro _ _ hj2) e3
 exact codeAny_compStart_list loop (bx.self S3 R3 loop)
theorem du.ns(S:St c m ρ nw H s):du C ρ nw->∃mm,s.heap.Ns C mm
 |⟨_,es,_,h1,_,h3,h4⟩=>⟨nsFind es,pA S.ns h1 h3 h4⟩
theorem du.drop(S:St c m ρ nw H s)(CD:du C ρ nw){ρ₀:Ro}{nw₀:Nw}(X:aG ρ₀ nw₀ ρ nw)(low:∀p∈nw₀,p.1≠C){h':Heap}(hs:Heap.SameBut C s.heap h'):∃nw',St c m ρ nw' H {s with heap:=h'}/\aG ρ₀ nw₀ ρ nw'/\dB [C] nw nw':=by
 refine bZ λgP gh=>?_
 obtain⟨o,es,ep,h1,h2,h3,h4⟩:=CD
 refine ai (S.drop h1 (eU S.rep.nodup h1 h2 (pS h3)) hs.extBut s.toks) λS' k=>?_
 refine gh ?_;clear gh gP
 exact⟨_,S',X.kept k λp hp h=>low p hp (by rw[Ve]at h;exact h),k⟩
theorem Hq(O:c.Ok T)(he:SE c r.e)(hb:SB c r.b){elt iter:Expr}{px:Pos}{ifs:List Expr}{pos:Pos}{k:V->K}{res:V×Hp}(A:At c env sc m ρ nw H s vars)(hok:gY sc scope x=true)
  (h:(i4 T r sc vars iter λit=>cg it (λv k=>r.e scope elt (cZ vars x v) k) (jM r scope x ifs vars) k) H=some res):
  wpAny (model c.prog c.w) c.A (eval (.ListComp elt [⟨.Name x px,iter,ifs,0⟩] scope pos) env) (b_ c m ρ nw k res) E s:=by
 simp only[eval_ListComp]
 refine xn O he hb A hok h λC D j ρ' nw' H' s' low S X CD hj e=>?_
 refine ex1_1 (CD.ns S) λmm hn=>?_
 refine⟨mm,hn,λh' hs=>?_⟩
 refine ex1_3 (CD.drop S X low hs) λnw2 S2 X2 _=>?_
 exact⟨.ref j,H',ρ',nw2,.ref hj,S2,X2,e⟩
end
section
variable{c:Cx}{T:bf}{r:Lv}{m:Str->Option Value}{ρ:Ro}{nw:Nw}{H:Hp}{s:Shared}{E:Value->Shared->Prop}{env:Env}{sc scope:Scope}{vars:Z}{cs:List Addr}{C:Addr}
noncomputable def gG(cs:List Addr)(nw:Nw):Prop:=∀a∈cs,∃p∈nw,p.1=a
theorem gG.xt{ρ':Ro}{nw':Nw}(h:gG cs nw)(x:Xt c.K cs ρ nw ρ' nw'):gG cs nw':=λa ha=>let⟨p,hp,e⟩:=h a ha;let⟨q,hq,e'⟩:=x.low p hp;⟨q,hq,e'.trans e⟩
theorem At.kept{ia:List Addr}{nw':Nw}{s':Shared}{H':Hp}(A:At c env sc m ρ nw H s vars)(F:eV c env sc cs)(k:dB ia nw nw')(f:cJ ia ρ nw)(hd:∀a∈cs,a∉ia)(S:St c m ρ nw' H' s'):At c env sc m ρ nw' H' s' vars:=by
 refine⟨S,A.ev,λy w hy=>?_,λy hy=>?_⟩
 ·refine ex1_2 (A.vs y w hy) λw' hw hn=>?_
  refine⟨w',hw.mono (k.mono f),?_⟩
  rcases hn with h|⟨_,o1,es,ep,a2,_⟩|⟨a1,a,o1,a2,a3,a4,a5⟩
  ·exact .inl h
  ·exact absurd F.loc (A.st.ns _ a2).2.1
  ·exact .inr (.inr ⟨a1,a,o1,a2,k.keep _ a3 (hd _ (F.cs y a a2)),a4,a5⟩)
 ·refine ex3_4 (A.cl y hy) λa o v h1 h2 h3 h4=>?_
  exact⟨a,o,v,h1,k.keep _ h2 (hd _ (F.cs y a h1)),h3,h4⟩
theorem Xt.kept{ia:List Addr}{ρ₀:Ro}{nw₀ nw':Nw}(x:Xt c.K cs ρ₀ nw₀ ρ nw)(k:dB ia nw nw')(f:cJ ia ρ nw)(hd:∀p∈nw₀,p.1∉ia):Xt c.K cs ρ₀ nw₀ ρ nw':=by
 refine⟨x.ro,λp hp hn hc=>?_,λa items h=>(k.mono f).tup _ _ (x.tup _ _ h),λp hp=>?_⟩
 ·obtain⟨a,b⟩:=x.keep p hp hn hc;exact⟨k.keep p a (hd p hp),b⟩
 ·obtain⟨q,hq,e⟩:=x.low p hp;exact⟨q,k.keep q hq (e▸hd p hp),e⟩
theorem bx.xt{ρ':Ro}{nw':Nw}(x:Xt c.K cs ρ nw ρ' nw'){it:It}{i:Nat}{I:Addr}{ia:List Addr}(h:bx c ρ nw it i I ia)(hd:∀a∈ia,a∉cs):bx c ρ' nw' it i I ia:=by
 have mo:=x.mono
 cases h with
 |tup h1 h2 h3 h4 h5 h6=>have z:=x.keep _ h1 h2 (hd _ (by simp));exact .tup z.1 z.2 h3 h4 (mo.tup _ _ h5) (h6.mono mo)
 |range h1 h2 h3 h4=>have z:=x.keep _ h1 h2 (hd _ (by simp));exact .range z.1 z.2 h3 h4
 |live h1 h2 h3 h4=>have z:=x.keep _ h1 h2 (hd _ (by simp));exact .live z.1 z.2 h3 (x.ro _ _ h4)
 |keys h1 h2 h3 h4 h5=>have z:=x.keep _ h1 h2 (hd _ (by simp));exact .keys z.1 z.2 h3 h4 (x.ro _ _ h5)
 |enum h1 h2 h3 h4 h5 h6 h7=>
  have z:=x.keep _ h1 h2 (hd _ (by simp))
  have y:=x.keep _ h3 h4 (hd _ (by simp))
  exact .enum z.1 z.2 y.1 y.2 h5 h6 (x.ro _ _ h7)
inductive Rt(c:Cx)(cs:List Addr)(ρ:Ro)(nw:Nw)(res:V×Hp)(v':Value)(s':Shared):Prop
 |mk (m':Str->Option Value) (ρ':Ro) (nw':Nw) (a:VR c.K ρ' nw' res.1 v') (b:St c m' ρ' nw' res.2 s') (x:Xt c.K cs ρ nw ρ' nw')
noncomputable def eo(c:Cx)(env:Env)(sc:Scope)(cs:List Addr)(ρ:Ro)(nw:Nw)(kn kb:Z->K)(res:V×Hp):Flow->Shared->Prop
 | .next,s'=>Nx c env sc cs ρ nw kn res s'
 | .brk,s'=>Nx c env sc cs ρ nw kb res s'
 | .cont,_=>False
 | .ret v',s'=>Rt c cs ρ nw res v' s'
theorem eo.trans{ρ':Ro}{nw':Nw}{kn kb:Z->K}{res:V×Hp}(x:Xt c.K cs ρ nw ρ' nw'):∀{f:Flow}{s':Shared},eo c env sc cs ρ' nw' kn kb res f s'->eo c env sc cs ρ nw kn kb res f s'
 | .next,_,h=>Nx.trans x h
 | .brk,_,h=>Nx.trans x h
 | .cont,_,h=>h
 | .ret _,_,⟨m',r',n',a,b,d⟩=>⟨m',r',n',a,b,x.trans d⟩
noncomputable def SS(c:Cx)(rs:Scope->Stmt->Z->(Z->K)->(Z->K)->K):Prop:=
 ∀{m:Str->Option Value}{ρ:Ro}{nw:Nw}{H:Hp}{s:Shared}{env:Env}{sc:Scope}{vars:Z}{cs:List Addr}{st:Stmt}{kn kb:Z->K}{res:V×Hp}(E:Value->Shared->Prop),
  At c env sc m ρ nw H s vars->eV c env sc cs->gG cs nw->rs sc st vars kn kb H=some res->wpAny (model c.prog c.w) c.A (exec st env) (eo c env sc cs ρ nw kn kb res) E s
noncomputable def SU(c:Cx)(re:Scope->Expr->Z->(V->K)->K):Prop:=
 ∀{m:Str->Option Value}{ρ:Ro}{nw:Nw}{H:Hp}{s:Shared}{env:Env}{sc:Scope}{vars:Z}{elt:Expr}{gens:List Comprehension}{scope:Scope}{pos:Pos}{k:V->K}{res:V×Hp}{use:Value->Sem Unit}{Q:Shared->Prop}(E:Value->Shared->Prop),
  At c env sc m ρ nw H s vars->re sc (.ListComp elt gens scope pos) vars k H=some res->
  (∀C D j ρ' nw' H' s',(∀p∈nw,p.1≠C)->St c m ρ' nw' H' s'->aG ρ nw ρ' nw'->du C ρ' nw'->ρ'[j]?=some (D,D)->k (.ref j) H'=some res->
   wpAny (model c.prog c.w) c.A (use (.ref D)) (λ_ s''=>∃mm,s''.heap.Ns C mm/\∀h',Heap.SameBut C s''.heap h'->Q {s'' with heap:=h'}) E s')->
  wpAny (model c.prog c.w) c.A (evalThenUse (.ListComp elt gens scope pos) env use) (λ_ s'=>Q s') E s
theorem jY(hs:SS c r.s)(F:eV c env sc cs):∀(ss:List Stmt) {m:Str->Option Value}{ρ:Ro}{nw:Nw}{H:Hp}{s:Shared}{vars:Z}{kn kb:Z->K}{res:V×Hp}(E:Value->Shared->Prop),At c env sc m ρ nw H s vars->gG cs nw->eF r sc ss vars kn kb H=some res->
  wpAny (model c.prog c.w) c.A (execs ss env) (eo c env sc cs ρ nw kn kb res) E s
 |[],m,ρ,nw,H,s,vars,kn,kb,res,E,A,ci,h=>wpAny_execs_nil ⟨m,vars,H,ρ,nw,A,.refl,h⟩
 |st::ss,m,ρ,nw,H,s,vars,kn,kb,res,E,A,ci,h=>by
  refine wpAny_execs_cons (wpAny_mono (hs E A F ci h) (λf s' q=>?_) λ_ _ x=>x)
  cases f with
  |next=>
   obtain⟨m',vars',H',ρ',nw',A',x,e⟩:=q
   exact wpAny_mono (jY hs F ss E A' (ci.xt x) e) (λ_ _ q=>eo.trans x q) λ_ _ x=>x
  |brk=>exact q
  |cont=>exact q
  |ret v=>exact q
def sB(r:Lv)(sc:Scope)(t:Expr)(b:List Stmt)(kn:Z->K):Nat->Z->K:=kW (λvars k=>r.b sc t vars k) (λvars kn kb=>eF r sc b vars kn kb) kn
inductive sC(c:Cx)(env:Env)(sc:Scope)(cs:List Addr)(ρ:Ro)(nw:Nw)(r:Lv)(t:Expr)(b:List Stmt)(kn:Z->K)(res:V×Hp)(n:Nat)(s:Shared):Prop
 |mk {m:Str->Option Value}{ρ1:Ro}{nw1:Nw}{H:Hp}{vars:Z}:At c env sc m ρ1 nw1 H s vars->Xt c.K cs ρ nw ρ1 nw1->sB r sc t b kn n vars H=some res->sC c env sc cs ρ nw r t b kn res n s
section
variable{t:Expr}{b:List Stmt}{kn kb:Z->K}{res:V×Hp}{n:Nat}{ρ0:Ro}{nw0:Nw}
theorem Hr(hs:SS c r.s)(F:eV c env sc cs)(A:At c env sc m ρ nw H s vars)(ci:gG cs nw0)(X:Xt c.K cs ρ0 nw0 ρ nw){Q:Flow->Shared->Prop}(h:eF r sc b vars (λvars'=>sB r sc t b kn n vars') kn H=some res)
  (q1:∀s',sC c env sc cs ρ0 nw0 r t b kn res n s'->Q .next s') (q2:∀s',Nx c env sc cs ρ0 nw0 kn res s'->Q .brk s') (q3:∀v s',Rt c cs ρ0 nw0 res v s'->Q (.ret v) s'):wpAny (model c.prog c.w) c.A (execs b env) Q E s:=by
 refine wpAny_mono (jY hs F b _ A (ci.xt X) h) (λf s₃ q=>?_) λ_ _ x=>x
 cases f with
 |next=>
  obtain⟨m',vars',H',ρ',nw',A',x',e⟩:=q
  exact q1 _ ⟨A',X.trans x',e⟩
 |brk=>exact q2 _ (Nx.trans X q)
 |cont=>exact q.elim
 |ret v=>exact q3 _ _ (eo.trans (env:=env) (sc:=sc) (kn:=kn) (kb:=kn) (f:= .ret v) X q)
theorem Hs(hb:SB c r.b)(hs:SS c r.s)(F:eV c env sc cs){pos:Pos}(A:At c env sc m ρ nw H s vars)(ci:gG cs nw)(h:sB r sc t b kn n vars H=some res):
  wpAny (model c.prog c.w) c.A (exec (.While t b [] pos) env) (eo c env sc cs ρ nw kn kb res) E s:=by
 refine wpAny_While (codeAny_whileLoop (sC c env sc cs ρ nw r t b kn res) ?_ n ⟨A,.refl,h⟩)
 clear h A
 intro n s I
 cases I with
 | @mk m1 _ _ _ vars1 A x h=>
 cases n with
 |zero=>exact ak h
 |succ n=>
 refine wpAny_mono (hb _ A h) (λtt s₂ q=>?_) λ_ _ x=>x
 obtain⟨H2,ρ2,nw2,S2,x2,e2⟩:=q
 have A2:=A.next S2 x2
 have X2:=x.trans (x2.xt (cs:=cs) A.st.rep S2.rep)
 cases tt with
 |true=>exact(if_pos rfl).symm▸Hr hs F A2 ci X2 e2 (λs' q=>⟨n,WQ n,q⟩) (λ_ q=>q) λ_ _ q=>q
 |false=>exact(if_neg V7).symm▸wpAny_execs_nil ⟨m1,vars1,H2,ρ2,nw2,A2,X2,e2⟩
end
theorem Ht(O:c.Ok T)(S:St c m ρ nw H s){it:It}{i:Nat}{I:Addr}{ia:List Addr}{q:Option V×Hp}(R:bx c ρ nw it i I ia)(hq:b8 it i H=some q):wpAny (model c.prog c.w) c.A (pyNext (.ref I)) (gF c m ρ nw q.2 it i I ia q.1) E s:=by
 cases it with
 |enum k=>exact GS O S R hq
 |vals xs=>exact pP O S R (λk h=>by cases h) hq
 |live k=>exact pP O S R (λk h=>by cases h) hq
 |keys k ep n=>exact pP O S R (λk h=>by cases h) hq
theorem Hu(O:c.Ok T){it:It}{I:Addr}{ia:List Addr}{bd:V->Z->(Z->K)->(Z->K)->K}{k:Z->K}{i n:Nat}{res:V×Hp}(S:St c m ρ nw H s)(R:bx c ρ nw it i I ia)(h:dr (b8 it) bd k n i vars H=some res){Q:Option Value->Shared->Prop}
  (fin:∀s' nw' H',St c m ρ nw' H' s'->dB ia nw nw'->k vars H'=some res->Q .none s')
  (go:∀s' nw' H' n' v v',n'<n->St c m ρ nw' H' s'->dB ia nw nw'->VR c.K ρ nw' v v'->hH c ρ nw' it (i+1) I ia v'->bd v vars (λvars'=>dr (b8 it) bd k n' (i+1) vars') k H'=some res->Q (some v') s'):
  wpAny (model c.prog c.w) c.A (pyNext (.ref I)) Q E s:=by
 cases n with
 |zero=>exact ak h
 |succ n=>
  unfold dr at h
  obtain⟨⟨o,H'⟩,hq,h⟩:=bind_some h
  refine wpAny_mono (Ht O S R hq) (λrv s₁ z=>?_) λ_ _ x=>x
  refine ex1_3 z λnw1 S1 K1 z=>?_
  cases o with
  |none=>exact(show rv= .none from z)▸fin _ _ _ S1 K1 h
  |some v=>exact ex1_3 z λv' e hv RM=>e▸go _ _ _ _ _ _ (WQ _) S1 K1 hv RM h
inductive sD(c:Cx)(env:Env)(sc:Scope)(cs:List Addr)(ρ:Ro)(nw:Nw)(it:It)(I:Addr)(ia:List Addr)(bd:V->Z->(Z->K)->(Z->K)->K)(k:Z->K)(res:V×Hp)(n:Nat)(s:Shared):Prop
 |mk {i:Nat}{m:Str->Option Value}{ρ1:Ro}{nw1:Nw}{H:Hp}{vars:Z}:At c env sc m ρ1 nw1 H s vars->Xt c.K cs ρ nw ρ1 nw1->bx c ρ1 nw1 it i I ia->dr (b8 it) bd k n i vars H=some res->sD c env sc cs ρ nw it I ia bd k res n s
def pT(T:bf)(r:Lv)(sc:Scope)(t:Expr)(b:List Stmt):V->Z->(Z->K)->(Z->K)->K:=λv vars kn kb=>gy r T sc vars t v λvars'=>eF r sc b vars' kn kb
theorem Hv(O:c.Ok T)(he:SE c r.e)(hs:SS c r.s)(F:eV c env sc cs){t:Expr}{b:List Stmt}{it:It}{i n:Nat}{I:Addr}{ia:List Addr}{v:V}{v':Value}{kn:Z->K}{res:V×Hp}{ρ0:Ro}{nw0:Nw}{Q:Flow->Shared->Prop}(ci:gG cs nw0)(hia:∀p∈nw0,p.1∉ia)(X:Xt c.K cs ρ0 nw0 ρ nw)(hci:∀a∈cs,a∉ia)(hok:(f9 it||jK t)=true)
  (A:At c env sc m ρ nw H s vars) (hv:VR c.K ρ nw v v') (R:hH c ρ nw it (i+1) I ia v') (h:pT T r sc t b v vars (λvars'=>dr (b8 it) (pT T r sc t b) kn n (i+1) vars') kn H=some res)
  (q1:∀s',sD c env sc cs ρ0 nw0 it I ia (pT T r sc t b) kn res n s'->Q .next s') (q2:∀s',Nx c env sc cs ρ0 nw0 kn res s'->Q .brk s') (q3:∀v s',Rt c cs ρ0 nw0 res v s'->Q (.ret v) s'):
  wpAny (model c.prog c.w) c.A (letOwnedTupleGo t (.ref I) v') (λ_ s1=>wpAny (model c.prog c.w) c.A (assign t env v') (λ_ s2=>wpAny (model c.prog c.w) c.A (execs b env) Q E s2) E s1) E s:=by
 refine GX A.st R hok λs3 nw3 S3 K3 R3=>?_
 have f2:=R.free A.st.rep.nodup
 have A3:=A.kept F K3 f2 hci S3
 have X3:=X.kept K3 f2 hia
 refine wpAny_mono (xh O he A3 F (hv.mono (K3.mono f2)) h) (λ_ s₄ q=>?_) λ_ _ x=>x
 obtain⟨m4,vars4,H4,ρ4,nw4,A4,X4,e4⟩:=q
 have X04:=X3.trans X4
 have R4:=R3.xt X4 λa ha hc=>hci a hc ha
 refine wpAny_mono (jY hs F b _ A4 (ci.xt X04) e4) (λf s₅ q=>?_) λ_ _ x=>x
 cases f with
 |next=>
  obtain⟨m',vars',H',ρ',nw',A',x',e⟩:=q
  exact q1 _ ⟨A',X04.trans x',R4.xt x' λa ha hc=>hci a hc ha,e⟩
 |brk=>exact q2 _ (Nx.trans X04 q)
 |cont=>exact q.elim
 |ret v=>exact q3 _ _ (eo.trans (env:=env) (sc:=sc) (kn:=kn) (kb:=kn) (f:= .ret v) X04 q)
theorem Hw{tup:Bool}{it:It}{bd:V->Z->(Z->K)->(Z->K)->K}{k:Z->K}{res:V×Hp}(h:cE tup it bd k vars H=some res):(f9 it||tup)=true/\∃n,dr (b8 it) bd k n 0 vars H=some res:=by
 unfold cE at h
 split at h
 case isFalse=>exact ak h
 rename_i hok
 obtain⟨q,hq,e2⟩:=bind_some h
 rw[xl hq]at e2
 exact⟨hok,_,e2⟩
theorem Hx(O:c.Ok T)(he:SE c r.e)(hs:SS c r.s)(F:eV c env sc cs){t i:Expr}{b:List Stmt}{pos:Pos}{kn kb:Z->K}{res:V×Hp}(A:At c env sc m ρ nw H s vars)(ci:gG cs nw)
  (h:(i4 T r sc vars i λit=>cE (jK t) it (λv vars kn kb=>gy r T sc vars t v λvars'=>eF r sc b vars' kn kb) kn vars) H=some res):
  wpAny (model c.prog c.w) c.A (exec (.For t i b [] pos) env) (eo c env sc cs ρ nw kn kb res) E s:=by
 refine wpAny_For (wpAny_mono (w_ O he A h) (λxv s₁ q=>wpAny_mono q (λitv s₂ q=>?_) λ_ _ x=>x) λ_ _ x=>x) (xm h)
 obtain⟨I,it,H1,ρ1,nw1,ia,rfl,R1,S1,X1,hia,e1⟩:=q
 refine ai (Hw e1) λhok e2=>?_
 have hci:∀a∈cs,a∉ia:=λa ha hi=>by
  refine ex1_2 (ci a ha) λp hp e=>?_
  exact hia p hp (e▸hi)
 refine ex1_1 e2 λn e2=>?_
 refine codeAny_forLoop_any (sD c env sc cs ρ nw it I ia (pT T r sc t b) kn res) ?_ n ⟨A.next S1 X1,X1.xt A.st.rep S1.rep,R1,e2⟩
 clear e1 e2 X1 S1 R1 A h
 intro n s z
 obtain⟨A,x,R,h⟩:=z
 have fI:=R.free A.st.rep.nodup
 refine Hu O A.st R h (λs1 nw1 H1 S1 K1 h2=>wpAny_execs_nil ⟨_,_,_,_,nw1,A.kept F K1 fI hci S1,x.kept K1 fI hia,h2⟩) λs1 nw1 H1 n' v v' lt S1 K1 hv RM h2=>?_
 exact Hv O he hs F ci hia (x.kept K1 fI hia) hci hok (A.kept F K1 fI hci S1) hv RM h2 (λs' q=>⟨_,lt,q⟩) (λs' q=>q) (λv s' q=>q)
end
section
variable{c:Cx}{T:bf}{r:Lv}{m:Str->Option Value}{ρ:Ro}{nw:Nw}{H:Hp}{s:Shared}{E:Value->Shared->Prop}{env:Env}{sc scope:Scope}{vars:Z}{cs:List Addr}{C:Addr}
set_option backward.match.sparseCases false in
noncomputable def lu:Expr->Bool
 | .ListComp .. | .SetComp .. | .DictComp .. =>true
 |_=>false
theorem xp{e:Expr}{t:Option Expr}{l:Nat}(h:lu e=false):swapsWith e t l env=pure false:=by
 cases e<;>first|rfl|cases h
theorem Hy(ev:i7 env sc):interactive env=false:=by
 unfold interactive
 refine er (ev.kind ..) ?_;rfl
theorem Hz{t e:Expr}(h:kY t e=false):swappedStores [t] e env=pure none:=by
 unfold kY at h
 rw[Bool.or_eq_false_iff,Bool.and_eq_false_iff]at h
 cases t<;>first|rfl|exact Bool.noConfusion h.2|skip
 have h1:=h.1.resolve_left Bool.noConfusion
 clear h
 cases e<;>first|rfl|exact Bool.noConfusion h1
theorem HA{e:Expr}(h:rK e=false):lu e=false∨∃elt gens scope pos,e= .ListComp elt gens scope pos:=by
 cases e<;>first|exact .inl rfl|exact .inr ⟨_,_,_,_,rfl⟩|exact Bool.noConfusion h
theorem HB{e:Expr}(h:rL e=false):lu e=false:=by
 cases e<;>first|rfl|exact Bool.noConfusion h
theorem xq{b:Bool}{A B:K}{res:V×Hp}(h:(match b with|true=>A|false=>B) H=some res)(hA:A H=none:=by rfl):b=false/\B H=some res:=by
 cases b with
 |true=>exact ak (hA.symm.trans h)
 |false=>exact⟨rfl,h⟩
theorem HC{t e:Expr}{k:Z->K}{vars:Z}{res:V×Hp}(h:(match kY t e||rK e with|true=>UY|false=>r.e sc e vars λv=>gy r T sc vars t v k) H=some res):(r.e sc e vars λv=>gy r T sc vars t v k) H=some res/\(lu e=false∨∃elt gens scope pos,e= .ListComp elt gens scope pos)/\kY t e=false:=by
 have h1:=xq h
 have h2:=Bool.or_eq_false_iff.mp h1.1
 exact⟨h1.2,HA h2.2,h2.1⟩
theorem HD{t:Expr}{v:V}{k:Z->K}{res:V×Hp}{x:Str}{p:Pos}(ht:t= .Name x p)(h:gy r T sc vars t v k H=some res):(sc.names.lookup x=some .local∨sc.names.lookup x=some .cell)/\k (cZ vars x v) H=some res:=by
 subst ht
 exact ai (bg h) λhz h=>⟨xg hz,h⟩
theorem HE(O:c.Ok T)(he:SE c r.e)(hu:SU c r.e){t e:Expr}{pos:Pos}{kn kb:Z->K}{res:V×Hp}(A:At c env sc m ρ nw H s vars)(F:eV c env sc cs)(ci:gG cs nw)(hb:kY t e=false)(hc:lu e=false∨∃elt gens scope pos,e= .ListComp elt gens scope pos)
  (h:(r.e sc e vars λv=>gy r T sc vars t v kn) H=some res):wpAny (model c.prog c.w) c.A (exec (.Assign [t] e pos) env) (eo c env sc cs ρ nw kn kb res) E s:=by
 have plain:swapsWithSole [t] e pos.line env=pure false->wpAny (model c.prog c.w) c.A (exec (.Assign [t] e pos) env) (eo c env sc cs ρ nw kn kb res) E s:=λhsw=>by
  refine wpAny_Assign_stores (wpAny_mono (he E A h) (λv s₁ q=>?_) λ_ _ x=>x) hsw (Hz hb)
  obtain⟨v1,H1,ρ1,nw1,hv,S1,x1,e1⟩:=q
  have A1:=A.next S1 x1
  have go:wpAny (model c.prog c.w) c.A (assign t env v) (λ_ s'=>eo c env sc cs ρ nw kn kb res .next s') E s₁:=wpAny_mono (xh O he A1 F hv e1) (λ_ _ q=>Nx.trans (x1.xt A.st.rep S1.rep) q) λ_ _ x=>x
  cases t<;>first|exact go|(exact ak e1)
 rcases hc with hc|⟨elt,gens,scope,cpos,rfl⟩
 ·exact plain (xp hc)
 ·by_cases ht:∃x p,t= .Name x p
  ·refine ex2_1 (ht) λx p zq2=>?_;subst zq2
   have hsw:∃b,swapsWith (.ListComp elt gens scope cpos) (some (.Name x p)) pos.line env=pure b:=⟨_,rfl⟩
   refine ex1_1 (hsw) λb hsw=>?_
   cases b with
   |false=>exact plain hsw
   |true=>
    refine er (exec_Assign_Name_used _ _ _ _ hsw ..) ?_
    refine wpAny_bind (wpAny_standAt (wpAny_bind (wpAny_mono (hu (Q:=λs'=>Nx c env sc cs ρ nw kn res s') E A h λC D j ρ' nw' H' s' low S X CD hj e=>?_) (λ_ s' q=>wpAny_pure q) λ_ _ x=>x)))
    refine ai (HD rfl e) λhk e2=>?_
    have A1:=A.next S X
    refine wpAny_assign_Name (sw A1 F (.ref hj) hk λs2 m2 nw2 A2 x2=>?_)
    have X02:Xt c.K cs ρ nw ρ' nw2:=(X.xt A.st.rep S.rep).trans x2
    have hCc:C∉cs:=λhc=>by
     refine ex1_2 (ci C hc) λp hp e=>?_
     exact low p hp e
    obtain⟨oC,es,ep,h1,h2,h3,h4⟩:=CD
    refine ai (x2.keep _ h1 h2 hCc) λh1' h2'=>?_
    refine⟨nsFind es,pA A2.st.ns h1' h3 h4,λh' hs=>?_⟩
    have fC:cJ [C] ρ' nw2:=eU A2.st.rep.nodup h1' h2' (pS h3)
    refine ai (A2.st.drop h1' fC hs.extBut s2.toks) λS3 k3=>?_
    refine⟨m2,_,_,_,_,A2.kept F k3 fC (λa ha h=>?_) S3,X02.kept k3 fC (λp hp h=>?_),e2⟩
    ·rw[Ve]at h;exact hCc (h▸ha)
    ·rw[Ve]at h;exact low p hp h
  ·refine plain ?_
   cases t<;>first|rfl|exact absurd ⟨_,_,rfl⟩ ht
set_option tactic.hygienic true in
theorem HF(O:c.Ok T)(he:SE c r.e)(hb:SB c r.b)(hs:SS c r.s)(hu:SU c r.e):SS c (vL T r):=by
 intro m ρ nw H s env sc vars cs st kn kb res E A F ci h
 cases st<;>first|(exact ak h)|skip
 case Return o p=>
  cases o with
  |none=>
   have h2:res=(.none,H):=by cases h;rfl
   refine wpAny_Return_none ⟨m,ρ,nw,?_,?_,.refl⟩
   ·refine er (h2 ..) ?_;exact .none
   ·refine er (h2 ..) ?_;exact A.st
  |some e=>
   refine wpAny_Return_some (wpAny_mono (he E A h) (λv s₁ q=>?_) λ_ _ x=>x)
   obtain⟨v1,H1,ρ1,nw1,hv,S1,x1,e1⟩:=q
   have h2:res=(v1,H1):=by cases e1;rfl
   refine er (h2 ..) ?_
   exact⟨m,ρ1,nw1,hv,S1,x1.xt A.st.rep S1.rep⟩
 case Assign ts e p=>
  cases ts with
  |nil=>exact ak h
  |cons t ts=>
   cases ts with
   |cons _ _=>exact ak h
   |nil=>
    refine bK (HC h) λh1 h2 h3=>?_
    exact HE O he hu A F ci h3 h2 h1
 case For t i b oe p=>
  cases oe with
  |cons _ _=>exact ak h
  |nil=>exact Hx O he hs F A ci h
 case While t b oe p=>
  cases oe with
  |cons _ _=>exact ak h
  |nil=>exact Hs hb hs F A ci h
 case If t a b p=>
  refine wpAny_If (wpAny_mono (hb E A h) (λv s₁ q=>?_) λ_ _ x=>x)
  obtain⟨H1,ρ1,nw1,S1,x1,e1⟩:=q
  have A1:=A.next S1 x1
  have X1:Xt c.K cs ρ nw ρ1 nw1:=x1.xt A.st.rep S1.rep
  cases v with
  |true=>refine er (if_pos rfl ..) ?_;exact wpAny_mono (jY hs F a E A1 (ci.xt X1) e1) (λ_ _ q=>eo.trans X1 q) λ_ _ x=>x
  |false=>refine er (if_neg (by decide) ..) ?_;exact wpAny_mono (jY hs F b E A1 (ci.xt X1) e1) (λ_ _ q=>eo.trans X1 q) λ_ _ x=>x
 case Expr e p=>
  have hy:=xq (b:=rL e) (A:=UY) (B:=r.e sc e vars λv=>if am v then kn vars else UY) h
  have hx:lu e=false/\(r.e sc e vars λv=>if am v then kn vars else UY) H=some res:=⟨HB hy.1,hy.2⟩
  refine wpAny_Expr (wpAny_mono (he E A hx.2) (λv s₁ q=>?_) λ_ _ x=>x) (Hy A.ev) (xp hx.1)
  obtain⟨v1,H1,ρ1,nw1,hv,S1,x1,e1⟩:=q
  have N:kn vars H1=some res->eo c env sc cs ρ nw kn kb res .next s₁:=λe=>⟨m,vars,H1,ρ1,nw1,A.next S1 x1,x1.xt A.st.rep S1.rep,e⟩
  cases hv<;>first|exact N e1|(exact ak e1)
 case Pass p=>exact wpAny_Pass ⟨m,vars,H,ρ,nw,A,.refl,h⟩
 case Break p=>exact wpAny_Break ⟨m,vars,H,ρ,nw,A,.refl,h⟩
end
section
variable{c:Cx}{T:bf}{r:Lv}
@[elab_as_elim] theorem HG{P:Expr->Prop}{m:Str->Option Value}{H:Hp}{sc:Scope}{vars:Z}{f:Expr}{args:List Expr}{pos:Pos}{k:V->K}{res:V×Hp}(h:vH T r sc vars f args pos k H=some res)
  (h1:∀x p,cr args=true->rH T r sc vars x args k H=some res->P (.Name x p)) (h2:∀o n p,cr args=true->args.length<=20->rI T r sc vars o n p args pos k H=some res->P (.Attribute o n p)):P f:=by
 refine ai (iu h) λhg h=>?_
 simp only[WS,Bool.not_eq_false']at hg
 refine ai (pL hg) λns hn=>?_
 cases f<;>first|exact ak h|exact h1 _ _ ns h|exact h2 _ _ _ ns hn h
theorem HH(he:SE c r.e){m:Str->Option Value}{ρ:Ro}{nw:Nw}{H:Hp}{s:Shared}{E:Value->Shared->Prop}{env:Env}{sc:Scope}{vars:Z}{o i:Expr}{p:Pos}{k:V->K}{res:V×Hp}(A:At c env sc m ρ nw H s vars)(h:vI r sc vars o i k H=some res):wpAny (model c.prog c.w) c.A (eval (.Subscript o i p) env) (b_ c m ρ nw k res) E s:=by
 cases i<;>first|exact ak h|skip
 exact ai (wb h) λzq h=>zq▸Gp he A h
theorem xr{m:Str->Option Value}{H:Hp}{sc scope:Scope}{vars:Z}{elt:Expr}{gens:List Comprehension}{k:V->K}{res:V×Hp}(h:eS gens (vJ T r sc vars elt scope k) H=some res):∃x p iter ifs,gens=[⟨.Name x p,iter,ifs,0⟩]/\gY sc scope x=true/\(i4 T r sc vars iter λit=>cg it (λv k=>r.e scope elt (cZ vars x v) k) (jM r scope x ifs vars) k) H=some res:=by
 refine ex1_2 (gD h) λg e h=>?_
 refine ex1_2 (d5 h) λx hx h=>?_
 refine ai (bg h) λha h=>?_
 refine ai (bg h) λhok h=>?_
 refine ex1_1 (su hx) λp hp=>?_
 obtain⟨t,iter,ifs,a⟩:=g
 exact⟨x,p,iter,ifs,by refine er (e ..) ?_;congr,hok,h⟩
set_option tactic.hygienic true in
theorem HI(O:c.Ok T)(C:hF c T)(he:SE c r.e)(hb:SB c r.b):SE c (rJ T r):=by
 intro m ρ nw H s env sc vars e k res E A h
 cases e<;>first|(exact ak h)|skip
 case Constant cc a b=>exact Gb A h
 case Name x p=>exact ai (iu h) λhb h=>Gc O A (Bool.eq_false_iff.mpr hb) h
 case BoolOp op vs p=>refine er (arm_eval_BoolOp ..) ?_;exact wO he vs E A h
 case BinOp a op b p=>exact Gd O he A h
 case UnaryOp op x p=>cases op<;>first|exact ak h|exact Gj he A h|exact Gk he A h
 case IfExp t a b p=>exact Gg he hb A h
 case Dict ks vs p=>exact GH he A h
 case List es p=>exact ai (bg h) λhg h=>Gl he A hg h
 case Tuple es n p=>exact ai (bg h) λhg h=>Gm he A hg h
 case ListComp elt gens scope p=>exact ex4_3 (xr (m:=m) h) λx q iter ifs e hok h=>e▸Hq O he hb A hok h
 case Compare a ops bs p=>exact ex1_2 (gD h) λop e1 h=>ex1_2 (gD h) λb e2 h=>ai (iu h) λhm h=>e1▸e2▸Ge O he A (Bool.eq_false_iff.mpr hm) h
 case Call f args kws p=>
  cases kws with
  |cons _ _=>exact ak h
  |nil=>exact HG (m:=m) h (λx p ns h=>Gv O C he A ns h) λo n q ns hn h=>GD O C he A ns hn h
 case Attribute o n p=>exact ai (iu h) λhs h=>Gn O he A (Bool.eq_false_iff.mpr hs) h
 case Subscript o i p=>exact i9 (λ_ h=>HH he A h) (λhs h=>Go O he A (Bool.eq_false_iff.mpr hs) h) h
theorem HJ{m:Str->Option Value}{ρ:Ro}{nw:Nw}{H:Hp}{s:Shared}{E:Value->Shared->Prop}{env:Env}{sc:Scope}{vars:Z}{e:Expr}{k:Bool->K}{res:V×Hp}(he:SE c r.e)(A:At c env sc m ρ nw H s vars)(h:(r.e sc e vars λv=>UX (truthy v) k) H=some res)
  (ht:isTrue e env (eval e env)=(do let v←eval e env;standAt e.pos;holding [v] (PySem.truthy v))):wpAny (model c.prog c.w) c.A (isTrue e env (eval e env)) (jc c m ρ nw k res) E s:=by
 refine isTrue_plain (wpAny_mono (he E A h) (λv s₁ q=>?_) λ_ _ x=>x) ht
 obtain⟨v1,H1,ρ1,nw1,hv,S1,x1,e1⟩:=q
 obtain⟨q,hq,e2⟩:=bind_some e1
 refine ai (sg hq) λzq0 hq2=>?_
 refine Ez (zq0▸hv:VR c.K ρ1 nw1 (.bool q.1) v) ?_
 rw[hq2]at e2
 exact wpAny_truthy_bool ⟨H1,ρ1,nw1,S1,x1,e2⟩
set_option tactic.hygienic true in
theorem HK(O:c.Ok T)(he:SE c r.e)(hb:SB c r.b):SB c (vK r):=by
 intro m ρ nw H s env sc vars e k res E A h
 cases e<;>first|exact HJ he A h rfl|(exact ak h)|skip
 case BoolOp op vs p=>refine er (arm_isTrue_BoolOp ..) ?_;exact wP hb vs E A h
 case UnaryOp op x p=>cases op<;>first|exact ak h|exact Gi hb A h
 case IfExp t a b p=>exact Gh hb A h
 case Compare a ops bs p=>exact ex1_2 (gD h) λop e1 h=>ex1_2 (gD h) λb e2 h=>ai (iu h) λhm h=>e1▸e2▸Gf O he A (Bool.eq_false_iff.mpr hm) h
theorem HL(O:c.Ok T)(he:SE c r.e)(hb:SB c r.b):SU c (rJ T r):=by
 intro m ρ nw H s env sc vars elt gens scope p k res use Q E A h fin
 refine ex4_3 (xr (m:=m) h) λx q iter ifs e hok h=>?_
 refine er (e ..) ?_
 exact wpAny_bind (wpAny_mono (xn (use:=some use) (Q:=λ_ s'=>Q s') O he hb A hok h λC D j ρ' nw' H' s' low S X CD hj e=>fin C D j ρ' nw' H' s' low S X CD hj e) (λ_ _ q=>wpAny_pure q) λ_ _ x=>x)
theorem sE(O:c.Ok T)(C:hF c T):∀n,SE c (lv T n).e/\SB c (lv T n).b/\SS c (lv T n).s/\SU c (lv T n).e
 |0=>by
  refine⟨?_,?_,?_,?_⟩
  ·intro m ρ nw H s env sc vars e k res E A h;exact ak h
  ·intro m ρ nw H s env sc vars e k res E A h;exact ak h
  ·intro m ρ nw H s env sc vars cs st kn kb res E A F ci h;exact ak h
  ·intro m ρ nw H s env sc vars elt gens scope p k res use Q E A h;exact ak h
 |n+1=>
  let⟨he,hb,hs,hu⟩:=sE O C n
  ⟨HI O C he hb,HK O he hb,HF O he hb hs hu,HL O he hb⟩
end
theorem lw{α:Type}{x:Str}:∀{l:List (Str×α)},(l.lookup x).isNone=true↔x∉l.map (·.1)
 |[]=>by simp
 |(y,v)::l=>by
  rw[Vg,Vi,WP]
  cases hx:x==y with
  |true=>
   have:x=y:=by simpa using hx
   simp[this]
  |false=>
   have:x≠y:=by simpa using hx
   simp only[this,false_or]
   exact lw
noncomputable def hP(x:Str×Value)(cs:List (Str×Value)):List (Str×Value):=if(cs.lookup x.1).isNone=true then cs++[(x.1,x.2)]else cs
theorem xu:∀(l cs:List (Str×Value)),(∀x∈l,x.1∈cs.map (·.1))->l.foldl (λc x=>hP x c) cs=cs
 |[],_,_=>rfl
 |x::l,cs,h=>by
  have h1:¬(cs.lookup x.1).isNone=true:=by rw[lw];simpa using h x (U3 ..)
  rw[WE,hP,if_neg h1]
  exact xu l cs λy hy=>h y (U7 _ hy)
theorem xv:∀(l cs:List (Str×Value)),(∀x∈l,x.1∉cs.map (·.1))->(l.map (·.1)).Nodup->l.foldl (λc x=>hP x c) cs=cs++l
 |[],_,_,_=>by simp
 |x::l,cs,h,nd=>by
  have h1:(cs.lookup x.1).isNone=true:=by rw[lw];exact h x (U3 ..)
  rw[WE,hP,if_pos h1]
  rw[Vi,VV]at nd
  rw[xv l _ (λy hy=>?_) nd.2]
  ·simp
  ·rw[VW,WX]
   rintro (h2|h2)
   ·exact h y (U7 _ hy) h2
   ·simp at h2
    exact nd.1 (h2▸V4 hy)
theorem xw:∀(names:List Str) (ws:List Value),names.Nodup->ws.length=names.length->names.filterMap (λn=>((names.zip ws).lookup n).map λv=>(n,v))=names.zip ws
 |[],ws,_,h=>by simp
 |a::r,[],_,h=>by simp at h
 |a::r,w::ws,nd,h=>by
  rw[VV]at nd
  refine er (W8 ..) (er (W5 ..) ?_)
  have h0:(W7 a ((a,w)::r.zip ws))=some w:=by refine er (Vg ..) ?_;simp
  refine er (h0 ..) ?_
  dsimp only[WU]
  congr 1
  have cong:∀(l:List Str),(∀n∈l,n≠a)->l.filterMap (λn=>(W7 n ((a,w)::r.zip ws)).map λv=>(n,v))=l.filterMap λn=>((r.zip ws).lookup n).map λv=>(n,v):=by
   intro l
   induction l with
   |nil=>intro _;rfl
   |cons n l ih=>
    intro hl
    have hn:(n==a)=false:=by simpa using hl n (U3 ..)
    rw[W5,W5,ih λm hm=>hl m (U7 _ hm),Vg,hn]
  exact(cong r λn hn e=>nd.1 (e▸hn)).trans (xw r ws nd.2 (by simpa using h))
theorem m9{α β:Type}:∀(names:List α) (ws:List β),(names.zip ws).map (·.1)=names.take ws.length
 |[],_=>by simp
 |a::r,[]=>by simp
 |a::r,w::ws=>by simp[m9 r ws]
theorem HM{a b c:Nat}(h1:b<=a)(h2:a<=b+c)(h3:c<=a):b-(a-c)=c-(a-b):=by
 obtain⟨x,rfl⟩:=Nat.le.dest h1
 obtain⟨y,rfl⟩:=Nat.le.dest (Xf h2)
 refine er (Vz ..) (er (Vz ..) (er (XC b x ..) (er (Nat.add_sub_add_left ..) (er ((XK (Xf (XC b x▸h3))) ..) rfl))))
theorem xy{a b c:Nat}(h2:a<=b+c):c-(c-(a-b))=a-b:=XK (Nat.sub_le_iff_le_add'.mpr h2)
theorem HN{n1 n2 n3:List Str}{vs d1 d2:List Value}(hs:∀x∈n3,x∈n1)(l1:n3.length=d1.length)(lv:n1.length=vs.length)(l2:n2.length=d2.length)(nd:(n1++n2).Nodup):((n3++n2).zip (d1++d2)).foldl (λc x=>hP x c) ((n1++n2).zip vs)=(n1++n2).zip (vs++d2):=by
 have z1:(n1++n2).zip vs=n1.zip vs:=by
  have:=Xi (r₁:=n2) (r₂:=([]:List Value)) lv
  simpa using this
 have k1:(n1.zip vs).map (·.1)=n1:=by refine er (m9 ..) (el (lv ..) (er (VX ..) rfl))
 have e1:=xu (n3.zip d1) (n1.zip vs) λx hx=>by refine er (k1 ..) ?_;exact hs _ (WV hx).1
 refine er (Xi l1 ..) (er (Xi lv ..) (er (z1 ..) (er (Xd ..) (er (e1 ..) ?_))))
 refine xv _ _ (λx hx=>?_) ?_
 ·refine er (k1 ..) ?_
  exact λh=>(List.nodup_append.mp nd).2.2 _ h _ (WV hx).1 rfl
 ·refine er (m9 ..) (el (l2 ..) (er (VX ..) ?_))
  exact(List.nodup_append.mp nd).2.1
section
variable{vs ds:List Value}{names:List Str}
theorem HO(nd:names.Nodup)(h1:vs.length<=names.length)(h2:names.length<=vs.length+ds.length)(h3:ds.length<=names.length):((names.drop (names.length-ds.length)).zip ds).foldl (λc x=>hP x c) (names.zip vs)=names.zip (vs++ds.drop (ds.length-(names.length-vs.length))):=by
 have e:=HN (n1:=names.take vs.length) (n2:=names.drop vs.length) (n3:=(names.take vs.length).drop (names.length-ds.length)) (vs:=vs) (d1:=ds.take (ds.length-(names.length-vs.length))) (d2:=ds.drop (ds.length-(names.length-vs.length))) (λx hx=>VI hx) (by refine er (Wz ..) (er (Wr h1 ..) (er (Wr (Nat.sub_le ..) ..) ?_));exact HM h1 h2 h3) (Wr h1) (by refine er (Wz ..) (er (Wz ..) (er (xy h2 ..) rfl))) (by refine er (Ww ..) ?_;exact nd)
 rwa[←V3 (by refine er (Wr h1 ..) ?_;exact Nat.sub_le_iff_le_add.mpr h2),Ww,Ww]at e
theorem HP(h2:names.length<=vs.length+ds.length):(names.take (names.length-ds.length)).filter (λn=>((names.zip vs).lookup n).isNone)=[]:=by
 rw[List.filter_eq_nil_iff]
 intro n hn
 rw[lw,m9,Classical.not_not]
 exact VH (i:=names.length-ds.length) (by refine er (XX ..) (er (Wk (Nat.sub_le_iff_le_add.mpr h2) ..) ?_);exact hn)
theorem HQ(l:List (Str×Value))(cs:List (Str×Value)):(forIn l cs λ(x:Str×Value) (__s:List (Str×Value))=>(if(W7 x.fst __s).isNone=true then pure (ForInStep.yield (__s++[(x.fst,x.snd)]))else pure (ForInStep.yield __s):Sem (ForInStep (List (Str×Value)))))=pure (l.foldl (λc x=>hP x c) cs):=
 sx hP l cs λx _ c=>by unfold hP;split<;>rfl
theorem HR{s:Shared}{fd:FuncData}{args:Args}{ds:List Value}{k:Option (Array Value)->Sem (List (Str×Value))}{binds:List (Str×Value)}(h1:bindArgs fd args=seqItems? fd.defaults>>=k)
  (hd:∀(M:Model) (A:Around) (E:Value->Shared->Prop) (Q:Option (Array Value)->Shared->Prop),(∀o,(o.getD #[]).toList=ds->Q o s)->wpAny M A (seqItems? fd.defaults) Q E s)
  (h2:∀o,(o.getD #[]).toList=ds->k o=pure binds):BindsTo s fd args binds:=by
 intro M A E Q hq
 refine er (h1 ..) ?_
 refine wpAny_bind (hd _ _ _ _ λo ho=>?_)
 refine er (h2 o ho ..) ?_
 exact wpAny_pure hq
theorem HS{l:List Value}(e:l=ds)(h2:names.length<=vs.length+ds.length)(h3:ds.length<=names.length):¬(!((names.take (names.length-(l.drop (l.length-names.length)).length)).filter λn=>((names.zip vs).lookup n).isNone).isEmpty)=true:=by
 refine er (e ..) (er (Xm h3 ..) (er (XZ ..) (er (HP h2 ..) ?_)));exact V7
theorem HT{l:List Value}(e:l=ds)(nd:names.Nodup)(h1:vs.length<=names.length)(h2:names.length<=vs.length+ds.length)(h3:ds.length<=names.length):
  (names++[]).filterMap (λn=>((((names.drop (names.length-(l.drop (l.length-names.length)).length)).zip (l.drop (l.length-names.length))).foldl (λc x=>hP x c) (names.zip vs)).lookup n).map λv=>(n,v))=names.zip (vs++ds.drop (ds.length-(names.length-vs.length))):=by
 refine er (e ..) (er (Xm h3 ..) (er (XZ ..) (er (HO nd h1 h2 h3 ..) (er (Vj ..) ?_))))
 exact xw names _ nd (by refine er (Vs ..) (er (Wz ..) (er (xy h2 ..) (er (Xx h1 ..) rfl))))
end
theorem bc{α β:Type}{m:Sem α}{a:α}{f:α->Sem β}{r:Sem β}(h:m=pure a)(h2:f a=r):m>>=f=r:=by refine er (h ..) ?_;exact h2
theorem xz{s:Shared}{fd:FuncData}{vs ds:List Value}{names:List Str}(hp:fd.params.posonlyargs=[])(ha:fd.params.args.map (·.arg)=names)(hk:fd.params.kwonlyargs=[])(hv:fd.params.vararg=none)(hkw:fd.params.kwarg=none)(nd:names.Nodup)
  (hd:∀(M:Model) (A:Around) (E:Value->Shared->Prop) (Q:Option (Array Value)->Shared->Prop),(∀o,(o.getD #[]).toList=ds->Q o s)->wpAny M A (seqItems? fd.defaults) Q E s)
  (h1:vs.length<=names.length) (h2:names.length<=vs.length+ds.length) (h3:ds.length<=names.length):
  BindsTo s fd ⟨vs,[]⟩ (names.zip (vs++ds.drop (ds.length-(names.length-vs.length)))):=by
 obtain⟨n0,q0,⟨po,ar,va,ko,kd,ka,df⟩,b0,s0,g0,c0,d0,k0⟩:=fd
 cases hp;cases hk;cases hv;cases hkw;subst ha
 refine HR rfl hd λo ho=>(if_neg λh=>absurd (of_decide_eq_true ((U2 _ _).mp h).1) (Nat.not_lt.mpr h1)).trans ((if_neg (HS ho h2 h3)).trans (bc (HQ _ _) ?_))
 exact congrArg (pure (f:=Sem)) (HT ho nd h1 h2 h3)
noncomputable def xA(K:Frag)(dV:Value)(ds:List V):Prop:=(dV= .none/\ds=[])∨∃T items n,dV= .ref T/\K.lookup T=some ⟨.type "tuple",none,.seq items.toArray n, #[]⟩/\VRs K [] [] ds items
structure pV(K:Frag)(f:aE):Prop where
 ex:∃oc od osl dV kV doc pm an cdv ct,K.lookup f.addr=some ⟨oc,od,.func (fnX f.name f.qual f.params f.body f.scope [] dV kV doc pm an cdv ct),osl⟩/\codeIn K cdv f.qual=true/\xA K dV f.dvals
 keep:keepIn K (.ref f.addr)=true
structure pW(f:aE):Prop where
 po:f.params.posonlyargs=[]
 kw:f.params.kwonlyargs=[]
 va:f.params.vararg=none
 ka:f.params.kwarg=none
 nd:(f.params.args.map (·.arg)).Nodup
 co:f.scope.isCoroutine=false
 ge:f.scope.isGenerator=false
 ki:f.scope.kind= .function
 ds:f.dvals.length<=(f.params.args.map (·.arg)).length
 cn:((cellsFrom 0 f.scope.names []).map (·.1)).Nodup
 pk:∀x∈f.params.args.map (·.arg),f.scope.names.lookup x=some .local∨f.scope.names.lookup x=some .cell
 nf:∀y∈f.scope.names,y.2≠ .free
theorem sF{x:Str}:∀(names:List (Str×NameKind)) (n:Nat) (acc:List (Str×Addr)),(∃a,acc.lookup x=some a)∨(x,NameKind.cell)∈names->∃a,(cellsFrom n names acc).lookup x=some a
 |[],n,acc,h=>by
  rcases h with h|h
  ·exact h
  ·cases h
 |(y,k)::r,n,acc,h=>by
  unfold cellsFrom
  split
  ·rename_i hk
   refine sF r (n+1) _ ?_
   by_cases hxy:x=y
   ·left;exact⟨n,by refine er (Vg ..) (er (hxy ..) ?_);simp⟩
   ·rcases h with⟨a,h⟩|h
    ·left
     have:(x==y)=false:=by simpa using hxy
     exact⟨a,by refine er (Vg ..) (er (this ..) ?_);exact h⟩
    ·rcases List.mem_cons.mp h with h|h
     ·cases h;exact absurd rfl hxy
     ·exact .inr h
  ·rename_i hk
   refine sF r n acc ?_
   rcases h with h|h
   ·exact .inl h
   ·rcases List.mem_cons.mp h with h|h
    ·cases h;exact absurd rfl hk
    ·exact .inr h
theorem sG:∀(names:List (Str×NameKind)) (n:Nat) (acc:List (Str×Addr)) (lo:Nat),lo<=n->(∀y∈acc,lo<=y.2/\y.2<n)->(acc.Pairwise λx y=>x.2≠y.2)->((cellsFrom n names acc).Pairwise λx y=>x.2≠y.2)/\∀y∈cellsFrom n names acc,lo<=y.2
 |[],n,acc,lo,_,h,hp=>⟨hp,λy hy=>(h y hy).1⟩
 |(y,k)::r,n,acc,lo,hlo,h,hp=>by
  unfold cellsFrom
  split
  ·refine sG r (n+1) _ lo (Vx hlo) (λz hz=>?_) (List.pairwise_cons.mpr ⟨λz hz=>?_,hp⟩)
   ·rcases List.mem_cons.mp hz with rfl|hz
    ·exact⟨hlo,WQ n⟩
    ·exact⟨(h z hz).1,Xa (h z hz).2⟩
   ·exact WH (h z hz).2
  ·exact sG r n acc lo hlo h hp
theorem xB{cm:Str->Option Value}{cs:List (Str×Addr)}{cells:Nw}(h:CellsAre cm cs cells){x:Str}{a:Addr}(e:cs.lookup x=some a):∃o,(a,o)∈cells/\o.data= .cell (cm x):=by
 induction h with
 |nil=>exact ak e
 | @cons n c o cs cells hd _ ih=>
  simp only[Vg]at e
  cases hx:x==n with
  |true=>
   rw[hx]at e;cases e
   have:x=n:=by simpa using hx
   subst this
   exact⟨o,U3 ..,hd⟩
  |false=>
   rw[hx]at e
   refine ex1_2 (ih e) λo' h1 h2=>?_
   exact⟨o',U7 _ h1,h2⟩
theorem HU{cm:Str->Option Value}{cs:List (Str×Addr)}{cells:Nw}(h:CellsAre cm cs cells):cells.map (·.1)=cs.map (·.2):=by
 induction h with
 |nil=>rfl
 |cons _ _ ih=>simp[ih]
theorem xC{kind:Str->Option NameKind}{x:Str}:∀(binds:List (Str×Value)) (m:Str->Option Value),(binds.map (·.1)).Nodup->kind x=some .local->bindL kind binds m x=(binds.lookup x).or (m x)
 |[],m,_,_=>by simp[bindL]
 |(n,v)::r,m,nd,hk=>by
  rw[Vi,VV]at nd
  unfold bindL
  refine er (xC r _ nd.2 hk ..) (er (Vg ..) ?_)
  cases hx:x==n with
  |true=>
   have hxn:x=n:=by simpa using hx
   subst hxn
   have:r.lookup x=none:=by
    have:=(lw (x:=x) (l:=r)).mpr nd.1
    simpa using this
   refine er (this ..) (er (if_pos hk ..) ?_);simp
  |false=>
   have hxn:x≠n:=by simpa using hx
   cases r.lookup x with
   |some w=>rfl
   |none=>
    dsimp only[XW]
    split
    ·simp[hxn]
    ·rfl
theorem xD{kind:Str->Option NameKind}{x:Str}:∀(binds:List (Str×Value)) (m:Str->Option Value),(binds.map (·.1)).Nodup->kind x≠some .local->bindC kind binds m x=(binds.lookup x).or (m x)
 |[],m,_,_=>by simp[bindC]
 |(n,v)::r,m,nd,hk=>by
  rw[Vi,VV]at nd
  unfold bindC
  refine er (xD r _ nd.2 hk ..) (er (Vg ..) ?_)
  cases hx:x==n with
  |true=>
   have hxn:x=n:=by simpa using hx
   subst hxn
   have:r.lookup x=none:=by
    have:=(lw (x:=x) (l:=r)).mpr nd.1
    simpa using this
   refine er (this ..) (er (if_neg hk ..) ?_);simp
  |false=>
   have hxn:x≠n:=by simpa using hx
   cases r.lookup x with
   |some w=>rfl
   |none=>
    dsimp only[XW]
    split
    ·rfl
    ·simp[hxn]
theorem HV{K:Frag}{ρ:Ro}{nw:Nw}{x:Str}:∀{names:List Str}{vs:List V}{vs':List Value},VRs K ρ nw vs vs'->∀{v:V},(names.zip vs).lookup x=some v->∃v',(names.zip vs').lookup x=some v'/\VR K ρ nw v v':=by
 intro names vs vs' h v
 refine VRs.ind (P:=λvs vs'=>∀names:List Str,(names.zip vs).lookup x=some v->∃v',(names.zip vs').lookup x=some v'/\VR K ρ nw v v') (λnames h=>?_) (λ{w w' _ _} hv _ ih names=>?_) h names
 ·rw[List.zip_nil_right]at h;exact ak h
 ·cases names with
  |nil=>exact λh=>ak h
  |cons n r=>
   refine er (W8 ..) (er (W8 ..) (er (Vg ..) (er (Vg ..) ?_)))
   cases x==n with
   |true=>exact λh=>⟨w',rfl,Option.some.inj h▸hv⟩
   |false=>exact ih r
theorem xE{g:Str->Option V}{x:Str}:∀(l:List (Str×NameKind)),x∈l.map (·.1)->f8 (l.map λy=>(y.1,g y.1)) x=g x
 |[],h=>by cases h
 |y::l,h=>by
  refine er (Vi ..) ?_
  unfold f8
  by_cases e:y.1=x
  ·refine er (if_pos e ..) ?_;exact e▸rfl
  ·refine er (if_neg e ..) ?_
   refine xE l ?_
   rw[Vi,WP]at h
   rcases h with h|h
   ·exact absurd h.symm e
   ·exact h
theorem xF(sc:Scope)(bs:List (Str×V))(x:Str)(h:oT (sc.names.lookup x)=true):f8 (kZ sc bs) x=bs.lookup x:=by
 unfold kZ
 refine xE (g:=λz=>bs.lookup z) _ ?_
 cases hk:sc.names.lookup x with
 |none=>rw[hk]at h;cases h
 |some k=>
  rw[hk]at h
  exact List.mem_map.mpr ⟨(x,k),List.mem_filter.mpr ⟨hO hk,h⟩,rfl⟩
noncomputable abbrev Cx.into(c:Cx)(A:Around)(env:Env)(L:Addr)(g:Heap):Cx:={c with A:=A.deeper env,A₀:=A,outer:=c.fenv::c.outer,fenv:=env,L:=L,h₀:=g}
section
variable{c:Cx}{T:bf}{m:Str->Option Value}{ρ:Ro}{nw:Nw}{H:Hp}{s:Shared}
theorem HW{f:aE}{A:Around}{R:Result->Shared->Prop}{vs:List V}{vs':List Value}{r:V×Hp}(O:c.Ok T)(fi:pV c.K f)(fo:pW f)(hA:A.frames=some (c.fenv::c.outer))(hh:A.handled=none)(hroom:A.depth<recursionLimit)(hun:A.units+3<=9700)
  (calls:∀env L g,(c.into A env L g).Ok T->hF (c.into A env L g) T)
  (S:St c m ρ nw H s) (hv:VRs c.K ρ nw vs vs') (h:iA T f vs H=some r) (hR:∀v s',Pv c m ρ nw r v s'->R (.ok (.ret v)) s'):
  codeAny (model c.prog c.w) A (.call (.ref f.addr) ⟨vs',[]⟩) R s:=by
 refine ex10_3 (fi.ex) λoc od osl dV kV doc pm an cdv ct ho hcd hD=>?_
 unfold iA at h
 cases hb:rM (f.params.args.map (·.arg)) vs f.dvals with
 |none=>rw[hb]at h;exact ak h
 |some bs=>
 rw[hb]at h
 unfold rM at hb
 refine bZ λgP gh=>?_
 refine ai (eP hb) λhlen hb=>?_
 refine bK (hlen) λl1 l2 l3=>?_
 obtain rfl:=Option.some.inj hb
 refine gh ?_;clear gh gP
 have lv:vs'.length=vs.length:=hv.length
 refine bZ λgP gh=>?_
 obtain⟨ds',hds,hdv⟩:∃ds':List Value,VRs c.K ρ nw f.dvals ds'/\∀(M:Model) (A:Around) (E:Value->Shared->Prop) (Q:Option (Array Value)->Shared->Prop),(∀o:Option (Array Value),(o.getD #[]).toList=ds'->Q o s)->wpAny M A (seqItems? dV) Q E s:=by
  rcases hD with⟨rfl,hd⟩|⟨T0,items,n,rfl,hl,hs⟩
  ·exact⟨[],by refine er (hd ..) ?_;exact .nil,λM A E Q hq=>wpAny_pure (hq none rfl)⟩
  ·refine⟨items,hs.mono ⟨λk p h=>by simp at h,λa items h=>?_⟩,λM A E Q hq=>wpAny_seqItems (mS O S hl) rfl (hq _ rfl)⟩
   rcases h with⟨h,_⟩|h
   ·cases h
   ·exact .inr h
 refine gh ?_;clear gh gP
 have ldl:ds'.length=f.dvals.length:=hds.length
 have hbind:=xz (s:=s) (fd:=fnX f.name f.qual f.params f.body f.scope [] dV kV doc pm an cdv ct) (vs:=vs') (ds:=ds') fo.po rfl fo.kw fo.va fo.ka fo.nd hdv (by refine er (lv ..) ?_;exact l1) (by refine er (lv ..) (er (ldl ..) ?_);exact l2) (by refine er (ldl ..) ?_;exact l3)
 have hvv:VRs c.K ρ nw (vs++f.dvals.drop (f.dvals.length-((f.params.args.map (·.arg)).length-vs.length))) (vs'++ds'.drop (ds'.length-((f.params.args.map (·.arg)).length-vs'.length))):=by
  refine er (ldl ..) (er (lv ..) ?_);exact hv.append (hds.drop _)
 generalize hn:f.params.args.map (·.arg)=names at*
 generalize hws:vs++f.dvals.drop (f.dvals.length-(names.length-vs.length))=ws at*
 generalize hws':vs'++ds'.drop (ds'.length-(names.length-vs'.length))=ws' at*
 have nb:((names.zip ws').map (·.1)).Nodup:=by
  simp only[m9]
  exact List.Sublist.nodup (Xc ..) (hn▸fo.nd)
 have cl2:∀n x,f.scope.names.lookup x=some .cell->∃a,(cellsFrom n f.scope.names []).lookup x=some a:=λn x hx=>sF _ n [] (.inr (hO hx))
 refine callX_cells O.B S.fr S.ns O.nolimit hA O.hf O.hk (mS O S ho) rfl (codeRec_of (O.X.keeps S.fr.keep) hcd) hroom hbind (λn x hx=>?_) fo.cn (λg L' h₁ tk cells FG F1 N1 CA B1 st lowL=>?_) fo.co fo.ge fo.ki
 ·have hx':x.1∈names:=(WV hx).1
  rcases fo.pk x.1 (hn▸hx')with h|h
  ·exact .inl h
  ·refine ex1_1 (cl2 n x.1 h) λa ha=>?_
   exact .inr ⟨h,by refine er (ha ..) ?_;rfl⟩
 refine ai (sG f.scope.names (L'+1) [] (L'+1) (Vf _) (λ_ h=>by cases h) .nil) λap lo=>?_
 have keys:cells.map (·.1)=(cellsFrom (L'+1) f.scope.names []).map (·.2):=HU CA
 have cbig:∀p∈cells,L'+1<=p.1:=λp hp=>by
  have:p.1∈(cellsFrom (L'+1) f.scope.names []).map (·.2):=keys▸V4 hp
  refine ex1_2 (List.mem_map.mp this) λq hq e=>?_
  exact e▸lo q hq
 have fresh:∀p∈cells,∀q∈nw,q.1≠p.1:=λp hp q hq=>VB (Vq (Xa (lowL q hq)) (cbig p hp))
 have cnd:(cells.map (·.1)).Nodup:=by
  simp only[keys]
  exact List.pairwise_map.mpr ap
 have O':(c.into A (envOfC f.qual f.scope L' f.addr cdv) L' g).Ok T:=by
  refine⟨B1,O.X.keeps st,O.g.keeps st,O.b.keeps st,O.nolimit.keeps st,O.builtins,Around.frames_deeper hA,rfl,fo.ki,hh,?_,hun,O.K⟩
  refine ex1_1 (O.mods) λo ho=>?_
  exact⟨o,st _ _ ho⟩
 refine kJ (sE O' (calls _ _ _ O') 24) λhe hbb hs hu=>?_
 have R1:=S.rep.more cells fresh cnd
 have X1:aG ρ nw ρ (cells++nw):=aG.more cells fresh
 have S1:St (c.into A (envOfC f.qual f.scope L' f.addr cdv) L' g) (bindL (envOfC f.qual f.scope L' f.addr cdv).kindOf (names.zip ws') λ_=>none) ρ (cells++nw) H {s with heap:=h₁,toks:=tk}:=⟨F1,N1,R1,S.g,S.d,S.o⟩
 have ownc:∀p∈cells,¬bA ρ p.1:=λp hp h=>by
  rcases S.rep.owned h with⟨_,_,h⟩|⟨_,_,h⟩|⟨_,_,h⟩<;>exact fresh p hp _ h rfl
 have A1:At (c.into A (envOfC f.qual f.scope L' f.addr cdv) L' g) (envOfC f.qual f.scope L' f.addr cdv) f.scope (bindL (envOfC f.qual f.scope L' f.addr cdv).kindOf (names.zip ws') λ_=>none) ρ (cells++nw) H {s with heap:=h₁,toks:=tk} (kZ f.scope (names.zip ws)):=by
  refine⟨S1,⟨rfl,rfl,fo.ki,λ_ h=>h,λx h=>h,λ_ h=>h⟩,λx v hx=>?_,λx hx=>?_⟩
  ·unfold ef at hx
   split at hx
   ·rename_i hl
    rw[xF _ _ _ (by rw[U2]at hl;exact hl.1)]at hx
    refine ex1_2 (HV (names:=names) hvv hx) λv' h1 h2=>?_
    refine⟨v',h2.ext X1,?_⟩
    have hm:x∈names:=by
     have:=hO h1
     exact(WV this).1
    rcases fo.pk x (hn▸hm)with hk|hk
    ·left
     refine⟨hk,rfl,?_⟩
     refine er (xC _ _ nb hk ..) (er (h1 ..) ?_);rfl
    ·right;right
     refine ex1_1 (cl2 (L'+1) x hk) λa ha=>?_
     refine ex1_2 (xB CA ha) λo h3 h4=>?_
     refine⟨.inl hk,a,o,ha,VD _ h3,ownc _ h3,?_⟩
     refine er (h4 ..) (er (xD _ _ nb (by refine er ((show(envOfC f.qual f.scope L' f.addr cdv).kindOf x=some .cell from hk) ..) ?_;decide) ..) (er (h1 ..) ?_));rfl
   ·exact ak hx
  ·rcases m7 hx with hk|hk
   ·refine ex1_1 (cl2 (L'+1) x hk) λa ha=>?_
    refine ex1_2 (xB CA ha) λo h3 h4=>?_
    exact⟨a,o,_,ha,VD _ h3,ownc _ h3,h4⟩
   ·exact absurd rfl (fo.nf _ (hO hk))
 have FO:eV (c.into A (envOfC f.qual f.scope L' f.addr cdv) L' g) (envOfC f.qual f.scope L' f.addr cdv) f.scope ((cellsFrom (L'+1) f.scope.names []).map (·.2)):=by
  refine⟨rfl,λx y a hx hy=>name_of_addr ap (mem_of_lookup hx) (mem_of_lookup hy),λx a hx=>?_,λ_ h=>h⟩
  exact List.mem_map.mpr ⟨(x,a),mem_of_lookup hx,rfl⟩
 have CI:gG ((cellsFrom (L'+1) f.scope.names []).map (·.2)) (cells++nw):=λa ha=>by
  rw[←keys]at ha
  refine ex1_2 (List.mem_map.mp ha) λp hp e=>?_
  exact⟨p,VD _ hp,e⟩
 have back:∀{ρ':Ro}{nw':Nw},Xt c.K ((cellsFrom (L'+1) f.scope.names []).map (·.2)) ρ (cells++nw) ρ' nw'->aG ρ nw ρ' nw':=λx=>⟨x.ro,λp hp hn=>x.keep p (VM _ hp) hn λhc=>by
  rw[←keys]at hc
  refine ex1_2 (List.mem_map.mp hc) λq hq e=>?_
  exact fresh q hq p hp e.symm⟩
 refine wpAny_mono (jY hs FO f.body _ A1 CI h) (λfl s' q=>?_) λ_ _ x=>x
 cases fl with
 |next=>
  obtain⟨m',vars',H',ρ',nw',A',x,e⟩:=q
  have e2:=bW e
  refine⟨L',m',nw',A'.st.fr,A'.st.ns,λF' N'=>hR _ _ ⟨ρ',nw',?_,?_,back x⟩⟩
  ·refine er (e2 ..) ?_;exact .none
  ·refine er (e2 ..) ?_;exact⟨F',N',A'.st.rep,A'.st.g,A'.st.d,A'.st.o⟩
 |brk=>obtain⟨m',vars',H',ρ',nw',A',x,e⟩:=q;exact ak e
 |cont=>exact q.elim
 |ret v=>
  refine bZ λgP gh=>?_
  obtain⟨m',ρ',nw',hvr,S',x⟩:=q
  refine gh ?_;clear gh gP
  exact⟨L',m',nw',S'.fr,S'.ns,λF' N'=>hR _ _ ⟨ρ',nw',hvr,⟨F',N',S'.rep,S'.g,S'.d,S'.o⟩,back x⟩⟩
end
noncomputable abbrev Cl:=Addr->List V->M V
def TT(cl:Cl):bf:=⟨gz,eH,cl⟩
def m_(a:Addr):Option aE:=eI.find? λf=>decide (f.addr=a)
noncomputable def cF:Nat->Cl
 |0=>λ_ _=>UY
 |n+1=>λa vs=>match m_ a with
  |some f=>iA (TT (cF n)) f vs
  | .none=>UY
noncomputable abbrev jp{α β:Type}(x:α)(f:α->β):β:=f x
noncomputable abbrev S(x:String):Str:=Str.ofString x
set_option backward.match.sparseCases false in
noncomputable def lx:Stmt->Nat->List Stmt
 | .For _ _ b _ _,0=>b
 | .While _ b _ _,0=>b
 | .If _ a _ _,0=>a
 | .If _ _ b _,1=>b
 |_,_=>[]
noncomputable def ba:List Stmt->List Nat->Stmt
 |ss,[i]=>(ss[i]?).getD (.Pass default)
 |ss,i::w::p=>ba (lx ((ss[i]?).getD (.Pass default)) w) p
 |_,_=> .Pass default
set_option backward.match.sparseCases false in
def ca(T:bf)(n:Nat)(sc:Scope)(st:Stmt):V->Z->(Z->K)->(Z->K)->K:=match st with
 | .For t _ b _ _=>λv vars kn kb=>gy (lv T n) T sc vars t v λvars'=>eF (lv T n) sc b vars' kn kb
 |_=>λ_ _ _ _=>UY
set_option backward.match.sparseCases false in
def hU(T:bf)(n:Nat)(sc:Scope)(st:Stmt):Z->(Bool->K)->K:=match st with
 | .While t _ _ _=>λvars k=>(lv T n).b sc t vars k
 |_=>λ_ _=>UY
set_option backward.match.sparseCases false in
def hV(T:bf)(n:Nat)(sc:Scope)(st:Stmt):Z->(Z->K)->(Z->K)->K:=match st with
 | .While _ b _ _=>λvars kn kb=>eF (lv T n) sc b vars kn kb
 |_=>λ_ _ _=>UY
def ly(test:Z->(Bool->K)->K)(run:Z->(Z->K)->(Z->K)->K)(k:Z->K)(vars:Z):K:=λH=>kW test run k (mI H+2) vars H
def bB(T:bf)(n:Nat)(sc:Scope)(ss:List Stmt)(i:Nat)(vars:Z)(kn kb:Z->K):K:=eF (lv T n) sc (ss.drop i) vars kn kb
def bH:Z->K:=λ_=>UZ .none
def bI:Z->K:=λ_=>UY
noncomputable def ng(a0 a1 a2 a3:Option V):Z:=[(S "self",a0),(S "node",a1),(S "name",a2),(S "pair",a3)]
noncomputable def vs1(a0 a1 a2 a3:Option V):Z:=[(S "tree",a0),(S "node",a1),(S "out",a2),(S "up",a3)]
noncomputable def nh(a0 a1 a2:Option V):Z:=[(S "self",a0),(S "name",a1),(S "node",a2)]
noncomputable def lz(a0 a1 a2 a3:Option V):Z:=[(S "self",a0),(S "names",a1),(S "name",a2),(S "node",a3)]
noncomputable def ni(a0 a1 a2 a3 a4 a5:Option V):Z:=[(S "stack",a0),(S "names",a1),(S "sort",a2),(S "tree",a3),(S "at",a4),(S "node",a5)]
noncomputable def nj(a0 a1 a2 a3:Option V):Z:=[(S "stack",a0),(S "node",a1),(S "sort",a2),(S "at",a3)]
noncomputable def jZ(a0 a1 a2:Option V):Z:=[(S "stack",a0),(S "but",a1),(S "names",a2)]
noncomputable def lA(a0 a1 a2 a3 a4:Option V):Z:=[(S "tree",a0),(S "node",a1),(S "attrs",a2),(S "name",a3),(S "value",a4)]
noncomputable def lB(a0:Option V):Z:=[(S "builder",a0)]
noncomputable def lC(a0 a1 a2:Option V):Z:=[(S "builder",a0),(S "token",a1),(S "stack",a2)]
noncomputable def j5(a0 a1 a2 a3:Option V):Z:=[(S "builder",a0),(S "tree",a1),(S "names",a2),(S "node",a3)]
noncomputable def eW(a0 a1 a2 a3 a4 a5 a6 a7 a8 a9 a10 a11:Option V):Z:=[(S "script",a0),(S "k",a1),(S "text",a2),(S "first",a3),(S "second",a4),(S "pool",a5),(S "words",a6),(S "j",a7),(S "digit",a8),(S "more",a9),(S "place",a10),(S "word",a11)]
noncomputable def j8(a0 a1 a2 a3 a4 a5 a6 a7:Option V):Z:=[(S "words",a0),(S "form",a1),(S "builder",a2),(S "tree",a3),(S "up",a4),(S "word",a5),(S "kind",a6),(S "node",a7)]
noncomputable def no(a0 a1 a2 a3 a4 a5 a6:Option V):Z:=[(S "due",a0),(S "name",a1),(S "attrs",a2),(S "up",a3),(S "node",a4),(S "key",a5),(S "told",a6)]
noncomputable def lD(a0 a1 a2 a3 a4:Option V):Z:=[(S "due",a0),(S "node",a1),(S "attrs",a2),(S "name",a3),(S "value",a4)]
noncomputable def dN(a0 a1 a2 a3 a4 a5 a6 a7 a8 a9 a10 a11 a12 a13 a14:Option V):Z:=[(S "script",a0),(S "names",a1),(S "rows",a2),(S "k",a3),(S "text",a4),(S "tags",a5),(S "form",a6),(S "modes",a7),(S "stays",a8),(S "head",a9),(S "builder",a10),(S "due",a11),(S "j",a12),(S "word",a13),(S "digit",a14)]
def T0:bf:=⟨gz,eH,Em⟩
structure j9(c:Cx):Prop where
 ok:c.Ok T0
 fns:∀f∈eI,pV c.K f
theorem Cx.Ok.cast{c:Cx}{T T':bf}(O:c.Ok T)(h1:T.fns=T'.fns)(h2:T.clss=T'.clss):c.Ok T':=
 ⟨O.B,O.X,O.g,O.b,O.nolimit,O.builtins,O.hA,O.hf,O.hk,O.hh,O.mods,O.units,h1▸h2▸O.K⟩
noncomputable def sH(n:Nat)(cl:Addr->List V->M V):Prop:=
 ∀(c:Cx),j9 c->∀(A:Around),A.frames=some (c.fenv::c.outer)->A.handled=none->A.depth+5*n<=950->A.units+20*n<=9000->
  ∀{m:Str->Option Value}{ρ:Ro}{nw:Nw}{H:Hp}{s:Shared}{a:Addr}{vs:List V}{vs':List Value}{r:V×Hp}{R:Result->Shared->Prop},St c m ρ nw H s->VRs c.K ρ nw vs vs'->cl a vs H=some r->
   (∀v s',Pv c m ρ nw r v s'->R (.ok (.ret v)) s')->keepIn c.K (.ref a)=true/\codeAny (model c.prog c.w) A (.call (.ref a) ⟨vs',[]⟩) R s
theorem HX{A:Around}{C:Addr}{vs:List Value}:(A.under (.builtin "type.__call__" ⟨.ref C::vs,[]⟩)).frames=A.frames/\(A.under (.builtin "type.__call__" ⟨.ref C::vs,[]⟩)).handled=A.handled/\
  (A.under (.builtin "type.__call__" ⟨.ref C::vs,[]⟩)).depth<=A.depth+3/\(A.under (.builtin "type.__call__" ⟨.ref C::vs,[]⟩)).units<=A.units+10:=by
 have h1:(Code.builtin "type.__call__" ⟨.ref C::vs,[]⟩).weight=1:=by rfl
 have h2:(Code.builtin "type.__call__" ⟨.ref C::vs,[]⟩).cUnits=1:=by rfl
 refine⟨rfl,rfl,?_,?_⟩
 ·show A.depth+_<=_
  refine er (h1 ..) ?_;lia
 ·show A.units+_<=_
  refine er (h2 ..) ?_;lia
section
variable{c:Cx}{m:Str->Option Value}{ρ:Ro}{nw:Nw}{H:Hp}{s:Shared}
theorem St.makeInst(S:St c m ρ nw H s){C x dx:Addr}{h':Heap}(F':Fr c.h₀ c.L h' m)(N':News c.h₀ c.L h' ((x,instObj C dx)::(dx,dictOf [] 0)::nw))(hl:∀p∈nw,p.1<dx)(hx:dx<x)(t:Nat):
  St c m (ρ++[(x,dx)]) ((x,instObj C dx)::(dx,dictOf [] 0)::nw) (H++[.inst C []]) {s with heap:=h',toks:=t}/\aG ρ nw (ρ++[(x,dx)]) ((x,instObj C dx)::(dx,dictOf [] 0)::nw):=by
 have fr:∀p∈[(x,instObj C dx),(dx,dictOf [] 0)],∀q∈nw,q.1≠p.1:=λp hp q hq=>by
  rcases List.mem_cons.mp hp with rfl|hp
  ·exact VB (XB (hl q hq) hx)
  ·rw[Ve]at hp;subst hp;exact VB (hl q hq)
 refine ai (S.rep.new (o:= .inst C []) (p:=(x,dx)) (more:=[(x,instObj C dx),(dx,dictOf [] 0)]) fr (by simp;exact WH hx) (by simp) (by simp) λ_=> .inst (es':=[]) (n:=0) (by simp) (by simp) .nil) λR e=>?_
 exact⟨⟨F',N',R,S.g,S.d,S.o⟩,e⟩
theorem xG{n:Nat}{cl:Addr->List V->M V}(G:sH n cl)(W:j9 c)(hd:c.A.depth+5*n+3<=950)(hu:c.A.units+20*n+10<=9000):hF c ⟨gz,eH,cl⟩:=by
 have O:=W.ok
 refine⟨λ{m ρ nw H s} E {a vs vs' r} hS hv h=>?_,λ{m ρ nw H s} E {nm q vs vs' r} hc S hv h=>?_⟩
 ·refine ai (G c W c.A O.hA O.hh (nB ‹_›) (nB ‹_›) (R:=λ_ _=>True) hS hv h λ_ _ _=>trivial) λk1 _=>?_
  refine⟨k1,wpAny_call ?_⟩
  exact(G c W c.A O.hA O.hh (nB ‹_›) (nB ‹_›) hS hv h λv s' q=>q).2
 ·refine ai (O.K.cls nm q hc) λk1 k2=>?_
  refine kJ (HX (A:=c.A) (C:=q.addr) (vs:=vs')) λu1 u2 u3 u4=>?_
  have h2:UX (cl q.init (.ref H.length::vs)) (λw=>match w with| .none=>UZ (.ref H.length)|_=>UY) (H++[.inst q.addr []])=some r:=h
  obtain⟨w,hw,e⟩:=bind_some h2
  refine call_cls S.fr O.X S.ns k2.makes k2.init k2.initFn λx dx h' F' N' hl hx=>?_
  refine ai (S.makeInst F' N' hl hx s.toks) λS' X'=>?_
  refine(G c W _ (u1.trans O.hA) (u2.trans O.hh) (by lia) (by lia) S' (.cons (ld (x,dx) _ S.rep.len) (hv.ext X')) hw λv s' P=>?_).2
  obtain⟨ρ',nw',hvr,S2,X2⟩:=P
  obtain⟨w1,w2⟩:=w
  cases w1<;>first|(exact ak e)|skip
  have zq:=vS hvr;subst zq
  have e2:=bW e
  refine⟨rfl,ρ',nw',?_,?_,X'.trans X2⟩
  ·refine er (e2 ..) ?_
   refine .ref (p:=(x,dx)) (X2.ro _ _ ?_)
   refine el (S.rep.len ..) ?_;simp
  ·refine er (e2 ..) ?_;exact S2
theorem j9.into(W:j9 c){A:Around}{env:Env}{L:Addr}{g:Heap}(O:(c.into A env L g).Ok T0):j9 (c.into A env L g):=⟨O,W.fns⟩
end
theorem HY{n:Nat}{cl:Addr->List V->M V}(G:sH n cl){f:aE}(hf:f∈eI)(fo:pW f){c:Cx}(W:j9 c){A:Around}(hA:A.frames=some (c.fenv::c.outer))(hh:A.handled=none)(hd:A.depth+5*(n+1)<=950)(hu:A.units+20*(n+1)<=9000)
  {m:Str->Option Value}{ρ:Ro}{nw:Nw}{H:Hp}{s:Shared}{vs:List V}{vs':List Value}{r:V×Hp}{R:Result->Shared->Prop}(S:St c m ρ nw H s) (hv:VRs c.K ρ nw vs vs') (h:iA ⟨gz,eH,cl⟩ f vs H=some r)
  (hR:∀v s',Pv c m ρ nw r v s'->R (.ok (.ret v)) s'):keepIn c.K (.ref f.addr)=true/\codeAny (model c.prog c.w) A (.call (.ref f.addr) ⟨vs',[]⟩) R s:=by
 have fi:=W.fns f hf
 refine⟨fi.keep,?_⟩
 have hr:A.depth<recursionLimit:=by
  have:recursionLimit=1000:=rfl
  exact eC ‹_›
 refine HW (T:=⟨gz,eH,cl⟩) (W.ok.cast rfl rfl) fi fo hA hh hr (by lia) (λenv L g O'=>?_) S hv h hR
 refine xG G (W.into (O'.cast rfl rfl)) ?_ ?_
 ·show A.depth+1+5*n+3<=950;lia
 ·show A.units+3+20*n+10<=9000;lia
noncomputable def sI(f:aE):Bool:=f.params.posonlyargs.isEmpty&&f.params.kwonlyargs.isEmpty&&f.params.vararg.isNone&&f.params.kwarg.isNone&&decide (f.params.args.map (·.arg)).Nodup&& !f.scope.isCoroutine&& !f.scope.isGenerator&&decide (f.scope.kind= .function)&&
 decide (f.dvals.length<=(f.params.args.map (·.arg)).length)&&decide ((cellsFrom 0 f.scope.names []).map (·.1)).Nodup&&(f.params.args.map (·.arg)).all (λx=>decide (f.scope.names.lookup x=some .local)||decide (f.scope.names.lookup x=some .cell))&&f.scope.names.all λy=>decide (y.2≠ .free)
theorem xH{f:aE}(h:sI f=true):pW f:=by
 unfold sI at h
 simp only[U2,decide_eq_true_eq,WB,VG,Wt,List.isEmpty_iff,Option.isNone_iff_eq_none]at h
 refine ai (h) λhn3 h12=>?_
 refine ai hn3 λhn5 h11=>?_
 refine ai hn5 λhn7 h10=>?_
 refine ai hn7 λhn9 h9=>?_
 refine ai hn9 λhn11 h8=>?_
 refine ai hn11 λhn13 h7=>?_
 refine ai hn13 λhn15 h6=>?_
 refine ai hn15 λhn17 h5=>?_
 refine ai hn17 λhn19 h4=>?_
 refine ai hn19 λhn21 h3=>?_
 refine ai hn21 λh1 h2=>?_
 exact⟨h1,h2,h3,h4,h5,h6,h7,h8,h9,h10,h11,h12⟩
theorem xI:eI.all sI=true:=by decide+kernel
theorem xJ:∀n,sH n (cF n)
 |0=>λc W A hA hh hd hu m ρ nw H s a vs vs' r R S hv h hR=>by exact ak h
 |n+1=>λc W A hA hh hd hu m ρ nw H s a vs vs' r R S hv h hR=>by
  replace h:(match m_ a with|some f=>iA (TT (cF n)) f vs| .none=>(UY:K)) H=some r:=h
  cases hf:m_ a with
  |none=>rw[hf]at h;exact ak h
  |some f=>
   rw[hf]at h
   have e:f.addr=a:=by have:=WY hf;simpa using this
   have hm:f∈eI:=VJ hf
   subst e
   exact HY (xJ n) hm (xH (List.all_eq_true.mp xI f hm)) W hA hh hd hu S hv h hR
section
variable(cl:Cl)(c0 c1 c2 c3 c4 c5 c6 c7 c8 c9 c10 c11 c12 c13 c14 c15 c16 c17 c18 c19 c20 c21 c22 c23 c24 c25 c26 c27 c28 c29 c30 c31 c32 c33 c34 c35 c36 c37 c38 c39 c40:V)
def xK(cl:Cl)(az:V):K:=UX (af .In az (.tup [.str (S "h1"),.str (S "h2"),.str (S "h3"),.str (S "h4"),.str (S "h5"),.str (S "h6")])) λt1=>UZ (.bool t1)
theorem HZ(n:Nat)(az:V):cF (n+1) 49 [az]=xK (cF n) az:=by kernel_rfl
def H_(cl:Cl):K:=UZ (.tup [.str (S "dd"),.str (S "dt"),.str (S "li"),.str (S "optgroup"),.str (S "option"),.str (S "p"),.str (S "rb"),.str (S "rp"),.str (S "rt"),.str (S "rtc")])
theorem Ia(n:Nat):cF (n+1) 77 []=H_ (cF n):=by kernel_rfl
abbrev z1:K:=UZ c0
abbrev z2:K:=UX (aa c2 c0) λx10=>UX (af .Eq x10 c1) λt11=>z1 (.bool t11)
abbrev z3:K:=UX (ab c1 (S "names") (TT cl)) (z2 c2 c3)
abbrev z4(cl:Cl)(c1 c2 c3:V)(c4:Bool):K:=UX (truthy (.bool c4)) λt8=>aC t8 (z3 cl c1 c2 c3) (z1 (.bool c4))
abbrev z5:K:=UX (af .Eq c4 (.str (S "html"))) (z4 cl c1 c2 c3)
abbrev z6:K:=UX (ab c1 (S "spaces") (TT cl)) λx5=>UX (aa x5 c2) (z5 cl c1 c2 c3)
abbrev z7(cl:Cl)(c1 c2 c3:V)(c4:Bool):K:=UX (truthy (.bool c4)) λt4=>aC t4 (z6 cl c1 c2 c3) (z1 (.bool c4))
def sJ(cl:Cl)(ah aw az:V):K:=UX (af .NotEq aw (.int (-1))) (z7 cl ah aw az)
theorem Ib(n:Nat)(ah aw az:V):cF (n+1) 550 [ah,aw,az]=sJ (cF n) ah aw az:=by kernel_rfl
def xL(cl:Cl)(ah aw az:V):K:=UX (ab ah (S "attrs") (TT cl)) λx5=>UX (aa x5 aw) λx6=>UX (ce x6) λit4=>cE false it4 (ca (TT cl) 23 iF.scope (ba iF.body [0])) (λvars=>bB (TT cl) 24 iF.scope iF.body 1 vars bH bI) (ng (some ah) (some aw) (some az) .none)
theorem Ic(n:Nat)(ah aw az:V):cF (n+1) 543 [ah,aw,az]=xL (cF n) ah aw az:=by kernel_rfl
theorem Id(cl:Cl)(w_v ah aw az:V)(sK:Option V)(kn kb:Z->K):ca (TT cl) 23 iF.scope (ba iF.body [0]) w_v (ng (some ah) (some aw) (some az) sK) kn kb=(UX (aa w_v (.int 0)) λx1=>UX (af .Eq x1 az) λt2=>if t2=true then(UX (aa w_v (.int 1)) λx3=>UZ x3)else(kn (ng (some ah) (some aw) (some az) (some w_v))):K):=by kernel_rfl
theorem Ie(cl:Cl)(ah aw az:V)(sK:Option V):bB (TT cl) 24 iF.scope iF.body 1 (ng (some ah) (some aw) (some az) sK) bH bI=(UZ .none:K):=by kernel_rfl
abbrev z8:K:=UX (bw c0) λx24=>UX (ax .Sub x24 (.int 1)) λx26=>UZ x26
abbrev z9:K:=ao (TT cl) c2 (S "append") (λk22=>UX (aF (.list [])) λx23=>k22 [x23]) λx20=>if am x20=true then(UX (ab c1 (S "kinds") (TT cl)) z8)else UY
abbrev xM:K:=UX (ab c1 (S "children") (TT cl)) (z9 cl c1)
abbrev xN:K:=ao (TT cl) c2 (S "append") (λk19=>k19 [.int (-1)]) λx17=>if am x17=true then(xM cl c1)else UY
abbrev xO:K:=UX (ab c1 (S "parents") (TT cl)) (xN cl c1)
abbrev xP:K:=ao (TT cl) c3 (S "append") (λk16=>k16 [c1]) λx14=>if am x14=true then(xO cl c2)else UY
abbrev xQ:K:=UX (ab c1 (S "texts") (TT cl)) (xP cl c2 c1)
abbrev xR:K:=ao (TT cl) c4 (S "append") (λk12=>UX (dK c1) λx13=>k12 [x13]) λx10=>if am x10=true then(xQ cl c2 c3)else UY
abbrev xS:K:=UX (ab c1 (S "attrs") (TT cl)) (xR cl c2 c1 c3)
abbrev xT:K:=ao (TT cl) c5 (S "append") (λk9=>k9 [c1]) λx7=>if am x7=true then(xS cl c2 c3 c4)else UY
abbrev xU:K:=UX (ab c1 (S "names") (TT cl)) (xT cl c2 c1 c3 c4)
abbrev xV:K:=ao (TT cl) c6 (S "append") (λk6=>k6 [c1]) λx4=>if am x4=true then(xU cl c2 c3 c4 c5)else UY
abbrev xW:K:=UX (ab c1 (S "spaces") (TT cl)) (xV cl c2 c1 c3 c4 c5)
abbrev xX:K:=ao (TT cl) c7 (S "append") (λk3=>k3 [c1]) λx1=>if am x1=true then(xW cl c2 c3 c4 c5 c6)else UY
def lE(cl:Cl)(ah gH d6 az aW bX:V):K:=UX (ab ah (S "kinds") (TT cl)) (xX cl gH ah d6 az aW bX)
theorem xY(n:Nat)(ah gH:V):cF (n+1) 463 [ah,gH]=lE (cF n) ah gH (.str (S "")) (.str (S "")) (.tup []) (.str (S "")):=by kernel_rfl
theorem Ig(n:Nat)(ah gH d6 az aW:V):cF (n+1) 463 [ah,gH,d6,az,aW]=lE (cF n) ah gH d6 az aW (.str (S "")):=by kernel_rfl
def sL(cl:Cl)(ah az d6 aW:V):K:=ao (TT cl) ah (S "add") (λk2=>k2 [.str (S "element"),d6,az,aW]) λx1=>jp (UZ x1:K) λj3=>jp (λ(t5:Bool)=>(if t5=true then(ao (TT cl) ah (S "add") (λk7=>k7 [.str (S "fragment")]) λx6=>UX (ab ah (S "contents") (TT cl)) λx8=>UX (bi x8 x1 x6) λ_=>j3)else(j3):K)) λj4=>UX (af .Eq d6 (.str (S "html"))) λt9=>aC t9 (UX (af .Eq az (.str (S "template"))) λt10=>aC t10 (j4 true) (j4 false)) (j4 false)
theorem Ih(n:Nat)(ah az:V):cF (n+1) 472 [ah,az]=sL (cF n) ah az (.str (S "html")) (.tup []):=by kernel_rfl
theorem xZ(n:Nat)(ah az d6 aW:V):cF (n+1) 472 [ah,az,d6,aW]=sL (cF n) ah az d6 aW:=by kernel_rfl
def x_(cl:Cl)(aR aw:V):K:=UX (aF (.list [])) λx1=>UX (ab aR (S "parents") (TT cl)) λx2=>UX (aa x2 aw) λx3=>ly (hU (TT cl) 23 fv.scope (ba fv.body [2])) (hV (TT cl) 23 fv.scope (ba fv.body [2])) (λvars=>bB (TT cl) 24 fv.scope fv.body 3 vars bH bI) (vs1 (some aR) (some aw) (some x1) (some x3))
theorem Ii(n:Nat)(aR aw:V):cF (n+1) 564 [aR,aw]=x_ (cF n) aR aw:=by kernel_rfl
theorem Ij(cl:Cl)(aR aw je dC:V)(kn kb:Z->K):hV (TT cl) 23 fv.scope (ba fv.body [2]) (vs1 (some aR) (some aw) (some je) (some dC)) kn kb=(ao (TT cl) je (S "append") (λk6=>k6 [dC]) λx5=>if am x5=true then(UX (ab aR (S "parents") (TT cl)) λx7=>UX (aa x7 dC) λx8=>kn (vs1 (some aR) (some aw) (some je) (some x8)))else UY:K):=by kernel_rfl
theorem Ik(cl:Cl)(aR aw je dC:V)(kt:Bool->K):hU (TT cl) 23 fv.scope (ba fv.body [2]) (vs1 (some aR) (some aw) (some je) (some dC)) kt=(UX (af .NotEq dC (.int (-1))) λt4=>kt t4:K):=by kernel_rfl
theorem Il(cl:Cl)(aR aw je dC:V):bB (TT cl) 24 fv.scope fv.body 3 (vs1 (some aR) (some aw) (some je) (some dC)) bH bI=(UZ je:K):=by kernel_rfl
abbrev Im:K:=UX (bi c1 c0 (.int (-1))) λ_=>UZ .none
abbrev Io:K:=UX (ab c1 (S "parents") (TT cl)) (Im c2)
abbrev Ip:K:=ao (TT cl) c3 (S "remove") (λk9=>k9 [c1]) λx4=>if am x4=true then(Io cl c2 c1)else UY
abbrev Iq:K:=UX (aa c4 c1) λx7=>UX (aa c2 x7) (Ip cl c1 c3)
abbrev Ir:K:=UX (ab c1 (S "parents") (TT cl)) (Iq cl c2 c3 c1)
abbrev Iu:K:=UX (ab c1 (S "children") (TT cl)) (Ir cl c1 c2)
abbrev Iv:K:=UX (af .NotEq c3 (.int (-1))) λt3=>if t3=true then(Iu cl c1 c2)else(UZ .none)
def sM(cl:Cl)(ah aw:V):K:=UX (ab ah (S "parents") (TT cl)) λx1=>UX (aa x1 aw) (Iv cl ah aw)
theorem ya(n:Nat)(ah aw:V):cF (n+1) 515 [ah,aw]=sM (cF n) ah aw:=by kernel_rfl
abbrev Iw:K:=UX (ab c1 (S "parents") (TT cl)) λx17=>UX (bi x17 c2 c3) λ_=>UZ .none
abbrev Ix:K:=ao (TT cl) c5 (S "insert") (λk16=>k16 [c1,c2]) λx13=>if am x13=true then(Iw cl c3 c2 c4)else UY
abbrev yb:K:=UX (ab c1 (S "children") (TT cl)) λx14=>UX (aa x14 c2) (Ix cl c4 c3 c1 c2)
abbrev Iy:K:=ao (TT cl) c5 (S "index") (λk22=>k22 [c1]) λx19=>yb cl c2 c3 c4 x19
abbrev Iz:K:=UX (ab c1 (S "children") (TT cl)) λx20=>UX (aa x20 c2) (Iy cl c3 c1 c2 c4)
abbrev IA:K:=UX (af .NotEq c1 (.int (-1))) λt18=>if t18=true then(Iz cl c2 c3 c1 c4)else(yb cl c2 c3 c4 c5)
abbrev IB:K:=UX (aa c5 c1) λx10=>UX (bw x10) (IA cl c2 c3 c1 c4)
abbrev IC:K:=UX (ab c1 (S "children") (TT cl)) (IB cl c2 c3 c1 c4)
abbrev ID:K:=ao (TT cl) c1 (S "remove") (λk7=>k7 [c2]) λx6=>if am x6=true then(IC cl c1 c3 c4 c2)else UY
abbrev sN:K:=UX (af .Eq c1 c2) λt5=>if t5=true then(UZ .none)else(ID cl c3 c2 c4 c1)
abbrev IE:K:=UX (af .NotIn c1 c5) λt26=>aC t26 (if true=true then UY else(sN cl c1 c2 c3 c4)) (if false=true then UY else(sN cl c1 c2 c3 c4))
abbrev IF:K:=UX (ab c1 (S "children") (TT cl)) λx24=>UX (aa x24 c2) (IE cl c3 c4 c1 c2)
abbrev sO:K:=UX (af .NotEq c1 (.int (-1))) λt23=>aC t23 (IF cl c2 c3 c1 c4) (if false=true then UY else(sN cl c1 c4 c2 c3))
abbrev IG:K:=UX (af .In c1 c5) λt29=>aC t29 (if true=true then UY else(sO cl c2 c3 c4 c1)) (if false=true then UY else(sO cl c2 c3 c4 c1))
abbrev IH:K:=UX (cl 564 [c1,c2]) (IG cl c3 c4 c1 c2)
def pX(cl:Cl)(ah eX aw np:V):K:=UX (af .Eq aw eX) λt27=>aC t27 (if true=true then UY else(sO cl np ah eX aw)) (IH cl ah eX aw np)
theorem II(n:Nat)(ah eX aw:V):cF (n+1) 501 [ah,eX,aw]=pX (cF n) ah eX aw (.int (-1)):=by kernel_rfl
theorem IJ(n:Nat)(ah eX aw np:V):cF (n+1) 501 [ah,eX,aw,np]=pX (cF n) ah eX aw np:=by kernel_rfl
def yc(cl:Cl)(ah eX aw:V):K:=ao (TT cl) ah (S "insert") (λk2=>k2 [eX,aw]) λx1=>if am x1=true then(UZ .none)else UY
theorem IK(n:Nat)(ah eX aw:V):cF (n+1) 508 [ah,eX,aw]=yc (cF n) ah eX aw:=by kernel_rfl
def yd(cl:Cl)(ah:V):K:=UX (aF (.list [])) λx1=>UX (a_ ah (S "kinds") x1 (TT cl)) λ_=>UX (aF (.list [])) λx2=>UX (a_ ah (S "spaces") x2 (TT cl)) λ_=>UX (aF (.list [])) λx3=>UX (a_ ah (S "names") x3 (TT cl)) λ_=>UX (aF (.list [])) λx4=>UX (a_ ah (S "attrs") x4 (TT cl)) λ_=>UX (aF (.list [])) λx5=>UX (a_ ah (S "texts") x5 (TT cl)) λ_=>UX (aF (.list [])) λx6=>UX (a_ ah (S "parents") x6 (TT cl)) λ_=>UX (aF (.list [])) λx7=>UX (a_ ah (S "children") x7 (TT cl)) λ_=>UX (aF (.dict [] (some 0))) λo8=>UX (a_ ah (S "contents") o8 (TT cl)) λ_=>ao (TT cl) ah (S "add") (λk10=>k10 [.str (S "document")]) λx9=>if am x9=true then(UZ .none)else UY
theorem IL(n:Nat)(ah:V):cF (n+1) 454 [ah]=yd (cF n) ah:=by kernel_rfl
def ye(cl:Cl)(ah aR:V):K:=UX (a_ ah (S "tree") aR (TT cl)) λ_=>UX (aF (.list [])) λx1=>UX (a_ ah (S "items") x1 (TT cl)) λ_=>UZ .none
theorem IM(n:Nat)(ah aR:V):cF (n+1) 91 [ah,aR]=ye (cF n) ah aR:=by kernel_rfl
def yf(cl:Cl)(ah aw:V):K:=UX (ab ah (S "items") (TT cl)) λx2=>ao (TT cl) x2 (S "append") (λk3=>k3 [aw]) λx1=>if am x1=true then(UZ .none)else UY
theorem IN(n:Nat)(ah aw:V):cF (n+1) 98 [ah,aw]=yf (cF n) ah aw:=by kernel_rfl
def yg(cl:Cl)(ah:V):K:=UX (ab ah (S "items") (TT cl)) λx2=>UX (bw x2) λx1=>UX (af .Eq x1 (.int 0)) λt3=>if t3=true then(UZ (.int (-1)))else(UX (ab ah (S "items") (TT cl)) λx5=>ao (TT cl) x5 (S "pop") (λk6=>k6 []) λx4=>UZ x4)
theorem IO(n:Nat)(ah:V):cF (n+1) 105 [ah]=yg (cF n) ah:=by kernel_rfl
abbrev IQ:K:=UX (ax .Sub c1 (.int 1)) λx7=>UX (aa c0 x7) λx8=>UZ x8
abbrev IR:K:=UX (ab c1 (S "items") (TT cl)) λx6=>UX (bw x6) (IQ c2)
abbrev IS:K:=UX (ab c1 (S "items") (TT cl)) (IR cl c1)
abbrev IT:K:=UX (af .Eq c2 (.int 0)) λt3=>if t3=true then(UZ (.int (-1)))else(IS cl c1)
def sP(cl:Cl)(ah:V):K:=UX (ab ah (S "items") (TT cl)) λx2=>UX (bw x2) (IT cl ah)
theorem IU(n:Nat)(ah:V):cF (n+1) 112 [ah]=sP (cF n) ah:=by kernel_rfl
def yh(cl:Cl)(ah:V):K:=UX (ab ah (S "items") (TT cl)) λx2=>UX (bw x2) λx1=>UZ x1
theorem IV(n:Nat)(ah:V):cF (n+1) 119 [ah]=yh (cF n) ah:=by kernel_rfl
abbrev IW:K:=ao (TT cl) c2 (S "remove") (λk5=>k5 [c1]) λx3=>if am x3=true then(UZ .none)else UY
abbrev IX:K:=UX (ab c1 (S "items") (TT cl)) (IW cl c2)
abbrev IY:K:=UX (af .In c1 c3) λt2=>if t2=true then(IX cl c2 c1)else(UZ .none)
def yi(cl:Cl)(ah aw:V):K:=UX (ab ah (S "items") (TT cl)) (IY cl aw ah)
theorem IZ(n:Nat)(ah aw:V):cF (n+1) 133 [ah,aw]=yi (cF n) ah aw:=by kernel_rfl
abbrev I0:K:=UX (ab c2 (S "names") (TT cl)) λx6=>UX (aa x6 c1) λx7=>UZ x7
abbrev sQ:K:=UX (ab c1 (S "tree") (TT cl)) (I0 cl c2)
abbrev I3:K:=UX (af .NotEq c3 (.str (S "html"))) λt12=>aC t12 (if true=true then(UZ (.str (S "")))else(sQ cl c1 c2)) (if false=true then(UZ (.str (S "")))else(sQ cl c1 c2))
abbrev I4:K:=UX (ab c3 (S "spaces") (TT cl)) λx10=>UX (aa x10 c1) (I3 cl c2 c1)
abbrev I5:K:=UX (ab c1 (S "tree") (TT cl)) (I4 cl c2 c1)
abbrev I6:K:=UX (af .Eq c2 (.int (-1))) λt8=>aC t8 (if true=true then(UZ (.str (S "")))else(sQ cl c1 c2)) (I5 cl c1 c2)
def pY(cl:Cl)(ah:V):K:=ao (TT cl) ah (S "current") (λk2=>k2 []) (I6 cl ah)
theorem I7(n:Nat)(ah:V):cF (n+1) 154 [ah]=pY (cF n) ah:=by kernel_rfl
def yj(cl:Cl)(ah az:V):K:=UX (ab ah (S "items") (TT cl)) λx6=>UX (ce x6) λit5=>cE false it5 (ca (TT cl) 23 iB.scope (ba iB.body [0])) (λvars=>bB (TT cl) 24 iB.scope iB.body 1 vars bH bI) (nh (some ah) (some az) .none)
theorem I8(n:Nat)(ah az:V):cF (n+1) 161 [ah,az]=yj (cF n) ah az:=by kernel_rfl
theorem I9(cl:Cl)(w_v ah az:V)(aw:Option V)(kn kb:Z->K):ca (TT cl) 23 iB.scope (ba iB.body [0]) w_v (nh (some ah) (some az) aw) kn kb=(UX (ab ah (S "tree") (TT cl)) λx2=>ao (TT cl) x2 (S "is_html") (λk3=>k3 [w_v,az]) λx1=>UX (truthy x1) λt4=>if t4=true then(UZ (.bool true))else(kn (nh (some ah) (some az) (some w_v))):K):=by kernel_rfl
theorem I_(cl:Cl)(ah az:V)(aw:Option V):bB (TT cl) 24 iB.scope iB.body 1 (nh (some ah) (some az) aw) bH bI=(UZ (.bool false):K):=by kernel_rfl
def yk(cl:Cl)(ah aY:V):K:=ly (hU (TT cl) 23 fu.scope (ba fu.body [0])) (hV (TT cl) 23 fu.scope (ba fu.body [0])) (λvars=>bB (TT cl) 24 fu.scope fu.body 1 vars bH bI) (lz (some ah) (some aY) .none .none)
theorem Ja(n:Nat)(ah aY:V):cF (n+1) 168 [ah,aY]=yk (cF n) ah aY:=by kernel_rfl
theorem Jb(cl:Cl)(ah aY:V)(az aw:Option V)(kn kb:Z->K):hV (TT cl) 23 fu.scope (ba fu.body [0]) (lz (some ah) (some aY) az aw) kn kb=(ao (TT cl) ah (S "name") (λk5=>k5 []) λx4=>UX (ab ah (S "items") (TT cl)) λx7=>ao (TT cl) x7 (S "pop") (λk8=>k8 []) λx6=>UX (af .In x4 aY) λt9=>if t9=true then(UZ x6)else(kn (lz (some ah) (some aY) (some x4) (some x6))):K):=by kernel_rfl
theorem Jc(cl:Cl)(ah aY:V)(az aw:Option V)(kt:Bool->K):hU (TT cl) 23 fu.scope (ba fu.body [0]) (lz (some ah) (some aY) az aw) kt=(UX (ab ah (S "items") (TT cl)) λx2=>UX (bw x2) λx1=>UX (af .Gt x1 (.int 0)) λt3=>kt t3:K):=by kernel_rfl
theorem Jd(cl:Cl)(ah aY:V)(az aw:Option V):bB (TT cl) 24 fu.scope fu.body 1 (lz (some ah) (some aY) az aw) bH bI=(UZ (.int (-1)):K):=by kernel_rfl
abbrev Je:K:=UX (af .NotIn c0 (.tup [.str (S "optgroup"),.str (S "option")])) λt10=>z1 (.bool t10)
abbrev Jf(c0:V)(c1:Bool):K:=UX (truthy (.bool c1)) λt9=>aC t9 (z1 (.bool c1)) (Je c0)
abbrev Jg:K:=UX (af .NotEq c0 (.str (S "html"))) (Jf c1)
abbrev Jh:K:=UX (af .In c0 (.tup [.str (S "html"),.str (S "table"),.str (S "template")])) λt16=>z1 (.bool t16)
abbrev Ji(c0:V)(c1:Bool):K:=UX (truthy (.bool c1)) λt15=>aC t15 (Jh c0) (z1 (.bool c1))
abbrev Jj:K:=UX (af .Eq c0 (.str (S "html"))) (Ji c1)
abbrev Jk:K:=UX (af .In c0 (.tup [.str (S "mi"),.str (S "mo"),.str (S "mn"),.str (S "ms"),.str (S "mtext"),.str (S "annotation-xml")])) λt18=>UZ (.bool t18)
abbrev Jl:K:=UX (af .In c0 (.tup [.str (S "foreignObject"),.str (S "desc"),.str (S "title")])) λt20=>UZ (.bool t20)
abbrev Jm:K:=UX (af .In c0 (.tup [.str (S "ol"),.str (S "ul")])) λt23=>UZ (.bool t23)
abbrev Jn:K:=UX (af .Eq c0 (.str (S "button"))) λt28=>z1 (.bool t28)
abbrev Jo(c0:V)(c1:Bool):K:=UX (truthy (.bool c1)) λt27=>aC t27 (Jn c0) (z1 (.bool c1))
abbrev Jp:K:=UX (af .Eq c0 (.str (S "button"))) (Jo c1)
abbrev Jq:K:=UX (af .Eq c0 (.str (S "list item"))) λt22=>if t22=true then(Jm c1)else(Jp c0 c1)
abbrev Jr:K:=UX (af .In c0 (.tup [.str (S "applet"),.str (S "caption"),.str (S "html"),.str (S "table"),.str (S "td"),.str (S "th"),.str (S "marquee"),.str (S "object"),.str (S "template")])) λt21=>if t21=true then(UZ (.bool true))else(Jq c1 c0)
abbrev Js:K:=UX (af .Eq c0 (.str (S "svg"))) λt19=>if t19=true then(Jl c1)else(Jr c1 c2)
abbrev Jt:K:=UX (af .Eq c0 (.str (S "math"))) λt17=>if t17=true then(Jk c1)else(Js c0 c1 c2)
abbrev Ju:K:=UX (af .Eq c0 (.str (S "table"))) λt11=>if t11=true then(Jj c1 c2)else(Jt c1 c2 c0)
abbrev Jv:K:=UX (af .Eq c0 (.str (S "select"))) λt5=>if t5=true then(Jg c1 c2)else(Ju c0 c1 c2)
abbrev Jw:K:=UX (ab c1 (S "names") (TT cl)) λx3=>UX (aa x3 c2) (Jv c3 c4)
def yl(cl:Cl)(aR aw bC:V):K:=UX (ab aR (S "spaces") (TT cl)) λx1=>UX (aa x1 aw) (Jw cl aR aw bC)
theorem Jx(n:Nat)(aR aw bC:V):cF (n+1) 189 [aR,aw,bC]=yl (cF n) aR aw bC:=by kernel_rfl
abbrev Jy(cl:Cl)(c1 c2 c3 c4:V)(c5:It):K:=cE false c5 (ca (TT cl) 23 iC.scope (ba iC.body [1])) (λvars=>bB (TT cl) 24 iC.scope iC.body 2 vars bH bI) (ni (some c1) (some c2) (some c3) (some c4) .none .none)
abbrev Jz:K:=eD [c5,.int (-1),.int (-1)] (Jy cl c1 c2 c3 c4)
abbrev JA:K:=UX (ax .Sub c5 (.int 1)) (Jz cl c1 c2 c3 c4)
abbrev JB:K:=ao (TT cl) c1 (S "many") (λk16=>k16 []) (JA cl c1 c2 c3 c4)
def sR(cl:Cl)(be aY bC:V):K:=UX (ab be (S "tree") (TT cl)) (JB cl be aY bC)
theorem JC(n:Nat)(be aY:V):cF (n+1) 197 [be,aY]=sR (cF n) be aY (.str (S "")):=by kernel_rfl
theorem ym(n:Nat)(be aY bC:V):cF (n+1) 197 [be,aY,bC]=sR (cF n) be aY bC:=by kernel_rfl
abbrev JD(c0:Z->K)(c1 c2 c3 c4 c5 c6 c7:V):K:=UX (truthy c7) λt7=>if t7=true then(UZ (.bool false))else(c0 (ni (some c1) (some c2) (some c3) (some c4) (some c5) (some c6)))
abbrev sS(cl:Cl)(c1 c2 c3:V)(c4:Z->K)(c5 c6 c7:V):K:=UX (cl 189 [c1,c2,c3]) (JD c4 c5 c6 c3 c1 c7 c2)
abbrev JE(cl:Cl)(c1 c2 c3 c4:V)(c5:Z->K)(c6 c7 c8:V):K:=UX (af .In c8 c1) λt13=>aC t13 (if true=true then(UZ (.bool true))else(sS cl c2 c3 c4 c5 c6 c1 c7)) (if false=true then(UZ (.bool true))else(sS cl c2 c3 c4 c5 c6 c1 c7))
abbrev JF(cl:Cl)(c1 c2 c3 c4:V)(c5:Z->K)(c6 c7 c8:V):K:=UX (aa c8 c1) (JE cl c2 c3 c1 c4 c5 c6 c7)
abbrev JG(cl:Cl)(c1 c2 c3 c4:V)(c5:Z->K)(c6 c7:V):K:=UX (ab c1 (S "names") (TT cl)) (JF cl c2 c3 c1 c4 c5 c6 c7)
abbrev JH(cl:Cl)(c1 c2 c3 c4:V)(c5:Z->K)(c6 c7 c8:V):K:=UX (af .Eq c8 (.str (S "html"))) λt10=>aC t10 (JG cl c1 c2 c3 c4 c5 c6 c7) (if false=true then(UZ (.bool true))else(sS cl c1 c2 c4 c5 c6 c3 c7))
abbrev JI(cl:Cl)(c1 c2 c3 c4:V)(c5:Z->K)(c6 c7 c8:V):K:=UX (aa c8 c1) (JH cl c2 c1 c3 c4 c5 c6 c7)
abbrev JJ(cl:Cl)(c1 c2 c3:V)(c4:Z->K)(c5 c6 c7:V):K:=UX (ab c1 (S "spaces") (TT cl)) (JI cl c7 c1 c2 c3 c4 c5 c6)
abbrev JK(cl:Cl)(c1 c2 c3 c4:V)(c5:Z->K)(c6 c7:V):K:=UX (aa c7 c1) (JJ cl c2 c3 c4 c5 c6 c1)
theorem JL(cl:Cl)(w_v be aY bC aR:V)(j_ aw:Option V)(kn kb:Z->K):ca (TT cl) 23 iC.scope (ba iC.body [1]) w_v (ni (some be) (some aY) (some bC) (some aR) j_ aw) kn kb=(UX (ab be (S "items") (TT cl)) (JK cl w_v aR aY bC kn be):K):=by kernel_rfl
theorem JM(cl:Cl)(be aY bC aR:V)(j_ aw:Option V):bB (TT cl) 24 iC.scope iC.body 2 (ni (some be) (some aY) (some bC) (some aR) j_ aw) bH bI=(UZ (.bool false):K):=by kernel_rfl
abbrev JN(cl:Cl)(c1 c2 c3:V)(c4:It):K:=cE false c4 (ca (TT cl) 23 iD.scope (ba iD.body [0])) (λvars=>bB (TT cl) 24 iD.scope iD.body 1 vars bH bI) (nj (some c1) (some c2) (some c3) .none)
abbrev JO:K:=eD [c4,.int (-1),.int (-1)] (JN cl c1 c2 c3)
abbrev JP:K:=UX (ax .Sub c4 (.int 1)) (JO cl c1 c2 c3)
def sT(cl:Cl)(be aw bC:V):K:=ao (TT cl) be (S "many") (λk11=>k11 []) (JP cl be aw bC)
theorem JQ(n:Nat)(be aw:V):cF (n+1) 205 [be,aw]=sT (cF n) be aw (.str (S "")):=by kernel_rfl
theorem yn(n:Nat)(be aw bC:V):cF (n+1) 205 [be,aw,bC]=sT (cF n) be aw bC:=by kernel_rfl
abbrev JR(c0:Z->K)(c1 c2 c3 c4 c5:V):K:=UX (truthy c5) λt8=>if t8=true then(UZ (.bool false))else(c0 (nj (some c1) (some c2) (some c3) (some c4)))
abbrev JS(cl:Cl)(c1 c2:V)(c3:Z->K)(c4 c5 c6 c7:V):K:=UX (cl 189 [c1,c7,c2]) (JR c3 c4 c5 c2 c6)
abbrev JT(cl:Cl)(c1 c2 c3:V)(c4:Z->K)(c5 c6 c7:V):K:=UX (aa c7 c1) (JS cl c2 c3 c4 c5 c6 c1)
abbrev JU(cl:Cl)(c1 c2 c3:V)(c4:Z->K)(c5 c6:V):K:=UX (ab c1 (S "items") (TT cl)) (JT cl c2 c6 c3 c4 c1 c5)
abbrev JV(cl:Cl)(c1 c2 c3:V)(c4:Z->K)(c5:V):K:=UX (ab c1 (S "tree") (TT cl)) (JU cl c1 c2 c3 c4 c5)
abbrev JW(cl:Cl)(c1 c2 c3 c4:V)(c5:Z->K)(c6:V):K:=UX (af .Eq c6 c1) λt3=>if t3=true then(UZ (.bool true))else(JV cl c2 c3 c4 c5 c1)
theorem JX(cl:Cl)(w_v be aw bC:V)(j_:Option V)(kn kb:Z->K):ca (TT cl) 23 iD.scope (ba iD.body [0]) w_v (nj (some be) (some aw) (some bC) j_) kn kb=(UX (ab be (S "items") (TT cl)) λx1=>UX (aa x1 w_v) (JW cl aw be w_v bC kn):K):=by kernel_rfl
theorem JY(cl:Cl)(be aw bC:V)(j_:Option V):bB (TT cl) 24 iD.scope iD.body 1 (nj (some be) (some aw) (some bC) j_) bH bI=(UZ (.bool false):K):=by kernel_rfl
def sU(cl:Cl)(be de:V):K:=UX (cl 77 []) λx1=>ly (hU (TT cl) 23 eG.scope (ba eG.body [1])) (hV (TT cl) 23 eG.scope (ba eG.body [1])) (λvars=>bB (TT cl) 24 eG.scope eG.body 2 vars bH bI) (jZ (some be) (some de) (some x1))
theorem JZ(n:Nat)(be:V):cF (n+1) 213 [be]=sU (cF n) be (.str (S "")):=by kernel_rfl
theorem yo(n:Nat)(be de:V):cF (n+1) 213 [be,de]=sU (cF n) be de:=by kernel_rfl
theorem J0(cl:Cl)(be de aY:V)(kn kb:Z->K):hV (TT cl) 23 eG.scope (ba eG.body [1]) (jZ (some be) (some de) (some aY)) kn kb=(ao (TT cl) be (S "pop") (λk11=>k11 []) λx10=>if am x10=true then(kn (jZ (some be) (some de) (some aY)))else UY:K):=by kernel_rfl
theorem J1(cl:Cl)(be de aY:V)(kt:Bool->K):hU (TT cl) 23 eG.scope (ba eG.body [1]) (jZ (some be) (some de) (some aY)) kt=(jp (λ(t3:Bool)=>(kt t3:K)) λj2=>ao (TT cl) be (S "name") (λk5=>k5 []) λx4=>UX (af .In x4 aY) λt6=>aC t6 (ao (TT cl) be (S "name") (λk8=>k8 []) λx7=>UX (af .NotEq x7 de) λt9=>aC t9 (j2 true) (j2 false)) (j2 false):K):=by kernel_rfl
theorem J2(cl:Cl)(be de aY:V):bB (TT cl) 24 eG.scope eG.body 2 (jZ (some be) (some de) (some aY)) bH bI=(UZ .none:K):=by kernel_rfl
abbrev J3:K:=UZ (.tup [(.int 0),.int (-1)])
abbrev J4:K:=UX (aa c1 c0) λx11=>UZ (.tup [x11,.int (-1)])
abbrev J5:K:=UX (ab c1 (S "contents") (TT cl)) (J4 c2)
abbrev J6:K:=UX (af .In c1 c4) λt9=>if t9=true then(J5 cl c2 c1)else(UZ (.tup [c1,c3]))
abbrev nq:K:=UX (ab c1 (S "contents") (TT cl)) (J6 cl c2 c1 c3)
abbrev J7(cl:Cl)(c1:V)(c2:List V):K:=cO c2 λa16 r17=>cO r17 λa18 r19=>eT r19 (nq cl c1 a16 a18)
abbrev pZ:K:=UX (cl 220 [c1]) λx14=>dZ x14 (J7 cl c2)
abbrev J8:K:=UX (truthy c4) λt28=>aC t28 (if true=true then(pZ cl c1 c2)else(nq cl c2 c3 (.int (-1)))) (if false=true then(pZ cl c1 c2)else(nq cl c2 c3 (.int (-1))))
abbrev J9:K:=UX (aa c4 c1) λx27=>UX (cl 56 [x27]) (J8 cl c2 c3 c1)
abbrev J_:K:=UX (ab c1 (S "names") (TT cl)) (J9 cl c2 c3 c1)
abbrev Ka:K:=UX (af .Eq c4 (.str (S "html"))) λt24=>aC t24 (J_ cl c1 c2 c3) (if false=true then(pZ cl c3 c1)else(nq cl c1 c2 (.int (-1))))
abbrev Kb:K:=UX (ab c1 (S "spaces") (TT cl)) λx22=>UX (aa x22 c2) (Ka cl c1 c2 c3)
abbrev Kc:K:=UX (truthy c4) λt21=>aC t21 (Kb cl c1 c2 c3) (if false=true then(pZ cl c3 c1)else(nq cl c1 c2 (.int (-1))))
abbrev Kd:K:=UX (ab c1 (S "is_foster") (TT cl)) (Kc cl c2 c3 c1)
abbrev yp:K:=UX (af .Eq c3 (.int (-1))) λt4=>if t4=true then J3 else(Kd cl c1 c2 c3)
abbrev Ke:K:=ao (TT cl) c3 (S "current") (λk32=>k32 []) λx30=>yp cl c1 c2 x30
abbrev Kf:K:=UX (ab c1 (S "stack") (TT cl)) (Ke cl c1 c2)
abbrev Kg:K:=UX (af .Eq c1 (.int (-1))) λt29=>if t29=true then(Kf cl c2 c3)else(yp cl c2 c3 c1)
def yq(cl:Cl)(ae Kh:V):K:=UX (ab ae (S "tree") (TT cl)) (Kg cl Kh ae)
theorem Ki(n:Nat)(ae:V):cF (n+1) 228 [ae]=yq (cF n) ae (.int (-1)):=by kernel_rfl
abbrev Kj:K:=ao (TT cl) c4 (S "element") (λk3=>k3 [c1,c2,c3]) λx1=>UZ x1
def yr(cl:Cl)(ae az aW d6:V):K:=UX (ab ae (S "tree") (TT cl)) (Kj cl az d6 aW)
theorem Kk(n:Nat)(ae az aW d6:V):cF (n+1) 236 [ae,az,aW,d6]=yr (cF n) ae az aW d6:=by kernel_rfl
abbrev Kl:K:=ao (TT cl) c3 (S "append") (λk3=>UX (ab c1 (S "mode") (TT cl)) λx4=>k3 [(.tup [c2,x4])]) λx1=>if am x1=true then(UZ .none)else UY
def yt(cl:Cl)(ah bD:V):K:=UX (ab ah (S "errors") (TT cl)) (Kl cl ah bD)
theorem Km(n:Nat)(ah bD:V):cF (n+1) 586 [ah,bD]=yt (cF n) ah bD:=by kernel_rfl
abbrev Kn:K:=UX (ab c1 (S "owners") (TT cl)) λx14=>UX (bi x14 c2 c3) λ_=>UZ .none
abbrev Ko:K:=UX (ab c1 (S "form") (TT cl)) (Kn cl c1 c2)
abbrev Kp:K:=UX (truthy c3) λt12=>if(!t12)=true then(Ko cl c1 c2)else(UZ .none)
abbrev Kq:K:=ao (TT cl) c3 (S "has_name") (λk11=>k11 [.str (S "template")]) (Kp cl c1 c2)
abbrev sV:K:=UX (ab c1 (S "stack") (TT cl)) (Kq cl c1 c2)
abbrev Kr:K:=UX (af .IsNot c3 .none) λt18=>aC t18 (if true=true then(UZ .none)else(sV cl c1 c2)) (if false=true then(UZ .none)else(sV cl c1 c2))
abbrev Ks:K:=ao (TT cl) c1 (S "value") (λk17=>k17 [c2,.str (S "form")]) (Kr cl c3 c2)
abbrev Kt:K:=UX (af .NotEq c1 (.str (S "img"))) λt15=>aC t15 (Ks cl c2 c3 c4) (if false=true then(UZ .none)else(sV cl c4 c3))
abbrev Ku:K:=UX (af .NotIn c4 (.tup [.str (S "button"),.str (S "fieldset"),.str (S "input"),.str (S "object"),.str (S "output"),.str (S "select"),.str (S "textarea"),.str (S "img")])) λt6=>if t6=true then(UZ .none)else(Kt cl c4 c1 c2 c3)
abbrev Kv:K:=UX (ab c3 (S "names") (TT cl)) λx4=>UX (aa x4 c1) (Ku cl c3 c1 c2)
abbrev sW:K:=UX (ab c1 (S "tree") (TT cl)) (Kv cl c2 c1)
abbrev Kw:K:=UX (af .Eq c1 c4) λt23=>aC t23 (if true=true then(UZ .none)else(sW cl c2 c3)) (if false=true then(UZ .none)else(sW cl c2 c3))
abbrev Kx:K:=UX (ab c1 (S "context") (TT cl)) (Kw cl c3 c1 c2)
abbrev Ky:K:=UX (ab c1 (S "form") (TT cl)) (Kx cl c1 c2)
abbrev Kz:K:=UX (af .Eq c3 (.int (-1))) λt20=>aC t20 (if true=true then(UZ .none)else(sW cl c1 c2)) (Ky cl c1 c2)
def yu(cl:Cl)(ae aw:V):K:=UX (ab ae (S "form") (TT cl)) (Kz cl ae aw)
theorem KB(n:Nat)(ae aw:V):cF (n+1) 259 [ae,aw]=yu (cF n) ae aw:=by kernel_rfl
abbrev KC:K:=ao (TT cl) c2 (S "push") (λk13=>k13 [c1]) λx11=>if am x11=true then(UZ c1)else UY
abbrev KD:K:=UX (ab c1 (S "stack") (TT cl)) (KC cl c2)
abbrev KE:K:=ao (TT cl) c5 (S "insert") (λk10=>k10 [c1,c2,c3]) λx8=>if am x8=true then(KD cl c4 c2)else UY
abbrev KF:K:=UX (ab c1 (S "tree") (TT cl)) (KE cl c2 c4 c3 c1)
abbrev KG:K:=UX (cl 236 [c1,c2,c3,c4]) (KF cl c1 c5 c6)
abbrev KH(cl:Cl)(c1 c2 c3 c4 c5:V)(c6:List V):K:=cO c6 λa5 r6=>eT r6 (KG cl c1 c2 c3 c4 c5 a5)
def p7(cl:Cl)(ae az aW d6:V):K:=UX (cl 228 [ae]) λx1=>dZ x1 λr2=>cO r2 (KH cl ae az aW d6)
theorem KI(n:Nat)(ae az:V):cF (n+1) 245 [ae,az]=p7 (cF n) ae az (.tup []) (.str (S "html")):=by kernel_rfl
theorem KJ(n:Nat)(ae az aW:V):cF (n+1) 245 [ae,az,aW]=p7 (cF n) ae az aW (.str (S "html")):=by kernel_rfl
abbrev KK:K:=UX (cl 259 [c1,c2]) λx4=>if am x4=true then(UZ c2)else UY
abbrev KL:K:=UX (cl 245 [c1,c2,c3]) (KK cl c1)
def yv(cl:Cl)(ae aB:V):K:=UX (aa aB (.int 1)) λx2=>UX (aa aB (.int 2)) (KL cl ae x2)
theorem KM(n:Nat)(ae aB:V):cF (n+1) 252 [ae,aB]=yv (cF n) ae aB:=by kernel_rfl
abbrev KN:K:=ao (TT cl) c1 (S "pop_until") (λk6=>k6 [(.tup [.str (S "p")])]) λx4=>if am x4=true then(UZ .none)else UY
abbrev yw:K:=UX (ab c1 (S "stack") (TT cl)) (KN cl)
abbrev KO:K:=ao (TT cl) c1 (S "error") (λk12=>k12 [.str (S "open-elements")]) λx11=>if am x11=true then(yw cl c1)else UY
abbrev KP:K:=UX (af .NotEq c2 (.str (S "p"))) λt10=>if t10=true then(KO cl c1)else(yw cl c1)
abbrev KQ:K:=ao (TT cl) c2 (S "name") (λk9=>k9 []) (KP cl c1)
abbrev KR:K:=UX (ab c1 (S "stack") (TT cl)) (KQ cl c1)
abbrev KS:K:=UX (cl 213 [c2,.str (S "p")]) λx1=>if am x1=true then(KR cl c1)else UY
def KT(cl:Cl)(ae:V):K:=UX (ab ae (S "stack") (TT cl)) (KS cl ae)
theorem KU(n:Nat)(ae:V):cF (n+1) 266 [ae]=KT (cF n) ae:=by kernel_rfl
def yx(cl:Cl)(aR aw aW:V):K:=UX (ce aW) λit13=>cE true it13 (ca (TT cl) 23 iE.scope (ba iE.body [0])) (λvars=>bB (TT cl) 24 iE.scope iE.body 1 vars bH bI) (lA (some aR) (some aw) (some aW) .none .none)
theorem KV(n:Nat)(aR aw aW:V):cF (n+1) 273 [aR,aw,aW]=yx (cF n) aR aw aW:=by kernel_rfl
theorem KW(cl:Cl)(w_v aR aw aW:V)(az kc:Option V)(kn kb:Z->K):ca (TT cl) 23 iE.scope (ba iE.body [0]) w_v (lA (some aR) (some aw) (some aW) az kc) kn kb=(dZ w_v λr1=>cO r1 λa2 r3=>cO r3 λa4 r5=>eT r5 (ao (TT cl) aR (S "value") (λk7=>k7 [aw,a2]) λx6=>UX (af .Is x6 .none) λt8=>if t8=true then(UX (ab aR (S "attrs") (TT cl)) λx10=>UX (aa x10 aw) λx11=>ao (TT cl) x11 (S "append") (λk12=>k12 [(.tup [a2,a4])]) λx9=>if am x9=true then(kn (lA (some aR) (some aw) (some aW) (some a2) (some a4)))else UY)else(kn (lA (some aR) (some aw) (some aW) (some a2) (some a4)))):K):=by kernel_rfl
theorem KX(cl:Cl)(aR aw aW:V)(az kc:Option V):bB (TT cl) 24 iE.scope iE.body 1 (lA (some aR) (some aw) (some aW) az kc) bH bI=(UZ .none:K):=by kernel_rfl
abbrev KY:K:=ao (TT cl) c2 (S "pop_until") (λk6=>k6 [(.tup [c1])]) λx4=>if am x4=true then(UZ .none)else UY
abbrev yy:K:=UX (ab c1 (S "stack") (TT cl)) (KY cl c2)
abbrev KZ:K:=ao (TT cl) c1 (S "error") (λk12=>k12 [.str (S "open-elements")]) λx11=>if am x11=true then(yy cl c1 c2)else UY
abbrev K6:K:=UX (af .NotEq c3 c1) λt10=>if t10=true then(KZ cl c2 c1)else(yy cl c2 c1)
abbrev K7:K:=ao (TT cl) c3 (S "name") (λk9=>k9 []) (K6 cl c1 c2)
abbrev K8:K:=UX (ab c1 (S "stack") (TT cl)) (K7 cl c2 c1)
abbrev K9:K:=UX (cl 213 [c4,c1]) λx1=>if am x1=true then(K8 cl c2 c3)else UY
def K_(cl:Cl)(ae az de:V):K:=UX (ab ae (S "stack") (TT cl)) (K9 cl de ae az)
theorem La(n:Nat)(ae az de:V):cF (n+1) 281 [ae,az,de]=K_ (cF n) ae az de:=by kernel_rfl
abbrev Lb:K:=UX (cl 281 [c1,c2,c3]) λx4=>if am x4=true then(UZ .none)else UY
abbrev Lc:K:=ao (TT cl) c1 (S "error") (λk6=>k6 [.str (S "unexpected-end-tag")]) λx5=>if am x5=true then(UZ .none)else UY
abbrev Ld:K:=UX (truthy c4) λt3=>if t3=true then(Lb cl c1 c2 c3)else(Lc cl c1)
abbrev Le:K:=UX (cl 197 [c5,(.tup [c1]),c2]) (Ld cl c3 c1 c4)
def sX(cl:Cl)(ae az bC de:V):K:=UX (ab ae (S "stack") (TT cl)) (Le cl az bC ae de)
theorem Lf(n:Nat)(ae az:V):cF (n+1) 289 [ae,az]=sX (cF n) ae az (.str (S "")) (.str (S "")):=by kernel_rfl
theorem yz(n:Nat)(ae az bC de:V):cF (n+1) 289 [ae,az,bC,de]=sX (cF n) ae az bC de:=by kernel_rfl
abbrev yA:K:=UX (cl 266 [c1]) λx2=>if am x2=true then(UZ .none)else UY
abbrev Lg:K:=UX (cl 245 [c1,.str (S "p")]) λx8=>if am x8=true then(yA cl c1)else UY
abbrev Lh:K:=ao (TT cl) c1 (S "error") (λk7=>k7 [.str (S "unexpected-end-tag")]) λx6=>if am x6=true then(Lg cl c1)else UY
abbrev Li:K:=UX (truthy c2) λt5=>if(!t5)=true then(Lh cl c1)else(yA cl c1)
abbrev Lj:K:=UX (cl 197 [c2,(.tup [.str (S "p")]),.str (S "button")]) (Li cl c1)
def yB(cl:Cl)(ae:V):K:=UX (ab ae (S "stack") (TT cl)) (Lj cl ae)
theorem Lk(n:Nat)(ae:V):cF (n+1) 296 [ae]=yB (cF n) ae:=by kernel_rfl
abbrev Ll:K:=ao (TT cl) c1 (S "error") (λk5=>k5 [.str (S "unexpected-end-tag")]) λx4=>if am x4=true then(UZ .none)else UY
abbrev Lm:K:=ao (TT cl) c1 (S "pop_until") (λk11=>k11 [(.tup [.str (S "h1"),.str (S "h2"),.str (S "h3"),.str (S "h4"),.str (S "h5"),.str (S "h6")])]) λx9=>if am x9=true then(UZ .none)else UY
abbrev yC:K:=UX (ab c1 (S "stack") (TT cl)) (Lm cl)
abbrev Ln:K:=ao (TT cl) c1 (S "error") (λk17=>k17 [.str (S "open-elements")]) λx16=>if am x16=true then(yC cl c1)else UY
abbrev Lo:K:=UX (af .NotEq c3 c1) λt15=>if t15=true then(Ln cl c2)else(yC cl c2)
abbrev Lp:K:=ao (TT cl) c3 (S "name") (λk14=>k14 []) (Lo cl c1 c2)
abbrev Lq:K:=UX (ab c1 (S "stack") (TT cl)) (Lp cl c2 c1)
abbrev Lr:K:=UX (cl 213 [c3]) λx6=>if am x6=true then(Lq cl c1 c2)else UY
abbrev Ls:K:=UX (ab c1 (S "stack") (TT cl)) (Lr cl c1 c2)
abbrev Lu:K:=UX (truthy c3) λt3=>if(!t3)=true then(Ll cl c1)else(Ls cl c1 c2)
abbrev Lw:K:=UX (cl 197 [c3,(.tup [.str (S "h1"),.str (S "h2"),.str (S "h3"),.str (S "h4"),.str (S "h5"),.str (S "h6")])]) (Lu cl c1 c2)
def Lx(cl:Cl)(ae az:V):K:=UX (ab ae (S "stack") (TT cl)) (Lw cl ae az)
theorem Ly(n:Nat)(ae az:V):cF (n+1) 303 [ae,az]=Lx (cF n) ae az:=by kernel_rfl
abbrev Lz:K:=UX (cl 289 [c1,.str (S "form")]) λx5=>if am x5=true then(UZ .none)else UY
abbrev sY:K:=ao (TT cl) c1 (S "error") (λk10=>k10 [.str (S "unexpected-end-tag")]) λx9=>if am x9=true then(UZ .none)else UY
abbrev LA:K:=ao (TT cl) c2 (S "remove") (λk16=>k16 [c1]) λx14=>if am x14=true then(UZ .none)else UY
abbrev yD:K:=UX (ab c1 (S "stack") (TT cl)) (LA cl c2)
abbrev LB:K:=ao (TT cl) c1 (S "error") (λk22=>k22 [.str (S "open-elements")]) λx21=>if am x21=true then(yD cl c1 c2)else UY
abbrev LC:K:=UX (af .NotEq c3 c1) λt20=>if t20=true then(LB cl c2 c1)else(yD cl c2 c1)
abbrev LD:K:=ao (TT cl) c3 (S "current") (λk19=>k19 []) (LC cl c1 c2)
abbrev LE:K:=UX (ab c1 (S "stack") (TT cl)) (LD cl c2 c1)
abbrev LF:K:=UX (cl 213 [c3]) λx11=>if am x11=true then(LE cl c1 c2)else UY
abbrev sZ:K:=UX (ab c1 (S "stack") (TT cl)) (LF cl c1 c2)
abbrev LG:K:=UX (truthy c3) λt26=>aC (!t26) (if true=true then(sY cl c1)else(sZ cl c1 c2)) (if false=true then(sY cl c1)else(sZ cl c1 c2))
abbrev LH:K:=UX (cl 205 [c3,c1]) (LG cl c2 c1)
abbrev LI:K:=UX (ab c1 (S "stack") (TT cl)) (LH cl c2 c1)
abbrev LJ:K:=UX (af .Eq c1 (.int (-1))) λt23=>aC t23 (if true=true then(sY cl c2)else(sZ cl c2 c1)) (LI cl c2 c1)
abbrev LK:K:=UX (a_ c1 (S "form") (.int (-1)) (TT cl)) λ_=>LJ cl c2 c1
abbrev LL:K:=UX (ab c1 (S "form") (TT cl)) (LK cl c1)
abbrev LM:K:=UX (truthy c2) λt4=>if t4=true then(Lz cl c1)else(LL cl c1)
abbrev LN:K:=ao (TT cl) c2 (S "has_name") (λk3=>k3 [.str (S "template")]) (LM cl c1)
def yE(cl:Cl)(ae:V):K:=UX (ab ae (S "stack") (TT cl)) (LN cl ae)
theorem LO(n:Nat)(ae:V):cF (n+1) 310 [ae]=yE (cF n) ae:=by kernel_rfl
abbrev LP:K:=UX (cl 296 [c1]) λx2=>if am x2=true then(UZ .none)else UY
abbrev LQ:K:=UX (cl 310 [c1]) λx4=>if am x4=true then(UZ .none)else UY
abbrev LS:K:=UX (cl 289 [c1,c2,.str (S "list item"),c2]) λx6=>if am x6=true then(UZ .none)else UY
abbrev LT:K:=UX (cl 289 [c1,c2,.str (S ""),c2]) λx8=>if am x8=true then(UZ .none)else UY
abbrev LU:K:=UX (cl 303 [c1,c2]) λx11=>if am x11=true then(UZ .none)else UY
abbrev LV:K:=UX (cl 289 [c1,c2]) λx12=>if am x12=true then(UZ .none)else UY
abbrev LW:K:=UX (truthy c3) λt10=>if t10=true then(LU cl c1 c2)else(LV cl c1 c2)
abbrev LX:K:=UX (af .In c1 (.tup [.str (S "dd"),.str (S "dt")])) λt7=>if t7=true then(LT cl c2 c1)else(UX (cl 49 [c1]) (LW cl c2 c1))
abbrev LY:K:=UX (af .Eq c1 (.str (S "li"))) λt5=>if t5=true then(LS cl c2 c1)else(LX cl c1 c2)
abbrev LZ:K:=UX (af .Eq c1 (.str (S "form"))) λt3=>if t3=true then(LQ cl c2)else(LY cl c1 c2)
def yF(cl:Cl)(ae az:V):K:=UX (af .Eq az (.str (S "p"))) λt1=>if t1=true then(LP cl ae)else(LZ cl az ae)
theorem L0(n:Nat)(ae az:V):cF (n+1) 317 [ae,az]=yF (cF n) ae az:=by kernel_rfl
def yG(cl:Cl)(ah aR:V):K:=UX (a_ ah (S "tree") aR (TT cl)) λ_=>UX (aF (.list [])) λx1=>UX (a_ ah (S "items") x1 (TT cl)) λ_=>UZ .none
theorem L1(n:Nat)(ah aR:V):cF (n+1) 363 [ah,aR]=yG (cF n) ah aR:=by kernel_rfl
def yH(cl:Cl)(ah p8 L2:V):K:=UX (a_ ah (S "rules") p8 (TT cl)) λ_=>UX (gZ (TT cl) rP []) λx1=>UX (a_ ah (S "tree") x1 (TT cl)) λ_=>UX (ab ah (S "tree") (TT cl)) λx3=>UX (gZ (TT cl) rN [x3]) λx2=>UX (a_ ah (S "stack") x2 (TT cl)) λ_=>UX (ab ah (S "tree") (TT cl)) λx5=>UX (gZ (TT cl) rO [x5]) λx4=>UX (a_ ah (S "formatting") x4 (TT cl)) λ_=>UX (a_ ah (S "mode") (.str (S "initial")) (TT cl)) λ_=>UX (a_ ah (S "original") (.str (S "")) (TT cl)) λ_=>UX (aF (.list [])) λx6=>UX (a_ ah (S "modes") x6 (TT cl)) λ_=>UX (a_ ah (S "head") (.int (-1)) (TT cl)) λ_=>UX (a_ ah (S "form") (.int (-1)) (TT cl)) λ_=>UX (aF (.dict [] (some 0))) λo7=>UX (a_ ah (S "owners") o7 (TT cl)) λ_=>UX (a_ ah (S "is_frameset_ok") (.bool true) (TT cl)) λ_=>UX (a_ ah (S "is_scripting") L2 (TT cl)) λ_=>UX (a_ ah (S "is_foster") (.bool false) (TT cl)) λ_=>UX (a_ ah (S "context") (.int (-1)) (TT cl)) λ_=>UX (a_ ah (S "quirks") (.str (S "no-quirks")) (TT cl)) λ_=>UX (aF (.list [])) λx8=>UX (a_ ah (S "errors") x8 (TT cl)) λ_=>UX (aF (.list [])) λx9=>UX (a_ ah (S "pending") x9 (TT cl)) λ_=>UX (a_ ah (S "wish") (.str (S "")) (TT cl)) λ_=>UX (a_ ah (S "is_skipping") (.bool false) (TT cl)) λ_=>UX (a_ ah (S "is_acknowledged") (.bool false) (TT cl)) λ_=>UX (a_ ah (S "is_done") (.bool false) (TT cl)) λ_=>UZ .none
theorem L3(n:Nat)(ah p8:V):cF (n+1) 579 [ah,p8]=yH (cF n) ah p8 (.bool false):=by kernel_rfl
def yI(cl:Cl)(ah p9:V):K:=UX (a_ ah (S "mode") p9 (TT cl)) λ_=>UZ .none
theorem L4(n:Nat)(ah p9:V):cF (n+1) 593 [ah,p9]=yI (cF n) ah p9:=by kernel_rfl
def L5(cl:Cl)(ae aB:V):K:=UX (ab ae (S "errors") (TT cl)) λx2=>ao (TT cl) x2 (S "append") (λk3=>UX (ab ae (S "mode") (TT cl)) λx4=>k3 [(.tup [.str (S "in head"),aB,x4])]) λx1=>if am x1=true then(UZ .none)else UY
theorem L6(n:Nat)(ae aB:V):cF (n+1) 747 [ae,aB]=L5 (cF n) ae aB:=by kernel_rfl
def L7(cl:Cl)(ae aB:V):K:=UX (ab ae (S "errors") (TT cl)) λx2=>ao (TT cl) x2 (S "append") (λk3=>UX (ab ae (S "mode") (TT cl)) λx4=>k3 [(.tup [.str (S "in template"),aB,x4])]) λx1=>if am x1=true then(UZ .none)else UY
theorem L8(n:Nat)(ae aB:V):cF (n+1) 754 [ae,aB]=L7 (cF n) ae aB:=by kernel_rfl
def L9(cl:Cl)(ae aB:V):K:=UX (ab ae (S "errors") (TT cl)) λx2=>ao (TT cl) x2 (S "append") (λk3=>UX (ab ae (S "mode") (TT cl)) λx4=>k3 [(.tup [.str (S "after body"),aB,x4])]) λx1=>if am x1=true then(UZ .none)else UY
theorem L_(n:Nat)(ae aB:V):cF (n+1) 761 [ae,aB]=L9 (cF n) ae aB:=by kernel_rfl
def Ma(cl:Cl)(ae aB:V):K:=UX (ab ae (S "errors") (TT cl)) λx2=>ao (TT cl) x2 (S "append") (λk3=>UX (ab ae (S "mode") (TT cl)) λx4=>k3 [(.tup [.str (S "foreign content"),aB,x4])]) λx1=>if am x1=true then(UZ .none)else UY
theorem Mb(n:Nat)(ae aB:V):cF (n+1) 768 [ae,aB]=Ma (cF n) ae aB:=by kernel_rfl
abbrev s3:K:=UX (ab c1 (S "context") (TT cl)) λx3=>UZ x3
abbrev Mc:K:=ao (TT cl) c1 (S "current") (λk6=>k6 []) λx4=>UZ x4
abbrev s5:K:=UX (ab c1 (S "stack") (TT cl)) (Mc cl)
abbrev Md:K:=UX (af .NotEq c2 (.int (-1))) λt12=>aC t12 (if true=true then(s3 cl c1)else(s5 cl c1)) (if false=true then(s3 cl c1)else(s5 cl c1))
abbrev Mf:K:=UX (ab c1 (S "context") (TT cl)) (Md cl c1)
abbrev Mg:K:=UX (af .Eq c2 (.int 1)) λt10=>aC t10 (Mf cl c1) (if false=true then(s3 cl c1)else(s5 cl c1))
abbrev Mh:K:=ao (TT cl) c2 (S "many") (λk9=>k9 []) (Mg cl c1)
def yJ(cl:Cl)(ah:V):K:=UX (ab ah (S "stack") (TT cl)) (Mh cl ah)
theorem Mi(n:Nat)(ah:V):cF (n+1) 621 [ah]=yJ (cF n) ah:=by kernel_rfl
abbrev Mj:K:=UX (af .NotEq c0 (.str (S "html"))) λt10=>z1 (.bool t10)
abbrev Mk:K:=UX (ab c2 (S "spaces") (TT cl)) λx8=>UX (aa x8 c1) Mj
abbrev Ml:K:=UX (ab c1 (S "tree") (TT cl)) (Mk cl c2)
abbrev Mm(cl:Cl)(c1 c2:V)(c3:Bool):K:=UX (truthy (.bool c3)) λt6=>aC t6 (Ml cl c1 c2) (z1 (.bool c3))
abbrev Mn:K:=UX (af .NotEq c2 (.int (-1))) (Mm cl c1 c2)
def yK(cl:Cl)(ah:V):K:=ao (TT cl) ah (S "adjusted") (λk2=>k2 []) (Mn cl ah)
theorem Mo(n:Nat)(ah:V):cF (n+1) 628 [ah]=yK (cF n) ah:=by kernel_rfl
abbrev Mp:K:=UX (truthy c3) λt11=>aC t11 (z1 c3) (UX (cl 70 [c1,c2]) λx12=>z1 x12)
abbrev Mq:K:=UX (cl 63 [c1,c2]) (Mp cl c1 c2)
abbrev Mr:K:=UX (af .Eq c3 (.str (S "svg"))) λt27=>aC t27 (if true=true then(UZ (.bool true))else(UX (cl 70 [c1,c2]) λx19=>UZ x19)) (if false=true then(UZ (.bool true))else(UX (cl 70 [c1,c2]) λx19=>UZ x19))
abbrev Ms:K:=UX (af .Eq c4 (.str (S "annotation-xml"))) λt25=>aC t25 (UX (aa c1 (.int 1)) (Mr cl c2 c3)) (if false=true then(UZ (.bool true))else(UX (cl 70 [c2,c3]) λx19=>UZ x19))
abbrev Mt:K:=UX (ab c1 (S "names") (TT cl)) λx23=>UX (aa x23 c2) (Ms cl c3 c1 c2)
abbrev Mu:K:=UX (af .Eq c4 (.str (S "math"))) λt22=>aC t22 (Mt cl c1 c2 c3) (if false=true then(UZ (.bool true))else(UX (cl 70 [c1,c2]) λx19=>UZ x19))
abbrev s7:K:=UX (ab c1 (S "spaces") (TT cl)) λx20=>UX (aa x20 c2) (Mu cl c1 c2 c3)
abbrev Mv:K:=UX (af .NotIn c4 (.tup [.str (S "mglyph"),.str (S "malignmark")])) λt31=>aC t31 (if true=true then(UZ (.bool true))else(s7 cl c1 c2 c3)) (if false=true then(UZ (.bool true))else(s7 cl c1 c2 c3))
abbrev Mw:K:=UX (aa c1 (.int 1)) (Mv cl c2 c3 c1)
abbrev Mx:K:=UX (truthy c4) λt29=>aC t29 (Mw cl c1 c2 c3) (if false=true then(UZ (.bool true))else(s7 cl c2 c3 c1))
abbrev My:K:=UX (cl 63 [c1,c2]) (Mx cl c3 c1 c2)
abbrev Mz:K:=UX (af .NotEq c4 (.str (S "start"))) λt14=>if t14=true then(UZ (.bool false))else(My cl c1 c2 c3)
abbrev MA:K:=UX (aa c1 (.int 0)) (Mz cl c2 c3 c1)
abbrev MB:K:=UX (af .Eq c4 (.str (S "char"))) λt7=>if t7=true then(Mq cl c1 c2)else(MA cl c3 c1 c2)
abbrev MC:K:=UX (aa c1 (.int 0)) (MB cl c2 c3 c1)
abbrev MD:K:=ao (TT cl) c1 (S "adjusted") (λk5=>k5 []) (MC cl c2 c3)
abbrev s8:K:=UX (ab c1 (S "tree") (TT cl)) (MD cl c1 c2)
abbrev ME:K:=UX (af .Eq c3 (.str (S "eof"))) λt36=>aC t36 (if true=true then(UZ (.bool true))else(s8 cl c1 c2)) (if false=true then(UZ (.bool true))else(s8 cl c1 c2))
abbrev MF:K:=UX (truthy c3) λt34=>aC (!t34) (if true=true then(UZ (.bool true))else(s8 cl c1 c2)) (UX (aa c2 (.int 0)) (ME cl c1 c2))
def yL(cl:Cl)(ae aB:V):K:=ao (TT cl) ae (S "is_foreign") (λk33=>k33 []) (MF cl ae aB)
theorem MG(n:Nat)(ae aB:V):cF (n+1) 642 [ae,aB]=yL (cF n) ae aB:=by kernel_rfl
abbrev MH:K:=vG (TT cl) c3 (λk6=>k6 [c1,c2]) λx5=>if am x5=true then(UZ .none)else UY
abbrev MI:K:=UX (ab c1 (S "rules") (TT cl)) λx3=>UX (aa x3 c2) (MH cl c1 c3)
abbrev MJ:K:=UX (af .NotIn c1 c4) λt2=>if t2=true then UY else(MI cl c2 c1 c3)
def yM(cl:Cl)(ah az aB:V):K:=UX (ab ah (S "rules") (TT cl)) (MJ cl az ah aB)
theorem MK(n:Nat)(ah az aB:V):cF (n+1) 600 [ah,az,aB]=yM (cF n) ah az aB:=by kernel_rfl
abbrev ML:K:=ao (TT cl) c1 (S "use") (λk4=>UX (ab c1 (S "mode") (TT cl)) λx5=>k4 [x5,c2]) λx3=>if am x3=true then(UZ .none)else UY
abbrev MM:K:=ao (TT cl) c1 (S "use") (λk7=>k7 [.str (S "foreign content"),c2]) λx6=>if am x6=true then(UZ .none)else UY
abbrev MN:K:=UX (truthy c3) λt2=>if t2=true then(ML cl c1 c2)else(MM cl c1 c2)
def yN(cl:Cl)(ah aB:V):K:=UX (cl 642 [ah,aB]) (MN cl ah aB)
theorem MO(n:Nat)(ah aB:V):cF (n+1) 607 [ah,aB]=yN (cF n) ah aB:=by kernel_rfl
def yO(cl:Cl)(ae:V):K:=ly (hU (TT cl) 23 fw.scope (ba fw.body [0])) (hV (TT cl) 23 fw.scope (ba fw.body [0])) (λvars=>bB (TT cl) 24 fw.scope fw.body 1 vars bH bI) (lB (some ae))
theorem MP(n:Nat)(ae:V):cF (n+1) 649 [ae]=yO (cF n) ae:=by kernel_rfl
abbrev MQ(cl:Cl)(c1:Z->K)(c2 c3:V):K:=ao (TT cl) c3 (S "pop") (λk7=>k7 []) λx5=>if am x5=true then(c1 (lB (some c2)))else UY
theorem MR(cl:Cl)(ae:V)(kn kb:Z->K):hV (TT cl) 23 fw.scope (ba fw.body [0]) (lB (some ae)) kn kb=(UX (ab ae (S "stack") (TT cl)) (MQ cl kn ae):K):=by kernel_rfl
abbrev MS(cl:Cl)(c1:Bool->K)(c2:V):K:=ao (TT cl) c2 (S "many") (λk3=>k3 []) λx1=>UX (af .Gt x1 (.int 0)) λt4=>c1 t4
theorem MT(cl:Cl)(ae:V)(kt:Bool->K):hU (TT cl) 23 fw.scope (ba fw.body [0]) (lB (some ae)) kt=(UX (ab ae (S "stack") (TT cl)) (MS cl kt):K):=by kernel_rfl
theorem MU(cl:Cl)(ae:V):bB (TT cl) 24 fw.scope fw.body 1 (lB (some ae)) bH bI=(UX (a_ ae (S "is_done") (.bool true) (TT cl)) λ_=>UZ .none:K):=by kernel_rfl
abbrev MV(c0:List V->K)(c1:V):K:=UX (aa c1 (.int 1)) λx12=>c0 [x12,.str (S "body")]
abbrev MW:K:=ao (TT cl) c2 (S "is_html") (λk10=>UX (ab c1 (S "items") (TT cl)) (MV k10)) λx8=>z1 x8
abbrev MX:K:=UX (ab c1 (S "tree") (TT cl)) (MW cl c2)
abbrev MY(cl:Cl)(c1 c2:V)(c3:Bool):K:=UX (truthy (.bool c3)) λt7=>aC t7 (MX cl c1 c2) (z1 (.bool c3))
abbrev MZ:K:=UX (af .Gt c3 (.int 1)) (MY cl c1 c2)
abbrev M0:K:=ao (TT cl) c2 (S "many") (λk5=>k5 []) (MZ cl c1 c2)
def yP(cl:Cl)(ae:V):K:=UX (ab ae (S "stack") (TT cl)) (M0 cl ae)
theorem M1(n:Nat)(ae:V):cF (n+1) 656 [ae]=yP (cF n) ae:=by kernel_rfl
abbrev M2:K:=UX (cl 273 [c1,c2,c3]) λx7=>if am x7=true then(UZ .none)else UY
abbrev M3:K:=UX (aa c3 (.int 0)) λx11=>UX (aa c1 (.int 2)) (M2 cl c2 x11)
abbrev M4:K:=UX (ab c3 (S "items") (TT cl)) (M3 cl c1 c2)
abbrev M5:K:=UX (ab c1 (S "stack") (TT cl)) (M4 cl c2 c3)
abbrev M6:K:=UX (ab c1 (S "tree") (TT cl)) (M5 cl c1 c2)
abbrev M7:K:=UX (truthy c3) λt6=>if(!t6)=true then(M6 cl c1 c2)else(UZ .none)
abbrev M8:K:=ao (TT cl) c3 (S "has_name") (λk5=>k5 [.str (S "template")]) (M7 cl c1 c2)
abbrev M9:K:=UX (ab c1 (S "stack") (TT cl)) (M8 cl c1 c2)
def yQ(cl:Cl)(ae aB:V):K:=ao (TT cl) ae (S "error") (λk2=>k2 [.str (S "unexpected-start-tag")]) λx1=>if am x1=true then(M9 cl ae aB)else UY
theorem M_(n:Nat)(ae aB:V):cF (n+1) 663 [ae,aB]=yQ (cF n) ae aB:=by kernel_rfl
abbrev Na:K:=UX (cl 273 [c1,c2,c3]) λx5=>if am x5=true then(UZ .none)else UY
abbrev Nb:K:=UX (aa c3 (.int 1)) λx9=>UX (aa c1 (.int 2)) (Na cl c2 x9)
abbrev Nc:K:=UX (ab c3 (S "items") (TT cl)) (Nb cl c1 c2)
abbrev Nd:K:=UX (ab c1 (S "stack") (TT cl)) (Nc cl c2 c3)
abbrev Nf:K:=UX (ab c1 (S "tree") (TT cl)) (Nd cl c1 c2)
abbrev s9:K:=UX (a_ c1 (S "is_frameset_ok") (.bool false) (TT cl)) λ_=>Nf cl c1 c2
abbrev Ng:K:=UX (truthy c3) λt16=>aC (!t16) (if true=true then(s9 cl c1 c2)else(UZ .none)) (if false=true then(s9 cl c1 c2)else(UZ .none))
abbrev Nh:K:=ao (TT cl) c3 (S "has_name") (λk15=>k15 [.str (S "template")]) (Ng cl c1 c2)
abbrev Ni:K:=UX (ab c1 (S "stack") (TT cl)) (Nh cl c1 c2)
abbrev Nj:K:=UX (truthy c3) λt12=>aC t12 (Ni cl c1 c2) (if false=true then(s9 cl c1 c2)else(UZ .none))
def yR(cl:Cl)(ae aB:V):K:=ao (TT cl) ae (S "error") (λk2=>k2 [.str (S "unexpected-start-tag")]) λx1=>if am x1=true then(UX (cl 656 [ae]) (Nj cl ae aB))else UY
theorem Nk(n:Nat)(ae aB:V):cF (n+1) 670 [ae,aB]=yR (cF n) ae aB:=by kernel_rfl
abbrev Nl(c0:List V->K)(c1:V):K:=UX (aa c1 (.int 1)) λx10=>c0 [x10]
abbrev Nn:K:=ly (hU (TT cl) 23 fy.scope (ba fy.body [4])) (hV (TT cl) 23 fy.scope (ba fy.body [4])) (λvars=>bB (TT cl) 24 fy.scope fy.body 5 vars bH bI) (lC (some c1) (some c2) (some c3))
abbrev No:K:=ao (TT cl) c4 (S "remove") (λk8=>UX (ab c1 (S "items") (TT cl)) (Nl k8)) λx6=>if am x6=true then(Nn cl c2 c3 c1)else UY
abbrev Np:K:=UX (ab c1 (S "tree") (TT cl)) (No cl c3 c1 c2)
abbrev s_:K:=UX (ab c1 (S "stack") (TT cl)) (Np cl c1 c2)
abbrev Nq:K:=UX (truthy c3) λt22=>aC (!t22) (if true=true then(UZ .none)else(s_ cl c1 c2)) (if false=true then(UZ .none)else(s_ cl c1 c2))
abbrev Nr:K:=UX (ab c1 (S "is_frameset_ok") (TT cl)) (Nq cl c1 c2)
abbrev Nt:K:=UX (truthy c3) λt20=>aC (!t20) (if true=true then(UZ .none)else(s_ cl c1 c2)) (Nr cl c1 c2)
def yS(cl:Cl)(ae aB:V):K:=ao (TT cl) ae (S "error") (λk2=>k2 [.str (S "unexpected-start-tag")]) λx1=>if am x1=true then(UX (cl 656 [ae]) (Nt cl ae aB))else UY
theorem Nu(n:Nat)(ae aB:V):cF (n+1) 677 [ae,aB]=yS (cF n) ae aB:=by kernel_rfl
theorem Nv(cl:Cl)(ae aB be:V)(kn kb:Z->K):hV (TT cl) 23 fy.scope (ba fy.body [4]) (lC (some ae) (some aB) (some be)) kn kb=(ao (TT cl) be (S "pop") (λk15=>k15 []) λx14=>if am x14=true then(kn (lC (some ae) (some aB) (some be)))else UY:K):=by kernel_rfl
theorem Ny(cl:Cl)(ae aB be:V)(kt:Bool->K):hU (TT cl) 23 fy.scope (ba fy.body [4]) (lC (some ae) (some aB) (some be)) kt=(ao (TT cl) be (S "many") (λk12=>k12 []) λx11=>UX (af .Gt x11 (.int 1)) λt13=>kt t13:K):=by kernel_rfl
abbrev Nz:K:=ao (TT cl) c1 (S "to") (λk18=>k18 [.str (S "in frameset")]) λx17=>if am x17=true then(UZ .none)else UY
theorem NA(cl:Cl)(ae aB be:V):bB (TT cl) 24 fy.scope fy.body 5 (lC (some ae) (some aB) (some be)) bH bI=(UX (cl 252 [ae,aB]) λx16=>if am x16=true then(Nz cl ae)else UY:K):=by kernel_rfl
abbrev NB(cl:Cl)(c1 c2 c3:V)(c4:It):K:=cE false c4 (ca (TT cl) 23 iG.scope (ba iG.body [2])) (λvars=>bB (TT cl) 24 iG.scope iG.body 3 vars bH bI) (j5 (some c1) (some c2) (some c3) .none)
abbrev NC:K:=UX (ab c4 (S "items") (TT cl)) λx16=>UX (ce x16) (NB cl c1 c2 c3)
abbrev ND:K:=UX (ab c1 (S "stack") (TT cl)) (NC cl c1 c2 c3)
abbrev NE:K:=UX (ax .Add c3 (.tup [.str (S "tbody"),.str (S "td"),.str (S "tfoot"),.str (S "th"),.str (S "thead"),.str (S "tr"),.str (S "body"),.str (S "html")])) (ND cl c1 c2)
def yT(cl:Cl)(ae:V):K:=UX (ab ae (S "tree") (TT cl)) λx1=>UX (cl 77 []) (NE cl ae x1)
theorem NF(n:Nat)(ae:V):cF (n+1) 684 [ae]=yT (cF n) ae:=by kernel_rfl
abbrev ta:K:=ao (TT cl) c1 (S "error") (λk7=>k7 [.str (S "open-elements")]) λx6=>if am x6=true then(UZ .none)else UY
abbrev NG(cl:Cl)(c1 c2:V)(c3:Z->K)(c4 c5 c6:V):K:=UX (af .NotIn c6 c1) λt13=>aC t13 (if true=true then(ta cl c2)else(c3 (j5 (some c2) (some c4) (some c1) (some c5)))) (if false=true then(ta cl c2)else(c3 (j5 (some c2) (some c4) (some c1) (some c5))))
abbrev NH(cl:Cl)(c1 c2 c3 c4:V)(c5:Z->K):K:=UX (ab c1 (S "names") (TT cl)) λx11=>UX (aa x11 c2) (NG cl c3 c4 c5 c1 c2)
abbrev NI(cl:Cl)(c1:V)(c2:Z->K)(c3 c4 c5 c6:V):K:=UX (af .NotEq c6 (.str (S "html"))) λt10=>aC t10 (if true=true then(ta cl c1)else(c2 (j5 (some c1) (some c3) (some c4) (some c5)))) (NH cl c3 c5 c4 c1 c2)
theorem NJ(cl:Cl)(w_v ae aR aY:V)(aw:Option V)(kn kb:Z->K):ca (TT cl) 23 iG.scope (ba iG.body [2]) w_v (j5 (some ae) (some aR) (some aY) aw) kn kb=(UX (ab aR (S "spaces") (TT cl)) λx8=>UX (aa x8 w_v) (NI cl ae kn aR aY w_v):K):=by kernel_rfl
theorem NK(cl:Cl)(ae aR aY:V)(aw:Option V):bB (TT cl) 24 iG.scope iG.body 3 (j5 (some ae) (some aR) (some aY) aw) bH bI=(UZ .none:K):=by kernel_rfl
abbrev NL:K:=ao (TT cl) c1 (S "error") (λk5=>k5 [.str (S "unexpected-end-tag")]) λx4=>if am x4=true then(UZ (.bool false))else UY
abbrev NM:K:=ao (TT cl) c1 (S "to") (λk8=>k8 [.str (S "after body")]) λx7=>if am x7=true then(UZ (.bool true))else UY
abbrev NN:K:=UX (cl 684 [c1]) λx6=>if am x6=true then(NM cl c1)else UY
abbrev NO:K:=UX (truthy c2) λt3=>if(!t3)=true then(NL cl c1)else(NN cl c1)
abbrev NP:K:=UX (cl 197 [c2,(.tup [.str (S "body")])]) (NO cl c1)
def yU(cl:Cl)(ae:V):K:=UX (ab ae (S "stack") (TT cl)) (NP cl ae)
theorem NQ(n:Nat)(ae:V):cF (n+1) 691 [ae]=yU (cF n) ae:=by kernel_rfl
abbrev NR:K:=ao (TT cl) c1 (S "use") (λk5=>k5 [.str (S "in template"),c2]) λx4=>if am x4=true then(UZ .none)else UY
abbrev NS:K:=UX (cl 649 [c1]) λx7=>if am x7=true then(UZ .none)else UY
abbrev NT:K:=UX (cl 684 [c1]) λx6=>if am x6=true then(NS cl c1)else UY
abbrev NU:K:=UX (af .Gt c3 (.int 0)) λt3=>if t3=true then(NR cl c1 c2)else(NT cl c1)
def yV(cl:Cl)(ae aB:V):K:=UX (ab ae (S "modes") (TT cl)) λx2=>UX (bw x2) (NU cl ae aB)
theorem NV(n:Nat)(ae aB:V):cF (n+1) 698 [ae,aB]=yV (cF n) ae aB:=by kernel_rfl
abbrev NW:K:=UX (cl 663 [c1,c2]) λx3=>if am x3=true then(UZ .none)else UY
abbrev NX:K:=UX (cl 670 [c1,c2]) λx6=>if am x6=true then(UZ .none)else UY
abbrev NY:K:=UX (cl 677 [c1,c2]) λx9=>if am x9=true then(UZ .none)else UY
abbrev yW:K:=ao (TT cl) c1 (S "use") (λk11=>k11 [.str (S "in head"),c2]) λx10=>if am x10=true then(UZ .none)else UY
abbrev NZ:K:=UX (af .Eq c3 (.str (S "frameset"))) λt8=>if t8=true then(NY cl c1 c2)else(yW cl c1 c2)
abbrev N0:K:=UX (af .Eq c3 (.str (S "body"))) λt5=>if t5=true then(NX cl c1 c2)else(UX (aa c2 (.int 1)) (NZ cl c1 c2))
abbrev N2:K:=UX (af .Eq c3 (.str (S "html"))) λt2=>if t2=true then(NW cl c1 c2)else(UX (aa c2 (.int 1)) (N0 cl c1 c2))
def yX(cl:Cl)(ae aB:V):K:=UX (aa aB (.int 1)) (N2 cl ae aB)
theorem N3(n:Nat)(ae aB:V):cF (n+1) 705 [ae,aB]=yX (cF n) ae aB:=by kernel_rfl
abbrev N4:K:=UX (cl 691 [c1]) λx3=>if am x3=true then(UZ .none)else UY
abbrev N5:K:=ao (TT cl) c1 (S "process") (λk9=>k9 [c2]) λx8=>if am x8=true then(UZ .none)else UY
abbrev N6:K:=UX (truthy c3) λt7=>if t7=true then(N5 cl c1 c2)else(UZ .none)
abbrev N7:K:=UX (af .Eq c3 (.str (S "html"))) λt5=>if t5=true then(UX (cl 691 [c1]) (N6 cl c1 c2))else(yW cl c1 c2)
abbrev N8:K:=UX (af .Eq c3 (.str (S "body"))) λt2=>if t2=true then(N4 cl c1)else(UX (aa c2 (.int 1)) (N7 cl c1 c2))
def yY(cl:Cl)(ae aB:V):K:=UX (aa aB (.int 1)) (N8 cl ae aB)
theorem N9(n:Nat)(ae aB:V):cF (n+1) 712 [ae,aB]=yY (cF n) ae aB:=by kernel_rfl
def yZ(cl:Cl)(bp eu:V):K:=jp (λ(x2:V)=>(UZ x2:K)) λj1=>UX (bw bp) λx3=>UX (af .Lt eu x3) λt4=>if t4=true then UX (aa bp eu) λx5=>(j1 x5)else(j1 (.int 0))
theorem N_(n:Nat)(bp eu:V):cF (n+1) 719 [bp,eu]=yZ (cF n) bp eu:=by kernel_rfl
def Oa(cl:Cl):K:=UZ (.tup [(.tup [.str (S "html body ul li span p"),.str (S "/li /p /dl eof"),(.int 0),(.int 0),(.int 0)]),(.tup [.str (S "html body li ol dd p"),.str (S "/li /dd /h2 /body"),(.int 1),(.int 0),(.int 1)]),(.tup [.str (S "html body h1 h3 rt"),.str (S "/h3 /h2 /html <html"),(.int 0),(.int 0),(.int 0)]),(.tup [.str (S "html body form div p"),.str (S "/form /form /div <meta"),(.int 2),(.int 0),(.int 0)]),(.tup [.str (S "html body form td p svg:g"),.str (S "/form /p <body <frameset"),(.int 2),(.int 0),(.int 0)]),(.tup [.str (S "html body template form option"),.str (S "/form <html <body eof"),(.int 1),(.int 1),(.int 0)]),(.tup [.str (S "html body span svg:p"),.str (S "/html <frameset /body /html"),(.int 0),(.int 0),(.int 0)]),(.tup [.str (S "html frameset li p"),.str (S "<body /li <frameset /template"),(.int 1),(.int 1),(.int 0)]),(.tup [.str (S "html"),.str (S "<body <frameset <html eof"),(.int 0),(.int 0),(.int 1)])])
theorem Ob(n:Nat):cF (n+1) 726 []=Oa (cF n):=by kernel_rfl
def y2(cl:Cl):K:=ao (TT cl) (.str (S "/li /dd /dt /p /form /h1 /h2 /h3 /h4 /h5 /h6 /body /html /template <html <body <frameset <meta eof /div")) (S "split") (λk2=>k2 []) λx1=>UX (ax .Add (.str (S "/ul /ol /dl /address /article /aside /blockquote /button /center /details /dialog /dir /fieldset")) (.str (S " /listing /main /nav /pre /search /section /summary"))) λx4=>ao (TT cl) x4 (S "split") (λk5=>k5 []) λx3=>UX (ax .Add x1 x3) λx6=>UZ x6
theorem Oc(n:Nat):cF (n+1) 733 []=y2 (cF n):=by kernel_rfl
def y3(cl:Cl)(bp bR bX:V):K:=UX (ax .Add (.str (S "p li dd dt ul ol div address button h1 h6 form template td table svg:desc svg:g svg:p math:mi math:mrow")) (.str (S " "))) λx2=>UX (ax .Add x2 (.str (S "span b rt option optgroup tbody tr th caption object applet math:annotation-xml body frameset h3 h4"))) λx3=>ao (TT cl) x3 (S "split") (λk4=>k4 []) λx1=>ao (TT cl) bX (S "split") (λk6=>k6 []) λx5=>UX (ce (.tup [(.int 1),(.int 2)])) λit39=>cE false it39 (ca (TT cl) 23 d3.scope (ba d3.body [4])) (λvars=>bB (TT cl) 24 d3.scope d3.body 5 vars bH bI) (eW (some bp) (some bR) (some bX) (some (.str (S "p li dd dt ul ol div address button h1 h6 form template td table svg:desc svg:g svg:p math:mi math:mrow"))) (some (.str (S "span b rt option optgroup tbody tr th caption object applet math:annotation-xml body frameset h3 h4"))) (some x1) (some x5) .none .none .none .none .none)
theorem Od(n:Nat)(bp bR bX:V):cF (n+1) 740 [bp,bR,bX]=y3 (cF n) bp bR bX:=by kernel_rfl
theorem Oe(cl:Cl)(w_v bp bR bX fF fG d7 bE:V)(dO dP nr eu bD:Option V)(kn kb:Z->K):ca (TT cl) 23 d3.scope (ba d3.body [4]) w_v (eW (some bp) (some bR) (some bX) (some fF) (some fG) (some d7) (some bE) dO dP nr eu bD) kn kb=(UX (ax .Mult (.int 7) bR) λx8=>UX (ax .Add x8 w_v) λx9=>UX (cl 719 [bp,x9]) λx7=>UX (ax .FloorDiv x7 (.int 4)) λx10=>UX (bw bE) λx11=>UX (ax .Mod x10 x11) λx12=>UX (ax .Add (.int 1) x12) λx13=>UX (bw bE) λx14=>UX (ax .FloorDiv x10 x14) λx15=>UX (bw d7) λx16=>UX (ax .Mod x15 x16) λx17=>UX (aa d7 x17) λx18=>UX (aF (.list [x18])) λx19=>UX (ax .Mod x7 (.int 4)) λx20=>UX (af .Eq x20 (.int 1)) λt21=>if t21=true then(UX (bk bE .none (some x13)) λx22=>UX (ax .Add x22 x19) λx23=>UX (bk bE (some x13) .none) λx24=>UX (ax .Add x23 x24) λx25=>kn (eW (some bp) (some bR) (some bX) (some fF) (some fG) (some d7) (some x25) (some w_v) (some x7) (some x10) (some x13) (some x19)))else(UX (ax .Mod x7 (.int 4)) λx26=>UX (af .Eq x26 (.int 2)) λt27=>if t27=true then(UX (bk bE .none (some x13)) λx28=>UX (ax .Add x28 x19) λx29=>UX (ax .Add x13 (.int 1)) λx30=>UX (bk bE (some x30) .none) λx31=>UX (ax .Add x29 x31) λx32=>kn (eW (some bp) (some bR) (some bX) (some fF) (some fG) (some d7) (some x32) (some w_v) (some x7) (some x10) (some x13) (some x19)))else(UX (ax .Mod x7 (.int 4)) λx33=>UX (af .Eq x33 (.int 3)) λt34=>if t34=true then(UX (bk bE .none (some x13)) λx35=>UX (ax .Add x13 (.int 1)) λx36=>UX (bk bE (some x36) .none) λx37=>UX (ax .Add x35 x37) λx38=>kn (eW (some bp) (some bR) (some bX) (some fF) (some fG) (some d7) (some x38) (some w_v) (some x7) (some x10) (some x13) (some x19)))else(kn (eW (some bp) (some bR) (some bX) (some fF) (some fG) (some d7) (some bE) (some w_v) (some x7) (some x10) (some x13) (some x19))))):K):=by kernel_rfl
theorem Of(cl:Cl)(bp bR bX fF fG d7 bE:V)(dO dP nr eu bD:Option V):bB (TT cl) 24 d3.scope d3.body 5 (eW (some bp) (some bR) (some bX) (some fF) (some fG) (some d7) (some bE) dO dP nr eu bD) bH bI=(UZ bE:K):=by kernel_rfl
def y4(cl:Cl)(bE dh:V):K:=UX (aF (.dict [] (some 0))) λo2=>i5 o2 [((.str (S "in head")),(.fn 747)),((.str (S "in template")),(.fn 754)),((.str (S "after body")),(.fn 761)),((.str (S "foreign content")),(.fn 768))] λx3=>UX (gZ (TT cl) mK [x3]) λx1=>UX (ab x1 (S "tree") (TT cl)) λx4=>UX (ce bE) λit37=>cE false it37 (ca (TT cl) 23 fz.scope (ba fz.body [3])) (λvars=>bB (TT cl) 24 fz.scope fz.body 4 vars bH bI) (j8 (some bE) (some dh) (some x1) (some x4) (some (.int 0)) .none .none .none)
theorem Og(n:Nat)(bE dh:V):cF (n+1) 775 [bE,dh]=y4 (cF n) bE dh:=by kernel_rfl
theorem Oh(cl:Cl)(w_v bE dh ae aR dC:V)(bD gH aw:Option V)(kn kb:Z->K):ca (TT cl) 23 fz.scope (ba fz.body [3]) w_v (j8 (some bE) (some dh) (some ae) (some aR) (some dC) bD gH aw) kn kb=(ao (TT cl) w_v (S "split") (λk6=>k6 [.str (S ":")]) λx5=>ao (TT cl) aR (S "element") (λk8=>UX (aa x5 (.int (-1))) λx9=>jp (λ(x11:V)=>(k8 [x9,x11,(.tup [(.tup [.str (S "id"),w_v])])]:K)) λj10=>UX (bw x5) λx12=>UX (af .Eq x12 (.int 2)) λt13=>if t13=true then UX (aa x5 (.int 0)) λx14=>(j10 x14)else(j10 (.str (S "html")))) λx7=>ao (TT cl) aR (S "append") (λk16=>UX (ab aR (S "contents") (TT cl)) λx18=>ao (TT cl) x18 (S "get") (λk19=>k19 [dC,dC]) λx17=>k16 [x17,x7]) λx15=>if am x15=true then(UX (ab ae (S "stack") (TT cl)) λx21=>ao (TT cl) x21 (S "push") (λk22=>k22 [x7]) λx20=>if am x20=true then(kn (j8 (some bE) (some dh) (some ae) (some aR) (some x7) (some w_v) (some x5) (some x7)))else UY)else UY:K):=by kernel_rfl
theorem Oi(cl:Cl)(bE dh ae aR dC:V)(bD gH aw:Option V):bB (TT cl) 24 fz.scope fz.body 4 (j8 (some bE) (some dh) (some ae) (some aR) (some dC) bD gH aw) bH bI=(jp (jp (UZ ae:K) λj24=>jp (λ(t26:Bool)=>(if t26=true then(UX (ab ae (S "stack") (TT cl)) λx27=>UX (ab x27 (S "items") (TT cl)) λx28=>ao (TT cl) bE (S "index") (λk30=>k30 [.str (S "form")]) λx29=>UX (aa x28 x29) λx31=>UX (a_ ae (S "form") x31 (TT cl)) λ_=>j24)else(j24):K)) λj25=>UX (af .Eq dh (.int 2)) λt32=>aC t32 (UX (af .In (.str (S "form")) bE) λt33=>aC t33 (j25 true) (j25 false)) (j25 false):K) λj23=>UX (af .Eq dh (.int 1)) λt34=>if t34=true then(ao (TT cl) aR (S "element") (λk36=>k36 [.str (S "form")]) λx35=>UX (a_ ae (S "form") x35 (TT cl)) λ_=>j23)else(j23):K):=by kernel_rfl
def y5(cl:Cl)(ae:V):K:=UX (ab ae (S "tree") (TT cl)) λx1=>UX (aF (.dict [] (some 0))) λo2=>UX (ab ae (S "stack") (TT cl)) λx4=>UX (ab x4 (S "items") (TT cl)) λx5=>UX (dK x5) λx3=>UX (ab x1 (S "names") (TT cl)) λx7=>UX (dK x7) λx6=>UX (ab x1 (S "spaces") (TT cl)) λx9=>UX (dK x9) λx8=>UX (ab x1 (S "attrs") (TT cl)) λx35=>UX (ce x35) λit10=>cg it10 (λv11 k12=>UX (dK v11) λx16=>k12 x16) (λ_ k14=>k14 true) λx15=>UX (ab x1 (S "parents") (TT cl)) λx18=>UX (dK x18) λx17=>UX (ab x1 (S "children") (TT cl)) λx34=>UX (ce x34) λit19=>cg it19 (λv20 k21=>UX (dK v20) λx25=>k21 x25) (λ_ k23=>k23 true) λx24=>UX (aF (.list [])) λx26=>UX (ab ae (S "form") (TT cl)) λx27=>UX (ab ae (S "is_frameset_ok") (TT cl)) λx28=>UX (ab x1 (S "contents") (TT cl)) λx30=>UX (mz x30) λx29=>UX (ab x1 (S "kinds") (TT cl)) λx32=>UX (dK x32) λx31=>i5 o2 [((.str (S "open")),x3),((.str (S "names")),x6),((.str (S "spaces")),x8),((.str (S "attrs")),x15),((.str (S "parents")),x17),((.str (S "children")),x24),((.str (S "errors")),x26),((.str (S "form")),x27),((.str (S "is_frameset_ok")),x28),((.str (S "mode")),(.str (S "in body"))),((.str (S "is_done")),(.bool false)),((.str (S "contents")),x29),((.str (S "kinds")),x31)] λx33=>UZ x33
theorem Oj(n:Nat)(ae:V):cF (n+1) 780 [ae]=y5 (cF n) ae:=by kernel_rfl
def y6(cl:Cl)(au:V):K:=UX (aa au (.str (S "open"))) λx13=>UX (ce x13) λit1=>cg it1 (λv2 k3=>UX (aa au (.str (S "spaces"))) λx7=>UX (aa x7 v2) λx8=>UX (ax .Add x8 (.str (S ":"))) λx9=>UX (aa au (.str (S "names"))) λx10=>UX (aa x10 v2) λx11=>UX (ax .Add x9 x11) λx12=>k3 x12) (λ_ k5=>k5 true) λx6=>UZ x6
theorem Ol(n:Nat)(au:V):cF (n+1) 785 [au]=y6 (cF n) au:=by kernel_rfl
def y7(cl:Cl):K:=ao (TT cl) (.str (S "html:dd html:dt html:li html:optgroup html:option html:p html:rb html:rp html:rt html:rtc")) (S "split") (λk2=>k2 []) λx1=>UZ x1
theorem Om(n:Nat):cF (n+1) 792 []=y7 (cF n):=by kernel_rfl
def y8(cl:Cl)(bE bC:V):K:=ao (TT cl) (.str (S "html:td html:th html:caption html:table html:template html:object html:applet html:html svg:desc math:mi")) (S "split") (λk2=>k2 []) λx1=>UX (aF (.list [.str (S "math:annotation-xml")])) λx3=>UX (ax .Add x1 x3) λx4=>UX (aF (.dict [] (some 0))) λo5=>UX (aF (.list [])) λx6=>UX (aF (.list [.str (S "html:button")])) λx7=>UX (aF (.list [.str (S "html:ol"),.str (S "html:ul")])) λx8=>i5 o5 [((.str (S "")),x6),((.str (S "button")),x7),((.str (S "list item")),x8)] λx9=>UX (ce bE) λit10=>cg it10 (λv11 k12=>k12 v11) (λv13 k14=>jp (λ(t17:Bool)=>(k14 (t17):K)) λj16=>UX (af .In v13 x4) λt18=>aC t18 (j16 true) (UX (aa x9 bC) λx19=>UX (af .In v13 x19) λt20=>aC t20 (j16 true) (j16 false))) λx15=>UZ x15
theorem On(n:Nat)(bE bC:V):cF (n+1) 797 [bE,bC]=y8 (cF n) bE bC:=by kernel_rfl
def y9(cl:Cl)(au aY bC:V):K:=UX (cl 785 [au]) λx1=>UX (bw x1) λx21=>eD [x21] λit2=>cg it2 (λv3 k4=>k4 v3) (λv5 k6=>UX (aa x1 v5) λx8=>UX (af .In x8 aY) λt9=>k6 (t9)) λx7=>jp (λ(t11:Bool)=>(if t11=true then(UZ (.int (-1)))else(UX (aa x7 (.int (-1))) λx12=>UZ x12):K)) λj10=>UX (aF (.list [])) λx13=>UX (af .Eq x7 x13) λt14=>aC t14 (j10 true) (UX (aa x7 (.int (-1))) λx16=>UX (ax .Add x16 (.int 1)) λx17=>UX (bk x1 (some x17) .none) λx18=>UX (cl 797 [x18,bC]) λx15=>UX (aF (.list [])) λx19=>UX (af .NotEq x15 x19) λt20=>aC t20 (j10 true) (j10 false))
theorem Oo(n:Nat)(au aY bC:V):cF (n+1) 802 [au,aY,bC]=y9 (cF n) au aY bC:=by kernel_rfl
def y_(cl:Cl)(au bD:V):K:=UX (aa au (.str (S "errors"))) λx2=>ao (TT cl) x2 (S "append") (λk3=>UX (aa au (.str (S "mode"))) λx4=>k3 [(.tup [bD,x4])]) λx1=>if am x1=true then(UZ .none)else UY
theorem Op(n:Nat)(au bD:V):cF (n+1) 809 [au,bD]=y_ (cF n) au bD:=by kernel_rfl
def za(cl:Cl)(au p_ aB:V):K:=UX (aa au (.str (S "errors"))) λx2=>ao (TT cl) x2 (S "append") (λk3=>UX (aa au (.str (S "mode"))) λx4=>k3 [(.tup [p_,aB,x4])]) λx1=>if am x1=true then(UZ .none)else UY
theorem Oq(n:Nat)(au p_ aB:V):cF (n+1) 816 [au,p_,aB]=za (cF n) au p_ aB:=by kernel_rfl
def zb(cl:Cl)(au eu:V):K:=UX (cl 785 [au]) λx9=>UX (ax .Add eu (.int 1)) λx10=>UX (bk x9 (some x10) .none) λx11=>UX (ce x11) λit1=>cg it1 (λv2 k3=>k3 v2) (λv4 k5=>UX (cl 792 []) λx7=>UX (af .NotIn v4 x7) λt8=>k5 (t8)) λx6=>UZ x6
theorem Os(n:Nat)(au eu:V):cF (n+1) 821 [au,eu]=zb (cF n) au eu:=by kernel_rfl
def Ot(cl:Cl)(au az aW:V):K:=UX (aa au (.str (S "open"))) λx1=>UX (aa x1 (.int (-1))) λx2=>UX (aa au (.str (S "contents"))) λx4=>ao (TT cl) x4 (S "get") (λk5=>k5 [x2,x2]) λx3=>UX (aa au (.str (S "names"))) λx7=>UX (bw x7) λx6=>UX (dK aW) λx24=>UX (aF (.list [])) λx25=>UX (ce (.tup [(.tup [.str (S "names"),az]),(.tup [.str (S "spaces"),.str (S "html")]),(.tup [.str (S "attrs"),x24]),(.tup [.str (S "parents"),x3]),(.tup [.str (S "children"),x25])])) λit23=>cE true it23 (ca (TT cl) 23 fA.scope (ba fA.body [3])) (λvars=>bB (TT cl) 24 fA.scope fA.body 4 vars bH bI) (no (some au) (some az) (some aW) (some x3) (some x6) .none .none)
theorem Ou(n:Nat)(au az aW:V):cF (n+1) 828 [au,az,aW]=Ot (cF n) au az aW:=by kernel_rfl
theorem Ov(cl:Cl)(w_v au az aW dC aw:V)(tb tc:Option V)(kn kb:Z->K):ca (TT cl) 23 fA.scope (ba fA.body [3]) w_v (no (some au) (some az) (some aW) (some dC) (some aw) tb tc) kn kb=(dZ w_v λr8=>cO r8 λa9 r10=>cO r10 λa11 r12=>eT r12 (UX (aa au a9) λx14=>ao (TT cl) x14 (S "append") (λk15=>k15 [a11]) λx13=>if am x13=true then(kn (no (some au) (some az) (some aW) (some dC) (some aw) (some a9) (some a11)))else UY):K):=by kernel_rfl
theorem Ow(cl:Cl)(au az aW dC aw:V)(tb tc:Option V):bB (TT cl) 24 fA.scope fA.body 4 (no (some au) (some az) (some aW) (some dC) (some aw) tb tc) bH bI=(UX (aa au (.str (S "kinds"))) λx17=>ao (TT cl) x17 (S "append") (λk18=>k18 [.str (S "element")]) λx16=>if am x16=true then(UX (aa au (.str (S "children"))) λx20=>UX (aa x20 dC) λx21=>ao (TT cl) x21 (S "append") (λk22=>k22 [aw]) λx19=>if am x19=true then(UZ aw)else UY)else UY:K):=by kernel_rfl
def Ox(cl:Cl)(au:V):K:=UX (aa au (.str (S "form"))) λx1=>UX (bi au (.str (S "form")) (.int (-1))) λ_=>jp (λ(x3:V)=>(jp (λ(t5:Bool)=>(if t5=true then(UX (cl 809 [au,.str (S "unexpected-end-tag")]) λx6=>if am x6=true then(UZ .none)else UY)else(UX (cl 785 [au]) λx7=>UX (bw x7) λx29=>eD [x29] λit8=>cg it8 (λv9 k10=>k10 v9) (λv11 k12=>UX (aa x7 v11) λx14=>UX (cl 792 []) λx15=>UX (af .NotIn x14 x15) λt16=>k12 (t16)) λx13=>jp (UX (aa au (.str (S "open"))) λx18=>UX (bk x18 .none (some x3)) λx19=>UX (aa au (.str (S "open"))) λx20=>UX (ax .Add x3 (.int 1)) λx21=>UX (aa x13 (.int (-1))) λx22=>UX (ax .Add x22 (.int 1)) λx23=>UX (bk x20 (some x21) (some x23)) λx24=>UX (ax .Add x19 x24) λx25=>UX (bi au (.str (S "open")) x25) λ_=>UZ .none:K) λj17=>UX (aa x13 (.int (-1))) λx26=>UX (af .NotEq x26 x3) λt27=>if t27=true then(UX (cl 809 [au,.str (S "open-elements")]) λx28=>if am x28=true then(j17)else UY)else(j17)):K)) λj4=>UX (af .Eq x3 (.int (-1))) λt30=>aC t30 (j4 true) (UX (cl 785 [au]) λx32=>UX (ax .Add x3 (.int 1)) λx33=>UX (bk x32 (some x33) .none) λx34=>UX (cl 797 [x34,.str (S "")]) λx31=>UX (aF (.list [])) λx35=>UX (af .NotEq x31 x35) λt36=>aC t36 (j4 true) (j4 false)):K)) λj2=>UX (aa au (.str (S "open"))) λx37=>UX (af .In x1 x37) λt38=>if t38=true then UX (aa au (.str (S "open"))) λx40=>ao (TT cl) x40 (S "index") (λk41=>k41 [x1]) λx39=>(j2 x39)else(j2 (.int (-1)))
theorem Oy(n:Nat)(au:V):cF (n+1) 833 [au]=Ox (cF n) au:=by kernel_rfl
def Oz(cl:Cl)(au az:V):K:=jp (λ(t2:Bool)=>(if t2=true then(UX (cl 833 [au]) λx3=>if am x3=true then(UZ .none)else UY)else(UX (ax .Add (.str (S "html:")) az) λx4=>UX (aF (.list [x4])) λx5=>jp (λ(u7:V)=>(UX (aF (.dict [] (some 0))) λo10=>i5 o10 [((.str (S "li")),(.str (S "list item"))),((.str (S "p")),(.str (S "button")))] λx11=>ao (TT cl) x11 (S "get") (λk12=>k12 [az,.str (S "")]) λx9=>UX (cl 802 [au,u7,x9]) λx8=>UX (af .Eq x8 (.int (-1))) λt13=>if t13=true then(UX (cl 809 [au,.str (S "unexpected-end-tag")]) λx14=>if am x14=true then(jp (UZ .none:K) λj15=>UX (af .Eq az (.str (S "p"))) λt16=>if t16=true then(UX (cl 828 [au,.str (S "p"),(.tup [])]) λx17=>if am x17=true then(j15)else UY)else(j15))else UY)else(jp (UX (aa au (.str (S "open"))) λx19=>UX (bk x19 .none (some x8)) λx20=>UX (bi au (.str (S "open")) x20) λ_=>UZ .none:K) λj18=>jp (λ(t22:Bool)=>(if t22=true then(UX (cl 809 [au,.str (S "open-elements")]) λx23=>if am x23=true then(j18)else UY)else(j18):K)) λj21=>UX (cl 821 [au,x8]) λx24=>UX (aF (.list [])) λx25=>UX (af .NotEq x24 x25) λt26=>aC t26 (j21 true) (UX (cl 785 [au]) λx27=>UX (aa x27 x8) λx28=>UX (ax .Add (.str (S "html:")) az) λx29=>UX (af .NotEq x28 x29) λt30=>aC t30 (j21 true) (j21 false))):K)) λj6=>UX (af .In az (.tup [.str (S "h1"),.str (S "h2"),.str (S "h3"),.str (S "h4"),.str (S "h5"),.str (S "h6")])) λt31=>if t31=true then(eD [(.int 1),(.int 7)] λit32=>cg it32 (λv33 k34=>UX (jH v33) λx38=>UX (ax .Add (.str (S "html:h")) x38) λx39=>k34 x39) (λ_ k36=>k36 true) λx37=>j6 x37)else(j6 x5)):K)) λj1=>UX (af .Eq az (.str (S "form"))) λt40=>aC t40 (UX (cl 785 [au]) λx41=>UX (af .NotIn (.str (S "html:template")) x41) λt42=>aC t42 (j1 true) (j1 false)) (j1 false)
theorem OA(n:Nat)(au az:V):cF (n+1) 838 [au,az]=Oz (cF n) au az:=by kernel_rfl
def zc(cl:Cl)(au:V):K:=UX (cl 792 []) λx1=>ao (TT cl) (.str (S "html:tbody html:td html:tfoot html:th html:thead html:tr html:body html:html")) (S "split") (λk3=>k3 []) λx2=>UX (ax .Add x1 x2) λx4=>UX (cl 785 [au]) λx15=>UX (ce x15) λit5=>cg it5 (λv6 k7=>k7 v6) (λv8 k9=>UX (af .NotIn v8 x4) λt11=>k9 (t11)) λx10=>UX (aF (.list [])) λx12=>UX (af .NotEq x10 x12) λt13=>if t13=true then(UX (cl 809 [au,.str (S "open-elements")]) λx14=>if am x14=true then(UZ .none)else UY)else(UZ .none)
theorem OB(n:Nat)(au:V):cF (n+1) 843 [au]=zc (cF n) au:=by kernel_rfl
def zd(cl:Cl)(au aB:V):K:=UX (aa aB (.int 1)) λx1=>UX (af .Eq x1 (.str (S "template"))) λt2=>if t2=true then(UX (cl 816 [au,.str (S "in head"),aB]) λx3=>if am x3=true then(UZ .none)else UY)else(UX (aF (.list [.str (S "html:body")])) λx5=>UX (cl 802 [au,x5,.str (S "")]) λx4=>UX (af .Eq x4 (.int (-1))) λt6=>if t6=true then(UX (cl 809 [au,.str (S "unexpected-end-tag")]) λx7=>if am x7=true then(UZ .none)else UY)else(UX (cl 843 [au]) λx8=>if am x8=true then(UX (bi au (.str (S "mode")) (.str (S "after body"))) λ_=>UX (aa aB (.int 1)) λx9=>UX (af .Eq x9 (.str (S "html"))) λt10=>if t10=true then(UX (aa au (.str (S "spaces"))) λx11=>UX (aa au (.str (S "open"))) λx12=>UX (aa x12 (.int (-1))) λx13=>UX (aa x11 x13) λx14=>UX (af .NotEq x14 (.str (S "html"))) λt15=>jp (λ(x18:V)=>(UX (cl 816 [au,x18,aB]) λx16=>if am x16=true then(UZ .none)else UY:K)) λj17=>UX (truthy (.bool t15)) λt19=>if t19=true then(j17 (.str (S "foreign content")))else(j17 (.str (S "after body"))))else(UZ .none))else UY))
theorem OC(n:Nat)(au aB:V):cF (n+1) 850 [au,aB]=zd (cF n) au aB:=by kernel_rfl
def ze(cl:Cl)(au aw aW:V):K:=UX (ce aW) λit20=>cE true it20 (ca (TT cl) 23 iH.scope (ba iH.body [0])) (λvars=>bB (TT cl) 24 iH.scope iH.body 1 vars bH bI) (lD (some au) (some aw) (some aW) .none .none)
theorem OD(n:Nat)(au aw aW:V):cF (n+1) 855 [au,aw,aW]=ze (cF n) au aw aW:=by kernel_rfl
theorem OE(cl:Cl)(w_v au aw aW:V)(az kc:Option V)(kn kb:Z->K):ca (TT cl) 23 iH.scope (ba iH.body [0]) w_v (lD (some au) (some aw) (some aW) az kc) kn kb=(dZ w_v λr1=>cO r1 λa2 r3=>cO r3 λa4 r5=>eT r5 (UX (aa au (.str (S "attrs"))) λx18=>UX (aa x18 aw) λx19=>UX (ce x19) λit6=>cg it6 (λv7 k8=>UX (aa v7 (.int 0)) λx12=>k8 x12) (λ_ k10=>k10 true) λx11=>UX (af .NotIn a2 x11) λt13=>if t13=true then(UX (aa au (.str (S "attrs"))) λx15=>UX (aa x15 aw) λx16=>ao (TT cl) x16 (S "append") (λk17=>k17 [(.tup [a2,a4])]) λx14=>if am x14=true then(kn (lD (some au) (some aw) (some aW) (some a2) (some a4)))else UY)else(kn (lD (some au) (some aw) (some aW) (some a2) (some a4)))):K):=by kernel_rfl
theorem OF(cl:Cl)(au aw aW:V)(az kc:Option V):bB (TT cl) 24 iH.scope iH.body 1 (lD (some au) (some aw) (some aW) az kc) bH bI=(UZ .none:K):=by kernel_rfl
def zf(cl:Cl)(au aB:V):K:=UX (aa aB (.int 1)) λx1=>UX (af .Eq x1 (.str (S "meta"))) λt2=>if t2=true then(UX (cl 816 [au,.str (S "in head"),aB]) λx3=>if am x3=true then(UZ .none)else UY)else(UX (cl 809 [au,.str (S "unexpected-start-tag")]) λx4=>if am x4=true then(UX (cl 785 [au]) λx5=>UX (af .In (.str (S "html:template")) x5) λt6=>jp (λ(t8:Bool)=>(if t8=true then(UX (aa au (.str (S "open"))) λx10=>UX (aa x10 (.int 0)) λx11=>UX (aa aB (.int 2)) λx12=>UX (cl 855 [au,x11,x12]) λx9=>if am x9=true then(UZ .none)else UY)else(jp (λ(t14:Bool)=>(if t14=true then(UX (bi au (.str (S "is_frameset_ok")) (.bool false)) λ_=>UX (aa au (.str (S "open"))) λx16=>UX (aa x16 (.int 1)) λx17=>UX (aa aB (.int 2)) λx18=>UX (cl 855 [au,x17,x18]) λx15=>if am x15=true then(UZ .none)else UY)else(jp (λ(t20:Bool)=>(if t20=true then(UX (aa au (.str (S "open"))) λx21=>UX (aa x21 (.int 1)) λx22=>UX (aa au (.str (S "children"))) λx24=>UX (aa au (.str (S "parents"))) λx25=>UX (aa x25 x22) λx26=>UX (aa x24 x26) λx27=>ao (TT cl) x27 (S "remove") (λk28=>k28 [x22]) λx23=>if am x23=true then(UX (aa au (.str (S "parents"))) λx29=>UX (bi x29 x22 (.int (-1))) λ_=>UX (aa au (.str (S "open"))) λx30=>UX (bk x30 .none (some (.int 1))) λx31=>UX (bi au (.str (S "open")) x31) λ_=>UX (aa au (.str (S "open"))) λx32=>UX (aa aB (.int 2)) λx34=>UX (cl 828 [au,.str (S "frameset"),x34]) λx33=>UX (aF (.list [x33])) λx35=>UX (ax .Add x32 x35) λx36=>UX (bi au (.str (S "open")) x36) λ_=>UX (bi au (.str (S "mode")) (.str (S "in frameset"))) λ_=>UZ .none)else UY)else(UZ .none):K)) λj19=>UX (aa aB (.int 1)) λx37=>UX (af .Eq x37 (.str (S "frameset"))) λt38=>aC t38 (UX (bk x5 (some (.int 1)) (some (.int 2))) λx39=>UX (aF (.list [.str (S "html:body")])) λx40=>UX (af .Eq x39 x40) λt41=>aC t41 (UX (aa au (.str (S "is_frameset_ok"))) λx42=>UX (truthy x42) λt43=>aC t43 (j19 true) (j19 false)) (j19 false)) (j19 false)):K)) λj13=>UX (aa aB (.int 1)) λx44=>UX (af .Eq x44 (.str (S "body"))) λt45=>aC t45 (UX (bk x5 (some (.int 1)) (some (.int 2))) λx46=>UX (aF (.list [.str (S "html:body")])) λx47=>UX (af .Eq x46 x47) λt48=>aC t48 (UX (truthy (.bool t6)) λt49=>aC (!t49) (j13 true) (j13 false)) (j13 false)) (j13 false)):K)) λj7=>UX (aa aB (.int 1)) λx50=>UX (af .Eq x50 (.str (S "html"))) λt51=>aC t51 (UX (truthy (.bool t6)) λt52=>aC (!t52) (j7 true) (j7 false)) (j7 false))else UY)
theorem OG(n:Nat)(au aB:V):cF (n+1) 862 [au,aB]=zf (cF n) au aB:=by kernel_rfl
def zg(cl:Cl)(au ew:V):K:=UX (aF (.list [])) λx1=>UX (af .NotEq ew x1) λt2=>if t2=true then(UX (cl 816 [au,.str (S "in template"),(.tup [.str (S "eof")])]) λx3=>if am x3=true then(UZ .none)else UY)else(UX (cl 843 [au]) λx4=>if am x4=true then(UX (aF (.list [])) λx5=>UX (bi au (.str (S "open")) x5) λ_=>UX (bi au (.str (S "is_done")) (.bool true)) λ_=>UZ .none)else UY)
theorem OH(n:Nat)(au ew:V):cF (n+1) 869 [au,ew]=zg (cF n) au ew:=by kernel_rfl
def OI(cl:Cl)(ae au bD aW:V):K:=ao (TT cl) ae (S "to") (λk2=>k2 [.str (S "in body")]) λx1=>if am x1=true then(UX (bi au (.str (S "mode")) (.str (S "in body"))) λ_=>UX (bk bD (some (.int 1)) .none) λx3=>jp (UX (ab ae (S "tree") (TT cl)) λx5=>UX (ab ae (S "stack") (TT cl)) λx6=>UX (ab x6 (S "items") (TT cl)) λx7=>UX (ab x5 (S "names") (TT cl)) λx8=>UX (ab x5 (S "spaces") (TT cl)) λx9=>UX (ab x5 (S "attrs") (TT cl)) λx10=>UX (ab x5 (S "parents") (TT cl)) λx11=>UX (ab x5 (S "children") (TT cl)) λx12=>UX (ab ae (S "errors") (TT cl)) λx13=>UX (aF (.list [x7,x8,x9,x10,x11,x12,x13])) λx14=>UX (ab ae (S "form") (TT cl)) λx15=>UX (ab ae (S "is_frameset_ok") (TT cl)) λx16=>UX (ab ae (S "mode") (TT cl)) λx17=>UX (ab ae (S "is_done") (TT cl)) λx18=>UX (ab x5 (S "contents") (TT cl)) λx19=>UX (ab x5 (S "kinds") (TT cl)) λx20=>UX (aF (.list [x15,x16,x17,x18,x19,x20])) λx21=>UX (ax .Add x14 x21) λx22=>UX (ce au) λit23=>cg it23 (λv24 k25=>UX (aa au v24) λx29=>k25 x29) (λ_ k27=>k27 true) λx28=>UX (af .Eq x22 x28) λt30=>UZ (.bool t30):K) λj4=>UX (af .Eq bD (.str (S "eof"))) λt31=>if t31=true then(UX (cl 698 [ae,(.tup [.str (S "eof")])]) λx32=>if am x32=true then(UX (ab ae (S "modes") (TT cl)) λx34=>UX (cl 869 [au,x34]) λx33=>if am x33=true then(j4)else UY)else UY)else(UX (aa bD (.int 0)) λx35=>UX (af .Eq x35 (.str (S "<"))) λt36=>if t36=true then(UX (cl 705 [ae,(.tup [.str (S "start"),x3,aW,(.bool false)])]) λx37=>if am x37=true then(UX (cl 862 [au,(.tup [.str (S "start"),x3,aW,(.bool false)])]) λx38=>if am x38=true then(j4)else UY)else UY)else(UX (af .In x3 (.tup [.str (S "body"),.str (S "html"),.str (S "template")])) λt39=>if t39=true then(UX (cl 712 [ae,(.tup [.str (S "end"),x3,(.tup []),(.bool false)])]) λx40=>if am x40=true then(UX (cl 850 [au,(.tup [.str (S "end"),x3,(.tup []),(.bool false)])]) λx41=>if am x41=true then(j4)else UY)else UY)else(UX (cl 317 [ae,x3]) λx42=>if am x42=true then(UX (cl 838 [au,x3]) λx43=>if am x43=true then(j4)else UY)else UY))))else UY
theorem OJ(n:Nat)(ae au bD aW:V):cF (n+1) 874 [ae,au,bD,aW]=OI (cF n) ae au bD aW:=by kernel_rfl
def zh(cl:Cl)(bp:V):K:=UX (cl 733 []) λx1=>eD [(.int 9)] λit86=>cE false it86 (ca (TT cl) 23 aU.scope (ba aU.body [2])) (λvars=>bB (TT cl) 24 aU.scope aU.body 3 vars bH bI) (dN (some bp) (some x1) (some (.tup [(.tup [(.tup [.str (S "id"),.str (S "x")]),(.tup [.str (S "lang"),.str (S "l")])]),(.tup [(.tup [.str (S "lang"),.str (S "m")]),(.tup [.str (S "dir"),.str (S "d")]),(.tup [.str (S "id"),.str (S "y")])]),(.tup [])])) .none .none .none .none .none .none .none .none .none .none .none .none)
theorem OK(n:Nat)(bp:V):cF (n+1) 881 [bp]=zh (cF n) bp:=by kernel_rfl
theorem OL(cl:Cl)(w_v bp aY gf:V)(bR bX hY dh ew hZ gK ae au dO bD dP:Option V)(kn kb:Z->K):ca (TT cl) 23 aU.scope (ba aU.body [2]) w_v (dN (some bp) (some aY) (some gf) bR bX hY dh ew hZ gK ae au dO bD dP) kn kb=(UX (cl 726 []) λx2=>UX (aa x2 w_v) λx3=>dZ x3 λr4=>cO r4 λa5 r6=>cO r6 λa7 r8=>cO r8 λa9 r10=>cO r10 λa11 r12=>cO r12 λa13 r14=>eT r14 (UX (ax .Mult (.int 7) w_v) λx16=>UX (cl 719 [bp,x16]) λx15=>UX (cl 740 [bp,w_v,a5]) λx18=>UX (ax .Add a9 x15) λx19=>UX (ax .Mod x19 (.int 3)) λx20=>UX (cl 775 [x18,x20]) λx17=>UX (aF (.list [.str (S "in template"),.str (S "in body")])) λx21=>UX (ax .FloorDiv x15 (.int 3)) λx22=>UX (ax .Add a11 x22) λx23=>UX (ax .Mod x23 (.int 3)) λx24=>UX (bk x21 .none (some x24)) λx25=>UX (a_ x17 (S "modes") x25 (TT cl)) λ_=>UX (ax .FloorDiv x15 (.int 9)) λx26=>UX (ax .Add a13 x26) λx27=>UX (ax .Mod x27 (.int 2)) λx28=>UX (af .Eq x28 (.int 0)) λt29=>UX (a_ x17 (S "is_frameset_ok") (.bool t29) (TT cl)) λ_=>UX (cl 780 [x17]) λx30=>ao (TT cl) a7 (S "split") (λk85=>k85 []) λx84=>mF x84 λit83=>cE true it83 (ca (TT cl) 22 aU.scope (ba aU.body [2,0,6])) (λvars=>bB (TT cl) 23 aU.scope (lx (ba aU.body [2]) 0) 7 vars kn kb) (dN (some bp) (some aY) (some gf) (some w_v) (some a5) (some a7) (some a9) (some a11) (some a13) (some x15) (some x17) (some x30) dO bD dP)):K):=by kernel_rfl
theorem OM(cl:Cl)(w_v bp aY gf bR bX hY dh ew hZ gK ae au:V)(dO bD dP:Option V)(kn kb:Z->K):ca (TT cl) 22 aU.scope (ba aU.body [2,0,6]) w_v (dN (some bp) (some aY) (some gf) (some bR) (some bX) (some hY) (some dh) (some ew) (some hZ) (some gK) (some ae) (some au) dO bD dP) kn kb=(dZ w_v λr31=>cO r31 λa32 r33=>cO r33 λa34 r35=>eT r35 (UX (ax .Mult (.int 7) bR) λx37=>UX (ax .Add x37 (.int 3)) λx38=>UX (ax .Add x38 a32) λx39=>UX (cl 719 [bp,x39]) λx36=>ao (TT cl) aY (S "index") (λk41=>k41 [a34]) λx40=>UX (ax .Add x40 x36) λx42=>UX (bw aY) λx43=>UX (ax .Mod x42 x43) λx44=>UX (aa aY x44) λx45=>UX (bw aY) λx47=>UX (ax .FloorDiv x36 x47) λx48=>UX (ax .Add x48 a32) λx49=>UX (ax .Add x49 bR) λx50=>UX (ax .Mod x50 (.int 3)) λx51=>UX (aa gf x51) λx52=>UX (cl 874 [ae,au,x45,x52]) λx46=>UX (truthy x46) λt53=>if(!t53)=true then(UZ (.bool false))else(UX (af .Eq x45 (.str (S "eof"))) λt54=>if t54=true then(kb (dN (some bp) (some aY) (some gf) (some bR) (some bX) (some hY) (some dh) (some ew) (some hZ) (some gK) (some ae) (some au) (some a32) (some x45) (some x36)))else(kn (dN (some bp) (some aY) (some gf) (some bR) (some bX) (some hY) (some dh) (some ew) (some hZ) (some gK) (some ae) (some au) (some a32) (some x45) (some x36))))):K):=by kernel_rfl
theorem ON(cl:Cl)(bp aY gf bR bX hY dh ew hZ gK ae au:V)(dO bD dP:Option V)(kn kb:Z->K):bB (TT cl) 23 aU.scope (lx (ba aU.body [2]) 0) 7 (dN (some bp) (some aY) (some gf) (some bR) (some bX) (some hY) (some dh) (some ew) (some hZ) (some gK) (some ae) (some au) dO bD dP) kn kb=(jp (λ(t56:Bool)=>(if t56=true then(UZ (.bool false))else(jp (λ(t58:Bool)=>(if t58=true then(UZ (.bool false))else(kn (dN (some bp) (some aY) (some gf) (some bR) (some bX) (some hY) (some dh) (some ew) (some hZ) (some gK) (some ae) (some au) dO bD dP)):K)) λj57=>UX (ab ae (S "modes") (TT cl)) λx60=>UX (bw x60) λx59=>UX (ax .FloorDiv gK (.int 3)) λx61=>UX (ax .Add ew x61) λx62=>UX (ax .Mod x62 (.int 3)) λx63=>UX (af .NotEq x59 x63) λt64=>aC t64 (j57 true) (UX (ab ae (S "wish") (TT cl)) λx65=>UX (af .NotEq x65 (.str (S ""))) λt66=>aC t66 (j57 true) (UX (ab ae (S "original") (TT cl)) λx67=>UX (af .NotEq x67 (.str (S ""))) λt68=>aC t68 (j57 true) (j57 false)))):K)) λj55=>UX (ab ae (S "owners") (TT cl)) λx69=>UX (aF (.dict [] (some 0))) λo70=>UX (af .NotEq x69 o70) λt71=>aC t71 (j55 true) (UX (ab ae (S "formatting") (TT cl)) λx72=>UX (ab x72 (S "items") (TT cl)) λx73=>UX (aF (.list [])) λx74=>UX (af .NotEq x73 x74) λt75=>aC t75 (j55 true) (UX (ab ae (S "tree") (TT cl)) λx76=>UX (ab x76 (S "texts") (TT cl)) λx77=>UX (aF (.list [.str (S "")])) λx78=>UX (aa au (.str (S "names"))) λx80=>UX (bw x80) λx79=>UX (ax .Mult x78 x79) λx81=>UX (af .NotEq x77 x81) λt82=>aC t82 (j55 true) (j55 false))):K):=by kernel_rfl
theorem OO(cl:Cl)(bp aY gf:V)(bR bX hY dh ew hZ gK ae au dO bD dP:Option V):bB (TT cl) 24 aU.scope aU.body 3 (dN (some bp) (some aY) (some gf) bR bX hY dh ew hZ gK ae au dO bD dP) bH bI=(UZ (.bool true):K):=by kernel_rfl
end
structure BS where
 kinds:List Str
 spaces:List Str
 names:List Str
 attrs:List (List (Str×Str))
 texts:List Str
 parents:List Int
 children:List (List Nat)
 contents:List (Nat×Nat)
 items:List Nat
 errors:List V
 form:Int
 ok:Bool
 mode:Str
 done:Bool
inductive Rl where
 |b|t|st|fm|kinds|spaces|names|attrs|texts|parents|children|contents|items|fitems|modes|owners|errors|pending|rules
 |at_ (i:Nat)|ch (i:Nat)
 |d|dopen|dnames|dspaces|dattrs|dparents|dchildren|derrors|dcontents|dkinds|dat (i:Nat)|dch (i:Nat)
 |ex (i:Nat)
structure Wd where
 s:BS
 u:Option BS
 modes:List Str
 ex:List (Nat×O)
 oA:Nat
 aA:List Nat
 cA:List Nat
 uA:List Nat
 uC:List Nat
noncomputable abbrev Ad:=Rl->Nat
noncomputable def bz(p:Str×Str):V:= .tup [.str p.1,.str p.2]
noncomputable def U(xs:List Str):O:= .list (xs.map .str)
noncomputable def ay(xs:List Nat):O:= .list (xs.map λi=> .int (i:Nat))
noncomputable def cz(xs:List Int):O:= .list (xs.map .int)
noncomputable def bm(xs:List (Str×Str)):O:= .list (xs.map bz)
noncomputable def aS(xs:List Nat):O:= .list (xs.map .ref)
set_option backward.match.sparseCases false in
noncomputable def bj(ad:Ad)(W:Wd):Rl->Nat
 | .at_ i=>W.aA.getD i 0
 | .ch i=>W.cA.getD i 0
 | .dat i=>W.uA.getD i 0
 | .dch i=>W.uC.getD i 0
 | .dopen=>W.oA
 | .ex i=>(W.ex[i]?.map Xr).getD 0
 |r=>ad r
noncomputable def bS(p:Nat×Nat):V×V:=(.int (p.1:Nat),.int (p.2:Nat))
noncomputable def nu(ad:Ad)(s:BS):O:= .inst 631 [(S "rules",.ref (ad .rules)),(S "tree",.ref (ad .t)),(S "stack",.ref (ad .st)),(S "formatting",.ref (ad .fm)),(S "mode",.str s.mode),(S "original",.str (S "")),(S "modes",.ref (ad .modes)),(S "head",.int (-1)),(S "form",.int s.form),
 (S "owners",.ref (ad .owners)),(S "is_frameset_ok",.bool s.ok),(S "is_scripting",.bool false),(S "is_foster",.bool false),(S "context",.int (-1)),(S "quirks",.str (S "no-quirks")),(S "errors",.ref (ad .errors)),(S "pending",.ref (ad .pending)),(S "wish",.str (S "")),
 (S "is_skipping",.bool false),(S "is_acknowledged",.bool false),(S "is_done",.bool s.done)]
noncomputable def OP(ad:Ad):O:= .inst 553 [(S "kinds",.ref (ad .kinds)),(S "spaces",.ref (ad .spaces)),(S "names",.ref (ad .names)),(S "attrs",.ref (ad .attrs)),(S "texts",.ref (ad .texts)),(S "parents",.ref (ad .parents)),(S "children",.ref (ad .children)),(S "contents",.ref (ad .contents))]
noncomputable def eY(ad:Ad)(oA:Nat)(u:BS):O:= .dict [(.str (S "open"),.ref oA),(.str (S "names"),.ref (ad .dnames)),(.str (S "spaces"),.ref (ad .dspaces)),(.str (S "attrs"),.ref (ad .dattrs)),(.str (S "parents"),.ref (ad .dparents)),(.str (S "children"),.ref (ad .dchildren)),(.str (S "errors"),.ref (ad .derrors)),
 (.str (S "form"),.int u.form),(.str (S "is_frameset_ok"),.bool u.ok),(.str (S "mode"),.str u.mode),(.str (S "is_done"),.bool u.done),(.str (S "contents"),.ref (ad .dcontents)),(.str (S "kinds"),.ref (ad .dkinds))] (some 13)
noncomputable def dF:O:= .dict [(.str (S "in head"),.fn 747),(.str (S "in template"),.fn 754),(.str (S "after body"),.fn 761),(.str (S "foreign content"),.fn 768)] (some 4)
noncomputable def cont(ad:Ad)(W:Wd):Rl->Option O
 | .b=>some (nu ad W.s)
 | .t=>some (OP ad)
 | .st=>some (.inst 178 [(S "tree",.ref (ad .t)),(S "items",.ref (ad .items))])
 | .fm=>some (.inst 429 [(S "tree",.ref (ad .t)),(S "items",.ref (ad .fitems))])
 | .kinds=>some (U W.s.kinds)
 | .spaces=>some (U W.s.spaces)
 | .names=>some (U W.s.names)
 | .attrs=>some (aS W.aA)
 | .texts=>some (U W.s.texts)
 | .parents=>some (cz W.s.parents)
 | .children=>some (aS W.cA)
 | .contents=>some (.dict (W.s.contents.map bS) (some W.s.contents.length))
 | .items=>some (ay W.s.items)
 | .fitems=>some (.list [])
 | .modes=>some (U W.modes)
 | .owners=>some (.dict [] (some 0))
 | .errors=>some (.list W.s.errors)
 | .pending=>some (.list [])
 | .rules=>some dF
 | .at_ i=>W.s.attrs[i]?.map bm
 | .ch i=>W.s.children[i]?.map ay
 | .d=>W.u.map (eY ad W.oA)
 | .dopen=>W.u.map λu=>ay u.items
 | .dnames=>W.u.map λu=>U u.names
 | .dspaces=>W.u.map λu=>U u.spaces
 | .dattrs=>W.u.map λ_=>aS W.uA
 | .dparents=>W.u.map λu=>cz u.parents
 | .dchildren=>W.u.map λ_=>aS W.uC
 | .derrors=>W.u.map λu=> .list u.errors
 | .dcontents=>W.u.map λu=> .dict (u.contents.map bS) .none
 | .dkinds=>W.u.map λu=>U u.kinds
 | .dat i=>W.u.bind λu=>u.attrs[i]?.map bm
 | .dch i=>W.u.bind λu=>u.children[i]?.map ay
 | .ex i=>W.ex[i]?.map (·.2)
theorem td{ad:Ad}{W:Wd}{i k:Nat}{o:O}(h:W.ex[i]?=some (k,o)):cont ad W (.ex i)=some o:=congrArg (Vc Xq) h
theorem qa{ad:Ad}{W:Wd}{i k:Nat}{o:O}(h:W.ex[i]?=some (k,o)):bj ad W (.ex i)=k:=congrArg (λz=>(Vc Xr z).getD 0) h
theorem qb{l:List Nat}{n k:Nat}(h:l.length=n):(l++[k]).getD n 0=k:=by subst h;simp
theorem h_{α:Type}{l:List α}{p:Nat}{d:α}(h:p<l.length):l[p]?=some (l.getD p d):=by
 refine er (U1 ..) (er (U8 h ..) ?_);rfl
structure BV(H:Hp)(ad:Ad)(W:Wd):Prop where
 get:∀r o,cont ad W r=some o->H[bj ad W r]?=some o
 inj:∀r r',(cont ad W r).isSome=true->(cont ad W r').isSome=true->bj ad W r=bj ad W r'->r=r'
section
variable{H:Hp}{ad:Ad}{W:Wd}
theorem BV.lt(B:BV H ad W){r:Rl}(h:(cont ad W r).isSome=true):bj ad W r<H.length:=by
 obtain⟨o,ho⟩:=Option.isSome_iff_exists.mp h
 exact(List.getElem?_eq_some_iff.mp (B.get r o ho)).1
theorem BV.app(B:BV H ad W)(G:Hp):BV (H++G) ad W:=
 ⟨λr o h=>by have:=B.get r o h;refine er (U4 (List.getElem?_eq_some_iff.mp this).1 ..) ?_;exact this,B.inj⟩
theorem BV.put(B:BV H ad W){W':Wd}(r:Rl){a:Nat}(ea:bj ad W r=a){o':O}(h0:(cont ad W r).isSome=true)(h1:cont ad W' r=some o')(h2:∀x,x≠r->cont ad W' x=cont ad W x)(ha:bj ad W'=bj ad W:=by rfl):BV (H.set a o') ad W':=by
 subst ea
 have is:∀x,(cont ad W' x).isSome=true->(cont ad W x).isSome=true:=λx h=>by
  by_cases e:x=r
  ·subst e;exact h0
  ·refine el (h2 x e ..) ?_;exact h
 refine⟨λx o h=>?_,λx y hx hy e=>B.inj x y (is x hx) (is y hy) (by rw[ha]at e;exact e)⟩
 refine er (ha ..) ?_
 by_cases e:x=r
 ·subst e
  rw[h1]at h;cases h
  exact Vl (B.lt h0)
 ·replace h:=Vu (We (h2 x e)) h
  refine Vu (Vn λz=>e (B.inj x r (by refine er (h ..) ?_;rfl) h0 z.symm)) ?_
  exact B.get x o h
theorem BV.putTake(B:BV H ad W){W':Wd}(r p:Rl){a:Nat}(ea:bj ad W p=a)(k:Nat){o o':O}(hk:H[k]?=some o)(fr:∀x,(cont ad W x).isSome=true->bj ad W x≠k)(h0:(cont ad W p).isSome=true)(hrp:r≠p)
  (h1:cont ad W' r=some o) (h5:cont ad W' p=some o') (h3:bj ad W' r=k) (h4:∀x,x≠r->(cont ad W' x).isSome=true->bj ad W' x=bj ad W x) (h2:∀x,x≠r->x≠p->cont ad W' x=cont ad W x):BV (H.set a o') ad W':=by
 subst ea
 have is:∀x,x≠r->(cont ad W' x).isSome=true->(cont ad W x).isSome=true:=λx hx h=>by
  by_cases e:x=p
  ·subst e;exact h0
  ·refine el (h2 x hx e ..) ?_;exact h
 refine⟨λx o1 h=>?_,λx y hx hy e=>?_⟩
 ·by_cases e:x=r
  ·subst e
   rw[h1]at h;cases h
   refine er (h3 ..) (er (Vn (fr p h0) ..) ?_);exact hk
  ·refine er (h4 x e (by refine er (h ..) ?_;rfl) ..) ?_
   by_cases e2:x=p
   ·subst e2
    rw[h5]at h;cases h
    exact Vl (B.lt h0)
   ·replace h:=Vu (We (h2 x e e2)) h
    refine Vu (Vn λz=>e2 (B.inj x p (by refine er (h ..) ?_;rfl) h0 z.symm)) ?_
    exact B.get x o1 h
 ·by_cases e1:x=r
  ·by_cases e2:y=r
   ·refine er (e1 ..) (er (e2 ..) rfl)
   ·exfalso
    rw[e1,h3,h4 y e2 hy]at e
    exact fr y (is y e2 hy) e.symm
  ·by_cases e2:y=r
   ·exfalso
    rw[e2,h3,h4 x e1 hx]at e
    exact fr x (is x e1 hx) e
   ·rw[h4 x e1 hx,h4 y e2 hy]at e
    exact B.inj x y (is x e1 hx) (is y e2 hy) e
set_option tactic.hygienic true in
theorem dG{ad:Ad}{W W':Wd}{E:Rl->Prop}(hb:¬E .b->nu ad W'.s=nu ad W.s)(h1:¬E .kinds->W'.s.kinds=W.s.kinds)(h2:¬E .spaces->W'.s.spaces=W.s.spaces)(h3:¬E .names->W'.s.names=W.s.names)(h4:¬E .texts->W'.s.texts=W.s.texts)(h5:¬E .parents->W'.s.parents=W.s.parents)(h6:¬E .contents->W'.s.contents=W.s.contents)(h7:¬E .items->W'.s.items=W.s.items)(h8:¬E .errors->W'.s.errors=W.s.errors)
  (h9:¬E .attrs->W'.aA=W.aA) (h10:¬E .children->W'.cA=W.cA) (h11:¬E .modes->W'.modes=W.modes) (h12:∀i,¬E (.at_ i)->W'.s.attrs[i]?=W.s.attrs[i]?) (h13:∀i,¬E (.ch i)->W'.s.children[i]?=W.s.children[i]?) (h14:W'.u=W.u) (h15:W'.oA=W.oA) (h16:W'.uA=W.uA) (h17:W'.uC=W.uC) (h18:W'.ex=W.ex):∀x,¬E x->cont ad W' x=cont ad W x:=λx hx=>by
 obtain⟨s,u,ms,ex,oA,aA,cA,uA,uC⟩:=W
 obtain⟨s',u',ms',ex',oA',aA',cA',uA',uC'⟩:=W'
 obtain rfl:u'=u:=h14
 obtain rfl:oA'=oA:=h15
 obtain rfl:uA'=uA:=h16
 obtain rfl:uC'=uC:=h17
 obtain rfl:ex'=ex:=h18
 cases x
 case b=>exact congrArg some (hb hx)
 case kinds=>exact congrArg (λz=>some (U z)) (h1 hx)
 case spaces=>exact congrArg (λz=>some (U z)) (h2 hx)
 case names=>exact congrArg (λz=>some (U z)) (h3 hx)
 case texts=>exact congrArg (λz=>some (U z)) (h4 hx)
 case parents=>exact congrArg (λz=>some (cz z)) (h5 hx)
 case contents=>exact congrArg (λz=>some (O.dict (z.map bS) (some z.length))) (h6 hx)
 case items=>exact congrArg (λz=>some (ay z)) (h7 hx)
 case errors=>exact congrArg (λz=>some (O.list z)) (h8 hx)
 case attrs=>exact congrArg (λz=>some (aS z)) (h9 hx)
 case children=>exact congrArg (λz=>some (aS z)) (h10 hx)
 case modes=>exact congrArg (λz=>some (U z)) (h11 hx)
 case at_ i=>exact congrArg (Vc bm) (h12 i hx)
 case ch i=>exact congrArg (Vc ay) (h13 i hx)
 all_goals rfl
set_option tactic.hygienic true in
theorem zi{ad:Ad}{W W':Wd}{r:Rl}(h1:∀i,r≠ .at_ i->(W'.s.attrs[i]?).isSome=true->W'.aA.getD i 0=W.aA.getD i 0)(h2:∀i,r≠ .ch i->(W'.s.children[i]?).isSome=true->W'.cA.getD i 0=W.cA.getD i 0)(h15:W'.oA=W.oA)(h16:W'.uA=W.uA)(h17:W'.uC=W.uC)(h18:W'.ex=W.ex):∀x,x≠r->(cont ad W' x).isSome=true->bj ad W' x=bj ad W x:=λx hx hs=>by
 have hy:=hx.symm
 clear hx
 obtain⟨s,u,ms,ex,oA,aA,cA,uA,uC⟩:=W
 obtain⟨s',u',ms',ex',oA',aA',cA',uA',uC'⟩:=W'
 obtain rfl:oA'=oA:=h15
 obtain rfl:uA'=uA:=h16
 obtain rfl:uC'=uC:=h17
 obtain rfl:ex'=ex:=h18
 cases x
 case at_ i=>exact h1 i hy (Option.isSome_map.symm.trans hs)
 case ch i=>exact h2 i hy (Option.isSome_map.symm.trans hs)
 all_goals rfl
theorem BV.take(B:BV H ad W){W':Wd}(r:Rl)(k:Nat){o:O}(hk:H[k]?=some o)(fr:∀x,(cont ad W x).isSome=true->bj ad W x≠k)
  (h1:cont ad W' r=some o) (h3:bj ad W' r=k) (h4:∀x,x≠r->(cont ad W' x).isSome=true->bj ad W' x=bj ad W x) (h2:∀x,x≠r->cont ad W' x=cont ad W x):BV H ad W':=by
 have is:∀x,x≠r->(cont ad W' x).isSome=true->(cont ad W x).isSome=true:=λx hx h=>by refine el (h2 x hx ..) ?_;exact h
 refine⟨λx o' h=>?_,λx y hx hy e=>?_⟩
 ·by_cases e:x=r
  ·subst e
   rw[h1]at h;cases h
   refine er (h3 ..) ?_;exact hk
  ·refine er (h4 x e (by refine er (h ..) ?_;rfl) ..) ?_
   rw[h2 x e]at h;exact B.get x o' h
 ·by_cases e1:x=r
  ·by_cases e2:y=r
   ·refine er (e1 ..) (er (e2 ..) rfl)
   ·exfalso
    rw[e1,h3,h4 y e2 hy]at e
    exact fr y (is y e2 hy) e.symm
  ·by_cases e2:y=r
   ·exfalso
    rw[e2,h3,h4 x e1 hx]at e
    exact fr x (is x e1 hx) e
   ·rw[h4 x e1 hx,h4 y e2 hy]at e
    exact B.inj x y (is x e1 hx) (is y e2 hy) e
noncomputable def Fr(H:Hp)(ad:Ad)(W:Wd)(k:Nat)(o:O):Prop:=H[k]?=some o/\∀x,(cont ad W x).isSome=true->bj ad W x≠k
noncomputable abbrev Wd.x(W:Wd)(k:Nat)(o:O):Wd:={W with ex:=W.ex++[(k,o)]}
theorem zj{l:List (Nat×O)}{p:Nat×O}{i:Nat}(h:i≠l.length):(l++[p])[i]?=l[i]?:=by
 by_cases hi:i<l.length
 ·refine er (U4 hi ..) rfl
 ·refine er (Vp (by simp;lia) ..) (er (Vp (Nat.not_lt.mp ‹_›) ..) rfl)
set_option tactic.hygienic true in
theorem ke{k:Nat}{o:O}{r:Rl}(h:r≠ .ex W.ex.length):cont ad (W.x k o) r=cont ad W r/\bj ad (W.x k o) r=bj ad W r:=by
 cases r<;>first|exact⟨rfl,rfl⟩|skip
 rename_i i
 have hne:i≠W.ex.length:=λe=>h (by refine er (e ..) rfl)
 exact⟨congrArg (Vc Xq) (zj hne),congrArg (λz=>(Vc Xr z).getD 0) (zj hne)⟩
theorem BV.xpush(B:BV H ad W){k:Nat}{o:O}(h:Fr H ad W k o):BV H ad (W.x k o):=
 B.take (.ex W.ex.length) k h.1 h.2 (td Vt) (qa Vt) (λx hx _=>(ke hx).2) λx hx=>(ke hx).1
theorem BV.xpop{k:Nat}{o:O}(B:BV H ad (W.x k o)):BV H ad W/\Fr H ad W k o:=by
 have e0:∀x,(cont ad W x).isSome=true->x≠ .ex W.ex.length:=λx h e=>by
  subst e
  have:cont ad W (.ex W.ex.length)=none:=congrArg (Vc Xq) (Vp (Vf _))
  rw[this]at h;exact Bool.noConfusion h
 have c0:cont ad (W.x k o) (.ex W.ex.length)=some o:=td Vt
 have a0:bj ad (W.x k o) (.ex W.ex.length)=k:=qa Vt
 refine⟨⟨λr q h=>?_,λx y hx hy e=>?_⟩,by have:=B.get _ _ c0;rw[a0]at this;exact this,λx h e=>?_⟩
 ·have:=ke (k:=k) (o:=o) (ad:=ad) (W:=W) (e0 r (by refine er (h ..) ?_;rfl))
  refine el (this.2 ..) ?_
  exact B.get r q (by refine er (this.1 ..) ?_;exact h)
 ·have h1:=ke (k:=k) (o:=o) (ad:=ad) (W:=W) (e0 x hx)
  have h2:=ke (k:=k) (o:=o) (ad:=ad) (W:=W) (e0 y hy)
  exact B.inj x y (by refine er (h1.1 ..) ?_;exact hx) (by refine er (h2.1 ..) ?_;exact hy) (by refine er (h1.2 ..) (er (h2.2 ..) ?_);exact e)
 ·have h1:=ke (k:=k) (o:=o) (ad:=ad) (W:=W) (e0 x h)
  have:=B.inj x (.ex W.ex.length) (by refine er (h1.1 ..) ?_;exact h) (by refine er (c0 ..) ?_;rfl) (by refine er (h1.2 ..) (er (a0 ..) ?_);exact e)
  exact e0 x h this
theorem BV.fresh(B:BV H ad W)(o:O):BV (H++[o]) ad W/\Fr (H++[o]) ad W H.length o:=
 ⟨B.app [o],by simp,λ_ h=>VB (B.lt h)⟩
theorem Fr.app{k:Nat}{o:O}(h:Fr H ad W k o)(G:Hp):Fr (H++G) ad W k o:=⟨by refine er (U4 (List.getElem?_eq_some_iff.mp h.1).1 ..) ?_;exact h.1,h.2⟩
end
def qc(C:Addr):Option cX:=(eH.find? λc=>decide (c.2.addr=C)).map (·.2)
def zk(C:Addr)(es:List (Str×V))(n:Str):Option V:=(qc C).bind λc=>if c.flds.any (λf=>decide (f=n))then(es.find? λe=>decide (e.1=n)).map (·.2)else .none
def OQ(C:Addr)(es:List (Str×V))(n:Str):Option Addr:=(qc C).bind λc=>if es.all (λe=>c.flds.contains e.1)&& !(c.flds.contains n)then c.meths.lookup n else .none
def te(C:Addr)(es:List (Str×V))(n:Str)(v:V):Option (List (Str×V)):=(qc C).bind λc=>if c.flds.any (λf=>decide (f=n))&&decide (es.length<=100)then some (kK n v es)else .none
theorem cj{k:Nat}{H:Hp}{o:O}(h:H[k]?=some o):cC k H=some (o,H):=by unfold cC;refine er (h ..) rfl
theorem aq{α β:Type}{m:M α}{f:α->M β}{H H':Hp}{v:α}(h:m H=some (v,H')):UX m f H=f v H':=by unfold UX;refine er (h ..) rfl
theorem zl{α:Type}{k:Nat}{C:Addr}{es:List (Str×V)}{c:Str×cX}{cl:Cl}{H:Hp}{f:Nat->Addr->Str×cX->List (Str×V)->M α}(h:H[k]?=some (.inst C es))(hc:eH.find? (λc=>decide (c.2.addr=C))=some c):my (TT cl) (.ref k) f H=f k C c es H:=by
 delta my ed
 refine(aq (cj h)).trans ?_
 show cU (eH.find? λc=>decide (c.2.addr=C)) (λc=>f k C c es) H=_
 refine er (hc ..) ?_;rfl
theorem tf{α:Type}{C:Addr}{f:cX->Option α}{v:α}(hp:(qc C).bind f=some v):∃c,eH.find? (λc=>decide (c.2.addr=C))=some c/\f c.2=some v:=
 ex1_2 (Option.bind_eq_some_iff.mp hp) λ_ e h=>ex1_2 (Option.map_eq_some_iff.mp e) λc hc e=>⟨c,hc,e▸h⟩
theorem cG{k:Nat}{C:Addr}{es:List (Str×V)}{n:Str}{v:V}{cl:Cl}{H:Hp}{f:V->K}(h:H[k]?=some (.inst C es))(hp:zk C es n=some v):UX (ab (.ref k) n (TT cl)) f H=f v H:=by
 refine aq ?_
 refine ex1_2 (tf hp) λc hc hp=>?_
 refine(zl h hc).trans ?_
 refine ai (eP hp) λhf hp=>?_
 refine er (if_pos hf ..) (er (hp ..) ?_);rfl
theorem lF{k:Nat}{C:Addr}{es es':List (Str×V)}{n:Str}{v:V}{cl:Cl}{H:Hp}{f:Unit->K}(h:H[k]?=some (.inst C es))(hp:te C es n v=some es'):UX (a_ (.ref k) n v (TT cl)) f H=f () (H.set k (.inst C es')):=by
 refine aq ?_
 refine ex1_2 (tf hp) λc hc hp=>?_
 refine(zl h hc).trans ?_
 refine ai (eP hp) λhf hp=>?_
 refine er (if_pos hf ..) (el (Option.some.inj hp ..) ?_);rfl
theorem di{k:Nat}{C:Addr}{es:List (Str×V)}{n:Str}{g:Addr}{cl:Cl}{H:Hp}{ev:(List V->K)->K}{kk:V->K}(h:H[k]?=some (.inst C es))(hp:OQ C es n=some g):ao (TT cl) (.ref k) n ev kk H=ev (λvs=>UX (cl g (.ref k::vs)) kk) H:=by
 refine ex1_2 (tf hp) λc hc hp=>?_
 refine(aq (f:=mJ (TT cl) k n ev kk) (cj h)).trans ?_
 show cU (eH.find? λc=>decide (c.2.addr=C)) (λc=>rG (TT cl) k n ev kk c.2 es) H=_
 refine er (hc ..) ?_
 refine ai (eP hp) λhf hp=>?_
 show cU (c.2.meths.lookup n) _ H=_
 refine er (hp ..) ?_
 exact congrFun (if_pos hf) H
theorem bO{k:Nat}{xs:List V}{n:Str}{me:Me}{cl:Cl}{H:Hp}{ev:(List V->K)->K}{kk:V->K}(h:H[k]?=some (.list xs))(hn:iy n=some me)(hm:oR me=true):ao (TT cl) (.ref k) n ev kk H=ev (b9 k me kk) H:=by
 refine(aq (f:=mJ (TT cl) k n ev kk) (cj h)).trans ?_
 show cU (iy n) (λme=>if oR me then ev (b9 k me kk)else UY) H=_
 refine er (hn ..) ?_
 exact congrFun (if_pos hm) H
theorem tg{k:Nat}{es:List (V×V)}{ep:Option Nat}{n:Str}{cl:Cl}{H:Hp}{ev:(List V->K)->K}{kk:V->K}(h:H[k]?=some (.dict es ep))(hn:n=S "get"):ao (TT cl) (.ref k) n ev kk H=ev (jN k kk) H:=by
 refine(aq (f:=mJ (TT cl) k n ev kk) (cj h)).trans ?_
 exact congrFun (if_pos (decide_eq_true hn)) H
theorem cQ:iy (S "append")=some .append:=by kernel_rfl
theorem zm:iy (S "pop")=some .pop:=by kernel_rfl
theorem th:iy (S "remove")=some .remove:=by kernel_rfl
theorem tj:iy (S "index")=some .index:=by kernel_rfl
theorem OS:iy (S "insert")=some .insert:=by kernel_rfl
theorem dw{k:Nat}{xs:List V}{v:V}{H:Hp}{kk:V->K}(h:H[k]?=some (.list xs))(hl:xs.length<=100000):b9 k .append kk [v] H=kk .none (H.set k (.list (xs++[v]))):=by
 unfold b9
 refine(aq (cj h)).trans (aq ?_)
 unfold i3
 refine er (if_pos (by unfold aV;simpa using hl) ..) ?_
 rfl
theorem OT{k:Nat}{xs:List V}{v:V}{H:Hp}{kk:V->K}(h:H[k]?=some (.list (xs++[v])))(hl:xs.length<100000):b9 k .pop kk [] H=kk v (H.set k (.list xs)):=by
 unfold b9
 refine(aq (cj h)).trans (aq ?_)
 unfold i3
 refine er (if_pos (by unfold aV;simp;exact iZ ‹_›) ..) ?_
 simp only[List.getLast?_append,List.getLast?_singleton,Option.some_or,List.dropLast_concat]
 rfl
section
variable{H:Hp}{k:Nat}{xs:List V}{es:List (V×V)}{ep:Option Nat}{v:V}
theorem nv{i:Int}{j:Nat}(hs:small i=true)(hp:eQ i xs.length=some j)(hi:xs[j]?=some v):kM xs (.int i) H=some (v,H):=(congrFun (if_pos hs) H).trans (by refine er (hp ..) (er (XJ ..) (er (hi ..) ?_));rfl)
theorem zn{i:Int}{j:Nat}(h:H[k]?=some (.list xs))(hs:small i=true)(hp:eQ i xs.length=some j)(hi:xs[j]?=some v):aa (.ref k) (.int i) H=some (v,H):=(aq (f:=rA (.int i)) (cj h)).trans (nv hs hp hi)
theorem tm{i:V}(h:H[k]?=some (.dict es ep))(hk:cD i es=true)(hg:bo i es=some v):aa (.ref k) i H=some (v,H):=(aq (f:=rA i) (cj h)).trans ((congrFun (if_pos hk) H).trans (by refine er (hg ..) ?_;rfl))
theorem OU{i:Int}(h:H[k]?=some (.list xs))(hz:0<=i/\i<xs.length/\aV xs.length=true):bi (.ref k) (.int i) v H=some ((),H.set k (.list (xs.set i.toNat v))):=by
 delta bi ed
 exact(aq (cj h)).trans (congrFun (if_pos hz) H)
theorem zo{i:V}(h:H[k]?=some (.dict es ep))(hk:cD i es=true)(hl:aV es.length=true):bi (.ref k) i v H=some ((),H.set k (.dict (dJ i v es) (if(bo i es).isSome then ep else ep.map (·+1)))):=by
 delta bi ed
 exact(aq (cj h)).trans (congrFun (if_pos (by refine er (hk ..) (er (hl ..) ?_);rfl)) H)
theorem OV{x:Str}(h:H[k]?=some (.dict es ep))(hk:cD (.str x) es=true):dA (.str x) (.ref k) H=some ((bo (.str x) es).isSome,H):=(aq (f:=λo=>jG o (.str x) (ix x)) (cj h)).trans (congrFun (if_pos hk) H)
theorem OW{x:Int}(h:H[k]?=some (.dict es ep))(hk:cD (.int x) es=true):dA (.int x) (.ref k) H=some ((bo (.int x) es).isSome,H):=(aq (f:=λo=>jG o (.int x) (kO x)) (cj h)).trans (congrFun (if_pos hk) H)
theorem OX{x:Str}{l:List Str}(h:H[k]?=some (.list xs))(hm:(xs.mapM λy=>match y with|V.str s=>some s|_=>Option.none)=some l):dA (.str x) (.ref k) H=some (l.any λy=>decide (y=x),H):=by
 refine(aq (f:=λo=>jG o (.str x) (ix x)) (cj h)).trans ?_
 show(match(xs.mapM λy=>match y with|V.str s=>some s|_=>Option.none)with|some l=>some (l.any λy=>decide (y=x),H)| .none=> .none)=_
 refine er (hm ..) rfl
theorem zp{x:Int}{l:List Int}(h:H[k]?=some (.list xs))(hm:(xs.mapM λy=>match y with|V.int s=>some s|_=>Option.none)=some l):dA (.int x) (.ref k) H=some (l.any λy=>decide (y=x),H):=by
 refine(aq (f:=λo=>jG o (.int x) (kO x)) (cj h)).trans ?_
 show(match(xs.mapM λy=>match y with|V.int s=>some s|_=>Option.none)with|some l=>some (l.any λy=>decide (y=x),H)| .none=> .none)=_
 refine er (hm ..) rfl
theorem tn{kk:V->K}{vs:List V}{H':Hp}(h:H[k]?=some (.dict es ep))(e:kP es .get vs H=some (v,H')):jN k kk vs H=kk v H':=(aq (f:=λo=>kL o λes=>UX (kP es .get vs) kk) (cj h)).trans (aq (m:=kP es .get vs) e)
theorem tp{i d:V}(hk:cD i es=true):kP es .get [i,d] H=some ((bo i es).getD d,H):=congrFun (if_pos hk) H
theorem qd{me:Me}{kk:V->K}{vs:List V}{H':Hp}(h:H[k]?=some (.list xs))(hl:aV xs.length=true)(e:i3 k xs me vs H=some (v,H')):b9 k me kk vs H=kk v H':=(aq (f:=λo=>jD o λxs=>UX (i3 k xs me vs) kk) (cj h)).trans (aq e)
end
theorem fH{k:Nat}{xs:List V}{i:Nat}{v:V}{H:Hp}{f:V->K}(h:H[k]?=some (.list xs))(hi:xs[i]?=some v)(hl:xs.length<=100000):UX (aa (.ref k) (.int (i:Nat))) f H=f v H:=by
 have hlt:=(List.getElem?_eq_some_iff.mp hi).1
 refine aq (zn h (by unfold small;simp;lia) ?_ hi)
 unfold eQ
 refine er (if_pos (VP _) ..) (er (if_pos (nZ ‹_›) ..) ?_);simp
theorem fJ{α:Type}{k:Nat}{xs:List V}{H:Hp}{f:List V->M α}(h:H[k]?=some (.list xs)):eR k f H=f xs H:=aq (f:=λo=>jD o f) (cj h)
theorem lG{k:Nat}{xs:List V}{H:Hp}{f:V->K}(h:H[k]?=some (.list xs))(hl:xs.length<=100000):UX (bw (.ref k)) f H=f (.int xs.length) H:=
 aq ((fJ (f:=λxs=>if aV xs.length then UZ (V.int xs.length)else UY) h).trans (congrFun (if_pos (decide_eq_true hl)) H))
section
variable{H:Hp}{ad:Ad}{W:Wd}{cl:Cl}
theorem nx(B:BV H ad W):H[ad .kinds]?=some (U W.s.kinds):=B.get .kinds _ rfl
theorem ny(B:BV H ad W):H[ad .spaces]?=some (U W.s.spaces):=B.get .spaces _ rfl
theorem nz(B:BV H ad W):H[ad .names]?=some (U W.s.names):=B.get .names _ rfl
theorem nC(B:BV H ad W):H[ad .attrs]?=some (aS W.aA):=B.get .attrs _ rfl
theorem tq(B:BV H ad W):H[ad .texts]?=some (U W.s.texts):=B.get .texts _ rfl
theorem kg(B:BV H ad W):H[ad .parents]?=some (cz W.s.parents):=B.get .parents _ rfl
theorem nL(B:BV H ad W):H[ad .children]?=some (aS W.cA):=B.get .children _ rfl
theorem dQ(B:BV H ad W):H[ad .items]?=some (ay W.s.items):=B.get .items _ rfl
theorem OY(B:BV H ad W):H[ad .fitems]?=some (.list []):=B.get .fitems _ rfl
theorem tr(B:BV H ad W):H[ad .modes]?=some (U W.modes):=B.get .modes _ rfl
theorem OZ(B:BV H ad W):H[ad .owners]?=some (.dict [] (some 0)):=B.get .owners _ rfl
theorem qe(B:BV H ad W):H[ad .errors]?=some (.list W.s.errors):=B.get .errors _ rfl
theorem zr(B:BV H ad W):H[ad .rules]?=some (dF):=B.get .rules _ rfl
theorem jf(B:BV H ad W):H[ad .contents]?=some (.dict (W.s.contents.map bS) (some W.s.contents.length)):=B.get .contents _ rfl
theorem O0(B:BV H ad W){f:V->K}:UX (ab (.ref (ad .b)) (S "rules") (TT cl)) f H=f (.ref (ad .rules)) H:=cG (B.get .b _ rfl) (by kernel_rfl)
theorem eM(B:BV H ad W){f:V->K}:UX (ab (.ref (ad .b)) (S "tree") (TT cl)) f H=f (.ref (ad .t)) H:=cG (B.get .b _ rfl) (by kernel_rfl)
theorem bP(B:BV H ad W){f:V->K}:UX (ab (.ref (ad .b)) (S "stack") (TT cl)) f H=f (.ref (ad .st)) H:=cG (B.get .b _ rfl) (by kernel_rfl)
theorem O1(B:BV H ad W){f:V->K}:UX (ab (.ref (ad .b)) (S "formatting") (TT cl)) f H=f (.ref (ad .fm)) H:=cG (B.get .b _ rfl) (by kernel_rfl)
theorem qf(B:BV H ad W){f:V->K}:UX (ab (.ref (ad .b)) (S "mode") (TT cl)) f H=f (.str W.s.mode) H:=cG (B.get .b _ rfl) (by kernel_rfl)
theorem O2(B:BV H ad W){f:V->K}:UX (ab (.ref (ad .b)) (S "original") (TT cl)) f H=f (.str (S "")) H:=cG (B.get .b _ rfl) (by kernel_rfl)
theorem tu(B:BV H ad W){f:V->K}:UX (ab (.ref (ad .b)) (S "modes") (TT cl)) f H=f (.ref (ad .modes)) H:=cG (B.get .b _ rfl) (by kernel_rfl)
theorem nP(B:BV H ad W){f:V->K}:UX (ab (.ref (ad .b)) (S "form") (TT cl)) f H=f (.int W.s.form) H:=cG (B.get .b _ rfl) (by kernel_rfl)
theorem O3(B:BV H ad W){f:V->K}:UX (ab (.ref (ad .b)) (S "owners") (TT cl)) f H=f (.ref (ad .owners)) H:=cG (B.get .b _ rfl) (by kernel_rfl)
theorem tv(B:BV H ad W){f:V->K}:UX (ab (.ref (ad .b)) (S "is_frameset_ok") (TT cl)) f H=f (.bool W.s.ok) H:=cG (B.get .b _ rfl) (by kernel_rfl)
theorem O4(B:BV H ad W){f:V->K}:UX (ab (.ref (ad .b)) (S "is_foster") (TT cl)) f H=f (.bool false) H:=cG (B.get .b _ rfl) (by kernel_rfl)
theorem zt(B:BV H ad W){f:V->K}:UX (ab (.ref (ad .b)) (S "context") (TT cl)) f H=f (.int (-1)) H:=cG (B.get .b _ rfl) (by kernel_rfl)
theorem tw(B:BV H ad W){f:V->K}:UX (ab (.ref (ad .b)) (S "errors") (TT cl)) f H=f (.ref (ad .errors)) H:=cG (B.get .b _ rfl) (by kernel_rfl)
theorem O5(B:BV H ad W){f:V->K}:UX (ab (.ref (ad .b)) (S "wish") (TT cl)) f H=f (.str (S "")) H:=cG (B.get .b _ rfl) (by kernel_rfl)
theorem O6(B:BV H ad W){f:V->K}:UX (ab (.ref (ad .b)) (S "is_done") (TT cl)) f H=f (.bool W.s.done) H:=cG (B.get .b _ rfl) (by kernel_rfl)
theorem qg(B:BV H ad W){f:V->K}:UX (ab (.ref (ad .t)) (S "kinds") (TT cl)) f H=f (.ref (ad .kinds)) H:=cG (B.get .t _ rfl) (by kernel_rfl)
theorem gL(B:BV H ad W){f:V->K}:UX (ab (.ref (ad .t)) (S "spaces") (TT cl)) f H=f (.ref (ad .spaces)) H:=cG (B.get .t _ rfl) (by kernel_rfl)
theorem gM(B:BV H ad W){f:V->K}:UX (ab (.ref (ad .t)) (S "names") (TT cl)) f H=f (.ref (ad .names)) H:=cG (B.get .t _ rfl) (by kernel_rfl)
theorem nS(B:BV H ad W){f:V->K}:UX (ab (.ref (ad .t)) (S "attrs") (TT cl)) f H=f (.ref (ad .attrs)) H:=cG (B.get .t _ rfl) (by kernel_rfl)
theorem zu(B:BV H ad W){f:V->K}:UX (ab (.ref (ad .t)) (S "texts") (TT cl)) f H=f (.ref (ad .texts)) H:=cG (B.get .t _ rfl) (by kernel_rfl)
theorem iP(B:BV H ad W){f:V->K}:UX (ab (.ref (ad .t)) (S "parents") (TT cl)) f H=f (.ref (ad .parents)) H:=cG (B.get .t _ rfl) (by kernel_rfl)
theorem lH(B:BV H ad W){f:V->K}:UX (ab (.ref (ad .t)) (S "children") (TT cl)) f H=f (.ref (ad .children)) H:=cG (B.get .t _ rfl) (by kernel_rfl)
theorem lI(B:BV H ad W){f:V->K}:UX (ab (.ref (ad .t)) (S "contents") (TT cl)) f H=f (.ref (ad .contents)) H:=cG (B.get .t _ rfl) (by kernel_rfl)
theorem lJ(B:BV H ad W){f:V->K}:UX (ab (.ref (ad .st)) (S "tree") (TT cl)) f H=f (.ref (ad .t)) H:=cG (B.get .st _ rfl) (by kernel_rfl)
theorem dj(B:BV H ad W){f:V->K}:UX (ab (.ref (ad .st)) (S "items") (TT cl)) f H=f (.ref (ad .items)) H:=cG (B.get .st _ rfl) (by kernel_rfl)
theorem O7(B:BV H ad W){f:V->K}:UX (ab (.ref (ad .fm)) (S "items") (TT cl)) f H=f (.ref (ad .fitems)) H:=cG (B.get .fm _ rfl) (by kernel_rfl)
theorem fK(B:BV H ad W){ev:(List V->K)->K}{kk:V->K}:ao (TT cl) (.ref (ad .b)) (S "error") ev kk H=ev (λvs=>UX (cl 586 (.ref (ad .b)::vs)) kk) H:=di (B.get .b _ rfl) (by kernel_rfl)
theorem tz(B:BV H ad W){ev:(List V->K)->K}{kk:V->K}:ao (TT cl) (.ref (ad .b)) (S "to") ev kk H=ev (λvs=>UX (cl 593 (.ref (ad .b)::vs)) kk) H:=di (B.get .b _ rfl) (by kernel_rfl)
theorem nW(B:BV H ad W){ev:(List V->K)->K}{kk:V->K}:ao (TT cl) (.ref (ad .b)) (S "use") ev kk H=ev (λvs=>UX (cl 600 (.ref (ad .b)::vs)) kk) H:=di (B.get .b _ rfl) (by kernel_rfl)
theorem O8(B:BV H ad W){ev:(List V->K)->K}{kk:V->K}:ao (TT cl) (.ref (ad .b)) (S "process") ev kk H=ev (λvs=>UX (cl 607 (.ref (ad .b)::vs)) kk) H:=di (B.get .b _ rfl) (by kernel_rfl)
theorem zv(B:BV H ad W){ev:(List V->K)->K}{kk:V->K}:ao (TT cl) (.ref (ad .b)) (S "adjusted") ev kk H=ev (λvs=>UX (cl 621 (.ref (ad .b)::vs)) kk) H:=di (B.get .b _ rfl) (by kernel_rfl)
theorem O9(B:BV H ad W){ev:(List V->K)->K}{kk:V->K}:ao (TT cl) (.ref (ad .b)) (S "is_foreign") ev kk H=ev (λvs=>UX (cl 628 (.ref (ad .b)::vs)) kk) H:=di (B.get .b _ rfl) (by kernel_rfl)
theorem zw(B:BV H ad W){ev:(List V->K)->K}{kk:V->K}:ao (TT cl) (.ref (ad .t)) (S "add") ev kk H=ev (λvs=>UX (cl 463 (.ref (ad .t)::vs)) kk) H:=di (B.get .t _ rfl) (by kernel_rfl)
theorem tA(B:BV H ad W){ev:(List V->K)->K}{kk:V->K}:ao (TT cl) (.ref (ad .t)) (S "element") ev kk H=ev (λvs=>UX (cl 472 (.ref (ad .t)::vs)) kk) H:=di (B.get .t _ rfl) (by kernel_rfl)
theorem zx(B:BV H ad W){ev:(List V->K)->K}{kk:V->K}:ao (TT cl) (.ref (ad .t)) (S "insert") ev kk H=ev (λvs=>UX (cl 501 (.ref (ad .t)::vs)) kk) H:=di (B.get .t _ rfl) (by kernel_rfl)
theorem O_(B:BV H ad W){ev:(List V->K)->K}{kk:V->K}:ao (TT cl) (.ref (ad .t)) (S "append") ev kk H=ev (λvs=>UX (cl 508 (.ref (ad .t)::vs)) kk) H:=di (B.get .t _ rfl) (by kernel_rfl)
theorem zy(B:BV H ad W){ev:(List V->K)->K}{kk:V->K}:ao (TT cl) (.ref (ad .t)) (S "remove") ev kk H=ev (λvs=>UX (cl 515 (.ref (ad .t)::vs)) kk) H:=di (B.get .t _ rfl) (by kernel_rfl)
theorem Pa(B:BV H ad W){ev:(List V->K)->K}{kk:V->K}:ao (TT cl) (.ref (ad .t)) (S "value") ev kk H=ev (λvs=>UX (cl 543 (.ref (ad .t)::vs)) kk) H:=di (B.get .t _ rfl) (by kernel_rfl)
theorem tB(B:BV H ad W){ev:(List V->K)->K}{kk:V->K}:ao (TT cl) (.ref (ad .t)) (S "is_html") ev kk H=ev (λvs=>UX (cl 550 (.ref (ad .t)::vs)) kk) H:=di (B.get .t _ rfl) (by kernel_rfl)
theorem zA(B:BV H ad W){ev:(List V->K)->K}{kk:V->K}:ao (TT cl) (.ref (ad .st)) (S "push") ev kk H=ev (λvs=>UX (cl 98 (.ref (ad .st)::vs)) kk) H:=di (B.get .st _ rfl) (by kernel_rfl)
theorem tC(B:BV H ad W){ev:(List V->K)->K}{kk:V->K}:ao (TT cl) (.ref (ad .st)) (S "pop") ev kk H=ev (λvs=>UX (cl 105 (.ref (ad .st)::vs)) kk) H:=di (B.get .st _ rfl) (by kernel_rfl)
theorem kh(B:BV H ad W){ev:(List V->K)->K}{kk:V->K}:ao (TT cl) (.ref (ad .st)) (S "current") ev kk H=ev (λvs=>UX (cl 112 (.ref (ad .st)::vs)) kk) H:=di (B.get .st _ rfl) (by kernel_rfl)
theorem lK(B:BV H ad W){ev:(List V->K)->K}{kk:V->K}:ao (TT cl) (.ref (ad .st)) (S "many") ev kk H=ev (λvs=>UX (cl 119 (.ref (ad .st)::vs)) kk) H:=di (B.get .st _ rfl) (by kernel_rfl)
theorem zB(B:BV H ad W){ev:(List V->K)->K}{kk:V->K}:ao (TT cl) (.ref (ad .st)) (S "remove") ev kk H=ev (λvs=>UX (cl 133 (.ref (ad .st)::vs)) kk) H:=di (B.get .st _ rfl) (by kernel_rfl)
theorem lL(B:BV H ad W){ev:(List V->K)->K}{kk:V->K}:ao (TT cl) (.ref (ad .st)) (S "name") ev kk H=ev (λvs=>UX (cl 154 (.ref (ad .st)::vs)) kk) H:=di (B.get .st _ rfl) (by kernel_rfl)
theorem tD(B:BV H ad W){ev:(List V->K)->K}{kk:V->K}:ao (TT cl) (.ref (ad .st)) (S "has_name") ev kk H=ev (λvs=>UX (cl 161 (.ref (ad .st)::vs)) kk) H:=di (B.get .st _ rfl) (by kernel_rfl)
theorem zC(B:BV H ad W){ev:(List V->K)->K}{kk:V->K}:ao (TT cl) (.ref (ad .st)) (S "pop_until") ev kk H=ev (λvs=>UX (cl 168 (.ref (ad .st)::vs)) kk) H:=di (B.get .st _ rfl) (by kernel_rfl)
theorem Pb(B:BV H ad W)(x:Str):∃H',BV H' ad {W with s:={W.s with mode:=x}}/\∀f:Unit->K,UX (a_ (.ref (ad .b)) (S "mode") (.str x) (TT cl)) f H=f () H':=
 ⟨_,B.put (W':={W with s:={W.s with mode:=x}}) .b rfl rfl rfl (by apply dG<;>first|exact λ_=>rfl|exact λh=>absurd rfl h|exact λ_ _=>rfl|rfl),λ_=>lF (B.get .b _ rfl) (by kernel_rfl)⟩
theorem Pc(B:BV H ad W)(x:Int):∃H',BV H' ad {W with s:={W.s with form:=x}}/\∀f:Unit->K,UX (a_ (.ref (ad .b)) (S "form") (.int x) (TT cl)) f H=f () H':=
 ⟨_,B.put (W':={W with s:={W.s with form:=x}}) .b rfl rfl rfl (by apply dG<;>first|exact λ_=>rfl|exact λh=>absurd rfl h|exact λ_ _=>rfl|rfl),λ_=>lF (B.get .b _ rfl) (by kernel_rfl)⟩
theorem Pd(B:BV H ad W)(x:Bool):∃H',BV H' ad {W with s:={W.s with ok:=x}}/\∀f:Unit->K,UX (a_ (.ref (ad .b)) (S "is_frameset_ok") (.bool x) (TT cl)) f H=f () H':=
 ⟨_,B.put (W':={W with s:={W.s with ok:=x}}) .b rfl rfl rfl (by apply dG<;>first|exact λ_=>rfl|exact λh=>absurd rfl h|exact λ_ _=>rfl|rfl),λ_=>lF (B.get .b _ rfl) (by kernel_rfl)⟩
theorem Pe(B:BV H ad W)(x:Bool):∃H',BV H' ad {W with s:={W.s with done:=x}}/\∀f:Unit->K,UX (a_ (.ref (ad .b)) (S "is_done") (.bool x) (TT cl)) f H=f () H':=
 ⟨_,B.put (W':={W with s:={W.s with done:=x}}) .b rfl rfl rfl (by apply dG<;>first|exact λ_=>rfl|exact λh=>absurd rfl h|exact λ_ _=>rfl|rfl),λ_=>lF (B.get .b _ rfl) (by kernel_rfl)⟩
end
section
variable{H:Hp}{f:V->K}{g:Bool->K}
theorem bq{α β:Type}{m m2:M α}{k:α->M β}{H:Hp}(h:m=m2):UX m k H=UX m2 k H:=by refine er (h ..) rfl
theorem aT{a b:Int}:UX (af .Eq (.int a) (.int b)) g H=g (decide (a=b)) H:=rfl
theorem fM{a b:Int}:UX (af .NotEq (.int a) (.int b)) g H=g (!decide (a=b)) H:=rfl
theorem lM{a b:Int}:UX (af .Gt (.int a) (.int b)) g H=g (decide (b<a)) H:=rfl
theorem aM{a b:Str}:UX (af .Eq (.str a) (.str b)) g H=g (decide (a=b)) H:=rfl
theorem gg{a b:Str}:UX (af .NotEq (.str a) (.str b)) g H=g (!decide (a=b)) H:=rfl
theorem aP{b:Bool}:UX (truthy (.bool b)) g H=g b H:=rfl
theorem nY{a b:Int}:UX (ax .Sub (.int a) (.int b)) f H=f (.int (a-b)) H:=rfl
theorem dR{a b:Int}:UX (ax .Add (.int a) (.int b)) f H=f (.int (a+b)) H:=rfl
theorem aH{v:V}:(UZ v:K) H=some (v,H):=rfl
theorem bL{a b:K}:(if am .none=true then a else b)=a:=rfl
theorem qh{a b:K}{i:Int}:(if am (.int i)=true then a else b)=a:=rfl
theorem aO{a b:K}:aC true a b=a:=rfl
theorem aK{a b:K}:aC false a b=b:=rfl
noncomputable def lN(ys:List V):Option (List Str):=ys.mapM λy=>match y with|V.str s=>some s|_=> .none
theorem zD{a:Str}{ys:List V}{l:List Str}(h:lN ys=some l):dA (.str a) (.tup ys) H=some (l.any λy=>decide (y=a),H):=by
 show(match lN ys with|some ys=>some (ys.any λy=>decide (y=a),H)| .none=> .none)=_
 refine er (h ..) rfl
theorem Pf{a:Str}{ys:List V}{l:List Str}(h:lN ys=some l):UX (af .In (.str a) (.tup ys)) g H=g (l.any λy=>decide (y=a)) H:=aq (m:=dA (.str a) (.tup ys)) (zD h)
theorem Pg{a:Str}{ys:List V}{l:List Str}(h:lN ys=some l):UX (af .NotIn (.str a) (.tup ys)) g H=g (!l.any λy=>decide (y=a)) H:=
 aq (m:=UX (dA (.str a) (.tup ys)) λr=>UZ (!r)) (aq (zD h))
end
structure Wf(s:BS):Prop where
 lk:s.kinds.length=s.names.length
 ls:s.spaces.length=s.names.length
 la:s.attrs.length=s.names.length
 lt:s.texts.length=s.names.length
 lp:s.parents.length=s.names.length
 lc:s.children.length=s.names.length
 bn:s.names.length<=1000
 it:∀i∈s.items,i<s.names.length
 il:s.items.length<=1000
 ct:∀e∈s.contents,e.1<s.names.length/\e.2<s.names.length
 cn:s.contents.length<=s.names.length
 pr:∀(i:Nat) (p:Int),s.parents[i]?=some p->p= -1∨(0<=p/\p<i)
 ck:∀l∈s.children,l.length<=s.names.length
noncomputable def sp(s:BS)(i:Nat):Str:=s.spaces.getD i (S "")
noncomputable def nm(s:BS)(i:Nat):Str:=s.names.getD i (S "")
noncomputable def fN(s:BS):Int:=match s.items.getLast? with
 |some i=>(i:Nat)
 | .none=> -1
noncomputable def aL(s:BS)(i:Nat):Str:=if sp s i=S "html"then nm s i else S ""
noncomputable def eZ(s:BS):Str:=match s.items.getLast? with
 |some i=>aL s i
 | .none=>S ""
section
variable{H:Hp}{ad:Ad}{W:Wd}{cl:Cl}{n:Nat}{f:V->K}
theorem jg(B:BV H ad W)(F:Wf W.s){i:Nat}(hi:i<W.s.names.length):UX (aa (.ref (ad .spaces)) (.int (i:Nat))) f H=f (.str (sp W.s i)) H:=by
 have hi':i<W.s.spaces.length:=F.ls▸hi
 refine fH (ny B) ?_ ?_
 ·simp[sp,hi']
 ·simp[F.ls];have:=F.bn;exact nD ‹_›
theorem jh(B:BV H ad W)(F:Wf W.s){i:Nat}(hi:i<W.s.names.length):UX (aa (.ref (ad .names)) (.int (i:Nat))) f H=f (.str (nm W.s i)) H:=by
 refine fH (nz B) ?_ ?_
 ·simp[nm,hi]
 ·simp;have:=F.bn;exact nD ‹_›
theorem lO(B:BV H ad W)(F:Wf W.s):UX (bw (.ref (ad .items))) f H=f (.int W.s.items.length) H:=by
 have:=lG (k:=ad .items) (f:=f) (dQ B) (by simp;have:=F.il;exact nD ‹_›)
 simpa using this
theorem iQ(B:BV H ad W)(F:Wf W.s){k i:Nat}(hi:W.s.items[k]?=some i):UX (aa (.ref (ad .items)) (.int (k:Nat))) f H=f (.int (i:Nat)) H:=
 fH (dQ B) (by simp[hi]) (by simp;have:=F.il;exact nD ‹_›)
theorem Ph{l:List Nat}{i:Nat}(h:l.getLast?=some i):l[l.length-1]?=some i/\0<l.length:=by
 cases l with
 |nil=>simp at h
 |cons a r=>rw[VY]at h;exact⟨h,by simp⟩
theorem kj(B:BV H ad W)(F:Wf W.s):cF (n+1) 112 [.ref (ad .st)] H=some (.int (fN W.s),H):=by
 refine er (IU ..) ?_
 cases hl:W.s.items.getLast? with
 |none=>
  have h0:W.s.items=[]:=by simpa using hl
  simp[sP,dj B,lO B F,aT,h0,aH,fN]
 |some i=>
  refine ai (Ph hl) λh1 h2=>?_
  have h3:((W.s.items.length:Int)-1)=((W.s.items.length-1:Nat):Int):=by omega
  have h4:¬W.s.items=[]:=by intro h;rw[h]at h2;simp at h2
  simp[sP,dj B,lO B F,aT,h4,aH,fN,hl,nY,h3,iQ B F h1]
theorem lP(B:BV H ad W)(F:Wf W.s):cF (n+1) 119 [.ref (ad .st)] H=some (.int W.s.items.length,H):=by
 refine er (IV ..) ?_
 simp[yh,dj B,lO B F,aH]
theorem tE(F:Wf W.s){i:Nat}(hl:W.s.items.getLast?=some i):i<W.s.names.length:=F.it i (VT hl)
theorem lQ(B:BV H ad W)(F:Wf W.s):cF (n+2) 154 [.ref (ad .st)] H=some (.str (eZ W.s),H):=by
 refine er (I7 ..) ?_
 cases hl:W.s.items.getLast? with
 |none=>
  simp[pY,jp,kh B,aq (kj B F),aT,aH,fN,hl,eZ,aO]
 |some i=>
  have hi:=tE F hl
  by_cases hs:sp W.s i=S "html"
  ·simp[pY,jp,kh B,aq (kj B F),aT,aH,fN,hl,eZ,aL,aK,lJ B,gL B,gM B,jg B F hi,jh B F hi,gg,hs]
  ·simp[pY,jp,kh B,aq (kj B F),aT,aH,fN,hl,eZ,aL,aO,aK,lJ B,gL B,jg B F hi,gg,hs]
noncomputable def fO(s:BS)(i:Nat)(x:Str):Bool:=decide (sp s i=S "html")&&decide (nm s i=x)
theorem tF(B:BV H ad W)(F:Wf W.s){i:Nat}(hi:i<W.s.names.length){x:Str}:cF (n+1) 550 [.ref (ad .t),.int (i:Nat),.str x] H=some (.bool (fO W.s i x),H):=by
 refine er (Ib ..) ?_
 by_cases hs:sp W.s i=S "html"
 ·simp[sJ,jp,fM,aP,aO,gL B,gM B,jg B F hi,jh B F hi,aM,hs,aH,fO]
 ·simp[sJ,jp,fM,aP,aO,aK,gL B,jg B F hi,aM,hs,aH,fO]
end
theorem qi{next:Nat->M (Option V)}{body:V->Z->(Z->K)->(Z->K)->K}{kk:Z->K}(xs:List V)(Inv:Nat->Z->Hp->Prop)(P:Option (V×Hp)->Prop)
  (hn:∀i vars H,Inv i vars H->next i H=some (xs[i]?,H))
  (step:∀i v vars H kn,xs[i]?=some v->Inv i vars H->(∀vars' H',Inv (i+1) vars' H'->P (kn vars' H'))->P (body v vars kn kk H))
  (fin:∀vars H,Inv xs.length vars H->P (kk vars H)):∀n i vars H,Inv i vars H->i<=xs.length->xs.length<n+i->P (dr next body kk n i vars H)
 |0,i,vars,H,_,h1,h2=>by omega
 |n+1,i,vars,H,hI,h1,h2=>by
  unfold dr
  refine er (aq (hn i vars H hI) ..) ?_
  cases hx:xs[i]? with
  |none=>
   have:i=xs.length:=by have:=List.getElem?_eq_none_iff.mp hx;omega
   exact fin vars H (this▸hI)
  |some v=>
   have:i<xs.length:=(List.getElem?_eq_some_iff.mp hx).1
   exact step i v vars H _ hx hI λvars' H' hI'=>qi xs Inv P hn step fin n (i+1) vars' H' hI' ‹_› (by omega)
theorem zE{test:Z->(Bool->K)->K}{run:Z->(Z->K)->(Z->K)->K}{kk:Z->K}(Inv:Nat->Z->Hp->Prop)(P:Option (V×Hp)->Prop)
  (step:∀m vars H k,Inv m vars H->(∀m' vars' H',m'<m->Inv m' vars' H'->P (k vars' H'))->P (test vars (λt=>if t then run vars k kk else kk vars) H)):∀n m vars H,Inv m vars H->m<n->P (kW test run kk n vars H)
 |0,m,vars,H,_,h=>by omega
 |n+1,m,vars,H,hI,h=>by
  unfold kW
  exact step m vars H _ hI λm' vars' H' hm hI'=>zE Inv P step n m' vars' H' hI' (by omega)
theorem n4{H:Hp}{k:Nat}{xs:List V}(h:H[k]?=some (.list xs)):xs.length<=mI H:=by
 unfold mI
 induction H generalizing k with
 |nil=>simp at h
 |cons o r ih=>
  simp only[Vi,List.sum_cons]
  cases k with
  |zero=>simp at h;subst h;simp[vE]
  |succ k=>simp at h;have:=ih h;lia
section
variable{H:Hp}{k:Nat}{xs:List V}
theorem tG{g:It->K}(h:H[k]?=some (.list xs)):UX (ce (.ref k)) g H=g (.live k) H:=by
 refine aq ?_
 exact aq (f:=oV k) (cj h)
theorem Pi{tup:Bool}{body:V->Z->(Z->K)->(Z->K)->K}{kk:Z->K}{vars:Z}(h:H[k]?=some (.list xs)):cE tup (.live k) body kk vars H=dr (b8 (.live k)) body kk (xs.length+1) 0 vars H:=by
 show UX (jL (.live k)) (λn=>dr (b8 (.live k)) body kk (n+1) 0 vars) H=_
 refine aq ?_
 exact fJ (f:=λxs=>UZ xs.length) h
theorem tH{i:Nat}(h:H[k]?=some (.list xs)):b8 (.live k) i H=some (xs[i]?,H):=by
 exact fJ (f:=λxs=>UZ xs[i]?) h
theorem Pj{tup:Bool}{body:V->Z->(Z->K)->(Z->K)->K}{kk:Z->K}{vars:Z}:cE tup (.vals xs) body kk vars H=dr (b8 (.vals xs)) body kk (xs.length+1) 0 vars H:=rfl
theorem Pk{i:Nat}:b8 (.vals xs) i H=some (xs[i]?,H):=rfl
theorem qj{tup:Bool}{body:V->Z->(Z->K)->(Z->K)->K}{kk:Z->K}{vars:Z}(Inv:Nat->Z->Hp->Prop){P:Option (V×Hp)->Prop}(h:∀i vars H,Inv i vars H->H[k]?=some (.list xs))
  (step:∀i v vars H kn,xs[i]?=some v->Inv i vars H->(∀vars' H',Inv (i+1) vars' H'->P (kn vars' H'))->P (body v vars kn kk H))
  (fin:∀vars H,Inv xs.length vars H->P (kk vars H)) (h0:Inv 0 vars H):P (UX (ce (.ref k)) (λit=>cE tup it body kk vars) H):=by
 refine er (tG (h _ _ _ h0) ..) (er (Pi (h _ _ _ h0) ..) ?_)
 exact qi xs Inv P (λi vars H hI=>tH (h i vars H hI)) step fin _ 0 vars H h0 (V5 _) (Vf _)
theorem lR{tup:Bool}{body:V->Z->(Z->K)->(Z->K)->K}{kk:Z->K}{vars:Z}(Inv:Nat->Z->Hp->Prop){P:Option (V×Hp)->Prop}
  (step:∀i v vars H kn,xs[i]?=some v->Inv i vars H->(∀vars' H',Inv (i+1) vars' H'->P (kn vars' H'))->P (body v vars kn kk H))
  (fin:∀vars H,Inv xs.length vars H->P (kk vars H)) (h0:Inv 0 vars H):P (cE tup (.vals xs) body kk vars H):=by
 simp only[Pj]
 exact qi xs Inv P (λi vars H hI=>Pk) step fin _ 0 vars H h0 (V5 _) (Vf _)
theorem n5{test:Z->(Bool->K)->K}{run:Z->(Z->K)->(Z->K)->K}{kk:Z->K}{vars:Z}(Inv:Nat->Z->Hp->Prop){P:Option (V×Hp)->Prop}
  (step:∀m vars H k,Inv m vars H->(∀m' vars' H',m'<m->Inv m' vars' H'->P (k vars' H'))->P (test vars (λt=>if t then run vars k kk else kk vars) H)) {m:Nat}(h0:Inv m vars H) (hm:m<=mI H+1):P (ly test run kk vars H):=
 zE Inv P step _ m vars H h0 (V9 ‹_›)
end
section
variable{H:Hp}{ad:Ad}{W:Wd}{cl:Cl}{n:Nat}{f:V->K}
theorem Pl(B:BV H ad W)(F:Wf W.s){x:Str}:cF (n+2) 161 [.ref (ad .st),.str x] H=some (.bool (W.s.items.any λi=>fO W.s i x),H):=by
 refine er (I8 ..) ?_
 unfold yj
 refine Vu (dj B) ?_
 refine qj (P:=(·=some (.bool (W.s.items.any λi=>fO W.s i x),H))) (λi vars H'=>H'=H/\(∃o,vars=(nh (some (.ref (ad .st))) (some (.str x)) o))/\(W.s.items.take i).any (λi=>fO W.s i x)=false) (xs:=W.s.items.map λi=> .int (i:Nat)) (λi vars H' h=>h.1▸dQ B) ?_ ?_ ⟨rfl,⟨_,rfl⟩,by simp⟩
 ·rintro i v vars H' kn hv ⟨rfl,⟨o,rfl⟩,h0⟩ hk
  refine er (I9 ..) ?_
  rw[Vh,VA]at hv
  refine ex1_2 (hv) λj hj zq2=>?_;subst zq2
  have hj':=F.it j (Vb hj)
  cases hh:fO W.s j x with
  |true=>
   have:(W.s.items.any λi=>fO W.s i x)=true:=List.any_eq_true.mpr ⟨j,Vb hj,hh⟩
   simp[aP,aH,eq_self,lJ B,tB B,aq (tF B F hj'),hh,this]
  |false=>
   simp only[aP,U0,if_false,lJ B,tB B,aq (tF B F hj'),hh]
   refine hk _ _ ⟨rfl,⟨_,rfl⟩,?_⟩
   simp only[Wa,hj,XT,h0]
   simp[hh]
 ·rintro vars H' ⟨rfl,⟨o,rfl⟩,h0⟩
  refine er (I_ ..) ?_
  rw[Vk,VX]at h0
  refine er (h0 ..) ?_;rfl
end
noncomputable def e_:List V->List Str
 |[]=>[]
 | .str s::r=>s::e_ r
 |_::r=>e_ r
noncomputable def aj(l:List Str)(x:Str):Bool:=l.any λy=>decide (y=x)
section
variable{H:Hp}{g:Bool->K}
theorem qk:∀{ys:List V},dY ys=true->lN ys=some (e_ ys)
 |[],_=>rfl
 |y::ys,h=>by
  unfold dY at h
  rw[VL,U2]at h
  have ih:=qk (ys:=ys) h.2
  cases y<;>first|(cases h.1;done)|skip
  unfold lN at ih⊢
  refine er (VS ..) (er (ih ..) ?_);rfl
theorem iR(l:List Str):e_ (l.map .str)=l:=by
 induction l with
 |nil=>rfl
 |cons a r ih=>simp[e_,ih]
theorem ic(l:List Str):dY (l.map .str)=true:=by
 induction l with
 |nil=>rfl
 |cons a r ih=>simp[dY,V.isKeyStr]at ih⊢
theorem fP{a:Str}{ys:List V}(h:dY ys=true):UX (af .In (.str a) (.tup ys)) g H=g (aj (e_ ys) a) H:=Pf (qk h)
theorem tI{a:Str}{ys:List V}(h:dY ys=true):UX (af .NotIn (.str a) (.tup ys)) g H=g (!aj (e_ ys) a) H:=Pg (qk h)
end
noncomputable def cK(sort s m:Str):Bool:=if s=S "math"then aj [S "mi",S "mo",S "mn",S "ms",S "mtext",S "annotation-xml"] m else if s=S "svg"then aj [S "foreignObject",S "desc",S "title"] m
 else if aj [S "applet",S "caption",S "html",S "table",S "td",S "th",S "marquee",S "object",S "template"] m then true else if sort=S "list item"then aj [S "ol",S "ul"] m else decide (sort=S "button")&&decide (m=S "button")
noncomputable def fa(hit stop:Nat->Bool):List Nat->Bool
 |[]=>false
 |i::r=>if hit i then true else if stop i then false else fa hit stop r
noncomputable def kl(s:BS)(l:List Str)(i:Nat):Bool:=decide (sp s i=S "html")&&aj l (nm s i)
noncomputable def dD(s:BS)(l:List Str)(sort:Str):Bool:=fa (kl s l) (λi=>cK sort (sp s i) (nm s i)) s.items.reverse
noncomputable def km(s:BS)(x:Nat)(sort:Str):Bool:=fa (λi=>decide (i=x)) (λi=>cK sort (sp s i) (nm s i)) s.items.reverse
theorem ql(a d:Int):∀(n i:Nat),(cI a d n)[i]?=if i<n then some (.int (a+d*i))else none
 |0,i=>by simp[cI]
 |n+1,0=>by simp[cI]
 |n+1,i+1=>by
  unfold cI
  refine er (List.getElem?_cons_succ ..) (er (ql (a+d) d n i ..) ?_)
  by_cases h:i<n
  ·refine er (if_pos h ..) (er (if_pos (V9 ‹_›) ..) ?_)
   congr 2
   push_cast
   refine er (Int.mul_add ..) ?_;omega
  ·refine er (if_neg h ..) (er (if_neg (by omega) ..) rfl)
theorem tJ(a d:Int):∀n,(cI a d n).length=n
 |0=>rfl
 |n+1=>by simp[cI,tJ]
section
variable{H:Hp}{ad:Ad}{W:Wd}{cl:Cl}{n:Nat}{f:V->K}
theorem tK{vs xs:List V}{k:It->K}(h:mE vs=some xs):eD vs k H=k (.vals xs) H:=by unfold eD;refine er (h ..) ?_;rfl
theorem zF{m:Nat}(h:m<=1000){k:It->K}:eD [.int ((m:Int)-1),.int (-1),.int (-1)] k H=k (.vals (cI ((m:Int)-1) (-1) m)) H:=by
 refine tK ?_
 have h1:(decide ((-1:Int)= -1)&&decide ((-1:Int)= -1)&&decide (-1<=(m:Int)-1)&&decide ((m:Int)-1<=100000))=true:=by simp;omega
 show(if(decide ((-1:Int)= -1)&&decide ((-1:Int)= -1)&&decide (-1<=(m:Int)-1)&&decide ((m:Int)-1<=100000))=true then some (cI ((m:Int)-1) (-1) ((m:Int)-1+1).toNat)else none)=_
 refine er (if_pos h1 ..) (er ((show((m:Int)-1+1).toNat=m by omega) ..) rfl)
theorem tL(B:BV H ad W)(F:Wf W.s){i:Nat}(hi:i<W.s.names.length){sort:Str}(h1:sort≠S "select")(h2:sort≠S "table"):cF (n+1) 189 [.ref (ad .t),.int (i:Nat),.str sort] H=some (.bool (cK sort (sp W.s i) (nm W.s i)),H):=by
 refine er (Jx ..) ?_
 unfold yl
 simp only[jp,aM,U0,if_false,gL B,gM B,jg B F hi,jh B F hi,decide_eq_false h1,decide_eq_false h2]
 generalize sp W.s i=a
 generalize nm W.s i=m
 unfold cK
 by_cases e1:a=S "math"
 ·simp[aH,decide_true,eq_self,e1,fP,dY,V.isKeyStr,e_]
 ·by_cases e2:a=S "svg"
  ·have:¬(S "svg"=S "math"):=by decide
   simp[aM,aH,U0,decide_true,decide_false,eq_self,e2,fP,dY,V.isKeyStr,e_,this]
  ·simp only[aM,U0,if_false,decide_false,eq_self,e1,e2,decide_false,U0,if_false,fP,dY,V.isKeyStr,e_,VL,WJ,V2]
   by_cases hb:aj [S "applet",S "caption",S "html",S "table",S "td",S "th",S "marquee",S "object",S "template"] m=true
   ·simp[aH,hb]
   ·by_cases e3:sort=S "list item"
    ·simp[aM,aH,U0,decide_true,eq_self,e3,hb,fP,dY,V.isKeyStr,e_]
    ·by_cases e4:sort=S "button"
     ·have:¬(S "button"=S "list item"):=by decide
      simp[aM,aP,aH,aO,U0,decide_true,decide_false,eq_self,e4,hb,this]
     ·simp[aM,aP,aH,aK,U0,decide_false,eq_self,e3,e4,hb]
theorem zG{l:List Nat}{i:Nat}(h:i<l.length):l[l.length-1-i]?=l.reverse[i]?:=by
 refine er (List.getElem?_reverse h ..) rfl
theorem zH{hit stop:Nat->Bool}{l:List Nat}{i j:Nat}(h:l[i]?=some j):fa hit stop (l.drop i)=if hit j then true else if stop j then false else fa hit stop (l.drop (i+1)):=by
 refine ex1_1 (List.getElem?_eq_some_iff.mp h) λhlt e=>?_
 refine er (Wc hlt ..) (er (e ..) ?_);rfl
theorem qm(B:BV H ad W)(F:Wf W.s){l:List Str}{sort:Str}(h1:sort≠S "select")(h2:sort≠S "table"):cF (n+2) 197 [.ref (ad .st),.tup (l.map .str),.str sort] H=some (.bool (dD W.s l sort),H):=by
 refine er (ym ..) ?_
 unfold sR
 simp only[nY,lJ B,lK B,aq (lP B F),zF F.il,aM,aT,aP,aH,aO,aK,if_true,if_false,U0,U6,U5,decide_true,decide_false,eq_self]
 refine lR (P:=(·=some (.bool (dD W.s l sort),H))) (λi vars H'=>H'=H/\(∃o1 o2,vars=(ni (some (.ref (ad .st))) (some (.tup (l.map .str))) (some (.str sort)) (some (.ref (ad .t))) o1 o2))/\fa (kl W.s l) (λi=>cK sort (sp W.s i) (nm W.s i)) (W.s.items.reverse.drop i)=dD W.s l sort) ?_ ?_ ⟨rfl,⟨_,_,rfl⟩,rfl⟩
 ·rintro i v vars H' kn hv ⟨rfl,⟨o1,o2,rfl⟩,h0⟩ hk
  refine er (JL ..) ?_
  rw[ql]at hv
  split at hv
  ·rename_i hi
   cases hv
   have e:((W.s.items.length:Int)-1+ -1*(i:Int))=((W.s.items.length-1-i:Nat):Int):=by omega
   obtain⟨j,hj⟩:∃j,W.s.items.reverse[i]?=some j:=⟨W.s.items.reverse[i]'(by simpa using hi),by simp[hi]⟩
   have hj2:W.s.items[W.s.items.length-1-i]?=some j:=by refine er (zG hi ..) ?_;exact hj
   have hjl:=F.it j (Vb hj2)
   rw[zH hj]at h0
   refine er (e ..) ?_
   simp only[jp,aM,U0,if_false,if_true,eq_self,gL B,dj B,iQ B F hj2,jg B F hjl,aT,aP,aH,aO,aK,U6,U5,decide_true,decide_false]
   by_cases hs:sp W.s j=S "html"
   ·cases hm:aj l (nm W.s j)with
    |true=>
     simp only[aH,aO,decide_true,eq_self,gM B,hs,jh B F hjl,fP (ic l),iR,hm,aM,aT,aP,aK,if_true,if_false,U0,U6,U5,decide_false]
     simp[kl,hs,hm]at h0
     refine el (h0 ..) rfl
    |false=>
     simp only[aP,aO,aK,decide_true,eq_self,gM B,hs,jh B F hjl,fP (ic l),iR,hm,aq (tL B F hjl h1 h2),aM,aT,aH,if_true,if_false,U0,U6,U5,decide_false]
     simp[kl,hs,hm]at h0
     cases hst:cK sort (S "html") (nm W.s j)with
     |true=>rw[hst]at h0;simp[aH,U6,eq_self]at h0⊢;exact h0
     |false=>rw[hst]at h0;simp only[U0,if_false]at h0⊢;exact hk _ _ ⟨rfl,⟨_,_,rfl⟩,h0⟩
   ·simp only[aP,aK,decide_false,hs,decide_false,aq (tL B F hjl h1 h2),aM,aT,aH,aO,if_true,if_false,U0,U6,U5,decide_true,eq_self]
    simp[kl,hs]at h0
    cases hst:cK sort (sp W.s j) (nm W.s j)with
    |true=>rw[hst]at h0;simp[aH,U6,eq_self]at h0⊢;exact h0
    |false=>rw[hst]at h0;simp only[U0,if_false]at h0⊢;exact hk _ _ ⟨rfl,⟨_,_,rfl⟩,h0⟩
  ·exact ak hv
 ·rintro vars H' ⟨rfl,⟨o1,o2,rfl⟩,h0⟩
  refine er (JM ..) ?_
  rw[tJ,VN (by simp)]at h0
  refine el (h0 ..) ?_;rfl
theorem Pm(B:BV H ad W)(F:Wf W.s){x:Nat}{sort:Str}(h1:sort≠S "select")(h2:sort≠S "table"):cF (n+2) 205 [.ref (ad .st),.int (x:Nat),.str sort] H=some (.bool (km W.s x sort),H):=by
 refine er (yn ..) ?_
 unfold sT
 simp only[nY,lK B,aq (lP B F),zF F.il]
 refine lR (P:=(·=some (.bool (km W.s x sort),H))) (λi vars H'=>H'=H/\(∃o1,vars=(nj (some (.ref (ad .st))) (some (.int (x:Nat))) (some (.str sort)) o1))/\fa (λi=>decide (i=x)) (λi=>cK sort (sp W.s i) (nm W.s i)) (W.s.items.reverse.drop i)=km W.s x sort) ?_ ?_ ⟨rfl,⟨_,rfl⟩,rfl⟩
 ·rintro i v vars H' kn hv ⟨rfl,⟨o1,rfl⟩,h0⟩ hk
  refine er (JX ..) ?_
  rw[ql]at hv
  split at hv
  ·rename_i hi
   cases hv
   have e:((W.s.items.length:Int)-1+ -1*(i:Int))=((W.s.items.length-1-i:Nat):Int):=by omega
   obtain⟨j,hj⟩:∃j,W.s.items.reverse[i]?=some j:=⟨W.s.items.reverse[i]'(by simpa using hi),by simp[hi]⟩
   have hj2:W.s.items[W.s.items.length-1-i]?=some j:=by refine er (zG hi ..) ?_;exact hj
   have hjl:=F.it j (Vb hj2)
   rw[zH hj]at h0
   refine er (e ..) ?_
   simp only[aT,dj B,iQ B F hj2]
   by_cases hx:j=x
   ·have:((j:Int)=(x:Int)):=by omega
    simp[hx]at h0
    simp[aH,decide_true,eq_self,this,←h0]
   ·have hne:¬((j:Int)=(x:Int)):=by exact nN ‹_›
    simp only[aP,U0,if_false,decide_false,lJ B,dj B,hne,iQ B F hj2,aq (tL B F hjl h1 h2)]
    simp[hx]at h0
    cases hst:cK sort (sp W.s j) (nm W.s j)with
    |true=>rw[hst]at h0;simp[aH,U6,eq_self]at h0⊢;exact h0
    |false=>rw[hst]at h0;simp only[U0,if_false]at h0⊢;exact hk _ _ ⟨rfl,⟨_,rfl⟩,h0⟩
  ·exact ak hv
 ·rintro vars H' ⟨rfl,⟨o1,rfl⟩,h0⟩
  refine er (JY ..) ?_
  rw[tJ,VN (by simp)]at h0
  refine el (h0 ..) ?_;rfl
end
noncomputable abbrev Wd.si(W:Wd)(xs:List Nat):Wd:={W with s:={W.s with items:=xs}}
noncomputable abbrev Wd.er(W:Wd)(e:V):Wd:={W with s:={W.s with errors:=W.s.errors++[e]}}
noncomputable def bJ:List Str:=[S "dd",S "dt",S "li",S "optgroup",S "option",S "p",S "rb",S "rp",S "rt",S "rtc"]
noncomputable def d8(s:BS)(l:List Str):List Nat->List Nat
 |[]=>[]
 |i::r=>if aj l (aL s i)then r else d8 s l r
noncomputable def cL(s:BS)(but:Str):List Nat->List Nat
 |[]=>[]
 |i::r=>if aj bJ (aL s i)&& !decide (aL s i=but)then cL s but r else i::r
section
variable{H:Hp}{ad:Ad}{W:Wd}{cl:Cl}{n:Nat}{f:V->K}
theorem n6(s:BS)(l:List Str)(i:Nat)(r:List Nat):d8 s l (i::r)=if aj l (aL s i)then r else d8 s l r:=rfl
theorem kq(s:BS)(but:Str)(i:Nat)(r:List Nat):cL s but (i::r)=if aj bJ (aL s i)&& !decide (aL s i=but)then cL s but r else i::r:=rfl
theorem Wf.si{s:BS}(F:Wf s){xs:List Nat}(h:∀i∈xs,i<s.names.length)(hl:xs.length<=1000):Wf {s with items:=xs}:=⟨F.lk,F.ls,F.la,F.lt,F.lp,F.lc,F.bn,h,hl,F.ct,F.cn,F.pr,F.ck⟩
theorem kr{l:List Nat}(h:l≠[]):∃xs i,l=xs++[i]:=⟨l.dropLast,l.getLast h,(List.dropLast_concat_getLast h).symm⟩
theorem zJ(B:BV H ad W)(F:Wf W.s){xs:List Nat}{i:Nat}(h:W.s.items=xs++[i]):∃H',BV H' ad (W.si xs)/\∀kk:V->K,b9 (ad .items) .pop kk [] H=kk (.int (i:Nat)) H':=by
 refine⟨_,B.put (W':=W.si xs) .items rfl rfl rfl (by apply dG<;>first|exact λ_=>rfl|exact λh=>absurd rfl h|exact λ_ _=>rfl|rfl),λkk=>?_⟩
 refine OT (k:=ad .items) (xs:=xs.map λi=> .int (i:Nat)) (v:= .int (i:Nat)) ?_ ?_
 ·refine Vu (dQ B) ?_
  show some (ay W.s.items)=_
  refine er (h ..) ?_;simp[ay]
 ·have:=F.il;rw[h]at this;simp at this⊢;exact iY ‹_›
theorem Pn(B:BV H ad W)(F:Wf W.s){i:Nat}(hl:W.s.items.length<1000):∃H',BV H' ad (W.si (W.s.items++[i]))/\∀kk:V->K,b9 (ad .items) .append kk [.int (i:Nat)] H=kk .none H':=by
 refine⟨_,B.put (a:=ad .items) (W':=W.si (W.s.items++[i])) .items rfl rfl rfl (by apply dG<;>first|exact λ_=>rfl|exact λh=>absurd rfl h|exact λ_ _=>rfl|rfl),λkk=>?_⟩
 have:=dw (k:=ad .items) (kk:=kk) (v:= .int (i:Nat)) (dQ B) (by simp;exact iZ ‹_›)
 simp only[this];simp[ay]
theorem Po(B:BV H ad W)(F:Wf W.s){i:Nat}(hl:W.s.items.length<1000):∃H',BV H' ad (W.si (W.s.items++[i]))/\cF (n+1) 98 [.ref (ad .st),.int (i:Nat)] H=some (.none,H'):=by
 refine ex1_2 (Pn B F (i:=i) hl) λH' B' h=>?_
 refine⟨H',B',?_⟩
 refine er (IN ..) ?_
 simp only[yf,aH,bL,eq_self,dj B,bO (dQ B) cQ rfl,h]
theorem tM(B:BV H ad W)(F:Wf W.s){xs:List Nat}{i:Nat}(h:W.s.items=xs++[i]):∃H',BV H' ad (W.si xs)/\cF (n+1) 105 [.ref (ad .st)] H=some (.int (i:Nat),H'):=by
 refine ex1_2 (zJ B F h) λH' B' e=>?_
 refine⟨H',B',?_⟩
 have h0:¬((W.s.items.length:Int)=0):=by refine er (h ..) ?_;simp;lia
 simp only[IO]
 simp only[yg,aT,aH,U0,if_false,decide_false,eq_self,dj B,lO B F,h0,bO (dQ B) zm rfl,e]
theorem zK(B:BV H ad W)(hl:W.s.errors.length<1000)(e:V):∃H',BV H' ad (W.er e)/\∀kk:V->K,b9 (ad .errors) .append kk [e] H=kk .none H':=by
 refine⟨_,B.put (W':=W.er e) .errors rfl rfl rfl (by apply dG<;>first|exact λ_=>rfl|exact λh=>absurd rfl h|exact λ_ _=>rfl|rfl),λkk=>?_⟩
 exact dw (qe B) (iZ ‹_›)
theorem Pp(B:BV H ad W)(hl:W.s.errors.length<1000){x:Str}:∃H',BV H' ad (W.er (.tup [.str x,.str W.s.mode]))/\cF (n+1) 586 [.ref (ad .b),.str x] H=some (.none,H'):=by
 refine ex1_2 (zK B hl (.tup [.str x,.str W.s.mode])) λH' B' h=>?_
 refine⟨H',B',?_⟩
 refine er (Km ..) ?_
 simp only[yt,aH,bL,eq_self,qf B,tw B,bO (qe B) cQ rfl,h]
theorem Pq(B:BV H ad W){x:Str}:∃H',BV H' ad {W with s:={W.s with mode:=x}}/\cF (n+1) 593 [.ref (ad .b),.str x] H=some (.none,H'):=by
 refine ex1_2 (Pb (cl:=cF n) B x) λH' B' h=>?_
 refine⟨H',B',?_⟩
 refine er (L4 ..) ?_
 simp only[yI,h,aH]
theorem zL(s:BS)(l:List Str):∀(r:List Nat),(∀i∈d8 s l r,i∈r)/\(d8 s l r).length<=r.length
 |[]=>⟨λ_ h=>h,Vf _⟩
 |i::r=>by
  unfold d8
  refine ai (zL s l r) λa b=>?_
  split
  ·exact⟨λj h=>U7 _ h,by simp⟩
  ·exact⟨λj h=>U7 _ (a j h),by simp;exact Vx ‹_›⟩
theorem zM(s:BS)(but:Str):∀(r:List Nat),(∀i∈cL s but r,i∈r)/\(cL s but r).length<=r.length
 |[]=>⟨λ_ h=>h,Vf _⟩
 |i::r=>by
  unfold cL
  refine ai (zM s but r) λa b=>?_
  split
  ·exact⟨λj h=>U7 _ (a j h),by simp;exact Vx ‹_›⟩
  ·exact⟨λj h=>h,Vf _⟩
theorem Wf.sub{s:BS}(F:Wf s){r:List Nat}(h:∀i∈r,i∈s.items.reverse)(hl:r.length<=s.items.reverse.length):Wf {s with items:=r.reverse}:=
 F.si (λi hi=>F.it i (List.mem_reverse.mp (h i (List.mem_reverse.mp hi)))) (by have:=F.il;simp at hl⊢;exact nI ‹_› ‹_›)
noncomputable def n7(ad:Ad)(W:Wd)(xs:List Nat)(o:Option (V×Hp)):Prop:=∃v H',am v=true/\o=some (v,H')/\BV H' ad (W.si xs)
theorem Pr(B:BV H ad W)(F:Wf W.s){l:List Str}:n7 ad W (d8 W.s l W.s.items.reverse).reverse (cF (n+3) 168 [.ref (ad .st),.tup (l.map .str)] H):=by
 simp only[Ja]
 unfold yk
 refine n5 (P:=n7 ad W (d8 W.s l W.s.items.reverse).reverse) (λm vars H'=>∃r o1 o2,BV H' ad (W.si r.reverse)/\Wf {W.s with items:=r.reverse}/\m=r.length/\vars=(lz (some (.ref (ad .st))) (some (.tup (l.map .str))) o1 o2)/\d8 W.s l r=d8 W.s l W.s.items.reverse) ?_
  (m:=W.s.items.length) ⟨W.s.items.reverse,_,_,by refine er (Vv ..) ?_;exact B,by refine er (Vv ..) ?_;exact F,by simp,rfl,rfl⟩ (by have:=n4 (k:=ad .items) (dQ B);simp at this;exact Vx ‹_›)
 intro m vars H' k hI1 hk
 refine ex3_5 hI1 λr o1 o2 B' F' zq2 zq3 hr=>?_
 subst zq2
 subst zq3
 refine er (Jc ..) ?_
 cases r with
 |nil=>
  simp only[lM,dj B',lO B' F',List.reverse_nil,V8]
  refine er (Jd ..) ?_
  refine⟨_,H',rfl,rfl,?_⟩
  refine el (hr ..) ?_;exact B'
 |cons i r=>
  have h0:(0:Int)<((i::r).reverse.length:Nat):=by simp
  have hl:(W.si (i::r).reverse).s.items=r.reverse++[i]:=by simp
  refine ex1_2 (zJ B' F' hl) λH2 B2 e2=>?_
  have hn:eZ {W.s with items:=(i::r).reverse}=aL W.s i:=by simp[eZ,aL,sp,nm]
  simp only[lM,if_true,decide_true,eq_self,dj B',lO B' F',h0]
  simp only[Jb]
  simp only[dj B',lL B',aq (lQ B' F'),hn,bO (dQ B') zm rfl,e2,fP (ic l),iR]
  simp only[n6]at hr
  cases hm:aj l (aL W.s i)with
  |true=>
   rw[hm,if_pos rfl]at hr
   refine er (if_pos rfl ..) ?_
   exact⟨_,H2,rfl,rfl,by refine el (hr ..) ?_;exact B2⟩
  |false=>
   rw[hm,if_neg (by decide)]at hr
   refine er (if_neg (by decide) ..) ?_
   refine hk _ _ _ ?_ ⟨r,_,_,B2,F'.si (λj hj=>F'.it j (by simp at hj⊢;exact .inl hj)) (by have:=F'.il;simp at this⊢;exact nD ‹_›),rfl,rfl,hr⟩
   simp
theorem zN:cF (n+1) 77 [] H=some (.tup (bJ.map .str),H):=by
 refine er (Ia ..) ?_;rfl
theorem Ps(B:BV H ad W)(F:Wf W.s){but:Str}:n7 ad W (cL W.s but W.s.items.reverse).reverse (cF (n+3) 213 [.ref (ad .st),.str but] H):=by
 refine er (yo ..) ?_
 unfold sU
 refine er (aq zN ..) ?_
 refine n5 (P:=n7 ad W (cL W.s but W.s.items.reverse).reverse) (λm vars H'=>∃r,BV H' ad (W.si r.reverse)/\Wf {W.s with items:=r.reverse}/\m=r.length/\vars=(jZ (some (.ref (ad .st))) (some (.str but)) (some (.tup (bJ.map .str))))/\cL W.s but r=cL W.s but W.s.items.reverse) ?_
  (m:=W.s.items.length) ⟨W.s.items.reverse,by refine er (Vv ..) ?_;exact B,by refine er (Vv ..) ?_;exact F,by simp,rfl,rfl⟩ (by have:=n4 (k:=ad .items) (dQ B);simp at this;exact Vx ‹_›)
 intro m vars H' k hI5 hk
 refine ex1_5 hI5 λr B' F' zq6 zq7 hr=>?_
 subst zq6
 subst zq7
 refine er (J1 ..) ?_
 have stop:cL W.s but r=r->n7 ad W (cL W.s but W.s.items.reverse).reverse (bB (TT (cF (n+2))) 24 eG.scope eG.body 2 (jZ (some (.ref (ad .st))) (some (.str but)) (some (.tup (bJ.map .str)))) bH bI H'):=λh=>by
  refine er (J2 ..) ?_
  exact⟨_,H',rfl,rfl,by refine el (hr ..) (er (h ..) ?_);exact B'⟩
 cases r with
 |nil=>
  have hn:eZ {W.s with items:=([]:List Nat).reverse}=S "":=rfl
  have h1:aj bJ (S "")=false:=by decide
  simp only[jp,aK,U0,if_false,if_true,eq_self,lL B',aq (lQ B' F'),hn,fP (ic bJ),iR,h1]
  exact stop rfl
 |cons i r=>
  have hl:(W.si (i::r).reverse).s.items=r.reverse++[i]:=by simp
  have hn:eZ {W.s with items:=(i::r).reverse}=aL W.s i:=by simp[eZ,aL,sp,nm]
  simp only[jp,U0,if_false,if_true,eq_self,lL B',aq (lQ B' F'),hn,fP (ic bJ),iR]
  rw[kq]at hr stop
  cases hm:aj bJ (aL W.s i)with
  |false=>
   rw[hm,Wv,if_neg (by decide)]at stop
   simp only[aK]
   exact stop rfl
  |true=>
   by_cases hb:aL W.s i=but
   ·have h1:decide (aL W.s i=but)=true:=decide_eq_true hb
    rw[hm,h1,U6,Bool.and_false,if_neg (by decide)]at stop
    simp only[gg,aO,aK,U6,lL B',h1,aq (lQ B' F'),hn]
    exact stop rfl
   ·have h1:decide (aL W.s i=but)=false:=decide_eq_false hb
    rw[hm,h1,U5,V2,if_pos rfl]at hr
    simp only[gg,aO,U5,lL B',h1,aq (lQ B' F'),hn]
    refine er (J0 ..) ?_
    refine ex1_2 (tM (n:=n+1) B' F' hl) λH2 B2 e2=>?_
    simp only[qh,tC B',aq e2]
    refine hk _ _ _ ?_ ⟨r,B2,F'.si (λj hj=>F'.it j (by simp at hj⊢;exact .inl hj)) (by have:=F'.il;simp at this⊢;exact nD ‹_›),rfl,rfl,hr⟩
    simp
end
section
variable{H:Hp}{ad:Ad}{W:Wd}{cl:Cl}{n:Nat}{f:V->K}
noncomputable def Wd.aKinds(W:Wd)(x:Str):Wd:={W with s:={W.s with kinds:=W.s.kinds++[x]}}
theorem Pt(B:BV H ad W)(hl:W.s.kinds.length<=1000)(x:Str):∃H',BV H' ad (W.aKinds x)/\∀kk:V->K,b9 (ad .kinds) .append kk [.str x] H=kk .none H':=by
 refine⟨_,B.put (a:=ad .kinds) (W':=W.aKinds x) .kinds rfl rfl rfl (by apply dG<;>first|exact λ_=>rfl|exact λh=>absurd rfl h|exact λ_ _=>rfl|rfl),λkk=>?_⟩
 have:=dw (kk:=kk) (v:= .str x) (nx B) (by simp;exact nD ‹_›)
 simp only[this];simp[U,Wd.aKinds]
noncomputable def Wd.aSpaces(W:Wd)(x:Str):Wd:={W with s:={W.s with spaces:=W.s.spaces++[x]}}
theorem Pu(B:BV H ad W)(hl:W.s.spaces.length<=1000)(x:Str):∃H',BV H' ad (W.aSpaces x)/\∀kk:V->K,b9 (ad .spaces) .append kk [.str x] H=kk .none H':=by
 refine⟨_,B.put (a:=ad .spaces) (W':=W.aSpaces x) .spaces rfl rfl rfl (by apply dG<;>first|exact λ_=>rfl|exact λh=>absurd rfl h|exact λ_ _=>rfl|rfl),λkk=>?_⟩
 have:=dw (kk:=kk) (v:= .str x) (ny B) (by simp;exact nD ‹_›)
 simp only[this];simp[U,Wd.aSpaces]
noncomputable def Wd.aNames(W:Wd)(x:Str):Wd:={W with s:={W.s with names:=W.s.names++[x]}}
theorem Pw(B:BV H ad W)(hl:W.s.names.length<=1000)(x:Str):∃H',BV H' ad (W.aNames x)/\∀kk:V->K,b9 (ad .names) .append kk [.str x] H=kk .none H':=by
 refine⟨_,B.put (a:=ad .names) (W':=W.aNames x) .names rfl rfl rfl (by apply dG<;>first|exact λ_=>rfl|exact λh=>absurd rfl h|exact λ_ _=>rfl|rfl),λkk=>?_⟩
 have:=dw (kk:=kk) (v:= .str x) (nz B) (by simp;exact nD ‹_›)
 simp only[this];simp[U,Wd.aNames]
noncomputable def Wd.aTexts(W:Wd)(x:Str):Wd:={W with s:={W.s with texts:=W.s.texts++[x]}}
theorem Px(B:BV H ad W)(hl:W.s.texts.length<=1000)(x:Str):∃H',BV H' ad (W.aTexts x)/\∀kk:V->K,b9 (ad .texts) .append kk [.str x] H=kk .none H':=by
 refine⟨_,B.put (a:=ad .texts) (W':=W.aTexts x) .texts rfl rfl rfl (by apply dG<;>first|exact λ_=>rfl|exact λh=>absurd rfl h|exact λ_ _=>rfl|rfl),λkk=>?_⟩
 have:=dw (kk:=kk) (v:= .str x) (tq B) (by simp;exact nD ‹_›)
 simp only[this];simp[U,Wd.aTexts]
noncomputable def Wd.aParents(W:Wd)(x:Int):Wd:={W with s:={W.s with parents:=W.s.parents++[x]}}
noncomputable def Wd.aAttrs(W:Wd)(as:List (Str×Str))(k:Nat):Wd:={W with s:={W.s with attrs:=W.s.attrs++[as]},aA:=W.aA++[k]}
noncomputable def Wd.aChildren(W:Wd)(as:List Nat)(k:Nat):Wd:={W with s:={W.s with children:=W.s.children++[as]},cA:=W.cA++[k]}
theorem Py(B:BV H ad W)(hl:W.s.parents.length<=1000)(x:Int):∃H',BV H' ad (W.aParents x)/\∀kk:V->K,b9 (ad .parents) .append kk [.int x] H=kk .none H':=by
 refine⟨_,B.put (a:=ad .parents) (W':=(W.aParents x)) .parents rfl rfl rfl (by apply dG<;>first|exact λ_=>rfl|exact λh=>absurd rfl h|exact λ_ _=>rfl|rfl),λkk=>?_⟩
 have:=dw (kk:=kk) (v:= .int x) (kg B) (by simp;exact nD ‹_›)
 simp only[this];simp[cz,Wd.aParents]
theorem qn{l:List Nat}{k i N:Nat}(hN:l.length=N)(h:i≠N)(hi:i<N+1):(l++[k]).getD i 0=l.getD i 0:=by
 have:i<l.length:=by lia
 simp only[U1,U1,U4 this]
theorem qo{α:Type}{l:List α}{x:α}{i:Nat}(h:i≠l.length):(l++[x])[i]?=l[i]?:=by
 by_cases hi:i<l.length
 ·refine er (U4 hi ..) rfl
 ·refine er (Vp (by simp;lia) ..) (er (Vp (Nat.not_lt.mp ‹_›) ..) rfl)
theorem Pz(B:BV H ad W)(hl:W.aA.length<=1000)(ha:W.aA.length=W.s.attrs.length){as:List (Str×Str)}{k:Nat}(hk:H[k]?=some (bm as))(fr:∀x,(cont ad W x).isSome=true->bj ad W x≠k):
  ∃H',BV H' ad (W.aAttrs as k)/\∀kk:V->K,b9 (ad .attrs) .append kk [.ref k] H=kk .none H':=by
 refine⟨_,B.putTake (a:=ad .attrs) (W':=(W.aAttrs as k)) (.at_ W.s.attrs.length) .attrs rfl k hk fr rfl (by simp) (congrArg (Vc bm) Vt) rfl (qb ha) (λx hx hs=>?_) (λx h1 h2=>?_),λkk=>?_⟩
 ·refine zi (W:=W) (W':=W.aAttrs as k) (λi hi hs=>?_) (λ_ _ _=>rfl) rfl rfl rfl rfl x hx hs
  refine qn ha (λe=>hi (by refine er (e ..) rfl)) ?_
  refine ex1_1 (Option.isSome_iff_exists.mp hs) λy hy=>?_
  simpa[Wd.aAttrs]using(List.getElem?_eq_some_iff.mp hy).1
 ·refine dG (W:=W) (W':=W.aAttrs as k) (E:=λx=>x= .at_ W.s.attrs.length∨x= .attrs) (λ_=>rfl) (λ_=>rfl) (λ_=>rfl) (λ_=>rfl) (λ_=>rfl) (λ_=>rfl) (λ_=>rfl) (λ_=>rfl) (λ_=>rfl) (λh=>absurd (.inr rfl) h) (λ_=>rfl) (λ_=>rfl) (λi hi=>qo λ(e:i=_)=>hi (.inl (e▸rfl))) (λ_ _=>rfl) rfl rfl rfl rfl rfl x (λh=>h.elim h1 h2)
 ·have:=dw (kk:=kk) (v:= .ref k) (nC B) (by simp;exact nD ‹_›)
  simp only[this];simp[aS,Wd.aAttrs]
theorem PA(B:BV H ad W)(hl:W.cA.length<=1000)(ha:W.cA.length=W.s.children.length){as:List Nat}{k:Nat}(hk:H[k]?=some (ay as))(fr:∀x,(cont ad W x).isSome=true->bj ad W x≠k):
  ∃H',BV H' ad (W.aChildren as k)/\∀kk:V->K,b9 (ad .children) .append kk [.ref k] H=kk .none H':=by
 refine⟨_,B.putTake (a:=ad .children) (W':=(W.aChildren as k)) (.ch W.s.children.length) .children rfl k hk fr rfl (by simp) (congrArg (Vc ay) Vt) rfl (qb ha) (λx hx hs=>?_) (λx h1 h2=>?_),λkk=>?_⟩
 ·refine zi (W:=W) (W':=W.aChildren as k) (λ_ _ _=>rfl) (λi hi hs=>?_) rfl rfl rfl rfl x hx hs
  refine qn ha (λe=>hi (by refine er (e ..) rfl)) ?_
  refine ex1_1 (Option.isSome_iff_exists.mp hs) λy hy=>?_
  simpa[Wd.aChildren]using(List.getElem?_eq_some_iff.mp hy).1
 ·refine dG (W:=W) (W':=W.aChildren as k) (E:=λx=>x= .ch W.s.children.length∨x= .children) (λ_=>rfl) (λ_=>rfl) (λ_=>rfl) (λ_=>rfl) (λ_=>rfl) (λ_=>rfl) (λ_=>rfl) (λ_=>rfl) (λ_=>rfl) (λ_=>rfl) (λh=>absurd (.inr rfl) h) (λ_=>rfl) (λ_ _=>rfl) (λi hi=>qo λ(e:i=_)=>hi (.inl (e▸rfl))) rfl rfl rfl rfl rfl x (λh=>h.elim h1 h2)
 ·have:=dw (kk:=kk) (v:= .ref k) (nL B) (by simp;exact nD ‹_›)
  simp only[this];simp[aS,Wd.aChildren]
theorem cH{o:O}{g:V->K}:UX (aF o) g H=g (.ref H.length) (H++[o]):=rfl
theorem tN{xs:List V}{g:V->K}(h:xs.length<=100000):UX (dK (.tup xs)) g H=g (.ref H.length) (H++[.list xs]):=by
 refine aq ?_
 unfold dK
 show(if aV xs.length=true then aF (O.list xs)else UY:M V) H=_
 refine er (if_pos (by unfold aV;simpa using h) ..) ?_;rfl
theorem BV.new(B:BV H ad W)(o:O):BV (H++[o]) ad W/\(H++[o])[H.length]?=some o/\∀x,(cont ad W x).isSome=true->bj ad W x≠H.length:=
 ⟨B.app [o],by simp,λ_ h=>VB (B.lt h)⟩
noncomputable def addN(s:BS)(kind space name:Str)(as:List (Str×Str))(text:Str):BS:=
 {s with kinds:=s.kinds++[kind],spaces:=s.spaces++[space],names:=s.names++[name],attrs:=s.attrs++[as],texts:=s.texts++[text],parents:=s.parents++[-1],children:=s.children++[[]]}
noncomputable def Wd.up(W:Wd)(s:BS)(a c:List Nat):Wd:={W with s:=s,aA:=a,cA:=c}
theorem cq{s:BS}{a c:List Nat}:(W.up s a c).s=s:=rfl
theorem tO{s:BS}{a c:List Nat}:(W.up s a c).aA=a:=rfl
theorem tP{s:BS}{a c:List Nat}:(W.up s a c).cA=c:=rfl
structure Vw(c:Nat)(H:Hp)(ad:Ad)(W:Wd):Prop where
 v:BV H ad W
 f:Wf W.s
 la:W.aA.length=W.s.names.length
 lc:W.cA.length=W.s.names.length
 rn:W.s.names.length+c<=1000
 re:W.s.errors.length+c<=1000
 ri:W.s.items.length+c<=1000
 ra:∀l∈W.s.attrs,l.length+c<=1000
variable{c:Nat}
theorem Vw.le(Q:Vw c H ad W){d:Nat}(h:d<=c):Vw d H ad W:=⟨Q.v,Q.f,Q.la,Q.lc,by have:=Q.rn;exact nK ‹_› ‹_›,by have:=Q.re;exact nK ‹_› ‹_›,by have:=Q.ri;exact nK ‹_› ‹_›,λl hl=>by have:=Q.ra l hl;exact nK ‹_› ‹_›⟩
noncomputable def bb(c:Nat)(ad:Ad)(W:Wd)(s:BS)(v:V)(o:Option (V×Hp)):Prop:=∃H' a b,Vw c H' ad (W.up s a b)/\o=some (v,H')
theorem gj{s:BS}{v:V}{m:K}{f:V->K}{P:Option (V×Hp)->Prop}(d:bb c ad W s v (m H))(k:∀H' a b,Vw c H' ad (W.up s a b)->P (f v H')):P (UX m f H):=by
 refine ex3_2 (d) λH' a b B' e=>?_
 unfold UX;refine er (e ..) ?_;exact k H' a b B'
theorem ji(Q:Vw c H ad W){v:V}:bb c ad W W.s v (UZ v H):=⟨H,W.aA,W.cA,Q,rfl⟩
theorem Vw.of(Q:Vw (c+1) H ad W){H':Hp}{s:BS}(B:BV H' ad {W with s:=s})(F:Wf s)(hn:s.names.length=W.s.names.length)(he:s.errors.length<=W.s.errors.length+1)(hi:s.items.length<=W.s.items.length+1)(ha:∀l∈s.attrs,l.length+c<=1000):Vw c H' ad (W.up s W.aA W.cA):=
 ⟨B,F,by refine er (tO ..) (er (cq ..) (er (hn ..) ?_));exact Q.la,by refine er (tP ..) (er (cq ..) (er (hn ..) ?_));exact Q.lc,by refine er (cq ..) (er (hn ..) ?_);have:=Q.rn;exact nA ‹_›,by refine er (cq ..) ?_;have:=Q.re;lia,by refine er (cq ..) ?_;have:=Q.ri;lia,ha⟩
theorem Vw.of0(Q:Vw c H ad W){H':Hp}{s:BS}(B:BV H' ad {W with s:=s})(F:Wf s)(hn:s.names.length=W.s.names.length)(he:s.errors.length<=W.s.errors.length)(hi:s.items.length<=W.s.items.length)(ha:∀l∈s.attrs,l.length+c<=1000):Vw c H' ad (W.up s W.aA W.cA):=
 ⟨B,F,by refine er (tO ..) (er (cq ..) (er (hn ..) ?_));exact Q.la,by refine er (tP ..) (er (cq ..) (er (hn ..) ?_));exact Q.lc,by refine er (cq ..) (er (hn ..) ?_);have:=Q.rn;assumption,by refine er (cq ..) ?_;have:=Q.re;exact nJ ‹_› ‹_›,by refine er (cq ..) ?_;have:=Q.ri;exact nJ ‹_› ‹_›,ha⟩
theorem Wf.addN{s:BS}(F:Wf s)(h:s.names.length<1000){kind space name text:Str}{as:List (Str×Str)}:Wf (addN s kind space name as text):=by
 obtain⟨a1,a2,a3,a4,a5,a6,a9,a10,a11,a12,a13,a14,a15⟩:=F
 refine⟨?_,?_,?_,?_,?_,?_,?_,λi hi=>?_,a11,λe he=>?_,?_,λi p hp=>?_,λl hl=>?_⟩<;>simp[Mine.addN]at* <;>first|lia|skip
 ·have:=a10 i hi
  exact nV ‹_›
 ·have:=a12 _ _ he
  lia
 ·replace hp:=Vu (We (V0)) hp
  split at hp
  ·exact a14 i p hp
  ·by_cases hz:i-s.parents.length=0
   ·rw[hz]at hp;simp at hp;left;exact hp.symm
   ·refine ex1_1 (Nat.exists_eq_succ_of_ne_zero hz) λz hz'=>?_
    rw[hz']at hp;simp at hp
 ·rcases hl with hl|rfl
  ·have:=a15 l hl;exact Vx ‹_›
  ·simp
theorem zO{l:List (List (Str×Str))}{as:List (Str×Str)}(h:∀x∈l,x.length+(c+1)<=1000)(ha:as.length+c<=1000):∀x∈l++[as],x.length+c<=1000:=λx hx=>by
 rcases List.mem_append.mp hx with hx|hx
 ·have:=h x hx;exact nA ‹_›
 ·refine er (List.mem_singleton.mp hx ..) ?_;exact ha
theorem zP(Q:Vw (c+1) H ad W){kind space name text:Str}{as:List (Str×Str)}(hl:as.length+c<=1000):
  bb c ad W (addN W.s kind space name as text) (.int W.s.names.length) (lE (cF n) (.ref (ad .t)) (.str kind) (.str space) (.str name) (.tup (as.map bz)) (.str text) H):=by
 refine bZ λgP gh=>?_
 obtain⟨B,F,FA,FC,rn,re,ri,ra⟩:=Q
 have FF:=F
 obtain⟨F1,F2,F3,F4,F5,F6,F9,F10,F11,F12,F13,F14,F15⟩:=F
 refine ex1_2 (Pt B (nQ ‹_› ‹_›) kind) λH1 B1 e1=>?_
 refine ex1_2 (Pu B1 (by show W.s.spaces.length<=1000;exact nQ ‹_› ‹_›) space) λH2 B2 e2=>?_
 refine ex1_2 (Pw B2 (by show W.s.names.length<=1000;assumption) name) λH3 B3 e3=>?_
 refine bK (B3.new (bm as)) λB3' hk1 fr1=>?_
 refine ex1_2 (Pz B3' (by show W.aA.length<=1000;exact nQ ‹_› ‹_›) (by show W.aA.length=W.s.attrs.length;lia) hk1 fr1) λH4 B4 e4=>?_
 refine ex1_2 (Px B4 (by show W.s.texts.length<=1000;exact nQ ‹_› ‹_›) text) λH5 B5 e5=>?_
 refine ex1_2 (Py B5 (by show W.s.parents.length<=1000;exact nQ ‹_› ‹_›) (-1)) λH6 B6 e6=>?_
 refine bK (B6.new (ay [])) λB6' hk2 fr2=>?_
 refine ex1_2 (PA B6' (by show W.cA.length<=1000;exact nQ ‹_› ‹_›) (by show W.cA.length=W.s.children.length;lia) hk2 fr2) λH7 B7 e7=>?_
 refine gh ?_;clear gh gP
 refine⟨H7,W.aA++[H3.length],W.cA++[H6.length],⟨B7,FF.addN (eC ‹_›),by simp[tO,cq,addN,FA],by simp[tP,cq,addN,FC],by simp[cq,addN];exact oO ‹_›,by simp[cq,addN];exact nA ‹_›,by simp[cq,addN];exact nA ‹_›,zO ra hl⟩,?_⟩
 have hk:(((((((W.aKinds kind).aSpaces space).aNames name).aAttrs as H3.length).aTexts text).aParents (-1)).aChildren [] H6.length).s.kinds.length=W.s.names.length+1:=by
  show(W.s.kinds++[kind]).length=_
  refine er (Vs ..) (er (F1 ..) ?_);rfl
 have ll:∀f:V->K,UX (bw (.ref (ad .kinds))) f H7=f (.int ((W.s.names.length:Int)+1)) H7:=λf=>by
  have:=lG (f:=f) (nx B7) (by refine er (Vk ..) (er (hk ..) ?_);exact eC ‹_›)
  rw[Vk,hk]at this
  exact this
 unfold lE
 simp only[bL,qg B,bO (nx B) cQ rfl,e1,gL B1,bO (ny B1) cQ rfl,e2,gM B2,bO (nz B2) cQ rfl,e3,nS B3,bO (nC B3) cQ rfl,tN (xs:=as.map bz) (by simp;exact nB ‹_›),show O.list (as.map bz)=bm as from rfl,e4,
  zu B4,bO (tq B4) cQ rfl,e5,iP B5,bO (kg B5) cQ rfl,e6,lH B6,bO (nL B6) cQ rfl,cH,show O.list []=ay []from rfl,e7]
 simp only[qg B7,ll,nY,aH]
 refine er ((show(W.s.names.length:Int)+1-1=W.s.names.length by lia) ..) rfl
end
noncomputable def aJ(s:BS)(p:Nat):List Nat:=s.children.getD p []
noncomputable def br(s:BS)(i:Nat):Int:=s.parents.getD i (-1)
noncomputable def dH(s:BS)(i:Nat):Option Nat:=(s.contents.find? λe=>decide (e.1=i)).map (·.2)
noncomputable def ez(s:BS)(i j:Nat):BS:={s with contents:=s.contents++[(i,j)]}
noncomputable def setPar(s:BS)(i:Nat)(p:Int):BS:={s with parents:=s.parents.set i p}
noncomputable def setCh(s:BS)(p:Nat)(l:List Nat):BS:={s with children:=s.children.set p l}
noncomputable def setAt(s:BS)(p:Nat)(l:List (Str×Str)):BS:={s with attrs:=s.attrs.set p l}
noncomputable def bF(s:BS)(name space:Str)(as:List (Str×Str)):BS:=
 if space=S "html"/\name=S "template"then ez (addN (addN s (S "element") space name as (S "")) (S "fragment") (S "") (S "") [] (S "")) s.names.length (s.names.length+1)else addN s (S "element") space name as (S "")
noncomputable def jj(s:BS)(p i:Nat):BS:=setPar (setCh s p (aJ s p++[i])) i (p:Nat)
noncomputable def dk(s:BS)(p i:Nat):BS:=setPar (setCh s p ((aJ s p).erase i)) i (-1)
section
variable{H:Hp}{ad:Ad}{W:Wd}{cl:Cl}{n c:Nat}{f:V->K}{g:Bool->K}
theorem zQ{k i:Nat}{xs:List V}{v:V}{f:Unit->K}(h:H[k]?=some (.list xs))(hi:i<xs.length)(hl:xs.length<=100000):UX (bi (.ref k) (.int (i:Nat)) v) f H=f () (H.set k (.list (xs.set i v))):=by
 exact aq (OU h ⟨by exact VP _,by exact nZ ‹_›,decide_eq_true hl⟩)
theorem n8{k:Int}{l:List (Nat×Nat)}:cD (.int k) (l.map bS)=true:=by
 unfold cD
 refine er (VG ..) ?_;left
 refine er (U2 ..) ?_
 exact⟨rfl,by simp[bS,V.isKeyInt]⟩
theorem kz{i:Nat}:∀{l:List (Nat×Nat)},bo (.int (i:Nat)) (l.map bS)=((l.find? λe=>decide (e.1=i)).map (·.2)).map λj=> .int (j:Nat)
 |[]=>rfl
 |e::r=>by
  unfold bo
  refine er (Vi ..) (er (VF ..) (er (VF ..) ?_))
  show Vc _ (match decide ((e.1:Int)=(i:Int))with|true=>_|false=>_)=_
  by_cases h:e.1=i
  ·refine er (decide_eq_true (show(e.1:Int)=(i:Int) by omega) ..) (er (decide_eq_true h ..) ?_);rfl
  ·refine er (decide_eq_false (show¬(e.1:Int)=(i:Int) by exact nN ‹_›) ..) (er (decide_eq_false h ..) ?_)
   exact kz
theorem zR{i j:Nat}:∀{l:List (Nat×Nat)},(∀e∈l,e.1≠i)->dJ (.int (i:Nat)) (.int (j:Nat)) (l.map bS)=(l++[(i,j)]).map bS
 |[],_=>rfl
 |e::r,h=>by
  have h1:=h e (U3 ..)
  refine er (Vi ..) ?_
  unfold dJ
  have:V.keyEq (bS e).1 (.int (i:Nat))=false:=decide_eq_false (by show¬(e.1:Int)=(i:Int);exact nN ‹_›)
  rw[this,if_neg (by decide),zR λe he=>h e (U7 _ he)];rfl
theorem PB{s:BS}{i:Nat}(h:∀e∈s.contents,e.1≠i):dH s i=none:=by
 unfold dH
 rw[List.find?_eq_none.mpr λe he=>by simpa using h e he];rfl
theorem PC(B:BV H ad W){i:Nat}:UX (af .In (.int (i:Nat)) (.ref (ad .contents))) g H=g (dH W.s i).isSome H:=by
 refine aq (m:=dA (.int (i:Nat)) (.ref (ad .contents))) ?_
 refine er (OW (jf B) n8 ..) (er (kz ..) ?_)
 simp[dH]
theorem PD(B:BV H ad W){i j:Nat}(h:dH W.s i=some j):UX (aa (.ref (ad .contents)) (.int (i:Nat))) f H=f (.int (j:Nat)) H:=by
 exact aq (tm (jf B) n8 (kz.trans (congrArg (Vc λj:Nat=>V.int j) h)))
theorem PE(B:BV H ad W)(F:Wf W.s){i j:Nat}(h:∀e∈W.s.contents,e.1≠i):∃H',BV H' ad (W.up (ez W.s i j) W.aA W.cA)/\∀f:Unit->K,UX (bi (.ref (ad .contents)) (.int (i:Nat)) (.int (j:Nat))) f H=f () H':=by
 refine⟨_,B.put (a:=ad .contents) (W':=(W.up (ez W.s i j) W.aA W.cA)) .contents rfl rfl rfl (by apply dG<;>first|exact λ_=>rfl|exact λh=>absurd rfl h|exact λ_ _=>rfl|rfl),λf=>?_⟩
 have h1:(bo (.int (i:Nat)) (W.s.contents.map bS)).isSome=false:=by
  have:=PB h
  unfold dH at this
  refine er (kz ..) (er (this ..) ?_);rfl
 have h2:aV (W.s.contents.map bS).length=true:=by unfold aV;have:=F.cn;have:=F.bn;simp;exact nI ‹_› ‹_›
 refine(aq (zo (jf B) n8 h2)).trans ?_
 refine er (h1 ..) (er (zR h ..) (er (if_neg V7 ..) ?_))
 simp[Wd.up,ez]
theorem lS(B:BV H ad W){p:Nat}(h:p<W.s.children.length):H[W.cA.getD p 0]?=some (ay (aJ W.s p)):=B.get (.ch p) _ (congrArg (Vc ay) (h_ h))
theorem tQ(B:BV H ad W){p:Nat}(h:p<W.s.attrs.length):H[W.aA.getD p 0]?=some (bm (W.s.attrs.getD p [])):=B.get (.at_ p) _ (congrArg (Vc bm) (h_ h))
theorem qp(B:BV H ad W)(F:Wf W.s){i:Nat}(hi:i<W.s.names.length):UX (aa (.ref (ad .parents)) (.int (i:Nat))) f H=f (.int (br W.s i)) H:=by
 have h2:i<W.s.parents.length:=F.lp▸hi
 refine fH (kg B) ?_ ?_
 ·simp[br,h2]
 ·simp[F.lp];have:=F.bn;exact nD ‹_›
theorem tR(B:BV H ad W)(F:Wf W.s)(hc:W.cA.length=W.s.names.length){i:Nat}(hi:i<W.s.names.length):UX (aa (.ref (ad .children)) (.int (i:Nat))) f H=f (.ref (W.cA.getD i 0)) H:=by
 have h2:i<W.cA.length:=hc▸hi
 refine fH (nL B) ?_ ?_
 ·simp[h2]
 ·simp[hc];have:=F.bn;exact nD ‹_›
theorem zS(B:BV H ad W)(F:Wf W.s)(hc:W.aA.length=W.s.names.length){i:Nat}(hi:i<W.s.names.length):UX (aa (.ref (ad .attrs)) (.int (i:Nat))) f H=f (.ref (W.aA.getD i 0)) H:=by
 have h2:i<W.aA.length:=hc▸hi
 refine fH (nC B) ?_ ?_
 ·simp[h2]
 ·simp[hc];have:=F.bn;exact nD ‹_›
theorem zU(B:BV H ad W)(F:Wf W.s){i:Nat}(hi:i<W.s.names.length)(p:Int):∃H',BV H' ad (W.up (setPar W.s i p) W.aA W.cA)/\∀f:Unit->K,UX (bi (.ref (ad .parents)) (.int (i:Nat)) (.int p)) f H=f () H':=by
 refine⟨_,B.put (a:=ad .parents) (W':=(W.up (setPar W.s i p) W.aA W.cA)) .parents rfl rfl rfl (by apply dG<;>first|exact λ_=>rfl|exact λh=>absurd rfl h|exact λ_ _=>rfl|rfl),λf=>?_⟩
 have:=zQ (i:=i) (v:= .int p) (f:=f) (kg B) (by simp[F.lp,hi]) (by simp[F.lp];have:=F.bn;exact nD ‹_›)
 simp only[this];simp[cz,Yg,Wd.up,setPar]
theorem zV(B:BV H ad W){p:Nat}(h:p<W.s.children.length)(l:List Nat):BV (H.set (W.cA.getD p 0) (ay l)) ad (W.up (setCh W.s p l) W.aA W.cA):=by
 refine B.put (a:=W.cA.getD p 0) (W':=(W.up (setCh W.s p l) W.aA W.cA)) (.ch p) rfl (congrArg (λz=>(Vc ay z).isSome) (h_ (d:=[]) h)) (congrArg (Vc ay) (Vl h)) (λr hr=>?_)
 exact dG (W:=W) (W':=W.up (setCh W.s p l) W.aA W.cA) (E:=λx=>x= .ch p) (λ_=>rfl) (λ_=>rfl) (λ_=>rfl) (λ_=>rfl) (λ_=>rfl) (λ_=>rfl) (λ_=>rfl) (λ_=>rfl) (λ_=>rfl) (λ_=>rfl) (λ_=>rfl) (λ_=>rfl) (λ_ _=>rfl) (λi hi=>Vn λ(e:p=i)=>hi (e▸rfl)) rfl rfl rfl rfl rfl r hr
theorem put_at(B:BV H ad W){p:Nat}(h:p<W.s.attrs.length)(l:List (Str×Str)):BV (H.set (W.aA.getD p 0) (bm l)) ad (W.up (setAt W.s p l) W.aA W.cA):=by
 refine B.put (a:=W.aA.getD p 0) (W':=(W.up (setAt W.s p l) W.aA W.cA)) (.at_ p) rfl (congrArg (λz=>(Vc bm z).isSome) (h_ (d:=[]) h)) (congrArg (Vc bm) (Vl h)) (λr hr=>?_)
 exact dG (W:=W) (W':=W.up (setAt W.s p l) W.aA W.cA) (E:=λx=>x= .at_ p) (λ_=>rfl) (λ_=>rfl) (λ_=>rfl) (λ_=>rfl) (λ_=>rfl) (λ_=>rfl) (λ_=>rfl) (λ_=>rfl) (λ_=>rfl) (λ_=>rfl) (λ_=>rfl) (λ_=>rfl) (λi hi=>Vn λ(e:p=i)=>hi (e▸rfl)) (λ_ _=>rfl) rfl rfl rfl rfl rfl r hr
theorem tS{x:Nat}:∀{l:List Nat},f7 (l.map λi=> .int (i:Nat)) (x:Nat)=l.findIdx? λi=>decide (i=x)
 |[]=>rfl
 |i::r=>by
  unfold f7
  refine er (Vi ..) (er (VQ ..) (er (VQ ..) ?_))
  show(if decide ((i:Int)=(x:Int))=true then _ else _)=_
  by_cases h:i=x
  ·refine er (if_pos (by simp[h]) ..) (er (if_pos (by simp[h]) ..) rfl)
  ·refine er (if_neg (by simp;exact nN ‹_›) ..) (er (if_neg (by simp[h]) ..) ?_)
   have:=tS (x:=x) (l:=r)
   unfold f7 at this
   refine er (this ..) rfl
theorem tT{x:Nat}:∀{l:List Nat}{j:Nat},(l.findIdx? λi=>decide (i=x))=some j->l.eraseIdx j=l.erase x
 |[],j,h=>by simp at h
 |i::r,j,h=>by
  rw[VQ]at h
  by_cases hi:i=x
  ·rw[if_pos (by simpa using hi)]at h
   cases h
   simp[hi]
  ·rw[if_neg (by simpa using hi)]at h
   refine ex1_2 (Option.map_eq_some_iff.mp h) λj' hj' zq2=>?_;subst zq2
   refine er (List.eraseIdx_cons_succ ..) (er (tT hj' ..) (er (Xu (by simpa using hi) ..) rfl))
theorem zW{α β:Type}(f:α->β):∀(l:List α) (j:Nat),(l.map f).eraseIdx j=(l.eraseIdx j).map f
 |[],_=>by simp
 |a::r,0=>by simp
 |a::r,j+1=>by simp[zW f r j]
theorem zX{l:List Nat}:i2 (l.map λi=> .int (i:Nat))=true:=by simp[i2,V.isKeyInt]
theorem tU{k:Nat}{l:List Nat}{x:Nat}{kk:V->K}(h:H[k]?=some (ay l))(hx:x∈l)(hl:l.length<=100000):b9 k .remove kk [.int (x:Nat)] H=kk .none (H.set k (ay (l.erase x))):=by
 have hf:aV (l.map λi=>V.int (i:Nat)).length=true:=decide_eq_true (by refine er (Vk ..) ?_;exact hl)
 refine qd h hf ?_
 refine(congrFun (if_pos hf) H).trans ?_
 obtain⟨j,hj⟩:∃j,(l.findIdx? λi=>decide (i=x))=some j:=by
  cases hf:l.findIdx? λi=>decide (i=x)with
  |none=>rw[WG]at hf;have:=hf x hx;simp at this
  |some j=>exact⟨j,rfl⟩
 refine(congrFun (if_pos zX) H).trans ?_
 refine er (tS ..) (er (hj ..) ?_)
 show some (V.none,H.set k (.list ((l.map λi=>V.int (i:Nat)).eraseIdx j)))=_
 refine er (zW ..) (er (tT hj ..) ?_);rfl
theorem PF{k:Nat}{l:List Nat}{x:Nat}{kk:V->K}(h:H[k]?=some (ay l))(hl:l.length<=100000):b9 k .insert kk [.int (l.length:Nat),.int (x:Nat)] H=kk .none (H.set k (ay (l++[x]))):=by
 have hf:aV (l.map λi=>V.int (i:Nat)).length=true:=decide_eq_true (by refine er (Vk ..) ?_;exact hl)
 refine qd h hf ?_
 refine(congrFun (if_pos hf) H).trans ((congrFun (if_pos (by simp)) H).trans ?_)
 refine(aq (v:=()) (H':=H.set k (ay (l++[x]))) ?_).trans rfl
 delta c_ ay
 refine er ((show((l.length:Nat):Int).toNat=l.length from rfl) ..) (er (Wq (by simp) ..) (er (VN (by simp) ..) ?_))
 simp
theorem tV:∀l:List Nat,((l.map λi=>V.int (i:Nat)).mapM λy=>match y with|V.int s=>some s|_=>Option.none)=some (l.map λ(i:Nat)=>(i:Int))
 |[]=>rfl
 |a::r=>by refine er (Vi ..) (er (VS ..) (er (tV r ..) ?_));rfl
theorem qq{k:Nat}{l:List Nat}{x:Nat}(h:H[k]?=some (ay l)):UX (af .In (.int (x:Nat)) (.ref k)) g H=g (decide (x∈l)) H:=by
 refine aq (m:=dA (.int (x:Nat)) (.ref k)) (v:=decide (x∈l)) ((zp h (tV l)).trans ?_)
 congr 2
 refine Vu (Xh) ?_
 by_cases hx:x∈l
 ·refine er (decide_eq_true hx ..) ?_;exact List.any_eq_true.mpr ⟨x,hx,by simp⟩
 ·refine er (decide_eq_false hx ..) ?_
  refine List.any_eq_false.mpr λy hy=>?_
  simp
  intro e
  have:y=x:=by exact vy ‹_›
  exact hx (this▸hy)
end
section
variable{H:Hp}{ad:Ad}{W:Wd}{cl:Cl}{n c:Nat}{f:V->K}{g:Bool->K}
theorem qr{s:BS}{a b d e:Str}{as:List (Str×Str)}:(addN s a b d as e).names=s.names++[d]:=rfl
theorem tW(Q:Vw (c+2) H ad W){name space:Str}{as:List (Str×Str)}(hl:as.length+c+1<=1000):
  bb c ad W (bF W.s name space as) (.int W.s.names.length) (cF (n+2) 472 [.ref (ad .t),.str name,.str space,.tup (as.map bz)] H):=by
 simp only[xZ]
 delta sL bF
 simp only[zw Q.v,Ig]
 refine gj (zP (c:=c+1) Q ‹_›) λH1 a b Q1=>?_
 dsimp only[jp,aM]
 by_cases h1:space=S "html"
 ·by_cases h2:name=S "template"
  ·subst h1 h2
   rw[if_pos ⟨rfl,rfl⟩]
   simp only[aM,decide_true,aO,if_true,zw Q1.v,xY]
   have:=zP (n:=n) (c:=c) Q1 (kind:=S "fragment") (space:=S "") (name:=S "") (text:=S "") (as:=[]) (by have:=Q1.rn;simp;lia)
   refine gj this λH2 a2 b2 Q2=>?_
   simp only[lI Q2.v]
   refine ex1_2 (PE Q2.v Q2.f (i:=W.s.names.length) (j:=W.s.names.length+1) λe he=>VB (Q.f.ct e he).1) λH3 B3 e3=>?_
   have hN:(((W.up (addN W.s (S "element") (S "html") (S "template") as (S "")) a b).s.names.length:Nat):Int)=((W.s.names.length+1:Nat):Int):=by simp[cq,qr]
   rw[hN,e3]
   have F2:=Q2.f
   refine⟨H3,a2,b2,⟨B3,⟨F2.lk,F2.ls,F2.la,F2.lt,F2.lp,F2.lc,F2.bn,F2.it,F2.il,?_,?_,F2.pr,F2.ck⟩,Q2.la,Q2.lc,Q2.rn,Q2.re,Q2.ri,Q2.ra⟩,rfl⟩
   ·intro e he
    have h2:(W.up (ez (addN (addN W.s (S "element") (S "html") (S "template") as (S "")) (S "fragment") (S "") (S "") [] (S "")) W.s.names.length (W.s.names.length+1)) a2 b2).s.names.length=W.s.names.length+2:=by simp[cq,qr,ez]
    rw[h2]
    rcases List.mem_append.mp he with he|he
    ·have:=Q.f.ct e he;omega
    ·rw[List.mem_singleton.mp he];exact⟨by simp,by simp⟩
   ·have:=Q.f.cn
    simp[cq,ez,addN];exact Vx ‹_›
  ·simp only[h1,h2,aM,decide_true,decide_false,aO,aK,U0,if_false,and_false]
   subst h1
   exact⟨H1,a,b,Q1.le (Va _ _),rfl⟩
 ·simp only[h1,decide_false,aK,U0,if_false,false_and]
  exact⟨H1,a,b,Q1.le (Va _ _),rfl⟩
theorem PG(B:BV H ad W)(F:Wf W.s){p:Nat}(hp:p<W.s.names.length):∃G k l,cF (n+1) 564 [.ref (ad .t),.int (p:Nat)] H=some (.ref k,H++G)/\(H++G)[k]?=some (ay l)/\∀i∈l,i<p:=by
 rw[Ii]
 unfold x_
 simp only[cH,iP (B.app _),qp (B.app _) F hp]
 refine n5 (P:=λo=>∃G k l,o=some (.ref k,H++G)/\(H++G)[k]?=some (ay l)/\∀i∈l,i<p) (λm vars H'=>∃(u:Int) (l:List Nat),H'=H++[ay l]/\(∀i∈l,i<p)/\(u= -1∨(0<=u/\u<p))/\l.length+m=p+1/\u<m/\vars=(vs1 (some (.ref (ad .t))) (some (.int (p:Nat))) (some (.ref H.length)) (some (.int u)))) ?_
  (m:=p+1) ⟨br W.s p,[],rfl,by simp,?_,by simp,?_,rfl⟩ ?_
 ·rintro m vars H' k ⟨u,l,rfl,hl,hu,hm,hum,rfl⟩ hk
  simp only[Ik]
  have hg:(H++[ay l])[H.length]?=some (ay l):=by simp
  rcases hu with rfl|⟨h0,h1⟩
  ·dsimp only[fM,U0,if_false,U6,decide_true,eq_self]
   rw[Il]
   exact⟨[ay l],H.length,l,rfl,hg,hl⟩
  ·have hne:¬u= -1:=by lia
   simp only[fM,if_true,U5,decide_false,eq_self,hne]
   simp only[Ij]
   obtain⟨j,rfl⟩:∃j:Nat,u=j:=⟨u.toNat,by exact nO ‹_›⟩
   have hj:j<W.s.names.length:=by lia
   have hs:=λkk=>dw (kk:=kk) (k:=H.length) (v:= .int (j:Nat)) hg (by simp;have:=F.bn;lia)
   rw[bO hg cQ rfl]
   rw[hs]
   have e:(H++[ay l]).set H.length (.list ((l.map λi=>V.int (i:Nat))++[.int (j:Nat)]))=H++[ay (l++[j])]:=by simp[ay]
   simp only[e]
   simp only[bL,iP (B.app _),qp (B.app _) F hj]
   refine hk (m-1) _ _ (by lia) ⟨br W.s j,l++[j],rfl,?_,?_,by simp;lia,?_,rfl⟩
   ·intro i hi
    rcases List.mem_append.mp hi with hi|hi
    ·exact hl i hi
    ·rw[List.mem_singleton.mp hi];exact CP ‹_›
   ·have:=F.pr j (br W.s j) (by simp[br,F.lp,hj])
    lia
   ·have:=F.pr j (br W.s j) (by simp[br,F.lp,hj])
    omega
 ·have:=F.pr p (br W.s p) (by simp[br,F.lp,hp])
  assumption
 ·have:=F.pr p (br W.s p) (by simp[br,F.lp,hp])
  lia
 ·have:=n4 (k:=ad .parents) (kg (B.app [O.list []]))
  simp[F.lp]at this
  lia
end
section
variable{H:Hp}{ad:Ad}{W:Wd}{cl:Cl}{n c:Nat}{f:V->K}{g:Bool->K}
theorem Wf.setPar{s:BS}(F:Wf s){i:Nat}{p:Int}(h:p= -1∨(0<=p/\p<i)):Wf (setPar s i p):=by
 refine⟨F.lk,F.ls,F.la,F.lt,?_,F.lc,F.bn,F.it,F.il,F.ct,F.cn,λj q hq=>?_,F.ck⟩
 ·simp[Mine.setPar,F.lp]
 ·by_cases e:i=j
  ·subst e
   simp only[Mine.setPar,List.getElem?_set]at hq
   split at hq
   ·split at hq
    ·cases hq;exact h
    ·cases hq
   ·exact F.pr _ _ hq
  ·simp only[Mine.setPar,Vn e]at hq
   exact F.pr j q hq
theorem Wf.setCh{s:BS}(F:Wf s){p:Nat}{l:List Nat}(h:l.length<=s.names.length):Wf (setCh s p l):=by
 refine⟨F.lk,F.ls,F.la,F.lt,F.lp,?_,F.bn,F.it,F.il,F.ct,F.cn,F.pr,λm hm=>?_⟩
 ·simp[Mine.setCh,F.lc]
 ·rcases Wb hm with hm|rfl
  ·exact F.ck m hm
  ·exact h
theorem lT{s:BS}(F:Wf s){p:Nat}(hp:p<s.names.length):(aJ s p).length<=s.names.length:=by
 have h2:p<s.children.length:=F.lc▸hp
 refine F.ck _ ?_
 simp[aJ,h2]
theorem PH(B:BV H ad W)(F:Wf W.s){i:Nat}(hi:i<W.s.names.length)(h0:br W.s i= -1):cF (n+1) 515 [.ref (ad .t),.int (i:Nat)] H=some (.none,H):=by
 refine er (ya ..) ?_
 unfold sM
 simp only[fM,aH,U0,if_false,U6,decide_true,eq_self,iP B,qp B F hi,h0]
theorem PI(Q:Vw c H ad W){i p:Nat}(hi:i<W.s.names.length)(hp:p<W.s.names.length)(h0:br W.s i=(p:Nat))(hm:i∈aJ W.s p):bb c ad W (dk W.s p i) .none (cF (n+1) 515 [.ref (ad .t),.int (i:Nat)] H):=by
 refine er (ya ..) ?_
 unfold sM
 have hne:¬((p:Nat):Int)= -1:=by exact nM
 have hcl:=lT Q.f hp
 have hb:=Q.f.bn
 have hc2:p<W.s.children.length:=Q.f.lc▸hp
 simp only[fM,bL,if_true,U5,decide_false,eq_self,iP Q.v,lH Q.v,qp Q.v Q.f hi,h0,hne,tR Q.v Q.f Q.lc hp,bO (lS Q.v hc2) th rfl,tU (lS Q.v hc2) hm (nI ‹_› ‹_›)]
 have B1:=zV Q.v hc2 ((aJ W.s p).erase i)
 have F1:=Q.f.setCh (p:=p) (l:=(aJ W.s p).erase i) (by have:=W2 (a:=i) (l:=aJ W.s p);exact Vm ‹_› ‹_›)
 refine ex1_2 (zU B1 F1 (i:=i) hi (-1)) λH2 B2 e2=>?_
 simp only[iP B1,e2]
 exact⟨H2,_,_,⟨B2,F1.setPar (.inl rfl),Q.la,Q.lc,Q.rn,Q.re,Q.ri,Q.ra⟩,rfl⟩
theorem zY(Q:Vw c H ad W){i p:Nat}(hi:i<W.s.names.length)(hp:p<i)(h0:br W.s i= -1)(hl:(aJ W.s p).length<W.s.names.length):bb c ad W (jj W.s p i) .none (pX (cF (n+1)) (.ref (ad .t)) (.int (p:Nat)) (.int (i:Nat)) (.int (-1)) H):=by
 have hp':p<W.s.names.length:=by exact XB ‹_› ‹_›
 have hb:=Q.f.bn
 have hc2:p<W.s.children.length:=Q.f.lc▸hp'
 unfold pX
 have h1:¬((i:Nat):Int)=(p:Nat):=by omega
 have h2:¬(-1:Int)=(i:Nat):=by omega
 refine ex3_3 (PG (n:=n) Q.v Q.f hp') λG k l e1 hk hlt=>?_
 have h3:decide (i∈l)=false:=decide_eq_false λh=>by have:=hlt i h;omega
 have B1:=Q.v.app G
 simp only[jp,aT,fM,aK,U0,if_false,if_true,U6,decide_true,decide_false,eq_self,h1,aq e1,qq hk,h3]
 simp only[bL,U0,if_false,decide_false,lH B1,zy B1,h2,aq (PH (n:=n) B1 Q.f hi h0),tR B1 Q.f Q.lc hp']
 have ll:∀f,UX (bw (.ref (W.cA.getD p 0))) f (H++G)=f (.int ((aJ W.s p).length:Nat)) (H++G):=λf=>by
  have:=lG (f:=f) (lS B1 hc2) (by simp;exact oP ‹_› ‹_›)
  simpa using this
 simp only[fM,bL,U0,if_false,U6,decide_true,eq_self,lH B1,ll,tR B1 Q.f Q.lc hp',bO (lS B1 hc2) OS rfl,PF (lS B1 hc2) (by exact oP ‹_› ‹_›:(aJ W.s p).length<=100000)]
 have B2:=zV B1 hc2 (aJ W.s p++[i])
 have F2:=Q.f.setCh (p:=p) (l:=aJ W.s p++[i]) (by simp;assumption)
 refine ex1_2 (zU B2 F2 (i:=i) hi (p:Nat)) λH3 B3 e3=>?_
 simp only[iP B2,e3]
 exact⟨H3,_,_,⟨B3,F2.setPar (.inr ⟨by exact VP _,by exact nZ ‹_›⟩),Q.la,Q.lc,Q.rn,Q.re,Q.ri,Q.ra⟩,rfl⟩
theorem PJ(Q:Vw c H ad W){i p:Nat}(hi:i<W.s.names.length)(hp:p<i)(h0:br W.s i= -1)(hl:(aJ W.s p).length<W.s.names.length):bb c ad W (jj W.s p i) .none (cF (n+3) 508 [.ref (ad .t),.int (p:Nat),.int (i:Nat)] H):=by
 refine er (IK ..) ?_
 unfold yc
 simp only[zx Q.v,II]
 refine gj (zY Q hi hp h0 hl) λH1 a b Q1=>?_
 exact⟨H1,a,b,Q1,rfl⟩
noncomputable def aZ(s:BS)(i:Nat):Nat:=(dH s i).getD i
theorem PK(B:BV H ad W)(F:Wf W.s){i:Nat}(hc:W.s.items.getLast?=some i):cF (n+2) 228 [.ref (ad .b)] H=some (.tup [.int (aZ W.s i:Nat),.int (-1)],H):=by
 refine er (Ki ..) ?_
 unfold yq
 have h1:¬((i:Nat):Int)= -1:=by exact nM
 simp only[jp,aT,aP,aK,U0,if_false,if_true,decide_true,decide_false,eq_self,eM B,bP B,O4 B,lI B,kh B,aq (kj B F),fN,hc,h1,PC B]
 cases hq:dH W.s i with
 |none=>simp[aH,U0,eq_self,aZ,hq]
 |some j=>simp only[Wl,if_true,aH,if_true,eq_self,lI B,PD B hq,aZ,hq,Option.getD_some]
noncomputable def eA(s:BS)(i:Nat)(name space:Str)(as:List (Str×Str)):BS:=
 let s2:=jj (bF s name space as) (aZ s i) s.names.length
 {s2 with items:=s2.items++[s.names.length]}
theorem iS{s:BS}{name space:Str}{as:List (Str×Str)}:s.names.length<(bF s name space as).names.length:=by
 unfold bF
 split<;>simp[ez,addN]
theorem zZ{s:BS}(F:Wf s){name space:Str}{as:List (Str×Str)}:br (bF s name space as) s.names.length= -1:=by
 have h:=F.lp
 unfold bF br
 split<;>simp[ez,addN,←h]
theorem z_{s:BS}(F:Wf s){name space:Str}{as:List (Str×Str)}{p:Nat}(hp:p<s.names.length):aJ (bF s name space as) p=aJ s p:=by
 have h:=F.lc
 unfold bF aJ
 split<;>simp[ez,addN,V0,h,hp,show p<s.names.length+1 by exact nV ‹_›]
theorem PL{s:BS}{name space:Str}{as:List (Str×Str)}:(bF s name space as).items=s.items:=by
 unfold bF
 split<;>rfl
theorem jk{s:BS}(F:Wf s){i:Nat}(hi:i<s.names.length):aZ s i<s.names.length:=by
 unfold aZ dH
 cases h:s.contents.find? λe=>decide (e.1=i)with
 |none=>simpa using hi
 |some e=>exact(F.ct e (VJ h)).2
theorem Vw.si(Q:Vw (c+1) H ad W){H':Hp}{xs:List Nat}(B:BV H' ad (W.si xs))(h:∀i∈xs,i<W.s.names.length)(hl:xs.length<=W.s.items.length+1):Vw c H' ad (W.up {W.s with items:=xs} W.aA W.cA):=
 Q.of B (Q.f.si h (by have:=Q.ri;omega)) rfl (by simp) hl λl hl=>by have:=Q.ra l hl;exact nA ‹_›
theorem Vw.si0(Q:Vw c H ad W){H':Hp}{xs:List Nat}(B:BV H' ad (W.si xs))(h:∀i∈xs,i<W.s.names.length)(hl:xs.length<=W.s.items.length):Vw c H' ad (W.up {W.s with items:=xs} W.aA W.cA):=
 Q.of0 B (Q.f.si h (by have:=Q.ri;exact nH ‹_› ‹_›)) rfl (by simp) hl λl hl=>by have:=Q.ra l hl;assumption
theorem Aa(Q:Vw (c+1) H ad W){i:Nat}(hi:i<W.s.names.length):bb c ad W {W.s with items:=W.s.items++[i]} .none (cF (n+1) 98 [.ref (ad .st),.int (i:Nat)] H):=by
 refine ex1_2 (Po (n:=n) Q.v Q.f (i:=i) (by have:=Q.ri;exact eC ‹_›)) λH' B' e=>?_
 refine⟨H',_,_,Q.si B' (λj hj=>?_) (by simp),e⟩
 rcases List.mem_append.mp hj with hj|hj
 ·exact Q.f.it j hj
 ·refine er (List.mem_singleton.mp hj ..) ?_;exact hi
theorem Ab(Q:Vw (c+3) H ad W){i:Nat}(hc:W.s.items.getLast?=some i){name space:Str}{as:List (Str×Str)}(hl:as.length+c+2<=1000):
  bb c ad W (eA W.s i name space as) (.int W.s.names.length) (p7 (cF (n+4)) (.ref (ad .b)) (.str name) (.tup (as.map bz)) (.str space) H):=by
 have hi:=tE Q.f hc
 unfold p7
 refine er (aq (PK (n:=n+2) Q.v Q.f hc) ..) ?_
 simp only[dZ,cO,eT,aM,aT,aP,aH,aO,aK,if_true,if_false,U0,U6,U5,decide_true,decide_false,eq_self]
 have:=tW (n:=n+1) (c:=c+1) Q (name:=name) (space:=space) (as:=as) ‹_›
 have h2:bb (c+1) ad W (bF W.s name space as) (.int W.s.names.length) (cF (n+4) 236 [.ref (ad .b),.str name,.tup (as.map bz),.str space] H):=by
  refine er (Kk ..) ?_
  unfold yr
  simp only[eM Q.v,tA Q.v,aM,aT,aP,aH,aO,aK,if_true,if_false,U0,U6,U5,decide_true,decide_false,eq_self]
  exact gj this λH1 a b Q1=>⟨H1,a,b,Q1,rfl⟩
 refine gj h2 λH1 a b Q1=>?_
 simp only[eM Q1.v,zx Q1.v,IJ,aM,aT,aP,aH,aO,aK,if_true,if_false,U0,U6,U5,decide_true,decide_false,eq_self]
 have hu:=jk Q.f hi
 have:=zY (n:=n+2) Q1 (i:=W.s.names.length) (p:=aZ W.s i) iS hu (zZ Q.f) (by refine er (cq ..) (er (z_ Q.f hu ..) ?_);have:=lT Q.f hu;have:=iS (s:=W.s) (name:=name) (space:=space) (as:=as);exact nT ‹_› ‹_›)
 refine gj this λH2 a2 b2 Q2=>?_
 simp only[bL,bP Q2.v,zA Q2.v,aM,aT,aP,aH,aO,aK,if_true,if_false,U0,U6,U5,decide_true,decide_false,eq_self]
 refine gj (Aa (n:=n+3) (c:=c) Q2 (i:=W.s.names.length) iS) λH3 a3 b3 Q3=>?_
 exact⟨H3,a3,b3,Q3,rfl⟩
end
noncomputable def aN(s:BS)(w:Str):BS:={s with errors:=s.errors++[.tup [.str w,.str s.mode]]}
noncomputable def pI(s:BS)(but:Str):BS:={s with items:=(cL s but s.items.reverse).reverse}
noncomputable def pU(s:BS)(l:List Str):BS:={s with items:=(d8 s l s.items.reverse).reverse}
noncomputable def bG(b:Bool)(s:BS)(w:Str):BS:=if b then aN s w else s
noncomputable def ie(s:BS)(name:Str)(names:List Str):BS:=pU (bG (!decide (eZ s=name)) s (S "open-elements")) names
noncomputable def jl(s:BS)(name sort but:Str):BS:=if dD s [name] sort then ie (pI s but) name [name]else aN s (S "unexpected-end-tag")
noncomputable def qs(s:BS)(name space:Str)(as:List (Str×Str)):BS:=match s.items.getLast? with
 |some i=>eA s i name space as
 | .none=>s
noncomputable def n9(s:BS):BS:=let s1:=if dD s [S "p"] (S "button")then s else qs (aN s (S "unexpected-end-tag")) (S "p") (S "html") []
 ie (pI s1 (S "p")) (S "p") [S "p"]
noncomputable def hs:List Str:=[S "h1",S "h2",S "h3",S "h4",S "h5",S "h6"]
noncomputable def n_(s:BS)(name:Str):BS:=if dD s hs (S "")then ie (pI s (S "")) name hs else aN s (S "unexpected-end-tag")
noncomputable def fb(s:BS)(x:Str):Bool:=s.items.any λi=>fO s i x
noncomputable def setForm(s:BS)(x:Int):BS:={s with form:=x}
noncomputable def tX(s:BS)(i:Nat):BS:={s with items:=s.items.erase i}
noncomputable def oa(s:BS):BS:=if fb s (S "template")then jl s (S "form") (S "") (S "")else
 if s.form= -1 then aN (setForm s (-1)) (S "unexpected-end-tag")else if km (setForm s (-1)) s.form.toNat (S "")=false then aN (setForm s (-1)) (S "unexpected-end-tag")else
  tX (bG (!decide (fN (pI (setForm s (-1)) (S ""))=s.form)) (pI (setForm s (-1)) (S "")) (S "open-elements")) s.form.toNat
noncomputable def jn(s:BS)(name:Str):BS:=if name=S "p"then n9 s else if name=S "form"then oa s else if name=S "li"then jl s name (S "list item") name
 else if aj [S "dd",S "dt"] name then jl s name (S "") name else if aj hs name then n_ s name else jl s name (S "") (S "")
section
variable{H:Hp}{ad:Ad}{W:Wd}{cl:Cl}{n c:Nat}{f:V->K}{g:Bool->K}
noncomputable def ig(c:Nat)(ad:Ad)(W:Wd)(s:BS)(o:Option (V×Hp)):Prop:=∃v,am v=true/\bb c ad W s v o
theorem cR{s:BS}{m a b:K}{P:Option (V×Hp)->Prop}(d:ig c ad W s (m H))(k:∀H' x y,Vw c H' ad (W.up s x y)->P (a H')):P (UX m (λv=>if am v=true then a else b) H):=by
 refine ex1_2 (d) λv hv d=>?_
 refine gj d λH' x y Q=>?_
 refine er (if_pos hv ..) ?_;exact k H' x y Q
theorem bb.fl{s:BS}{v:V}{o:Option (V×Hp)}(d:bb c ad W s v o)(h:am v=true:=by rfl):ig c ad W s o:=⟨v,h,d⟩
theorem bb.up{s s':BS}{a b:List Nat}{v:V}{o:Option (V×Hp)}(d:bb c ad (W.up s a b) s' v o):bb c ad W s' v o:=d
theorem ig.up{s s':BS}{a b:List Nat}{o:Option (V×Hp)}(d:ig c ad (W.up s a b) s' o):ig c ad W s' o:=d
theorem bM{s:BS}{m:K}(d:ig c ad W s (m H)):bb c ad W s .none (UX m (λv=>if am v=true then UZ .none else UY) H):=
 cR d λH' x y Q=>⟨H',x,y,Q,rfl⟩
theorem bb.le{s:BS}{v:V}{o:Option (V×Hp)}(d:bb c ad W s v o){k:Nat}(h:k<=c):bb k ad W s v o:=by
 refine ex3_2 (d) λH' a b Q e=>?_
 exact⟨H',a,b,Q.le h,e⟩
theorem fQ(Q:Vw (c+1) H ad W){x:Str}:bb c ad W (aN W.s x) .none (cF (n+1) 586 [.ref (ad .b),.str x] H):=by
 refine ex1_2 (Pp (n:=n) Q.v (x:=x) (by have:=Q.re;exact eC ‹_›)) λH' B' e=>?_
 have F:=Q.f
 exact⟨H',_,_,Q.of B' ⟨F.lk,F.ls,F.la,F.lt,F.lp,F.lc,F.bn,F.it,F.il,F.ct,F.cn,F.pr,F.ck⟩ rfl (by simp[aN]) (by simp[aN]) (λl hl=>by have:=Q.ra l hl;exact nA ‹_›),e⟩
theorem qt(Q:Vw c H ad W){but:Str}:ig c ad W (pI W.s but) (cF (n+3) 213 [.ref (ad .st),.str but] H):=by
 refine ex2_3 (Ps (n:=n) Q.v Q.f (but:=but)) λv H' hv e B'=>?_
 refine ai (zM W.s but W.s.items.reverse) λh1 h2=>?_
 exact⟨v,hv,H',_,_,Q.si0 B' (λi hi=>Q.f.it i (by simpa using h1 i (by simpa using hi))) (by simpa using h2),e⟩
theorem Ac(Q:Vw c H ad W){l:List Str}:ig c ad W (pU W.s l) (cF (n+3) 168 [.ref (ad .st),.tup (l.map .str)] H):=by
 refine ex2_3 (Pr (n:=n) Q.v Q.f (l:=l)) λv H' hv e B'=>?_
 refine ai (zL W.s l W.s.items.reverse) λh1 h2=>?_
 exact⟨v,hv,H',_,_,Q.si0 B' (λi hi=>Q.f.it i (by simpa using h1 i (by simpa using hi))) (by simpa using h2),e⟩
def og(cl:Cl)(b name names:V):K:=jp (UX (ab b (S "stack") (TT cl)) λx5=>ao (TT cl) x5 (S "pop_until") (λk6=>k6 [names]) λx4=>if am x4=true then(UZ .none)else UY:K) λj3=>UX (ab b (S "stack") (TT cl)) λx8=>ao (TT cl) x8 (S "name") (λk9=>k9 []) λx7=>UX (af .NotEq x7 name) λt10=>if t10=true then(ao (TT cl) b (S "error") (λk12=>k12 [.str (S "open-elements")]) λx11=>if am x11=true then(j3)else UY)else(j3)
theorem tY(Q:Vw (c+1) H ad W){name:Str}{names:List Str}:bb c ad W (ie W.s name names) .none (og (cF (n+3)) (.ref (ad .b)) (.str name) (.tup (names.map .str)) H):=by
 delta og ie bG
 simp only[jp,gg,bP Q.v,lL Q.v,aq (lQ (n:=n+1) Q.v Q.f)]
 by_cases h:eZ W.s=name
 ·simp only[h,decide_true,U6,U0,if_false,bP Q.v,zC Q.v]
  exact bM (Ac (Q.le (Va _ _)))
 ·simp only[h,decide_false,U5,if_true,fK Q.v]
  refine cR (fQ (n:=n+2) Q).fl λH1 a b Q1=>?_
  simp only[bP Q1.v,zC Q1.v]
  exact(bM (Ac (n:=n) Q1)).up
theorem PM(Q:Vw (c+1) H ad W){name but:Str}:bb c ad W (ie (pI W.s but) name [name]) .none (cF (n+4) 281 [.ref (ad .b),.str name,.str but] H):=by
 refine er (La ..) ?_
 show bb c ad W _ .none ((UX (ab (.ref (ad .b)) (S "stack") (TT (cF (n+3)))) λx2=>UX (cF (n+3) 213 [x2,.str but]) λx1=>if am x1=true then og (cF (n+3)) (.ref (ad .b)) (.str name) (.tup [.str name])else UY) H)
 refine er (bP Q.v ..) ?_
 refine cR (qt (n:=n) Q) λH1 a b Q1=>?_
 exact(tY (n:=n) (names:=[name]) Q1).up
theorem Ae(Q:Vw (c+1) H ad W):bb c ad W (ie (pI W.s (S "p")) (S "p") [S "p"]) .none (cF (n+4) 266 [.ref (ad .b)] H):=by
 refine er (KU ..) ?_
 show bb c ad W _ .none ((UX (ab (.ref (ad .b)) (S "stack") (TT (cF (n+3)))) λx2=>UX (cF (n+3) 213 [x2,.str (S "p")]) λx1=>if am x1=true then og (cF (n+3)) (.ref (ad .b)) (.str (S "p")) (.tup [.str (S "p")])else UY) H)
 refine er (bP Q.v ..) ?_
 refine cR (qt (n:=n) Q) λH1 a b Q1=>?_
 exact(tY (n:=n) (names:=[S "p"]) Q1).up
theorem qu(Q:Vw (c+1) H ad W){name sort but:Str}(h1:sort≠S "select")(h2:sort≠S "table"):bb c ad W (jl W.s name sort but) .none (cF (n+5) 289 [.ref (ad .b),.str name,.str sort,.str but] H):=by
 refine er (yz ..) ?_
 delta sX jl
 have hi:=qm (n:=n+2) Q.v Q.f (l:=[name]) h1 h2
 simp only[Vi,WT]at hi
 simp only[aP,bP Q.v,aq hi]
 cases hq:dD W.s [name] sort with
 |true=>refine er (if_pos rfl ..) (er (if_pos rfl ..) ?_);exact bM (PM (n:=n) Q).fl
 |false=>refine er (if_neg (by decide) ..) (er (if_neg (by decide) ..) ?_);simp only[fK Q.v];exact bM (fQ (n:=n+3) Q).fl
theorem Af{a b:V}:cF (n+1) 197 [a,b]=cF (n+1) 197 [a,b,.str (S "")]:=(JC n a b).trans (ym n a b _).symm
theorem PN{a b:V}:cF (n+1) 205 [a,b]=cF (n+1) 205 [a,b,.str (S "")]:=(JQ n a b).trans (yn n a b _).symm
theorem Ag{a:V}:cF (n+1) 213 [a]=cF (n+1) 213 [a,.str (S "")]:=(JZ n a).trans (yo n a _).symm
theorem PO{a b:V}:cF (n+1) 289 [a,b]=cF (n+1) 289 [a,b,.str (S ""),.str (S "")]:=(Lf n a b).trans (yz n a b _ _).symm
theorem PP(Q:Vw (c+3) H ad W)(hne:W.s.items≠[])(hl:c+2<=1000):ig c ad W (qs W.s (S "p") (S "html") []) (cF (n+5) 245 [.ref (ad .b),.str (S "p")] H):=by
 refine ex2_1 (kr hne) λxs i hx=>?_
 have hc:W.s.items.getLast?=some i:=by refine er (hx ..) ?_;simp
 refine er (KI ..) ?_
 unfold qs
 refine er (hc ..) ?_
 exact(Ab (n:=n) Q hc (name:=S "p") (space:=S "html") (as:=[]) (by simp;lia)).fl
theorem PQ(Q:Vw (c+5) H ad W)(hne:W.s.items≠[]):bb c ad W (n9 W.s) .none (cF (n+6) 296 [.ref (ad .b)] H):=by
 have hr:=Q.rn
 simp only[Lk]
 delta yB n9
 have hi:=qm (n:=n+3) Q.v Q.f (l:=[S "p"]) (sort:=S "button") (by decide) (by decide)
 rw[Vi,WT]at hi
 simp only[jp,aP,bP Q.v,aq hi]
 cases hq:dD W.s [S "p"] (S "button")with
 |true=>
  simp only[U6,U0,if_false,if_true]
  exact bM (Ae (n:=n+1) (c:=c) (Q.le (by lia))).fl
 |false=>
  simp only[U5,U0,if_false,if_true,fK Q.v]
  refine cR (fQ (n:=n+4) Q).fl λH1 a b Q1=>?_
  refine cR (PP (n:=n) (c:=c+1) Q1 hne (by lia)) λH2 a2 b2 Q2=>?_
  exact(bM (Ae (n:=n+1) Q2).fl).up
theorem PS(Q:Vw (c+1) H ad W){name:Str}:bb c ad W (n_ W.s name) .none (cF (n+4) 303 [.ref (ad .b),.str name] H):=by
 simp only[Ly]
 have hi:=qm (n:=n+1) Q.v Q.f (l:=hs) (sort:=S "") (by decide) (by decide)
 unfold n_
 show bb c ad W _ .none ((UX (ab (.ref (ad .b)) (S "stack") (TT (cF (n+3)))) λx2=>UX (cF (n+3) 197 [x2,(.tup (hs.map .str))]) λx1=>UX (truthy x1) λt3=>if(!t3)=true then(ao (TT (cF (n+3))) (.ref (ad .b)) (S "error") (λk5=>k5 [.str (S "unexpected-end-tag")]) λx4=>if am x4=true then(UZ .none)else UY)else(UX (ab (.ref (ad .b)) (S "stack") (TT (cF (n+3)))) λx7=>UX (cF (n+3) 213 [x7]) λx6=>if am x6=true then og (cF (n+3)) (.ref (ad .b)) (.str name) (.tup (hs.map .str))else UY)) H)
 simp only[aP,bP Q.v,Af,Ag,aq hi]
 cases hq:dD W.s hs (S "")with
 |true=>
  simp only[U6,U0,if_false,if_true,bP Q.v]
  refine cR (qt (n:=n) Q) λH1 a b Q1=>?_
  exact(tY (n:=n) (names:=hs) Q1).up
 |false=>
  simp only[U5,U0,if_false,if_true,fK Q.v]
  exact bM (fQ (n:=n+2) Q).fl
end
section
variable{H:Hp}{ad:Ad}{W:Wd}{cl:Cl}{n c:Nat}{f:V->K}{g:Bool->K}
theorem PT(B:BV H ad W){x:Nat}:UX (af .In (.int (x:Nat)) (.ref (ad .items))) g H=g (decide (x∈W.s.items)) H:=qq (dQ B)
theorem Ah(Q:Vw c H ad W){i:Nat}:bb c ad W (tX W.s i) .none (cF (n+1) 133 [.ref (ad .st),.int (i:Nat)] H):=by
 refine er (IZ ..) ?_
 unfold yi tX
 simp only[dj Q.v,PT Q.v]
 by_cases h:i∈W.s.items
 ·have B':BV (H.set (ad .items) (ay (W.s.items.erase i))) ad (W.si (W.s.items.erase i)):=Q.v.put (a:=ad .items) (W':=W.si (W.s.items.erase i)) .items rfl rfl rfl (by apply dG<;>first|exact λ_=>rfl|exact λh=>absurd rfl h|exact λ_ _=>rfl|rfl)
  have hl:W.s.items.length<=100000:=by have:=Q.ri;exact nB ‹_›
  simp only[h,decide_true,if_true,dj Q.v,bO (dQ Q.v) th rfl,tU (dQ Q.v) h hl,bL]
  exact⟨_,_,_,Q.si0 B' (λj hj=>Q.f.it j (List.mem_of_mem_erase hj)) (W2 ..),rfl⟩
 ·simp only[h,decide_false,U0,if_false]
  refine er (List.erase_of_not_mem h ..) ?_
  exact ji Q
theorem tZ(B:BV H ad W)(F:Wf W.s){x:Str}:cF (n+2) 161 [.ref (ad .st),.str x] H=some (.bool (fb W.s x),H):=Pl B F
theorem Wf.setForm{s:BS}(F:Wf s)(x:Int):Wf (setForm s x):=⟨F.lk,F.ls,F.la,F.lt,F.lp,F.lc,F.bn,F.it,F.il,F.ct,F.cn,F.pr,F.ck⟩
theorem t0(cl:Cl)(Q:Vw c H ad W)(x:Int):∃H',Vw c H' ad (W.up (setForm W.s x) W.aA W.cA)/\∀(f:Unit->K),UX (a_ (.ref (ad .b)) (S "form") (.int x) (TT cl)) f H=f () H':=by
 refine ex1_2 (Pc (cl:=cl) Q.v x) λH1 B1 e1=>?_
 exact⟨H1,⟨B1,Q.f.setForm x,Q.la,Q.lc,Q.rn,Q.re,Q.ri,Q.ra⟩,e1⟩
theorem PU(Q:Vw (c+1) H ad W)(hf:W.s.form= -1∨0<=W.s.form):bb c ad W (oa W.s) .none (cF (n+6) 310 [.ref (ad .b)] H):=by
 refine er (LO ..) ?_
 unfold yE oa
 simp only[jp,aP,U0,if_false,if_true,eq_self,bP Q.v,tD Q.v,aq (tZ (n:=n+3) Q.v Q.f),aM,aT,aH,aO,aK,U6,U5,decide_true,decide_false]
 cases ht:fb W.s (S "template")with
 |true=>
  simp only[if_true,aM,aT,aP,aH,aO,aK,if_false,U0,U6,U5,decide_true,decide_false,eq_self]
  skip
  exact bM (qu (n:=n) Q (by decide) (by decide)).fl
 |false=>
  simp only[U0,if_false,nP Q.v,aM,aT,aP,aH,aO,aK,if_true,U6,U5,decide_true,decide_false,eq_self]
  refine ex1_2 (t0 (cF (n+5)) Q (-1)) λH1 Q1 e1=>?_
  simp only[e1]
  by_cases h0:W.s.form= -1
  ·simp only[aT,aO,if_true,decide_true,eq_self,fK Q1.v,h0,aM,aP,aH,aK,if_false,U0,U6,U5,decide_false]
   exact bM (fQ (n:=n+4) Q1).fl
  ·obtain⟨i,hi⟩:∃i:Nat,W.s.form=i:=⟨W.s.form.toNat,by omega⟩
   have h0':¬((i:Nat):Int)= -1:=by exact nM
   refine er (hi ..) ?_
   refine er ((show((i:Nat):Int).toNat=i from rfl) ..) (er (if_neg h0' ..) ?_)
   simp only[aT,aP,aK,decide_false,bP Q1.v,h0',bq PN,aq (Pm (n:=n+3) Q1.v Q1.f (x:=i) (sort:=S "") (by decide) (by decide)),cq,aM,aH,aO,if_true,if_false,U0,U6,U5,decide_true,eq_self]
   cases hq:km (setForm W.s (-1)) i (S "")with
   |false=>
    simp only[aO,if_true,U5,eq_self,fK Q1.v,aM,aT,aP,aH,aK,if_false,U0,U6,decide_true,decide_false]
    exact bM (fQ (n:=n+4) Q1).fl
   |true=>
    simp only[aK,U6,bP Q1.v,bq Ag,aM,aT,aP,aH,aO,if_true,if_false,U0,U5,decide_true,decide_false,eq_self]
    refine er (if_neg (by decide) ..) ?_
    refine cR (qt (n:=n+2) Q1) λH2 a2 b2 Q2=>?_
    simp only[fM,bP Q2.v,kh Q2.v,aq (kj (n:=n+4) Q2.v Q2.f),cq,aM,aT,aP,aH,aO,aK,if_true,if_false,U0,U6,U5,decide_true,decide_false,eq_self]
    by_cases hc:fN (pI (setForm W.s (-1)) (S ""))=(i:Nat)
    ·simp only[hc,U0,if_false,U6,decide_true,eq_self,bP Q2.v,zB Q2.v,bG,aM,aT,aP,aH,aO,aK,if_true,U5,decide_false]
     exact bM (Ah (n:=n+4) (Q2.le (Va _ _))).fl
    ·simp only[hc,if_true,U5,decide_false,eq_self,fK Q2.v,bG,aM,aT,aP,aH,aO,aK,if_false,U0,U6,decide_true]
     refine cR (fQ (n:=n+4) Q2).fl λH3 a3 b3 Q3=>?_
     simp only[bP Q3.v,zB Q3.v,aM,aT,aP,aH,aO,aK,if_true,if_false,U0,U6,U5,decide_true,decide_false,eq_self]
     exact bM (Ah (n:=n+4) Q3).fl
theorem PV{x:Str}:cF (n+1) 49 [.str x] H=some (.bool (aj hs x),H):=by
 refine er (HZ ..) ?_
 unfold xK
 refine er (fP rfl ..) ?_;rfl
theorem PW(Q:Vw (c+5) H ad W)(hne:W.s.items≠[])(hf:W.s.form= -1∨0<=W.s.form){name:Str}:bb c ad W (jn W.s name) .none (cF (n+7) 317 [.ref (ad .b),.str name] H):=by
 have Q1:Vw (c+1) H ad W:=Q.le (by omega)
 refine er (L0 ..) ?_
 unfold yF jn
 refine er (aM ..) ?_
 by_cases h1:name=S "p"
 ·simp only[h1,decide_true,if_true]
  exact bM (PQ (n:=n) Q hne).fl
 ·simp only[h1,decide_false,U0,if_false,aM]
  by_cases h2:name=S "form"
  ·simp only[h2,decide_true,if_true]
   exact bM (PU (n:=n) Q1 hf).fl
  ·simp only[h2,decide_false,U0,if_false,aM]
   by_cases h3:name=S "li"
   ·simp only[h3,decide_true,if_true]
    exact bM (qu (n:=n+1) Q1 (by decide) (by decide)).fl
   ·have hdd:dY [V.str (S "dd"),V.str (S "dt")]=true:=rfl
    have hdl:e_ [V.str (S "dd"),V.str (S "dt")]=[S "dd",S "dt"]:=rfl
    simp only[h3,decide_false,U0,if_false,fP hdd,hdl]
    cases h4:aj [S "dd",S "dt"] name with
    |true=>
     simp only[if_true]
     exact bM (qu (n:=n+1) Q1 (by decide) (by decide)).fl
    |false=>
     simp only[U0,if_false,aq (PV (n:=n+5)),aP]
     cases h5:aj hs name with
     |true=>
      simp only[if_true]
      exact bM (PS (n:=n+2) Q1).fl
     |false=>
      simp only[U0,if_false,PO]
      exact bM (qu (n:=n+1) Q1 (by decide) (by decide)).fl
end
noncomputable def bN(s:BS)(i:Nat):List (Str×Str):=s.attrs.getD i []
noncomputable def kA(l:List (Str×Str))(x:Str):Bool:=l.any λp=>decide (p.1=x)
noncomputable def ii(l:List (Str×Str))(p:Str×Str):List (Str×Str):=if kA l p.1 then l else l++[p]
noncomputable def iT(l ps:List (Str×Str)):List (Str×Str):=ps.foldl ii l
noncomputable def fR(s:BS)(i:Nat)(ps:List (Str×Str)):BS:=setAt s i (iT (bN s i) ps)
noncomputable def dy(s:BS)(rule:Str)(tok:V):BS:={s with errors:=s.errors++[.tup [.str rule,tok,.str s.mode]]}
section
variable{H:Hp}{ad:Ad}{W:Wd}{cl:Cl}{n c:Nat}{f:V->K}{g:Bool->K}
theorem t_{xs:List V}{g:It->K}:UX (ce (.tup xs)) g H=g (.vals xs) H:=rfl
theorem ua{xs:List V}{v:V}:UX (aa (.tup (v::xs)) (.int 0)) f H=f v H:=aq (nv (j:=0) (by decide) (by
 unfold eQ
 refine er (if_pos (by decide) ..) (er (if_pos (by simp) ..) ?_);rfl) rfl)
theorem kB{xs:List V}{u v:V}:UX (aa (.tup (u::v::xs)) (.int 1)) f H=f v H:=aq (nv (j:=1) (by decide) (by
 unfold eQ
 refine er (if_pos (by decide) ..) (er (if_pos (by simp;omega) ..) ?_);rfl) rfl)
theorem qv{xs:List V}{t u v:V}:UX (aa (.tup (t::u::v::xs)) (.int 2)) f H=f v H:=aq (nv (j:=2) (by decide) (by
 unfold eQ
 refine er (if_pos (by decide) ..) (er (if_pos (by simp;omega) ..) ?_);rfl) rfl)
noncomputable def jo(l:List (Str×Str))(x:Str):V:=match l.find? λp=>decide (p.1=x)with
 |some p=> .str p.2
 | .none=> .none
theorem PX{l:List (Str×Str)}{x:Str}:UX (af .Is (jo l x) .none) g H=g (!kA l x) H:=by
 unfold jo kA
 cases h:l.find? λp=>decide (p.1=x)with
 |none=>
  have:(l.any λp=>decide (p.1=x))=false:=List.any_eq_false.mpr λp hp=>List.find?_eq_none.mp h p hp
  refine er (this ..) ?_;rfl
 |some p=>
  have:(l.any λp=>decide (p.1=x))=true:=List.any_eq_true.mpr ⟨p,VJ h,by simpa using WY h⟩
  refine er (this ..) ?_;rfl
theorem PY(B:BV H ad W)(F:Wf W.s)(hA:W.aA.length=W.s.names.length){i:Nat}(hi:i<W.s.names.length){x:Str}:cF (n+1) 543 [.ref (ad .t),.int (i:Nat),.str x] H=some (jo (bN W.s i) x,H):=by
 refine er (Ic ..) ?_
 unfold xL
 have hi2:i<W.s.attrs.length:=F.la▸hi
 simp only[nS B,zS B F hA hi]
 refine qj (P:=(·=some (jo (bN W.s i) x,H))) (λj vars H'=>H'=H/\(∃o,vars=(ng (some (.ref (ad .t))) (some (.int (i:Nat))) (some (.str x)) o))/\jo ((bN W.s i).drop j) x=jo (bN W.s i) x) (xs:=(bN W.s i).map bz) (λj vars H' h=>h.1▸tQ B hi2) ?_ ?_ ⟨rfl,⟨_,rfl⟩,rfl⟩
 ·intro j v vars H' kn hv hI1 hk
  refine bK hI1 λzq2 hn3 h0=>?_
  subst zq2
  refine ex1_1 hn3 λo zq5=>?_
  subst zq5
  refine er (Id ..) ?_
  rw[Vh,VA]at hv
  refine ex1_2 (hv) λp hp zq2=>?_;subst zq2
  refine ex1_1 (List.getElem?_eq_some_iff.mp hp) λhlt e=>?_
  rw[Wc hlt,e]at h0
  unfold bz
  simp only[ua,aM]
  by_cases hx:p.1=x
  ·simp only[hx,decide_true,if_true,kB,aH]
   refine el (h0 ..) ?_
   simp[jo,hx]
  ·simp only[hx,decide_false,U0,if_false]
   refine hk _ _ ⟨rfl,⟨_,rfl⟩,?_⟩
   refine el (h0 ..) ?_
   simp[jo,hx]
 ·intro vars H' hI7
  refine bK hI7 λzq8 hn9 h0=>?_
  subst zq8
  refine ex1_1 hn9 λo zq11=>?_
  subst zq11
  refine er (Ie ..) ?_
  rw[Vk,List.drop_length]at h0
  refine el (h0 ..) ?_;rfl
theorem Aj{s:BS}{i:Nat}:setAt s i (bN s i)=s:=by
 unfold setAt bN
 have:s.attrs.set i (s.attrs.getD i [])=s.attrs:=by
  by_cases h:i<s.attrs.length
  ·refine er (U1 ..) (er (U8 h ..) ?_);simp
  ·refine er (List.set_eq_of_length_le (Nat.not_lt.mp ‹_›) ..) rfl
 refine er (this ..) rfl
theorem set_set{s:BS}{i:Nat}{l l':List (Str×Str)}:setAt (setAt s i l) i l'=setAt s i l':=by simp[setAt]
theorem Ak{s:BS}{i:Nat}{l:List (Str×Str)}(h:i<s.attrs.length):bN (setAt s i l) i=l:=by simp[bN,setAt,h]
theorem Wf.setAt{s:BS}(F:Wf s){i:Nat}{l:List (Str×Str)}:Wf (setAt s i l):=⟨F.lk,F.ls,by simp[Mine.setAt,F.la],F.lt,F.lp,F.lc,F.bn,F.it,F.il,F.ct,F.cn,F.pr,F.ck⟩
theorem Am(Q:Vw (c+3) H ad W){i:Nat}(hi:i<W.s.names.length){ps:List (Str×Str)}(hps:ps.length<=3):bb c ad W (fR W.s i ps) .none (cF (n+2) 273 [.ref (ad .t),.int (i:Nat),.tup (ps.map bz)] H):=by
 refine er (KV ..) ?_
 unfold yx
 have hi2:i<W.s.attrs.length:=Q.f.la▸hi
 refine er (t_ ..) ?_
 have hra:(bN W.s i).length+(c+3)<=1000:=Q.ra _ (by unfold bN;refine er (U1 ..) (er (U8 hi2 ..) ?_);simp)
 refine lR (P:=bb c ad W (fR W.s i ps) .none) (λj vars H'=>∃l o1 o2,BV H' ad (W.up (setAt W.s i l) W.aA W.cA)/\l=iT (bN W.s i) (ps.take j)/\l.length<=(bN W.s i).length+j/\j<=3/\vars=(lA (some (.ref (ad .t))) (some (.int (i:Nat))) (some (.tup (ps.map bz))) o1 o2)) ?_ ?_ ⟨bN W.s i,_,_,by refine er (Aj ..) ?_;exact Q.v,rfl,by exact Vf _,by exact V5 _,rfl⟩
 ·intro j v vars H' kn hv hI13 hk
  refine ex3_5 hI13 λl o1 o2 B hl hll hj zq14=>?_
  subst zq14
  refine er (KW ..) ?_
  rw[Vh,VA]at hv
  refine ex1_2 (hv) λp hp zq2=>?_;subst zq2
  have hjp:=(List.getElem?_eq_some_iff.mp hp).1
  have F2:Wf (setAt W.s i l):=Q.f.setAt
  have hi3:i<(setAt W.s i l).attrs.length:=by simpa[setAt]using hi2
  have hval:=PY (n:=n) B F2 Q.la (i:=i) hi (x:=p.1)
  have ha:bN (W.up (setAt W.s i l) W.aA W.cA).s i=l:=Ak hi2
  rw[ha]at hval
  have hm:iT (bN W.s i) (ps.take (j+1))=ii l p:=by
   refine er (Wa ..) (er (hp ..) ?_)
   unfold iT at hl⊢
   refine er (Xd ..) (el (hl ..) ?_);rfl
  unfold bz
  simp only[dZ,cO,eT,Pa B,aq hval,PX]
  cases hk2:kA l p.1 with
  |true=>
   simp only[U6,U0,if_false]
   refine hk _ _ ⟨l,_,_,B,?_,by exact Vx ‹_›,by exact nG ‹_› ‹_›,rfl⟩
   refine er (hm ..) ?_;unfold ii;refine er (hk2 ..) ?_;rfl
  |false=>
   have hg:=tQ B hi3
   have hg2:H'[W.aA.getD i 0]?=some (bm l):=by
    have:=hg
    rw[show(W.up (setAt W.s i l) W.aA W.cA).s.attrs.getD i []=l from ha]at this
    exact this
   have hs:=λkk=>dw (kk:=kk) (v:=bz p) hg2 (by simp;omega)
   simp only[U5,if_true,nS B,zS B F2 Q.la hi,bO hg cQ rfl]
   refine er ((show V.tup [V.str p.1,V.str p.2]=bz p from rfl) ..) ?_
   refine er ((show(W.up (setAt W.s i l) W.aA W.cA).aA=W.aA from rfl) ..) (er (hs ..) ?_)
   simp only[bL]
   have B2:=put_at B hi3 (l++[p])
   have e1:((W.up (setAt W.s i l) W.aA W.cA).up (setAt (W.up (setAt W.s i l) W.aA W.cA).s i (l++[p])) (W.up (setAt W.s i l) W.aA W.cA).aA (W.up (setAt W.s i l) W.aA W.cA).cA)=W.up (setAt W.s i (l++[p])) W.aA W.cA:=by
    show W.up (setAt (setAt W.s i l) i (l++[p])) W.aA W.cA=_
    refine er (set_set ..) rfl
   rw[e1]at B2
   have e2:bm (l++[p])= .list (l.map bz++[bz p]):=by simp[bm]
   rw[e2]at B2
   refine hk _ _ ⟨l++[p],_,_,B2,?_,by simp;exact V9 ‹_›,by exact nG ‹_› ‹_›,rfl⟩
   refine er (hm ..) ?_;unfold ii;refine er (hk2 ..) ?_;rfl
 ·intro vars H' hI16
  refine ex3_5 hI16 λl o1 o2 B hl hll hj zq17=>?_
  subst zq17
  refine er (KX ..) ?_
  rw[Vk,VX]at hl
  unfold fR
  refine el (hl ..) ?_
  refine⟨H',_,_,⟨B,Q.f.setAt,Q.la,Q.lc,?_,?_,?_,λm hm=>?_⟩,rfl⟩
  ·have:=Q.rn;show W.s.names.length+c<=1000;exact nA ‹_›
  ·have:=Q.re;show W.s.errors.length+c<=1000;exact nA ‹_›
  ·have:=Q.ri;show W.s.items.length+c<=1000;exact nA ‹_›
  ·rw[Vk]at hll
   rcases Wb hm with hm|rfl
   ·have:=Q.ra m hm;exact nA ‹_›
   ·omega
end
noncomputable def bu(s:BS)(m:Str):BS:={s with mode:=m}
noncomputable def gk(s:BS)(b:Bool):BS:={s with ok:=b}
noncomputable def jq(s:BS)(b:Bool):BS:={s with done:=b}
noncomputable def aQ(s:BS)(xs:List Nat):BS:={s with items:=xs}
noncomputable def jr:List Str:=bJ++[S "tbody",S "td",S "tfoot",S "th",S "thead",S "tr",S "body",S "html"]
noncomputable def ij(s:BS)(i:Nat):Bool:= !decide (sp s i=S "html")|| !aj jr (nm s i)
noncomputable def gN(s:BS):BS:=bG (s.items.any (ij s)) s (S "open-elements")
noncomputable def cW(s:BS):Bool:=match s.items[1]? with
 |some b=>fO s b (S "body")
 | .none=>false
noncomputable def bT(t name:Str)(as:List (Str×Str)):V:= .tup [.str t,.str name,.tup (as.map bz),.bool false]
noncomputable def gn(s:BS):Bool:=match s.items.getLast? with
 |some i=> !decide (sp s i=S "html")
 | .none=>false
noncomputable def lU(s:BS)(as:List (Str×Str)):BS:=let s1:=aN s (S "unexpected-start-tag")
 if fb s (S "template")then s1 else fR s1 (s.items.getD 0 0) as
noncomputable def lV(s:BS)(as:List (Str×Str)):BS:=let s1:=aN s (S "unexpected-start-tag")
 if cW s&& !fb s (S "template")then fR (gk s1 false) (s.items.getD 1 0) as else s1
noncomputable def ub(s:BS):BS:=aQ (dk s (br s (s.items.getD 1 0)).toNat (s.items.getD 1 0)) (s.items.take 1)
noncomputable def lW(s:BS)(as:List (Str×Str)):BS:=let s1:=aN s (S "unexpected-start-tag")
 if !cW s|| !s.ok then s1 else bu (eA (ub s1) (s.items.getD 0 0) (S "frameset") (S "html") as) (S "in frameset")
noncomputable def dS(s:BS):BS:=if dD s [S "body"] (S "")then bu (gN s) (S "after body")else aN s (S "unexpected-end-tag")
noncomputable def gp(s:BS)(modes:List Str):BS:=if modes≠[]then dy s (S "in template") (.tup [.str (S "eof")])else jq (aQ (gN s) []) true
noncomputable def gq(s:BS)(name:Str)(as:List (Str×Str)):BS:=if name=S "html"then lU s as else if name=S "body"then lV s as else if name=S "frameset"then lW s as else dy s (S "in head") (bT (S "start") name as)
noncomputable def fc(s:BS)(name:Str):BS:=if name=S "body"then dS s else if name=S "html"then(if dD s [S "body"] (S "")then dy (dS s) (if gn s then S "foreign content"else S "after body") (bT (S "end") name [])else dS s)
 else dy s (S "in head") (bT (S "end") name [])
section
variable{H:Hp}{ad:Ad}{W:Wd}{cl:Cl}{n c:Nat}{f:V->K}{g:Bool->K}
noncomputable def oh:List (V×V):=[(.str (S "in head"),.fn 747),(.str (S "in template"),.fn 754),(.str (S "after body"),.fn 761),(.str (S "foreign content"),.fn 768)]
theorem PZ(B:BV H ad W){x:Str}{a:Addr}(h:bo (.str x) oh=some (.fn a)):UX (af .NotIn (.str x) (.ref (ad .rules))) g H=g false H:=by
 refine aq (m:=UX (dA (.str x) (.ref (ad .rules))) λr=>UZ (!r)) ((aq (v:=true) (H':=H) ?_).trans rfl)
 exact(OV (es:=oh) (zr B) rfl).trans (by refine er (h ..) ?_;rfl)
theorem P0(B:BV H ad W){x:Str}{a:Addr}(h:bo (.str x) oh=some (.fn a)):UX (aa (.ref (ad .rules)) (.str x)) f H=f (.fn a) H:=by
 exact aq (tm (es:=oh) (zr B) rfl h)
theorem Wf.keep{s s':BS}(F:Wf s)(hk:s'.kinds=s.kinds:=by rfl)(h1:s'.spaces=s.spaces:=by rfl)(h2:s'.names=s.names:=by rfl)(h3:s'.attrs=s.attrs:=by rfl)(h4:s'.texts=s.texts:=by rfl)(h5:s'.parents=s.parents:=by rfl)(h6:s'.children=s.children:=by rfl)
  (h7:s'.contents=s.contents:=by rfl) (h8:s'.items=s.items:=by rfl):Wf s':=by
 refine⟨by refine er (hk ..) (er (h2 ..) (er (F.lk ..) rfl)),by refine er (h1 ..) (er (h2 ..) (er (F.ls ..) rfl)),by refine er (h3 ..) (er (h2 ..) (er (F.la ..) rfl)),by refine er (h4 ..) (er (h2 ..) (er (F.lt ..) rfl)),by refine er (h5 ..) (er (h2 ..) (er (F.lp ..) rfl)),by refine er (h6 ..) (er (h2 ..) (er (F.lc ..) rfl)),by refine er (h2 ..) ?_;exact F.bn,by refine er (h8 ..) (er (h2 ..) ?_);exact F.it,by refine er (h8 ..) ?_;exact F.il,by refine er (h7 ..) (er (h2 ..) ?_);exact F.ct,by refine er (h7 ..) (er (h2 ..) ?_);exact F.cn,by refine er (h5 ..) ?_;exact F.pr,by refine er (h6 ..) (er (h2 ..) ?_);exact F.ck⟩
theorem qw(Q:Vw (c+1) H ad W){x:Str}{tok:V}{a:Addr}(h:cF (n+1) a [.ref (ad .b),tok]=(UX (ab (.ref (ad .b)) (S "errors") (TT (cF n))) λx2=>ao (TT (cF n)) x2 (S "append") (λk3=>UX (ab (.ref (ad .b)) (S "mode") (TT (cF n))) λx4=>k3 [(.tup [(.str x),tok,x4])]) λx1=>if am x1=true then(UZ .none)else UY)):
  bb c ad W (dy W.s x tok) .none (cF (n+1) a [.ref (ad .b),tok] H):=by
 refine ex1_2 (zK Q.v (by have:=Q.re;exact eC ‹_›) (.tup [.str x,tok,.str W.s.mode])) λH' B' e=>?_
 refine er (h ..) ?_
 simp only[aH,bL,qf Q.v,tw Q.v,bO (qe Q.v) cQ rfl,e]
 exact⟨H',_,_,Q.of B' (Q.f.keep) rfl (by simp[dy]) (by simp[dy]) (λl hl=>by have:=Q.ra l hl;exact nA ‹_›),rfl⟩
theorem qx(Q:Vw (c+1) H ad W){x:Str}{tok:V}{a:Addr}(h:bo (.str x) oh=some (.fn a))(hd:bb c ad W (dy W.s x tok) .none (cF (n+1) a [.ref (ad .b),tok] H)):bb c ad W (dy W.s x tok) .none (cF (n+2) 600 [.ref (ad .b),.str x,tok] H):=by
 refine er (MK ..) ?_
 unfold yM
 simp only[U0,if_false,O0 Q.v,PZ Q.v h,P0 Q.v h]
 exact bM hd.fl
theorem An(Q:Vw (c+1) H ad W){tok:V}:bb c ad W (dy W.s (S "in head") tok) .none (cF (n+2) 600 [.ref (ad .b),.str (S "in head"),tok] H):=qx Q rfl (qw Q (L6 n _ _))
theorem P1(Q:Vw (c+1) H ad W){tok:V}:bb c ad W (dy W.s (S "in template") tok) .none (cF (n+2) 600 [.ref (ad .b),.str (S "in template"),tok] H):=qx Q rfl (qw Q (L8 n _ _))
theorem P3(Q:Vw (c+1) H ad W){tok:V}:bb c ad W (dy W.s (S "after body") tok) .none (cF (n+2) 600 [.ref (ad .b),.str (S "after body"),tok] H):=qx Q rfl (qw Q (L_ n _ _))
theorem P5(Q:Vw (c+1) H ad W){tok:V}:bb c ad W (dy W.s (S "foreign content") tok) .none (cF (n+2) 600 [.ref (ad .b),.str (S "foreign content"),tok] H):=qx Q rfl (qw Q (Mb n _ _))
theorem uc(Q:Vw c H ad W){x:Str}:bb c ad W (bu W.s x) .none (cF (n+1) 593 [.ref (ad .b),.str x] H):=by
 refine ex1_2 (Pq (n:=n) Q.v (x:=x)) λH' B' e=>?_
 exact⟨H',_,_,⟨B',Q.f.keep,Q.la,Q.lc,Q.rn,Q.re,Q.ri,Q.ra⟩,e⟩
theorem Ao(cl:Cl)(Q:Vw c H ad W)(x:Bool):∃H',Vw c H' ad (W.up (gk W.s x) W.aA W.cA)/\∀(f:Unit->K),UX (a_ (.ref (ad .b)) (S "is_frameset_ok") (.bool x) (TT cl)) f H=f () H':=by
 refine ex1_2 (Pd (cl:=cl) Q.v x) λH1 B1 e1=>?_
 exact⟨H1,⟨B1,Q.f.keep,Q.la,Q.lc,Q.rn,Q.re,Q.ri,Q.ra⟩,e1⟩
theorem P6(cl:Cl)(Q:Vw c H ad W)(x:Bool):∃H',Vw c H' ad (W.up (jq W.s x) W.aA W.cA)/\∀(f:Unit->K),UX (a_ (.ref (ad .b)) (S "is_done") (.bool x) (TT cl)) f H=f () H':=by
 refine ex1_2 (Pe (cl:=cl) Q.v x) λH1 B1 e1=>?_
 exact⟨H1,⟨B1,Q.f.keep,Q.la,Q.lc,Q.rn,Q.re,Q.ri,Q.ra⟩,e1⟩
theorem Ap(B:BV H ad W)(F:Wf W.s):cF (n+2) 656 [.ref (ad .b)] H=some (.bool (cW W.s),H):=by
 refine er (M1 ..) ?_
 unfold yP
 simp only[jp,lM,aP,bP B,lK B,aq (lP (n:=n) B F)]
 cases h:W.s.items[1]? with
 |none=>
  have:=List.getElem?_eq_none_iff.mp h
  have h1:¬((1:Int)<W.s.items.length):=by omega
  simp only[h1,aH,aK,decide_false,eq_self,cW,h]
 |some b=>
  have hl:=(List.getElem?_eq_some_iff.mp h).1
  have h1:((1:Int)<W.s.items.length):=by exact nZ ‹_›
  have hb:=F.it b (Vb h)
  have hx:∀f:V->K,UX (aa (.ref (ad .items)) (.int 1)) f _=_:=λf=>iQ B F (k:=1) h
  simp only[hx,h1,aO,decide_true,eM B,dj B,tB B,cW,h]
  simp only[aq (tF (n:=n) B F hb),aH]
theorem Aq(Q:Vw (c+1) H ad W):bb c ad W (gN W.s) .none (cF (n+2) 684 [.ref (ad .b)] H):=by
 refine er (NF ..) ?_
 unfold yT
 have e0:∀f:V->K,UX (ax .Add (.tup (bJ.map .str)) (.tup [.str (S "tbody"),.str (S "td"),.str (S "tfoot"),.str (S "th"),.str (S "thead"),.str (S "tr"),.str (S "body"),.str (S "html")])) f H=f (.tup (jr.map .str)) H:=λf=>rfl
 simp only[eM Q.v,bP Q.v,dj Q.v,aq (zN (n:=n)),e0,aM,aT,aP,aH,aO,aK,if_true,if_false,U0,U6,U5,decide_true,decide_false,eq_self]
 refine qj (P:=bb c ad W (gN W.s) .none) (λj vars H'=>H'=H/\(∃o,vars=(j5 (some (.ref (ad .b))) (some (.ref (ad .t))) (some (.tup (jr.map .str))) o))/\(W.s.items.take j).any (ij W.s)=false) (xs:=W.s.items.map λi=> .int (i:Nat)) (λj vars H' h=>h.1▸dQ Q.v) ?_ ?_ ⟨rfl,⟨_,rfl⟩,by simp⟩
 ·rintro j v vars H' kn hv ⟨rfl,⟨o,rfl⟩,h0⟩ hk
  refine er (NJ ..) ?_
  rw[Vh,VA]at hv
  refine ex1_2 (hv) λi hj zq2=>?_;subst zq2
  have hi:=Q.f.it i (Vb hj)
  have bad:ij W.s i=true->gN W.s=aN W.s (S "open-elements"):=λh=>by
   unfold gN bG
   refine er (if_pos (List.any_eq_true.mpr ⟨i,Vb hj,h⟩) ..) rfl
  have good:ij W.s i=false->(W.s.items.take (j+1)).any (ij W.s)=false:=λh=>by
   refine er (Wa ..) (er (hj ..) (er (XT ..) (er (h0 ..) ?_)))
   simp[h]
  simp only[jp,gg,U0,if_false,if_true,eq_self,gL Q.v,jg Q.v Q.f hi,aM,aT,aP,aH,aO,aK,U6,U5,decide_true,decide_false]
  by_cases h1:sp W.s i=S "html"
  ·cases h2:aj jr (nm W.s i)with
   |true=>
    simp only[aK,U6,decide_true,eq_self,gM Q.v,h1,jh Q.v Q.f hi,tI (ic jr),iR,h2,aM,aT,aP,aH,aO,if_true,if_false,U0,U5,decide_false]
    exact hk _ _ ⟨rfl,⟨_,rfl⟩,good (by simp[ij,h1,h2])⟩
   |false=>
    simp only[aO,aK,U6,U5,decide_true,eq_self,gM Q.v,fK Q.v,h1,jh Q.v Q.f hi,tI (ic jr),iR,h2,aM,aT,aP,aH,if_true,if_false,U0,decide_false]
    refine er (bad (by simp[ij,h1,h2]) ..) ?_
    exact bM (fQ (n:=n) Q).fl
  ·simp only[aO,U5,decide_false,fK Q.v,h1,aM,aT,aP,aH,aK,if_true,if_false,U0,U6,decide_true,eq_self]
   refine er (bad (by simp[ij,h1]) ..) ?_
   exact bM (fQ (n:=n) Q).fl
 ·rintro vars H' ⟨rfl,⟨o,rfl⟩,h0⟩
  refine er (NK ..) ?_
  rw[Vk,VX]at h0
  unfold gN bG
  refine er (h0 ..) ?_
  exact ji (Q.le (Va _ _))
theorem Ar(Q:Vw (c+1) H ad W):bb c ad W (dS W.s) (.bool (dD W.s [S "body"] (S ""))) (cF (n+3) 691 [.ref (ad .b)] H):=by
 refine er (NQ ..) ?_
 unfold yU dS
 have hi:=qm (n:=n) Q.v Q.f (l:=[S "body"]) (sort:=S "") (by decide) (by decide)
 rw[Vi,WT]at hi
 simp only[aP,bP Q.v,bq Af,aq hi,aM,aT,aH,aO,aK,if_true,if_false,U0,U6,U5,decide_true,decide_false,eq_self]
 cases hq:dD W.s [S "body"] (S "")with
 |false=>
  simp only[U0,if_false,if_true,U5,eq_self,fK Q.v,aM,aT,aP,aH,aO,aK,U6,decide_true,decide_false]
  exact cR (fQ (n:=n+1) Q).fl λH1 a b Q1=>⟨H1,a,b,Q1,rfl⟩
 |true=>
  simp only[U0,if_false,if_true,U6,eq_self,aM,aT,aP,aH,aO,aK,U5,decide_true,decide_false]
  refine cR (Aq (n:=n) Q).fl λH1 a b Q1=>?_
  simp only[tz Q1.v,aM,aT,aP,aH,aO,aK,if_true,if_false,U0,U6,U5,decide_true,decide_false,eq_self]
  exact(cR (P:=bb c ad _ _ _) (uc (n:=n+1) Q1).fl λH2 a2 b2 Q2=>⟨H2,a2,b2,Q2,rfl⟩).up
end
section
variable{H:Hp}{ad:Ad}{W:Wd}{cl:Cl}{n c:Nat}{f:V->K}{g:Bool->K}
theorem P7(Q:Vw c H ad W):bb c ad W (jq (aQ W.s []) true) .none (cF (n+2) 649 [.ref (ad .b)] H):=by
 refine er (MP ..) ?_
 unfold yO
 refine n5 (P:=bb c ad W (jq (aQ W.s []) true) .none) (λm vars H'=>∃xs,Vw c H' ad (W.up (aQ W.s xs) W.aA W.cA)/\m=xs.length/\vars=(lB (some (.ref (ad .b))))) ?_
  (m:=W.s.items.length) ⟨W.s.items,Q,rfl,rfl⟩ (by have:=n4 (k:=ad .items) (dQ Q.v);simp at this;exact Vx ‹_›)
 intro m vars H' k hI1 hk
 refine ex1_3 hI1 λxs Q1 zq2 zq3=>?_
 subst zq2
 subst zq3
 refine er (MT ..) ?_
 simp only[lM,bP Q1.v,lK Q1.v,aq (lP (n:=n) Q1.v Q1.f),cq,aQ]
 by_cases h:xs=[]
 ·subst h
  simp only[V8,show¬((0:Int)<((0:Nat):Int)) by decide,decide_false,U0,if_false]
  refine er (MU ..) ?_
  refine ex1_2 (P6 (cF (n+1)) Q1 true) λH2 Q2 e2=>?_
  refine er (e2 ..) ?_
  exact⟨H2,_,_,Q2,rfl⟩
 ·refine ex2_1 (kr h) λys i hx=>?_
  have h0:(0:Int)<(xs.length:Nat):=by refine er (hx ..) ?_;simp
  simp only[h0,decide_true,if_true]
  refine er (MR ..) ?_
  refine ex1_2 (tM (n:=n) Q1.v Q1.f (xs:=ys) (i:=i) hx) λH2 B2 e2=>?_
  simp only[qh,bP Q1.v,tC Q1.v,aq e2]
  refine hk ys.length _ _ (by refine er (hx ..) ?_;simp) ⟨ys,?_,rfl,rfl⟩
  have:=Q1.si0 B2 (λj hj=>Q1.f.it j (by show j∈xs;refine er (hx ..) ?_;exact VD _ hj)) (by show ys.length<=xs.length;refine er (hx ..) ?_;simp)
  exact this
theorem P8(Q:Vw (c+1) H ad W)(hm:W.modes.length<=1000):bb c ad W (gp W.s W.modes) .none (cF (n+3) 698 [.ref (ad .b),.tup [.str (S "eof")]] H):=by
 refine er (NV ..) ?_
 unfold yV gp
 have hl:=λf=>lG (f:=f) (tr Q.v) (by simp;exact nD ‹_›)
 simp only[Vk]at hl
 simp only[lM,tu Q.v,hl]
 by_cases h:W.modes=[]
 ·simp only[h,V8,show¬((0:Int)<((0:Nat):Int)) by decide,decide_false,U0,if_false,ne_eq,not_true]
  refine cR (Aq (n:=n) Q).fl λH1 a b Q1=>?_
  exact(bM (P7 (n:=n) Q1).fl).up
 ·have h0:(0:Int)<(W.modes.length:Nat):=by have:=List.length_pos_iff.mpr h;exact nZ ‹_›
  simp only[h0,h,decide_true,if_true,ne_eq,not_false_eq_true,nW Q.v]
  exact bM (P1 (n:=n) Q).fl
theorem As{s:BS}{w x:Str}:fb (aN s w) x=fb s x:=rfl
theorem Au{s:BS}{w:Str}:cW (aN s w)=cW s:=rfl
theorem Av{s:BS}(h:s.items≠[]):s.items[0]?=some (s.items.getD 0 0):=by
 cases hl:s.items with
 |nil=>exact absurd hl h
 |cons a r=>rfl
theorem P9(Q:Vw (c+4) H ad W)(hne:W.s.items≠[]){as:List (Str×Str)}(hl:as.length<=3){t name:Str}:bb c ad W (lU W.s as) .none (cF (n+3) 663 [.ref (ad .b),bT t name as] H):=by
 refine er (M_ ..) ?_
 unfold yQ lU
 simp only[fK Q.v]
 refine cR (fQ (n:=n+1) Q).fl λH1 a b Q1=>?_
 simp only[aP,bP Q1.v,tD Q1.v,aq (tZ (n:=n) Q1.v Q1.f),cq,As]
 cases hq:fb W.s (S "template")with
 |true=>
  simp only[U6,U0,if_false,if_true]
  exact(ji (Q1.le (Va _ _))).up
 |false=>
  have h0:=Av hne
  have hi:=Q1.f.it _ (Vb h0)
  have hx:∀f:V->K,UX (aa (.ref (ad .items)) (.int 0)) f _=_:=λf=>iQ Q1.v Q1.f (k:=0) h0
  simp only[hx,U5,U0,if_false,if_true,U0,if_false,if_true,U5,eq_self,eM Q1.v,bP Q1.v,dj Q1.v,bT]
  simp only[qv]
  exact(bM (Am (n:=n) (c:=c) Q1 hi hl).fl).up
theorem Aw{s:BS}(h:cW s=true):s.items[1]?=some (s.items.getD 1 0):=by
 unfold cW at h
 cases hq:s.items[1]? with
 |none=>rw[hq]at h;cases h
 |some b=>refine er (U1 ..) (er (hq ..) ?_);rfl
theorem P_(Q:Vw (c+4) H ad W){as:List (Str×Str)}(hl:as.length<=3){t name:Str}:bb c ad W (lV W.s as) .none (cF (n+3) 670 [.ref (ad .b),bT t name as] H):=by
 refine er (Nk ..) ?_
 unfold yR lV
 simp only[jp,U0,if_false,if_true,eq_self,fK Q.v]
 refine cR (fQ (n:=n+1) Q).fl λH1 a b Q1=>?_
 simp only[aP,aq (Ap (n:=n) Q1.v Q1.f),cq,Au]
 cases hq:cW W.s with
 |false=>
  dsimp only[aH,aK,U0,if_false,Wv]
  exact(ji (Q1.le (Va _ _))).up
 |true=>
  simp only[aP,aO,bP Q1.v,tD Q1.v,Xv,aq (tZ (n:=n) Q1.v Q1.f),cq,As]
  cases hq2:fb W.s (S "template")with
  |true=>
   simp only[aH,aK,U0,if_false,U6]
   exact(ji (Q1.le (Va _ _))).up
  |false=>
   refine ex1_2 (Ao (cF (n+2)) Q1 false) λH2 Q2 e2=>?_
   have h0:=Aw hq
   have hi:=Q2.f.it _ (Vb h0)
   have hx:∀f:V->K,UX (aa (.ref (ad .items)) (.int 1)) f _=_:=λf=>iQ Q2.v Q2.f (k:=1) h0
   simp only[aO,if_true,U5,eq_self,e2]
   simp only[hx,eM Q2.v,bP Q2.v,dj Q2.v,bT]
   simp only[qv]
   exact(bM (Am (n:=n) (c:=c) Q2 hi hl).fl).up
end
section
variable{H:Hp}{ad:Ad}{W:Wd}{cl:Cl}{n c:Nat}{f:V->K}{g:Bool->K}
theorem Qa(B:BV H ad W)(F:Wf W.s){i:Nat}(hi:i<W.s.names.length)(hn:nm W.s i=S "frameset"):cF (n+1) 259 [.ref (ad .b),.int (i:Nat)] H=some (.none,H):=by
 refine er (KB ..) ?_
 unfold yu
 have h1:dY [.str (S "button"),.str (S "fieldset"),.str (S "input"),.str (S "object"),.str (S "output"),.str (S "select"),.str (S "textarea"),.str (S "img")]=true:=rfl
 have h2:aj (e_ [.str (S "button"),.str (S "fieldset"),.str (S "input"),.str (S "object"),.str (S "output"),.str (S "select"),.str (S "textarea"),.str (S "img")]) (S "frameset")=false:=by decide
 by_cases h:W.s.form= -1
 ·simp only[jp,aT,aH,aO,U0,if_false,if_true,decide_true,eq_self,nP B,h]
 ·simp only[jp,aT,aH,aK,U0,if_false,if_true,U5,decide_false,eq_self,eM B,nP B,zt B,gM B,h,jh B F hi,hn,tI h1,h2]
theorem Qb{s:BS}(F:Wf s){i:Nat}{name space:Str}{as:List (Str×Str)}:nm (eA s i name space as) s.names.length=name:=by
 have h:∀s':BS,s'.names=(bF s name space as).names->nm s' s.names.length=name:=λs' e=>by
  unfold nm
  refine er (e ..) ?_
  unfold bF
  split<;>simp[ez,addN]
 exact h _ rfl
theorem Qc{s:BS}{i:Nat}{name space:Str}{as:List (Str×Str)}:s.names.length<(eA s i name space as).names.length:=iS
theorem Qd(Q:Vw (c+3) H ad W){i:Nat}(hc:W.s.items.getLast?=some i){as:List (Str×Str)}(hl:as.length+c+2<=1000){t:Str}:
  ig c ad W (eA W.s i (S "frameset") (S "html") as) (cF (n+6) 252 [.ref (ad .b),bT t (S "frameset") as] H):=by
 refine er (KM ..) ?_
 unfold yv bT
 simp only[kB,qv]
 have:=Ab (n:=n) Q hc (name:=S "frameset") (space:=S "html") (as:=as) hl
 rw[←KJ]at this
 refine⟨.int W.s.names.length,rfl,gj this λH1 a b Q1=>?_⟩
 simp only[aq (Qa (n:=n+4) Q1.v Q1.f (i:=W.s.names.length) Qc (Qb Q.f))]
 exact⟨H1,a,b,Q1,rfl⟩
theorem Qe(Q:Vw (c+4) H ad W){as:List (Str×Str)}(hl:as.length<=3)(hc:c<=900){t:Str}(hb:cW W.s=true->∃p:Nat,br W.s (W.s.items.getD 1 0)=p/\p<W.s.names.length/\W.s.items.getD 1 0∈aJ W.s p):
  bb c ad W (lW W.s as) .none (cF (n+7) 677 [.ref (ad .b),bT t (S "frameset") as] H):=by
 refine er (Nu ..) ?_
 unfold yS lW
 simp only[jp,U0,if_false,if_true,eq_self,fK Q.v]
 refine cR (fQ (n:=n+5) Q).fl λH1 a b Q1=>?_
 simp only[aP,aq (Ap (n:=n+4) Q1.v Q1.f),cq,Au]
 cases hq:cW W.s with
 |false=>
  simp only[aH,aO,if_true,U5,eq_self,Yh]
  exact(ji (Q1.le (Va _ _))).up
 |true=>
  have hok:(aN W.s (S "unexpected-start-tag")).ok=W.s.ok:=rfl
  simp only[aP,aK,U6,tv Q1.v,Xw,cq,hok]
  cases hq2:W.s.ok with
  |false=>
   simp only[aH,aO,if_true,U5,eq_self]
   exact(ji (Q1.le (Va _ _))).up
  |true=>
   have h0:=Aw hq
   have hi:=Q1.f.it _ (Vb h0)
   have hx:∀f:V->K,UX (aa (.ref (ad .items)) (.int 1)) f _=_:=λf=>iQ Q1.v Q1.f (k:=1) h0
   refine ex1_3 (hb hq) λp hp1 hp2 hp3=>?_
   simp only[hx,aK,U0,if_false,U6,eM Q1.v,bP Q1.v,dj Q1.v,zy Q1.v]
   refine cR (PI (n:=n+5) Q1 (i:=W.s.items.getD 1 0) (p:=p) hi hp2 hp1 hp3).fl λH2 a2 b2 Q2=>?_
   obtain⟨x0,x1,r,hxs⟩:∃x0 x1 r,W.s.items=x0::x1::r:=by
    cases hl:W.s.items with
    |nil=>rw[hl]at h0;exact ak h0
    |cons x0 t=>cases t with
     |nil=>rw[hl]at h0;exact ak h0
     |cons x1 r=>exact⟨x0,x1,r,rfl⟩
   have e1:br (aN W.s (S "unexpected-start-tag")) (W.s.items.getD 1 0)=p:=hp1
   have et:ub (aN W.s (S "unexpected-start-tag"))=aQ (dk (aN W.s (S "unexpected-start-tag")) p (W.s.items.getD 1 0)) (W.s.items.take 1):=by
    show aQ (dk (aN W.s (S "unexpected-start-tag")) (br W.s (W.s.items.getD 1 0)).toNat (W.s.items.getD 1 0)) (W.s.items.take 1)=_
    refine er (hp1 ..) ?_;rfl
   refine er (et ..) ?_
   generalize hs2:dk (aN W.s (S "unexpected-start-tag")) p (W.s.items.getD 1 0)=s2
   have hs2':dk (W.up (aN W.s (S "unexpected-start-tag")) a b).s p (W.s.items.getD 1 0)=s2:=hs2
   rw[hs2']at Q2
   have hit:s2.items=x0::x1::r:=by refine el (hs2 ..) (el (hxs ..) ?_);rfl
   refine n5 (P:=bb c ad W (bu (eA (aQ s2 (W.s.items.take 1)) (W.s.items.getD 0 0) (S "frameset") (S "html") as) (S "in frameset")) .none) (λm vars H'=>∃xs a b,Vw (c+3) H' ad (W.up (aQ s2 (x0::xs)) a b)/\m=xs.length/\vars=(lC (some (.ref (ad .b))) (some (bT t (S "frameset") as)) (some (.ref (ad .st))))) ?_
    (m:=(x1::r).length) ⟨x1::r,_,_,by refine er ((show aQ s2 (x0::x1::r)=s2 by refine el (hit ..) ?_;rfl) ..) ?_;exact Q2,rfl,rfl⟩ (by have:=n4 (k:=ad .items) (dQ Q2.v);rw[Vk]at this;rw[show(((W.up (aN W.s (S "unexpected-start-tag")) a b).up s2 a2 b2).s.items).length=(x1::r).length+1 by show s2.items.length=_;refine er (hit ..) ?_;rfl]at this;omega)
   intro m vars H' k hI1 hk
   refine ex3_3 hI1 λxs a3 b3 Q3 zq2 zq3=>?_
   subst zq2
   subst zq3
   refine er (Ny ..) ?_
   simp only[lM,lK Q3.v,aq (lP (n:=n+5) Q3.v Q3.f),cq,aQ]
   by_cases h:xs=[]
   ·subst h
    simp only[Wh,V8,show¬((1:Int)<((0+1:Nat):Int)) by decide,decide_false,U0,if_false]
    refine er (NA ..) ?_
    have e5:W.s.items.take 1=[x0]:=by refine er (hxs ..) ?_;rfl
    have e6:W.s.items.getD 0 0=x0:=by refine er (hxs ..) ?_;rfl
    refine er (e5 ..) (er (e6 ..) ?_)
    have hlast:(W.up (aQ s2 [x0]) a3 b3).s.items.getLast?=some x0:=rfl
    refine cR (Qd (n:=n) (c:=c) Q3 hlast (by omega)) λH4 a4 b4 Q4=>?_
    simp only[tz Q4.v]
    exact(bM (uc (n:=n+5) Q4).fl).up
   ·refine ex2_1 (kr h) λys i hx=>?_
    have h0:(1:Int)<((x0::xs).length:Nat):=by refine er (hx ..) ?_;simp;omega
    simp only[h0,decide_true,if_true]
    refine er (Nv ..) ?_
    have hx':(W.up (aQ s2 (x0::xs)) a3 b3).s.items=(x0::ys)++[i]:=by show x0::xs=_;refine er (hx ..) ?_;rfl
    refine ex1_2 (tM (n:=n+5) Q3.v Q3.f hx') λH5 B5 e5=>?_
    simp only[qh,tC Q3.v,aq e5]
    refine hk ys.length _ _ (by refine er (hx ..) ?_;simp) ⟨ys,a3,b3,?_,rfl,rfl⟩
    have:=Q3.si0 B5 (λj hj=>Q3.f.it j (by refine er (hx' ..) ?_;exact VD _ hj)) (by refine er (hx' ..) ?_;simp)
    exact this
end
section
variable{H:Hp}{ad:Ad}{W:Wd}{cl:Cl}{n c:Nat}{f:V->K}{g:Bool->K}
theorem Ax(B:BV H ad W)(F:Wf W.s):cF (n+2) 621 [.ref (ad .b)] H=some (.int (fN W.s),H):=by
 refine er (Mi ..) ?_
 unfold yJ
 simp only[jp,aT,U0,if_false,if_true,eq_self,bP B,lK B,aq (lP (n:=n) B F),aM,aP,aH,aO,aK,U6,U5,decide_true,decide_false]
 by_cases h:(W.s.items.length:Int)=1
 ·simp only[h,fM,aH,aO,aK,U6,decide_true,eq_self,bP B,zt B,kh B,aq (kj (n:=n) B F),aM,aT,aP,if_true,if_false,U0,U5,decide_false]
 ·simp only[h,aH,aK,decide_false,eq_self,bP B,kh B,aq (kj (n:=n) B F),aM,aT,aP,aO,if_true,if_false,U0,U6,U5,decide_true]
theorem Qf(B:BV H ad W)(F:Wf W.s):cF (n+3) 628 [.ref (ad .b)] H=some (.bool (gn W.s),H):=by
 refine er (Mo ..) ?_
 unfold yK gn
 simp only[jp,fM,aP,zv B,aq (Ax (n:=n) B F),fN]
 cases h:W.s.items.getLast? with
 |none=>simp only[aH,aK,U6,decide_true,eq_self]
 |some i=>
  have hi:=tE F h
  have h1:¬((i:Nat):Int)= -1:=by exact nM
  simp only[gg,aH,aO,U5,decide_false,eq_self,eM B,gL B,h1,jg B F hi]
theorem Qg(B:BV H ad W)(F:Wf W.s){name:Str}{as:List (Str×Str)}:cF (n+4) 642 [.ref (ad .b),bT (S "end") name as] H=some (.bool (!gn W.s),H):=by
 refine er (MG ..) ?_
 unfold yL bT
 simp only[jp,aP,U0,if_false,if_true,eq_self,O9 B,aq (Qf (n:=n) B F)]
 cases h:gn W.s with
 |false=>simp only[aH,aO,U5,eq_self]
 |true=>
  have e1:decide (S "end"=S "eof")=false:=by decide
  have e2:decide (S "end"=S "char")=false:=by decide
  have e3:decide (S "end"=S "start")=false:=by decide
  simp only[aM,gg,aH,aK,U0,if_false,if_true,U6,U5,eq_self,eM B,zv B,ua,e1,e2,e3,aq (Ax (n:=n+1) B F)]
theorem Qh(Q:Vw (c+1) H ad W)(hm:W.s.mode=S "after body"){name:Str}{as:List (Str×Str)}:bb c ad W (dy W.s (if gn W.s then S "foreign content"else S "after body") (bT (S "end") name as)) .none (cF (n+5) 607 [.ref (ad .b),bT (S "end") name as] H):=by
 refine er (MO ..) ?_
 unfold yN
 simp only[aP,aq (Qg (n:=n) Q.v Q.f)]
 cases h:gn W.s with
 |false=>
  simp only[U0,if_false,if_true,U5,eq_self,qf Q.v,nW Q.v,hm]
  exact bM (P3 (n:=n+2) Q).fl
 |true=>
  simp only[U0,if_false,if_true,U6,eq_self,nW Q.v]
  exact bM (P5 (n:=n+2) Q).fl
theorem Qi{s:BS}(h:dD s [S "body"] (S "")=true):gn (dS s)=gn s/\(dS s).mode=S "after body":=by
 unfold dS
 refine er (if_pos h ..) ?_
 refine⟨?_,rfl⟩
 unfold gN bG
 split<;>rfl
theorem Qj(Q:Vw (c+2) H ad W){name:Str}:bb c ad W (fc W.s name) .none (cF (n+6) 712 [.ref (ad .b),bT (S "end") name []] H):=by
 refine er (N9 ..) ?_
 unfold yY fc
 have e0:bT (S "end") name []= .tup [.str (S "end"),.str name,.tup [],.bool false]:=rfl
 refine er (e0 ..) ?_
 simp only[kB,aM,aT,aP,aH,aO,aK,if_true,if_false,U0,U6,U5,decide_true,decide_false,eq_self]
 by_cases h1:name=S "body"
 ·simp only[h1,decide_true,if_true,aM,aT,aP,aH,aO,aK,if_false,U0,U6,U5,decide_false,eq_self]
  exact bM (Ar (n:=n+2) (Q.le (by omega))).fl
 ·simp only[h1,decide_false,U0,if_false,kB,aM,aT,aP,aH,aO,aK,if_true,U6,U5,decide_true,eq_self]
  by_cases h2:name=S "html"
  ·simp only[h2,decide_true,if_true,aM,aT,aP,aH,aO,aK,if_false,U0,U6,U5,decide_false,eq_self]
   refine gj (Ar (n:=n+2) (c:=c+1) Q) λH1 a b Q1=>?_
   simp only[aP]
   cases hq:dD W.s [S "body"] (S "")with
   |true=>
    simp only[if_true,O8 Q1.v,aM,aT,aP,aH,aO,aK,if_false,U0,U6,U5,decide_true,decide_false,eq_self]
    refine ai (Qi hq) λf1 f2=>?_
    have:=Qh (n:=n) Q1 f2 (name:=S "html") (as:=[])
    rw[show(W.up (dS W.s) a b).s=dS W.s from rfl,f1]at this
    exact(bM this.fl).up
   |false=>
    simp only[U0,if_false,aM,aT,aP,aH,aO,aK,if_true,U6,U5,decide_true,decide_false,eq_self]
    exact(ji (Q1.le (Va _ _))).up
  ·simp only[h2,decide_false,U0,if_false,nW Q.v,aM,aT,aP,aH,aO,aK,if_true,U6,U5,decide_true,eq_self]
   exact bM (An (n:=n+3) (c:=c) (Q.le (by omega))).fl
theorem Qk(Q:Vw (c+4) H ad W)(hne:W.s.items≠[]){as:List (Str×Str)}(hl:as.length<=3)(hc:c<=900)(hb:cW W.s=true->∃p:Nat,br W.s (W.s.items.getD 1 0)=p/\p<W.s.names.length/\W.s.items.getD 1 0∈aJ W.s p){name:Str}:
  bb c ad W (gq W.s name as) .none (cF (n+8) 705 [.ref (ad .b),bT (S "start") name as] H):=by
 refine er (N3 ..) ?_
 unfold yX gq
 have t1:∀f,UX (aa (bT (S "start") name as) (.int 1)) f H=f (.str name) H:=λf=>kB
 simp only[t1,aM]
 by_cases h1:name=S "html"
 ·simp only[h1,decide_true,if_true]
  exact bM (P9 (n:=n+4) Q hne hl).fl
 ·simp only[h1,decide_false,U0,if_false,t1,aM]
  by_cases h2:name=S "body"
  ·simp only[h2,decide_true,if_true]
   exact bM (P_ (n:=n+4) Q hl).fl
  ·simp only[h2,decide_false,U0,if_false,t1,aM]
   by_cases h3:name=S "frameset"
   ·simp only[h3,decide_true,if_true]
    exact bM (Qe (n:=n) Q hl hc hb).fl
   ·simp only[h3,decide_false,U0,if_false,nW Q.v]
    exact bM (An (n:=n+5) (c:=c) (Q.le (by omega))).fl
end
noncomputable def Wd.dup(W:Wd)(u:BS)(o:Nat)(a c:List Nat):Wd:={W with u:=some u,oA:=o,uA:=a,uC:=c}
structure Dw(c:Nat)(H:Hp)(ad:Ad)(W:Wd)(u:BS):Prop where
 v:BV H ad W
 hu:W.u=some u
 f:Wf u
 la:W.uA.length=u.names.length
 lc:W.uC.length=u.names.length
 rn:u.names.length+c<=1000
 re:u.errors.length+c<=1000
 ri:u.items.length+c<=1000
 ra:∀l∈u.attrs,l.length+c<=1000
section
variable{H:Hp}{ad:Ad}{W:Wd}{cl:Cl}{n c:Nat}{f:V->K}{g:Bool->K}{u:BS}
theorem Dw.le(D:Dw c H ad W u){d:Nat}(h:d<=c):Dw d H ad W u:=⟨D.v,D.hu,D.f,D.la,D.lc,by have:=D.rn;exact nK ‹_› ‹_›,by have:=D.re;exact nK ‹_› ‹_›,by have:=D.ri;exact nK ‹_› ‹_›,λl hl=>by have:=D.ra l hl;exact nK ‹_› ‹_›⟩
theorem Dw.app(D:Dw c H ad W u)(G:Hp):Dw c (H++G) ad W u:=⟨D.v.app G,D.hu,D.f,D.la,D.lc,D.rn,D.re,D.ri,D.ra⟩
theorem Dw.of{c':Nat}(D:Dw c H ad W u){H':Hp}{u':BS}{o:Nat}{a b:List Nat}(B:BV H' ad (W.dup u' o a b))(F:Wf u')(h1:a.length=u'.names.length)(h2:b.length=u'.names.length)(h3:u'.names.length+c'<=1000)(h4:u'.errors.length+c'<=1000)(h5:u'.items.length+c'<=1000)(h6:∀l∈u'.attrs,l.length+c'<=1000):Dw c' H' ad (W.dup u' o a b) u':=
 ⟨B,rfl,F,h1,h2,h3,h4,h5,h6⟩
theorem eB(D:Dw c H ad W u):H[ad .d]?=some (eY ad W.oA u):=D.v.get .d _ (congrArg (Vc (eY ad W.oA)) D.hu)
theorem fS(D:Dw c H ad W u):H[W.oA]?=some (ay u.items):=D.v.get .dopen _ (congrArg (Vc (λu:BS=>ay u.items)) D.hu)
theorem dE{k:Nat}{es:List (V×V)}{ep:Option Nat}{key:Str}{v:V}(h:H[k]?=some (.dict es ep))(hk:cD (.str key) es=true)(hg:bo (.str key) es=some v):UX (aa (.ref k) (.str key)) f H=f v H:=by
 exact aq (tm h hk hg)
theorem oi{k:Nat}{es es':List (V×V)}{ep:Option Nat}{key:Str}{v:V}{f:Unit->K}(h:H[k]?=some (.dict es ep))(hk:cD (.str key) es=true)(hg:(bo (.str key) es).isSome=true)(hp:dJ (.str key) v es=es')(hl:es.length<=100000):UX (bi (.ref k) (.str key) v) f H=f () (H.set k (.dict es' ep)):=by
 refine(aq (zo h hk (decide_eq_true hl))).trans ?_
 refine er (hg ..) (er (hp ..) (er (if_pos rfl ..) rfl))
set_option tactic.hygienic true in
theorem gr{W:Wd}{u u':BS}{o o':Nat}{a a' b b':List Nat}{E:Rl->Prop}(hd:¬E .d->eY ad o' u'=eY ad o u)(h0:¬E .dopen->u'.items=u.items)(h1:¬E .dnames->u'.names=u.names)(h2:¬E .dspaces->u'.spaces=u.spaces)(h3:¬E .dattrs->a'=a)(h4:¬E .dparents->u'.parents=u.parents)(h5:¬E .dchildren->b'=b)(h6:¬E .derrors->u'.errors=u.errors)(h7:¬E .dcontents->u'.contents=u.contents)(h8:¬E .dkinds->u'.kinds=u.kinds)
  (h9:∀i,¬E (.dat i)->u'.attrs[i]?=u.attrs[i]?) (h10:∀i,¬E (.dch i)->u'.children[i]?=u.children[i]?):∀x,¬E x->cont ad (W.dup u' o' a' b') x=cont ad (W.dup u o a b) x:=λx hx=>by
 cases x
 case d=>exact congrArg some (hd hx)
 case dopen=>exact congrArg (λz=>some (ay z)) (h0 hx)
 case dnames=>exact congrArg (λz=>some (U z)) (h1 hx)
 case dspaces=>exact congrArg (λz=>some (U z)) (h2 hx)
 case dattrs=>exact congrArg (λz=>some (aS z)) (h3 hx)
 case dparents=>exact congrArg (λz=>some (cz z)) (h4 hx)
 case dchildren=>exact congrArg (λz=>some (aS z)) (h5 hx)
 case derrors=>exact congrArg (λz=>some (O.list z)) (h6 hx)
 case dcontents=>exact congrArg (λz=>some (O.dict (z.map bS) .none)) (h7 hx)
 case dkinds=>exact congrArg (λz=>some (U z)) (h8 hx)
 case dat i=>exact congrArg (λz=>Vc bm z) (h9 i hx)
 case dch i=>exact congrArg (λz=>Vc ay z) (h10 i hx)
 all_goals rfl
set_option tactic.hygienic true in
theorem ud{W:Wd}{u u':BS}{o o':Nat}{a a' b b':List Nat}{r:Rl}(h0:r≠ .dopen->o'=o)(h1:∀i,r≠ .dat i->(u'.attrs[i]?).isSome=true->a'.getD i 0=a.getD i 0)(h2:∀i,r≠ .dch i->(u'.children[i]?).isSome=true->b'.getD i 0=b.getD i 0):∀x,x≠r->(cont ad (W.dup u' o' a' b') x).isSome=true->bj ad (W.dup u' o' a' b') x=bj ad (W.dup u o a b) x:=λx hx hs=>by
 have hy:=hx.symm
 clear hx
 cases x
 case dopen=>exact h0 hy
 case dat i=>exact h1 i hy (Option.isSome_map.symm.trans hs)
 case dch i=>exact h2 i hy (Option.isSome_map.symm.trans hs)
 all_goals rfl
theorem Ay(D:Dw c H ad W u):W.dup u W.oA W.uA W.uC=W:=by
 have:=D.hu
 cases W;simp only at this;subst this;rfl
theorem qy(D:Dw c H ad W u){u':BS}{o':Nat}{a' b':List Nat}{E:Rl->Prop}(h:∀x,¬E x->cont ad (W.dup u' o' a' b') x=cont ad (W.dup u W.oA W.uA W.uC) x):∀x,¬E x->cont ad (W.dup u' o' a' b') x=cont ad W x:=λx hx=>(h x hx).trans (congrArg (λw=>cont ad w x) (Ay D))
theorem qz(D:Dw c H ad W u){u':BS}(h0:u'.items=u.items)(h1:u'.names=u.names)(h2:u'.spaces=u.spaces)(h3:u'.parents=u.parents)(h4:u'.errors=u.errors)(h5:u'.contents=u.contents)(h6:u'.kinds=u.kinds)(h7:u'.attrs=u.attrs)(h8:u'.children=u.children)(h9:True=True):∀x,x≠ .d->cont ad (W.dup u' W.oA W.uA W.uC) x=cont ad W x:=
 qy (E:=λx=>x= .d) D (gr (λh=>absurd rfl h) (λ_=>h0) (λ_=>h1) (λ_=>h2) (λ_=>rfl) (λ_=>h3) (λ_=>rfl) (λ_=>h4) (λ_=>h5) (λ_=>h6) (λ_ _=>by refine er (h7 ..) rfl) (λ_ _=>by refine er (h8 ..) rfl))
theorem fU(D:Dw c H ad W u):UX (aa (.ref (ad .d)) (.str (S "open"))) f H=f (.ref W.oA) H:=dE (eB D) (by kernel_rfl) (by kernel_rfl)
theorem uf(D:Dw c H ad W u):UX (aa (.ref (ad .d)) (.str (S "names"))) f H=f (.ref (ad .dnames)) H:=dE (eB D) (by kernel_rfl) (by kernel_rfl)
theorem Az(D:Dw c H ad W u):UX (aa (.ref (ad .d)) (.str (S "spaces"))) f H=f (.ref (ad .dspaces)) H:=dE (eB D) (by kernel_rfl) (by kernel_rfl)
theorem AA(D:Dw c H ad W u):UX (aa (.ref (ad .d)) (.str (S "parents"))) f H=f (.ref (ad .dparents)) H:=dE (eB D) (by kernel_rfl) (by kernel_rfl)
theorem Ql(D:Dw c H ad W u):UX (aa (.ref (ad .d)) (.str (S "children"))) f H=f (.ref (ad .dchildren)) H:=dE (eB D) (by kernel_rfl) (by kernel_rfl)
theorem AB(D:Dw c H ad W u):UX (aa (.ref (ad .d)) (.str (S "errors"))) f H=f (.ref (ad .derrors)) H:=dE (eB D) (by kernel_rfl) (by kernel_rfl)
theorem Qm(D:Dw c H ad W u):UX (aa (.ref (ad .d)) (.str (S "form"))) f H=f (.int u.form) H:=dE (eB D) (by kernel_rfl) (by kernel_rfl)
theorem Qn(D:Dw c H ad W u):UX (aa (.ref (ad .d)) (.str (S "is_frameset_ok"))) f H=f (.bool u.ok) H:=dE (eB D) (by kernel_rfl) (by kernel_rfl)
theorem AC(D:Dw c H ad W u):UX (aa (.ref (ad .d)) (.str (S "mode"))) f H=f (.str u.mode) H:=dE (eB D) (by kernel_rfl) (by kernel_rfl)
theorem Qo(D:Dw c H ad W u):UX (aa (.ref (ad .d)) (.str (S "contents"))) f H=f (.ref (ad .dcontents)) H:=dE (eB D) (by kernel_rfl) (by kernel_rfl)
theorem qA(D:Dw c H ad W u):H[ad .dnames]?=some (U u.names):=D.v.get .dnames _ (congrArg (Vc (λu:BS=>U u.names)) D.hu)
theorem AD(D:Dw c H ad W u):H[ad .dspaces]?=some (U u.spaces):=D.v.get .dspaces _ (congrArg (Vc (λu:BS=>U u.spaces)) D.hu)
theorem Qp(D:Dw c H ad W u):H[ad .dattrs]?=some (aS W.uA):=D.v.get .dattrs _ (congrArg (Vc (λ_:BS=>aS W.uA)) D.hu)
theorem ug(D:Dw c H ad W u):H[ad .dparents]?=some (cz u.parents):=D.v.get .dparents _ (congrArg (Vc (λu:BS=>cz u.parents)) D.hu)
theorem Qq(D:Dw c H ad W u):H[ad .dchildren]?=some (aS W.uC):=D.v.get .dchildren _ (congrArg (Vc (λ_:BS=>aS W.uC)) D.hu)
theorem qB(D:Dw c H ad W u):H[ad .derrors]?=some (.list u.errors):=D.v.get .derrors _ (congrArg (Vc (λu:BS=>O.list u.errors)) D.hu)
theorem uh(D:Dw c H ad W u):H[ad .dcontents]?=some (.dict (u.contents.map bS) .none):=D.v.get .dcontents _ (congrArg (Vc (λu:BS=>O.dict (u.contents.map bS) .none)) D.hu)
theorem Qr(D:Dw c H ad W u):H[ad .dkinds]?=some (U u.kinds):=D.v.get .dkinds _ (congrArg (Vc (λu:BS=>U u.kinds)) D.hu)
theorem Qs(D:Dw c H ad W u)(x:Int):∃H',Dw c H' ad (W.dup (setForm u x) W.oA W.uA W.uC) (setForm u x)/\∀f:Unit->K,UX (bi (.ref (ad .d)) (.str (S "form")) (.int x)) f H=f () H':=
 ⟨_,D.of (D.v.put (a:=ad .d) (W':=W.dup (setForm u x) W.oA W.uA W.uC) .d rfl (congrArg (λz=>(Vc (eY ad W.oA) z).isSome) D.hu) rfl (qz D rfl rfl rfl rfl rfl rfl rfl rfl rfl rfl)) D.f.keep D.la D.lc D.rn D.re D.ri D.ra,λf=>oi (eB D) (by kernel_rfl) (by kernel_rfl) (by kernel_rfl) (by simp)⟩
theorem Qt(D:Dw c H ad W u)(x:Bool):∃H',Dw c H' ad (W.dup (gk u x) W.oA W.uA W.uC) (gk u x)/\∀f:Unit->K,UX (bi (.ref (ad .d)) (.str (S "is_frameset_ok")) (.bool x)) f H=f () H':=
 ⟨_,D.of (D.v.put (a:=ad .d) (W':=W.dup (gk u x) W.oA W.uA W.uC) .d rfl (congrArg (λz=>(Vc (eY ad W.oA) z).isSome) D.hu) rfl (qz D rfl rfl rfl rfl rfl rfl rfl rfl rfl rfl)) D.f.keep D.la D.lc D.rn D.re D.ri D.ra,λf=>oi (eB D) (by kernel_rfl) (by kernel_rfl) (by kernel_rfl) (by simp)⟩
theorem uj(D:Dw c H ad W u)(x:Str):∃H',Dw c H' ad (W.dup (bu u x) W.oA W.uA W.uC) (bu u x)/\∀f:Unit->K,UX (bi (.ref (ad .d)) (.str (S "mode")) (.str x)) f H=f () H':=
 ⟨_,D.of (D.v.put (a:=ad .d) (W':=W.dup (bu u x) W.oA W.uA W.uC) .d rfl (congrArg (λz=>(Vc (eY ad W.oA) z).isSome) D.hu) rfl (qz D rfl rfl rfl rfl rfl rfl rfl rfl rfl rfl)) D.f.keep D.la D.lc D.rn D.re D.ri D.ra,λf=>oi (eB D) (by kernel_rfl) (by kernel_rfl) (by kernel_rfl) (by simp)⟩
theorem Qu(D:Dw c H ad W u)(x:Bool):∃H',Dw c H' ad (W.dup (jq u x) W.oA W.uA W.uC) (jq u x)/\∀f:Unit->K,UX (bi (.ref (ad .d)) (.str (S "is_done")) (.bool x)) f H=f () H':=
 ⟨_,D.of (D.v.put (a:=ad .d) (W':=W.dup (jq u x) W.oA W.uA W.uC) .d rfl (congrArg (λz=>(Vc (eY ad W.oA) z).isSome) D.hu) rfl (qz D rfl rfl rfl rfl rfl rfl rfl rfl rfl rfl)) D.f.keep D.la D.lc D.rn D.re D.ri D.ra,λf=>oi (eB D) (by kernel_rfl) (by kernel_rfl) (by kernel_rfl) (by simp)⟩
noncomputable def bv(c:Nat)(ad:Ad)(W:Wd)(u:BS)(v:V)(r:Option (V×Hp)):Prop:=∃H' o a b,Dw c H' ad (W.dup u o a b) u/\r=some (v,H')
theorem gt{v:V}{m:K}{f:V->K}{P:Option (V×Hp)->Prop}(d:bv c ad W u v (m H))(k:∀H' o a b,Dw c H' ad (W.dup u o a b) u->P (f v H')):P (UX m f H):=by
 refine ex4_2 (d) λH' o a b D' e=>?_
 unfold UX;refine er (e ..) ?_;exact k H' o a b D'
theorem ik{v:V}{m:K}(hv:am v=true)(d:bv c ad W u v (m H)):bv c ad W u .none (UX m (λv=>if am v=true then UZ .none else UY) H):=
 gt d λH' o a b D'=>⟨H',o,a,b,D',by refine er (if_pos hv ..) ?_;rfl⟩
theorem im(D:Dw c H ad W u):W.dup u W.oA W.uA W.uC=W:=by
 have:=D.hu
 cases W;simp only at this;subst this;rfl
theorem qC(D:Dw c H ad W u){v:V}:bv c ad W u v (UZ v H):=⟨H,W.oA,W.uA,W.uC,by refine er (im D ..) ?_;exact D,rfl⟩
theorem AE(D:Dw (c+1) H ad W u)(e:V):∃H',Dw c H' ad (W.dup {u with errors:=u.errors++[e]} W.oA W.uA W.uC) {u with errors:=u.errors++[e]}/\∀kk:V->K,b9 (ad .derrors) .append kk [e] H=kk .none H':=by
 refine⟨_,D.of (D.v.put (a:=ad .derrors) (W':=W.dup {u with errors:=u.errors++[e]} W.oA W.uA W.uC) .derrors rfl (congrArg (λz=>(Vc (λu:BS=>O.list u.errors) z).isSome) D.hu) rfl (λx hx=>?_)) D.f.keep D.la D.lc (by have:=D.rn;show u.names.length+c<=1000;exact nA ‹_›) (by have:=D.re;simp;exact oO ‹_›) (by have:=D.ri;show u.items.length+c<=1000;exact nA ‹_›) (λl hl=>by have:=D.ra l hl;exact nA ‹_›),λkk=>?_⟩
 ·exact qy (E:=λx=>x= .derrors) D (by apply gr<;>first|exact λ_=>rfl|exact λh=>absurd rfl h|exact λ_ _=>rfl) x hx
 ·exact dw (qB D) (by have:=D.re;exact nB ‹_›)
theorem kC(D:Dw (c+1) H ad W u){x:Str}:bv c ad W (aN u x) .none (cF (n+1) 809 [.ref (ad .d),.str x] H):=by
 refine ex1_2 (AE D (.tup [.str x,.str u.mode])) λH' D' e=>?_
 simp only[Op]
 simp only[y_,AB D,AC D,bO (qB D) cQ rfl,e,bL]
 exact⟨H',_,_,_,D',rfl⟩
theorem oj(D:Dw (c+1) H ad W u){x:Str}{tok:V}:bv c ad W (dy u x tok) .none (cF (n+1) 816 [.ref (ad .d),.str x,tok] H):=by
 refine ex1_2 (AE D (.tup [.str x,tok,.str u.mode])) λH' D' e=>?_
 simp only[Oq]
 simp only[za,AB D,AC D,bO (qB D) cQ rfl,e,bL]
 exact⟨H',_,_,_,D',rfl⟩
end
theorem uk{it:It}{elt:V->(V->K)->K}{cond:V->(Bool->K)->K}{k:K}(H:Hp)(xs:List V)(e:V->V)(t:V->Bool)
  (hn:∀i L,b8 it i (H++L)=some (xs[i]?,H++L))
  (hc:∀ys G v,v∈xs->∃G',∀kn,cond v kn (H++ .list ys::G)=kn (t v) (H++ .list ys::(G++G')))
  (he:∀ys G v,v∈xs->t v=true->∃G',∀kn,elt v kn (H++ .list ys::G)=kn (e v) (H++ .list ys::(G++G')))
  (hl:xs.length<=100000):∀n i ys G,i<=xs.length->xs.length<n+i->ys.length<=i->∃G',eE (b8 it) elt cond H.length k n i (H++ .list ys::G)=k (H++ .list (ys++((xs.drop i).filter t).map e)::(G++G'))
 |0,i,ys,G,h1,h2,h3=>by omega
 |n+1,i,ys,G,h1,h2,h3=>by
  unfold eE
  refine er (aq (hn i _) ..) ?_
  cases hx:xs[i]? with
  |none=>
   have:xs.length<=i:=List.getElem?_eq_none_iff.mp hx
   refine er (VN this ..) ?_
   exact⟨[],by simp⟩
  |some v=>
   refine ex1_1 (List.getElem?_eq_some_iff.mp hx) λhlt ev=>?_
   have hm:v∈xs:=Vb hx
   refine er (Wc hlt ..) (er (ev ..) ?_)
   refine ex1_1 (hc ys G v hm) λG1 e1=>?_
   dsimp only
   refine er (e1 ..) ?_
   cases ht:t v with
   |false=>
    refine er (if_neg (by decide) ..) (er (List.filter_cons_of_neg (by refine er (ht ..) ?_;decide) ..) ?_)
    obtain⟨G2,e2⟩:=uk H xs e t hn hc he hl n (i+1) ys (G++G1) ‹_› (by omega) (Vx ‹_›)
    exact⟨G1++G2,by refine er (e2 ..) (er (U9 ..) rfl)⟩
   |true=>
    refine er (if_pos rfl ..) (er (List.filter_cons_of_pos ht ..) ?_)
    refine ex1_1 (he ys (G++G1) v hm ht) λG2 e2=>?_
    refine er (e2 ..) ?_
    have hg:(H++O.list ys::(G++G1++G2))[H.length]?=some (.list ys):=by simp
    refine er (aq (cj hg) ..) ?_
    have hf:aV ys.length=true:=by unfold aV;simp;omega
    simp only[hf,if_true]
    have hs:c_ H.length (.list (ys++[e v])) (H++O.list ys::(G++G1++G2))=some ((),H++O.list (ys++[e v])::(G++G1++G2)):=by
     unfold c_
     refine er (Vy _ _ (Vf _) ..) ?_
     simp
    refine er (aq hs ..) ?_
    obtain⟨G3,e3⟩:=uk H xs e t hn hc he hl n (i+1) (ys++[e v]) (G++G1++G2) ‹_› (by omega) (by simp;assumption)
    refine⟨G1++G2++G3,?_⟩
    refine er (e3 ..) ?_
    simp
theorem ul{it:It}{elt:V->(V->K)->K}{cond:V->(Bool->K)->K}{k:V->K}(H:Hp)(xs:List V)(e:V->V)(t:V->Bool)
  (h0:f9 it=true) (h1:jL it H=some (xs.length,H))
  (hn:∀i L,b8 it i (H++L)=some (xs[i]?,H++L))
  (hc:∀ys G v,v∈xs->∃G',∀kn,cond v kn (H++ .list ys::G)=kn (t v) (H++ .list ys::(G++G')))
  (he:∀ys G v,v∈xs->t v=true->∃G',∀kn,elt v kn (H++ .list ys::G)=kn (e v) (H++ .list ys::(G++G')))
  (hl:xs.length<=100000):∃G,cg it elt cond k H=k (.ref H.length) (H++ .list ((xs.filter t).map e)::G):=by
 unfold cg
 simp only[if_pos h0,aq h1]
 refine ex1_1 (uk (k:=k (.ref H.length)) H xs e t hn hc he hl (xs.length+1) 0 [] [] (V5 _) (Vf _) (by simp)) λG e2=>?_
 refine⟨G,?_⟩
 exact e2
theorem qD{j:Nat}{elt:V->(V->K)->K}{cond:V->(Bool->K)->K}{k:V->K}{H:Hp}{xs:List V}(hj:H[j]?=some (.list xs))(e:V->V)(t:V->Bool)
  (hc:∀ys G v,v∈xs->∃G',∀kn,cond v kn (H++ .list ys::G)=kn (t v) (H++ .list ys::(G++G')))
  (he:∀ys G v,v∈xs->t v=true->∃G',∀kn,elt v kn (H++ .list ys::G)=kn (e v) (H++ .list ys::(G++G')))
  (hl:xs.length<=100000):∃G,UX (ce (.ref j)) (λit=>cg it elt cond k) H=k (.ref H.length) (H++ .list ((xs.filter t).map e)::G):=by
 refine er (tG hj ..) ?_
 refine ul H xs e t rfl ?_ (λi L=>?_) hc he hl
 ·exact fJ (f:=λxs=>UZ xs.length) hj
 ·exact tH (by refine er (U4 (List.getElem?_eq_some_iff.mp hj).1 ..) ?_;exact hj)
theorem um{elt:V->(V->K)->K}{cond:V->(Bool->K)->K}{k:V->K}{H:Hp}{xs:List V}(e:V->V)(t:V->Bool)
  (hc:∀ys G v,v∈xs->∃G',∀kn,cond v kn (H++ .list ys::G)=kn (t v) (H++ .list ys::(G++G')))
  (he:∀ys G v,v∈xs->t v=true->∃G',∀kn,elt v kn (H++ .list ys::G)=kn (e v) (H++ .list ys::(G++G')))
  (hl:xs.length<=100000):∃G,cg (.vals xs) elt cond k H=k (.ref H.length) (H++ .list ((xs.filter t).map e)::G):=
 ul H xs e t rfl rfl (λi L=>rfl) hc he hl
section
variable{H:Hp}{f:V->K}{g:Bool->K}{kk:V->K}
theorem uo{j k:Nat}{xs ys:List V}(h:H[j]?=some (.list xs))(hk:H[k]?=some (.list ys)):jF (.ref j) (.ref k) H=i0 (.ref j) (.ref k) xs ys H:=by
 delta jF ed
 exact(aq (cj h)).trans (aq (cj hk))
theorem Qv{a b:V}{x y:PyData}(h1:V.toD H 8 a=some x)(h2:V.toD H 8 b=some y):f6 a b H=some (PyData.eqv x y,H):=by
 unfold f6;refine er (h1 ..) (er (h2 ..) ?_);rfl
theorem AF{j k:Nat}{xs ys:List V}{x y:PyData}(h:H[j]?=some (.list xs))(hk:H[k]?=some (.list ys))(h1:V.toD H 8 (.ref j)=some x)(h2:V.toD H 8 (.ref k)=some y):i1 (.ref j) (.ref k) H=some (!PyData.eqv x y,H):=by
 delta i1 ed
 exact(aq (cj h)).trans ((aq (cj hk)).trans (aq (f:=λr=>UZ (!r)) (Qv h1 h2)))
theorem AG{a b:V}{xs ys:List V}{x y:PyData}(h1:V.toD H 8 a=some x)(h2:V.toD H 8 b=some y):i0 a b xs ys H=some (PyData.eqv x y,H):=by
 unfold i0 f6;refine er (h1 ..) (er (h2 ..) ?_);rfl
theorem Qw{a b:V}{xs ys:List V}(ht:V.toD H 8 a=none)(he:gx H xs ys=true)(hl:aV xs.length=true):i0 a b xs ys H=some (true,H):=by
 unfold i0 f6;refine er (ht ..) ?_;exact if_pos (by refine er (he ..) (er (hl ..) ?_);rfl)
theorem AH{k:Nat}{l:List Str}{x:Str}(h:H[k]?=some (U l)):dA (.str x) (.ref k) H=some (aj l x,H):=by
 have hm:=qk (ic l)
 rw[iR]at hm
 exact OX h hm
theorem ol{k:Nat}{l:List Str}{x:Str}(h:H[k]?=some (U l)):UX (af .In (.str x) (.ref k)) g H=g (aj l x) H:=aq (m:=dA (.str x) (.ref k)) (AH h)
theorem on{k:Nat}{l:List Str}{x:Str}(h:H[k]?=some (U l)):UX (af .NotIn (.str x) (.ref k)) g H=g (!aj l x) H:=
 aq (m:=UX (dA (.str x) (.ref k)) λr=>UZ (!r)) (aq (AH h))
theorem qE{l:Nat}(h:l<100000):jE (some (.int (l:Nat)))=some (some (l:Int)):=by
 show(if 0<=(l:Int)/\(l:Int)<100000 then some (some (l:Int))else Option.none)=_
 refine er (if_pos ⟨by lia,by lia⟩ ..) rfl
theorem uq{k:Nat}{xs:List V}{a b:Option V}{l u:Option Int}(h:H[k]?=some (.list xs))(hx:xs.length<=100000)(ha:jE a=some l)(hb:jE b=some u):UX (bk (.ref k) a b) f H=f (.ref H.length) (H++[.list ((xs.take ((u.map VK).getD xs.length)).drop ((l.map VK).getD 0))]):=by
 unfold bk
 refine er (ha ..) (er (hb ..) ?_)
 refine aq ((fJ (f:=λxs=>if aV xs.length then aF (.list ((xs.take ((u.map VK).getD xs.length)).drop ((l.map VK).getD 0)))else UY) h).trans ?_)
 exact congrFun (if_pos (decide_eq_true hx)) H
theorem qF{k l:Nat}{xs:List V}(h:H[k]?=some (.list xs))(hl:l<100000)(hx:xs.length<=100000):UX (bk (.ref k) (some (.int (l:Nat))) .none) f H=f (.ref H.length) (H++[.list (xs.drop l)]):=by
 refine(uq h hx (qE hl) rfl).trans ?_
 show f _ (H++[.list ((xs.take xs.length).drop l)])=_
 refine er (VX ..) rfl
theorem qG{k l:Nat}{xs:List V}(h:H[k]?=some (.list xs))(hl:l<100000)(hx:xs.length<=100000):UX (bk (.ref k) .none (some (.int (l:Nat)))) f H=f (.ref H.length) (H++[.list (xs.take l)]):=
 (uq (l:=Option.none) h hx rfl (qE hl)).trans rfl
theorem AI{k l r:Nat}{xs:List V}(h:H[k]?=some (.list xs))(hl:l<100000)(hr:r<100000)(hx:xs.length<=100000):UX (bk (.ref k) (some (.int (l:Nat))) (some (.int (r:Nat)))) f H=f (.ref H.length) (H++[.list ((xs.take r).drop l)]):=
 uq h hx (qE hl) (qE hr)
theorem add_lists{j k:Nat}{xs ys:List V}(h:H[j]?=some (.list xs))(h2:H[k]?=some (.list ys))(hl:xs.length+ys.length<=100000):UX (ax .Add (.ref j) (.ref k)) f H=f (.ref H.length) (H++[.list (xs++ys)]):=
 aq ((fJ (f:=λxs=>eR k λys=>if aV (xs.length+ys.length)then aF (.list (xs++ys))else UY) h).trans ((fJ (f:=λys=>if aV (xs.length+ys.length)then aF (.list (xs++ys))else UY) h2).trans (congrFun (if_pos (decide_eq_true hl)) H)))
theorem lX{k:Nat}{xs:List V}{v:V}(h:H[k]?=some (.list xs))(hv:xs.getLast?=some v)(hl:xs.length<=100000):UX (aa (.ref k) (.int (-1))) f H=f v H:=by
 have hne:0<xs.length:=by
  cases xs with
  |nil=>exact ak hv
  |cons a r=>simp
 refine aq (zn (j:=xs.length-1) h (by decide) ?_ (by refine el (VY ..) ?_;exact hv))
 unfold eQ
 refine er (if_neg (by decide) ..) (er (if_pos (by lia) ..) ?_)
 exact congrArg some ((congrArg VK (Int.add_comm ..)).trans (Int.pred_toNat (xs.length:Nat)))
theorem js{s:Str}{l:List Str}{cl:Cl}(hf:aD s=true)(hw:Txt.words s=l):ao (TT cl) (.str s) (S "split") (λk=>k []) kk H=kk (.ref H.length) (H++[U l]):=by
 subst hw
 refine(congrFun (if_pos (e:=(UY:K)) (show decide (S "split"=S "split")=true from decide_eq_true rfl)) H).trans (aq ?_)
 exact congrFun (if_pos hf) H
theorem qH{n:Nat}:∀{l:List Str},(∀x∈l,aD x=true)->(l.map V.str).mapM (V.toD H (n+1))=some (l.map PyData.str)
 |[],_=>rfl
 |a::r,h=>by
  refine er (Vi ..) (er (VS ..) (er (qH λx hx=>h x (U7 _ hx) ..) ?_))
  have:V.toD H (n+1) (.str a)=some (.str a):=by
   unfold V.toD
   simp only[h a (U3 ..),if_true]
  refine er (this ..) ?_;rfl
theorem AJ{n:Nat}:∀{l:List Nat},(l.map λi=>V.int (i:Nat)).mapM (V.toD H (n+1))=some (l.map λ(i:Nat)=>PyData.int (i:Nat))
 |[]=>rfl
 |a::r=>by
  refine er (Vi ..) (er (VS ..) (er (AJ ..) ?_))
  rfl
theorem AK{ds:List PyData}:PyData.eqv (.list ds) (.list [])=ds.isEmpty:=by
 cases ds<;>simp[PyData.eqv,PyData.eqvAll]
theorem oo{j k:Nat}{l:List Str}(h:H[j]?=some (U l))(hk:H[k]?=some (.list []))(hf:∀x∈l,aD x=true):UX (af .NotEq (.ref j) (.ref k)) g H=g (!l.isEmpty) H:=by
 refine aq (m:=i1 (.ref j) (.ref k)) ?_
 have h1:V.toD H 8 (.ref j)=some (.list (l.map PyData.str)):=by
  unfold V.toD
  simp only[h,U]
  refine er (qH hf ..) ?_;rfl
 have h2:V.toD H 8 (.ref k)=some (.list []):=by
  unfold V.toD
  simp only[hk]
  rfl
 refine er (AF h hk h1 h2 ..) (er (AK ..) (er (XO ..) rfl))
theorem Qx{j k:Nat}{l:List Nat}(h:H[j]?=some (ay l))(hk:H[k]?=some (.list [])):UX (af .Eq (.ref j) (.ref k)) g H=g l.isEmpty H:=by
 refine aq (m:=jF (.ref j) (.ref k)) ?_
 have h1:V.toD H 8 (.ref j)=some (.list (l.map λ(i:Nat)=>PyData.int (i:Nat))):=by
  unfold V.toD
  simp only[h,ay]
  refine er (AJ ..) ?_;rfl
 have h2:V.toD H 8 (.ref k)=some (.list []):=by
  unfold V.toD
  simp only[hk]
  rfl
 refine er (uo h hk ..) (er (AG h1 h2 ..) (er (AK ..) (er (XO ..) rfl)))
end
noncomputable def word(u:BS)(i:Nat):Str:=sp u i++S ":"++nm u i
noncomputable def av(u:BS):List Str:=u.items.map (word u)
noncomputable def Vo(u:BS):Prop:=∀i∈u.items,aD (word u i)=true
noncomputable def bY:List Str:=[S "html:dd",S "html:dt",S "html:li",S "html:optgroup",S "html:option",S "html:p",S "html:rb",S "html:rp",S "html:rt",S "html:rtc"]
noncomputable def fV:List Str:=[S "html:td",S "html:th",S "html:caption",S "html:table",S "html:template",S "html:object",S "html:applet",S "html:html",S "svg:desc",S "math:mi",S "math:annotation-xml"]
noncomputable def ur(sort:Str):List Str:=if sort=S "button"then[S "html:button"]else if sort=S "list item"then[S "html:ol",S "html:ul"]else[]
noncomputable def dl(sort w:Str):Bool:=aj fV w||aj (ur sort) w
noncomputable def cM(ws names:List Str):List Nat:=(Vr ws.length).filter λk=>aj names (ws.getD k (S ""))
noncomputable def cN(ws names:List Str)(sort:Str):Int:=match(cM ws names).getLast? with
 | .none=> -1
 |some p=>if((ws.drop (p+1)).filter (dl sort)).isEmpty then(p:Nat)else-1
noncomputable def fe(ws:List Str)(p:Nat):List Str:=(ws.drop (p+1)).filter λw=> !aj bY w
noncomputable def Al(H:Hp)(x:O)(o:Option (V×Hp)):Prop:=∃G k,o=some (.ref k,H++G)/\(H++G)[k]?=some x
section
variable{H:Hp}{ad:Ad}{W:Wd}{cl:Cl}{n c:Nat}{f:V->K}{g:Bool->K}{u:BS}
theorem fW{x:O}{m:K}{f:V->K}{P:Option (V×Hp)->Prop}(d:Al H x (m H))(k:∀G j,(H++G)[j]?=some x->P (f (.ref j) (H++G))):P (UX m f H):=by
 refine ex2_2 (d) λG j e h=>?_
 unfold UX;refine er (e ..) ?_;exact k G j h
theorem us(a b:Str):(a++b).cps.size=a.cps.size+b.cps.size:=Array.size_append ..
theorem kD{a b:Str}(h:a.cps.size+b.cps.size<=1000000):UX (ax .Add (.str a) (.str b)) f H=f (.str (a++b)) H:=by
 refine aq ?_
 show(if a.cps.size+b.cps.size<=1000000 then UZ (.str (a++b))else UY:M V) H=_
 refine er (if_pos h ..) ?_;rfl
theorem AL{s:Str}(h:aD s=true):s.cps.size<=1000:=by
 unfold aD at h
 rw[U2]at h
 exact of_decide_eq_true h.2
theorem AM(D:Dw c H ad W u){i:Nat}(hi:i<u.names.length):UX (aa (.ref (ad .dspaces)) (.int (i:Nat))) f H=f (.str (sp u i)) H:=by
 have hi':i<u.spaces.length:=D.f.ls▸hi
 refine fH (AD D) ?_ ?_
 ·simp[sp,hi']
 ·simp[D.f.ls];have:=D.f.bn;exact nD ‹_›
theorem Qy(D:Dw c H ad W u){i:Nat}(hi:i<u.names.length):UX (aa (.ref (ad .dnames)) (.int (i:Nat))) f H=f (.str (nm u i)) H:=by
 refine fH (qA D) ?_ ?_
 ·simp[nm,hi]
 ·simp;have:=D.f.bn;exact nD ‹_›
theorem jt(D:Dw c H ad W u)(hv:Vo u):Al H (U (av u)) (cF (n+1) 785 [.ref (ad .d)] H):=by
 refine er (Ol ..) ?_
 unfold y6
 refine er (fU D ..) ?_
 refine Xk (qD (k:=λx6=>UZ x6) (elt:=(λv2 k3=>UX (aa (.ref (ad .d)) (.str (S "spaces"))) λx7=>UX (aa x7 v2) λx8=>UX (ax .Add x8 (.str (S ":"))) λx9=>UX (aa (.ref (ad .d)) (.str (S "names"))) λx10=>UX (aa x10 v2) λx11=>UX (ax .Add x9 x11) λx12=>k3 x12)) (cond:=λ_ k5=>k5 true) (fS D)
  (λv=>match v with| .int i=> .str (word u i.toNat)|_=> .none) (λ_=>true) (λys G v _=>⟨[],λkn=>by refine er (Vj ..) rfl⟩) (λys G v hv' _=>?_) (by have:=D.ri;simp;exact nB ‹_›)) λG e=>?_
 ·refine ex1_2 (List.mem_map.mp hv') λi hi zq2=>?_;subst zq2
  refine⟨[],λkn=>?_⟩
  have hin:=D.f.it i hi
  have hs:=AL (hv i hi)
  have e1:(word u i).cps.size=(sp u i).cps.size+(S ":").cps.size+(nm u i).cps.size:=by unfold word;refine er (us ..) (er (us ..) rfl)
  have D':=D.app (O.list ys::G)
  refine er (Az D' ..) (er (AM D' hin ..) (er (kD (by omega) ..) (er (uf D' ..) (er (Qy D' hin ..) (er (kD (by refine er (us ..) ?_;omega) ..) (er (Vj ..) ?_))))))
  rfl
 ·refine⟨_,_,e,?_⟩
  refine er (Vd (Vf _) ..) (er (VZ ..) (er (List.getElem?_cons_zero ..) (er (List.filter_eq_self.mpr (λ_ _=>rfl) ..) (er (Wg ..) ?_))))
  simp only[U,av,Wg]
  congr 2
theorem ut:cF (n+1) 792 [] H=some (.ref H.length,H++[U bY]):=by
 refine er (Om ..) ?_
 unfold y7
 refine er (js (l:=bY) (by kernel_rfl) (by kernel_rfl) ..) ?_
 rfl
theorem Qz{n:Nat}:cI 0 1 n=(Vr n).map λi=> .int (i:Nat):=by
 refine Xe λi=>?_
 refine er (ql ..) (er (Vh ..) ?_)
 by_cases h:i<n
 ·refine er (if_pos h ..) (er (XA h ..) ?_)
  simp
 ·refine er (if_neg h ..) (er (Vp (by simp;exact Nat.not_lt.mp ‹_›) ..) ?_);rfl
theorem uu{m:Nat}(h:m<=100000){k:It->K}:eD [.int (m:Nat)] k H=k (.vals ((Vr m).map λi=> .int (i:Nat))) H:=by
 refine tK ?_
 have h1:(decide (-100000<=(m:Int))&&decide ((m:Int)<=100000))=true:=by simp;exact nZ ‹_›
 show(if(decide (-100000<=(m:Int))&&decide ((m:Int)<=100000))=true then some (cI 0 1 (m:Int).toNat)else Option.none)=_
 refine er (if_pos h1 ..) (er ((show(m:Int).toNat=m from rfl) ..) (er (Qz ..) rfl))
theorem qI{j:Nat}{ps:List (V×V)}{k:V->K}(h:H[j]?=some (.dict [] (some 0)))(hk:iz ps=true)(hl:ps.length<=15):i5 (.ref j) ps k H=k (.ref j) (H.set j (.dict ps (some ps.length))):=by
 unfold i5
 refine(aq (cj h)).trans ?_
 have:(iz ps&&decide (ps.length<=15))=true:=by refine er (hk ..) (er (decide_eq_true hl ..) ?_);rfl
 simp only[this,if_true]
 rfl
theorem AN{j:Nat}{l:List Str}{sort:Str}(h:H[j]?=some (U l))(hl:l.length<=1000)(hs:sort=S ""∨sort=S "button"∨sort=S "list item"):Al H (U (l.filter (dl sort))) (cF (n+1) 797 [.ref j,.str sort] H):=by
 refine er (On ..) ?_
 unfold y8
 have hj:=(List.getElem?_eq_some_iff.mp h).1
 refine er (js (l:=fV.take 10) (by kernel_rfl) (by kernel_rfl) ..) ?_
 refine er (cH ..) ?_
 refine er (add_lists (xs:=(fV.take 10).map .str) (ys:=[.str (S "math:annotation-xml")]) (by simp[U]) (by simp) (by simp[fV]) ..) ?_
 simp only[cH]
 have hd:(H++[U (fV.take 10)]++[O.list [V.str (S "math:annotation-xml")]]++[O.list ((fV.take 10).map V.str++[V.str (S "math:annotation-xml")])]++[O.dict [] (some 0)]++[O.list []]++[O.list [V.str (S "html:button")]]++[O.list [V.str (S "html:ol"),V.str (S "html:ul")]])=H++[U (fV.take 10),O.list [V.str (S "math:annotation-xml")],U fV,O.dict [] (some 0),U [],U [S "html:button"],U [S "html:ol",S "html:ul"]]:=by simp[U,fV]
 simp only[U9,WA,WW,Vs,Wh,V8]at hd⊢
 refine er (hd ..) ?_
 refine er (qI (by refine er (Vd (Va _ _) ..) ?_;simp) (by kernel_rfl) (by simp) ..) ?_
 refine er (Vy _ _ (Va _ _) ..) ?_
 simp only[Vz,List.set_cons_succ,WL]
 generalize hE:[U (fV.take 10),O.list [V.str (S "math:annotation-xml")],U fV,_,U [],U [S "html:button"],U [S "html:ol",S "html:ul"]]=E
 have hk:∀(i:Nat) (o:O) (R:Hp),E[i]?=some o->(H++E++R)[H.length+i]?=some o:=λi o R he=>by
  have:=(List.getElem?_eq_some_iff.mp he).1
  refine er (U9 ..) (er (Vd (Va _ _) ..) (er (Vz ..) (er (U4 this ..) ?_)));exact he
 have g2:=λR=>hk 2 (U fV) R (by refine el (hE ..) ?_;rfl)
 have g3:=λR=>hk 3 _ R (by refine el (hE ..) ?_;rfl)
 have g4:=λR=>hk 4 (U []) R (by refine el (hE ..) ?_;rfl)
 have g5:=λR=>hk 5 (U [S "html:button"]) R (by refine el (hE ..) ?_;rfl)
 have g6:=λR=>hk 6 (U [S "html:ol",S "html:ul"]) R (by refine el (hE ..) ?_;rfl)
 have hjE:(H++E)[j]?=some (U l):=by refine er (U4 hj ..) ?_;exact h
 have hmore:∀R,∃m,(∀f:V->K,UX (aa (.ref (H.length+3)) (.str sort)) f (H++E++R)=f (.ref m) (H++E++R))/\(H++E++R)[m]?=some (U (ur sort)):=λR=>by
  rcases hs with rfl|rfl|rfl
  ·exact⟨_,λf=>dE (g3 R) (by kernel_rfl) (by kernel_rfl),g4 R⟩
  ·exact⟨_,λf=>dE (g3 R) (by kernel_rfl) (by kernel_rfl),g5 R⟩
  ·exact⟨_,λf=>dE (g3 R) (by kernel_rfl) (by kernel_rfl),g6 R⟩
 refine Xk (qD (k:=λx=>UZ x) (elt:=λv11 k12=>k12 v11) (cond:=λv13 k14=>jp (λ(t17:Bool)=>(k14 (t17):K)) λj16=>UX (af .In v13 (.ref (H.length+2))) λt18=>aC t18 (j16 true) (UX (aa (.ref (H.length+3)) (.str sort)) λx19=>UX (af .In v13 x19) λt20=>aC t20 (j16 true) (j16 false))) hjE
  id (λv=>match v with| .str w=>dl sort w|_=>false) (λys G v hv=>⟨[],λkn=>?_⟩) (λys G v _ _=>⟨[],λkn=>by refine er (Vj ..) ?_;rfl⟩) (by simp;exact nD ‹_›)) λG e=>?_
 ·refine ex1_2 (List.mem_map.mp hv) λw hw zq2=>?_;subst zq2
  refine ex1_2 (hmore (O.list ys::G)) λm em gm=>?_
  refine er (Vj ..) ?_
  simp only[jp,ol (g2 _)]
  unfold dl
  cases aj fV w with
  |true=>rfl
  |false=>
   refine er (aK ..) (er (em ..) (er (ol gm ..) (er (Xw ..) ?_)))
   cases aj (ur sort) w<;>rfl
 ·have hL:O.list (((l.map V.str).filter (λv=>match v with| .str w=>dl sort w|_=>false)).map id)=U (l.filter (dl sort)):=by
   refine er (WO ..) (er (WF ..) ?_);rfl
  rw[hL]at e
  refine⟨E++U (l.filter (dl sort))::G,(H++E).length,?_,?_⟩
  ·refine el (U9 ..) ?_;exact e
  ·refine el (U9 ..) (er (Vd (Vf _) ..) (er (VZ ..) ?_));rfl
end
noncomputable def Ai(H:Hp)(v:V)(o:Option (V×Hp)):Prop:=∃G,o=some (v,H++G)
theorem ap{H:Hp}{j:Nat}{x:O}(h:H[j]?=some x)(L:Hp):(H++L)[j]?=some x:=by
 refine er (U4 (List.getElem?_eq_some_iff.mp h).1 ..) ?_;exact h
theorem bl{H:Hp}{x:O}{L:Hp}:(H++x::L)[H.length]?=some x:=by simp
section
variable{H:Hp}{ad:Ad}{W:Wd}{cl:Cl}{n c:Nat}{f:V->K}{g:Bool->K}{u:BS}
theorem AO{v:V}{m:K}{f:V->K}{P:Option (V×Hp)->Prop}(d:Ai H v (m H))(k:∀G,P (f v (H++G))):P (UX m f H):=by
 refine ex1_1 (d) λG e=>?_
 unfold UX;refine er (e ..) ?_;exact k G
theorem oq(hv:Vo u):∀w∈av u,aD w=true:=λw hw=>by
 refine ex1_2 (List.mem_map.mp hw) λi hi zq2=>?_;subst zq2
 exact hv i hi
theorem gu:(av u).length=u.items.length:=by simp[av]
theorem QA{j nk:Nat}{ws names:List Str}(h:H[j]?=some (U ws))(hn:H[nk]?=some (U names))(hl:ws.length<=1000){k:V->K}{cond:V->(Bool->K)->K}
  (hc:∀(i:Nat) (R:Hp) (kn:Bool->K),i<ws.length->cond (.int (i:Nat)) kn (H++R)=kn (aj names (ws.getD i (S ""))) (H++R)):
  ∃G,cg (.vals ((Vr ws.length).map λi=> .int (i:Nat))) (λv k=>k v) cond k H=k (.ref H.length) (H++ay (cM ws names)::G):=by
 refine Xk (um (k:=k) (H:=H) (elt:=λv k=>k v) (cond:=cond) (xs:=(Vr ws.length).map λi=> .int (i:Nat)) id (λv=>match v with| .int i=>aj names (ws.getD i.toNat (S ""))|_=>false) (λys G v hv=>⟨[],λkn=>?_⟩) (λys G v _ _=>⟨[],λkn=>by refine er (Vj ..) ?_;rfl⟩) (by simp;exact nD ‹_›)) λG e=>?_
 ·refine ex1_2 (List.mem_map.mp hv) λi hi zq2=>?_;subst zq2
  refine er (hc i _ kn (List.mem_range.mp hi) ..) (er (Vj ..) ?_);rfl
 ·have hL:O.list ((((Vr ws.length).map λi=>V.int (i:Nat)).filter (λv=>match v with| .int i=>aj names (ws.getD i.toNat (S ""))|_=>false)).map id)=ay (cM ws names):=by
   refine er (WO ..) (er (WF ..) ?_);rfl
  rw[hL]at e
  exact⟨G,e⟩
theorem uv{ws names:List Str}{p:Nat}(h:(cM ws names).getLast?=some p):p<ws.length:=by
 have:=VT h
 unfold cM at this
 exact List.mem_range.mp (List.mem_filter.mp this).1
theorem lY{j i:Nat}{ws:List Str}(h:H[j]?=some (U ws))(hi:i<ws.length)(hl:ws.length<=1000):UX (aa (.ref j) (.int (i:Nat))) f H=f (.str (ws.getD i (S ""))) H:=
 fH h (by simp[hi]) (by simp;exact nD ‹_›)
theorem gO{j:Nat}{ws:List Str}(h:H[j]?=some (U ws))(hl:ws.length<=1000):UX (bw (.ref j)) f H=f (.int (ws.length:Nat)) H:=by
 have:=lG (f:=f) h (by simp;exact nD ‹_›)
 refine er (this ..) (er (Vk ..) rfl)
theorem AP(D:Dw c H ad W u)(hv:Vo u){nk:Nat}{names:List Str}{sort:Str}(hn:H[nk]?=some (U names))(hs:sort=S ""∨sort=S "button"∨sort=S "list item"):Ai H (.int (cN (av u) names sort)) (cF (n+2) 802 [.ref (ad .d),.ref nk,.str sort] H):=by
 refine er (Oo ..) ?_
 unfold y9
 have hl:(av u).length<=1000:=by refine er (gu ..) ?_;have:=D.ri;exact nB ‹_›
 refine fW (P:=Ai H _) (jt (n:=n) D hv) λG1 j1 h1=>?_
 refine er (gO h1 hl ..) (er (uu (nD ‹_›) ..) ?_)
 obtain⟨G2,e2⟩:=QA (k:=_) (cond:=λv5 k6=>UX (aa (.ref j1) v5) λx8=>UX (af .In x8 (.ref nk)) λt9=>k6 (t9)) h1 (ap hn G1) hl λi R kn hi=>by
  refine er (lY (ap h1 R) hi hl ..) (er (ol (ap (ap hn G1) R) ..) rfl)
 refine er (e2 ..) ?_
 dsimp only[jp,cH]
 have g0:(H++G1++ay (cM (av u) names)::G2++[O.list []])[(H++G1++ay (cM (av u) names)::G2).length]?=some (.list []):=by simp
 have g1:(H++G1++ay (cM (av u) names)::G2++[O.list []])[(H++G1).length]?=some (ay (cM (av u) names)):=ap bl _
 have g2:=ap (ap h1 (ay (cM (av u) names)::G2)) [O.list []]
 refine er (Qx g1 g0 ..) ?_
 generalize hK:H++G1++ay (cM (av u) names)::G2++[O.list []]=K' at*
 have hK':∃L,K'=H++L:=⟨G1++(ay (cM (av u) names)::G2++[O.list []]),by refine el (hK ..) ?_;simp⟩
 refine ex1_1 (hK') λL zq1=>?_;subst zq1
 unfold cN
 cases hq:(cM (av u) names).getLast? with
 |none=>
  have:cM (av u) names=[]:=by simpa using hq
  refine er (this ..) ?_
  exact⟨L,rfl⟩
 |some p=>
  have hne:(cM (av u) names).isEmpty=false:=by
   cases hx:cM (av u) names with
   |nil=>rw[hx]at hq;exact ak hq
   |cons a r=>rfl
  have hp:=uv hq
  refine er (hne ..) (er (aK ..) ?_)
  have hlast:((cM (av u) names).map λi=>V.int (i:Nat)).getLast?=some (.int (p:Nat)):=by refine er (WN ..) (er (hq ..) ?_);rfl
  have hli:((cM (av u) names).map λi=>V.int (i:Nat)).length<=100000:=by
   have:(cM (av u) names).length<=(Vr (av u).length).length:=Xn ..
   simp at this⊢;exact nI ‹_› ‹_›
  have il:=λf=>lX (f:=f) g1 hlast hli
  refine er (il ..) (er (dR ..) (er ((show((p:Nat):Int)+1=((p+1:Nat):Int)from rfl) ..) (er (qF g2 (CM ‹_› ‹_›) (by simp;exact nD ‹_›) ..) ?_)))
  have hm:O.list (((av u).map V.str).drop (p+1))=U ((av u).drop (p+1)):=by simp[U]
  refine er (hm ..) ?_
  have g3:(H++L++[U ((av u).drop (p+1))])[(H++L).length]?=some (U ((av u).drop (p+1))):=bl
  refine fW (P:=Ai H _) (AN (n:=n) g3 (by simp;omega) hs) λG4 j4 h4=>?_
  dsimp only[cH]
  generalize hK4:H++L++[U ((av u).drop (p+1))]++G4=K4 at*
  refine er (oo (ap h4 _) bl λx hx=>oq hv x (VI (List.mem_filter.mp hx).1) ..) ?_
  have g5:=ap (ap (ap g1 [U ((av u).drop (p+1))]) G4) [O.list []]
  rw[hK4]at g5
  have ilK:=λf=>lX (f:=f) g5 hlast hli
  cases hz:(((av u).drop (p+1)).filter (dl sort)).isEmpty with
  |true=>
   simp only[U6,aK,U0,if_false,ilK,aH]
   exact⟨L++[U ((av u).drop (p+1))]++G4++[O.list []],by refine el (hK4 ..) ?_;simp⟩
  |false=>
   simp only[U5,aO,if_true,aH]
   exact⟨L++[U ((av u).drop (p+1))]++G4++[O.list []],by refine el (hK4 ..) ?_;simp⟩
theorem QB(D:Dw c H ad W u)(hv:Vo u){p:Nat}(hp:p<1000):Al H (U (fe (av u) p)) (cF (n+2) 821 [.ref (ad .d),.int (p:Nat)] H):=by
 refine er (Os ..) ?_
 unfold zb
 have hl:(av u).length<=1000:=by refine er (gu ..) ?_;have:=D.ri;exact nB ‹_›
 refine fW (P:=Al H _) (jt (n:=n) D hv) λG1 j1 h1=>?_
 refine er (dR ..) (er ((show((p:Nat):Int)+1=((p+1:Nat):Int)from rfl) ..) (er (qF h1 (iY ‹_›) (by simp;exact nD ‹_›) ..) ?_))
 have hm:O.list (((av u).map V.str).drop (p+1))=U ((av u).drop (p+1)):=by simp[U]
 refine er (hm ..) ?_
 refine Xk (qD (k:=λx=>UZ x) (H:=H++G1++[U ((av u).drop (p+1))]) (j:=(H++G1).length) (elt:=λv2 k3=>k3 v2) (cond:=λv4 k5=>UX (cF (n+1) 792 []) λx7=>UX (af .NotIn v4 x7) λt8=>k5 (t8)) bl id (λv=>match v with| .str w=> !aj bY w|_=>false) (λys G v hv=>⟨[U bY],λkn=>?_⟩) (λys G v _ _=>⟨[],λkn=>by refine er (Vj ..) ?_;rfl⟩) (by simp;omega)) λG e=>?_
 ·refine ex1_2 (List.mem_map.mp hv) λw hw zq2=>?_;subst zq2
  refine er (aq ut ..) (er (on bl ..) ?_)
  simp
 ·have hL:O.list ((((((av u).drop (p+1)).map V.str)).filter (λv=>match v with| .str w=> !aj bY w|_=>false)).map id)=U (fe (av u) p):=by
   refine er (WO ..) (er (WF ..) ?_);rfl
  rw[hL]at e
  refine⟨G1++[U ((av u).drop (p+1))]++U (fe (av u) p)::G,(H++G1++[U ((av u).drop (p+1))]).length,?_,?_⟩
  ·refine el (U9 ..) (el (U9 ..) ?_);exact e
  ·refine el (U9 ..) (el (U9 ..) ?_);exact bl
end
section
variable{H:Hp}{ad:Ad}{W:Wd}{cl:Cl}{n c:Nat}{f:V->K}{g:Bool->K}{u:BS}{o:Nat}{a b:List Nat}
theorem QC(B:BV H ad (W.dup u o a b)):UX (aa (.ref (ad .d)) (.str (S "names"))) f H=f (.ref (ad .dnames)) H:=dE (B.get .d _ rfl) (by kernel_rfl) (by kernel_rfl)
theorem AQ(B:BV H ad (W.dup u o a b)):H[ad .dnames]?=some (U u.names):=B.get .dnames _ rfl
theorem QD(B:BV H ad (W.dup u o a b)):UX (aa (.ref (ad .d)) (.str (S "spaces"))) f H=f (.ref (ad .dspaces)) H:=dE (B.get .d _ rfl) (by kernel_rfl) (by kernel_rfl)
theorem AR(B:BV H ad (W.dup u o a b)):H[ad .dspaces]?=some (U u.spaces):=B.get .dspaces _ rfl
theorem uw(B:BV H ad (W.dup u o a b)):UX (aa (.ref (ad .d)) (.str (S "attrs"))) f H=f (.ref (ad .dattrs)) H:=dE (B.get .d _ rfl) (by kernel_rfl) (by kernel_rfl)
theorem ux(B:BV H ad (W.dup u o a b)):H[ad .dattrs]?=some (aS a):=B.get .dattrs _ rfl
theorem QE(B:BV H ad (W.dup u o a b)):UX (aa (.ref (ad .d)) (.str (S "parents"))) f H=f (.ref (ad .dparents)) H:=dE (B.get .d _ rfl) (by kernel_rfl) (by kernel_rfl)
theorem AS(B:BV H ad (W.dup u o a b)):H[ad .dparents]?=some (cz u.parents):=B.get .dparents _ rfl
theorem AT(B:BV H ad (W.dup u o a b)):UX (aa (.ref (ad .d)) (.str (S "children"))) f H=f (.ref (ad .dchildren)) H:=dE (B.get .d _ rfl) (by kernel_rfl) (by kernel_rfl)
theorem uy(B:BV H ad (W.dup u o a b)):H[ad .dchildren]?=some (aS b):=B.get .dchildren _ rfl
theorem QF(B:BV H ad (W.dup u o a b)):UX (aa (.ref (ad .d)) (.str (S "kinds"))) f H=f (.ref (ad .dkinds)) H:=dE (B.get .d _ rfl) (by kernel_rfl) (by kernel_rfl)
theorem AU(B:BV H ad (W.dup u o a b)):H[ad .dkinds]?=some (U u.kinds):=B.get .dkinds _ rfl
noncomputable def aNames(u:BS)(x:Str):BS:={u with names:=u.names++[x]}
theorem QG(B:BV H ad (W.dup u o a b))(hl:u.names.length<=1000)(x:Str):∃H',BV H' ad (W.dup (aNames u x) o a b)/\∀kk:V->K,b9 (ad .dnames) .append kk [.str x] H=kk .none H':=by
 refine⟨_,B.put (a:=ad .dnames) (W':=W.dup (aNames u x) o a b) .dnames rfl rfl rfl (by apply gr<;>first|exact λ_=>rfl|exact λh=>absurd rfl h|exact λ_ _=>rfl),λkk=>?_⟩
 have:=dw (kk:=kk) (v:= .str x) (AQ B) (by simp;exact nD ‹_›)
 simp only[this];simp[U,aNames]
noncomputable def aSpaces(u:BS)(x:Str):BS:={u with spaces:=u.spaces++[x]}
theorem QH(B:BV H ad (W.dup u o a b))(hl:u.spaces.length<=1000)(x:Str):∃H',BV H' ad (W.dup (aSpaces u x) o a b)/\∀kk:V->K,b9 (ad .dspaces) .append kk [.str x] H=kk .none H':=by
 refine⟨_,B.put (a:=ad .dspaces) (W':=W.dup (aSpaces u x) o a b) .dspaces rfl rfl rfl (by apply gr<;>first|exact λ_=>rfl|exact λh=>absurd rfl h|exact λ_ _=>rfl),λkk=>?_⟩
 have:=dw (kk:=kk) (v:= .str x) (AR B) (by simp;exact nD ‹_›)
 simp only[this];simp[U,aSpaces]
noncomputable def aKinds(u:BS)(x:Str):BS:={u with kinds:=u.kinds++[x]}
theorem QI(B:BV H ad (W.dup u o a b))(hl:u.kinds.length<=1000)(x:Str):∃H',BV H' ad (W.dup (aKinds u x) o a b)/\∀kk:V->K,b9 (ad .dkinds) .append kk [.str x] H=kk .none H':=by
 refine⟨_,B.put (a:=ad .dkinds) (W':=W.dup (aKinds u x) o a b) .dkinds rfl rfl rfl (by apply gr<;>first|exact λ_=>rfl|exact λh=>absurd rfl h|exact λ_ _=>rfl),λkk=>?_⟩
 have:=dw (kk:=kk) (v:= .str x) (AU B) (by simp;exact nD ‹_›)
 simp only[this];simp[U,aKinds]
noncomputable def aParents(u:BS)(x:Int):BS:={u with parents:=u.parents++[x]}
theorem QJ(B:BV H ad (W.dup u o a b))(hl:u.parents.length<=1000)(x:Int):∃H',BV H' ad (W.dup (aParents u x) o a b)/\∀kk:V->K,b9 (ad .dparents) .append kk [.int x] H=kk .none H':=by
 refine⟨_,B.put (a:=ad .dparents) (W':=W.dup (aParents u x) o a b) .dparents rfl rfl rfl (by apply gr<;>first|exact λ_=>rfl|exact λh=>absurd rfl h|exact λ_ _=>rfl),λkk=>?_⟩
 have:=dw (kk:=kk) (v:= .int x) (AS B) (by simp;exact nD ‹_›)
 simp only[this];simp[cz,aParents]
noncomputable def aAttrs(u:BS)(x:List (Str×Str)):BS:={u with attrs:=u.attrs++[x]}
noncomputable def aChildren(u:BS)(x:List Nat):BS:={u with children:=u.children++[x]}
theorem QK(B:BV H ad (W.dup u o a b))(hl:a.length<=1000)(ha:a.length=u.attrs.length){as:List (Str×Str)}{k:Nat}(fr:Fr H ad (W.dup u o a b) k (bm as)):
  ∃H',BV H' ad (W.dup (aAttrs u as) o (a++[k]) b)/\∀kk:V->K,b9 (ad .dattrs) .append kk [.ref k] H=kk .none H':=by
 refine⟨_,B.putTake (a:=ad .dattrs) (W':=W.dup (aAttrs u as) o (a++[k]) b) (.dat u.attrs.length) .dattrs rfl k fr.1 fr.2 rfl (by simp) (congrArg (Vc bm) Vt) rfl (qb ha) (λx hx hs=>?_) (λx h1 h2=>?_),λkk=>?_⟩
 ·refine ud (λ_=>rfl) (λi hi hs=>?_) (λ_ _ _=>rfl) x hx hs
  refine qn ha (λe=>hi (by refine er (e ..) rfl)) ?_
  refine ex1_1 (Option.isSome_iff_exists.mp hs) λy hy=>?_
  simpa[aAttrs]using(List.getElem?_eq_some_iff.mp hy).1
 ·refine gr (u:=u) (u':=aAttrs u as) (o:=o) (o':=o) (a:=a) (a':=a++[k]) (b:=b) (b':=b) (E:=λx=>x= .dat u.attrs.length∨x= .dattrs) (λ_=>rfl) (λ_=>rfl) (λ_=>rfl) (λ_=>rfl) (λh=>absurd (.inr rfl) h) (λ_=>rfl) (λ_=>rfl) (λ_=>rfl) (λ_=>rfl) (λ_=>rfl) (λi hi=>qo λ(e:i=_)=>hi (.inl (e▸rfl))) (λ_ _=>rfl) x (λh=>h.elim h1 h2)
 ·have:=dw (kk:=kk) (v:= .ref k) (ux B) (by simp;exact nD ‹_›)
  simp only[this];simp[aS,Wd.dup]
theorem QL(B:BV H ad (W.dup u o a b))(hl:b.length<=1000)(ha:b.length=u.children.length){as:List Nat}{k:Nat}(fr:Fr H ad (W.dup u o a b) k (ay as)):
  ∃H',BV H' ad (W.dup (aChildren u as) o a (b++[k]))/\∀kk:V->K,b9 (ad .dchildren) .append kk [.ref k] H=kk .none H':=by
 refine⟨_,B.putTake (a:=ad .dchildren) (W':=W.dup (aChildren u as) o a (b++[k])) (.dch u.children.length) .dchildren rfl k fr.1 fr.2 rfl (by simp) (congrArg (Vc ay) Vt) rfl (qb ha) (λx hx hs=>?_) (λx h1 h2=>?_),λkk=>?_⟩
 ·refine ud (λ_=>rfl) (λ_ _ _=>rfl) (λi hi hs=>?_) x hx hs
  refine qn ha (λe=>hi (by refine er (e ..) rfl)) ?_
  refine ex1_1 (Option.isSome_iff_exists.mp hs) λy hy=>?_
  simpa[aChildren]using(List.getElem?_eq_some_iff.mp hy).1
 ·refine gr (u:=u) (u':=aChildren u as) (o:=o) (o':=o) (a:=a) (a':=a) (b:=b) (b':=b++[k]) (E:=λx=>x= .dch u.children.length∨x= .dchildren) (λ_=>rfl) (λ_=>rfl) (λ_=>rfl) (λ_=>rfl) (λ_=>rfl) (λ_=>rfl) (λh=>absurd (.inr rfl) h) (λ_=>rfl) (λ_=>rfl) (λ_=>rfl) (λ_ _=>rfl) (λi hi=>qo λ(e:i=_)=>hi (.inl (e▸rfl))) x (λh=>h.elim h1 h2)
 ·have:=dw (kk:=kk) (v:= .ref k) (uy B) (by simp;exact nD ‹_›)
  simp only[this];simp[aS,Wd.dup]
theorem Fr.x{k k2:Nat}{q q2:O}(h:Fr H ad W k q)(hn:k2≠k):Fr H ad (W.x k2 q2) k q:=by
 refine⟨h.1,λx hx=>?_⟩
 by_cases e:x= .ex W.ex.length
 ·subst e;exact λz=>hn ((qa Vt).symm.trans z)
 ·have:=ke (k:=k2) (o:=q2) (ad:=ad) (W:=W) e
  refine er (this.2 ..) ?_
  exact h.2 x (by refine el (this.1 ..) ?_;exact hx)
theorem AV(B:BV H ad (W.dup u o a b)){p:Nat}(h:p<u.children.length)(l:List Nat):BV (H.set (b.getD p 0) (ay l)) ad (W.dup (setCh u p l) o a b):=by
 refine B.put (a:=b.getD p 0) (W':=W.dup (setCh u p l) o a b) (.dch p) rfl (congrArg (λz=>(Vc ay z).isSome) (h_ (d:=[]) h)) (congrArg (Vc ay) (Vl h)) (λr hr=>?_)
 exact gr (u:=u) (u':=setCh u p l) (o:=o) (o':=o) (a:=a) (a':=a) (b:=b) (b':=b) (E:=λx=>x= .dch p) (λ_=>rfl) (λ_=>rfl) (λ_=>rfl) (λ_=>rfl) (λ_=>rfl) (λ_=>rfl) (λ_=>rfl) (λ_=>rfl) (λ_=>rfl) (λ_=>rfl) (λ_ _=>rfl) (λi hi=>Vn λ(e:p=i)=>hi (e▸rfl)) r hr
theorem QM(B:BV H ad (W.dup u o a b)){p:Nat}(h:p<u.attrs.length)(l:List (Str×Str)):BV (H.set (a.getD p 0) (bm l)) ad (W.dup (setAt u p l) o a b):=by
 refine B.put (a:=a.getD p 0) (W':=W.dup (setAt u p l) o a b) (.dat p) rfl (congrArg (λz=>(Vc bm z).isSome) (h_ (d:=[]) h)) (congrArg (Vc bm) (Vl h)) (λr hr=>?_)
 exact gr (u:=u) (u':=setAt u p l) (o:=o) (o':=o) (a:=a) (a':=a) (b:=b) (b':=b) (E:=λx=>x= .dat p) (λ_=>rfl) (λ_=>rfl) (λ_=>rfl) (λ_=>rfl) (λ_=>rfl) (λ_=>rfl) (λ_=>rfl) (λ_=>rfl) (λ_=>rfl) (λ_=>rfl) (λi hi=>Vn λ(e:p=i)=>hi (e▸rfl)) (λ_ _=>rfl) r hr
theorem AW(B:BV H ad (W.dup u o a b)){p:Nat}(h:p<u.children.length):H[b.getD p 0]?=some (ay (aJ u p)):=B.get (.dch p) _ (congrArg (Vc ay) (h_ h))
theorem QN(B:BV H ad (W.dup u o a b)){p:Nat}(h:p<u.attrs.length):H[a.getD p 0]?=some (bm (bN u p)):=B.get (.dat p) _ (congrArg (Vc bm) (h_ h))
theorem AX(B:BV H ad (W.dup u o a b)){i:Nat}(hi:i<b.length)(hb:b.length<=1000):UX (aa (.ref (ad .dchildren)) (.int (i:Nat))) f H=f (.ref (b.getD i 0)) H:=
 fH (uy B) (by simp[hi]) (by simp;exact nD ‹_›)
theorem AY(B:BV H ad (W.dup u o a b)){i:Nat}(hi:i<a.length)(hb:a.length<=1000):UX (aa (.ref (ad .dattrs)) (.int (i:Nat))) f H=f (.ref (a.getD i 0)) H:=
 fH (ux B) (by simp[hi]) (by simp;exact nD ‹_›)
theorem QO(D:Dw c H ad W u){i:Nat}{kk:V->K}:jN (ad .dcontents) kk [.int (i:Nat),.int (i:Nat)] H=kk (.int (aZ u i:Nat)) H:=by
 refine tn (uh D) ?_
 refine(tp n8).trans ?_
 refine er (kz ..) ?_
 delta aZ dH
 cases u.contents.find? λe=>decide (e.1=i)<;>rfl
theorem QP{next:Nat->M (Option V)}{body:V->Z->(Z->K)->(Z->K)->K}{kk:Z->K}{m i:Nat}{vars:Z}{v:V}(h:next i H=some (some v,H)):dr next body kk (m+1) i vars H=body v vars (λvars'=>dr next body kk m (i+1) vars') kk H:=by
 rw[dr,aq h]
theorem QQ{next:Nat->M (Option V)}{body:V->Z->(Z->K)->(Z->K)->K}{kk:Z->K}{m i:Nat}{vars:Z}(h:next i H=some (Option.none,H)):dr next body kk (m+1) i vars H=kk vars H:=by
 rw[dr,aq h]
noncomputable def bQ(u:BS)(i:Nat)(name:Str)(as:List (Str×Str)):BS:=jj (addN u (S "element") (S "html") name as (S "")) (aZ u i) u.names.length
theorem QR(F:Wf u)(hn:u.names.length<1000){i:Nat}(hi:i<u.names.length){name:Str}{as:List (Str×Str)}:Wf (bQ u i name as):=by
 have F1:=F.addN hn (kind:=S "element") (space:=S "html") (name:=name) (as:=as) (text:=S "")
 have hu:=jk F hi
 have h1:aJ (addN u (S "element") (S "html") name as (S "")) (aZ u i)=aJ u (aZ u i):=by
  have h:=F.lc
  unfold aJ
  simp[addN,V0,h,hu]
 have h2:=lT F hu
 exact(F1.setCh (by refine er (h1 ..) ?_;simp[qr];assumption)).setPar (.inr ⟨by exact VP _,by exact nZ ‹_›⟩)
end
section
variable{H:Hp}{ad:Ad}{W:Wd}{cl:Cl}{n c:Nat}{f:V->K}{g:Bool->K}{u:BS}{o:Nat}{a b:List Nat}
theorem AZ(D:Dw c H ad W u){i:Nat}(h:u.items.getLast?=some i):UX (aa (.ref W.oA) (.int (-1))) f H=f (.int (i:Nat)) H:=
 lX (fS D) (by rw[WN,h];rfl) (by have:=D.ri;simp;exact nB ‹_›)
theorem QS{u:BS}(F:Wf u){i:Nat}{name:Str}{as:List (Str×Str)}(hu:aZ u i<u.names.length):
  setCh (aKinds (aChildren (aParents (aAttrs (aSpaces (aNames u name) (S "html")) as) (aZ u i:Nat)) []) (S "element")) (aZ u i) (aJ u (aZ u i)++[u.names.length])={bQ u i name as with texts:=u.texts}:=by
 have h1:aJ (addN u (S "element") (S "html") name as (S "")) (aZ u i)=aJ u (aZ u i):=by
  have h:=F.lc
  unfold aJ
  simp[addN,V0,h,hu]
 have h2:(u.parents++[-1]).set u.names.length (aZ u i:Nat)=u.parents++[((aZ u i:Nat):Int)]:=by
  rw[←F.lp,Vy _ _ (Vf _)];simp
 unfold bQ jj
 rw[h1]
 simp only[setPar,setCh,addN,aKinds,aChildren,aParents,aAttrs,aSpaces,aNames,h2]
theorem BV.texts(B:BV H ad (W.dup u o a b)){u':BS}(h:u={u' with texts:=u.texts}):BV H ad (W.dup u' o a b):=by
 have e:∀r,cont ad (W.dup u' o a b) r=cont ad (W.dup u o a b) r:=λr=>by rw[h];cases r<;>rfl
 exact⟨λr q hq=>B.get r q (by rw[←e];exact hq),λr r' hr hr' he=>B.inj r r' (by rw[←e];exact hr) (by rw[←e];exact hr') he⟩
def A8(cl:Cl)(d up node:V):K:=UX (aa d (.str (S "kinds"))) λx17=>ao (TT cl) x17 (S "append") (λk18=>k18 [.str (S "element")]) λx16=>if am x16=true then(UX (aa d (.str (S "children"))) λx20=>UX (aa x20 up) λx21=>ao (TT cl) x21 (S "append") (λk22=>k22 [node]) λx19=>if am x19=true then(UZ node)else UY)else UY
noncomputable def QT(nm at_ up ch:V):List V:=[(.tup [.str (S "names"),nm]),(.tup [.str (S "spaces"),.str (S "html")]),(.tup [.str (S "attrs"),at_]),(.tup [.str (S "parents"),up]),(.tup [.str (S "children"),ch])]
def lZ(cl:Cl)(xs:List V)(d nm at_ up node:V)(m i:Nat)(key told:Option V):K:=dr (b8 (.vals xs)) (ca (TT cl) 23 fA.scope (ba fA.body [3])) (λvars=>bB (TT cl) 24 fA.scope fA.body 4 vars bH bI) m i (no (some d) (some nm) (some at_) (some up) (some node) key told)
def A9(cl:Cl)(d nm at_ up node:V):K:=UX (dK at_) λx24=>UX (aF (.list [])) λx25=>lZ cl (QT nm x24 up x25) d nm at_ up node 6 0 .none .none
theorem QU(n:Nat)(d nm at_:V):cF (n+1) 828 [d,nm,at_]=UX (aa d (.str (S "open"))) λx1=>UX (aa x1 (.int (-1))) λx2=>UX (aa d (.str (S "contents"))) λx4=>ao (TT (cF n)) x4 (S "get") (λk5=>k5 [x2,x2]) λx3=>UX (aa d (.str (S "names"))) λx7=>UX (bw x7) λx6=>A9 (cF n) d nm at_ x3 x6:=Ou n d nm at_
theorem ot{xs:List V}{d nm at_ up node v:V}{m i r:Nat}{key told:Option V}{k:Str}{zs:List V}{H':Hp}(hx:xs[i]?=some (.tup [.str k,v]))(h1:∀f:V->K,UX (aa d (.str k)) f H=f (.ref r) H)(h2:H[r]?=some (.list zs))(h3:∀kk:V->K,b9 r .append kk [v] H=kk .none H'):
  lZ cl xs d nm at_ up node (m+1) i key told H=lZ cl xs d nm at_ up node m (i+1) (some (.str k)) (some v) H':=by
 delta lZ
 rw[QP (congrArg (λo=>some (o,H)) hx),Ov]
 simp only[dZ,cO,eT,h1,bO h2 cQ rfl,h3,bL]
theorem QV{xs:List V}{d nm at_ up node:V}{m i:Nat}{key told:Option V}(hx:xs[i]?=none):lZ cl xs d nm at_ up node (m+1) i key told H=A8 cl d up node H:=by
 delta lZ
 rw[QQ (congrArg (λo=>some (o,H)) hx),Ow]
 rfl
theorem A_(D:Dw (c+1) H ad W u){i:Nat}(hi:u.items.getLast?=some i){name:Str}{as:List (Str×Str)}(hl:as.length+c<=1000):
  ∃H' a b,Dw c H' ad (W.dup (bQ u i name as) W.oA a b) (bQ u i name as)/\cF (n+1) 828 [.ref (ad .d),.str name,.tup (as.map bz)] H=some (.int (u.names.length:Nat),H'):=by
 have hin:=D.f.it i (VT hi)
 have hup:=jk D.f hin
 have hb:=D.rn
 have F:=D.f
 have hlen:∀f:V->K,UX (bw (.ref (ad .dnames))) f H=f (.int (u.names.length:Nat)) H:=λf=>gO (qA D) (nB ‹_›)
 rw[QU,fU D,AZ D hi,Qo D,tg (uh D) rfl,QO D,uf D,hlen]
 delta A9
 rw[tN (xs:=as.map bz) (by rw[Vk];exact nB ‹_›),cH,show O.list (as.map bz)=bm as from rfl,show O.list []=ay []from rfl]
 generalize hk1:H.length=k1
 generalize hk2:(H++[bm as]).length=k2
 have hne:k2≠k1:=by rw[←hk1,←hk2];simp
 have fr1:Fr (H++[bm as]++[ay []]) ad (W.dup u W.oA W.uA W.uC) k1 (bm as):=by
  rw[im D,←hk1];exact(D.v.fresh (bm as)).2.app _
 have fr2:Fr (H++[bm as]++[ay []]) ad (W.dup u W.oA W.uA W.uC) k2 (ay []):=by
  rw[im D,←hk2];exact((D.v.app [bm as]).fresh (ay [])).2
 have B0:BV (H++[bm as]++[ay []]) ad (W.dup u W.oA W.uA W.uC):=by rw[im D];exact(D.v.app _).app _
 generalize H++[bm as]++[ay []]=H0 at*
 have B1:BV H0 ad (((W.x k2 (ay [])).x k1 (bm as)).dup u W.oA W.uA W.uC):=(B0.xpush fr2).xpush (fr1.x hne)
 refine ex1_2 (QG B1 (nB ‹_›) name) λH1 C1 e1=>?_
 refine ex1_2 (QH C1 (by show u.spaces.length<=1000;rw[F.ls];exact nB ‹_›) (S "html")) λH2 C2 e2=>?_
 have X2:BV H2 ad (((W.x k2 (ay [])).dup (aSpaces (aNames u name) (S "html")) W.oA W.uA W.uC).x k1 (bm as)):=C2
 refine ai (X2.xpop) λP2 fr1'=>?_
 refine ex1_2 (QK P2 (by rw[D.la];exact nB ‹_›) (by show W.uA.length=u.attrs.length;rw[D.la,F.la]) fr1') λH3 C3 e3=>?_
 refine ex1_2 (QJ C3 (by show u.parents.length<=1000;rw[F.lp];exact nB ‹_›) (aZ u i:Nat)) λH4 C4 e4=>?_
 have X4:BV H4 ad ((W.dup (aParents (aAttrs (aSpaces (aNames u name) (S "html")) as) (aZ u i:Nat)) W.oA (W.uA++[k1]) W.uC).x k2 (ay [])):=C4
 refine ai (X4.xpop) λP4 fr2'=>?_
 refine ex1_2 (QL P4 (by rw[D.lc];exact nB ‹_›) (by show W.uC.length=u.children.length;rw[D.lc,F.lc]) fr2') λH5 C5 e5=>?_
 refine ex1_2 (QI C5 (by show u.kinds.length<=1000;rw[F.lk];exact nB ‹_›) (S "element")) λH6 C6 e6=>?_
 have hc6:aZ u i<(aKinds (aChildren (aParents (aAttrs (aSpaces (aNames u name) (S "html")) as) (aZ u i:Nat)) []) (S "element")).children.length:=by
  show aZ u i<(u.children++[[]]).length
  simp[F.lc];exact nV ‹_›
 have hch:aJ (aKinds (aChildren (aParents (aAttrs (aSpaces (aNames u name) (S "html")) as) (aZ u i:Nat)) []) (S "element")) (aZ u i)=aJ u (aZ u i):=by
  have h:=F.lc
  unfold aJ
  simp[aKinds,aChildren,aParents,aAttrs,aSpaces,aNames,V0,h,hup]
 have g6:=AW C6 hc6
 rw[hch]at g6
 have hcl:=lT F hup
 have C7:=AV C6 hc6 (aJ u (aZ u i)++[u.names.length])
 have e7:=λkk=>dw (kk:=kk) (v:= .int (u.names.length:Nat)) g6 (by simp;exact nH ‹_› ‹_›)
 rw[ot (k:=S "names") rfl (λf=>QC B1) (AQ B1) e1,ot (k:=S "spaces") rfl (λf=>QD C1) (AR C1) e2,ot (k:=S "attrs") rfl (λf=>uw P2) (ux P2) e3,ot (k:=S "parents") rfl (λf=>QE C3) (AS C3) e4,ot (k:=S "children") rfl (λf=>AT P4) (uy P4) e5,QV rfl]
 have xc:=λf=>AX (f:=f) C6 (i:=aZ u i) (by simp[D.lc];exact nV ‹_›) (by simp[D.lc];exact CL ‹_›)
 delta A8
 rw[QF C5,bO (AU C5) cQ rfl,e6,bL,AT C6,xc,bO g6 cQ rfl,e7,bL]
 have hset:O.list ((aJ u (aZ u i)).map (λi=>V.int (i:Nat))++[V.int (u.names.length:Nat)])=ay (aJ u (aZ u i)++[u.names.length]):=by simp[ay]
 rw[hset]
 rw[QS F hup]at C7
 have C8:BV _ ad (W.dup (bQ u i name as) W.oA (W.uA++[k1]) (W.uC++[k2])):=BV.texts C7 rfl
 refine⟨_,_,_,⟨C8,rfl,QR F (eC ‹_›) hin,?_,?_,?_,?_,?_,?_⟩,rfl⟩
 ·show(W.uA++[k1]).length=(u.names++[name]).length
  simp[D.la]
 ·show(W.uC++[k2]).length=(u.names++[name]).length
  simp[D.lc]
 ·show(u.names++[name]).length+c<=1000
  simp;exact oO ‹_›
 ·show u.errors.length+c<=1000
  have:=D.re;exact nA ‹_›
 ·show u.items.length+c<=1000
  have:=D.ri;exact nA ‹_›
 ·exact zO D.ra hl
theorem QW(D:Dw (c+1) H ad W u){i:Nat}(hi:u.items.getLast?=some i){name:Str}{as:List (Str×Str)}(hl:as.length+c<=1000):
  bv c ad W (bQ u i name as) (.int (u.names.length:Nat)) (cF (n+1) 828 [.ref (ad .d),.str name,.tup (as.map bz)] H):=by
 obtain⟨H',a,b,D',e⟩:=A_ (n:=n) D hi hl
 exact⟨H',_,a,b,D',e⟩
end
noncomputable def bU:List Str:=bY++[S "html:tbody",S "html:td",S "html:tfoot",S "html:th",S "html:thead",S "html:tr",S "html:body",S "html:html"]
noncomputable def ff(u:BS):BS:=bG (!((av u).filter λw=> !aj bU w).isEmpty) u (S "open-elements")
noncomputable def l0(u:BS)(modes:List Str):BS:=if modes≠[]then dy u (S "in template") (.tup [.str (S "eof")])else jq (aQ (ff u) []) true
noncomputable def l4(u:BS)(name:Str):BS:=if name=S "template"then dy u (S "in head") (bT (S "end") name [])else
 if cN (av u) [S "html:body"] (S "")= -1 then aN u (S "unexpected-end-tag")else
 if name=S "html"then dy (bu (ff u) (S "after body")) (if gn u then S "foreign content"else S "after body") (bT (S "end") name [])else bu (ff u) (S "after body")
section
variable{H:Hp}{ad:Ad}{W:Wd}{cl:Cl}{n c:Nat}{f:V->K}{g:Bool->K}{u:BS}{o:Nat}{a b:List Nat}
theorem Ba{P:Option (V×Hp)->Prop}{j:Nat}{elt:V->(V->K)->K}{cond:V->(Bool->K)->K}{k:V->K}{H:Hp}{xs:List V}(hj:H[j]?=some (.list xs))(e:V->V)(t:V->Bool)
  (hc:∀ys G v,v∈xs->∃G',∀kn,cond v kn (H++ .list ys::G)=kn (t v) (H++ .list ys::(G++G')))
  (he:∀ys G v,v∈xs->t v=true->∃G',∀kn,elt v kn (H++ .list ys::G)=kn (e v) (H++ .list ys::(G++G')))
  (hl:xs.length<=100000) (fin:∀G,P (k (.ref H.length) (H++ .list ((xs.filter t).map e)::G))):P (UX (ce (.ref j)) (λit=>cg it elt cond k) H):=by
 refine ex1_1 (qD (k:=k) hj e t hc he hl) λG h=>?_
 refine er (h ..) ?_;exact fin G
theorem ou(D:Dw c H ad W u){k:Nat}{xs:List Nat}(fr:Fr H ad W k (ay xs))(hxs:∀i∈xs,i<u.names.length)(hl:xs.length+c<=1000):
  ∃H',Dw c H' ad (W.dup (aQ u xs) k W.uA W.uC) (aQ u xs)/\∀f:Unit->K,UX (bi (.ref (ad .d)) (.str (S "open")) (.ref k)) f H=f () H':=by
 refine⟨H.set (ad .d) (eY ad k (aQ u xs)),D.of ?_ (D.f.si hxs (nB ‹_›)) D.la D.lc D.rn D.re hl D.ra,λf=>oi (eB D) (by kernel_rfl) (by kernel_rfl) (by kernel_rfl) (by simp)⟩
 have hu:=D.hu
 refine D.v.putTake (a:=ad .d) (W':=W.dup (aQ u xs) k W.uA W.uC) .dopen .d rfl k fr.1 fr.2 (congrArg (λz=>(Vc (eY ad W.oA) z).isSome) hu) (by simp) rfl rfl rfl (λx hx _=>?_) (λx h1 h2=>?_)
 ·exact(ud (r:= .dopen) (λh=>absurd rfl h) (λ_ _ _=>rfl) (λ_ _ _=>rfl) x hx ‹_›).trans (congrArg (λw=>bj ad w x) (Ay D))
 ·exact qy (u':=aQ u xs) (o':=k) (E:=λx=>x= .dopen∨x= .d) D (gr (λh=>absurd (.inr rfl) h) (λh=>absurd (.inl rfl) h) (λ_=>rfl) (λ_=>rfl) (λ_=>rfl) (λ_=>rfl) (λ_=>rfl) (λ_=>rfl) (λ_=>rfl) (λ_=>rfl) (λ_ _=>rfl) (λ_ _=>rfl)) x (λh=>h.elim h1 h2)
theorem Bb(D:Dw (c+1) H ad W u)(hv:Vo u):bv c ad W (ff u) .none (cF (n+2) 843 [.ref (ad .d)] H):=by
 refine er (OB ..) ?_
 unfold zc ff bG
 have hl:(av u).length<=1000:=by refine er (gu ..) ?_;have:=D.ri;exact nB ‹_›
 refine er (aq ut ..) (er (js (l:=bU.drop 10) (by kernel_rfl) (by kernel_rfl) ..) ?_)
 refine er (add_lists (xs:=bY.map .str) (ys:=(bU.drop 10).map .str) (by simp[U]) (by simp[U]) (by simp[bY,bU]) ..) ?_
 refine er ((show O.list (bY.map V.str++(bU.drop 10).map V.str)=U bU by simp[U,bU,bY]) ..) ?_
 have gm:(H++[U bY]++[U (bU.drop 10)]++[U bU])[(H++[U bY]++[U (bU.drop 10)]).length]?=some (U bU):=bl
 have hE:H++[U bY]++[U (bU.drop 10)]++[U bU]=H++[U bY,U (bU.drop 10),U bU]:=by simp
 generalize (H++[U bY]++[U (bU.drop 10)]).length=jm at*
 rw[hE]at gm⊢
 have D1:=D.app [U bY,U (bU.drop 10),U bU]
 generalize H++[U bY,U (bU.drop 10),U bU]=K1 at*
 refine fW (P:=bv c ad W _ .none) (jt (n:=n) D1 hv) λG1 j1 h1=>?_
 refine Ba (P:=bv c ad W _ .none) h1 id (λv=>match v with| .str w=> !aj bU w|_=>false) (λys G v hv=>⟨[],λkn=>?_⟩) (λys G v _ _=>⟨[],λkn=>by refine er (Vj ..) ?_;rfl⟩) (by simp;exact nD ‹_›) λG=>?_
 ·refine ex1_2 (List.mem_map.mp hv) λw hw zq2=>?_;subst zq2
  refine er (on (ap (ap gm G1) _) ..) (er (Vj ..) rfl)
 ·have hL:O.list ((((av u).map V.str).filter (λv=>match v with| .str w=> !aj bU w|_=>false)).map id)=U ((av u).filter λw=> !aj bU w):=by
   refine er (WO ..) (er (WF ..) ?_);rfl
  refine er (hL ..) ?_
  dsimp only[cH]
  have g0:(K1++G1++U ((av u).filter λw=> !aj bU w)::G++[O.list []])[(K1++G1).length]?=some (U ((av u).filter λw=> !aj bU w)):=ap bl _
  refine er (oo g0 bl λx hx=>oq hv x (List.mem_filter.mp hx).1 ..) ?_
  have D2:=((D1.app G1).app (U ((av u).filter λw=> !aj bU w)::G)).app [O.list []]
  cases hq:((av u).filter λw=> !aj bU w).isEmpty with
  |true=>
   simp only[U6,U0,if_false]
   exact qC (D2.le (Va _ _))
  |false=>
   simp only[U5,if_true]
   exact ik rfl (kC (n:=n) D2)
theorem Bc{t:Bool}{w:Str}:(bG t u w).names=u.names/\(bG t u w).items=u.items/\(bG t u w).spaces=u.spaces/\(bG t u w).mode=u.mode:=by
 unfold bG
 split<;>exact⟨rfl,rfl,rfl,rfl⟩
theorem bv.dup{u u':BS}{v:V}{r:Option (V×Hp)}(d:bv c ad (W.dup u o a b) u' v r):bv c ad W u' v r:=d
theorem QX(B:BV H ad W)(hf:∀x∈W.modes,aD x=true){k:Nat}(hk:H[k]?=some (.list [])):UX (af .NotEq (.ref (ad .modes)) (.ref k)) g H=g (!W.modes.isEmpty) H:=oo (tr B) hk hf
theorem QY(D:Dw (c+1) H ad W u)(hv:Vo u)(hf:∀x∈W.modes,aD x=true):bv c ad W (l0 u W.modes) .none (cF (n+3) 869 [.ref (ad .d),.ref (ad .modes)] H):=by
 refine er (OH ..) ?_
 unfold zg l0
 have D1:=D.app [O.list []]
 dsimp only[cH]
 refine er (QX D1.v hf bl ..) ?_
 cases hm:W.modes with
 |nil=>
  simp only[List.isEmpty_nil,U6,U0,if_false,ne_eq,not_true]
  refine gt (Bb (n:=n) D1 hv) λH1 o a b D2=>?_
  have D3:=D2.app [ay []]
  refine ex1_2 (ou D3 (D2.v.fresh (ay [])).2 (xs:=[]) (by simp) (by have:=D2.rn;simp;omega)) λH4 D4 e4=>?_
  refine ex1_2 (Qu D4 true) λH5 D5 e5=>?_
  dsimp only[bL,cH]
  refine er ((show O.list []=ay []from rfl) ..) (er (e4 ..) (er (e5 ..) ?_))
  exact⟨H5,_,_,_,D5,rfl⟩
 |cons x r=>
  dsimp only[List.isEmpty_cons,U5,if_true,ne_eq,reduceCtorEq,not_false_eq_true]
  exact ik rfl (oj (n:=n+1) D1)
theorem QZ(D:Dw (c+2) H ad W u)(hv:Vo u)(hne:u.items≠[]){name:Str}:bv c ad W (l4 u name) .none (cF (n+3) 850 [.ref (ad .d),bT (S "end") name []] H):=by
 refine er (OC ..) ?_
 unfold zd l4
 have t1:∀H f,UX (aa (bT (S "end") name []) (.int 1)) f H=f (.str name) H:=λH f=>kB
 simp only[t1,aM]
 by_cases h1:name=S "template"
 ·simp only[h1,decide_true,if_true]
  exact ik rfl (oj (n:=n+1) (c:=c) (D.le (by omega)))
 ·simp only[h1,decide_false,U0,if_false,cH]
  have D1:=D.app [U [S "html:body"]]
  refine er ((show O.list [V.str (S "html:body")]=U [S "html:body"]from rfl) ..) ?_
  refine AO (P:=bv c ad W _ .none) (AP (n:=n) D1 hv bl (.inl rfl)) λG=>?_
  have D2:=D1.app G
  refine er (aT ..) ?_
  by_cases h2:cN (av u) [S "html:body"] (S "")= -1
  ·simp only[h2,decide_true,if_true]
   exact ik rfl (kC (n:=n+1) (c:=c) (D2.le (by omega)))
  ·simp only[h2,decide_false,U0,if_false]
   refine gt (Bb (n:=n) D2 hv) λH3 o a b D3=>?_
   refine ex1_2 (uj D3 (S "after body")) λH4 D4 e4=>?_
   simp only[bL,e4,t1,aM]
   by_cases h3:name=S "html"
   ·simp only[h3,decide_true,if_true]
    refine ex2_1 (kr hne) λxs i hx=>?_
    have hl:u.items.getLast?=some i:=by refine er (hx ..) ?_;simp
    have hl4:(bu (ff u) (S "after body")).items.getLast?=some i:=by
     show(ff u).items.getLast?=_
     unfold ff;refine er (Bc.2.1 ..) ?_;exact hl
    have hi4:i<(bu (ff u) (S "after body")).names.length:=D4.f.it i (VT hl4)
    have hsp:sp (bu (ff u) (S "after body")) i=sp u i:=by
     unfold sp
     show(ff u).spaces.getD i _=_
     unfold ff;refine er (Bc.2.2.1 ..) rfl
    have hfg:gn u= !decide (sp u i=S "html"):=by unfold gn;refine er (hl ..) rfl
    simp only[Az D4,fU D4,AZ D4 hl4,AM D4 hi4,gg,jp,aP,hsp,hfg]
    cases hq:(!decide (sp u i=S "html"))with
    |true=>
     simp only[if_true]
     exact(ik rfl (oj (n:=n+1) (c:=c) (D4.le (Vf _)))).dup
    |false=>
     simp only[U0,if_false]
     exact(ik rfl (oj (n:=n+1) (c:=c) (D4.le (Vf _)))).dup
   ·simp only[h3,decide_false,U0,if_false]
    exact(qC (D4.le (Va _ _))).dup
end
noncomputable def cb(ws:List Str):List Nat:=(Vr ws.length).filter λk=> !aj bY (ws.getD k (S ""))
noncomputable def ju(u:BS):Option Nat:=if u.form= -1 then Option.none else u.items.findIdx? λi=>decide (i=u.form.toNat)
noncomputable def ip(u:BS):BS:=match ju u with
 | .none=>aN (setForm u (-1)) (S "unexpected-end-tag")
 |some p=>if !(((av u).drop (p+1)).filter (dl (S ""))).isEmpty then aN (setForm u (-1)) (S "unexpected-end-tag")else match(cb (av u)).getLast? with
  | .none=>u
  |some q=>aQ (bG (!decide (q=p)) (setForm u (-1)) (S "open-elements")) (u.items.take p++(u.items.take (q+1)).drop (p+1))
section
variable{H:Hp}{ad:Ad}{W:Wd}{cl:Cl}{n c:Nat}{f:V->K}{g:Bool->K}{u:BS}{o:Nat}{a b:List Nat}
theorem Dw.xpush(D:Dw c H ad W u){k:Nat}{q:O}(fr:Fr H ad W k q):Dw c H ad (W.x k q) u:=⟨D.v.xpush fr,D.hu,D.f,D.la,D.lc,D.rn,D.re,D.ri,D.ra⟩
theorem Dw.xpop{k:Nat}{q:O}(D:Dw c H ad (W.x k q) u):Dw c H ad W u/\Fr H ad W k q:=⟨⟨D.v.xpop.1,D.hu,D.f,D.la,D.lc,D.rn,D.re,D.ri,D.ra⟩,D.v.xpop.2⟩
theorem BV.end(B:BV H ad W){q:O}{L:Hp}:Fr (H++q::L) ad W H.length q:=⟨bl,λ_ h=>VB (B.lt h)⟩
theorem Q7{k:Nat}{l:List Nat}(h:H[k]?=some (ay l)):UX (af .In (.int (-1)) (.ref k)) g H=g false H:=by
 refine aq (m:=dA (.int (-1)) (.ref k)) (v:=false) ((zp h (tV l)).trans ?_)
 congr 2
 refine Vu (Xh) ?_
 refine List.any_eq_false.mpr λy hy=>?_
 simp
theorem Q8{k:Nat}{l:List Nat}{x j:Nat}{kk:V->K}(h:H[k]?=some (ay l))(hx:(l.findIdx? λi=>decide (i=x))=some j)(hl:l.length<=100000):b9 k .index kk [.int (x:Nat)] H=kk (.int (j:Nat)) H:=by
 have hf:aV (l.map λi=>V.int (i:Nat)).length=true:=decide_eq_true (by rw[Vk];exact hl)
 refine qd h hf ((congrFun (if_pos hf) H).trans ((congrFun (if_pos zX) H).trans ?_))
 rw[tS,hx]
 rfl
theorem qJ{l:List Nat}{x:Nat}:x∈l↔∃j,(l.findIdx? λi=>decide (i=x))=some j:=by
 cases hf:l.findIdx? λi=>decide (i=x)with
 |none=>
  rw[WG]at hf
  simp
  intro h
  have:=hf x h
  simp at this
 |some j=>
  simp
  refine ex1_2 (List.findIdx?_eq_some_iff_getElem.mp hf) λhlt h1 _=>?_
  have:=of_decide_eq_true h1
  rw[←this];exact VO _
theorem ow{l:List Nat}{x j:Nat}(h:(l.findIdx? λi=>decide (i=x))=some j):j<l.length:=(List.findIdx?_eq_some_iff_getElem.mp h).1
theorem uz{ws:List Str}{p:Nat}(h:(cb ws).getLast?=some p):p<ws.length:=by
 have:=VT h
 unfold cb at this
 exact List.mem_range.mp (List.mem_filter.mp this).1
def qK(d x3 x13:V):K:=UX (aa d (.str (S "open"))) λx18=>UX (bk x18 .none (some x3)) λx19=>UX (aa d (.str (S "open"))) λx20=>UX (ax .Add x3 (.int 1)) λx21=>UX (aa x13 (.int (-1))) λx22=>UX (ax .Add x22 (.int 1)) λx23=>UX (bk x20 (some x21) (some x23)) λx24=>UX (ax .Add x19 x24) λx25=>UX (bi d (.str (S "open")) x25) λ_=>UZ .none
def uB(cl:Cl)(d x3 x13:V):K:=UX (aa x13 (.int (-1))) λx26=>UX (af .NotEq x26 x3) λt27=>if t27=true then(UX (cl 809 [d,.str (S "open-elements")]) λx28=>if am x28=true then qK d x3 x13 else UY)else qK d x3 x13
def uD(cl:Cl)(x7 v:V)(k:Bool->K):K:=UX (aa x7 v) λx14=>UX (cl 792 []) λx15=>UX (af .NotIn x14 x15) λt16=>k t16
def qL(cl:Cl)(d x3:V):K:=UX (cl 785 [d]) λx7=>UX (bw x7) λx29=>eD [x29] λit8=>cg it8 (λv k=>k v) (uD cl x7) (uB cl d x3)
theorem Q9{j:Nat}{l r:List Nat}(D3:Dw c H ad (W.dup u o a b) u)(ha:H[j]?=some (ay l)){K3:Hp}(hK:K3=H++[ay r])(hlt:∀i∈l++r,i<u.names.length)(hn:(l++r).length+c<=1000):
  bv c ad W (aQ u (l++r)) .none ((UX (ax .Add (.ref j) (.ref H.length)) λx25=>UX (bi (.ref (ad .d)) (.str (S "open")) x25) λ_=>UZ .none) K3):=by
 subst hK
 have D4:=D3.app [ay r]
 have hb:(H++[ay r])[H.length]?=some (ay r):=bl
 rw[add_lists (ap ha _) hb (by rw[Vs]at hn;simp;exact nB ‹_›),←VW,show O.list ((l++r).map λi=>V.int (i:Nat))=ay (l++r)from rfl]
 have D5:=D4.app [ay (l++r)]
 refine ex1_2 (ou D5 D4.v.end hlt hn) λH6 D6 e6=>?_
 rw[e6]
 exact⟨H6,_,_,_,D6,rfl⟩
section
variable{p q sk:Nat}
theorem Bd(D:Dw c H ad (W.dup u o a b) u){l:List Nat}(hp:p<u.items.length)(hq:q<u.items.length)(fr:Fr H ad (W.dup u o a b) sk (ay l))(hl:l.getLast?=some q)(hli:l.length<=1000):
  bv c ad W (aQ u (u.items.take p++(u.items.take (q+1)).drop (p+1))) .none (qK (.ref (ad .d)) (.int (p:Nat)) (.ref sk) H):=by
 have go:=fS D
 have hri:=D.ri
 have hlast:(l.map λi=>V.int (i:Nat)).getLast?=some (.int (q:Nat)):=by rw[WN,hl];rfl
 delta qK
 rw[fU D,qG go (nF ‹_› ‹_›) (by simp;exact nB ‹_›),←X8,show O.list ((u.items.take p).map λi=>V.int (i:Nat))=ay (u.items.take p)from rfl]
 have D3:=D.app [ay (u.items.take p)]
 have ha:(H++[ay (u.items.take p)])[H.length]?=some (ay (u.items.take p)):=bl
 rw[fU D3,dR,show((p:Nat):Int)+1=((p+1:Nat):Int)from rfl]
 have il:=λf=>lX (f:=f) (ap fr.1 [ay (u.items.take p)]) hlast (by rw[Vk];exact nD ‹_›)
 rw[il,dR,show((q:Nat):Int)+1=((q+1:Nat):Int)from rfl,AI (ap go _) (ru ‹_› ‹_›) (ru ‹_› ‹_›) (by simp;exact nB ‹_›),←X8,←X9,show O.list (((u.items.take (q+1)).drop (p+1)).map λi=>V.int (i:Nat))=ay ((u.items.take (q+1)).drop (p+1))from rfl]
 refine Q9 (l:=u.items.take p) (r:=(u.items.take (q+1)).drop (p+1)) D3 ha rfl (λi hi=>?_) (by rw[Vs,Wz,Wy,Wy,Wk (WI hp),Wk hq];omega)
 rcases List.mem_append.mp hi with h|h
 ·exact D.f.it i (VH h)
 ·exact D.f.it i (VH (VI h))
theorem Q_(D:Dw (c+1) H ad W u)(hv:Vo u)(hp:p<u.items.length)(hq:(cb (av u)).getLast?=some q):
  bv c ad W (aQ (bG (!decide (q=p)) u (S "open-elements")) (u.items.take p++(u.items.take (q+1)).drop (p+1))) .none (qL (cF (n+1)) (.ref (ad .d)) (.int (p:Nat)) H):=by
 have hl:(av u).length<=1000:=by rw[gu];have:=D.ri;exact nB ‹_›
 refine fW (P:=bv c ad W _ .none) (jt (n:=n) D hv) λG1 j1 h1=>?_
 have D1:=D.app G1
 generalize H++G1=K1 at*
 rw[gO h1 hl,uu (nD ‹_›)]
 have hL:O.list ((((Vr (av u).length).map λi=>V.int (i:Nat)).filter (λv=>match v with| .int i=> !aj bY ((av u).getD i.toNat (S ""))|_=>false)).map id)=ay (cb (av u)):=by
  rw[WO,WF];rfl
 refine ex1_1 (um (k:=uB (cF (n+1)) (.ref (ad .d)) (.int (p:Nat))) (H:=K1) (xs:=(Vr (av u).length).map λi=>V.int (i:Nat)) (elt:=λv k=>k v) (cond:=uD (cF (n+1)) (.ref j1)) id (λv=>match v with| .int i=> !aj bY ((av u).getD i.toNat (S ""))|_=>false) (λys G v hv=>by
  refine ex1_2 (List.mem_map.mp hv) λi hi zq2=>?_;subst zq2
  refine⟨[U bY],λkn=>?_⟩
  delta uD
  rw[lY (ap h1 _) (List.mem_range.mp hi) hl,aq ut,on bl]
  simp) (λys G v _ _=>⟨[],λkn=>by rw[Vj];rfl⟩) (by simp;exact nD ‹_›)) λG2 e2=>?_
 rw[hL]at e2
 rw[e2]
 have D2:=D1.app (ay (cb (av u))::G2)
 have fr:Fr (K1++ay (cb (av u))::G2) ad W K1.length (ay (cb (av u))):=D1.v.end
 have hql:q<u.items.length:=by have:=uz hq;rwa[gu]at this
 have hli:(cb (av u)).length<=1000:=by
  have:(cb (av u)).length<=(Vr (av u).length).length:=Xn ..
  rw[XE]at this;exact nI ‹_› ‹_›
 generalize K1.length=sk at*
 generalize K1++ay (cb (av u))::G2=K2 at*
 generalize cb (av u)=l at*
 have hlast:(l.map λi=>V.int (i:Nat)).getLast?=some (.int (q:Nat)):=by rw[WN,hq];rfl
 have il2:=λf=>lX (f:=f) fr.1 hlast (by rw[Vk];exact nD ‹_›)
 delta uB
 rw[il2,fM]
 by_cases hqp:q=p
 ·rw[show(!decide (((q:Nat):Int)=(p:Nat)))=false by simp[hqp],show(!decide (q=p))=false by simp[hqp],if_neg V7]
  exact Bd (o:=W.oA) (a:=W.uA) (b:=W.uC) (u:=u) (by rw[im D2];exact D2.le (Va _ _)) hp hql (by rw[im D2];exact fr) hq hli
 ·rw[show(!decide (((q:Nat):Int)=(p:Nat)))=true by simp;exact nN ‹_›,show(!decide (q=p))=true by simp[hqp],if_pos rfl]
  refine gt (kC (n:=n) (D2.xpush fr)) λH3 o a b D3=>?_
  have D3':Dw c H3 ad ((W.dup (aN u (S "open-elements")) o a b).x sk (ay l)) (aN u (S "open-elements")):=D3
  refine ai (D3'.xpop) λD4 fr4=>?_
  rw[bL]
  exact Bd (u:=aN u (S "open-elements")) D4 hp hql fr4 hq hli
end
end
noncomputable def l5:List Str:=[S "html:h1",S "html:h2",S "html:h3",S "html:h4",S "html:h5",S "html:h6"]
noncomputable def cB(name:Str):Str:=if name=S "li"then S "list item"else if name=S "p"then S "button"else S ""
noncomputable def cS(name:Str):List Str:=if aj hs name then l5 else[S "html:"++name]
noncomputable def iq(u:BS)(name:Str)(as:List (Str×Str)):BS:=match u.items.getLast? with
 |some i=>bQ u i name as
 | .none=>u
noncomputable def iU(u:BS)(name:Str):BS:=if name=S "form"/\aj (av u) (S "html:template")=false then ip u else
 if cN (av u) (cS name) (cB name)= -1 then(if name=S "p"then iq (aN u (S "unexpected-end-tag")) (S "p") []else aN u (S "unexpected-end-tag"))else
 aQ (bG (!(fe (av u) (cN (av u) (cS name) (cB name)).toNat).isEmpty|| !decide ((av u).getD (cN (av u) (cS name) (cB name)).toNat (S "")=S "html:"++name)) u (S "open-elements")) (u.items.take (cN (av u) (cS name) (cB name)).toNat)
section
variable{H:Hp}{ad:Ad}{W:Wd}{cl:Cl}{n c:Nat}{f:V->K}{g:Bool->K}{u:BS}{o:Nat}{a b:List Nat}
def ox(cl:Cl)(d:V):K:=UX (cl 809 [d,.str (S "unexpected-end-tag")]) λx6=>if am x6=true then(UZ .none)else UY
def uE(cl:Cl)(d x3:V)(t:Bool):K:=if t=true then ox cl d else qL cl d x3
def uF(cl:Cl)(d x3:V):K:=UX (af .Eq x3 (.int (-1))) λt30=>aC t30 (uE cl d x3 true) (UX (cl 785 [d]) λx32=>UX (ax .Add x3 (.int 1)) λx33=>UX (bk x32 (some x33) .none) λx34=>UX (cl 797 [x34,.str (S "")]) λx31=>UX (aF (.list [])) λx35=>UX (af .NotEq x31 x35) λt36=>aC t36 (uE cl d x3 true) (uE cl d x3 false))
def oy(cl:Cl)(d x1:V):K:=UX (aa d (.str (S "open"))) λx37=>UX (af .In x1 x37) λt38=>if t38=true then UX (aa d (.str (S "open"))) λx40=>ao (TT cl) x40 (S "index") (λk41=>k41 [x1]) λx39=>uF cl d x39 else uF cl d (.int (-1))
theorem Ra(n:Nat)(d:V):cF (n+1) 833 [d]=UX (aa d (.str (S "form"))) λx1=>UX (bi d (.str (S "form")) (.int (-1))) λ_=>oy (cF n) d x1:=Oy n d
theorem Be(D:Dw c H ad W u){x:V}(h:∀g:Bool->K,UX (af .In x (.ref W.oA)) g H=g false H):oy cl (.ref (ad .d)) x H=ox cl (.ref (ad .d)) H:=by
 delta oy
 rw[fU D,h,if_neg V7]
 rfl
theorem Rb(D:Dw c H ad W u){i p:Nat}(hx:(u.items.findIdx? λj=>decide (j=i))=some p):oy cl (.ref (ad .d)) (.int (i:Nat)) H=(UX (cl 785 [.ref (ad .d)]) λx32=>UX (ax .Add (.int (p:Nat)) (.int 1)) λx33=>UX (bk x32 (some x33) .none) λx34=>UX (cl 797 [x34,.str (S "")]) λx31=>UX (aF (.list [])) λx35=>UX (af .NotEq x31 x35) λt36=>aC t36 (ox cl (.ref (ad .d))) (qL cl (.ref (ad .d)) (.int (p:Nat)))) H:=by
 delta oy
 rw[fU D,qq (fS D),decide_eq_true (qJ.mpr ⟨p,hx⟩),if_pos rfl,fU D,bO (fS D) tj rfl,Q8 (fS D) hx (by have:=D.ri;have:=ow hx;exact nB ‹_›)]
 delta uF
 rw[aT,decide_eq_false nM]
 rfl
theorem uG(D:Dw (c+1) H ad W u):bv c ad W (aN u (S "unexpected-end-tag")) .none (ox (cF (n+1)) (.ref (ad .d)) H):=ik rfl (kC (n:=n) D)
theorem Rc(D:Dw (c+1) H ad W u)(hv:Vo u){p q:Nat}(hp:p<u.items.length)(hq:(cb (av u)).getLast?=some q):
  bv c ad W (if !(((av u).drop (p+1)).filter (dl (S ""))).isEmpty then aN u (S "unexpected-end-tag")else aQ (bG (!decide (q=p)) u (S "open-elements")) (u.items.take p++(u.items.take (q+1)).drop (p+1))) .none
   ((UX (cF (n+1) 785 [.ref (ad .d)]) λx32=>UX (ax .Add (.int (p:Nat)) (.int 1)) λx33=>UX (bk x32 (some x33) .none) λx34=>UX (cF (n+1) 797 [x34,.str (S "")]) λx31=>UX (aF (.list [])) λx35=>UX (af .NotEq x31 x35) λt36=>aC t36 (ox (cF (n+1)) (.ref (ad .d))) (qL (cF (n+1)) (.ref (ad .d)) (.int (p:Nat)))) H):=by
 have hri:=D.ri
 have hl:(av u).length<=1000:=by rw[gu];exact nB ‹_›
 refine fW (P:=bv c ad W _ .none) (jt (n:=n) D hv) λG1 j1 h1=>?_
 have D2:=D.app G1
 generalize H++G1=K1 at*
 rw[dR,show((p:Nat):Int)+1=((p+1:Nat):Int)from rfl,qF h1 (ru ‹_› ‹_›) (by simp;exact nD ‹_›),←X9,show O.list (((av u).drop (p+1)).map V.str)=U ((av u).drop (p+1))from rfl]
 have D3:=D2.app [U ((av u).drop (p+1))]
 refine fW (P:=bv c ad W _ .none) (AN (n:=n) bl (by simp;lia) (.inl rfl)) λG4 j4 h4=>?_
 have D4:=(D3.app G4).app [O.list []]
 rw[cH,oo (ap h4 _) bl λx hx=>oq hv x (VI (List.mem_filter.mp hx).1)]
 cases(((av u).drop (p+1)).filter (dl (S ""))).isEmpty with
 |false=>exact uG D4
 |true=>exact Q_ (n:=n) D4 hv hp hq
theorem Re(D:Dw (c+1) H ad W u)(hv:Vo u)(hf:u.form= -1∨0<=u.form)(hne:(cb (av u)).getLast?≠none):bv c ad W (ip u) .none (cF (n+2) 833 [.ref (ad .d)] H):=by
 rw[Ra,Qm D]
 refine ex1_2 (Qs D (-1)) λH1 D1 e1=>?_
 rw[e1]
 delta ip ju
 by_cases h0:u.form= -1
 ·rw[if_pos h0,h0,Be D1 λg=>Q7 (fS D1)]
  exact(uG D1).dup
 ·obtain⟨i,hi⟩:∃i:Nat,u.form=i:=⟨u.form.toNat,by lia⟩
  rw[if_neg h0,hi,show((i:Nat):Int).toNat=i from rfl]
  cases hx:u.items.findIdx? λj=>decide (j=i)with
  |none=>
   rw[Be D1 λg=>(qq (fS D1)).trans (congrArg (λt=>g t H1) (decide_eq_false λh=>ex1_1 (qJ.mp h) λj hj=>ak (hx.symm.trans hj)))]
   exact(uG D1).dup
  |some p=>
   rw[Rb D1 hx]
   cases hq:(cb (av u)).getLast? with
   |none=>exact absurd hq hne
   |some q=>exact(Rc (u:=setForm u (-1)) D1 hv (ow hx) hq).dup
theorem Bf{ws names:List Str}{sort:Str}(h:cN ws names sort≠-1):∃p:Nat,cN ws names sort=p/\p<ws.length:=by
 unfold cN at h⊢
 cases hq:(cM ws names).getLast? with
 |none=>rw[hq]at h;exact absurd rfl h
 |some p=>
  rw[hq]at h
  dsimp only at h⊢
  split at h
  ·rename_i hz
   rw[if_pos hz];exact⟨p,rfl,uv hq⟩
  ·exact absurd rfl h
theorem Rf{j:Nat}{name:Str}{kk:V->K}(h:H[j]?=some (.dict [(.str (S "li"),.str (S "list item")),(.str (S "p"),.str (S "button"))] (some 2))):jN j kk [.str name,.str (S "")] H=kk (.str (cB name)) H:=by
 refine tn h ?_
 have hk:cD (.str name) [(.str (S "li"),.str (S "list item")),(.str (S "p"),V.str (S "button"))]=true:=rfl
 refine(tp hk).trans ?_
 unfold bo cB
 rw[VF,VF,List.find?_nil]
 show UZ ((Vc (λe:V×V=>e.2) (match decide (S "li"=name)with|true=>some (V.str (S "li"),V.str (S "list item"))|false=>match decide (S "p"=name)with|true=>some (V.str (S "p"),V.str (S "button"))|false=>Option.none)).getD (V.str (S ""))) H=_
 by_cases h1:name=S "li"
 ·subst h1
  simp
  rfl
 ·by_cases h2:name=S "p"
  ·subst h2
   have:decide (S "li"=S "p")=false:=by decide
   rw[this]
   simp[h1]
   rfl
  ·have e1:decide (S "li"=name)=false:=decide_eq_false λh=>h1 h.symm
   have e2:decide (S "p"=name)=false:=decide_eq_false λh=>h2 h.symm
   rw[e1,e2,if_neg h1,if_neg h2]
   rfl
theorem Rg{k:V->K}{P:Option (V×Hp)->Prop}(fin:∀G j,(H++G)[j]?=some (U l5)->P (k (.ref j) (H++G))):
  P (eD [(.int 1),(.int 7)] (λit32=>cg it32 (λv33 k34=>UX (jH v33) λx38=>UX (ax .Add (.str (S "html:h")) x38) λx39=>k34 x39) (λ_ k36=>k36 true) k) H):=by
 have hr:mE [.int 1,.int 7]=some (cI 1 1 6):=by kernel_rfl
 rw[tK hr]
 obtain⟨G,e⟩:=um (k:=k) (H:=H) (xs:=cI 1 1 6) (elt:=λv33 k34=>UX (jH v33) λx38=>UX (ax .Add (.str (S "html:h")) x38) λx39=>k34 x39) (cond:=λ_ k36=>k36 true) (λv=>match v with| .int i=> .str (S "html:h"++Str.ofString (toString i))|_=> .none) (λ_=>true) (λys G v _=>⟨[],λkn=>by rw[Vj]⟩) (λys G v hv _=>by
  have hv':v∈[V.int 1,V.int 2,V.int 3,V.int 4,V.int 5,V.int 6]:=hv
  refine⟨[],λkn=>?_⟩
  rw[Vj]
  simp only[WP,XM,or_false]at hv'
  rcases hv' with rfl|rfl|rfl|rfl|rfl|rfl<;>kernel_rfl) (by simp[cI])
 rw[e]
 have hL:O.list (((cI 1 1 6).filter λ_=>true).map λv=>match v with|V.int i=>V.str (S "html:h"++Str.ofString (toString i))|_=>V.none)=U l5:=by kernel_rfl
 rw[hL]
 exact fin _ _ bl
end
noncomputable def d9(u:BS)(name:Str)(names:List Str):BS:=if cN (av u) names (cB name)= -1 then(if name=S "p"then iq (aN u (S "unexpected-end-tag")) (S "p") []else aN u (S "unexpected-end-tag"))else
 aQ (bG (!(fe (av u) (cN (av u) names (cB name)).toNat).isEmpty|| !decide ((av u).getD (cN (av u) names (cB name)).toNat (S "")=S "html:"++name)) u (S "open-elements")) (u.items.take (cN (av u) names (cB name)).toNat)
theorem kE{u:BS}{name:Str}:iU u name=if name=S "form"/\aj (av u) (S "html:template")=false then ip u else d9 u name (cS name):=rfl
section
variable{H:Hp}{ad:Ad}{W:Wd}{cl:Cl}{n c:Nat}{f:V->K}{g:Bool->K}{u:BS}{o:Nat}{a b:List Nat}
theorem qM{name:Str}:cB name=S ""∨cB name=S "button"∨cB name=S "list item":=by
 unfold cB
 split
 ·exact .inr (.inr rfl)
 ·split
  ·exact .inr (.inl rfl)
  ·exact .inl rfl
theorem Bg(D:Dw c H ad W u){p:Nat}(hp:p<=1000):bv c ad W (aQ u (u.items.take p)) .none ((UX (aa (.ref (ad .d)) (.str (S "open"))) λx19=>UX (bk x19 .none (some (.int (p:Nat)))) λx20=>UX (bi (.ref (ad .d)) (.str (S "open")) x20) λ_=>UZ .none) H):=by
 have hri:=D.ri
 refine er (fU D ..) (er (qG (fS D) (iY ‹_›) (by simp;exact nB ‹_›) ..) ?_)
 refine er ((show O.list ((u.items.map λi=>V.int (i:Nat)).take p)=ay (u.items.take p) by simp[ay]) ..) ?_
 refine ex1_2 (ou (D.app [ay (u.items.take p)]) D.v.end (λi hi=>D.f.it i (VH hi)) (by simp;lia)) λH6 D6 e6=>?_
 simp only[e6]
 exact⟨H6,_,_,_,D6,rfl⟩
def l7(cl:Cl)(d name nk:V):K:=UX (aF (.dict [] (some 0))) λo10=>i5 o10 [((.str (S "li")),(.str (S "list item"))),((.str (S "p")),(.str (S "button")))] λx11=>ao (TT cl) x11 (S "get") (λk12=>k12 [name,.str (S "")]) λx9=>UX (cl 802 [d,nk,x9]) λx8=>UX (af .Eq x8 (.int (-1))) λt13=>if t13=true then(UX (cl 809 [d,.str (S "unexpected-end-tag")]) λx14=>if am x14=true then(jp (UZ .none:K) λj15=>UX (af .Eq name (.str (S "p"))) λt16=>if t16=true then(UX (cl 828 [d,.str (S "p"),(.tup [])]) λx17=>if am x17=true then(j15)else UY)else(j15))else UY)else(jp (UX (aa d (.str (S "open"))) λx19=>UX (bk x19 .none (some x8)) λx20=>UX (bi d (.str (S "open")) x20) λ_=>UZ .none:K) λj18=>jp (λ(t22:Bool)=>(if t22=true then(UX (cl 809 [d,.str (S "open-elements")]) λx23=>if am x23=true then(j18)else UY)else(j18):K)) λj21=>UX (cl 821 [d,x8]) λx24=>UX (aF (.list [])) λx25=>UX (af .NotEq x24 x25) λt26=>aC t26 (j21 true) (UX (cl 785 [d]) λx27=>UX (aa x27 x8) λx28=>UX (ax .Add (.str (S "html:")) name) λx29=>UX (af .NotEq x28 x29) λt30=>aC t30 (j21 true) (j21 false)))
theorem Bh(D:Dw (c+2) H ad W u)(hv:Vo u)(hne:u.items≠[])(hc:c<=900){name:Str}(hnm:name.cps.size<=1000){nk:Nat}{names:List Str}(hn:H[nk]?=some (U names)):
  bv c ad W (d9 u name names) .none (l7 (cF (n+3)) (.ref (ad .d)) (.str name) (.ref nk) H):=by
 delta l7 d9
 have hri:=D.ri
 have hl:(av u).length<=1000:=by refine er (gu ..) ?_;exact nB ‹_›
 simp only[cH]
 have gd:(H++[O.dict [] (some 0)])[H.length]?=some (O.dict [] (some 0)):=bl
 refine er (qI gd (by kernel_rfl) (by simp) ..) (er (Vy _ _ (Vf _) ..) ?_)
 simp only[VZ,WL,Wh,V8]
 have gd2:(H++[O.dict [(V.str (S "li"),V.str (S "list item")),(V.str (S "p"),V.str (S "button"))] (some (0+1+1))])[H.length]?=some (O.dict [(V.str (S "li"),V.str (S "list item")),(V.str (S "p"),V.str (S "button"))] (some 2)):=bl
 simp only[tg gd2 rfl,Rf gd2]
 have hn2:=ap hn [O.dict [(V.str (S "li"),V.str (S "list item")),(V.str (S "p"),V.str (S "button"))] (some (0+1+1))]
 have D1:=D.app [O.dict [(V.str (S "li"),V.str (S "list item")),(V.str (S "p"),V.str (S "button"))] (some (0+1+1))]
 generalize H++[O.dict [(V.str (S "li"),V.str (S "list item")),(V.str (S "p"),V.str (S "button"))] (some (0+1+1))]=K1 at*
 refine AO (P:=bv c ad W _ .none) (AP (n:=n+1) D1 hv hn2 qM) λG2=>?_
 have D2:=D1.app G2
 simp only[aT]
 by_cases hpl:cN (av u) names (cB name)= -1
 ·simp only[hpl,decide_true,if_true]
  refine gt (kC (n:=n+2) D2) λH3 o a b D3=>?_
  dsimp only[bL,jp,aM]
  by_cases h1:name=S "p"
  ·simp only[h1,decide_true,if_true]
   refine ex2_1 (kr hne) λxs i hx=>?_
   have hlast:(aN u (S "unexpected-end-tag")).items.getLast?=some i:=by show u.items.getLast?=_;refine er (hx ..) ?_;simp
   have hput:iq (aN u (S "unexpected-end-tag")) (S "p") []=bQ (aN u (S "unexpected-end-tag")) i (S "p") []:=by unfold iq;refine er (hlast ..) rfl
   simp only[hput]
   refine gt (QW (n:=n+2) (c:=c) D3 hlast (name:=S "p") (as:=[]) (by simp;exact nD ‹_›)) λH4 o4 a4 b4 D4=>?_
   dsimp only[qh]
   exact⟨H4,_,_,_,D4,rfl⟩
  ·simp only[h1,decide_false,U0,if_false]
   exact(qC (D3.le (Va _ _))).dup
 ·refine ex1_2 (Bf hpl) λp hp1 hp2=>?_
  have hp':¬((p:Nat):Int)= -1:=by exact nM
  simp only[hp1,hp',decide_false,U0,if_false,jp,show((p:Nat):Int).toNat=p from rfl]
  simp only[gu]at hp2
  refine fW (P:=bv c ad W _ .none) (QB (n:=n+1) D2 hv (p:=p) (nF ‹_› ‹_›)) λG3 j3 h3=>?_
  have D3:=(D2.app G3).app [O.list []]
  dsimp only[cH]
  simp only[oo (ap h3 _) bl λx hx=>oq hv x (VI (List.mem_filter.mp hx).1)]
  have yes:∀{H':Hp},Dw (c+2) H' ad W u->bv c ad W (aQ (aN u (S "open-elements")) (u.items.take p)) .none ((UX (cF (n+3) 809 [.ref (ad .d),.str (S "open-elements")]) λx23=>if am x23=true then(UX (aa (.ref (ad .d)) (.str (S "open"))) λx19=>UX (bk x19 .none (some (.int (p:Nat)))) λx20=>UX (bi (.ref (ad .d)) (.str (S "open")) x20) λ_=>UZ .none)else UY) H'):=λ{H'} D'=>by
   refine gt (kC (n:=n+2) D') λH4 o a b D4=>?_
   dsimp only[bL]
   exact(Bg (c:=c) (D4.le (Va _ _)) (p:=p) (vx ‹_› ‹_›)).dup
  cases hz:(fe (av u) p).isEmpty with
  |false=>
   dsimp only[U5,aO,if_true,Yh,bG]
   exact yes D3
  |true=>
   simp only[U6,aK,Xw]
   refine fW (P:=bv c ad W _ .none) (jt (n:=n+2) D3 hv) λG4 j4 h4=>?_
   have D4:=D3.app G4
   rw[lY h4 (by rw[gu];omega) hl,kD (by have:(S "html:").cps.size=5:=(by decide);lia),gg]
   by_cases hw:(av u).getD p (S "")=S "html:"++name
   ·simp only[hw,decide_true,U6,aK,U0,if_false,bG]
    exact Bg (c:=c) (D4.le (Va _ _)) (p:=p) (vx ‹_› ‹_›)
   ·simp only[hw,decide_false,U5,aO,if_true,bG]
    exact yes D4
theorem Bi(D':Dw (c+2) H ad W u)(hv:Vo u)(hne:u.items≠[])(hc:c<=900){name:Str}(hnm:name.cps.size<=1000):bv c ad W (d9 u name (cS name)) .none ((UX (ax .Add (.str (S "html:")) (.str name)) λx4=>UX (aF (.list [x4])) λx5=>UX (af .In (.str name) (.tup (hs.map .str))) λt31=>if t31=true then(eD [(.int 1),(.int 7)] λit32=>cg it32 (λv33 k34=>UX (jH v33) λx38=>UX (ax .Add (.str (S "html:h")) x38) λx39=>k34 x39) (λ_ k36=>k36 true) λx37=>l7 (cF (n+3)) (.ref (ad .d)) (.str name) x37)else(l7 (cF (n+3)) (.ref (ad .d)) (.str name) x5)) H):=by
 rw[kD (by have:(S "html:").cps.size=5:=(by decide);lia),cH]
 have D1:=D'.app [O.list [V.str (S "html:"++name)]]
 refine er (fP (ic hs) ..) (er (iR ..) ?_)
 unfold cS
 cases hq:aj hs name with
 |true=>
  refine er (if_pos rfl ..) (er (if_pos rfl ..) ?_)
  exact Rg (P:=bv c ad W _ .none) λG j hj=>Bh (n:=n) (D1.app G) hv hne hc hnm hj
 |false=>
  refine er (if_neg (by decide) ..) (er (if_neg (by decide) ..) ?_)
  exact Bh (n:=n) D1 hv hne hc hnm bl
theorem Rh(name:Str):cF (n+4) 838 [.ref (ad .d),.str name]=jp (λ(t2:Bool)=>if t2=true then(UX (cF (n+3) 833 [.ref (ad .d)]) λx3=>if am x3=true then(UZ .none)else UY)else(UX (ax .Add (.str (S "html:")) (.str name)) λx4=>UX (aF (.list [x4])) λx5=>UX (af .In (.str name) (.tup (hs.map .str))) λt31=>if t31=true then(eD [(.int 1),(.int 7)] λit32=>cg it32 (λv33 k34=>UX (jH v33) λx38=>UX (ax .Add (.str (S "html:h")) x38) λx39=>k34 x39) (λ_ k36=>k36 true) λx37=>l7 (cF (n+3)) (.ref (ad .d)) (.str name) x37)else(l7 (cF (n+3)) (.ref (ad .d)) (.str name) x5)))
  λj1=>UX (af .Eq (.str name) (.str (S "form"))) λt40=>aC t40 (UX (cF (n+3) 785 [.ref (ad .d)]) λx41=>UX (af .NotIn (.str (S "html:template")) x41) λt42=>aC t42 (j1 true) (j1 false)) (j1 false):=by
 rw[OA];rfl
theorem Ri(D:Dw (c+2) H ad W u)(hv:Vo u)(hne:u.items≠[])(hc:c<=900){name:Str}(hnm:name.cps.size<=1000)(hf:u.form= -1∨0<=u.form)(hns:(cb (av u)).getLast?≠none):bv c ad W (iU u name) .none (cF (n+4) 838 [.ref (ad .d),.str name] H):=by
 rw[Rh,kE,jp,aM]
 have bad:∀{H':Hp},Dw (c+2) H' ad W u->bv c ad W (ip u) .none ((UX (cF (n+3) 833 [.ref (ad .d)]) λx3=>if am x3=true then(UZ .none)else UY) H'):=λ{H'} D'=>ik rfl (Re (n:=n+1) (c:=c) (D'.le (by lia)) hv hf hns)
 by_cases h1:name=S "form"
 ·refine er (decide_eq_true h1 ..) (er (aO ..) ?_)
  refine fW (P:=bv c ad W _ .none) (jt (n:=n+2) D hv) λG1 j1 hj1=>?_
  have D1:=D.app G1
  refine er (on hj1 ..) ?_
  cases hq:aj (av u) (S "html:template")with
  |true=>
   refine er (if_neg (show¬(name=S "form"/\true=false)from λh=>by cases h.2) ..) (er (U6 ..) (er (aK ..) ?_))
   dsimp only
   refine er (if_neg (show¬(false=true) by decide) ..) ?_
   exact Bi D1 hv hne hc hnm
  |false=>
   refine er (if_pos (show name=S "form"/\false=false from⟨h1,rfl⟩) ..) (er (U5 ..) (er (aO ..) ?_))
   dsimp only
   refine er (if_pos (show true=true from rfl) ..) ?_
   exact bad D1
 ·refine er (if_neg (show¬(name=S "form"/\aj (av u) (S "html:template")=false)from λh=>h1 h.1) ..) (er (decide_eq_false h1 ..) (er (aK ..) ?_))
  dsimp only
  refine er (if_neg (show¬(false=true) by decide) ..) ?_
  exact Bi D hv hne hc hnm
end
section
variable{H:Hp}{ad:Ad}{W:Wd}{cl:Cl}{n c:Nat}{f:V->K}{g:Bool->K}{u:BS}{o:Nat}{a b:List Nat}
theorem Rj{l:List (Str×Str)}{x:Str}:aj (l.map (·.1)) x=kA l x:=by
 unfold aj kA
 refine er (Xh ..) ?_;rfl
theorem Rk(D:Dw (c+3) H ad W u){i:Nat}(hi:i<u.names.length){ps:List (Str×Str)}(hps:ps.length<=3):bv c ad W (fR u i ps) .none (cF (n+2) 855 [.ref (ad .d),.int (i:Nat),.tup (ps.map bz)] H):=by
 refine er (OD ..) ?_
 unfold ze
 have hi2:i<u.attrs.length:=D.f.la▸hi
 refine er (t_ ..) ?_
 have hb:=D.f.bn
 have hra:(bN u i).length+(c+3)<=1000:=D.ra _ (by unfold bN;refine er (U1 ..) (er (U8 hi2 ..) ?_);simp)
 refine lR (P:=bv c ad W (fR u i ps) .none) (λj vars H'=>∃l o1 o2,BV H' ad (W.dup (setAt u i l) W.oA W.uA W.uC)/\l=iT (bN u i) (ps.take j)/\l.length<=(bN u i).length+j/\j<=3/\vars=(lD (some (.ref (ad .d))) (some (.int (i:Nat))) (some (.tup (ps.map bz))) o1 o2)) ?_ ?_ ⟨bN u i,_,_,by refine er (Aj ..) (er (im D ..) ?_);exact D.v,rfl,by exact Vf _,by exact V5 _,rfl⟩
 ·intro j v vars H' kn hv hI1 hk
  refine ex3_5 hI1 λl o1 o2 B hl hll hj zq2=>?_
  subst zq2
  refine er (OE ..) ?_
  rw[Vh,VA]at hv
  refine ex1_2 (hv) λp hp zq2=>?_;subst zq2
  have hjp:=(List.getElem?_eq_some_iff.mp hp).1
  have hi3:i<(setAt u i l).attrs.length:=by simpa[setAt]using hi2
  have hm:iT (bN u i) (ps.take (j+1))=ii l p:=by
   refine er (Wa ..) (er (hp ..) ?_)
   unfold iT at hl⊢
   refine er (Xd ..) (el (hl ..) ?_);rfl
  have hiA:i<W.uA.length:=by refine er (D.la ..) ?_;exact hi
  have hlA:W.uA.length<=1000:=by refine er (D.la ..) ?_;exact hb
  have hg:H'[W.uA.getD i 0]?=some (bm l):=by
   have:=QN B hi3
   rw[Ak hi2]at this;exact this
  unfold bz
  simp only[dZ,cO,eT,uw B,AY B hiA hlA]
  refine Ba (P:=bv c ad W _ .none) hg (λv=>match v with| .tup (x::_)=>x|_=> .none) (λ_=>true) (λys G v _=>⟨[],λkn=>by refine er (Vj ..) rfl⟩) (λys G v hv _=>⟨[],λkn=>?_⟩) (by simp;omega) λG=>?_
  ·refine ex1_2 (List.mem_map.mp hv) λq hq zq2=>?_;subst zq2
   unfold bz
   refine er (ua ..) (er (Vj ..) rfl)
  ·have hL:O.list (((l.map bz).filter λ_=>true).map λv=>match v with|V.tup (x::_)=>x|_=>V.none)=U (l.map (·.1)):=by
    refine er (List.filter_eq_self.mpr (λ_ _=>rfl) ..) (er (Wg ..) ?_)
    unfold U
    refine er (Wg ..) ?_;rfl
   refine er (hL ..) (er (on bl ..) (er (Rj ..) ?_))
   have B1:=B.app (U (l.map (·.1))::G)
   have hg1:=ap hg (U (l.map (·.1))::G)
   cases hk2:kA l p.1 with
   |true=>
    simp only[U6,U0,if_false]
    refine hk _ _ ⟨l,_,_,B1,?_,by exact Vx ‹_›,by exact nG ‹_› ‹_›,rfl⟩
    refine er (hm ..) ?_;unfold ii;refine er (hk2 ..) ?_;rfl
   |false=>
    have hs:=λkk=>dw (kk:=kk) (v:=bz p) hg1 (by simp;omega)
    simp only[U5,if_true,uw B1,AY B1 hiA hlA,bO hg1 cQ rfl]
    refine er ((show V.tup [V.str p.1,V.str p.2]=bz p from rfl) ..) (er (hs ..) ?_)
    simp only[bL]
    have B2:=QM B1 hi3 (l++[p])
    rw[set_set]at B2
    have e2:bm (l++[p])= .list (l.map bz++[bz p]):=by simp[bm]
    rw[e2]at B2
    refine hk _ _ ⟨l++[p],_,_,B2,?_,by simp;exact V9 ‹_›,by exact nG ‹_› ‹_›,rfl⟩
    refine er (hm ..) ?_;unfold ii;refine er (hk2 ..) ?_;rfl
 ·intro vars H' hI4
  refine ex3_5 hI4 λl o1 o2 B hl hll hj zq5=>?_
  subst zq5
  refine er (OF ..) ?_
  rw[Vk,VX]at hl
  unfold fR
  refine el (hl ..) ?_
  refine⟨H',_,_,_,⟨B,rfl,D.f.setAt,D.la,D.lc,?_,?_,?_,λm hm=>?_⟩,rfl⟩
  ·have:=D.rn;show u.names.length+c<=1000;exact nA ‹_›
  ·have:=D.re;show u.errors.length+c<=1000;exact nA ‹_›
  ·have:=D.ri;show u.items.length+c<=1000;exact nA ‹_›
  ·rw[Vk]at hll
   rcases Wb hm with hm|rfl
   ·have:=D.ra m hm;exact nA ‹_›
   ·omega
theorem Bj:∀{x y:List Str},PyData.eqvAll (x.map PyData.str) (y.map PyData.str)=decide (x=y)
 |[],[]=>by simp[PyData.eqvAll]
 |[],_::_=>by simp[PyData.eqvAll]
 |_::_,[]=>by simp[PyData.eqvAll]
 |p::r,q::t=>by
  simp only[Vi,PyData.eqvAll,PyData.eqv,Bj,List.cons.injEq]
  by_cases h:p=q<;>by_cases h2:r=t<;>simp[h,h2]
theorem Rm{j k:Nat}{x y:List Str}(h:H[j]?=some (U x))(hk:H[k]?=some (U y))(hx:∀w∈x,aD w=true)(hy:∀w∈y,aD w=true):UX (af .Eq (.ref j) (.ref k)) g H=g (decide (x=y)) H:=by
 refine aq (m:=jF (.ref j) (.ref k)) ?_
 have h1:V.toD H 8 (.ref j)=some (.list (x.map PyData.str)):=by
  unfold V.toD
  simp only[h,U]
  refine er (qH hx ..) ?_;rfl
 have h2:V.toD H 8 (.ref k)=some (.list (y.map PyData.str)):=by
  unfold V.toD
  simp only[hk,U]
  refine er (qH hy ..) ?_;rfl
 rw[uo h hk,AG h1 h2,PyData.eqv,Bj]
end
noncomputable def fg(u:BS):Bool:=decide (((av u).take 2).drop 1=[S "html:body"])
noncomputable def l8(u:BS):Bool:=aj (av u) (S "html:template")
noncomputable def jw(u:BS)(as:List (Str×Str)):BS:=
 bu (aQ (bQ (aQ (dk u (br u (u.items.getD 1 0)).toNat (u.items.getD 1 0)) (u.items.take 1)) (u.items.getD 0 0) (S "frameset") as) (u.items.take 1++[u.names.length])) (S "in frameset")
noncomputable def jx(u:BS)(name:Str)(as:List (Str×Str)):BS:=if name=S "meta"then dy u (S "in head") (bT (S "start") name as)else
 if name=S "html"/\l8 u=false then fR (aN u (S "unexpected-start-tag")) (u.items.getD 0 0) as else
 if name=S "body"/\fg u=true/\l8 u=false then fR (gk (aN u (S "unexpected-start-tag")) false) (u.items.getD 1 0) as else
 if name=S "frameset"/\fg u=true/\u.ok=true then jw (aN u (S "unexpected-start-tag")) as else aN u (S "unexpected-start-tag")
section
variable{H:Hp}{ad:Ad}{W:Wd}{cl:Cl}{n c:Nat}{f:V->K}{g:Bool->K}{u:BS}{o:Nat}{a b:List Nat}
theorem Bk(D:Dw c H ad W u){k i:Nat}(h:u.items[k]?=some i):UX (aa (.ref W.oA) (.int (k:Nat))) f H=f (.int (i:Nat)) H:=
 fH (fS D) (by simp[h]) (by simp;have:=D.ri;exact nB ‹_›)
theorem Rn(D:Dw c H ad W u){i:Nat}(hi:i<u.names.length)(p:Int)(hp:p= -1∨(0<=p/\p<i)):∃H',Dw c H' ad (W.dup (setPar u i p) W.oA W.uA W.uC) (setPar u i p)/\∀f:Unit->K,UX (bi (.ref (ad .dparents)) (.int (i:Nat)) (.int p)) f H=f () H':=by
 have hu:=D.hu
 refine⟨_,D.of (D.v.put (a:=ad .dparents) (W':=W.dup (setPar u i p) W.oA W.uA W.uC) .dparents rfl (congrArg (λz=>(Vc (λu:BS=>cz u.parents) z).isSome) hu) rfl (λx hx=>?_)) (D.f.setPar hp) D.la D.lc D.rn D.re D.ri D.ra,λf=>?_⟩
 ·exact qy (E:=λx=>x= .dparents) D (by apply gr<;>first|exact λ_=>rfl|exact λh=>absurd rfl h|exact λ_ _=>rfl) x hx
 ·have:=zQ (i:=i) (v:= .int p) (f:=f) (ug D) (by simp[D.f.lp,hi]) (by simp[D.f.lp];have:=D.f.bn;exact nD ‹_›)
  refine er (this ..) ?_;simp[cz,Yg,setPar]
theorem Rp(D:Dw c H ad W u){i:Nat}(hi:i<u.names.length):UX (aa (.ref (ad .dparents)) (.int (i:Nat))) f H=f (.int (br u i)) H:=by
 have h2:i<u.parents.length:=D.f.lp▸hi
 refine fH (ug D) ?_ ?_
 ·simp[br,h2]
 ·simp[D.f.lp];have:=D.f.bn;exact nD ‹_›
theorem Rq(D:Dw (c+1) H ad W u)(hc:c<=900){x0 x1:Nat}{r:List Nat}(hxs:u.items=x0::x1::r){p:Nat}(hp1:br u x1=p)(hp2:p<u.names.length)(hp3:x1∈aJ u p){as:List (Str×Str)}(hl:as.length<=3){tk:V}(ht:∀(H:Hp) (f:V->K),UX (aa tk (.int 2)) f H=f (.tup (as.map bz)) H):
  bv c ad W (jw u as) .none ((UX (aa (.ref (ad .d)) (.str (S "open"))) λx21=>UX (aa x21 (.int 1)) λx22=>UX (aa (.ref (ad .d)) (.str (S "children"))) λx24=>UX (aa (.ref (ad .d)) (.str (S "parents"))) λx25=>UX (aa x25 x22) λx26=>UX (aa x24 x26) λx27=>ao (TT (cF (n+1))) x27 (S "remove") (λk28=>k28 [x22]) λx23=>if am x23=true then(UX (aa (.ref (ad .d)) (.str (S "parents"))) λx29=>UX (bi x29 x22 (.int (-1))) λ_=>UX (aa (.ref (ad .d)) (.str (S "open"))) λx30=>UX (bk x30 .none (some (.int 1))) λx31=>UX (bi (.ref (ad .d)) (.str (S "open")) x31) λ_=>UX (aa (.ref (ad .d)) (.str (S "open"))) λx32=>UX (aa tk (.int 2)) λx34=>UX (cF (n+1) 828 [.ref (ad .d),.str (S "frameset"),x34]) λx33=>UX (aF (.list [x33])) λx35=>UX (ax .Add x32 x35) λx36=>UX (bi (.ref (ad .d)) (.str (S "open")) x36) λ_=>UX (bi (.ref (ad .d)) (.str (S "mode")) (.str (S "in frameset"))) λ_=>UZ .none)else UY) H):=by
 have hb:=D.f.bn
 have hri:=D.ri
 have h0:u.items[1]?=some x1:=by refine er (hxs ..) ?_;rfl
 have h00:u.items[0]?=some x0:=by refine er (hxs ..) ?_;rfl
 have hx1:=D.f.it x1 (Vb h0)
 have hx0:=D.f.it x0 (Vb h00)
 have e1:u.items.getD 1 0=x1:=by refine er (hxs ..) ?_;rfl
 have e0:u.items.getD 0 0=x0:=by refine er (hxs ..) ?_;rfl
 have et:u.items.take 1=[x0]:=by refine er (hxs ..) ?_;rfl
 have hcl:=lT D.f hp2
 have hc2:p<u.children.length:=D.f.lc▸hp2
 have B0:BV H ad (W.dup u W.oA W.uA W.uC):=by refine er (im D ..) ?_;exact D.v
 have xo:∀f:V->K,UX (aa (.ref W.oA) (.int 1)) f H=f (.int (x1:Nat)) H:=λf=>Bk (f:=f) D (k:=1) h0
 have g1:=AW B0 hc2
 have xc:=λf=>AX (f:=f) B0 (i:=p) (by refine er (D.lc ..) ?_;exact hp2) (by refine er (D.lc ..) ?_;exact hb)
 simp only[fU D,xo]
 simp only[Ql D,AA D,Rp D hx1,hp1,xc,bO g1 th rfl,tU g1 hp3 (nI ‹_› ‹_›),bL]
 have B1:=AV B0 hc2 ((aJ u p).erase x1)
 have F1:=D.f.setCh (p:=p) (l:=(aJ u p).erase x1) (by have:=W2 (a:=x1) (l:=aJ u p);exact Vm ‹_› ‹_›)
 have D1:Dw (c+1) (H.set (W.uC.getD p 0) (ay ((aJ u p).erase x1))) ad (W.dup (setCh u p ((aJ u p).erase x1)) W.oA W.uA W.uC) (setCh u p ((aJ u p).erase x1)):=⟨B1,rfl,F1,D.la,D.lc,D.rn,D.re,D.ri,D.ra⟩
 refine ex1_2 (Rn D1 (i:=x1) hx1 (-1) (.inl rfl)) λH2 D2 e2=>?_
 simp only[AA D1,e2]
 have D2':Dw (c+1) H2 ad (W.dup (dk u p x1) W.oA W.uA W.uC) (dk u p x1):=D2
 have sl:∀f:V->K,UX (bk (.ref W.oA) .none (some (.int 1))) f H2=f (.ref H2.length) (H2++[ay [x0]]):=λf=>by
  have h9:=qG (f:=f) (l:=1) (fS D2') (by decide) (by show(u.items.map _).length<=100000;simp;exact nB ‹_›)
  rw[show O.list (((dk u p x1).items.map λi=>V.int (i:Nat)).take 1)=ay [x0] by show O.list ((u.items.map λi=>V.int (i:Nat)).take 1)=_;refine er (hxs ..) ?_;rfl]at h9
  exact h9
 refine er (fU D2' ..) ?_
 refine er ((show(W.dup (dk u p x1) W.oA W.uA W.uC).oA=W.oA from rfl) ..) (er (sl ..) ?_)
 have D3:=D2'.app [ay [x0]]
 refine ex1_2 (ou D3 D2'.v.end (λi hi=>by refine er (List.mem_singleton.mp hi ..) ?_;exact hx0) (by simp;lia)) λH4 D4 e4=>?_
 have D4':Dw (c+1) H4 ad (W.dup (aQ (dk u p x1) [x0]) H2.length W.uA W.uC) (aQ (dk u p x1) [x0]):=D4
 refine er (e4 ..) (er (fU D4' ..) (er ((show(W.dup (aQ (dk u p x1) [x0]) H2.length W.uA W.uC).oA=H2.length from rfl) ..) ?_))
 have hlast:(aQ (dk u p x1) [x0]).items.getLast?=some x0:=rfl
 refine ex3_2 (A_ (n:=n) (c:=c) D4' hlast (name:=S "frameset") (as:=as) (by lia)) λH5 a5 b5 D5 e5=>?_
 have D5':Dw c H5 ad (W.dup (bQ (aQ (dk u p x1) [x0]) x0 (S "frameset") as) H2.length a5 b5) (bQ (aQ (dk u p x1) [x0]) x0 (S "frameset") as):=D5
 have go5:H5[H2.length]?=some (ay [x0]):=fS D5'
 refine er (ht ..) (er (aq e5 ..) (er (cH ..) ?_))
 have hN:(aQ (dk u p x1) [x0]).names.length=u.names.length:=rfl
 refine er (hN ..) (er ((show O.list [V.int (u.names.length:Nat)]=ay [u.names.length]from rfl) ..) ?_)
 have D6:=D5'.app [ay [u.names.length]]
 have hb6:(H5++[ay [u.names.length]])[H5.length]?=some (ay [u.names.length]):=bl
 have go6:=ap go5 [ay [u.names.length]]
 have hadd:=λf=>add_lists (f:=f) (xs:=[V.int (x0:Nat)]) (ys:=[V.int (u.names.length:Nat)]) go6 hb6 (by simp)
 have hadd':∀f:V->K,UX (ax .Add (.ref H2.length) (.ref H5.length)) f (H5++[ay [u.names.length]])=f (.ref (H5++[ay [u.names.length]]).length) (H5++[ay [u.names.length]]++[ay [x0,u.names.length]]):=hadd
 have D7:=D6.app [ay [x0,u.names.length]]
 have hlen:(bQ (aQ (dk u p x1) [x0]) x0 (S "frameset") as).names.length=u.names.length+1:=by
  show(u.names++[S "frameset"]).length=_
  simp
 obtain⟨H8,D8,e8⟩:=ou D7 D6.v.end (λi hi=>by
  simp only[hlen]
  simp at hi
  rcases hi with rfl|rfl<;>lia) (by simp;lia)
 refine ex1_2 (uj D8 (S "in frameset")) λH9 D9 e9=>?_
 have fin:(UX (ax .Add (.ref H2.length) (.ref H5.length)) (λx36=>UX (bi (.ref (ad .d)) (.str (S "open")) x36) λ_=>UX (bi (.ref (ad .d)) (.str (S "mode")) (.str (S "in frameset"))) λ_=>UZ .none) (H5++[ay [u.names.length]]):Option (V×Hp))=some (.none,H9):=by
  refine er (hadd' ..) (er (e8 ..) (er (e9 ..) ?_));rfl
 have hfs:jw u as=bu (aQ (bQ (aQ (dk u p x1) [x0]) x0 (S "frameset") as) [x0,u.names.length]) (S "in frameset"):=by
  unfold jw
  refine er (e1 ..) (er (e0 ..) (er (et ..) (er (hp1 ..) ?_)));rfl
 refine er (hfs ..) ?_
 exact⟨H9,_,_,_,D9,fin⟩
end
section
variable{H:Hp}{ad:Ad}{W:Wd}{cl:Cl}{n c:Nat}{f:V->K}{g:Bool->K}{u:BS}{o:Nat}{a b:List Nat}
theorem Bl(hv:Vo u)(hl:(av u).length<=1000){j:Nat}(hj:H[j]?=some (U (av u))){g:Bool->K}{P:Option (V×Hp)->Prop}(k:∀G,P (g (fg u) (H++G))):
  P ((UX (bk (.ref j) (some (.int 1)) (some (.int 2))) λx39=>UX (aF (.list [.str (S "html:body")])) λx40=>UX (af .Eq x39 x40) g) H):=by
 have sl:∀f:V->K,UX (bk (.ref j) (some (.int 1)) (some (.int 2))) f H=f (.ref H.length) (H++[U (((av u).take 2).drop 1)]):=λf=>by
  have h9:=AI (f:=f) (l:=1) (r:=2) hj (by decide) (by decide) (by simp;exact nD ‹_›)
  rw[show O.list ((((av u).map V.str).take 2).drop 1)=U (((av u).take 2).drop 1) by simp[U]]at h9
  exact h9
 refine er (sl ..) (er (cH ..) (er ((show O.list [V.str (S "html:body")]=U [S "html:body"]from rfl) ..) ?_))
 refine er (Rm (ap bl _) bl (λw hw=>oq hv w (VH (VI hw))) (λw hw=>by refine er (List.mem_singleton.mp hw ..) ?_;kernel_rfl) ..) ?_
 have:=k ([U (((av u).take 2).drop 1)]++[U [S "html:body"]])
 rw[←U9]at this
 exact this
def qN(cl:Cl)(d tok:V)(i:Int):K:=UX (aa d (.str (S "open"))) λx10=>UX (aa x10 (.int i)) λx11=>UX (aa tok (.int 2)) λx12=>UX (cl 855 [d,x11,x12]) λx9=>if am x9=true then(UZ .none)else UY
def Bm(cl:Cl)(d tok:V):K:=UX (bi d (.str (S "is_frameset_ok")) (.bool false)) λ_=>qN cl d tok 1
def Rr(cl:Cl)(d tok:V):K:=(UX (aa d (.str (S "open"))) λx21=>UX (aa x21 (.int 1)) λx22=>UX (aa d (.str (S "children"))) λx24=>UX (aa d (.str (S "parents"))) λx25=>UX (aa x25 x22) λx26=>UX (aa x24 x26) λx27=>ao (TT cl) x27 (S "remove") (λk28=>k28 [x22]) λx23=>if am x23=true then(UX (aa d (.str (S "parents"))) λx29=>UX (bi x29 x22 (.int (-1))) λ_=>UX (aa d (.str (S "open"))) λx30=>UX (bk x30 .none (some (.int 1))) λx31=>UX (bi d (.str (S "open")) x31) λ_=>UX (aa d (.str (S "open"))) λx32=>UX (aa tok (.int 2)) λx34=>UX (cl 828 [d,.str (S "frameset"),x34]) λx33=>UX (aF (.list [x33])) λx35=>UX (ax .Add x32 x35) λx36=>UX (bi d (.str (S "open")) x36) λ_=>UX (bi d (.str (S "mode")) (.str (S "in frameset"))) λ_=>UZ .none)else UY)
def uH(tok:V)(t6:Bool)(a b:K):K:=UX (aa tok (.int 1)) λx50=>UX (af .Eq x50 (.str (S "html"))) λt51=>aC t51 (UX (truthy (.bool t6)) λt52=>aC (!t52) a b) b
def uI(ws tok:V)(t6:Bool)(a b:K):K:=UX (aa tok (.int 1)) λx44=>UX (af .Eq x44 (.str (S "body"))) λt45=>aC t45 (UX (bk ws (some (.int 1)) (some (.int 2))) λx46=>UX (aF (.list [.str (S "html:body")])) λx47=>UX (af .Eq x46 x47) λt48=>aC t48 (UX (truthy (.bool t6)) λt49=>aC (!t49) a b) b) b
def uJ(d ws tok:V)(a b:K):K:=UX (aa tok (.int 1)) λx37=>UX (af .Eq x37 (.str (S "frameset"))) λt38=>aC t38 (UX (bk ws (some (.int 1)) (some (.int 2))) λx39=>UX (aF (.list [.str (S "html:body")])) λx40=>UX (af .Eq x39 x40) λt41=>aC t41 (UX (aa d (.str (S "is_frameset_ok"))) λx42=>UX (truthy x42) λt43=>aC t43 a b) b) b
theorem Rs(cl:Cl)(d tok:V):zf cl d tok=UX (aa tok (.int 1)) λx1=>UX (af .Eq x1 (.str (S "meta"))) λt2=>if t2=true then(UX (cl 816 [d,.str (S "in head"),tok]) λx3=>if am x3=true then(UZ .none)else UY)else(UX (cl 809 [d,.str (S "unexpected-start-tag")]) λx4=>if am x4=true then(UX (cl 785 [d]) λx5=>UX (af .In (.str (S "html:template")) x5) λt6=>uH tok t6 (qN cl d tok 0) (uI x5 tok t6 (Bm cl d tok) (uJ d x5 tok (Rr cl d tok) (UZ .none))))else UY):=by kernel_rfl
theorem Ru{tok:V}{t6:Bool}{a b:K}{name:Str}(t:∀f:V->K,UX (aa tok (.int 1)) f H=f (.str name) H):uH tok t6 a b H=if name=S "html"/\t6=false then a H else b H:=by
 unfold uH
 simp only[t,aM]
 by_cases h:name=S "html"
 ·refine er (decide_eq_true h ..) ?_
  cases t6 with
  |true=>refine er (if_neg λz=>Bool.noConfusion z.2 ..) ?_;rfl
  |false=>refine er (if_pos ⟨h,rfl⟩ ..) ?_;rfl
 ·refine er (decide_eq_false h ..) (er (if_neg λz=>h z.1 ..) ?_);rfl
theorem Rv{j:Nat}{tok:V}{t6:Bool}{a b:K}{name:Str}{P:Option (V×Hp)->Prop}(hv:Vo u)(hl:(av u).length<=1000)(hj:H[j]?=some (U (av u)))(t:∀(H:Hp) (f:V->K),UX (aa tok (.int 1)) f H=f (.str name) H)
  (k:∀G,P (if name=S "body"/\fg u=true/\t6=false then a (H++G)else b (H++G))):P (uI (.ref j) tok t6 a b H):=by
 unfold uI
 simp only[t,aM]
 by_cases h:name=S "body"
 ·refine er (decide_eq_true h ..) ?_
  refine Bl (P:=P) hv hl hj λG=>?_
  have:=k G
  cases hb:fg u with
  |true=>
   rw[hb]at this
   cases t6 with
   |true=>rw[if_neg λz=>Bool.noConfusion z.2.2]at this;exact this
   |false=>rw[if_pos ⟨h,rfl,rfl⟩]at this;exact this
  |false=>rw[hb,if_neg λz=>Bool.noConfusion z.2.1]at this;exact this
 ·have:=k []
  rw[if_neg λz=>h z.1,Vj]at this
  refine er (decide_eq_false h ..) ?_;exact this
theorem Rw{d:V}{j:Nat}{tok:V}{a b:K}{name:Str}{ok:Bool}{P:Option (V×Hp)->Prop}(hv:Vo u)(hl:(av u).length<=1000)(hj:H[j]?=some (U (av u)))(t:∀(H:Hp) (f:V->K),UX (aa tok (.int 1)) f H=f (.str name) H)
  (io:∀G,∀f:V->K,UX (aa d (.str (S "is_frameset_ok"))) f (H++G)=f (.bool ok) (H++G)) (k:∀G,P (if name=S "frameset"/\fg u=true/\ok=true then a (H++G)else b (H++G))):P (uJ d (.ref j) tok a b H):=by
 unfold uJ
 simp only[t,aM]
 by_cases h:name=S "frameset"
 ·refine er (decide_eq_true h ..) ?_
  refine Bl (P:=P) hv hl hj λG=>?_
  have:=k G
  cases hb:fg u with
  |true=>
   rw[hb]at this
   simp only[aO,io]
   cases ok with
   |true=>rw[if_pos ⟨h,rfl,rfl⟩]at this;exact this
   |false=>rw[if_neg λz=>Bool.noConfusion z.2.2]at this;exact this
  |false=>rw[hb,if_neg λz=>Bool.noConfusion z.2.1]at this;exact this
 ·have:=k []
  rw[if_neg λz=>h z.1,Vj]at this
  refine er (decide_eq_false h ..) ?_;exact this
theorem Bn(D:Dw (c+3) H ad W u){i x:Nat}(hi:u.items[i]?=some x){as:List (Str×Str)}(hl:as.length<=3){tok:V}(t:∀f:V->K,UX (aa tok (.int 2)) f H=f (.tup (as.map bz)) H):bv c ad W (fR u x as) .none (qN (cF (n+2)) (.ref (ad .d)) tok (i:Nat) H):=by
 unfold qN
 simp only[fU D,Bk D hi,t]
 exact ik rfl (Rk (n:=n) (c:=c) D (D.f.it x (Vb hi)) hl)
theorem Rx(D:Dw (c+4) H ad W u)(hv:Vo u)(hc:c<=900)(hne:u.items≠[]){as:List (Str×Str)}(hl:as.length<=3)(hb:fg u=true->∃x0 x1 r,∃p:Nat,u.items=x0::x1::r/\br u x1=p/\p<u.names.length/\x1∈aJ u p){name:Str}:
  bv c ad W (jx u name as) .none (cF (n+3) 862 [.ref (ad .d),bT (S "start") name as] H):=by
 have t1:∀(H:Hp) (f:V->K),UX (aa (bT (S "start") name as) (.int 1)) f H=f (.str name) H:=λH f=>kB
 have t2:∀(H:Hp) (f:V->K),UX (aa (bT (S "start") name as) (.int 2)) f H=f (.tup (as.map bz)) H:=λH f=>qv
 have hlen:(av u).length<=1000:=by refine er (gu ..) ?_;have:=D.ri;exact nB ‹_›
 generalize htk:bT (S "start") name as=tok at t1 t2
 simp only[OG,Rs,t1,aM]
 unfold jx
 by_cases h1:name=S "meta"
 ·refine er (decide_eq_true h1 ..) (er (if_pos rfl ..) (er (if_pos h1 ..) (er (htk ..) ?_)))
  exact ik rfl (oj (n:=n+1) (c:=c) (D.le (by lia)))
 ·rw[decide_eq_false h1,if_neg (show¬(false=true) by decide),if_neg h1]
  refine gt (kC (n:=n+1) (c:=c+3) D) λH1 o1 a1 b1 D1=>?_
  simp only[bL]
  refine fW (P:=bv c ad W _ .none) (jt (n:=n+1) D1 hv) λG2 j2 h2=>?_
  have D2:=D1.app G2
  have h2':(H1++G2)[j2]?=some (U (av u)):=h2
  generalize H1++G2=K2 at*
  refine er (ol h2' ..) (er ((show aj (av u) (S "html:template")=l8 u from rfl) ..) (er (Ru (t1 K2) ..) ?_))
  by_cases g1:name=S "html"/\l8 u=false
  ·simp only[if_pos g1,if_pos g1]
   exact(Bn (n:=n) (c:=c) (i:=0) D2 (Av hne) hl (t2 K2)).dup
  ·simp only[if_neg g1,if_neg g1]
   refine Rv (P:=bv c ad W _ .none) hv hlen h2' t1 λG3=>?_
   have D3:=D2.app G3
   by_cases g2:name=S "body"/\fg u=true/\l8 u=false
   ·refine er (if_pos g2 ..) (er (if_pos g2 ..) ?_)
    refine bZ λgP gh=>?_
    refine bZ λgP gh=>?_
    refine ex4_4 (hb g2.2.1) λx0 x1 r p hxs hp1 hp2 hp3=>?_
    refine ex1_2 (Qt D3 false) λH4 D4 e4=>?_
    refine gh ?_;clear gh gP
    refine gh ?_;clear gh gP
    have h0:u.items[1]?=some x1:=by refine er (hxs ..) ?_;rfl
    have e1:u.items.getD 1 0=x1:=by refine er (hxs ..) ?_;rfl
    unfold Bm
    simp only[e4,e1]
    exact(Bn (n:=n) (c:=c) (i:=1) D4 h0 hl (t2 H4)).dup
   ·refine er (if_neg g2 ..) (er (if_neg g2 ..) ?_)
    have h3:(K2++G3)[j2]?=some (U (av u)):=ap h2' G3
    refine Rw (ok:=u.ok) (P:=bv c ad W _ .none) hv hlen h3 t1 (λG f=>Qn (u:=aN u (S "unexpected-start-tag")) (D3.app G)) λG4=>?_
    have D4:=D3.app G4
    by_cases g3:name=S "frameset"/\fg u=true/\u.ok=true
    ·refine er (if_pos g3 ..) (er (if_pos g3 ..) ?_)
     refine ex4_4 (hb g3.2.1) λx0 x1 r p hxs hp1 hp2 hp3=>?_
     exact(Rq (n:=n+1) (c:=c) (u:=aN u (S "unexpected-start-tag")) (D4.le (by lia)) hc hxs hp1 hp2 hp3 hl t2).dup
    ·refine er (if_neg g3 ..) (er (if_neg g3 ..) ?_)
     exact(qC (D4.le (Va _ _))).dup
end
noncomputable def dm:Nat->V->Bool
 |0,_=>false
 |n+1,v=>match v with
  | .none=>true
  | .bool _=>true
  | .int _=>true
  | .str s=>aD s
  | .tup xs=>xs.all (dm n)
  |_=>false
structure bh(s:BS):Prop where
 kn:∀x∈s.kinds,aD x=true
 sn:∀x∈s.spaces,aD x=true
 nn:∀x∈s.names,aD x=true
 an:∀l∈s.attrs,∀p∈l,aD p.1=true/\aD p.2=true
 en:∀e∈s.errors,dm 6 e=true
 mn:aD s.mode=true
 cu:∀e∈s.contents,dH s e.1=some e.2
section
variable{H:Hp}
theorem l9{α β:Type}{f:α->Option β}:∀{xs:List α},(∀x∈xs,(f x).isSome=true)->(xs.mapM f).isSome=true
 |[],_=>rfl
 |x::xs,h=>by
  refine ex1_1 (Option.isSome_iff_exists.mp (h x (U3 ..))) λy hy=>?_
  refine ex1_1 (Option.isSome_iff_exists.mp (l9 (f:=f) λz hz=>h z (U7 _ hz))) λys hys=>?_
  refine er (VS ..) (er (hy ..) (er (hys ..) ?_));rfl
theorem Bo{α β:Type}{f:α->Option β}:∀{xs:List α}{x:α},x∈xs->f x=Option.none->xs.mapM f=Option.none
 |y::xs,x,hm,h=>by
  refine er (VS ..) ?_
  rcases List.mem_cons.mp hm with rfl|hm
  ·refine er (h ..) ?_;rfl
  ·refine er (Bo hm h ..) ?_
   cases f y<;>rfl
theorem Bp{α β:Type}{f:α->Option β}:∀{xs ys:List α},xs.length=ys.length->(∀(i:Nat) (x y:α),xs[i]?=some x->ys[i]?=some y->f x=f y)->xs.mapM f=ys.mapM f
 |[],[],_,_=>rfl
 |[],_::_,h,_=>by simp at h
 |_::_,[],h,_=>by simp at h
 |x::xs,y::ys,h,hf=>by
  refine er (VS ..) (er (VS ..) (er (hf 0 x y rfl rfl ..) (er (Bp (f:=f) (xs:=xs) (ys:=ys) (by simpa using h) λi a b ha hb=>hf (i+1) a b (by simpa using ha) (by simpa using hb) ..) rfl)))
theorem fX{n k:Nat}{xs:List V}(h:H[k]?=some (.list xs)):V.toD H (n+1) (.ref k)=(xs.mapM (V.toD H n)).map PyData.list:=by
 unfold V.toD
 simp only[h]
theorem uK{n k:Nat}{es:List (V×V)}{ep:Option Nat}(h:H[k]?=some (.dict es ep)):V.toD H (n+1) (.ref k)=Option.none:=by
 unfold V.toD
 simp only[h]
theorem uL:∀(n:Nat) (v:V) (d:PyData),V.toD H n v=some d->d.canLay0=true
 |0,v,d,h=>by unfold V.toD at h;exact ak h
 |n+1,v,d,h=>by
  have all:∀(xs:List V) (ds:List PyData),xs.mapM (V.toD H n)=some ds->PyData.canLayAll0 ds=true:=λxs=>by
   induction xs with
   |nil=>intro ds h;cases h;rfl
   |cons x xs ih=>
    intro ds h
    rw[VS]at h
    cases h1:V.toD H n x with
    |none=>rw[h1]at h;exact ak h
    |some d1=>
     cases h2:xs.mapM (V.toD H n)with
     |none=>rw[h1,h2]at h;exact ak h
     |some ds2=>
      rw[h1,h2]at h
      cases h
      have c1:=uL n x d1 h1
      have c2:=ih ds2 h2
      simp[PyData.canLayAll0,c1,c2]
  unfold V.toD at h
  cases v with
  |none=>cases h;simp[PyData.canLay0]
  |bool b=>cases h;simp[PyData.canLay0]
  |int i=>cases h;simp[PyData.canLay0]
  |str s=>
   dsimp only at h
   refine ai (eP h) λhf h=>?_
   cases h
   unfold aD at hf
   rw[U2]at hf;exact hf.1
  |tup xs=>
   dsimp only at h
   refine ex1_2 (Option.map_eq_some_iff.mp h) λds h1 zq2=>?_;subst zq2
   dsimp only[PyData.canLay0];exact all xs ds h1
  |ref k=>
   dsimp only at h
   split at h
   ·refine ex1_2 (Option.map_eq_some_iff.mp h) λds h1 zq2=>?_;subst zq2
    dsimp only[PyData.canLay0];exact all _ ds h1
   ·exact ak h
  |fn a=>exact ak h
  |frz xs=>exact ak h
theorem oz:∀(n:Nat) (v:V),dm n v=true->(V.toD H n v).isSome=true
 |0,v,h=>by unfold dm at h;exact nomatch h
 |n+1,v,h=>by
  unfold dm at h
  unfold V.toD
  cases v with
  |none=>rfl
  |bool b=>rfl
  |int i=>rfl
  |str s=>dsimp only at h⊢;refine er (if_pos h ..) ?_;rfl
  |tup xs=>
   dsimp only at h⊢
   refine er (V1 ..) ?_
   exact l9 λx hx=>oz n x (List.all_eq_true.mp h x hx)
  |ref k=>exact nomatch h
  |fn a=>exact nomatch h
  |frz xs=>exact nomatch h
theorem uM{a b:V}(h:V.toD H 7 a=V.toD H 7 b)(hs:(V.toD H 7 a).isSome=true):cY H a b=true:=by
 refine ex1_1 (Option.isSome_iff_exists.mp hs) λd hd=>?_
 unfold cY
 refine el (h ..) (er (hd ..) ?_)
 exact PySem.SeqAt.eqv_refl d (uL 7 a d hd)
theorem l_{j k:Nat}{xs:List V}(h:H[j]?=some (.list xs))(h2:H[k]?=some (.list xs))(hx:∀x∈xs,dm 6 x=true):cY H (.ref j) (.ref k)=true:=by
 refine uM (by refine er (fX h ..) (er (fX h2 ..) rfl)) ?_
 refine er (fX h ..) (er (V1 ..) ?_)
 exact l9 λx hm=>oz 6 x (hx x hm)
theorem qO{v:V}(h:dm 7 v=true):cY H v v=true:=uM rfl (oz 7 v h)
theorem Bq{j k:Nat}{xs ys:List Nat}(h:H[j]?=some (aS xs))(h2:H[k]?=some (aS ys))(hl:xs.length=ys.length)(hx:∀(i x y:Nat),xs[i]?=some x->ys[i]?=some y->∃l:List V,H[x]?=some (O.list l)/\H[y]?=some (O.list l)/\∀v∈l,dm 5 v=true):cY H (.ref j) (.ref k)=true:=by
 refine uM ?_ ?_
 ·refine er (fX h ..) (er (fX h2 ..) ?_)
  congr 1
  refine Bp (by simpa using hl) λi a b ha hb=>?_
  rw[Vh,VA]at ha hb
  refine ex1_2 (ha) λx hx' zq2=>?_;subst zq2
  refine ex1_2 (hb) λy hy' zq2=>?_;subst zq2
  refine ex1_3 (hx i x y hx' hy') λl l1 l2 _=>?_
  refine er (fX l1 ..) (er (fX l2 ..) rfl)
 ·refine er (fX h ..) (er (V1 ..) ?_)
  refine l9 λv hv=>?_
  refine ex1_2 (List.mem_map.mp hv) λx hm zq2=>?_;subst zq2
  obtain⟨i,hi,e⟩:=WC hm
  have h1:xs[i]?=some x:=by refine er (U8 hi ..) (er (e ..) rfl)
  refine ex1_3 (hx i x (ys[i]'(hl▸hi)) h1 (U8 (hl▸hi))) λl l1 _ l3=>?_
  refine er (fX l1 ..) (er (V1 ..) ?_)
  exact l9 λv hm=>oz 5 v (l3 v hm)
theorem Ry{j k:Nat}{s:BS}{e1 e2:Option Nat}(h:H[j]?=some (.dict (s.contents.map bS) e1))(h2:H[k]?=some (.dict (s.contents.map bS) e2))(hu:∀e∈s.contents,dH s e.1=some e.2)(hl:s.contents.length<=1000):cY H (.ref j) (.ref k)=true:=by
 unfold cY
 refine er (uK h ..) (er (uK h2 ..) ?_)
 simp only[h,h2]
 have hk:((s.contents.map bS).all λe=>V.isKeyInt e.1&&V.isKeyInt e.2)=true:=by simp[bS,V.isKeyInt]
 have hf:aV (s.contents.map bS).length=true:=by unfold aV;simp;exact nD ‹_›
 unfold iw
 simp only[hk,hf,Yc,if_true,decide_true,Xv]
 have hd:∀p∈s.contents,bo (bS p).1 (s.contents.map bS)=some (.int (p.2:Nat)):=λp hp=>by
  have h3:=hu p hp
  unfold dH at h3
  show bo (.int (p.1:Nat)) (s.contents.map bS)=_
  refine er (kz ..) (er (h3 ..) ?_);rfl
 rw[List.all_eq_true.mpr]
 ·rfl
 ·intro e he
  refine ex1_2 (List.mem_map.mp he) λp hp zq2=>?_;subst zq2
  refine er (hd p hp ..) ?_
  exact decide_eq_true rfl
end
noncomputable def gQ(ad:Ad)(oA:Nat)(u:BS):List (V×V):=[(.str (S "open"),.ref oA),(.str (S "names"),.ref (ad .dnames)),(.str (S "spaces"),.ref (ad .dspaces)),(.str (S "attrs"),.ref (ad .dattrs)),(.str (S "parents"),.ref (ad .dparents)),(.str (S "children"),.ref (ad .dchildren)),(.str (S "errors"),.ref (ad .derrors)),
 (.str (S "form"),.int u.form),(.str (S "is_frameset_ok"),.bool u.ok),(.str (S "mode"),.str u.mode),(.str (S "is_done"),.bool u.done),(.str (S "contents"),.ref (ad .dcontents)),(.str (S "kinds"),.ref (ad .dkinds))]
noncomputable def fh(ad:Ad)(s:BS):List V:=[.ref (ad .items),.ref (ad .names),.ref (ad .spaces),.ref (ad .attrs),.ref (ad .parents),.ref (ad .children),.ref (ad .errors),.int s.form,.bool s.ok,.str s.mode,.bool s.done,.ref (ad .contents),.ref (ad .kinds)]
noncomputable def gR(ad:Ad)(oA:Nat)(u:BS):List V:=[.ref oA,.ref (ad .dnames),.ref (ad .dspaces),.ref (ad .dattrs),.ref (ad .dparents),.ref (ad .dchildren),.ref (ad .derrors),.int u.form,.bool u.ok,.str u.mode,.bool u.done,.ref (ad .dcontents),.ref (ad .dkinds)]
section
variable{H:Hp}{ad:Ad}{W:Wd}{cl:Cl}{n c:Nat}{f:V->K}{g:Bool->K}{u:BS}{o:Nat}{a b:List Nat}
theorem Rz{k ep m i:Nat}{es:List (V×V)}(h:H[k]?=some (.dict es (some ep)))(hm:es.length=m)(hs:(es.all λe=>V.isKeyStr e.1)=true):b8 (.keys k ep m) i H=some ((es.map (·.1))[i]?,H):=by
 refine(aq (f:=rC i ep m) (cj h)).trans ?_
 refine(congrFun (if_pos (by refine er (hm ..) (er (hs ..) ?_);simp)) H).trans ?_
 refine er (Vh ..) ?_
 rfl
theorem RA{k ep:Nat}{es:List (V×V)}{g:It->K}(h:H[k]?=some (.dict es (some ep)))(hs:(es.all λe=>V.isKeyStr e.1)=true):UX (ce (.ref k)) g H=g (.keys k ep es.length) H:=by
 refine aq ?_
 exact(aq (f:=oV k) (cj h)).trans (congrFun (if_pos hs) H)
theorem RB(D:Dw c H ad W u){k:V->K}{P:Option (V×Hp)->Prop}(fin:∀G,P (k (.ref H.length) (H++ .list (gR ad W.oA u)::G))):
  P (UX (ce (.ref (ad .d))) (λit=>cg it (λv24 k25=>UX (aa (.ref (ad .d)) v24) λx29=>k25 x29) (λ_ k27=>k27 true) k) H):=by
 have hg:H[ad .d]?=some (.dict (gQ ad W.oA u) (some 13)):=eB D
 have hs:((gQ ad W.oA u).all λe=>V.isKeyStr e.1)=true:=rfl
 refine er (RA hg hs ..) ?_
 obtain⟨G,e⟩:=ul (it:= .keys (ad .d) 13 (gQ ad W.oA u).length) (k:=k) (elt:=λv24 k25=>UX (aa (.ref (ad .d)) v24) λx29=>k25 x29) (cond:=λ_ k27=>k27 true) H ((gQ ad W.oA u).map (·.1)) (λv=>(bo v (gQ ad W.oA u)).getD .none) (λ_=>true) rfl rfl
  (λi L=>Rz (ap hg L) rfl hs) (λys G v _=>⟨[],λkn=>by refine er (Vj ..) rfl⟩) (λys G v hv _=>⟨[],λkn=>by
   refine er (Vj ..) ?_
   have hd:∀(key:Str) (x:V),v= .str key->bo (.str key) (gQ ad W.oA u)=some x->(UX (aa (.ref (ad .d)) v) λx29=>kn x29) (H++O.list ys::G)=kn ((bo v (gQ ad W.oA u)).getD .none) (H++O.list ys::G):=λkey x e1 e2=>by
    subst e1
    refine er (dE (ap hg (O.list ys::G)) rfl e2 ..) (er (e2 ..) ?_);rfl
   simp only[gQ,Vi,WT,WP,XM,or_false]at hv
   rcases hv with h|h|h|h|h|h|h|h|h|h|h|h|h
   ·exact hd _ (.ref W.oA) h (by kernel_rfl)
   ·exact hd _ (.ref (ad .dnames)) h (by kernel_rfl)
   ·exact hd _ (.ref (ad .dspaces)) h (by kernel_rfl)
   ·exact hd _ (.ref (ad .dattrs)) h (by kernel_rfl)
   ·exact hd _ (.ref (ad .dparents)) h (by kernel_rfl)
   ·exact hd _ (.ref (ad .dchildren)) h (by kernel_rfl)
   ·exact hd _ (.ref (ad .derrors)) h (by kernel_rfl)
   ·exact hd _ (.int u.form) h (by kernel_rfl)
   ·exact hd _ (.bool u.ok) h (by kernel_rfl)
   ·exact hd _ (.str u.mode) h (by kernel_rfl)
   ·exact hd _ (.bool u.done) h (by kernel_rfl)
   ·exact hd _ (.ref (ad .dcontents)) h (by kernel_rfl)
   ·exact hd _ (.ref (ad .dkinds)) h (by kernel_rfl)⟩) (by simp[gQ])
 refine er (e ..) ?_
 have hL:O.list ((((gQ ad W.oA u).map (·.1)).filter λ_=>true).map λv=>(bo v (gQ ad W.oA u)).getD .none)=O.list (gR ad W.oA u):=by kernel_rfl
 refine er (hL ..) ?_
 exact fin G
theorem RC(Q:BV H ad W)(D:Dw c H ad W W.s)(hA:W.aA.length=W.s.names.length)(hC:W.cA.length=W.s.names.length)(F:bh W.s):gx H (fh ad W.s) (gR ad W.oA W.s)=true:=by
 have wf:=D.f
 have dn:∀(m:Nat) (l:List Nat),∀v∈l.map (λi=>V.int (i:Nat)),dm (m+1) v=true:=λm l v hv=>by
  obtain⟨i,_,rfl⟩:=List.mem_map.mp hv;rfl
 have ds:∀(m:Nat) (l:List Str),(∀x∈l,aD x=true)->∀v∈l.map V.str,dm (m+1) v=true:=λm l hl v hv=>by
  obtain⟨x,hx,rfl⟩:=List.mem_map.mp hv;exact hl x hx
 have h1:cY H (.ref (ad .items)) (.ref W.oA)=true:=l_ (dQ Q) (fS D) (dn 5 _)
 have h2:cY H (.ref (ad .names)) (.ref (ad .dnames))=true:=l_ (nz Q) (qA D) (ds 5 _ F.nn)
 have h3:cY H (.ref (ad .spaces)) (.ref (ad .dspaces))=true:=l_ (ny Q) (AD D) (ds 5 _ F.sn)
 have h5:cY H (.ref (ad .parents)) (.ref (ad .dparents))=true:=l_ (kg Q) (ug D) (λv hv=>by
  obtain⟨i,_,rfl⟩:=List.mem_map.mp hv;rfl)
 have h13:cY H (.ref (ad .kinds)) (.ref (ad .dkinds))=true:=l_ (nx Q) (Qr D) (ds 5 _ F.kn)
 have h7:cY H (.ref (ad .errors)) (.ref (ad .derrors))=true:=l_ (qe Q) (qB D) F.en
 have h4:cY H (.ref (ad .attrs)) (.ref (ad .dattrs))=true:=Bq (nC Q) (Qp D) (by refine er (hA ..) (er (D.la ..) rfl)) λi x y hx hy=>by
  have hi:i<W.s.attrs.length:=by refine er (wf.la ..) (el (hA ..) ?_);exact(List.getElem?_eq_some_iff.mp hx).1
  refine⟨(bN W.s i).map bz,?_,?_,λv hv=>?_⟩
  ·have:=tQ Q hi
   rw[show W.aA.getD i 0=x by refine er (U1 ..) (er (hx ..) ?_);rfl]at this;exact this
  ·have:=D.v.get (.dat i) (bm (bN W.s i)) ((congrArg (λz:Option BS=>z.bind λu=>u.attrs[i]?.map bm) D.hu).trans (congrArg (Vc bm) (h_ hi)))
   rw[show bj ad W (.dat i)=W.uA.getD i 0 from rfl,show W.uA.getD i 0=y by refine er (U1 ..) (er (hy ..) ?_);rfl]at this;exact this
  ·obtain⟨p,hp,rfl⟩:=List.mem_map.mp hv
   have:=F.an (bN W.s i) (by unfold bN;refine er (U1 ..) (er (U8 hi ..) ?_);simp) p hp
   show([V.str p.1,V.str p.2].all (dm 4))=true
   simp only[VL,WJ,V2]
   show(aD p.1&&aD p.2)=true
   refine er (this.1 ..) (er (this.2 ..) ?_);rfl
 have h6:cY H (.ref (ad .children)) (.ref (ad .dchildren))=true:=Bq (nL Q) (Qq D) (by refine er (hC ..) (er (D.lc ..) rfl)) λi x y hx hy=>by
  have hi:i<W.s.children.length:=by refine er (wf.lc ..) (el (hC ..) ?_);exact(List.getElem?_eq_some_iff.mp hx).1
  refine⟨(aJ W.s i).map λi=> .int (i:Nat),?_,?_,dn 4 _⟩
  ·have:=lS Q hi
   rw[show W.cA.getD i 0=x by refine er (U1 ..) (er (hx ..) ?_);rfl]at this;exact this
  ·have:=D.v.get (.dch i) (ay (aJ W.s i)) ((congrArg (λz:Option BS=>z.bind λu=>u.children[i]?.map ay) D.hu).trans (congrArg (Vc ay) (h_ hi)))
   rw[show bj ad W (.dch i)=W.uC.getD i 0 from rfl,show W.uC.getD i 0=y by refine er (U1 ..) (er (hy ..) ?_);rfl]at this;exact this
 have h12:cY H (.ref (ad .contents)) (.ref (ad .dcontents))=true:=Ry (s:=W.s) (jf Q) (uh D) F.cu (by have:=wf.cn;have:=wf.bn;exact nI ‹_› ‹_›)
 have h8:cY H (.int W.s.form) (.int W.s.form)=true:=qO rfl
 have h9:cY H (.bool W.s.ok) (.bool W.s.ok)=true:=qO rfl
 have h10:cY H (.str W.s.mode) (.str W.s.mode)=true:=qO F.mn
 have h11:cY H (.bool W.s.done) (.bool W.s.done)=true:=qO rfl
 delta fh gR
 simp only[gx,h1,h2,h3,h4,h5,h6,h7,h8,h9,h10,h11,h12,h13,Yc]
end
def gS(cl:Cl)(b d:V):K:=UX (ab b (S "tree") (TT cl)) λx5=>UX (ab b (S "stack") (TT cl)) λx6=>UX (ab x6 (S "items") (TT cl)) λx7=>UX (ab x5 (S "names") (TT cl)) λx8=>UX (ab x5 (S "spaces") (TT cl)) λx9=>UX (ab x5 (S "attrs") (TT cl)) λx10=>UX (ab x5 (S "parents") (TT cl)) λx11=>UX (ab x5 (S "children") (TT cl)) λx12=>UX (ab b (S "errors") (TT cl)) λx13=>UX (aF (.list [x7,x8,x9,x10,x11,x12,x13])) λx14=>UX (ab b (S "form") (TT cl)) λx15=>UX (ab b (S "is_frameset_ok") (TT cl)) λx16=>UX (ab b (S "mode") (TT cl)) λx17=>UX (ab b (S "is_done") (TT cl)) λx18=>UX (ab x5 (S "contents") (TT cl)) λx19=>UX (ab x5 (S "kinds") (TT cl)) λx20=>UX (aF (.list [x15,x16,x17,x18,x19,x20])) λx21=>UX (ax .Add x14 x21) λx22=>UX (ce d) λit23=>cg it23 (λv24 k25=>UX (aa d v24) λx29=>k25 x29) (λ_ k27=>k27 true) λx28=>UX (af .Eq x22 x28) λt30=>UZ (.bool t30)
section
variable{H:Hp}{ad:Ad}{W:Wd}{cl:Cl}{n c:Nat}{f:V->K}{g:Bool->K}{u:BS}{o:Nat}{a b:List Nat}
theorem RD(Q:Vw c H ad W)(D:Dw c H ad W W.s)(F:bh W.s):Ai H (.bool true) (gS cl (.ref (ad .b)) (.ref (ad .d)) H):=by
 unfold gS
 simp only[eM Q.v,bP Q.v,tw Q.v,gL Q.v,gM Q.v,nS Q.v,iP Q.v,lH Q.v,dj Q.v]
 simp only[cH]
 have B1:=Q.v.app [O.list [V.ref (ad .items),V.ref (ad .names),V.ref (ad .spaces),V.ref (ad .attrs),V.ref (ad .parents),V.ref (ad .children),V.ref (ad .errors)]]
 simp only[qf B1,nP B1,tv B1,O6 B1,qg B1,lI B1]
 simp only[cH]
 have g1:(H++[O.list [V.ref (ad .items),V.ref (ad .names),V.ref (ad .spaces),V.ref (ad .attrs),V.ref (ad .parents),V.ref (ad .children),V.ref (ad .errors)]])[H.length]?=some (O.list [V.ref (ad .items),V.ref (ad .names),V.ref (ad .spaces),V.ref (ad .attrs),V.ref (ad .parents),V.ref (ad .children),V.ref (ad .errors)]):=bl
 have D1:=D.app [O.list [V.ref (ad .items),V.ref (ad .names),V.ref (ad .spaces),V.ref (ad .attrs),V.ref (ad .parents),V.ref (ad .children),V.ref (ad .errors)]]
 generalize hK1:H++[O.list [V.ref (ad .items),V.ref (ad .names),V.ref (ad .spaces),V.ref (ad .attrs),V.ref (ad .parents),V.ref (ad .children),V.ref (ad .errors)]]=K1 at*
 have g2:=ap g1 [O.list [V.int W.s.form,V.bool W.s.ok,V.str W.s.mode,V.bool W.s.done,V.ref (ad .contents),V.ref (ad .kinds)]]
 have g3:(K1++[O.list [V.int W.s.form,V.bool W.s.ok,V.str W.s.mode,V.bool W.s.done,V.ref (ad .contents),V.ref (ad .kinds)]])[K1.length]?=some (O.list [V.int W.s.form,V.bool W.s.ok,V.str W.s.mode,V.bool W.s.done,V.ref (ad .contents),V.ref (ad .kinds)]):=bl
 refine er (add_lists g2 g3 (by simp) ..) ?_
 simp only[show O.list ([V.ref (ad .items),V.ref (ad .names),V.ref (ad .spaces),V.ref (ad .attrs),V.ref (ad .parents),V.ref (ad .children),V.ref (ad .errors)]++[V.int W.s.form,V.bool W.s.ok,V.str W.s.mode,V.bool W.s.done,V.ref (ad .contents),V.ref (ad .kinds)])=O.list (fh ad W.s)from rfl]
 have D2:=D1.app [O.list [V.int W.s.form,V.bool W.s.ok,V.str W.s.mode,V.bool W.s.done,V.ref (ad .contents),V.ref (ad .kinds)]]
 have hK2:∃L,K1++[O.list [V.int W.s.form,V.bool W.s.ok,V.str W.s.mode,V.bool W.s.done,V.ref (ad .contents),V.ref (ad .kinds)]]=H++L:=⟨_,by refine el (hK1 ..) (er (U9 ..) rfl)⟩
 generalize K1++[O.list [V.int W.s.form,V.bool W.s.ok,V.str W.s.mode,V.bool W.s.done,V.ref (ad .contents),V.ref (ad .kinds)]]=K2 at*
 obtain⟨L,rfl⟩:=hK2
 have D3:=D2.app [O.list (fh ad W.s)]
 have g4:(H++L++[O.list (fh ad W.s)])[(H++L).length]?=some (O.list (fh ad W.s)):=bl
 refine RB (P:=Ai H _) D3 λG=>?_
 have D4:=D3.app (O.list (gR ad W.oA W.s)::G)
 have B4:=((Q.v.app L).app [O.list (fh ad W.s)]).app (O.list (gR ad W.oA W.s)::G)
 have g5:=ap g4 (O.list (gR ad W.oA W.s)::G)
 have g6:(H++L++[O.list (fh ad W.s)]++O.list (gR ad W.oA W.s)::G)[(H++L++[O.list (fh ad W.s)]).length]?=some (O.list (gR ad W.oA W.s)):=bl
 have he:=RC B4 D4 Q.la Q.lc F
 generalize hK5:H++L++[O.list (fh ad W.s)]++O.list (gR ad W.oA W.s)::G=K5 at*
 have ht:V.toD K5 8 (.ref (H++L).length)=Option.none:=by
  refine er (fX g5 ..) (er (Bo (x:= .ref (ad .contents)) (by simp[fh]) (uK (jf B4)) ..) ?_);rfl
 have hp:jF (.ref (H++L).length) (.ref (H++L++[O.list (fh ad W.s)]).length) K5=some (true,K5):=by
  exact(uo g5 g6).trans (Qw ht he rfl)
 refine⟨L++[O.list (fh ad W.s)]++O.list (gR ad W.oA W.s)::G,?_⟩
 have:=aq (m:=af .Eq (.ref (H++L).length) (.ref (H++L++[O.list (fh ad W.s)]).length)) (f:=λt30=>(UZ (.bool t30):K)) hp
 refine er (this ..) (el (hK5 ..) ?_)
 simp[UZ]
end
noncomputable def cv(w:Str):Str:=Txt.slice w (some 1) none
noncomputable def w0(w:Str):Str:=⟨#[w.cps.getD 0 0]⟩
noncomputable def gv(s:BS)(w:Str)(as:List (Str×Str))(modes:List Str):BS:=if w=S "eof"then gp s modes else if w0 w=S "<"then gq s (cv w) as else if aj [S "body",S "html",S "template"] (cv w)then fc s (cv w)else jn s (cv w)
noncomputable def oB(s:BS)(w:Str)(as:List (Str×Str))(modes:List Str):BS:=if w=S "eof"then l0 s modes else if w0 w=S "<"then jx s (cv w) as else if aj [S "body",S "html",S "template"] (cv w)then l4 s (cv w)else iU s (cv w)
structure uN(s:BS)(w:Str)(as:List (Str×Str))(modes:List Str):Prop where
 wf:aD w=true
 w1:0<w.cps.size
 nf:(cv w).cps.size<=1000
 ne:s.items≠[]
 fm:s.form= -1∨0<=s.form
 vo:Vo s
 ns:(cb (av s)).getLast?≠none
 b2:cW s=true->∃p:Nat,br s (s.items.getD 1 0)=p/\p<s.names.length/\s.items.getD 1 0∈aJ s p
 d2:fg s=true->∃x0 x1 r,∃p:Nat,s.items=x0::x1::r/\br s x1=p/\p<s.names.length/\x1∈aJ s p
 al:as.length<=3
 mf:∀x∈modes,aD x=true
 ml:modes.length<=1000
 ag:oB s w as modes=gv s w as modes
 fi:bh (gv s w as modes)
noncomputable def dT(c:Nat)(ad:Ad)(W:Wd)(s:BS)(r:Option (V×Hp)):Prop:=∃H' a b o a' b',Vw c H' ad ((W.up s a b).dup s o a' b')/\Dw c H' ad ((W.up s a b).dup s o a' b') s/\r=some (.bool true,H')
section
variable{H:Hp}{ad:Ad}{W:Wd}{cl:Cl}{n c:Nat}{f:V->K}{g:Bool->K}{u:BS}{o:Nat}{a b:List Nat}
theorem Vw.ofD{c':Nat}{H':Hp}(Q:Vw c H ad W)(D':Dw c' H' ad (W.dup u o a b) u):Vw c H' ad (W.dup u o a b):=⟨D'.v,Q.f,Q.la,Q.lc,Q.rn,Q.re,Q.ri,Q.ra⟩
theorem Dw.ofV{c':Nat}{H':Hp}{s:BS}(D:Dw c H ad W u)(Q':Vw c' H' ad (W.up s a b)):Dw c H' ad (W.up s a b) u:=⟨Q'.v,D.hu,D.f,D.la,D.lc,D.rn,D.re,D.ri,D.ra⟩
theorem Vw.app(Q:Vw c H ad W)(G:Hp):Vw c (H++G) ad W:=⟨Q.v.app G,Q.f,Q.la,Q.lc,Q.rn,Q.re,Q.ri,Q.ra⟩
theorem RE{w:Str}(h:aD w=true):UX (bk (.str w) (some (.int 1)) .none) f H=f (.str (cv w)) H:=by
 refine aq ?_
 exact congrFun (if_pos h) H
theorem RF{w:Str}(h:0<w.cps.size):UX (aa (.str w) (.int 0)) f H=f (.str (w0 w)) H:=by
 refine aq ?_
 show(if small 0&&(decide ((0:Int)<=0)&&decide ((0:Int)<w.cps.size))then UZ (.str ⟨#[w.cps.getD (0:Int).toNat 0]⟩)else UY:M V) H=_
 rw[if_pos]
 ·rfl
 ·have:small 0=true:=by decide
  simp only[this]
  simp;assumption
theorem qP{s:BS}{H1 H2:Hp}(Q:Vw c H1 ad (W.up s a b))(hs:u=s){o:Nat}{a' b':List Nat}(D:Dw c H2 ad ((W.up s a b).dup u o a' b') u)(F:bh s):dT c ad W s (gS cl (.ref (ad .b)) (.ref (ad .d)) H2):=by
 subst hs
 have Q2:=Q.ofD D
 refine ex1_1 (RD (cl:=cl) Q2 D F) λG e=>?_
 exact⟨H2++G,a,b,o,a',b',Q2.app G,D.app G,e⟩
theorem RG{s s':BS}{r:Option (V×Hp)}(h:dT c ad ((W.up s' a b).dup s' o a' b') s r):dT c ad W s r:=h
theorem RH(Q:Vw (c+8) H ad W)(D:Dw (c+8) H ad W W.s)(he:l0 W.s W.modes=gp W.s W.modes)(F:bh (gp W.s W.modes))(hv:Vo W.s)(hm:∀x∈W.modes,aD x=true)(hl:W.modes.length<=1000):
  dT c ad W (gp W.s W.modes) ((UX (cF (n+8) 698 [.ref (ad .b),(.tup [.str (S "eof")])]) λx32=>if am x32=true then(UX (ab (.ref (ad .b)) (S "modes") (TT (cF (n+8)))) λx34=>UX (cF (n+8) 869 [.ref (ad .d),x34]) λx33=>if am x33=true then(gS (cF (n+8)) (.ref (ad .b)) (.ref (ad .d)))else UY)else UY) H):=by
 refine cR (P:=dT c ad W _) (P8 (n:=n+5) (c:=c) (Q.le (by omega)) hl).fl λH1 a b Q1=>?_
 refine er (tu Q1.v ..) ?_
 have D1:=D.ofV Q1
 refine gt (P:=dT c ad W _) (QY (n:=n+5) (c:=c) (D1.le (by omega)) hv hm) λH2 o a' b' D2=>?_
 simp only[bL]
 exact qP Q1 he D2 F
theorem RJ(Q:Vw (c+8) H ad W)(D:Dw (c+8) H ad W W.s)(hc:c<=900){name:Str}{as:List (Str×Str)}(he:jx W.s name as=gq W.s name as)(F:bh (gq W.s name as))(hv:Vo W.s)(hne:W.s.items≠[])(hl:as.length<=3)
  (hb:cW W.s=true->∃p:Nat,br W.s (W.s.items.getD 1 0)=p/\p<W.s.names.length/\W.s.items.getD 1 0∈aJ W.s p) (hd:fg W.s=true->∃x0 x1 r,∃p:Nat,W.s.items=x0::x1::r/\br W.s x1=p/\p<W.s.names.length/\x1∈aJ W.s p):
  dT c ad W (gq W.s name as) ((UX (cF (n+8) 705 [.ref (ad .b),bT (S "start") name as]) λx37=>if am x37=true then(UX (cF (n+8) 862 [.ref (ad .d),bT (S "start") name as]) λx38=>if am x38=true then(gS (cF (n+8)) (.ref (ad .b)) (.ref (ad .d)))else UY)else UY) H):=by
 refine cR (P:=dT c ad W _) (Qk (n:=n) (c:=c) (Q.le (by omega)) hne hl hc hb).fl λH1 a b Q1=>?_
 have D1:=D.ofV Q1
 refine gt (P:=dT c ad W _) (Rx (n:=n+5) (c:=c) (D1.le (by omega)) hv hc hne hl hd) λH2 o a' b' D2=>?_
 simp only[bL]
 exact qP Q1 he D2 F
theorem RK(Q:Vw (c+8) H ad W)(D:Dw (c+8) H ad W W.s){name:Str}(he:l4 W.s name=fc W.s name)(F:bh (fc W.s name))(hv:Vo W.s)(hne:W.s.items≠[]):
  dT c ad W (fc W.s name) ((UX (cF (n+8) 712 [.ref (ad .b),bT (S "end") name []]) λx37=>if am x37=true then(UX (cF (n+8) 850 [.ref (ad .d),bT (S "end") name []]) λx38=>if am x38=true then(gS (cF (n+8)) (.ref (ad .b)) (.ref (ad .d)))else UY)else UY) H):=by
 refine cR (P:=dT c ad W _) (Qj (n:=n+2) (c:=c) (Q.le (by omega))).fl λH1 a b Q1=>?_
 have D1:=D.ofV Q1
 refine gt (P:=dT c ad W _) (QZ (n:=n+5) (c:=c) (D1.le (by omega)) hv hne) λH2 o a' b' D2=>?_
 simp only[bL]
 exact qP Q1 he D2 F
theorem RL(Q:Vw (c+8) H ad W)(D:Dw (c+8) H ad W W.s)(hc:c<=900){name:Str}(he:iU W.s name=jn W.s name)(F:bh (jn W.s name))(hv:Vo W.s)(hne:W.s.items≠[])(hf:W.s.form= -1∨0<=W.s.form)(hn:name.cps.size<=1000)(hns:(cb (av W.s)).getLast?≠none):
  dT c ad W (jn W.s name) ((UX (cF (n+8) 317 [.ref (ad .b),.str name]) λx37=>if am x37=true then(UX (cF (n+8) 838 [.ref (ad .d),.str name]) λx38=>if am x38=true then(gS (cF (n+8)) (.ref (ad .b)) (.ref (ad .d)))else UY)else UY) H):=by
 refine cR (P:=dT c ad W _) (PW (n:=n+1) (c:=c) (Q.le (by lia)) hne hf).fl λH1 a b Q1=>?_
 have D1:=D.ofV Q1
 refine gt (P:=dT c ad W _) (Ri (n:=n+4) (c:=c) (D1.le (by lia)) hv hne hc hn hf hns) λH2 o a' b' D2=>?_
 simp only[bL]
 exact qP Q1 he D2 F
end
section
variable{H:Hp}{ad:Ad}{W:Wd}{cl:Cl}{n c:Nat}{f:V->K}{g:Bool->K}{u:BS}{o:Nat}{a b:List Nat}
def uO(cl:Cl)(b d w nm at_:V):K:=UX (af .Eq w (.str (S "eof"))) λt31=>if t31=true then(UX (cl 698 [b,(.tup [.str (S "eof")])]) λx32=>if am x32=true then(UX (ab b (S "modes") (TT cl)) λx34=>UX (cl 869 [d,x34]) λx33=>if am x33=true then(gS cl b d)else UY)else UY)else(UX (aa w (.int 0)) λx35=>UX (af .Eq x35 (.str (S "<"))) λt36=>if t36=true then(UX (cl 705 [b,(.tup [.str (S "start"),nm,at_,(.bool false)])]) λx37=>if am x37=true then(UX (cl 862 [d,(.tup [.str (S "start"),nm,at_,(.bool false)])]) λx38=>if am x38=true then(gS cl b d)else UY)else UY)else(UX (af .In nm (.tup [.str (S "body"),.str (S "html"),.str (S "template")])) λt39=>if t39=true then(UX (cl 712 [b,(.tup [.str (S "end"),nm,(.tup []),(.bool false)])]) λx40=>if am x40=true then(UX (cl 850 [d,(.tup [.str (S "end"),nm,(.tup []),(.bool false)])]) λx41=>if am x41=true then(gS cl b d)else UY)else UY)else(UX (cl 317 [b,nm]) λx42=>if am x42=true then(UX (cl 838 [d,nm]) λx43=>if am x43=true then(gS cl b d)else UY)else UY)))
theorem RN(b d w at_:V):cF (n+1) 874 [b,d,w,at_]=ao (TT (cF n)) b (S "to") (λk2=>k2 [.str (S "in body")]) λx1=>if am x1=true then(UX (bi d (.str (S "mode")) (.str (S "in body"))) λ_=>UX (bk w (some (.int 1)) .none) λx3=>uO (cF n) b d w x3 at_)else UY:=by
 refine er (OJ ..) ?_;rfl
theorem RO(Q:Vw (c+8) H ad W)(D:Dw (c+8) H ad W W.s)(hc:c<=900){w:Str}{as:List (Str×Str)}(P:uN W.s w as W.modes):dT c ad W (gv W.s w as W.modes) (uO (cF (n+8)) (.ref (ad .b)) (.ref (ad .d)) (.str w) (.str (cv w)) (.tup (as.map bz)) H):=by
 have ag:=P.ag
 have fi:=P.fi
 unfold gv at ag fi⊢
 unfold oB at ag
 unfold uO
 simp only[aM]
 by_cases h1:w=S "eof"
 ·rw[if_pos h1]at ag fi⊢
  rw[if_pos h1]at ag
  refine er (decide_eq_true h1 ..) (er (if_pos (show true=true from rfl) ..) ?_)
  exact RH Q D ag fi P.vo P.mf P.ml
 ·rw[if_neg h1]at ag fi⊢
  rw[if_neg h1]at ag
  rw[decide_eq_false h1,if_neg (show¬(false=true) by decide),RF P.w1,aM]
  by_cases h2:w0 w=S "<"
  ·rw[if_pos h2]at ag fi⊢
   rw[if_pos h2]at ag
   refine er (decide_eq_true h2 ..) (er (if_pos (show true=true from rfl) ..) ?_)
   exact RJ Q D hc ag fi P.vo P.ne P.al P.b2 P.d2
  ·rw[if_neg h2]at ag fi⊢
   rw[if_neg h2]at ag
   rw[decide_eq_false h2,if_neg (show¬(false=true) by decide),fP rfl,show e_ [.str (S "body"),.str (S "html"),.str (S "template")]=[S "body",S "html",S "template"]from rfl]
   cases h3:aj [S "body",S "html",S "template"] (cv w)with
   |true=>
    rw[h3,if_pos rfl]at ag fi
    refine er (if_pos rfl ..) (er (if_pos rfl ..) ?_)
    exact RK Q D ag fi P.vo P.ne
   |false=>
    rw[h3,if_neg (by decide)]at ag fi
    refine er (if_neg (by decide) ..) (er (if_neg (by decide) ..) ?_)
    exact RL Q D hc ag fi P.vo P.ne P.fm P.nf P.ns
end
noncomputable def dp(hit stop:Nat->Bool):List Nat->Option Nat
 |[]=> .none
 |i::r=>if hit i then some r.length else if stop i then .none else dp hit stop r
theorem Br{hit stop:Nat->Bool}{i:Nat}{r:List Nat}:dp hit stop (i::r)=if hit i then some r.length else if stop i then Option.none else dp hit stop r:=rfl
theorem uP{hit stop:Nat->Bool}:∀r:List Nat,fa hit stop r=(dp hit stop r).isSome
 |[]=>rfl
 |i::r=>by
  unfold fa dp
  refine er (uP r ..) ?_
  cases hit i<;>cases stop i<;>rfl
theorem oD{hit stop:Nat->Bool}{p:Nat}:∀{r:List Nat},dp hit stop r=some p->p<r.length
 |[],h=>ak h
 |i::r,h=>by
  unfold dp at h
  cases hh:hit i with
  |true=>rw[hh,if_pos rfl]at h;cases h;simp
  |false=>
   rw[hh,if_neg (by decide)]at h
   cases hs:stop i with
   |true=>rw[hs,if_pos rfl]at h;exact ak h
   |false=>rw[hs,if_neg (by decide)]at h;have:=oD h;simp;exact nV ‹_›
theorem RP{ws names:List Str}{w:Str}:cM (ws++[w]) names=cM ws names++(if aj names w then[ws.length]else[]):=by
 unfold cM
 simp only[Vs,Wx,Xj,Wm]
 congr 1
 ·refine XG λk hk=>?_
  have:=List.mem_range.mp hk
  simp[U4 this]
 ·simp[List.filter_cons]
theorem Bs{ws:List Str}{w:Str}:cb (ws++[w])=cb ws++(if aj bY w then[]else[ws.length]):=by
 unfold cb
 simp only[Vs,Wx,Xj,Wm]
 congr 1
 ·refine XG λk hk=>?_
  have:=List.mem_range.mp hk
  simp[U4 this]
 ·cases h:aj bY w<;>simp[h]
theorem RQ{ws names:List Str}{sort w:Str}:cN (ws++[w]) names sort=if aj names w then((ws.length:Nat):Int)else if dl sort w then-1 else cN ws names sort:=by
 unfold cN
 simp only[RP]
 cases hm:aj names w with
 |true=>simp
 |false=>
  simp only[U0,if_false,Vj]
  cases hq:(cM ws names).getLast? with
  |none=>simp
  |some p=>
   have hp:=uv hq
   have e:(ws++[w]).drop (p+1)=ws.drop (p+1)++[w]:=by refine er (V3 ‹_› ..) rfl
   simp only[e,Wm]
   cases hE:dl sort w with
   |true=>simp[hE]
   |false=>simp[hE]
theorem RR{ws:List Str}{w:Str}{p:Nat}(h:p<ws.length):fe (ws++[w]) p=fe ws p++(if aj bY w then[]else[w]):=by
 unfold fe
 refine er (V3 ‹_› ..) (er (Wm ..) ?_)
 cases hm:aj bY w<;>simp[hm]
section
variable{s:BS}{l names:List Str}{sort but name:Str}
theorem oE{r:List Nat}{i:Nat}:(i::r).reverse.map (word s)=r.reverse.map (word s)++[word s i]:=by simp
theorem Bt:∀(r:List Nat),(∀i∈r,aj names (word s i)=aj l (aL s i))->(∀i∈r,dl sort (word s i)=cK sort (sp s i) (nm s i))->
  cN (r.reverse.map (word s)) names sort=match dp (λi=>aj l (aL s i)) (λi=>cK sort (sp s i) (nm s i)) r with|some p=>((p:Nat):Int)| .none=> -1
 |[],_,_=>rfl
 |i::r,h1,h2=>by
  refine er (oE ..) (er (RQ ..) (er (h1 i (U3 ..) ..) (er (h2 i (U3 ..) ..) (er (Bt r (λj hj=>h1 j (U7 _ hj)) λj hj=>h2 j (U7 _ hj) ..) ?_))))
  refine er (Br ..) ?_
  cases aj l (aL s i)with
  |true=>simp
  |false=>cases cK sort (sp s i) (nm s i)<;>simp
theorem Bu{stop:Nat->Bool}{p:Nat}:∀{r:List Nat},dp (λi=>aj l (aL s i)) stop r=some p->(d8 s l r).reverse=r.reverse.take p
 |[],h=>ak h
 |i::r,h=>by
  have hlt:=oD h
  unfold dp at h
  refine er (n6 ..) ?_
  cases hh:aj l (aL s i)with
  |true=>
   rw[hh,if_pos rfl]at h;cases h
   simp
  |false=>
   rw[hh,if_neg (by decide)]at h
   cases hs:stop i with
   |true=>rw[hs,if_pos rfl]at h;exact ak h
   |false=>
    rw[hs,if_neg (by decide)]at h
    have:=oD h
    refine er (if_neg (by decide) ..) (er (Bu h ..) (er (WM ..) (er (Ws (by simp;exact WI ‹_›) ..) rfl)))
theorem Bv{stop:Nat->Bool}{p:Nat}(hb:∀i,aj l (aL s i)=true->(aj bJ (aL s i)&& !decide (aL s i=but))=false):∀{r:List Nat},dp (λi=>aj l (aL s i)) stop r=some p->(d8 s l (cL s but r)).reverse=r.reverse.take p
 |[],h=>ak h
 |i::r,h=>by
  refine er (kq ..) ?_
  cases hi:aj bJ (aL s i)&& !decide (aL s i=but)with
  |false=>refine er (if_neg (by decide) ..) ?_;exact Bu h
  |true=>
   refine er (if_pos rfl ..) ?_
   unfold dp at h
   cases hh:aj l (aL s i)with
   |true=>rw[hb i hh]at hi;cases hi
   |false=>
    rw[hh,if_neg (by decide)]at h
    cases hs:stop i with
    |true=>rw[hs,if_pos rfl]at h;exact ak h
    |false=>
     rw[hs,if_neg (by decide)]at h
     have:=oD h
     refine er (Bv hb h ..) (er (WM ..) (er (Ws (by simp;exact WI ‹_›) ..) rfl))
noncomputable def Bw(s:BS):List Nat->Str
 |[]=>S ""
 |i::_=>aL s i
theorem Bx{stop:Nat->Bool}{p:Nat}(hl:aj l name=true)(hb:∀i,aj l (aL s i)=true->(aj bJ (aL s i)&& !decide (aL s i=but))=false)
  (hb2:∀i,aj bJ (aL s i)=true->aL s i=but->aj l (aL s i)=true):∀{r:List Nat},(∀i∈r,aj bY (word s i)=aj bJ (aL s i))->(∀i∈r,decide (word s i=S "html:"++name)=decide (aL s i=name))->
  dp (λi=>aj l (aL s i)) stop r=some p->decide (Bw s (cL s but r)=name)=((fe (r.reverse.map (word s)) p).isEmpty&&decide ((r.reverse.map (word s)).getD p (S "")=S "html:"++name))
 |[],_,_,h=>ak h
 |i::r,h1,h2,h=>by
  have e2:=h2 i (U3 ..)
  have e1:=h1 i (U3 ..)
  refine er (kq ..) (er (oE ..) ?_)
  unfold dp at h
  cases hh:aj l (aL s i)with
  |true=>
   rw[hh,if_pos rfl]at h
   have hp:p=r.length:=by cases h;rfl
   subst hp
   refine er (hb i hh ..) (er (if_neg (by decide) ..) ?_)
   have e3:(fe (r.reverse.map (word s)++[word s i]) r.length).isEmpty=true:=by unfold fe;refine er (VN (by simp) ..) ?_;rfl
   have e4:(r.reverse.map (word s)++[word s i]).getD r.length (S "")=word s i:=by simp
   refine er (e3 ..) (er (e4 ..) (er (e2 ..) ?_));rfl
  |false=>
   rw[hh,if_neg (by decide)]at h
   cases hs:stop i with
   |true=>rw[hs,if_pos rfl]at h;exact ak h
   |false=>
    rw[hs,if_neg (by decide)]at h
    have hlt:=oD h
    have e5:(r.reverse.map (word s)++[word s i]).getD p (S "")=(r.reverse.map (word s)).getD p (S ""):=by
     refine er (U1 ..) (er (U1 ..) (er (U4 (by simpa using hlt) ..) rfl))
    refine er (RR (by simpa using hlt) ..) (er (e5 ..) (er (e1 ..) ?_))
    cases hi:aj bJ (aL s i)with
    |true=>
     have hne:¬aL s i=but:=λe=>by rw[hb2 i hi e]at hh;cases hh
     refine er (decide_eq_false hne ..) (er (U5 ..) (er (V2 ..) (er (if_pos rfl ..) (er (if_pos rfl ..) (er (Vj ..) ?_)))))
     exact Bx hl hb hb2 (λj hj=>h1 j (U7 _ hj)) (λj hj=>h2 j (U7 _ hj)) h
    |false=>
     refine er (Wv ..) (er (if_neg (by decide) ..) (er (if_neg (by decide) ..) ?_))
     have hnn:¬aL s i=name:=λe=>by rw[e,hl]at hh;cases hh
     show decide (aL s i=name)=_
     refine er (decide_eq_false hnn ..) ?_
     simp
end
noncomputable def hW:List Str:=[S "html",S "body",S "ul",S "li",S "span",S "p",S "ol",S "dd",S "h1",S "h3",S "rt",S "form",S "div",S "td",S "template",S "option",S "frameset",S "dt",S "address",S "button",S "h6",S "table",S "b",S "optgroup",S "tbody",S "tr",S "th",S "caption",S "object",S "applet",S "h4"]
noncomputable def cT:List (Str×Str):=hW.map (λx=>(S "html",x))++[(S "svg",S "g"),(S "svg",S "p"),(S "svg",S "desc"),(S "math",S "mi"),(S "math",S "mrow"),(S "math",S "annotation-xml")]
noncomputable def Nm:List Str:=[S "li",S "dd",S "dt",S "p",S "form",S "h1",S "h2",S "h3",S "h4",S "h5",S "h6",S "div",S "ul",S "ol",S "dl",S "address",S "article",S "aside",S "blockquote",S "button",S "center",S "details",S "dialog",S "dir",S "fieldset",S "listing",S "main",S "nav",S "pre",S "search",S "section",S "summary",S "body",S "template",S "html"]
noncomputable def wd(p:Str×Str):Str:=p.1++S ":"++p.2
noncomputable def na(p:Str×Str):Str:=if p.1=S "html"then p.2 else S ""
theorem RS:cT.all (λp=>aD (wd p))=true:=by kernel_rfl
theorem RT:cT.all (λp=>[S "",S "button",S "list item"].all λsort=>dl sort (wd p)==cK sort p.1 p.2)=true:=by kernel_rfl
theorem RU:cT.all (λp=>aj bY (wd p)==aj bJ (na p))=true:=by kernel_rfl
theorem RV:cT.all (λp=>Nm.all λx=>decide (wd p=S "html:"++x)==decide (na p=x))=true:=by kernel_rfl
theorem RW:cT.all (λp=>aj l5 (wd p)==aj hs (na p))=true:=by kernel_rfl
theorem RX:cT.all (λp=>(!aj bU (wd p))==(!decide (p.1=S "html")|| !aj jr p.2))=true:=by kernel_rfl
theorem RY:cT.all (λp=>aD p.1&&aD p.2)=true:=by kernel_rfl
theorem By:Nm.all (λx=> !decide (x=S ""))=true:=by kernel_rfl
structure Inv(s:BS):Prop where
 hd:∃x0 r,s.items=x0::r/\sp s x0=S "html"/\nm s x0=S "html"
 nd:s.items.Nodup
 vc:∀i∈s.items,(sp s i,nm s i)∈cT
 pa:∀i∈s.items.tail,∃p:Nat,br s i=p/\p<s.names.length/\i∈aJ s p
 fm:s.form= -1∨(0<=s.form/\s.form.toNat<s.names.length/\(s.form.toNat∈s.items->word s s.form.toNat=S "html:form"))
section
variable{s:BS}
theorem RZ{i:Nat}(h:(sp s i,nm s i)∈cT):aD (word s i)=true:=by
 have:=List.all_eq_true.mp RS (sp s i,nm s i) h
 exact this
theorem Bz{i:Nat}(h:(sp s i,nm s i)∈cT){sort:Str}(hs:sort=S ""∨sort=S "button"∨sort=S "list item"):dl sort (word s i)=cK sort (sp s i) (nm s i):=by
 have:=List.all_eq_true.mp RT _ h
 have:=List.all_eq_true.mp this sort (by rcases hs with rfl|rfl|rfl<;>simp)
 exact eq_of_beq this
theorem BA{i:Nat}(h:(sp s i,nm s i)∈cT):aj bY (word s i)=aj bJ (aL s i):=eq_of_beq (List.all_eq_true.mp RU _ h)
theorem uQ{i:Nat}(h:(sp s i,nm s i)∈cT){x:Str}(hx:x∈Nm):decide (word s i=S "html:"++x)=decide (aL s i=x):=eq_of_beq (List.all_eq_true.mp (List.all_eq_true.mp RV _ h) x hx)
theorem BB{i:Nat}(h:(sp s i,nm s i)∈cT):aj l5 (word s i)=aj hs (aL s i):=eq_of_beq (List.all_eq_true.mp RW _ h)
theorem BC{i:Nat}(h:(sp s i,nm s i)∈cT):(!aj bU (word s i))=ij s i:=by
 have h1:=List.all_eq_true.mp RX (sp s i,nm s i) h
 have h2:(!aj bU (wd (sp s i,nm s i)))=(!decide (sp s i=S "html")|| !aj jr (nm s i)):=eq_of_beq h1
 exact h2
theorem iV{a b:Str}:aj [a] b=decide (b=a):=by
 unfold aj
 simp only[List.any_cons,List.any_nil,W9]
 by_cases h:a=b
 ·refine er (decide_eq_true h ..) (er (decide_eq_true h.symm ..) rfl)
 ·refine er (decide_eq_false h ..) (er (decide_eq_false λe=>h e.symm ..) rfl)
theorem qQ{i:Nat}(h:(sp s i,nm s i)∈cT){x:Str}(hx:x∈Nm):aj [S "html:"++x] (word s i)=aj [x] (aL s i):=by refine er (iV ..) (er (iV ..) (er (uQ h hx ..) rfl))
theorem uR{i:Nat}(h:(sp s i,nm s i)∈cT){x:Str}(hx:x∈Nm):fO s i x=decide (word s i=S "html:"++x):=by
 simp only[uQ h hx]
 have hne:¬x=S "":=by have:=List.all_eq_true.mp By x hx;simpa using this
 delta fO aL
 by_cases h1:sp s i=S "html"
 ·simp[h1]
 ·simp[h1]
  exact λe=>hne e.symm
theorem R0{i:Nat}{l:List Str}(hl:aj l (S "")=false):kl s l i=aj l (aL s i):=by
 delta kl aL
 by_cases h1:sp s i=S "html"
 ·simp[h1]
 ·simp[h1,hl]
theorem Inv.vo(I:Inv s):Vo s:=λi hi=>RZ (I.vc i hi)
theorem Inv.ne(I:Inv s):s.items≠[]:=by
 refine ex2_2 (I.hd) λx0 r h _=>?_
 refine er (h ..) ?_;simp
theorem R5{i:Nat}(h:(sp s i,nm s i)∈cT){x:Str}(hx:x∈Nm):aj (cS x) (word s i)=aj (if aj hs x then hs else[x]) (aL s i):=by
 unfold cS
 cases aj hs x with
 |true=>exact BB h
 |false=>exact qQ h hx
theorem BD{h1 h2 s1 s2:Nat->Bool}:∀{r:List Nat},(∀i∈r,h1 i=h2 i/\s1 i=s2 i)->fa h1 s1 r=fa h2 s2 r
 |[],_=>rfl
 |i::r,h=>by
  have:=h i (U3 ..)
  show(if h1 i then true else if s1 i then false else fa h1 s1 r)=(if h2 i then true else if s2 i then false else fa h2 s2 r)
  refine er (this.1 ..) (er (this.2 ..) (er (BD λj hj=>h j (U7 _ hj) ..) rfl))
theorem qR{l:List Str}{sort:Str}(hl:aj l (S "")=false):dD s l sort=(dp (λi=>aj l (aL s i)) (λi=>cK sort (sp s i) (nm s i)) s.items.reverse).isSome:=by
 unfold dD
 refine er (BD (h2:=λi=>aj l (aL s i)) (s2:=λi=>cK sort (sp s i) (nm s i)) (λi _=>⟨R0 hl,rfl⟩) ..) (er (uP ..) rfl)
theorem qS:av s=s.items.reverse.reverse.map (word s):=by refine er (Vv ..) ?_;rfl
theorem qT(I:Inv s){l names:List Str}{sort:Str}(hs:sort=S ""∨sort=S "button"∨sort=S "list item")(hn:∀i∈s.items,aj names (word s i)=aj l (aL s i)):
  cN (av s) names sort=match dp (λi=>aj l (aL s i)) (λi=>cK sort (sp s i) (nm s i)) s.items.reverse with|some p=>((p:Nat):Int)| .none=> -1:=by
 refine er (qS ..) ?_
 exact Bt s.items.reverse (λi hi=>hn i (List.mem_reverse.mp hi)) λi hi=>Bz (I.vc i (List.mem_reverse.mp hi)) hs
end
section
variable{s t:BS}{l names:List Str}{sort but name:Str}
theorem BE(h:∀i,aL t i=aL s i):∀r:List Nat,d8 t l r=d8 s l r
 |[]=>rfl
 |i::r=>by refine er (n6 ..) (er (n6 ..) (er (h i ..) (er (BE h r ..) rfl)))
theorem BF:eZ (pI s but)=Bw s (cL s but s.items.reverse):=by
 unfold eZ
 show(match(cL s but s.items.reverse).reverse.getLast? with|some i=>aL (pI s but) i| .none=>S "")=_
 refine er (List.getLast?_reverse ..) ?_
 cases cL s but s.items.reverse<;>rfl
theorem BG{b:Bool}{xs:List Nat}(hb:decide (eZ (pI s but)=name)= !b)(hx:(d8 s l (cL s but s.items.reverse)).reverse=xs):ie (pI s but) name l=aQ (bG b s (S "open-elements")) xs:=by
 unfold ie
 refine er (hb ..) (er (Bool.not_not ..) ?_)
 have e:∀t:BS,(∀i,aL t i=aL s i)->t.items=(cL s but s.items.reverse).reverse->(d8 t l t.items.reverse).reverse=xs:=λt h1 h2=>by
  simp only[BE h1,h2,Vv,hx]
 cases b with
 |true=>
  show pU (aN (pI s but) (S "open-elements")) l=aQ (aN s (S "open-elements")) xs
  unfold pU
  refine er (e (aN (pI s but) (S "open-elements")) (λ_=>rfl) rfl ..) ?_;rfl
 |false=>
  show pU (pI s but) l=aQ s xs
  unfold pU
  refine er (e (pI s but) (λ_=>rfl) rfl ..) ?_;rfl
theorem uS(I:Inv s)(hn:name∈Nm)(hl:aj l name=true)(hb:∀x,aj l x=true->(aj bJ x&& !decide (x=but))=false)(hb2:∀x,aj bJ x=true->x=but->aj l x=true){stop:Nat->Bool}{p:Nat}(h:dp (λi=>aj l (aL s i)) stop s.items.reverse=some p):
  ie (pI s but) name l=aQ (bG (!(fe (av s) p).isEmpty|| !decide ((av s).getD p (S "")=S "html:"++name)) s (S "open-elements")) (s.items.take p):=by
 have vr:∀i∈s.items.reverse,(sp s i,nm s i)∈cT:=λi hi=>I.vc i (List.mem_reverse.mp hi)
 have h1:=Bx (s:=s) (l:=l) (name:=name) (but:=but) (stop:=stop) (p:=p) hl (λi hi=>hb _ hi) (λi h1 h2=>hb2 _ h1 h2) (r:=s.items.reverse) (λi hi=>BA (vr i hi)) (λi hi=>uQ (vr i hi) hn) h
 have h2:=Bv (s:=s) (l:=l) (but:=but) (stop:=stop) (p:=p) (λi hi=>hb _ hi) (r:=s.items.reverse) h
 simp only[Vv]at h2
 refine BG ?_ h2
 simp only[BF,h1,qS]
 simp[Bool.not_or]
theorem uT{p:Nat}(h:cN (av s) names (cB name)=p):d9 s name names=aQ (bG (!(fe (av s) p).isEmpty|| !decide ((av s).getD p (S "")=S "html:"++name)) s (S "open-elements")) (s.items.take p):=by
 unfold d9
 refine er (h ..) (er (if_neg nM ..) ?_)
 rfl
theorem BH(h:cN (av s) names (cB name)= -1)(hp:name≠S "p"):d9 s name names=aN s (S "unexpected-end-tag"):=by
 unfold d9
 refine er (if_pos h ..) (er (if_neg hp ..) rfl)
theorem uU{x:Str}(h:x∈Nm):aj [x] (S "")=false:=by
 refine er (iV ..) ?_
 have:=List.all_eq_true.mp By x h
 have h2:¬x=S "":=by simpa using this
 exact decide_eq_false λe=>h2 e.symm
theorem BI(h:but=name∨(but=S ""/\aj bJ name=false)):∀x,aj [name] x=true->(aj bJ x&& !decide (x=but))=false:=λx hx=>by
 replace hx:=Vu (We (iV)) hx
 have:=of_decide_eq_true hx
 subst this
 rcases h with rfl|⟨rfl,h⟩
 ·simp
 ·refine er (h ..) ?_;rfl
theorem BJ(h:but=name∨(but=S ""/\aj bJ name=false)):∀x,aj bJ x=true->x=but->aj [name] x=true:=λx hx e=>by
 subst e
 rcases h with rfl|⟨h,_⟩
 ·refine er (iV ..) ?_;exact decide_eq_true rfl
 ·rw[h]at hx;exact absurd hx (by decide)
theorem R6:∀x,aj hs x=true->(aj bJ x&& !decide (x=S ""))=false:=λx hx=>by
 have hall:hs.all (λx=> !aj bJ x)=true:=by kernel_rfl
 refine ex1_2 (List.any_eq_true.mp hx) λy hy e=>?_
 have:=of_decide_eq_true e
 subst this
 have:=List.all_eq_true.mp hall y hy
 cases hm:aj bJ y with
 |true=>rw[hm]at this;cases this
 |false=>rfl
theorem R7:∀x,aj bJ x=true->x=S ""->aj hs x=true:=λx hx e=>by
 subst e;exact absurd hx (by decide)
theorem qU(I:Inv s)(hn:name∈Nm)(hp:name≠S "p")(hh:aj hs name=false)(hb:but=name∨(but=S ""/\aj bJ name=false)):jl s name (cB name) but=d9 s name (cS name):=by
 have hno:cS name=[S "html:"++name]:=by unfold cS;refine er (hh ..) ?_;rfl
 have hpl:=qT I (l:=[name]) (names:=cS name) (sort:=cB name) qM λi hi=>by refine er (hno ..) ?_;exact qQ (I.vc i hi) hn
 unfold jl
 refine er (qR (uU hn) ..) ?_
 cases hq:dp (λi=>aj [name] (aL s i)) (λi=>cK (cB name) (sp s i) (nm s i)) s.items.reverse with
 |none=>
  rw[hq]at hpl
  refine er (BH hpl hp ..) ?_;rfl
 |some p=>
  rw[hq]at hpl
  simp only[uT hpl,Wl,if_pos rfl]
  exact uS I hn (by refine er (iV ..) ?_;exact decide_eq_true rfl) (BI hb) (BJ hb) hq
theorem R8(I:Inv s)(hn:name∈Nm)(hh:aj hs name=true):n_ s name=d9 s name (cS name):=by
 have hno:cS name=l5:=by unfold cS;refine er (hh ..) ?_;rfl
 have hso:cB name=S "":=by
  unfold cB
  rw[if_neg,if_neg]
  ·intro e;rw[e]at hh;exact absurd hh (by decide)
  ·intro e;rw[e]at hh;exact absurd hh (by decide)
 have hp:name≠S "p":=by intro e;rw[e]at hh;exact absurd hh (by decide)
 have hpl:=qT I (l:=hs) (names:=cS name) (sort:=cB name) qM λi hi=>by refine er (hno ..) ?_;exact BB (I.vc i hi)
 rw[hso]at hpl
 unfold n_
 refine er (qR (by decide) ..) ?_
 cases hq:dp (λi=>aj hs (aL s i)) (λi=>cK (S "") (sp s i) (nm s i)) s.items.reverse with
 |none=>
  rw[hq]at hpl
  refine er (BH (by refine er (hso ..) ?_;exact hpl) hp ..) ?_;rfl
 |some p=>
  rw[hq]at hpl
  simp only[uT (by refine er (hso ..) ?_;exact hpl),Wl,if_pos rfl]
  exact uS I hn hh R6 R7 hq
end
section
variable{s t:BS}{l names:List Str}{sort but name:Str}
theorem BK{i:Nat}{as:List (Str×Str)}(hn:name≠S "template"):eA s i name (S "html") as=aQ (bQ s i name as) (s.items++[s.names.length]):=by
 delta eA bQ bF
 refine er (if_neg (λh=>hn h.2) ..) ?_
 rfl
theorem R9{i:Nat}{as:List (Str×Str)}(F:Wf s):sp (bQ s i name as) s.names.length=S "html"/\nm (bQ s i name as) s.names.length=name:=by
 refine⟨?_,?_⟩
 ·show(s.spaces++[S "html"]).getD s.names.length (S "")=_
  refine el (F.ls ..) ?_;simp
 ·show(s.names++[name]).getD s.names.length (S "")=_
  simp
theorem R_(I:Inv s)(F:Wf s):n9 s=d9 s (S "p") (cS (S "p")):=by
 have hn:S "p"∈Nm:=by simp[Nm]
 have hno:cS (S "p")=[S "html:"++S "p"]:=by unfold cS;refine er ((show aj hs (S "p")=false by decide) ..) ?_;rfl
 have hso:cB (S "p")=S "button":=by unfold cB;refine er (if_neg (by decide) ..) (er (if_pos rfl ..) rfl)
 have hpl:=qT I (l:=[S "p"]) (names:=cS (S "p")) (sort:=cB (S "p")) qM λi hi=>by refine er (hno ..) ?_;exact qQ (I.vc i hi) hn
 unfold n9
 dsimp only
 refine er (qR (uU hn) ..) ?_
 rw[hso]at hpl
 cases hq:dp (λi=>aj [S "p"] (aL s i)) (λi=>cK (S "button") (sp s i) (nm s i)) s.items.reverse with
 |some p=>
  rw[hq]at hpl
  refine er (uT (by refine er (hso ..) ?_;exact hpl) ..) (er (Wl ..) (er (if_pos rfl ..) ?_))
  exact uS I hn (by refine er (iV ..) ?_;exact decide_eq_true rfl) (BI (.inl rfl)) (BJ (.inl rfl)) hq
 |none=>
  rw[hq]at hpl
  have hbr:d9 s (S "p") (cS (S "p"))=iq (aN s (S "unexpected-end-tag")) (S "p") []:=by
   unfold d9
   refine er (hso ..) (er (if_pos hpl ..) (er (if_pos rfl ..) rfl))
  refine er (hbr ..) (er (WK ..) (er (if_neg (by decide) ..) ?_))
  refine ex2_1 (kr I.ne) λxs i hx=>?_
  have hl:(aN s (S "unexpected-end-tag")).items.getLast?=some i:=by show s.items.getLast?=_;refine er (hx ..) ?_;simp
  unfold qs iq
  refine er (hl ..) ?_
  dsimp only
  refine er (BK (by decide) ..) ?_
  have F0:Wf (aN s (S "unexpected-end-tag")):=F.keep
  refine ai (R9 (name:=S "p") (i:=i) (as:=[]) F0) λa1 a2=>?_
  generalize hD:bQ (aN s (S "unexpected-end-tag")) i (S "p") []=d at*
  have hdi:d.items=s.items:=by refine el (hD ..) ?_;rfl
  have hN:(aN s (S "unexpected-end-tag")).names.length=s.names.length:=rfl
  rw[hN]at a1 a2⊢
  have hI:(aN s (S "unexpected-end-tag")).items=s.items:=rfl
  refine er (hI ..) ?_
  have hnA:aL (aQ d (s.items++[s.names.length])) s.names.length=S "p":=by
   show(if sp d s.names.length=S "html"then nm d s.names.length else S "")=_
   refine er (a1 ..) (er (if_pos rfl ..) (er (a2 ..) rfl))
  have hrev:(aQ d (s.items++[s.names.length])).items.reverse=s.names.length::s.items.reverse:=by show(s.items++[s.names.length]).reverse=_;simp
  have hpi:cL (aQ d (s.items++[s.names.length])) (S "p") (s.names.length::s.items.reverse)=s.names.length::s.items.reverse:=by
   refine er (kq ..) (er (hnA ..) ?_)
   have:(aj bJ (S "p")&& !decide (S "p"=S "p"))=false:=by simp
   refine er (this ..) (er (if_neg (by decide) ..) rfl)
  have:=BG (s:=aQ d (s.items++[s.names.length])) (but:=S "p") (name:=S "p") (l:=[S "p"]) (b:=false) (xs:=s.items) (by refine er (BF ..) (er (hrev ..) (er (hpi ..) ?_));show decide (aL _ _=S "p")=_;refine er (hnA ..) ?_;rfl) (by refine er (hrev ..) (er (hpi ..) (er (n6 ..) (er (hnA ..) (er (if_pos (by rw[iV];exact decide_eq_true rfl) ..) (er (Vv ..) rfl))))))
  refine er (this ..) ?_
  show aQ (aQ d _) s.items=d
  refine el (hdi ..) ?_;rfl
noncomputable def qV(ws:List Str)(L:List Nat)(i:Nat):Option Nat:=match L.findIdx? λj=>decide (j=i)with
 | .none=> .none
 |some p=>if((ws.drop (p+1)).filter (dl (S ""))).isEmpty then some p else .none
theorem Sa{L:List Nat}{i j:Nat}:(L++[j]).findIdx? (λk=>decide (k=i))=match L.findIdx? λk=>decide (k=i)with|some p=>some p| .none=>if j=i then some L.length else .none:=by
 refine Vu (List.findIdx?_append) ?_
 cases L.findIdx? λk=>decide (k=i)with
 |some p=>rfl
 |none=>
  by_cases h:j=i
  ·simp[h]
  ·simp[h]
theorem BL{i:Nat}:∀{r:List Nat},r.Nodup->(∀j∈r,dl (S "") (word s j)=cK (S "") (sp s j) (nm s j))->dp (λj=>decide (j=i)) (λj=>cK (S "") (sp s j) (nm s j)) r=qV (r.reverse.map (word s)) r.reverse i
 |[],_,_=>rfl
 |j::r,hn,h2=>by
  have ih:=BL (i:=i) (List.nodup_cons.mp hn).2 λk hk=>h2 k (U7 _ hk)
  refine er (Br ..) (er (ih ..) (er (oE ..) (er (WM ..) ?_)))
  unfold qV
  refine er (Sa ..) ?_
  by_cases h:j=i
  ·have hni:i∉r.reverse:=by refine el (h ..) ?_;simpa using(List.nodup_cons.mp hn).1
   have:(r.reverse.findIdx? λk=>decide (k=i))=none:=by
    cases hf:r.reverse.findIdx? λk=>decide (k=i)with
    |none=>rfl
    |some p=>exact absurd (qJ.mpr ⟨p,hf⟩) hni
   refine er (this ..) (er (decide_eq_true h ..) (er (if_pos rfl ..) ?_))
   dsimp only
   refine er (if_pos h ..) ?_
   dsimp only
   refine er (VN (by simp) ..) ?_
   simp
  ·refine er (decide_eq_false h ..) (er (if_neg (by decide) ..) ?_)
   cases hf:r.reverse.findIdx? λk=>decide (k=i)with
   |none=>
    dsimp only
    refine er (if_neg h ..) ?_
    dsimp only
    cases cK (S "") (sp s j) (nm s j)<;>rfl
   |some p=>
    have hp:=ow hf
    dsimp only
    refine er (V3 (by simp at hp⊢;assumption) ..) (er (Wm ..) ?_)
    have e2:=h2 j (U3 ..)
    cases hs:cK (S "") (sp s j) (nm s j)with
    |true=>
     rw[hs]at e2
     refine er (if_pos rfl ..) ?_
     have:([word s j].filter (dl (S "")))=[word s j]:=by simp[e2]
     refine er (this ..) ?_
     simp
    |false=>
     rw[hs]at e2
     refine er (if_neg (by decide) ..) ?_
     have:([word s j].filter (dl (S "")))=[]:=by simp[e2]
     refine er (this ..) (er (Vj ..) rfl)
theorem BM{q:Nat}:∀{r:List Nat},(∀j∈r,aj bY (word s j)=aj bJ (aL s j))->(cb (r.reverse.map (word s))).getLast?=some q->(cL s (S "") r).reverse=r.reverse.take (q+1)
 |[],_,h=>ak h
 |j::r,h1,h=>by
  have e1:=h1 j (U3 ..)
  refine er (kq ..) ?_
  rw[oE,Bs,e1]at h
  cases hm:aj bJ (aL s j)with
  |true=>
   rw[hm,if_pos rfl,Vj]at h
   have hne:¬aL s j=S "":=λe=>by rw[e]at hm;exact absurd hm (by decide)
   refine er (decide_eq_false hne ..) (er (U5 ..) (er (V2 ..) (er (if_pos rfl ..) (er (BM (λk hk=>h1 k (U7 _ hk)) h ..) ?_))))
   have hq:=uz h
   refine er (WM ..) (er (Ws (by simp at hq⊢;assumption) ..) rfl)
  |false=>
   rw[hm,if_neg (by decide)]at h
   simp at h
   subst h
   refine er (Wv ..) (er (if_neg (by decide) ..) (er (Wq (by simp) ..) rfl))
theorem uV{q p:Nat}:∀{r:List Nat},(cb (r.reverse.map (word s))).getLast?=some q->p<r.length->aj bY ((r.reverse.map (word s)).getD p (S ""))=false->p<=q
 |[],h,_,_=>ak h
 |j::r,h,hp,hm=>by
  rw[oE]at hm h
  rw[Bs]at h
  by_cases hpr:p<r.length
  ·rw[U1,U4 (by simpa using hpr),←U1]at hm
   cases hw:aj bY (word s j)with
   |true=>
    rw[hw,if_pos rfl,Vj]at h
    exact uV h hpr hm
   |false=>
    rw[hw,if_neg (by decide)]at h
    simp at h
    omega
  ·have hp2:p=r.length:=by simp at hp;exact nX ‹_› ‹_›
   subst hp2
   have:(r.reverse.map (word s)++[word s j]).getD r.length (S "")=word s j:=by simp
   rw[this]at hm
   rw[hm,if_neg (by decide)]at h
   simp at h
   omega
end
section
variable{s t:BS}{l names:List Str}{sort but name:Str}
theorem Sb{L:List Nat}(h:L.Nodup):L.reverse.Nodup:=List.pairwise_reverse.mpr (h.imp λh=>Ne.symm h)
theorem Sc{L:List Nat}(h:L.Nodup){p q:Nat}(hp:p<L.length)(hq:q<L.length)(e:L[p]=L[q]):p=q:=by
 have hw:=List.pairwise_iff_getElem.mp h
 rcases Nat.lt_trichotomy p q with hlt|rfl|hlt
 ·exact absurd e (hw p q hp hq hlt)
 ·rfl
 ·exact absurd e.symm (hw q p hq hp hlt)
theorem BN(I:Inv s){x:Str}(hx:x∈Nm):fb s x=aj (av s) (S "html:"++x):=by
 delta fb aj av
 simp only[Xh]
 refine Bool.eq_iff_iff.mpr ?_
 rw[WR,WR]
 constructor
 ·intro hI1
  refine ex1_2 hI1 λi hi h=>?_
  exact⟨i,hi,by rw[uR (I.vc i hi) hx]at h;exact h⟩
 ·intro hI3
  refine ex1_2 hI3 λi hi h=>?_
  exact⟨i,hi,by refine er (uR (I.vc i hi) hx ..) ?_;exact h⟩
theorem BO{x:Int}:∀r:List Nat,cL (setForm s x) but r=cL s but r
 |[]=>rfl
 |i::r=>by refine er (kq ..) (er (kq ..) (er (BO r ..) ?_));rfl
theorem BP{L:List Nat}{i p q:Nat}(h:(L.findIdx? λj=>decide (j=i))=some p)(hpq:p<=q):(L.take (q+1)).erase i=L.take p++(L.take (q+1)).drop (p+1):=by
 refine ex1_2 (List.findIdx?_eq_some_iff_getElem.mp h) λh1 h2 h3=>?_
 have hM:((L.take (q+1)).findIdx? λj=>decide (j=i))=some p:=by
  refine List.findIdx?_eq_some_iff_getElem.mpr ⟨by simp;lia,by simpa using h2,λj hj=>?_⟩
  have:=h3 j hj
  simpa using this
 refine el (tT hM ..) (er (Wi ..) (er (XX ..) (er (Wk (Vx ‹_›) ..) rfl)))
theorem BQ(I:Inv s):∃q,(cb (av s)).getLast?=some q:=by
 cases h:(cb (av s)).getLast? with
 |some q=>exact⟨q,rfl⟩
 |none=>
  exfalso
  have h0:cb (av s)=[]:=by simpa using h
  refine ex2_3 (I.hd) λx0 r hx h1 h2=>?_
  have hm:0∈cb (av s):=by
   unfold cb
   refine List.mem_filter.mpr ⟨List.mem_range.mpr (by refine er (gu ..) (er (hx ..) ?_);simp),?_⟩
   have:(av s).getD 0 (S "")=word s x0:=by unfold av;refine er (hx ..) ?_;rfl
   refine er (this ..) ?_
   unfold word
   refine er (h1 ..) (er (h2 ..) ?_)
   rfl
  rw[h0]at hm
  exact absurd hm (by decide)
theorem Sd(I:Inv s):oa s=iU s (S "form"):=by
 have hn:S "form"∈Nm:=by simp[Nm]
 have ht:=BN I (x:=S "template") (by simp[Nm])
 unfold oa
 refine er (kE ..) (er (ht ..) (er ((show S "html:"++S "template"=S "html:template"from by decide) ..) ?_))
 cases hT:aj (av s) (S "html:template")with
 |true=>
  refine er (if_pos rfl ..) (er (if_neg (λh=>by cases h.2) ..) ?_)
  exact qU I hn (by decide) (by decide) (.inr ⟨rfl,by decide⟩)
 |false=>
  rw[if_neg (show¬(false=true) by decide),if_pos (show S "form"=S "form"/\false=false from⟨rfl,rfl⟩)]
  unfold ip
  by_cases h0:s.form= -1
  ·have hfp:ju s=none:=by unfold ju;refine er (if_pos h0 ..) rfl
   refine er (if_pos h0 ..) (er (hfp ..) rfl)
  ·have hf:=I.fm.resolve_left h0
   obtain⟨i,hi⟩:∃i:Nat,s.form=i:=⟨s.form.toNat,by omega⟩
   have hit:s.form.toNat=i:=by refine er (hi ..) ?_;rfl
   have hfp:ju s=s.items.findIdx? λj=>decide (j=i):=by unfold ju;refine er (if_neg h0 ..) (er (hit ..) rfl)
   refine er (if_neg h0 ..) (er (hfp ..) (er (hit ..) ?_))
   have hrn:s.items.reverse.Nodup:=Sb I.nd
   have hns:km (setForm s (-1)) i (S "")=(qV (av s) s.items i).isSome:=by
    unfold km
    show fa (λj=>decide (j=i)) (λj=>cK (S "") (sp s j) (nm s j)) s.items.reverse=_
    refine er (uP ..) (er (BL hrn (λj hj=>Bz (I.vc j (List.mem_reverse.mp hj)) (.inl rfl)) ..) (er (Vv ..) ?_));rfl
   refine er (hns ..) ?_
   unfold qV
   cases hx:s.items.findIdx? λj=>decide (j=i)with
   |none=>simp only[WK,if_true]
   |some p=>
    dsimp only
    by_cases hz:(((av s).drop (p+1)).filter (dl (S ""))).isEmpty=true
    case neg=>
     have hz':(((av s).drop (p+1)).filter (dl (S ""))).isEmpty=false:=by simpa using hz
     simp only[hz',U0,if_false,WK,if_true,U5]
    case pos=>
     simp only[hz,if_true,Wl,U6,U0,if_false,reduceCtorEq]
     refine ex1_1 (BQ I) λq hq=>?_
     refine er (hq ..) ?_
     dsimp only
     have hp:p<s.items.length:=ow hx
     have hmem:i∈s.items:=qJ.mpr ⟨p,hx⟩
     have hword:word s i=S "html:form":=by have:=hf.2.2 (by refine er (hit ..) ?_;exact hmem);rw[hit]at this;exact this
     refine ex1_2 (List.findIdx?_eq_some_iff_getElem.mp hx) λg1 g2 g3=>?_
     have hgi:s.items[p]=i:=of_decide_eq_true g2
     have hq':(cb (s.items.reverse.reverse.map (word s))).getLast?=some q:=by refine el (qS ..) ?_;exact hq
     have hpq:p<=q:=by
      refine uV (r:=s.items.reverse) hq' (by simpa using hp) ?_
      refine er (Vv ..) ?_
      have:(s.items.map (word s)).getD p (S "")=word s i:=by refine er (U1 ..) (er (Vh ..) (er (U8 hp ..) (er (hgi ..) ?_)));rfl
      refine er (this ..) (er (hword ..) ?_);decide
     have hql:q<s.items.length:=by have:=uz hq;rw[gu]at this;exact this
     have hpi:(cL s (S "") s.items.reverse).reverse=s.items.take (q+1):=by
      have:=BM (s:=s) (r:=s.items.reverse) (λj hj=>BA (I.vc j (List.mem_reverse.mp hj))) hq'
      rw[Vv]at this;exact this
     have e1:pI (setForm s (-1)) (S "")=aQ (setForm s (-1)) (s.items.take (q+1)):=by
      unfold pI
      show aQ (setForm s (-1)) ((cL (setForm s (-1)) (S "") s.items.reverse).reverse)=_
      refine er (BO ..) (er (hpi ..) rfl)
     have hcur:fN (aQ (setForm s (-1)) (s.items.take (q+1)))=(s.items[q]:Nat):=by
      unfold fN
      show(match(s.items.take (q+1)).getLast? with|some i=>((i:Nat):Int)| .none=> -1)=_
      refine er (VY ..) (er (Wy ..) (er (Wk ‹_› ..) (er (XD ..) (er (if_pos (Vf _) ..) (er (Nat.add_sub_cancel ..) (er (U8 hql ..) rfl))))))
     refine er (e1 ..) (er (hcur ..) (er (hi ..) ?_))
     have hdec:decide (((s.items[q]:Nat):Int)=(i:Nat))=decide (q=p):=by
      by_cases hqp:q=p
      ·subst hqp;refine er (hgi ..) ?_;simp
      ·have:¬s.items[q]=i:=λe=>hqp (Sc I.nd hql hp (e.trans hgi.symm))
       refine er (decide_eq_false hqp ..) (er (decide_eq_false (nN ‹_›) ..) rfl)
     refine er (hdec ..) ?_
     have fin:=BP hx hpq
     cases hb:decide (q=p)with
     |true=>
      show aQ (setForm s (-1)) ((s.items.take (q+1)).erase i)=aQ (setForm s (-1)) _
      refine er (fin ..) rfl
     |false=>
      show aQ (aN (setForm s (-1)) (S "open-elements")) ((s.items.take (q+1)).erase i)=aQ (aN (setForm s (-1)) (S "open-elements")) _
      refine er (fin ..) rfl
theorem Se(I:Inv s)(F:Wf s)(hn:name∈Nm)(ho:¬name=S "body"/\¬name=S "template"/\¬name=S "html"):iU s name=jn s name:=by
 unfold jn
 by_cases h1:name=S "p"
 ·subst h1
  refine er (if_pos rfl ..) (er (R_ I F ..) (er (kE ..) (er (if_neg (λh=>absurd h.1 (by decide)) ..) rfl)))
 ·refine er (if_neg h1 ..) ?_
  by_cases h2:name=S "form"
  ·subst h2
   refine er (if_pos rfl ..) (er (Sd I ..) rfl)
  ·refine er (if_neg h2 ..) (er (kE ..) (er (if_neg (λh=>h2 h.1) ..) ?_))
   by_cases h3:name=S "li"
   ·subst h3
    refine er (if_pos rfl ..) ?_
    exact(qU I hn (by decide) (by decide) (.inl rfl)).symm
   ·refine er (if_neg h3 ..) ?_
    have hso:cB name=S "":=by unfold cB;refine er (if_neg h3 ..) (er (if_neg h1 ..) rfl)
    cases h4:aj [S "dd",S "dt"] name with
    |true=>
     refine er (if_pos rfl ..) ?_
     have hh:aj hs name=false:=by
      have:name=S "dd"∨name=S "dt":=by
       refine ex1_2 (List.any_eq_true.mp h4) λy hy e=>?_
       have:=of_decide_eq_true e
       subst this
       simpa using hy
      rcases this with rfl|rfl<;>decide
     have:=qU I hn h1 hh (.inl rfl)
     rw[hso]at this;exact this.symm
    |false=>
     refine er (if_neg (by decide) ..) ?_
     cases h5:aj hs name with
     |true=>refine er (if_pos rfl ..) ?_;exact(R8 I hn h5).symm
     |false=>
      refine er (if_neg (by decide) ..) ?_
      have him:aj bJ name=false:=by
       have hall:Nm.all (λx=> !aj bJ x||decide (x=S "p")||decide (x=S "li")||aj [S "dd",S "dt"] x)=true:=by kernel_rfl
       have:=List.all_eq_true.mp hall name hn
       rw[h4,decide_eq_false h1,decide_eq_false h3,W9,W9,W9]at this
       cases hm:aj bJ name with
       |true=>rw[hm]at this;cases this
       |false=>rfl
      have:=qU I hn h1 h5 (.inr ⟨rfl,him⟩)
      rw[hso]at this;exact this.symm
end
section
variable{s t:BS}{l names:List Str}{sort but name:Str}
theorem BR(I:Inv s):ff s=gN s:=by
 delta ff gN
 congr 1
 refine Bool.eq_iff_iff.mpr ?_
 rw[WR]
 constructor
 ·intro h
  have hne:((av s).filter λw=> !aj bU w)≠[]:=by
   intro e;rw[e]at h;cases h
  refine bZ λgP gh=>?_
  refine ex1_1 (List.exists_mem_of_ne_nil _ hne) λw hw=>?_
  refine ai (List.mem_filter.mp hw) λh1 h2=>?_
  refine ex1_2 (List.mem_map.mp h1) λi hi zq2=>?_;subst zq2
  refine gh ?_;clear gh gP
  exact⟨i,hi,by refine el (BC (I.vc i hi) ..) ?_;exact h2⟩
 ·intro hI1
  refine ex1_2 hI1 λi hi h=>?_
  have hm:word s i∈(av s).filter λw=> !aj bU w:=List.mem_filter.mpr ⟨V4 hi,by refine er (BC (I.vc i hi) ..) ?_;exact h⟩
  cases hq:(av s).filter λw=> !aj bU w with
  |nil=>rw[hq]at hm;cases hm
  |cons a r=>rfl
theorem Sf(I:Inv s){modes:List Str}:l0 s modes=gp s modes:=by
 unfold l0 gp
 refine er (BR I ..) rfl
theorem qW(I:Inv s):(cN (av s) [S "html:body"] (S "")= -1)↔dD s [S "body"] (S "")=false:=by
 have hn:S "body"∈Nm:=by simp[Nm]
 have hpl:=qT I (l:=[S "body"]) (names:=[S "html:body"]) (sort:=S "") (.inl rfl) λi hi=>by
  have:=qQ (I.vc i hi) hn
  rw[show S "html:"++S "body"=S "html:body"from by decide]at this;exact this
 refine er (qR (uU hn) ..) (er (hpl ..) ?_)
 cases dp (λi=>aj [S "body"] (aL s i)) (λi=>cK (S "") (sp s i) (nm s i)) s.items.reverse with
 |none=>simp
 |some p=>simp
theorem Sg(I:Inv s)(hn:name=S "body"∨name=S "html"∨name=S "template"):l4 s name=fc s name:=by
 delta l4 fc dS
 rw[BR I]
 rcases hn with rfl|rfl|rfl
 ·rw[if_neg (show¬S "body"=S "template" by decide),if_pos (show S "body"=S "body"from rfl)]
  cases hq:dD s [S "body"] (S "")with
  |false=>rw[if_pos ((qW I).mpr hq)];simp
  |true=>
   rw[if_neg (λh=>by rw[(qW I).mp h]at hq;cases hq),if_neg (show¬S "body"=S "html" by decide)];simp
 ·rw[if_neg (show¬S "html"=S "template" by decide),if_neg (show¬S "html"=S "body" by decide),if_pos (show S "html"=S "html"from rfl),if_pos (show S "html"=S "html"from rfl)]
  cases hq:dD s [S "body"] (S "")with
  |false=>rw[if_pos ((qW I).mpr hq)];simp
  |true=>
   rw[if_neg (λh=>by rw[(qW I).mp h]at hq;cases hq)];simp
 ·rw[if_pos (show S "template"=S "template"from rfl),if_neg (show¬S "template"=S "body" by decide),if_neg (show¬S "template"=S "html" by decide)]
theorem BU(I:Inv s):fg s=cW s:=by
 refine ex2_2 (I.hd) λx0 r hx _=>?_
 delta fg cW av
 refine er (hx ..) ?_
 cases r with
 |nil=>rfl
 |cons x1 r=>
  have h1:x1∈s.items:=by refine er (hx ..) ?_;simp
  have:=uR (I.vc x1 h1) (x:=S "body") (by simp[Nm])
  show decide ([word s x1]=[S "html:body"])=fO s x1 (S "body")
  simp only[this,show S "html:"++S "body"=S "html:body"from by decide]
  simp
theorem uW{as:List (Str×Str)}:bu (eA (ub s) (s.items.getD 0 0) (S "frameset") (S "html") as) (S "in frameset")=jw s as:=by
 refine er (BK (by decide) ..) ?_
 rfl
theorem Sh(I:Inv s){as:List (Str×Str)}(hn:name=S "html"∨name=S "body"∨name=S "frameset"∨name=S "meta"):jx s name as=gq s name as:=by
 have hT:l8 s=fb s (S "template"):=by
  have:=BN I (x:=S "template") (by simp[Nm])
  exact this.symm
 delta jx gq
 rw[hT,BU I]
 rcases hn with rfl|rfl|rfl|rfl
 ·rw[if_neg (show¬S "html"=S "meta" by decide),if_pos (show S "html"=S "html"from rfl)]
  unfold lU
  cases hq:fb s (S "template")with
  |true=>
   rw[if_neg (λh=>by cases h.2),if_neg (λh=>absurd h.1 (by decide)),if_neg (λh=>absurd h.1 (by decide))];rfl
  |false=>rw[if_pos ⟨rfl,rfl⟩];rfl
 ·rw[if_neg (show¬S "body"=S "meta" by decide),if_neg (show¬S "body"=S "html" by decide),if_pos (show S "body"=S "body"from rfl),if_neg (λh=>absurd h.1 (by decide))]
  unfold lV
  cases hq:fb s (S "template")<;>cases hb:cW s
  ·rw[if_neg (λh=>by cases h.2.1),if_neg (λh=>absurd h.1 (by decide))];rfl
  ·rw[if_pos ⟨rfl,rfl,rfl⟩];rfl
  ·rw[if_neg (λh=>by cases h.2.1),if_neg (λh=>absurd h.1 (by decide))];rfl
  ·rw[if_neg (λh=>by cases h.2.2),if_neg (λh=>absurd h.1 (by decide))];rfl
 ·rw[if_neg (show¬S "frameset"=S "meta" by decide),if_neg (show¬S "frameset"=S "html" by decide),if_neg (show¬S "frameset"=S "body" by decide),if_pos (show S "frameset"=S "frameset"from rfl),if_neg (λh=>absurd h.1 (by decide)),if_neg (λh=>absurd h.1 (by decide))]
  unfold lW
  cases hb:cW s<;>cases hk:s.ok
  ·rw[if_neg (λh=>by cases h.2.1)];rfl
  ·rw[if_neg (λh=>by cases h.2.1)];rfl
  ·rw[if_neg (λh=>by cases h.2.2)];rfl
  ·rw[if_pos ⟨rfl,rfl,rfl⟩]
   exact uW.symm
 ·rw[if_pos (show S "meta"=S "meta"from rfl),if_neg (show¬S "meta"=S "html" by decide),if_neg (show¬S "meta"=S "body" by decide),if_neg (show¬S "meta"=S "frameset" by decide)]
end
section
variable{s t s':BS}{l names:List Str}{sort but name:Str}
structure fY(s s':BS):Prop where
 it:∃x0 r r',s.items=x0::r/\s'.items=x0::r'/\r'.Sublist r
 wn:∀i,i<s.names.length->sp s' i=sp s i/\nm s' i=nm s i
 nl:s.names.length<=s'.names.length
 ch:∀i∈s'.items.tail,br s' i=br s i/\∀p,i∈aJ s p->i∈aJ s' p
 fm:s'.form= -1∨s'.form=s.form
theorem Inv.nxt(I:Inv s)(F:Wf s)(N:fY s s'):Inv s':=by
 refine ex3_3 (N.it) λx0 r r' h1 h2 h3=>?_
 have hsub:∀i∈s'.items,i∈s.items:=λi hi=>by
  rw[h2]at hi;refine er (h1 ..) ?_
  rcases List.mem_cons.mp hi with rfl|hi
  ·exact U3 ..
  ·exact U7 _ (h3.subset hi)
 have hw:∀i,i<s.names.length->word s' i=word s i:=λi hi=>by unfold word;refine er ((N.wn i hi).1 ..) (er ((N.wn i hi).2 ..) rfl)
 refine ex2_3 (I.hd) λy0 q g1 g2 g3=>?_
 rw[h1]at g1
 have e0:x0=y0:=by injection g1
 have hx0:x0<s.names.length:=F.it x0 (by refine er (h1 ..) ?_;exact U3 ..)
 refine⟨⟨x0,r',h2,by refine er ((N.wn x0 hx0).1 ..) (er (e0 ..) ?_);exact g2,by refine er ((N.wn x0 hx0).2 ..) (er (e0 ..) ?_);exact g3⟩,?_,λi hi=>?_,λi hi=>?_,?_⟩
 ·have hn:=I.nd
  simp only[h1]at hn
  simp only[h2]
  refine ai (List.nodup_cons.mp hn) λn1 n2=>?_
  exact List.nodup_cons.mpr ⟨λh=>n1 (h3.subset h),n2.sublist h3⟩
 ·have hlt:=F.it i (hsub i hi)
  simp only[(N.wn i hlt).1,(N.wn i hlt).2]
  exact I.vc i (hsub i hi)
 ·refine ai (N.ch i hi) λc1 c2=>?_
  have hi':i∈s.items.tail:=by rw[h2]at hi;refine er (h1 ..) ?_;exact h3.subset hi
  refine ex1_3 (I.pa i hi') λp p1 p2 p3=>?_
  exact⟨p,by refine er (c1 ..) ?_;exact p1,Vq p2 N.nl,c2 p p3⟩
 ·rcases N.fm with h|h
  ·exact .inl h
  ·rcases I.fm with g|⟨g1,g2,g3⟩
   ·exact .inl (h.trans g)
   ·refine .inr ⟨by refine er (h ..) ?_;exact g1,by refine er (h ..) ?_;exact Vq g2 N.nl,λhm=>?_⟩
    rw[h]at hm⊢
    refine Vu (hw _ g2) ?_
    exact g3 (hsub _ hm)
theorem fY.same(I:Inv s)(h1:s'.items=s.items)(h2:s'.names=s.names)(h3:s'.spaces=s.spaces)(h4:s'.parents=s.parents)(h5:s'.children=s.children)(h6:s'.form= -1∨s'.form=s.form):fY s s':=by
 refine ex2_2 (I.hd) λx0 r hx _=>?_
 refine⟨⟨x0,r,r,hx,h1.trans hx,List.Sublist.refl r⟩,λi _=>?_,by refine er (h2 ..) ?_;exact Vf _,λi _=>?_,h6⟩
 ·delta sp nm;refine er (h2 ..) (er (h3 ..) ?_);exact⟨rfl,rfl⟩
 ·delta br aJ;refine er (h4 ..) (er (h5 ..) ?_);exact⟨rfl,λp h=>h⟩
theorem fY.cut{xs:List Nat}(h:∃x0 r r',s.items=x0::r/\xs=x0::r'/\r'.Sublist r)(h2:s'.names=s.names)(h3:s'.spaces=s.spaces)(h4:s'.parents=s.parents)(h5:s'.children=s.children)(h6:s'.form= -1∨s'.form=s.form)(h1:s'.items=xs):fY s s':=by
 refine⟨by refine er (h1 ..) ?_;exact h,λi _=>?_,by refine er (h2 ..) ?_;exact Vf _,λi _=>?_,h6⟩
 ·delta sp nm;refine er (h2 ..) (er (h3 ..) ?_);exact⟨rfl,rfl⟩
 ·delta br aJ;refine er (h4 ..) (er (h5 ..) ?_);exact⟨rfl,λp h=>h⟩
theorem Si(I:Inv s){p:Nat}(hp:0<p):∃x0 r r',s.items=x0::r/\s.items.take p=x0::r'/\r'.Sublist r:=by
 refine ex2_2 (I.hd) λx0 r hx _=>?_
 obtain⟨k,rfl⟩:∃k,p=k+1:=⟨p-1,by lia⟩
 exact⟨x0,r,r.take k,hx,by refine er (hx ..) ?_;rfl,Xc k r⟩
theorem Sj(I:Inv s){p:Nat}(hn:name∈Nm)(ho:¬name=S "html")(h:cN (av s) (cS name) sort=p):0<p:=by
 rcases Nat.eq_zero_or_pos p with h0|h0
 ·exfalso
  subst h0
  unfold cN at h
  cases hq:(cM (av s) (cS name)).getLast? with
  |none=>rw[hq]at h;dsimp only at h;omega
  |some q=>
   rw[hq]at h
   dsimp only at h
   split at h
   ·have hq0:q=0:=by exact vy ‹_›
    subst hq0
    have hm:=VT hq
    unfold cM at hm
    have hm2:=(List.mem_filter.mp hm).2
    refine ex2_3 (I.hd) λx0 r hx g1 g2=>?_
    have hv:=I.vc x0 (by refine er (hx ..) ?_;exact U3 ..)
    have:(av s).getD 0 (S "")=word s x0:=by unfold av;refine er (hx ..) ?_;rfl
    rw[this,R5 hv hn]at hm2
    have hna:aL s x0=S "html":=by unfold aL;refine er (if_pos g1 ..) (er (g2 ..) rfl)
    rw[hna]at hm2
    cases hh:aj hs name with
    |true=>rw[hh,if_pos rfl]at hm2;exact absurd hm2 (by decide)
    |false=>
     rw[hh,if_neg (by decide),iV]at hm2
     exact ho (of_decide_eq_true hm2).symm
   ·omega
 ·exact h0
theorem Sk(I:Inv s)(F:Wf s){i:Nat}(hi:i<s.names.length){as:List (Str×Str)}:fY s (bQ s i name as):=by
 refine ex2_2 (I.hd) λx0 r hx _=>?_
 have hup:=jk F hi
 refine⟨⟨x0,r,r,hx,hx,List.Sublist.refl r⟩,λj hj=>⟨?_,?_⟩,?_,λj hj=>⟨?_,λp hp=>?_⟩,.inr rfl⟩
 ·show(s.spaces++[S "html"]).getD j (S "")=s.spaces.getD j (S "")
  have:j<s.spaces.length:=by refine er (F.ls ..) ?_;exact hj
  refine er (U1 ..) (er (U4 this ..) (el (U1 ..) rfl))
 ·show(s.names++[name]).getD j (S "")=s.names.getD j (S "")
  refine er (U1 ..) (er (U4 hj ..) (el (U1 ..) rfl))
 ·show s.names.length<=(s.names++[name]).length
  simp
 ·have hjl:j<s.names.length:=F.it j (by have:j∈s.items.tail:=hj;exact WZ this)
  show((s.parents++[-1]).set s.names.length (aZ s i:Nat)).getD j (-1)=s.parents.getD j (-1)
  have hjp:j<s.parents.length:=by refine er (F.lp ..) ?_;exact hjl
  refine er (U1 ..) (er (Vn (WH ‹_›) ..) (er (U4 hjp ..) (el (U1 ..) rfl)))
 ·have hpl:p<s.children.length:=by
   by_cases h:p<s.children.length
   ·exact h
   ·unfold aJ at hp
    rw[U1,Vp (Nat.not_lt.mp ‹_›)]at hp
    cases hp
  have hc1:aJ (addN s (S "element") (S "html") name as (S "")) (aZ s i)=aJ s (aZ s i):=by
   have h:=F.lc
   unfold aJ
   simp[addN,V0,h,hup]
  show j∈((s.children++[[]]).set (aZ s i) (aJ (addN s (S "element") (S "html") name as (S "")) (aZ s i)++[s.names.length])).getD p []
  refine er (hc1 ..) ?_
  by_cases e:aZ s i=p
  ·subst e
   refine er (U1 ..) (er (Vl (by simp;exact nV ‹_›) ..) ?_)
   exact VD _ hp
  ·refine er (U1 ..) (er (Vn e ..) (er (U4 hpl ..) (el (U1 ..) ?_)))
   exact hp
end
section
variable{s t s':BS}{l names:List Str}{sort but name w:Str}
theorem kF(I:Inv s)(F:Wf s):Inv (aN s w):=I.nxt F (fY.same I rfl rfl rfl rfl rfl (.inr rfl))
theorem uX(I:Inv s)(F:Wf s){v:V}:Inv (dy s w v):=I.nxt F (fY.same I rfl rfl rfl rfl rfl (.inr rfl))
theorem BW(I:Inv s)(F:Wf s):Inv (bu s w):=I.nxt F (fY.same I rfl rfl rfl rfl rfl (.inr rfl))
theorem BX(I:Inv s)(F:Wf s){b:Bool}:Inv (gk s b):=I.nxt F (fY.same I rfl rfl rfl rfl rfl (.inr rfl))
theorem BY(I:Inv s)(F:Wf s){i:Nat}{as:List (Str×Str)}:Inv (fR s i as):=I.nxt F (fY.same I rfl rfl rfl rfl rfl (.inr rfl))
theorem Sl(I:Inv s)(F:Wf s):Inv (setForm s (-1)):=I.nxt F (fY.same I rfl rfl rfl rfl rfl (.inl rfl))
theorem uY(I:Inv s)(F:Wf s){b:Bool}:Inv (bG b s w):=by
 unfold bG
 split
 ·exact kF I F
 ·exact I
theorem qX(F:Wf s){b:Bool}:Wf (bG b s w):=by
 unfold bG
 split
 ·exact F.keep
 ·exact F
theorem BZ{b:Bool}:(bG b s w).items=s.items:=by
 unfold bG;split<;>rfl
theorem B8(I:Inv s)(F:Wf s){xs:List Nat}(h:∃x0 r r',s.items=x0::r/\xs=x0::r'/\r'.Sublist r):Inv (aQ s xs):=I.nxt F (fY.cut h rfl rfl rfl rfl (.inr rfl) rfl)
theorem Sm(I:Inv s)(F:Wf s){as:List (Str×Str)}:Inv (iq s name as):=by
 refine ex2_1 (kr I.ne) λxs i hx=>?_
 have hl:s.items.getLast?=some i:=by refine er (hx ..) ?_;simp
 unfold iq
 refine er (hl ..) ?_
 exact I.nxt F (Sk I F (F.it i (VT hl)))
theorem Sn(I:Inv s)(F:Wf s)(hn:name∈Nm)(ho:¬name=S "html"):Inv (d9 s name (cS name)):=by
 unfold d9
 split
 ·split
  ·exact Sm (kF I F) F.keep
  ·exact kF I F
 ·rename_i h
  refine ex1_2 (Bf h) λp hp _=>?_
  refine er (hp ..) ?_
  have:=Sj I hn ho hp
  refine B8 (uY I F) (qX F) ?_
  refine er (BZ ..) ?_
  exact Si I this
theorem So(I:Inv s)(F:Wf s):Inv (ip s):=by
 have I1:=Sl I F
 have F1:Wf (setForm s (-1)):=F.keep
 unfold ip
 cases hx:ju s with
 |none=>exact kF I1 F1
 |some p=>
  dsimp only
  split
  ·exact kF I1 F1
  ·cases hq:(cb (av s)).getLast? with
   |none=>exact I
   |some q=>
    unfold ju at hx
    by_cases h0:s.form= -1
    ·rw[if_pos h0]at hx;exact ak hx
    ·replace hx:=Vu (We (if_neg h0)) hx
     have hf:=I.fm.resolve_left h0
     have hp:p<s.items.length:=ow hx
     refine ex1_2 (List.findIdx?_eq_some_iff_getElem.mp hx) λg1 g2 g3=>?_
     have hgi:s.items[p]=s.form.toNat:=of_decide_eq_true g2
     have hmem:s.form.toNat∈s.items:=by refine el (hgi ..) ?_;exact VO _
     have hword:=hf.2.2 hmem
     have hpq:p<=q:=by
      have hq':(cb (s.items.reverse.reverse.map (word s))).getLast?=some q:=by refine el (qS ..) ?_;exact hq
      refine uV (r:=s.items.reverse) hq' (by simpa using hp) ?_
      refine er (Vv ..) ?_
      have:(s.items.map (word s)).getD p (S "")=word s s.form.toNat:=by refine er (U1 ..) (er (Vh ..) (er (U8 hp ..) (er (hgi ..) ?_)));rfl
      refine er (this ..) (er (hword ..) ?_);decide
     simp only[←BP hx hpq]
     refine ex2_3 (I.hd) λx0 r hxs c1 c2=>?_
     have hne:¬x0=s.form.toNat:=λe=>by
      have:word s x0=S "html:form":=by refine er (e ..) ?_;exact hword
      unfold word at this
      rw[c1,c2]at this
      exact absurd this (by decide)
     refine B8 (uY I1 F1) (qX F1) ⟨x0,r,(r.take q).erase s.form.toNat,?_,?_,?_⟩
     ·refine er (BZ ..) ?_;exact hxs
     ·refine er (hxs ..) (er (List.take_succ_cons ..) (er (Xu (by simpa using hne) ..) rfl))
     ·exact(List.erase_sublist ..).trans (Xc ..)
theorem Sp(I:Inv s)(F:Wf s)(hn:name∈Nm)(ho:¬name=S "html"):Inv (iU s name):=by
 refine er (kE ..) ?_
 split
 ·exact So I F
 ·exact Sn I F hn ho
theorem Sq(I:Inv s)(F:Wf s):Inv (gN s):=uY I F
theorem Sr(I:Inv s)(F:Wf s):Inv (dS s)/\Wf (dS s):=by
 unfold dS
 split
 ·exact⟨BW (Sq I F) (qX F),(qX F).keep⟩
 ·exact⟨kF I F,F.keep⟩
theorem Ss(I:Inv s)(F:Wf s):Inv (fc s name):=by
 refine ai (Sr I F) λh1 h2=>?_
 unfold fc
 split
 ·exact h1
 ·split
  ·split
   ·exact uX h1 h2
   ·exact h1
  ·exact uX I F
theorem Su(I:Inv s)(F:Wf s){as:List (Str×Str)}(hb:cW s=true):Inv (jw s as):=by
 refine ex2_3 (I.hd) λx0 r hx c1 c2=>?_
 have hx0:x0<s.names.length:=F.it x0 (by refine er (hx ..) ?_;exact U3 ..)
 have e0:s.items.getD 0 0=x0:=by refine er (hx ..) ?_;rfl
 have et:s.items.take 1=[x0]:=by refine er (hx ..) ?_;rfl
 unfold jw
 refine er (e0 ..) (er (et ..) ?_)
 generalize hT:aQ (dk s (br s (s.items.getD 1 0)).toNat (s.items.getD 1 0)) [x0]=t
 have ht1:t.names=s.names:=by refine el (hT ..) ?_;rfl
 have ht2:t.spaces=s.spaces:=by refine el (hT ..) ?_;rfl
 have ht3:t.form=s.form:=by refine el (hT ..) ?_;rfl
 have ht4:t.contents=s.contents:=by refine el (hT ..) ?_;rfl
 have ht5:t.parents.length=s.names.length:=by refine el (hT ..) ?_;show(s.parents.set _ _).length=_;refine er (WD ..) (er (F.lp ..) rfl)
 have ht6:t.children.length=s.names.length:=by refine el (hT ..) ?_;show(s.children.set _ _).length=_;refine er (WD ..) (er (F.lc ..) rfl)
 have hup:aZ t x0<s.names.length:=by
  have:aZ t x0=aZ s x0:=by unfold aZ dH;refine er (ht4 ..) rfl
  refine er (this ..) ?_;exact jk F hx0
 have hl:t.names.length=s.names.length:=by refine er (ht1 ..) rfl
 have hsp:∀j,j<s.names.length->sp (bQ t x0 (S "frameset") as) j=sp s j:=λj hj=>by
  show(t.spaces++[S "html"]).getD j (S "")=s.spaces.getD j (S "")
  refine er (ht2 ..) ?_
  have:j<s.spaces.length:=by refine er (F.ls ..) ?_;exact hj
  refine er (U1 ..) (er (U4 this ..) (el (U1 ..) rfl))
 have hnm:∀j,j<s.names.length->nm (bQ t x0 (S "frameset") as) j=nm s j:=λj hj=>by
  show(t.names++[S "frameset"]).getD j (S "")=s.names.getD j (S "")
  refine er (ht1 ..) ?_
  refine er (U1 ..) (er (U4 hj ..) (el (U1 ..) rfl))
 have hspN:sp (bQ t x0 (S "frameset") as) s.names.length=S "html":=by
  show(t.spaces++[S "html"]).getD s.names.length (S "")=_
  refine er (ht2 ..) (el (F.ls ..) ?_);simp
 have hnmN:nm (bQ t x0 (S "frameset") as) s.names.length=S "frameset":=by
  show(t.names++[S "frameset"]).getD s.names.length (S "")=_
  refine er (ht1 ..) ?_;simp
 refine⟨⟨x0,[s.names.length],rfl,?_,?_⟩,?_,λi hi=>?_,λi hi=>?_,?_⟩
 ·exact(hsp x0 hx0).trans c1
 ·exact(hnm x0 hx0).trans c2
 ·show[x0,s.names.length].Nodup
  simp;exact VB ‹_›
 ·have hi':i∈[x0,s.names.length]:=hi
  show(sp (bQ t x0 (S "frameset") as) i,nm (bQ t x0 (S "frameset") as) i)∈cT
  rcases List.mem_cons.mp hi' with rfl|hi'
  ·simp only[hsp i hx0,hnm i hx0]
   exact I.vc i (by refine er (hx ..) ?_;exact U3 ..)
  ·simp only[List.mem_singleton.mp hi',hspN,hnmN]
   simp[cT,hW]
 ·have hi':i∈[s.names.length]:=hi
  refine er (List.mem_singleton.mp hi' ..) ?_
  refine⟨aZ t x0,?_,?_,?_⟩
  ·show((t.parents++[-1]).set t.names.length (aZ t x0:Nat)).getD s.names.length (-1)=_
   refine er (hl ..) (el (ht5 ..) (er (Vy _ _ (Vf _) ..) ?_));simp
  ·show aZ t x0<(t.names++[S "frameset"]).length
   refine er (ht1 ..) ?_;simp;exact nV ‹_›
  ·show s.names.length∈((t.children++[[]]).set (aZ t x0) (aJ (addN t (S "element") (S "html") (S "frameset") as (S "")) (aZ t x0)++[t.names.length])).getD (aZ t x0) []
   refine er (U1 ..) (er (Vl (by simp;exact CN ‹_› ‹_›) ..) (er (hl ..) ?_))
   exact VM _ (List.mem_singleton.mpr rfl)
 ·show(bQ t x0 (S "frameset") as).form= -1∨_
  have hfe:(bQ t x0 (S "frameset") as).form=s.form:=ht3
  rcases I.fm with g|⟨g1,g2,g3⟩
  ·exact .inl (hfe.trans g)
  ·refine .inr ⟨?_,?_,λhm=>?_⟩
   ·show 0<=(bQ t x0 (S "frameset") as).form
    refine er (hfe ..) ?_;exact g1
   ·show(bQ t x0 (S "frameset") as).form.toNat<(t.names++[S "frameset"]).length
    refine er (hfe ..) (er (ht1 ..) ?_);simp;lia
   ·have hm':s.form.toNat∈[x0,s.names.length]:=by refine el (hfe ..) ?_;exact hm
    show word (bQ t x0 (S "frameset") as) (bQ t x0 (S "frameset") as).form.toNat=_
    simp only[hfe]
    unfold word
    simp only[hsp _ g2,hnm _ g2]
    have hx':s.form.toNat=x0:=by
     rcases List.mem_cons.mp hm' with h|h
     ·exact h
     ·have:=List.mem_singleton.mp h;lia
    exact g3 (by refine er (hx' ..) (er (hx ..) ?_);exact U3 ..)
theorem Sv(I:Inv s)(F:Wf s){as:List (Str×Str)}:Inv (gq s name as):=by
 have I1:=kF (w:=S "unexpected-start-tag") I F
 have F1:Wf (aN s (S "unexpected-start-tag")):=F.keep
 delta gq lU lV lW
 dsimp only
 split
 ·split
  ·exact I1
  ·exact BY I1 F1
 ·split
  ·split
   ·exact BY (BX I1 F1) F1.keep
   ·exact I1
  ·split
   ·split
    ·exact I1
    ·rename_i h
     have hb:cW s=true:=by
      cases hq:cW s with
      |true=>rfl
      |false=>rw[hq]at h;exact absurd rfl h
     refine er ((show s.items.getD 0 0=(aN s (S "unexpected-start-tag")).items.getD 0 0 from rfl) ..) (er (uW ..) ?_)
     exact Su I1 F1 hb
   ·exact uX I F
end
section
variable{s t s':BS}{l names:List Str}{sort but name w:Str}
noncomputable def d_(as:List (Str×Str)):Prop:=∀p∈as,aD p.1=true/\aD p.2=true
theorem bh.keep(F:bh s)(h1:s'.kinds=s.kinds:=by rfl)(h2:s'.spaces=s.spaces:=by rfl)(h3:s'.names=s.names:=by rfl)(h4:s'.attrs=s.attrs:=by rfl)(h5:s'.errors=s.errors:=by rfl)(h6:s'.mode=s.mode:=by rfl)(h7:s'.contents=s.contents:=by rfl):bh s':=
 ⟨by refine er (h1 ..) ?_;exact F.kn,by refine er (h2 ..) ?_;exact F.sn,by refine er (h3 ..) ?_;exact F.nn,by refine er (h4 ..) ?_;exact F.an,by refine er (h5 ..) ?_;exact F.en,by refine er (h6 ..) ?_;exact F.mn,by unfold dH;refine er (h7 ..) ?_;exact F.cu⟩
theorem jy(F:bh s)(hw:aD w=true):bh (aN s w):=by
 refine⟨F.kn,F.sn,F.nn,F.an,λe he=>?_,F.mn,F.cu⟩
 rcases List.mem_append.mp he with he|he
 ·exact F.en e he
 ·refine er (List.mem_singleton.mp he ..) ?_
  show([V.str w,V.str s.mode].all (dm 5))=true
  simp only[VL,WJ,V2]
  show(aD w&&aD s.mode)=true
  refine er (hw ..) (er (F.mn ..) ?_);rfl
theorem qY(F:bh s)(hw:aD w=true){v:V}(hv:dm 5 v=true):bh (dy s w v):=by
 refine⟨F.kn,F.sn,F.nn,F.an,λe he=>?_,F.mn,F.cu⟩
 rcases List.mem_append.mp he with he|he
 ·exact F.en e he
 ·refine er (List.mem_singleton.mp he ..) ?_
  show([V.str w,v,V.str s.mode].all (dm 5))=true
  simp only[VL,WJ,V2,hv,Xv]
  show(aD w&&aD s.mode)=true
  refine er (hw ..) (er (F.mn ..) ?_);rfl
theorem uZ(F:bh s)(hw:aD w=true):bh (bu s w):=⟨F.kn,F.sn,F.nn,F.an,F.en,hw,F.cu⟩
theorem qZ(F:bh s)(hw:aD w=true){b:Bool}:bh (bG b s w):=by
 unfold bG
 split
 ·exact jy F hw
 ·exact F
theorem u_{t:Str}{as:List (Str×Str)}(ht:aD t=true)(hn:aD name=true)(ha:d_ as):dm 5 (bT t name as)=true:=by
 show([V.str t,V.str name,V.tup (as.map bz),V.bool false].all (dm 4))=true
 have h1:dm 4 (V.tup (as.map bz))=true:=by
  refine List.all_eq_true.mpr λv hv=>?_
  refine ex1_2 (List.mem_map.mp hv) λp hp zq2=>?_;subst zq2
  show([V.str p.1,V.str p.2].all (dm 2))=true
  simp only[VL,WJ,V2]
  show(aD p.1&&aD p.2)=true
  refine er ((ha p hp).1 ..) (er ((ha p hp).2 ..) ?_);rfl
 have h2:dm 4 (V.str t)=true:=ht
 have h3:dm 4 (V.str name)=true:=hn
 have h4:dm 4 (V.bool false)=true:=rfl
 simp only[VL,WJ,V2,h1,h2,h3,h4]
theorem Sw{as:List (Str×Str)}{p:Str×Str}(h:d_ as)(hp:aD p.1=true/\aD p.2=true):d_ (ii as p):=by
 unfold ii
 split
 ·exact h
 ·intro q hq
  rcases List.mem_append.mp hq with hq|hq
  ·exact h q hq
  ·refine er (List.mem_singleton.mp hq ..) ?_;exact hp
theorem B9:∀{ps as:List (Str×Str)},d_ as->d_ ps->d_ (iT as ps)
 |[],_,h,_=>h
 |p::ps,as,h,hp=>by
  show d_ (iT (ii as p) ps)
  exact B9 (Sw h (hp p (U3 ..))) λq hq=>hp q (U7 _ hq)
theorem Sx(F:bh s){i:Nat}:d_ (bN s i):=by
 unfold bN
 simp only[U1]
 cases h:s.attrs[i]? with
 |none=>intro p hp;cases hp
 |some l=>exact F.an l (Vb h)
theorem B_(F:bh s){i:Nat}{as:List (Str×Str)}(ha:d_ as):bh (fR s i as):=by
 refine⟨F.kn,F.sn,F.nn,λl hl=>?_,F.en,F.mn,F.cu⟩
 rcases Wb hl with hl|rfl
 ·exact F.an l hl
 ·exact B9 (Sx F) ha
theorem Ca(F:bh s){i:Nat}{as:List (Str×Str)}(hn:aD name=true)(ha:d_ as):bh (bQ s i name as):=by
 refine⟨λx hx=>?_,λx hx=>?_,λx hx=>?_,λx hx=>?_,F.en,F.mn,F.cu⟩
 ·rcases List.mem_append.mp (show x∈s.kinds++[S "element"]from hx)with h|h
  ·exact F.kn x h
  ·refine er (List.mem_singleton.mp h ..) ?_;kernel_rfl
 ·rcases List.mem_append.mp (show x∈s.spaces++[S "html"]from hx)with h|h
  ·exact F.sn x h
  ·refine er (List.mem_singleton.mp h ..) ?_;kernel_rfl
 ·rcases List.mem_append.mp (show x∈s.names++[name]from hx)with h|h
  ·exact F.nn x h
  ·refine er (List.mem_singleton.mp h ..) ?_;exact hn
 ·rcases List.mem_append.mp (show x∈s.attrs++[as]from hx)with h|h
  ·exact F.an x h
  ·refine er (List.mem_singleton.mp h ..) ?_;exact ha
theorem q4:aD (S "open-elements")=true:=by kernel_rfl
theorem mc:aD (S "unexpected-end-tag")=true:=by kernel_rfl
theorem Sy:aD (S "unexpected-start-tag")=true:=by kernel_rfl
theorem Cb:aD (S "after body")=true:=by kernel_rfl
theorem Cc:aD (S "in head")=true:=by kernel_rfl
theorem Sz:aD (S "in template")=true:=by kernel_rfl
theorem SA:aD (S "foreign content")=true:=by kernel_rfl
theorem SC:aD (S "in frameset")=true:=by kernel_rfl
theorem SD:aD (S "start")=true:=by kernel_rfl
theorem Cd:aD (S "end")=true:=by kernel_rfl
theorem SF:aD (S "p")=true:=by kernel_rfl
theorem SG:aD (S "frameset")=true:=by kernel_rfl
theorem SH(F:bh s):bh (iU s name):=by
 simp only[kE]
 split
 ·unfold ip
  split
  ·exact jy F.keep mc
  ·split
   ·exact jy F.keep mc
   ·split
    ·exact F
    ·exact(qZ (s:=setForm s (-1)) F.keep q4).keep
 ·unfold d9
  split
  ·split
   ·unfold iq
    split
    ·exact Ca (jy F mc) SF (λp hp=>by cases hp)
    ·exact jy F mc
   ·exact jy F mc
  ·exact(qZ F q4).keep
theorem vd(F:bh s):bh (dS s):=by
 unfold dS
 split
 ·exact uZ (qZ F q4) Cb
 ·exact jy F mc
theorem SI(F:bh s)(hn:aD name=true):bh (fc s name):=by
 have hh:∀p∈([]:List (Str×Str)),aD p.1=true/\aD p.2=true:=λp hp=>by cases hp
 unfold fc
 split
 ·exact vd F
 ·split
  ·split
   ·refine qY (vd F) ?_ (u_ Cd hn hh)
    split
    ·exact SA
    ·exact Cb
   ·exact vd F
  ·exact qY F Cc (u_ Cd hn hh)
theorem SJ(F:bh s){as:List (Str×Str)}(hn:aD name=true)(ha:d_ as):bh (gq s name as):=by
 have F1:=jy (w:=S "unexpected-start-tag") F Sy
 delta gq lU lV lW
 dsimp only
 split
 ·split
  ·exact F1
  ·exact B_ F1 ha
 ·split
  ·split
   ·exact B_ (s:=gk (aN s (S "unexpected-start-tag")) false) F1.keep ha
   ·exact F1
  ·split
   ·split
    ·exact F1
    ·refine er ((show s.items.getD 0 0=(aN s (S "unexpected-start-tag")).items.getD 0 0 from rfl) ..) (er (uW ..) ?_)
     unfold jw
     refine uZ ?_ SC
     exact(Ca (s:=aQ (dk (aN s (S "unexpected-start-tag")) _ _) _) (i:=(aN s (S "unexpected-start-tag")).items.getD 0 0) F1.keep SG ha).keep
   ·exact qY F Cc (u_ SD hn ha)
theorem SK(F:bh s){modes:List Str}:bh (gp s modes):=by
 unfold gp
 split
 ·exact qY F Sz (by kernel_rfl)
 ·exact(qZ (b:=s.items.any (ij s)) F q4).keep
end
noncomputable def Tg:List Str:=[S "/li",S "/dd",S "/dt",S "/p",S "/form",S "/h1",S "/h2",S "/h3",S "/h4",S "/h5",S "/h6",S "/body",S "/html",S "/template",S "<html",S "<body",S "<frameset",S "<meta",S "eof",S "/div",
 S "/ul",S "/ol",S "/dl",S "/address",S "/article",S "/aside",S "/blockquote",S "/button",S "/center",S "/details",S "/dialog",S "/dir",S "/fieldset",S "/listing",S "/main",S "/nav",S "/pre",S "/search",S "/section",S "/summary"]
theorem Ce:Tg.all (λw=>aD w&&decide (0<w.cps.size)&&aD (cv w)&&(decide (w=S "eof")||(if w0 w=S "<"then aj [S "html",S "body",S "frameset",S "meta"] (cv w)else aj [S "body",S "html",S "template"] (cv w)||aj Nm (cv w))))=true:=by kernel_rfl
theorem md{l:List Str}{x:Str}(h:aj l x=true):x∈l:=by
 refine ex1_2 (List.any_eq_true.mp h) λy hy e=>?_
 have:=of_decide_eq_true e
 subst this;exact hy
section
variable{s:BS}{w:Str}{as:List (Str×Str)}{modes:List Str}
theorem Cf(I:Inv s){x0 x1:Nat}{r:List Nat}(h:s.items=x0::x1::r):∃p:Nat,br s x1=p/\p<s.names.length/\x1∈aJ s p:=I.pa x1 (by refine er (h ..) ?_;exact U3 ..)
theorem ve(I:Inv s)(F:Wf s)(T:bh s)(hw:w∈Tg)(ha:d_ as):oB s w as modes=gv s w as modes/\bh (gv s w as modes)/\(w≠S "eof"->Inv (gv s w as modes)):=by
 have h:=List.all_eq_true.mp Ce w hw
 simp only[U2,VG]at h
 refine bZ λgP gh=>?_
 refine ai (h) λhn1 f4=>?_
 refine ai hn1 λhn3 f3=>?_
 refine ai hn3 λf1 f2=>?_
 refine gh ?_;clear gh gP
 delta oB gv
 by_cases h1:w=S "eof"
 ·refine er (if_pos h1 ..) (er (if_pos h1 ..) ?_)
  exact⟨Sf I,SK T,λh=>absurd h1 h⟩
 ·refine er (if_neg h1 ..) (er (if_neg h1 ..) ?_)
  have f5:=f4.resolve_left (by simpa using h1)
  by_cases h2:w0 w=S "<"
  ·rw[if_pos h2]at f5
   refine er (if_pos h2 ..) (er (if_pos h2 ..) ?_)
   have hm:=md f5
   have hn:cv w=S "html"∨cv w=S "body"∨cv w=S "frameset"∨cv w=S "meta":=by simpa using hm
   exact⟨Sh I hn,SJ T f3 ha,λ_=>Sv I F⟩
  ·rw[if_neg h2]at f5
   refine er (if_neg h2 ..) (er (if_neg h2 ..) ?_)
   cases h3:aj [S "body",S "html",S "template"] (cv w)with
   |true=>
    refine er (if_pos rfl ..) (er (if_pos rfl ..) ?_)
    have hm:=md h3
    have hn:cv w=S "body"∨cv w=S "html"∨cv w=S "template":=by simpa using hm
    exact⟨Sg I hn,SI T f3,λ_=>Ss I F⟩
   |false=>
    rw[h3]at f5
    have hn:=md (by simpa using f5:aj Nm (cv w)=true)
    have ho:¬cv w=S "body"/\¬cv w=S "template"/\¬cv w=S "html":=by
     refine⟨λe=>?_,λe=>?_,λe=>?_⟩<;>(rw[e]at h3;exact absurd h3 (by decide))
    refine er (if_neg (by decide) ..) (er (if_neg (by decide) ..) ?_)
    have ag:=Se I F hn ho
    exact⟨ag,by refine el (ag ..) ?_;exact SH T,λ_=>by refine el (ag ..) ?_;exact Sp I F hn ho.2.2⟩
theorem SL(I:Inv s)(F:Wf s)(T:bh s)(hw:w∈Tg)(ha:d_ as)(hl:as.length<=3)(hm:∀x∈modes,aD x=true)(hml:modes.length<=1000):uN s w as modes:=by
 have h:=List.all_eq_true.mp Ce w hw
 simp only[U2,VG]at h
 refine bZ λgP gh=>?_
 refine ai (h) λhn6 f4=>?_
 refine ai hn6 λhn8 f3=>?_
 refine ai hn8 λf1 f2=>?_
 refine bK (ve (modes:=modes) I F T hw ha) λag fi _=>?_
 refine ex2_2 (I.hd) λx0 r hx _=>?_
 refine gh ?_;clear gh gP
 have hd:cW s=true->∃x1 r',s.items=x0::x1::r':=λhb=>by
  cases r with
  |nil=>unfold cW at hb;rw[hx]at hb;cases hb
  |cons x1 r'=>exact⟨x1,r',hx⟩
 refine⟨f1,of_decide_eq_true f2,AL f3,I.ne,?_,I.vo,?_,λhb=>?_,λhb=>?_,hl,hm,hml,ag,fi⟩
 ·rcases I.fm with h|h
  ·exact .inl h
  ·exact .inr h.1
 ·refine ex1_1 (BQ I) λq hq=>?_
  refine er (hq ..) ?_;simp
 ·refine ex2_1 (hd hb) λx1 r' h=>?_
  have:s.items.getD 1 0=x1:=by refine er (h ..) ?_;rfl
  refine er (this ..) ?_
  exact Cf I h
 ·replace hb:=Vu (We (BU I)) hb
  refine ex2_1 (hd hb) λx1 r' h=>?_
  refine ex1_3 (Cf I h) λp h1 h2 h3=>?_
  exact⟨x0,x1,r',p,h,h1,h2,h3⟩
end
section
variable{H:Hp}{n:Nat}
noncomputable def digit(xs:List Int)(p:Nat):Int:=xs.getD p 0
theorem vf{xs:List Int}{p:Nat}(hx:xs.length<=1000)(hp:p<=1000):cF (n+1) 719 [.frz xs,.int (p:Nat)] H=some (.int (digit xs p),H):=by
 refine er (N_ ..) ?_
 unfold yZ
 have h1:∀f:V->K,UX (bw (.frz xs)) f H=f (.int (xs.length:Nat)) H:=λf=>aq (by
  unfold bw
  simp only[decide_eq_true (show xs.length<=1048576 by exact nD ‹_›),if_true];rfl)
 have h2:∀g:Bool->K,UX (af .Lt (.int (p:Nat)) (.int (xs.length:Nat))) g H=g (decide (((p:Nat):Int)<(xs.length:Nat))) H:=λg=>rfl
 simp only[jp,h1,h2]
 by_cases h:p<xs.length
 ·have h3:((p:Nat):Int)<(xs.length:Nat):=by exact nZ ‹_›
  have h4:∀f:V->K,UX (aa (.frz xs) (.int (p:Nat))) f H=f (.int (digit xs p)) H:=λf=>aq (by
   have hs:(small (p:Int)&&decide ((0:Int)<=(p:Nat)))=true:=by unfold small;simp;omega
   refine(congrFun (if_pos hs) H).trans ?_
   refine er ((show((p:Nat):Int).toNat=p from rfl) ..) (er (U8 h ..) ?_)
   unfold digit
   refine er (U1 ..) (er (U8 h ..) ?_);rfl)
  simp only[h3,decide_true,if_true,h4,aH]
 ·have h3:¬((p:Nat):Int)<(xs.length:Nat):=by omega
  simp only[h3,decide_false,U0,if_false,aH]
  unfold digit
  refine er (U1 ..) (er (Vp (Nat.not_lt.mp ‹_›) ..) ?_);rfl
end
section
variable{H:Hp}{n:Nat}
theorem SM:Al H (U Tg) (cF (n+1) 733 [] H):=by
 refine er (Oc ..) ?_
 unfold y2
 refine er (js (l:=Tg.take 20) (by kernel_rfl) (by kernel_rfl) ..) ?_
 refine er (kD (by decide+kernel) ..) ?_
 refine er (js (l:=Tg.drop 20) (by kernel_rfl) (by kernel_rfl) ..) ?_
 refine er (add_lists (xs:=(Tg.take 20).map .str) (ys:=(Tg.drop 20).map .str) (by simp[U]) (by simp[U]) (by simp[Tg]) ..) ?_
 refine⟨[U (Tg.take 20),U (Tg.drop 20),U Tg],(H++[U (Tg.take 20)]++[U (Tg.drop 20)]).length,?_,?_⟩
 ·have e:O.list ((Tg.take 20).map V.str++(Tg.drop 20).map V.str)=U Tg:=by unfold U;refine el (VW ..) (er (Ww ..) rfl)
  refine er (e ..) ?_
  simp[UZ]
 ·have:=bl (H:=H++[U (Tg.take 20)]++[U (Tg.drop 20)]) (x:=U Tg) (L:=[])
  simpa using this
end
noncomputable def dI:List Str:=[S "p",S "li",S "dd",S "dt",S "ul",S "ol",S "div",S "address",S "button",S "h1",S "h6",S "form",S "template",S "td",S "table",S "svg:desc",S "svg:g",S "svg:p",S "math:mi",S "math:mrow",
 S "span",S "b",S "rt",S "option",S "optgroup",S "tbody",S "tr",S "th",S "caption",S "object",S "applet",S "math:annotation-xml",S "body",S "frameset",S "h3",S "h4"]
structure dU(m:Nat)(ws:List Str):Prop where
 hd:∃r,ws=S "html"::r/\∀w∈r,w∈dI
 le:ws.length<=m
section
variable{H:Hp}{n:Nat}{f:V->K}{g:Bool->K}
theorem vg{a b:Int}(ha:small a=true)(hb:small b=true):UX (ax .Mult (.int a) (.int b)) f H=f (.int (a*b)) H:=by
 refine aq ?_
 show(if small a&&small b then UZ (.int (a*b))else UY:M V) H=_
 refine er (ha ..) (er (hb ..) ?_);rfl
theorem mh{a b:Int}(hb:small b=true)(h:0<b):UX (ax .FloorDiv (.int a) (.int b)) f H=f (.int (a.fdiv b)) H:=by
 refine aq ?_
 show(if small b&&decide (0<b)then UZ (.int (a.fdiv b))else UY:M V) H=_
 refine er (hb ..) (er (decide_eq_true h ..) ?_);rfl
theorem gT{a b:Int}(h:0<b):UX (ax .Mod (.int a) (.int b)) f H=f (.int (a.fmod b)) H:=by
 refine aq ?_
 show(if 0<b then UZ (.int (a.fmod b))else UY:M V) H=_
 refine er (if_pos h ..) ?_;rfl
theorem mi{a:Int}{b:Nat}(h:0<b):∃r:Nat,a.fmod (b:Nat)=r/\r<b:=by
 have h1:=Int.fmod_nonneg_of_pos a (show(0:Int)<(b:Nat) by exact nZ ‹_›)
 have h2:=Int.fmod_lt_of_pos a (show(0:Int)<(b:Nat) by exact nZ ‹_›)
 exact⟨(a.fmod (b:Nat)).toNat,by exact nO ‹_›,by omega⟩
theorem oF{k:Nat}(h:k<=1000):small ((k:Nat):Int)=true:=by unfold small;simp;omega
theorem SN{m:Nat}{ws:List Str}(W:dU m ws){p:Nat}(hp:0<p)(hl:p<=ws.length){w:Str}(hw:w∈dI):dU (m+1) (ws.take p++[w]++ws.drop p):=by
 obtain⟨⟨r,rfl,hr⟩,hle⟩:=W
 obtain⟨k,rfl⟩:∃k,p=k+1:=⟨p-1,by lia⟩
 refine⟨⟨r.take k++[w]++r.drop k,rfl,λx hx=>?_⟩,?_⟩
 ·simp only[WX,Ve]at hx
  rcases hx with(hx|rfl)|hx
  ·exact hr x (VH hx)
  ·exact hw
  ·exact hr x (VI hx)
 ·simp at hle hl⊢;lia
theorem SO{m:Nat}{ws:List Str}(W:dU m ws){p:Nat}(hp:0<p)(hl:p<=ws.length){w:Str}(hw:w∈dI):dU (m+1) (ws.take p++[w]++ws.drop (p+1)):=by
 obtain⟨⟨r,rfl,hr⟩,hle⟩:=W
 obtain⟨k,rfl⟩:∃k,p=k+1:=⟨p-1,by lia⟩
 refine⟨⟨r.take k++[w]++r.drop (k+1),rfl,λx hx=>?_⟩,?_⟩
 ·simp only[WX,Ve]at hx
  rcases hx with(hx|rfl)|hx
  ·exact hr x (VH hx)
  ·exact hw
  ·exact hr x (VI hx)
 ·simp at hle hl⊢;lia
theorem SP{m:Nat}{ws:List Str}(W:dU m ws){p:Nat}(hp:0<p)(hl:p<=ws.length):dU (m+1) (ws.take p++ws.drop (p+1)):=by
 obtain⟨⟨r,rfl,hr⟩,hle⟩:=W
 obtain⟨k,rfl⟩:∃k,p=k+1:=⟨p-1,by lia⟩
 refine⟨⟨r.take k++r.drop (k+1),rfl,λx hx=>?_⟩,?_⟩
 ·rw[WX]at hx
  rcases hx with hx|hx
  ·exact hr x (VH hx)
  ·exact hr x (VI hx)
 ·simp at hle hl⊢
  exact Vm (Nat.add_le_add (VU ..) (Nat.sub_le_sub_left (Nat.le_succ k) _)) (by rw[Xx hl];exact Nat.le_of_succ_le hle)
theorem vh{k l:Nat}{ws:List Str}(h:H[k]?=some (U ws))(hl:l<=1000)(hx:ws.length<=1000):UX (bk (.ref k) (some (.int (l:Nat))) .none) f H=f (.ref H.length) (H++[U (ws.drop l)]):=by
 have:=qF (f:=f) h (by exact iY ‹_›:l<100000) (by simp;exact nD ‹_›)
 simp only[this,show O.list ((ws.map V.str).drop l)=U (ws.drop l) by simp[U]]
theorem q5{k l:Nat}{ws:List Str}(h:H[k]?=some (U ws))(hl:l<=1000)(hx:ws.length<=1000):UX (bk (.ref k) .none (some (.int (l:Nat)))) f H=f (.ref H.length) (H++[U (ws.take l)]):=by
 have:=qG (f:=f) h (by exact iY ‹_›:l<100000) (by simp;exact nD ‹_›)
 simp only[this,show O.list ((ws.map V.str).take l)=U (ws.take l) by simp[U]]
theorem oG{j k:Nat}{x y:List Str}(h:H[j]?=some (U x))(h2:H[k]?=some (U y))(hx:x.length<=1000)(hy:y.length<=1000):UX (ax .Add (.ref j) (.ref k)) f H=f (.ref H.length) (H++[U (x++y)]):=by
 have:=add_lists (f:=f) h h2 (by simp;lia)
 simp only[this,show O.list (x.map V.str++y.map V.str)=U (x++y) by simp[U]]
end
section
variable{H:Hp}{n:Nat}{f:V->K}{g:Bool->K}
def q6(w p x:V)(f:V->K):K:=UX (bk w .none (some p)) λx22=>UX (ax .Add x22 x) λx23=>UX (bk w (some p) .none) λx24=>UX (ax .Add x23 x24) f
def q7(w p x:V)(f:V->K):K:=UX (bk w .none (some p)) λx28=>UX (ax .Add x28 x) λx29=>UX (ax .Add p (.int 1)) λx30=>UX (bk w (some x30) .none) λx31=>UX (ax .Add x29 x31) f
def q8(w p:V)(f:V->K):K:=UX (bk w .none (some p)) λx35=>UX (ax .Add p (.int 1)) λx36=>UX (bk w (some x36) .none) λx37=>UX (ax .Add x35 x37) f
def q9(x:V)(a b c d:K):K:=UX (ax .Mod x (.int 4)) λx20=>UX (af .Eq x20 (.int 1)) λt21=>if t21=true then a else(UX (ax .Mod x (.int 4)) λx26=>UX (af .Eq x26 (.int 2)) λt27=>if t27=true then b else(UX (ax .Mod x (.int 4)) λx33=>UX (af .Eq x33 (.int 3)) λt34=>if t34=true then c else d))
theorem SQ{i:Int}{a b c d:K}{P:Option (V×Hp)->Prop}(ha:P (a H))(hb:P (b H))(hc:P (c H))(hd:P (d H)):P (q9 (.int i) a b c d H):=by
 unfold q9
 rw[gT (by decide),aT]
 by_cases h1:i.fmod 4=1
 ·rw[decide_eq_true h1,if_pos rfl];exact ha
 ·rw[decide_eq_false h1,if_neg (show¬(false=true) by decide),gT (by decide),aT]
  by_cases h2:i.fmod 4=2
  ·rw[decide_eq_true h2,if_pos rfl];exact hb
  ·rw[decide_eq_false h2,if_neg (show¬(false=true) by decide),gT (by decide),aT]
   by_cases h3:i.fmod 4=3
   ·rw[decide_eq_true h3,if_pos rfl];exact hc
   ·rw[decide_eq_false h3,if_neg (show¬(false=true) by decide)];exact hd
theorem Cg{p:Nat}:((p:Nat):Int)+1=((p+1:Nat):Int):=rfl
theorem SR{wk ww p:Nat}{ws:List Str}{w:Str}{P:Option (V×Hp)->Prop}(hw:H[wk]?=some (U ws))(hww:H[ww]?=some (U [w]))(hp:p<=500)(hl:ws.length<=100)(k:∀G r,(H++G)[r]?=some (U (ws.take p++[w]++ws.drop p))->P (f (.ref r) (H++G))):P (q6 (.ref wk) (.int (p:Nat)) (.ref ww) f H):=by
 unfold q6
 have b1:(H++[U (ws.take p)])[H.length]?=some (U (ws.take p)):=bl
 have b2:(H++[U (ws.take p)]++[U (ws.take p++[w])])[(H++[U (ws.take p)]).length]?=some (U (ws.take p++[w])):=bl
 rw[q5 hw (nD ‹_›) (nD ‹_›),oG b1 (ap hww _) (by simp;exact Vm (VU _ _) (nD ‹_›)) (by simp),vh (ap (ap hw _) _) (nD ‹_›) (nD ‹_›),oG (ap b2 _) bl (by simp;exact Vm (VU _ _) (nD ‹_›)) (by simp;lia)]
 rw[U9,U9,U9]
 refine k _ _ ?_
 rw[←U9,←U9,←U9]
 exact bl
theorem ST{wk ww p:Nat}{ws:List Str}{w:Str}{P:Option (V×Hp)->Prop}(hw:H[wk]?=some (U ws))(hww:H[ww]?=some (U [w]))(hp:p<=500)(hl:ws.length<=100)(k:∀G r,(H++G)[r]?=some (U (ws.take p++[w]++ws.drop (p+1)))->P (f (.ref r) (H++G))):P (q7 (.ref wk) (.int (p:Nat)) (.ref ww) f H):=by
 unfold q7
 have b1:(H++[U (ws.take p)])[H.length]?=some (U (ws.take p)):=bl
 have b2:(H++[U (ws.take p)]++[U (ws.take p++[w])])[(H++[U (ws.take p)]).length]?=some (U (ws.take p++[w])):=bl
 rw[q5 hw (nD ‹_›) (nD ‹_›),oG b1 (ap hww _) (by simp;exact Vm (VU _ _) (nD ‹_›)) (by simp),dR,Cg,vh (ap (ap hw _) _) (iY ‹_›) (nD ‹_›),oG (ap b2 _) bl (by simp;exact Vm (VU _ _) (nD ‹_›)) (by simp;lia)]
 rw[U9,U9,U9]
 refine k _ _ ?_
 rw[←U9,←U9,←U9]
 exact bl
theorem SV{wk p:Nat}{ws:List Str}{P:Option (V×Hp)->Prop}(hw:H[wk]?=some (U ws))(hp:p<=500)(hl:ws.length<=100)(k:∀G r,(H++G)[r]?=some (U (ws.take p++ws.drop (p+1)))->P (f (.ref r) (H++G))):P (q8 (.ref wk) (.int (p:Nat)) f H):=by
 unfold q8
 have b1:(H++[U (ws.take p)])[H.length]?=some (U (ws.take p)):=bl
 rw[q5 hw (nD ‹_›) (nD ‹_›),dR,Cg,vh (ap hw _) (iY ‹_›) (nD ‹_›),oG (ap b1 _) bl (by simp;exact Vm (VU _ _) (nD ‹_›)) (by simp;lia)]
 rw[U9,U9]
 refine k _ _ ?_
 rw[←U9,←U9]
 exact bl
theorem SW(cl:Cl)(w_v bp bR bX fF fG d7 bE:V)(dO dP nr eu bD:Option V)(kn kb:Z->K):ca (TT cl) 23 d3.scope (ba d3.body [4]) w_v (eW (some bp) (some bR) (some bX) (some fF) (some fG) (some d7) (some bE) dO dP nr eu bD) kn kb=(UX (ax .Mult (.int 7) bR) λx8=>UX (ax .Add x8 w_v) λx9=>UX (cl 719 [bp,x9]) λx7=>UX (ax .FloorDiv x7 (.int 4)) λx10=>UX (bw bE) λx11=>UX (ax .Mod x10 x11) λx12=>UX (ax .Add (.int 1) x12) λx13=>UX (bw bE) λx14=>UX (ax .FloorDiv x10 x14) λx15=>UX (bw d7) λx16=>UX (ax .Mod x15 x16) λx17=>UX (aa d7 x17) λx18=>UX (aF (.list [x18])) λx19=>q9 x7 (q6 bE x13 x19 λz=>(kn (eW (some bp) (some bR) (some bX) (some fF) (some fG) (some d7) (some z) (some w_v) (some x7) (some x10) (some x13) (some x19)))) (q7 bE x13 x19 λz=>(kn (eW (some bp) (some bR) (some bX) (some fF) (some fG) (some d7) (some z) (some w_v) (some x7) (some x10) (some x13) (some x19)))) (q8 bE x13 λz=>(kn (eW (some bp) (some bR) (some bX) (some fF) (some fG) (some d7) (some z) (some w_v) (some x7) (some x10) (some x13) (some x19)))) (kn (eW (some bp) (some bR) (some bX) (some fF) (some fG) (some d7) (some bE) (some w_v) (some x7) (some x10) (some x13) (some x19)))):=Oe ..
noncomputable def mj(xs:List Int)(k:Nat)(text:Str)(p:Nat)(w:V)(o1 o2 o3 o4 o5:Option V):Z:=eW (some (.frz xs)) (some (.int (k:Nat))) (some (.str text)) (some (.str (S "p li dd dt ul ol div address button h1 h6 form template td table svg:desc svg:g svg:p math:mi math:mrow"))) (some (.str (S "span b rt option optgroup tbody tr th caption object applet math:annotation-xml body frameset h3 h4"))) (some (.ref p)) (some w) o1 o2 o3 o4 o5
def vj(w x13 x19 x7:V)(kf:V->K)(k0:K):K:=q9 x7 (q6 w x13 x19 kf) (q7 w x13 x19 kf) (q8 w x13 kf) k0
theorem SX{cl:Cl}{xs:List Int}{k p:Nat}{text:Str}{v w:V}{o1 o2 o3 o4 o5:Option V}{kn kb:Z->K}:ca (TT cl) 23 d3.scope (ba d3.body [4]) v (mj xs k text p w o1 o2 o3 o4 o5) kn kb=(UX (ax .Mult (.int 7) (.int (k:Nat))) λx8=>UX (ax .Add x8 v) λx9=>UX (cl 719 [.frz xs,x9]) λx7=>UX (ax .FloorDiv x7 (.int 4)) λx10=>UX (bw w) λx11=>UX (ax .Mod x10 x11) λx12=>UX (ax .Add (.int 1) x12) λx13=>UX (bw w) λx14=>UX (ax .FloorDiv x10 x14) λx15=>UX (bw (.ref p)) λx16=>UX (ax .Mod x15 x16) λx17=>UX (aa (.ref p) x17) λx18=>UX (aF (.list [x18])) λx19=>vj w x13 x19 x7 (λz=>kn (mj xs k text p z (some v) (some x7) (some x10) (some x13) (some x19))) (kn (mj xs k text p w (some v) (some x7) (some x10) (some x13) (some x19)))):=SW ..
section
variable{P:Option (V×Hp)->Prop}{ws:List Str}{wk p:Nat}
theorem SY{ww r m:Nat}{w:Str}{i:Int}{kf:V->K}{k0:K}(hw:H[wk]?=some (U ws))(hww:H[ww]?=some (U [w]))(W:dU m ws)(hm:m<=8)(hwm:w∈dI)(hr:r+1<=ws.length)(fin:∀L wk' ws',(H++L)[wk']?=some (U ws')->dU (m+1) ws'->P (kf (.ref wk') (H++L)))(fin0:P (k0 H)):
  P (vj (.ref wk) (.int ((r+1:Nat):Int)) (.ref ww) (.int i) kf k0 H):=by
 have hlen:ws.length<=8:=Vm W.le hm
 delta vj
 refine SQ ?_ ?_ ?_ fin0
 ·exact SR hw hww (nG ‹_› ‹_›) (nD ‹_›) λG' r h=>fin G' r _ h (SN W (Wu _) hr hwm)
 ·exact ST hw hww (nG ‹_› ‹_›) (nD ‹_›) λG' r h=>fin G' r _ h (SO W (Wu _) hr hwm)
 ·exact SV hw (nG ‹_› ‹_›) (nD ‹_›) λG' r h=>fin G' r _ h (SP W (Wu _) hr)
theorem SZ{xs:List Int}{k j:Nat}{text:Str}{o1 o2 o3 o4 o5:Option V}{kn kb:Z->K}(hx:xs.length<=1000)(hk:k<=8)(hj:j<2)(hpool:H[p]?=some (U dI))(hw:H[wk]?=some (U ws))(W:dU (6+j) ws)
  (fin:∀L wk' ws' a b c d e,(H++L)[wk']?=some (U ws')->dU (6+j+1) ws'->P (kn (mj xs k text p (.ref wk') a b c d e) (H++L))):P (ca (TT (cF (n+1))) 23 d3.scope (ba d3.body [4]) (.int ((j+1:Nat):Int)) (mj xs k text p (.ref wk) o1 o2 o3 o4 o5) kn kb H):=by
 have hlen:ws.length<=8:=by have:=W.le;lia
 have hpos:0<ws.length:=by obtain⟨r,e,_⟩:=W.hd;rw[e];simp
 rw[SX,vg (by decide) (oF (nD ‹_›)),show((7:Int)*(k:Nat))=((7*k:Nat):Int) by push_cast;rfl,dR,show(((7*k:Nat):Int)+((j+1:Nat):Int))=((7*k+(j+1):Nat):Int) by push_cast;rfl,aq (vf (n:=n) hx (by lia)),mh (by decide) (by decide),gO hw (nD ‹_›)]
 generalize digit xs (7*k+(j+1))=dg
 refine ex1_2 (mi (a:=dg.fdiv 4) hpos) λr1 hr1 hr1l=>?_
 rw[gT (nZ ‹_›),hr1,dR,show(1:Int)+(r1:Nat)=((r1+1:Nat):Int) by push_cast;lia,gO hw (nD ‹_›),mh (oF (nD ‹_›)) (nZ ‹_›),gO hpool (by simp[dI])]
 refine ex1_2 (mi (a:=(dg.fdiv 4).fdiv (ws.length:Nat)) (b:=dI.length) (by simp[dI])) λr2 hr2 hr2l=>?_
 rw[gT (by simp[dI]),hr2,lY hpool hr2l (by simp[dI]),cH]
 have hwm:dI.getD r2 (S "")∈dI:=by rw[U1,U8 hr2l];exact VO _
 generalize dI.getD r2 (S "")=w at*
 refine SY (ap hw [U [w]]) bl W (by lia) hwm ‹_› (λL wk' ws' h W'=>?_) (fin _ wk ws _ _ _ _ _ (ap hw [U [w]]) ⟨W.hd,Vx W.le⟩)
 rw[U9]at h⊢
 exact fin _ wk' ws' _ _ _ _ _ h W'
end
noncomputable def vk(H:Hp)(o:Option (V×Hp)):Prop:=∃ws,dU 8 ws/\Al H (U ws) o
inductive S0(xs:List Int)(k:Nat)(text:Str)(H:Hp)(j:Nat)(vars:Z)(H':Hp):Prop
 |mk (G:Hp) (wk:Nat) (ws:List Str) (o1 o2 o3 o4 o5:Option V) (e:H'=H++G) (hp:(H++G)[H.length]?=some (U dI)) (hw:(H++G)[wk]?=some (U ws)) (W:dU (6+j) ws) (hj:j<=2) (e2:vars=mj xs k text H.length (.ref wk) o1 o2 o3 o4 o5)
theorem S6{j:Nat}{v:V}(h:[V.int 1,V.int 2][j]?=some v):j<2/\v= .int ((j+1:Nat):Int):=by
 rcases j with _|_|j
 ·exact⟨by decide,(Option.some.inj h).symm⟩
 ·exact⟨by decide,(Option.some.inj h).symm⟩
 ·exact ak h
theorem S7{xs:List Int}{k:Nat}{text:Str}{ws0:List Str}(hx:xs.length<=1000)(hk:k<=8)(hf:aD text=true)(ht:Txt.words text=ws0)(W0:dU 6 ws0):
  ∃ws,dU 8 ws/\Al H (U ws) (cF (n+2) 740 [.frz xs,.int (k:Nat),.str text] H):=by
 show vk H _
 rw[Od]
 unfold y3
 rw[kD (by decide+kernel),kD (by decide+kernel),js (l:=dI) (by kernel_rfl) (by kernel_rfl),js hf ht,t_]
 refine lR (P:=vk H) (S0 xs k text H) (λj v vars H' kn hv I hk2=>?_) (λvars H' I=>?_) ⟨[U dI,U ws0],(H++[U dI]).length,ws0,_,_,_,_,_,by simp,by simp,by simp,W0,by exact V5 _,rfl⟩
 ·obtain⟨G,wk,ws,o1,o2,o3,o4,o5,e,hpool,hw,W,hj,e2⟩:=I
  refine ai (S6 hv) λhj2 hvj=>?_
  rw[e,e2,hvj]
  refine SZ hx hk hj2 hpool hw W λL wk' ws' a b c d e h W'=>hk2 _ _ ⟨G++L,wk',ws',a,b,c,d,e,by rw[U9],?_,?_,W',hj2,rfl⟩
  ·rw[←U9];exact ap hpool L
  ·rw[←U9];exact h
 ·obtain⟨G,wk,ws,o1,o2,o3,o4,o5,e,hpool,hw,W,hj,e2⟩:=I
  rw[e,e2]
  show vk H (bB (TT (cF (n+1))) 24 d3.scope d3.body 5 (eW _ _ _ _ _ _ _ _ _ _ _ _) bH bI (H++G))
  rw[Of]
  exact⟨ws,⟨W.hd,by have:=W.le;assumption⟩,G,wk,rfl,hw⟩
end
section
variable{H L:Hp}{n:Nat}{f:V->K}{g:Unit->K}{cl:Cl}
theorem fZ{i:Nat}{o:O}(h:L[i]?=some o):(H++L)[H.length+i]?=some o:=by
 refine er (Vd (Va _ _) ..) (er (Vz ..) ?_);exact h
theorem dW{o:O}:UX (aF o) f (H++L)=f (.ref (H.length+L.length)) (H++(L++[o])):=by
 refine er (cH ..) (er (Vs ..) (er (U9 ..) rfl))
def mq(C:Addr)(es:List (Str×V))(n:Str)(v:V):List (Str×V):=(te C es n v).getD []
theorem bV{i:Nat}{C:Addr}{es:List (Str×V)}{nm:Str}{v:V}(h:L[i]?=some (.inst C es))(hp:(te C es nm v).isSome=true):UX (a_ (.ref (H.length+i)) nm v (TT cl)) g (H++L)=g () (H++L.set i (.inst C (mq C es nm v))):=by
 refine ex1_1 (Option.isSome_iff_exists.mp hp) λes' he=>?_
 refine er (lF (fZ h) he ..) (er (Vy _ _ (Va _ _) ..) (er (Vz ..) ?_))
 unfold mq
 refine er (he ..) ?_;rfl
theorem ir{i:Nat}{C:Addr}{es:List (Str×V)}{nm:Str}{v:V}(h:L[i]?=some (.inst C es))(hp:zk C es nm=some v):UX (ab (.ref (H.length+i)) nm (TT cl)) f (H++L)=f v (H++L):=cG (fZ h) hp
theorem kG{i:Nat}{xs:List V}{v:V}{kk:V->K}(h:L[i]?=some (.list xs))(hl:xs.length<=100000):b9 (H.length+i) .append kk [v] (H++L)=kk .none (H++L.set i (.list (xs++[v]))):=by
 refine er (dw (fZ h) hl ..) (er (Vy _ _ (Va _ _) ..) (er (Vz ..) rfl))
end
section
variable{H:Hp}{n:Nat}
theorem q_{L:Hp}{c:cX}{vs:List V}{cl:Cl}{f:V->K}{H':Hp}(h:cl c.init (.ref (H.length+L.length)::vs) (H++(L++[.inst c.addr []]))=some (.none,H')):UX (gZ (TT cl) c vs) f (H++L)=f (.ref (H.length+L.length)) H':=by
 refine aq ?_
 unfold gZ
 refine er (dW ..) ?_
 exact(aq h).trans rfl
theorem gw{m:K}{L L':Hp}{r:Option (V×Hp)}(h:L=L')(k:m (H++L')=r):m (H++L)=r:=h▸k
end
section
variable{H:Hp}{n:Nat}
theorem S8{L:Hp}{xs:List V}{f:V->K}(h:xs.length<=100000):UX (dK (.tup xs)) f (H++L)=f (.ref (H.length+L.length)) (H++(L++[.list xs])):=by
 refine er (tN h ..) (er (Vs ..) (er (U9 ..) rfl))
theorem S9{r0 b0:O}:lE (cF n) (.ref (H.length+2)) (.str (S "document")) (.str (S "")) (.str (S "")) (.tup []) (.str (S "")) (H++[r0,b0,.inst 553 [(S "kinds",.ref (H.length+3)),(S "spaces",.ref (H.length+4)),(S "names",.ref (H.length+5)),(S "attrs",.ref (H.length+6)),(S "texts",.ref (H.length+7)),(S "parents",.ref (H.length+8)),(S "children",.ref (H.length+9)),(S "contents",.ref (H.length+10))],
   .list [],.list [],.list [],.list [],.list [],.list [],.list [],.dict [] (some 0)])=some (.int 0,H++[r0,b0,.inst 553 [(S "kinds",.ref (H.length+3)),(S "spaces",.ref (H.length+4)),(S "names",.ref (H.length+5)),(S "attrs",.ref (H.length+6)),(S "texts",.ref (H.length+7)),(S "parents",.ref (H.length+8)),(S "children",.ref (H.length+9)),(S "contents",.ref (H.length+10))],
  U [S "document"],U [S ""],U [S ""],aS [H.length+11],U [S ""],cz [-1],aS [H.length+12],.dict [] (some 0),.list [],.list []]):=by
 unfold lE
 delta xX xW xV xU xT xS xR xQ xP xO xN xM z9 z8
 refine er (ir (i:=2) (v:= .ref (H.length+3)) rfl (by kernel_rfl) ..) (er (bO (fZ (i:=3) rfl) cQ rfl ..) (er (kG (i:=3) rfl (by simp) ..) (er (bL ..) ?_)))
 refine er (ir (i:=2) (v:= .ref (H.length+4)) rfl (by kernel_rfl) ..) (er (bO (fZ (i:=4) rfl) cQ rfl ..) (er (kG (i:=4) rfl (by simp) ..) (er (bL ..) ?_)))
 refine er (ir (i:=2) (v:= .ref (H.length+5)) rfl (by kernel_rfl) ..) (er (bO (fZ (i:=5) rfl) cQ rfl ..) (er (kG (i:=5) rfl (by simp) ..) (er (bL ..) ?_)))
 refine er (ir (i:=2) (v:= .ref (H.length+6)) rfl (by kernel_rfl) ..) (er (bO (fZ (i:=6) rfl) cQ rfl ..) (er (S8 (by simp) ..) (er (kG (i:=6) rfl (by simp) ..) (er (bL ..) ?_))))
 refine er (ir (i:=2) (v:= .ref (H.length+7)) rfl (by kernel_rfl) ..) (er (bO (fZ (i:=7) rfl) cQ rfl ..) (er (kG (i:=7) rfl (by simp) ..) (er (bL ..) ?_)))
 refine er (ir (i:=2) (v:= .ref (H.length+8)) rfl (by kernel_rfl) ..) (er (bO (fZ (i:=8) rfl) cQ rfl ..) (er (kG (i:=8) rfl (by simp) ..) (er (bL ..) ?_)))
 refine er (ir (i:=2) (v:= .ref (H.length+9)) rfl (by kernel_rfl) ..) (er (bO (fZ (i:=9) rfl) cQ rfl ..) (er (dW ..) (er (kG (i:=9) rfl (by simp) ..) (er (bL ..) ?_))))
 refine er (ir (i:=2) (v:= .ref (H.length+3)) rfl (by kernel_rfl) ..) (er (lG (fZ (i:=3) (o:= .list [.str (S "document")]) rfl) (by simp) ..) (er (nY ..) ?_))
 kernel_rfl
theorem S_{r0 b0:O}:cF (n+2) 454 [.ref (H.length+2)] (H++[r0,b0,.inst 553 []])=some (.none,H++[r0,b0,.inst 553 [(S "kinds",.ref (H.length+3)),(S "spaces",.ref (H.length+4)),(S "names",.ref (H.length+5)),(S "attrs",.ref (H.length+6)),(S "texts",.ref (H.length+7)),(S "parents",.ref (H.length+8)),(S "children",.ref (H.length+9)),(S "contents",.ref (H.length+10))],
  U [S "document"],U [S ""],U [S ""],aS [H.length+11],U [S ""],cz [-1],aS [H.length+12],.dict [] (some 0),.list [],.list []]):=by
 refine er (IL ..) ?_
 unfold yd
 refine er (dW ..) (er (bV (i:=2) (C:=553) rfl (by kernel_rfl) ..) ?_)
 refine er (dW ..) (er (bV (i:=2) (C:=553) rfl (by kernel_rfl) ..) ?_)
 refine er (dW ..) (er (bV (i:=2) (C:=553) rfl (by kernel_rfl) ..) ?_)
 refine er (dW ..) (er (bV (i:=2) (C:=553) rfl (by kernel_rfl) ..) ?_)
 refine er (dW ..) (er (bV (i:=2) (C:=553) rfl (by kernel_rfl) ..) ?_)
 refine er (dW ..) (er (bV (i:=2) (C:=553) rfl (by kernel_rfl) ..) ?_)
 refine er (dW ..) (er (bV (i:=2) (C:=553) rfl (by kernel_rfl) ..) ?_)
 refine er (dW ..) (er (bV (i:=2) (C:=553) rfl (by kernel_rfl) ..) ?_)
 refine gw (L':=[r0,b0,.inst 553 [(S "kinds",.ref (H.length+3)),(S "spaces",.ref (H.length+4)),(S "names",.ref (H.length+5)),(S "attrs",.ref (H.length+6)),(S "texts",.ref (H.length+7)),(S "parents",.ref (H.length+8)),(S "children",.ref (H.length+9)),(S "contents",.ref (H.length+10))],
   .list [],.list [],.list [],.list [],.list [],.list [],.list [],.dict [] (some 0)]) (by kernel_rfl) ?_
 refine er (di (g:=463) (fZ (i:=2) rfl) (by kernel_rfl) ..) ?_
 dsimp only
 refine er (xY ..) ?_
 exact(aq S9).trans rfl
end
section
variable{H:Hp}{n:Nat}
noncomputable def iW(h:Nat):O:= .inst 553 [(S "kinds",.ref (h+3)),(S "spaces",.ref (h+4)),(S "names",.ref (h+5)),(S "attrs",.ref (h+6)),(S "texts",.ref (h+7)),(S "parents",.ref (h+8)),(S "children",.ref (h+9)),(S "contents",.ref (h+10))]
noncomputable def Ta(h:Nat):O:= .inst 631 [(S "rules",.ref (h+0)),(S "tree",.ref (h+2)),(S "stack",.ref (h+13)),(S "formatting",.ref (h+15)),(S "mode",.str (S "initial")),(S "original",.str (S "")),(S "modes",.ref (h+17)),(S "head",.int (-1)),(S "form",.int (-1)),
 (S "owners",.ref (h+18)),(S "is_frameset_ok",.bool true),(S "is_scripting",.bool false),(S "is_foster",.bool false),(S "context",.int (-1)),(S "quirks",.str (S "no-quirks")),(S "errors",.ref (h+19)),(S "pending",.ref (h+20)),(S "wish",.str (S "")),
 (S "is_skipping",.bool false),(S "is_acknowledged",.bool false),(S "is_done",.bool false)]
noncomputable def kH(h:Nat):Hp:=[dF,Ta h,iW h,U [S "document"],U [S ""],U [S ""],aS [h+11],U [S ""],cz [-1],aS [h+12],.dict [] (some 0),.list [],.list [],
 .inst 178 [(S "tree",.ref (h+2)),(S "items",.ref (h+14))],.list [],.inst 429 [(S "tree",.ref (h+2)),(S "items",.ref (h+16))],.list [],.list [],.dict [] (some 0),.list [],.list []]
theorem Tb{L:Hp}{t:V}(i:Nat)(h:L[i]?=some (.inst 178 [])):cF (n+1) 91 [.ref (H.length+i),t] (H++L)=some (.none,H++((L.set i (O.inst 178 [(S "tree",t)])++[O.list []]).set i (.inst 178 [(S "tree",t),(S "items",.ref (H.length+L.length))]))):=by
 have hi:=(List.getElem?_eq_some_iff.mp h).1
 refine er (IM ..) ?_
 unfold ye
 refine er (bV h (by kernel_rfl) ..) (er ((show mq 178 [] (S "tree") t=[(S "tree",t)] by kernel_rfl) ..) (er (dW ..) (er (bV (i:=i) (C:=178) (es:=[(S "tree",t)]) (by refine er (U4 (by simpa using hi) ..) (er (Vl hi ..) rfl)) (by kernel_rfl) ..) ?_)))
 rw[show∀v,mq 178 [(S "tree",t)] (S "items") v=[(S "tree",t),(S "items",v)]from λv=>by kernel_rfl,WD]
 rfl
theorem Tc{L:Hp}{t:V}(i:Nat)(h:L[i]?=some (.inst 429 [])):cF (n+1) 363 [.ref (H.length+i),t] (H++L)=some (.none,H++((L.set i (O.inst 429 [(S "tree",t)])++[O.list []]).set i (.inst 429 [(S "tree",t),(S "items",.ref (H.length+L.length))]))):=by
 have hi:=(List.getElem?_eq_some_iff.mp h).1
 refine er (L1 ..) ?_
 unfold yG
 refine er (bV h (by kernel_rfl) ..) (er ((show mq 429 [] (S "tree") t=[(S "tree",t)] by kernel_rfl) ..) (er (dW ..) (er (bV (i:=i) (C:=429) (es:=[(S "tree",t)]) (by refine er (U4 (by simpa using hi) ..) (er (Vl hi ..) rfl)) (by kernel_rfl) ..) ?_)))
 rw[show∀v,mq 429 [(S "tree",t)] (S "items") v=[(S "tree",t),(S "items",v)]from λv=>by kernel_rfl,WD]
 rfl
end
section
variable{H:Hp}{n:Nat}
theorem Td:cF (n+3) 579 [.ref (H.length+1),.ref (H.length+0)] (H++[dF,.inst 631 []])=some (.none,H++kH H.length):=by
 refine er (L3 ..) ?_
 unfold yH
 refine er (bV (i:=1) (C:=631) rfl (by kernel_rfl) ..) ?_
 rw[q_ (c:=rP) (H':=H++[dF,.inst 631 [(S "rules",.ref (H.length+0))],O.inst 553 [(S "kinds",.ref (H.length+3)),(S "spaces",.ref (H.length+4)),(S "names",.ref (H.length+5)),(S "attrs",.ref (H.length+6)),(S "texts",.ref (H.length+7)),(S "parents",.ref (H.length+8)),(S "children",.ref (H.length+9)),(S "contents",.ref (H.length+10))],U [S "document"],U [S ""],U [S ""],aS [H.length+11],U [S ""],cz [-1],aS [H.length+12],O.dict [] (some 0),O.list [],O.list []])]
 rotate_left
 ·exact(gw (m:=cF (n+2) 454 [.ref (H.length+2)]) (L':=[dF,.inst 631 [(S "rules",.ref (H.length+0))],.inst 553 []]) (by kernel_rfl) S_)
 refine er (bV (i:=1) (C:=631) rfl (by kernel_rfl) ..) ?_
 refine gw (L':=[dF,O.inst 631 [(S "rules",.ref (H.length+0)),(S "tree",.ref (H.length+2))],O.inst 553 [(S "kinds",.ref (H.length+3)),(S "spaces",.ref (H.length+4)),(S "names",.ref (H.length+5)),(S "attrs",.ref (H.length+6)),(S "texts",.ref (H.length+7)),(S "parents",.ref (H.length+8)),(S "children",.ref (H.length+9)),(S "contents",.ref (H.length+10))],U [S "document"],U [S ""],U [S ""],aS [H.length+11],U [S ""],cz [-1],aS [H.length+12],O.dict [] (some 0),O.list [],O.list []]) (by kernel_rfl) ?_
 refine er (ir (i:=1) (v:= .ref (H.length+2)) rfl (by kernel_rfl) ..) ?_
 refine gw (L':=[dF,.inst 631 [(S "rules",.ref (H.length+0)),(S "tree",.ref (H.length+2))],iW H.length,U [S "document"],U [S ""],U [S ""],aS [H.length+11],U [S ""],cz [-1],aS [H.length+12],O.dict [] (some 0),O.list [],O.list []]) (by kernel_rfl) ?_
 refine er (q_ (c:=rN) (Tb 13 rfl) ..) ?_
 refine er (bV (i:=1) (C:=631) rfl (by kernel_rfl) ..) ?_
 refine gw (L':=[dF,.inst 631 [(S "rules",.ref (H.length+0)),(S "tree",.ref (H.length+2)),(S "stack",.ref (H.length+13))],iW H.length,U [S "document"],U [S ""],U [S ""],aS [H.length+11],U [S ""],cz [-1],aS [H.length+12],O.dict [] (some 0),O.list [],O.list [],.inst 178 [(S "tree",.ref (H.length+2)),(S "items",.ref (H.length+14))],.list []]) (by kernel_rfl) ?_
 refine er (ir (i:=1) (v:= .ref (H.length+2)) rfl (by kernel_rfl) ..) ?_
 refine er (q_ (c:=rO) (Tc 15 rfl) ..) ?_
 refine er (bV (i:=1) (C:=631) rfl (by kernel_rfl) ..) ?_
 refine gw (L':=[dF,.inst 631 [(S "rules",.ref (H.length+0)),(S "tree",.ref (H.length+2)),(S "stack",.ref (H.length+13)),(S "formatting",.ref (H.length+15))],iW H.length,U [S "document"],U [S ""],U [S ""],aS [H.length+11],U [S ""],cz [-1],aS [H.length+12],O.dict [] (some 0),O.list [],O.list [],.inst 178 [(S "tree",.ref (H.length+2)),(S "items",.ref (H.length+14))],.list [],.inst 429 [(S "tree",.ref (H.length+2)),(S "items",.ref (H.length+16))],.list []]) (by kernel_rfl) ?_
 refine er (bV (i:=1) (C:=631) rfl (by kernel_rfl) ..) ?_
 refine er (bV (i:=1) (C:=631) rfl (by kernel_rfl) ..) ?_
 refine er (dW ..) ?_
 refine er (bV (i:=1) (C:=631) rfl (by kernel_rfl) ..) ?_
 refine gw (L':=[dF,.inst 631 [(S "rules",.ref (H.length+0)),(S "tree",.ref (H.length+2)),(S "stack",.ref (H.length+13)),(S "formatting",.ref (H.length+15)),(S "mode",.str (S "initial")),(S "original",.str (S "")),(S "modes",.ref (H.length+17))],iW H.length,U [S "document"],U [S ""],U [S ""],aS [H.length+11],U [S ""],cz [-1],aS [H.length+12],O.dict [] (some 0),O.list [],O.list [],.inst 178 [(S "tree",.ref (H.length+2)),(S "items",.ref (H.length+14))],.list [],.inst 429 [(S "tree",.ref (H.length+2)),(S "items",.ref (H.length+16))],.list [],.list []]) (by kernel_rfl) ?_
 refine er (bV (i:=1) (C:=631) rfl (by kernel_rfl) ..) ?_
 refine er (bV (i:=1) (C:=631) rfl (by kernel_rfl) ..) ?_
 refine er (dW ..) ?_
 refine er (bV (i:=1) (C:=631) rfl (by kernel_rfl) ..) ?_
 refine gw (L':=[dF,.inst 631 [(S "rules",.ref (H.length+0)),(S "tree",.ref (H.length+2)),(S "stack",.ref (H.length+13)),(S "formatting",.ref (H.length+15)),(S "mode",.str (S "initial")),(S "original",.str (S "")),(S "modes",.ref (H.length+17)),(S "head",.int (-1)),(S "form",.int (-1)),(S "owners",.ref (H.length+18))],iW H.length,U [S "document"],U [S ""],U [S ""],aS [H.length+11],U [S ""],cz [-1],aS [H.length+12],O.dict [] (some 0),O.list [],O.list [],.inst 178 [(S "tree",.ref (H.length+2)),(S "items",.ref (H.length+14))],.list [],.inst 429 [(S "tree",.ref (H.length+2)),(S "items",.ref (H.length+16))],.list [],.list [],.dict [] (some 0)]) (by kernel_rfl) ?_
 refine er (bV (i:=1) (C:=631) rfl (by kernel_rfl) ..) ?_
 refine er (bV (i:=1) (C:=631) rfl (by kernel_rfl) ..) ?_
 refine er (bV (i:=1) (C:=631) rfl (by kernel_rfl) ..) ?_
 refine gw (L':=[dF,.inst 631 [(S "rules",.ref (H.length+0)),(S "tree",.ref (H.length+2)),(S "stack",.ref (H.length+13)),(S "formatting",.ref (H.length+15)),(S "mode",.str (S "initial")),(S "original",.str (S "")),(S "modes",.ref (H.length+17)),(S "head",.int (-1)),(S "form",.int (-1)),(S "owners",.ref (H.length+18)),(S "is_frameset_ok",.bool true),(S "is_scripting",.bool false),(S "is_foster",.bool false)],iW H.length,U [S "document"],U [S ""],U [S ""],aS [H.length+11],U [S ""],cz [-1],aS [H.length+12],O.dict [] (some 0),O.list [],O.list [],.inst 178 [(S "tree",.ref (H.length+2)),(S "items",.ref (H.length+14))],.list [],.inst 429 [(S "tree",.ref (H.length+2)),(S "items",.ref (H.length+16))],.list [],.list [],.dict [] (some 0)]) (by kernel_rfl) ?_
 refine er (bV (i:=1) (C:=631) rfl (by kernel_rfl) ..) ?_
 refine er (bV (i:=1) (C:=631) rfl (by kernel_rfl) ..) ?_
 refine er (dW ..) ?_
 refine er (bV (i:=1) (C:=631) rfl (by kernel_rfl) ..) ?_
 refine gw (L':=[dF,.inst 631 [(S "rules",.ref (H.length+0)),(S "tree",.ref (H.length+2)),(S "stack",.ref (H.length+13)),(S "formatting",.ref (H.length+15)),(S "mode",.str (S "initial")),(S "original",.str (S "")),(S "modes",.ref (H.length+17)),(S "head",.int (-1)),(S "form",.int (-1)),(S "owners",.ref (H.length+18)),(S "is_frameset_ok",.bool true),(S "is_scripting",.bool false),(S "is_foster",.bool false),(S "context",.int (-1)),(S "quirks",.str (S "no-quirks")),(S "errors",.ref (H.length+19))],iW H.length,U [S "document"],U [S ""],U [S ""],aS [H.length+11],U [S ""],cz [-1],aS [H.length+12],O.dict [] (some 0),O.list [],O.list [],.inst 178 [(S "tree",.ref (H.length+2)),(S "items",.ref (H.length+14))],.list [],.inst 429 [(S "tree",.ref (H.length+2)),(S "items",.ref (H.length+16))],.list [],.list [],.dict [] (some 0),.list []]) (by kernel_rfl) ?_
 refine er (dW ..) ?_
 refine er (bV (i:=1) (C:=631) rfl (by kernel_rfl) ..) ?_
 refine er (bV (i:=1) (C:=631) rfl (by kernel_rfl) ..) ?_
 refine er (bV (i:=1) (C:=631) rfl (by kernel_rfl) ..) ?_
 refine gw (L':=[dF,.inst 631 [(S "rules",.ref (H.length+0)),(S "tree",.ref (H.length+2)),(S "stack",.ref (H.length+13)),(S "formatting",.ref (H.length+15)),(S "mode",.str (S "initial")),(S "original",.str (S "")),(S "modes",.ref (H.length+17)),(S "head",.int (-1)),(S "form",.int (-1)),(S "owners",.ref (H.length+18)),(S "is_frameset_ok",.bool true),(S "is_scripting",.bool false),(S "is_foster",.bool false),(S "context",.int (-1)),(S "quirks",.str (S "no-quirks")),(S "errors",.ref (H.length+19)),(S "pending",.ref (H.length+20)),(S "wish",.str (S "")),(S "is_skipping",.bool false)],iW H.length,U [S "document"],U [S ""],U [S ""],aS [H.length+11],U [S ""],cz [-1],aS [H.length+12],O.dict [] (some 0),O.list [],O.list [],.inst 178 [(S "tree",.ref (H.length+2)),(S "items",.ref (H.length+14))],.list [],.inst 429 [(S "tree",.ref (H.length+2)),(S "items",.ref (H.length+16))],.list [],.list [],.dict [] (some 0),.list [],.list []]) (by kernel_rfl) ?_
 refine er (bV (i:=1) (C:=631) rfl (by kernel_rfl) ..) ?_
 refine er (bV (i:=1) (C:=631) rfl (by kernel_rfl) ..) ?_
 exact gw (L':=kH H.length) (by kernel_rfl) rfl
end
noncomputable def Te:List Rl:=[.rules,.b,.t,.kinds,.spaces,.names,.attrs,.texts,.parents,.children,.contents,.at_ 0,.ch 0,.st,.items,.fm,.fitems,.modes,.owners,.errors,.pending]
set_option backward.match.sparseCases false in
noncomputable def mr:Rl->Nat
 | .rules=>0| .b=>1| .t=>2| .kinds=>3| .spaces=>4| .names=>5| .attrs=>6| .texts=>7| .parents=>8| .children=>9| .contents=>10| .at_ _=>11| .ch _=>12
 | .st=>13| .items=>14| .fm=>15| .fitems=>16| .modes=>17| .owners=>18| .errors=>19| .pending=>20|_=>21
noncomputable def kI(h:Nat):Ad:=λr=>h+mr r
noncomputable def s0:BS:={kinds:=[S "document"],spaces:=[S ""],names:=[S ""],attrs:=[[]],texts:=[S ""],parents:=[-1],children:=[[]],contents:=[],items:=[],errors:=[],form:= -1,ok:=true,mode:=S "initial",done:=false}
noncomputable def W0(h:Nat):Wd:={s:=s0,u:= .none,modes:=[],ex:=[],oA:=0,aA:=[h+11],cA:=[h+12],uA:=[],uC:=[]}
section
variable{H:Hp}{ad ad':Ad}{W:Wd}{n c:Nat}{f:V->K}
set_option tactic.hygienic true in
theorem rc{h:Nat}{r:Rl}{o:O}(hc:cont (kI h) (W0 h) r=some o):(kH h)[mr r]?=some o/\bj (kI h) (W0 h) r=h+mr r/\Te[mr r]?=some r:=by
 cases r
 case at_ i=>
  cases i with
  |zero=>cases hc;exact⟨rfl,rfl,rfl⟩
  |succ i=>exact ak hc
 case ch i=>
  cases i with
  |zero=>cases hc;exact⟨rfl,rfl,rfl⟩
  |succ i=>exact ak hc
 case dat i=>exact ak hc
 case dch i=>exact ak hc
 case ex i=>exact ak hc
 all_goals first|exact⟨hc,rfl,rfl⟩|cases hc
theorem Tf:BV (H++kH H.length) (kI H.length) (W0 H.length):=by
 refine⟨λr o hc=>?_,λr r' hr hr' e=>?_⟩
 ·refine bK (rc hc) λh1 h2 _=>?_
  refine er (h2 ..) ?_;exact fZ h1
 ·refine ex1_1 (Option.isSome_iff_exists.mp hr) λo ho=>?_
  refine ex1_1 (Option.isSome_iff_exists.mp hr') λo' ho'=>?_
  refine bK (rc ho) λ_ h2 h3=>?_
  refine bK (rc ho') λ_ h2' h3'=>?_
  simp only[h2,h2']at e
  have e':mr r=mr r':=by lia
  simp only[e',h3']at h3
  cases h3;rfl
theorem Ch{k:Nat}{o:O}(hk:H[k]?=some o):Fr (H++kH H.length) (kI H.length) (W0 H.length) k o:=by
 have hl:=(List.getElem?_eq_some_iff.mp hk).1
 refine⟨by refine er (U4 hl ..) ?_;exact hk,λx hx=>?_⟩
 refine ex1_1 (Option.isSome_iff_exists.mp hx) λo' ho'=>?_
 refine er ((rc ho').2.1 ..) ?_;lia
theorem Th:Wf s0:=by
 refine⟨rfl,rfl,rfl,rfl,rfl,rfl,by decide,λi h=>(by cases h),by decide,λe h=>(by cases h),by decide,λi p h=>?_,λl h=>?_⟩
 ·cases i with
  |zero=>cases h;exact .inl rfl
  |succ i=>exact ak h
 ·have:l=[]:=by simpa[s0]using h
  refine er (this ..) ?_;exact V5 _
theorem Ti(hc:c<=950):Vw c (H++kH H.length) (kI H.length) (W0 H.length):=
 ⟨Tf,Th,rfl,rfl,by show 1+c<=1000;omega,by show 0+c<=1000;omega,by show 0+c<=1000;omega,λl h=>by
  have:l=[]:=by simpa[W0,s0]using h
  refine er (this ..) ?_;show 0+c<=1000;omega⟩
end
structure jz(s s':BS):Prop where
 nl:s.names.length<=s'.names.length
 wn:∀i,i<s.names.length->sp s' i=sp s i/\nm s' i=nm s i
 pr:∀i,i<s.names.length->br s' i=br s i
 ch:∀i p,i∈aJ s p->i∈aJ s' p
 it:s'.items=s.items
 fm:s'.form=s.form
 er:s'.errors=s.errors
 dn:s'.done=s.done
noncomputable def Tx(s:BS):Prop:=∀t∈s.texts,t=S ""
section
variable{s s' s'':BS}{kind space name:Str}{as:List (Str×Str)}
theorem jz.trans(h:jz s s')(g:jz s' s''):jz s s'':=
 ⟨Vm h.nl g.nl,λi hi=>⟨((g.wn i (Vq hi h.nl)).1).trans (h.wn i hi).1,((g.wn i (Vq hi h.nl)).2).trans (h.wn i hi).2⟩,λi hi=>(g.pr i (Vq hi h.nl)).trans (h.pr i hi),λi p hp=>g.ch i p (h.ch i p hp),g.it.trans h.it,g.fm.trans h.fm,g.er.trans h.er,g.dn.trans h.dn⟩
theorem rd{α:Type}{l r:List α}{i:Nat}{d:α}(h:i<l.length):(l++r).getD i d=l.getD i d:=by
 refine er (U1 ..) (er (U4 h ..) (el (U1 ..) rfl))
theorem Ci{i p:Nat}(h:i∈aJ s p):p<s.children.length:=by
 by_cases e:p<s.children.length
 ·exact e
 ·unfold aJ at h
  rw[U1,Vp (Nat.not_lt.mp ‹_›)]at h
  cases h
theorem vl(F:Wf s){text:Str}:jz s (addN s kind space name as text):=by
 refine⟨?_,λi hi=>⟨?_,?_⟩,λi hi=>?_,λi p hp=>?_,rfl,rfl,rfl,rfl⟩
 ·show s.names.length<=(s.names++[name]).length
  simp
 ·exact rd (by refine er (F.ls ..) ?_;exact hi)
 ·exact rd hi
 ·exact rd (by refine er (F.lp ..) ?_;exact hi)
 ·show i∈(s.children++[[]]).getD p []
  refine er (rd (Ci hp) ..) ?_;exact hp
theorem rf(F:Wf s)(hn:s.names.length+2<=1000):jz s (bF s name space as):=by
 unfold bF
 split
 ·have h:=(vl (kind:=S "element") (space:=space) (name:=name) (as:=as) (text:=S "") F).trans (vl (kind:=S "fragment") (space:=S "") (name:=S "") (as:=[]) (text:=S "") (F.addN (eC ‹_›)))
  exact⟨h.nl,h.wn,h.pr,h.ch,h.it,h.fm,h.er,h.dn⟩
 ·exact vl F
theorem Tj(F:Wf s):sp (bF s name space as) s.names.length=space/\nm (bF s name space as) s.names.length=name:=by
 have h:=F.ls
 delta bF sp nm
 split<;>simp[ez,addN,←h,U1]
theorem Tk{p i:Nat}(E:jz s s')(hi:s.names.length<=i):jz s (jj s' p i):=by
 refine⟨E.nl,E.wn,λj hj=>?_,λj q hq=>?_,E.it,E.fm,E.er,E.dn⟩
 ·show(s'.parents.set i (p:Nat)).getD j (-1)=_
  refine er (U1 ..) (er (Vn (by lia) ..) (el (U1 ..) ?_))
  exact E.pr j hj
 ·have h1:=E.ch j q hq
  show j∈(s'.children.set p (aJ s' p++[i])).getD q []
  by_cases e:p=q
  ·subst e
   refine er (U1 ..) (er (Vl (Ci h1) ..) ?_)
   exact VD _ h1
  ·refine er (U1 ..) (er (Vn e ..) (el (U1 ..) ?_))
   exact h1
theorem Tl{p i:Nat}(F:Wf s')(hi:i<s'.names.length)(hp:p<s'.names.length):br (jj s' p i) i=p/\i∈aJ (jj s' p i) p:=by
 constructor
 ·show(s'.parents.set i (p:Nat)).getD i (-1)=_
  refine er (U1 ..) (er (Vl (by refine er (F.lp ..) ?_;exact hi) ..) ?_);rfl
 ·show i∈(s'.children.set p (aJ s' p++[i])).getD p []
  refine er (U1 ..) (er (Vl (by refine er (F.lc ..) ?_;exact hp) ..) ?_)
  exact VM _ (List.mem_singleton.mpr rfl)
theorem Tm(F:Wf s)(hn:s.names.length+2<=1000):Wf (bF s name space as):=by
 have F1:=F.addN (kind:=S "element") (space:=space) (name:=name) (as:=as) (text:=S "") (by exact eC ‹_›:s.names.length<1000)
 unfold bF
 split
 ·have F2:=F1.addN (kind:=S "fragment") (space:=S "") (name:=S "") (as:=[]) (text:=S "") (by show(s.names++[name]).length<1000;simp;assumption)
  refine⟨F2.lk,F2.ls,F2.la,F2.lt,F2.lp,F2.lc,F2.bn,F2.it,F2.il,λe he=>?_,?_,F2.pr,F2.ck⟩
  ·have h2:(ez (addN (addN s (S "element") space name as (S "")) (S "fragment") (S "") (S "") [] (S "")) s.names.length (s.names.length+1)).names.length=s.names.length+2:=by simp[qr,ez]
   refine er (h2 ..) ?_
   rcases List.mem_append.mp he with he|he
   ·have:=F.ct e he;lia
   ·refine er (List.mem_singleton.mp he ..) ?_;exact⟨by simp,by simp⟩
  ·have:=F.cn
   simp[ez,addN];exact Vx ‹_›
 ·exact F1
theorem Cj(T:Tx s):Tx (bF s name space as):=by
 intro t ht
 unfold bF at ht
 split at ht
 ·have h:t∈(s.texts++[S ""])++[S ""]:=ht
  rcases List.mem_append.mp h with h|h
  ·rcases List.mem_append.mp h with h|h
   ·exact T t h
   ·exact List.mem_singleton.mp h
  ·exact List.mem_singleton.mp h
 ·have h:t∈s.texts++[S ""]:=ht
  rcases List.mem_append.mp h with h|h
  ·exact T t h
  ·exact List.mem_singleton.mp h
end
noncomputable def dz:Str:=⟨#[58]⟩
noncomputable def dq(w:Str):Str×Str:=(if(Txt.split w dz).length=2 then(Txt.split w dz).headD (S "")else S "html",(Txt.split w dz).getLastD (S ""))
noncomputable def mt:List Str:=S "html"::dI
theorem Tn:mt.all (λw=>aD w&&(cT.any λp=>decide (p=dq w))&&decide ((Txt.split w dz).length=1∨(Txt.split w dz).length=2)&&(!decide (w=S "form")||decide (dq w=(S "html",S "form"))))=true:=by kernel_rfl
noncomputable def jA(w:Str):List (Str×Str):=[(S "id",w)]
noncomputable def vm(s:BS)(up:Nat)(w:Str):BS:=eA s up (dq w).2 (dq w).1 (jA w)
structure Rd(s:BS)(up:Nat)(ws:List Str):Prop where
 ft:bh s
 tx:Tx s
 le:s.items.length=ws.length
 wn:∀(j i:Nat) (w:Str),s.items[j]?=some i->ws[j]?=some w->(sp s i,nm s i)=dq w
 pl:∀w∈ws,w∈mt
 up:up<s.names.length
 nd:s.items.Nodup
 pa:∀i∈s.items,∃p:Nat,br s i=p/\p<s.names.length/\i∈aJ s p
 fm:s.form= -1
 er:s.errors=[]
 dn:s.done=false
theorem To:Rd s0 0 []:=by
 refine⟨⟨λx h=>?_,λx h=>?_,λx h=>?_,λl h p hp=>?_,λe h=>(by cases h),(by kernel_rfl),λe h=>(by cases h)⟩,λt h=>?_,rfl,λj i w h _=>(by cases j<;>cases h),λw h=>(by cases h),(by decide),(by decide),λi h=>(by cases h),rfl,rfl,rfl⟩
 ·refine er (List.mem_singleton.mp (show x∈[S "document"]from h) ..) ?_;kernel_rfl
 ·refine er (List.mem_singleton.mp (show x∈[S ""]from h) ..) ?_;kernel_rfl
 ·refine er (List.mem_singleton.mp (show x∈[S ""]from h) ..) ?_;kernel_rfl
 ·rw[List.mem_singleton.mp (show l∈[[]]from h)]at hp;cases hp
 ·exact List.mem_singleton.mp (show t∈[S ""]from h)
section
variable{s s' s'':BS}{kind space name:Str}{as:List (Str×Str)}{up:Nat}{ws:List Str}{w:Str}
theorem Tp{p:Str×Str}(h:p∈cT):aD p.1=true/\aD p.2=true:=by
 have:=List.all_eq_true.mp RY p h
 simpa using this
theorem rg(h:w∈mt):aD w=true/\dq w∈cT/\((Txt.split w dz).length=1∨(Txt.split w dz).length=2)/\(w=S "form"->dq w=(S "html",S "form")):=by
 have h:=List.all_eq_true.mp Tn w h
 simp only[U2,VG,decide_eq_true_eq,Wt,decide_eq_false_iff_not,WR]at h
 refine bZ λgP gh=>?_
 obtain⟨⟨⟨h1,p,h2,e⟩,h3⟩,h4⟩:=h
 refine gh ?_;clear gh gP
 exact⟨h1,e▸h2,h3,λe=>h4.resolve_left λn=>n e⟩
theorem Ck(F:Wf s)(T:bh s)(h1:aD name=true)(h2:aD space=true)(ha:d_ as):bh (bF s name space as):=by
 have A:∀{s:BS}{k sp nm:Str}{as:List (Str×Str)}{tx:Str},bh s->aD k=true->aD sp=true->aD nm=true->d_ as->bh (addN s k sp nm as tx):=λ{s k sp nm as tx} T a b c d=>by
  refine⟨λx hx=>?_,λx hx=>?_,λx hx=>?_,λx hx=>?_,T.en,T.mn,T.cu⟩
  ·rcases List.mem_append.mp (show x∈s.kinds++[k]from hx)with h|h
   ·exact T.kn x h
   ·refine er (List.mem_singleton.mp h ..) ?_;exact a
  ·rcases List.mem_append.mp (show x∈s.spaces++[sp]from hx)with h|h
   ·exact T.sn x h
   ·refine er (List.mem_singleton.mp h ..) ?_;exact b
  ·rcases List.mem_append.mp (show x∈s.names++[nm]from hx)with h|h
   ·exact T.nn x h
   ·refine er (List.mem_singleton.mp h ..) ?_;exact c
  ·rcases List.mem_append.mp (show x∈s.attrs++[as]from hx)with h|h
   ·exact T.an x h
   ·refine er (List.mem_singleton.mp h ..) ?_;exact d
 have T1:=A (s:=s) (k:=S "element") (sp:=space) (nm:=name) (as:=as) (tx:=S "") T (by kernel_rfl) h2 h1 ha
 unfold bF
 split
 ·have T2:=A (k:=S "fragment") (sp:=S "") (nm:=S "") (as:=[]) (tx:=S "") T1 (by kernel_rfl) (by kernel_rfl) (by kernel_rfl) (λp hp=>by cases hp)
  refine⟨T2.kn,T2.sn,T2.nn,T2.an,T2.en,T2.mn,λe he=>?_⟩
  have hc:∀i,dH (ez (addN (addN s (S "element") space name as (S "")) (S "fragment") (S "") (S "") [] (S "")) s.names.length (s.names.length+1)) i=((s.contents++[(s.names.length,s.names.length+1)]).find? λe=>decide (e.1=i)).map (·.2):=λi=>rfl
  simp only[hc,XF]
  rcases List.mem_append.mp (show e∈s.contents++[(s.names.length,s.names.length+1)]from he)with h|h
  ·have:=T.cu e h
   unfold dH at this
   cases hf:s.contents.find? λz=>decide (z.1=e.1)with
   |none=>rw[hf]at this;exact ak this
   |some y=>rw[hf]at this;simpa using this
  ·refine er (List.mem_singleton.mp h ..) ?_
   have:(s.contents.find? λz=>decide (z.1=s.names.length))=none:=List.find?_eq_none.mpr λz hz=>by have:=(F.ct z hz).1;simp;exact VB ‹_›
   refine er (this ..) ?_;simp
 ·exact T1
theorem Tq:(eA s up name space as).items=s.items++[s.names.length]:=by
 show(bF s name space as).items++[s.names.length]=_
 refine er (PL ..) rfl
theorem Tr(T:bh (bF s name space as)):bh (eA s up name space as):=⟨T.kn,T.sn,T.nn,T.an,T.en,T.mn,T.cu⟩
theorem Ts(T:Tx (bF s name space as)):Tx (eA s up name space as):=T
structure Tt(s s':BS)(up:Nat)(name space:Str):Prop where
 nl:s.names.length<=s'.names.length
 wn:∀i,i<s.names.length->sp s' i=sp s i/\nm s' i=nm s i
 pr:∀i,i<s.names.length->br s' i=br s i
 ch:∀i p,i∈aJ s p->i∈aJ s' p
 it:s'.items=s.items++[s.names.length]
 fm:s'.form=s.form
 er:s'.errors=s.errors
 dn:s'.done=s.done
 lt:s.names.length<s'.names.length
 a1:sp s' s.names.length=space
 a2:nm s' s.names.length=name
 p1:br s' s.names.length=(aZ s up:Nat)
 p2:s.names.length∈aJ s' (aZ s up)
theorem Tu(F:Wf s)(hn:s.names.length+2<=1000)(hu:up<s.names.length):Tt s (eA s up name space as) up name space:=by
 have hup:=jk F hu
 have hl:=iS (s:=s) (name:=name) (space:=space) (as:=as)
 have F1:=Tm (space:=space) (name:=name) (as:=as) F hn
 have E1:=rf (space:=space) (name:=name) (as:=as) F hn
 have E2:=Tk (p:=aZ s up) (i:=s.names.length) E1 (Vf _)
 have at1:=Tj (space:=space) (name:=name) (as:=as) F
 have at2:=Tl (p:=aZ s up) (i:=s.names.length) F1 hl (XB ‹_› ‹_›)
 exact⟨E2.nl,E2.wn,E2.pr,E2.ch,Tq,E2.fm,E2.er,E2.dn,hl,at1.1,at1.2,at2.1,at2.2⟩
theorem Tv(F:Wf s)(R:Rd s up ws)(hw:w∈mt)(hn:s.names.length+2<=1000):Rd (vm s up w) s.names.length (ws++[w]):=by
 refine kJ (rg hw) λh1 h2 _ _=>?_
 refine ai (Tp h2) λf1 f2=>?_
 have T1:=Tr (up:=up) (Ck F R.ft f2 f1 (as:=jA w) (λp hp=>by refine er (List.mem_singleton.mp hp ..) ?_;exact⟨by kernel_rfl,h1⟩))
 have X1:=Ts (up:=up) (Cj (name:=(dq w).2) (space:=(dq w).1) (as:=jA w) R.tx)
 have P:=Tu (up:=up) (name:=(dq w).2) (space:=(dq w).1) (as:=jA w) F hn R.up
 have hup:=jk F R.up
 unfold vm
 generalize eA s up (dq w).2 (dq w).1 (jA w)=s' at*
 have hnot:s.names.length∉s.items:=λh=>Wj _ (F.it _ h)
 refine⟨T1,X1,?_,λj i x hj hx=>?_,λx hx=>?_,P.lt,?_,λi hi=>?_,P.fm.trans R.fm,P.er.trans R.er,P.dn.trans R.dn⟩
 ·refine er (P.it ..) ?_;simp[R.le]
 ·rw[P.it]at hj
  by_cases hjl:j<s.items.length
  ·replace hj:=Vu (We (U4 hjl)) hj
   rw[U4 (by refine el (R.le ..) ?_;exact hjl)]at hx
   have hlt:=F.it i (Vb hj)
   simp only[←R.wn j i x hj hx,(P.wn i hlt).1,(P.wn i hlt).2]
  ·have hj1:=(List.getElem?_eq_some_iff.mp hj).1
   simp at hj1
   have:j=s.items.length:=by exact nX ‹_› ‹_›
   subst this
   rw[Vd (Vf _)]at hj
   rw[Vd (by refine er (R.le ..) ?_;exact Vf _),R.le]at hx
   simp at hj hx
   subst hj;subst hx
   simp only[P.a1,P.a2]
 ·rcases List.mem_append.mp hx with h|h
  ·exact R.pl x h
  ·refine er (List.mem_singleton.mp h ..) ?_;exact hw
 ·simp only[P.it]
  refine List.nodup_append.mpr ⟨R.nd,by simp,λa ha b hb e=>?_⟩
  rw[List.mem_singleton.mp hb]at e
  exact hnot (e▸ha)
 ·rw[P.it]at hi
  rcases List.mem_append.mp hi with h|h
  ·refine ex1_3 (R.pa i h) λp p1 p2 p3=>?_
   exact⟨p,(P.pr i (F.it i h)).trans p1,Vq p2 P.nl,P.ch i p p3⟩
  ·refine er (List.mem_singleton.mp h ..) ?_
   exact⟨aZ s up,P.p1,Vq hup P.nl,P.p2⟩
theorem vn{r:List Str}(F:Wf s)(R:Rd s up (S "html"::r)){f:Int}(hf:f= -1∨∃(i:Nat) (w:Str),s.items[i]?=some f.toNat/\0<=f/\(S "html"::r)[i]?=some w/\w=S "form"):Inv (setForm s f):=by
 have hx:∃x0 q,s.items=x0::q:=by
  cases h:s.items with
  |nil=>have:=R.le;rw[h]at this;simp at this
  |cons a q=>exact⟨a,q,rfl⟩
 refine ex2_1 (hx) λx0 q hx=>?_
 have h0:=R.wn 0 x0 (S "html") (by refine er (hx ..) ?_;rfl) rfl
 rw[show dq (S "html")=(S "html",S "html") by kernel_rfl]at h0
 injection h0 with a1 a2
 refine⟨⟨x0,q,hx,a1,a2⟩,R.nd,λi hi=>?_,λi hi=>R.pa i (WZ hi),?_⟩
 ·refine ex1_1 (List.getElem?_of_mem hi) λj hj=>?_
  have hjl:=(List.getElem?_eq_some_iff.mp hj).1
  have hjl2:j<(S "html"::r).length:=by refine el (R.le ..) ?_;exact hjl
  have:=R.wn j i _ hj (U8 hjl2)
  show(sp s i,nm s i)∈cT
  refine er (this ..) ?_
  exact(rg (R.pl _ (VO hjl2))).2.1
 ·rcases hf with h|⟨i,w,h1,h2,h3,h4⟩
  ·exact .inl h
  ·refine .inr ⟨h2,F.it _ (Vb h1),λ_=>?_⟩
   have:=R.wn i _ w h1 h3
   rw[(rg (R.pl w (Vb h3))).2.2.2 h4]at this
   injection this with b1 b2
   show sp s f.toNat++S ":"++nm s f.toNat=_
   refine er (b1 ..) (er (b2 ..) ?_);kernel_rfl
theorem Tw{r:List Str}(F:Wf s)(R:Rd s up (S "html"::r))(hn:s.names.length+2<=1000):Inv (setForm (bF s (S "form") (S "html") []) (s.names.length:Nat)):=by
 have I:=vn F R (.inl rfl)
 have E:=rf (space:=S "html") (name:=S "form") (as:=[]) F hn
 have hl:=iS (s:=s) (name:=S "form") (space:=S "html") (as:=[])
 refine ex2_3 (I.hd) λx0 q hx a1 a2=>?_
 have hx':s.items=x0::q:=hx
 have hlt:∀i∈s.items,i<s.names.length:=F.it
 refine⟨⟨x0,q,E.it.trans hx',((E.wn x0 (hlt x0 (by refine er (hx' ..) ?_;exact U3 ..))).1).trans a1,((E.wn x0 (hlt x0 (by refine er (hx' ..) ?_;exact U3 ..))).2).trans a2⟩,?_,λi hi=>?_,λi hi=>?_,.inr ⟨by show(0:Int)<=(s.names.length:Nat);exact VP _,hl,λh=>?_⟩⟩
 ·show(bF s (S "form") (S "html") []).items.Nodup
  refine er (E.it ..) ?_;exact R.nd
 ·have hi':i∈s.items:=by refine el (E.it ..) ?_;exact hi
  have e1:=(E.wn i (hlt i hi')).1
  have e2:=(E.wn i (hlt i hi')).2
  have:=I.vc i hi'
  show(sp (bF s (S "form") (S "html") []) i,nm (bF s (S "form") (S "html") []) i)∈cT
  refine er (e1 ..) (er (e2 ..) ?_);exact this
 ·have hi':i∈s.items:=by refine el (E.it ..) ?_;exact WZ hi
  refine ex1_3 (R.pa i hi') λp p1 p2 p3=>?_
  exact⟨p,(E.pr i (hlt i hi')).trans p1,Vq p2 E.nl,E.ch i p p3⟩
 ·exfalso
  exact Wj _ (hlt _ h)
end
section
variable{H:Hp}{ad:Ad}{W:Wd}{cl:Cl}{n c:Nat}{f:V->K}{g:Bool->K}{kk:V->K}
theorem Ty{w:Str}(hf:aD w=true):ao (TT cl) (.str w) (S "split") (λk=>k [.str (S ":")]) kk H=kk (.ref H.length) (H++[U (Txt.split w dz)]):=by
 show(if decide (S "split"=S "split")=true then UX (oS w .split [.str (S ":")]) kk else UY:K) H=_
 refine er (if_pos (decide_eq_true rfl) ..) ?_
 refine(aq (v:= .ref H.length) (H':=H++[U (Txt.split w dz)]) ?_).trans rfl
 refine(congrFun (if_pos hf) H).trans ?_
 have:decide (S ":"=(⟨#[58]⟩:Str))=true:=by kernel_rfl
 show(if decide (S ":"=(⟨#[58]⟩:Str))=true then aF (.list ((Txt.split w (S ":")).map .str))else UY:M V) H=_
 refine er (if_pos this ..) ?_;rfl
theorem Tz(B:BV H ad W){i:Nat}:jN (ad .contents) kk [.int (i:Nat),.int (i:Nat)] H=kk (.int (aZ W.s i:Nat)) H:=by
 refine tn (jf B) ?_
 refine(tp n8).trans ?_
 refine er (kz ..) ?_
 delta aZ dH
 cases W.s.contents.find? λe=>decide (e.1=i)<;>rfl
theorem TA{s:BS}{name space:Str}{as:List (Str×Str)}{i:Nat}(hi:i<s.names.length):aZ (bF s name space as) i=aZ s i:=by
 delta aZ dH
 have:((bF s name space as).contents.find? λe=>decide (e.1=i))=s.contents.find? λe=>decide (e.1=i):=by
  unfold bF
  split
  ·show(s.contents++[(s.names.length,s.names.length+1)]).find? _=_
   refine Vu (XF) ?_
   cases s.contents.find? λe=>decide (e.1=i)with
   |none=>simp;exact WH ‹_›
   |some y=>rfl
  ·rfl
 refine er (this ..) rfl
theorem TB{w:Str}{k:Nat}(h:H[k]?=some (U (Txt.split w dz)))(hl:(Txt.split w dz).length=1∨(Txt.split w dz).length=2):UX (aa (.ref k) (.int (-1))) f H=f (.str (dq w).2) H:=by
 unfold dq
 generalize Txt.split w dz=l at*
 refine lX h ?_ (by refine er (Vk ..) ?_;lia)
 rcases l with _|⟨a,_|⟨b,_|⟨d,l⟩⟩⟩
 ·simp at hl
 ·rfl
 ·rfl
 ·simp at hl
theorem TC{w:Str}{k:Nat}{j:V->K}(h:H[k]?=some (U (Txt.split w dz)))(hl:(Txt.split w dz).length=1∨(Txt.split w dz).length=2):(UX (bw (.ref k)) λx12=>UX (af .Eq x12 (.int 2)) λt13=>if t13=true then UX (aa (.ref k) (.int 0)) λx14=>(j x14)else(j (.str (S "html")))) H=j (.str (dq w).1) H:=by
 simp only[gO h (by lia),aT]
 unfold dq
 rcases hl with hl|hl
 ·refine er (hl ..) (er (decide_eq_false (by decide) ..) (er (if_neg (by decide) ..) (er (if_neg (by decide) ..) rfl)))
 ·refine er (hl ..) (er (decide_eq_true (by decide) ..) (er (if_pos rfl ..) (er (if_pos rfl ..) ?_)))
  have:=lY (f:=j) h (i:=0) (by lia) (by lia)
  simp only[show(0:Int)=((0:Nat):Int)from rfl,this]
  generalize Txt.split w dz=l at*
  rcases l with _|⟨a,l⟩
  ·simp at hl
  ·rfl
theorem TD{w:Str}{up:Nat}{P:Option (V×Hp)->Prop}{kn:V->V->K}(Q:Vw (c+3) H ad W)(hw:w∈mt)(hu:up<W.s.names.length)(hc:c<=990)
  (hk:∀H' x5 a b,Vw c H' ad (W.up (vm W.s up w) a b)->P (kn x5 (.int (W.s.names.length:Nat)) H')):
  P ((ao (TT (cF (n+3))) (.str w) (S "split") (λk6=>k6 [.str (S ":")]) λx5=>ao (TT (cF (n+3))) (.ref (ad .t)) (S "element") (λk8=>UX (aa x5 (.int (-1))) λx9=>jp (λ(x11:V)=>(k8 [x9,x11,(.tup [(.tup [.str (S "id"),(.str w)])])]:K)) λj10=>UX (bw x5) λx12=>UX (af .Eq x12 (.int 2)) λt13=>if t13=true then UX (aa x5 (.int 0)) λx14=>(j10 x14)else(j10 (.str (S "html")))) λx7=>ao (TT (cF (n+3))) (.ref (ad .t)) (S "append") (λk16=>UX (ab (.ref (ad .t)) (S "contents") (TT (cF (n+3)))) λx18=>ao (TT (cF (n+3))) x18 (S "get") (λk19=>k19 [(.int (up:Nat)),(.int (up:Nat))]) λx17=>k16 [x17,x7]) λx15=>if am x15=true then(UX (ab (.ref (ad .b)) (S "stack") (TT (cF (n+3)))) λx21=>ao (TT (cF (n+3))) x21 (S "push") (λk22=>k22 [x7]) λx20=>if am x20=true then(kn x5 x7)else UY)else UY) H):=by
 refine kJ (rg hw) λh1 h2 h3 _=>?_
 refine er (Ty h1 ..) ?_
 have hp:(H++[U (Txt.split w dz)])[H.length]?=some (U (Txt.split w dz)):=by simp
 have Q0:=Q.app [U (Txt.split w dz)]
 generalize H++[U (Txt.split w dz)]=H0 at*
 generalize H.length=k0 at*
 refine er (tA Q0.v ..) (er (TB hp h3 ..) ?_)
 unfold jp
 dsimp only
 refine er (TC hp h3 ..) ?_
 refine gj (tW (n:=n+1) (c:=c+1) Q0 (name:=(dq w).2) (space:=(dq w).1) (as:=jA w) (by simp[jA];lia)) λH1 a b Q1=>?_
 refine er (O_ Q1.v ..) (er (lI Q1.v ..) (er (tg (jf Q1.v) rfl ..) (er (Tz Q1.v ..) (er (cq ..) (er (TA hu ..) ?_)))))
 have hup:=jk Q.f hu
 refine cR (P:=P) (PJ (n:=n) Q1 (i:=W.s.names.length) (p:=aZ W.s up) iS hup (zZ Q.f) (by refine er (cq ..) (er (z_ Q.f hup ..) ?_);have:=lT Q.f hup;have:=iS (s:=W.s) (name:=(dq w).2) (space:=(dq w).1) (as:=jA w);exact nT ‹_› ‹_›)).fl λH2 a2 b2 Q2=>?_
 refine er (bP Q2.v ..) (er (zA Q2.v ..) ?_)
 refine cR (P:=P) (Aa (n:=n+2) (c:=c) Q2 (i:=W.s.names.length) iS).fl λH3 a3 b3 Q3=>?_
 exact hk H3 _ a3 b3 Q3
end
structure TE(s:BS):Prop where
 iv:Inv s
 ft:bh s
 tx:Tx s
 er:s.errors=[]
 dn:s.done=false
noncomputable def jB(ex:List (Nat×O))(r:Option (V×Hp)):Prop:=∃H' ad W,W.ex=ex/\W.modes=[]/\W.u=none/\TE W.s/\Vw 900 H' ad W/\r=some (.ref (ad .b),H')
section
variable{H:Hp}{ad:Ad}{W:Wd}{cl:Cl}{n c:Nat}{f:V->K}{g:Bool->K}{kk:V->K}
theorem Cm{x:Str}:∀{l:List Str},(l.map V.str).findIdx? (λv=>V.keyEq v (.str x))=l.findIdx? λi=>decide (i=x)
 |[]=>rfl
 |i::r=>by
  refine er (Vi ..) (er (VQ ..) (er (VQ ..) (er (Cm (l:=r) ..) ?_)));rfl
theorem Cn{k:Nat}{l:List Str}{x:Str}{j:Nat}(h:H[k]?=some (U l))(hx:(l.findIdx? λi=>decide (i=x))=some j)(hl:l.length<=1000):b9 k .index kk [.str x] H=kk (.int (j:Nat)) H:=by
 have hf:aV (l.map V.str).length=true:=decide_eq_true (by refine er (Vk ..) ?_;exact nD ‹_›)
 refine qd h hf ((congrFun (if_pos hf) H).trans ((congrFun (if_pos (ic l)) H).trans ?_))
 refine er (Cm ..) (er (hx ..) ?_)
 rfl
theorem Co{l:List Str}{x:Str}(h:aj l x=true):∃j,(l.findIdx? λi=>decide (i=x))=some j/\l[j]?=some x:=by
 cases hf:l.findIdx? λi=>decide (i=x)with
 |none=>
  rw[WG]at hf
  have:=hf x (md h)
  simp at this
 |some j=>
  refine ex1_2 (List.findIdx?_eq_some_iff_getElem.mp hf) λhlt h1 _=>?_
  exact⟨j,rfl,by refine er (U8 hlt ..) (er (of_decide_eq_true h1 ..) rfl)⟩
def Cp(cl:Cl)(b t words form:V):K:=jp (jp (UZ b:K) λj24=>jp (λ(t26:Bool)=>(if t26=true then(UX (ab b (S "stack") (TT cl)) λx27=>UX (ab x27 (S "items") (TT cl)) λx28=>ao (TT cl) words (S "index") (λk30=>k30 [.str (S "form")]) λx29=>UX (aa x28 x29) λx31=>UX (a_ b (S "form") x31 (TT cl)) λ_=>j24)else(j24):K)) λj25=>UX (af .Eq form (.int 2)) λt32=>aC t32 (UX (af .In (.str (S "form")) words) λt33=>aC t33 (j25 true) (j25 false)) (j25 false):K) λj23=>UX (af .Eq form (.int 1)) λt34=>if t34=true then(ao (TT cl) t (S "element") (λk36=>k36 [.str (S "form")]) λx35=>UX (a_ b (S "form") x35 (TT cl)) λ_=>j23)else(j23)
theorem Cq{s:BS}(T:bh s){x:Int}:bh (setForm s x):=⟨T.kn,T.sn,T.nn,T.an,T.en,T.mn,T.cu⟩
theorem TF{ws:List Str}{kw fo up:Nat}(Q:Vw 902 H ad W)(hu:W.u=none)(hm:W.modes=[])(hw:H[kw]?=some (U ws))(Wo:dU 8 ws)(R:Rd W.s up ws)(hf:fo<3):jB W.ex (Cp (cF (n+3)) (.ref (ad .b)) (.ref (ad .t)) (.ref kw) (.int (fo:Nat)) H):=by
 obtain⟨⟨r,rfl,hr⟩,hle⟩:=Wo
 have hn:W.s.names.length+2<=1000:=by have:=Q.rn;omega
 unfold Cp jp
 dsimp only
 refine er (aT ..) ?_
 have key:∀{H':Hp}{x:Int}{a b:List Nat},Vw 900 H' ad (W.up (setForm W.s x) a b)->Inv (setForm W.s x)->jB W.ex (UZ (V.ref (ad .b)) H'):=λ{H' x a b} Q' I=>⟨H',ad,W.up (setForm W.s x) a b,rfl,hm,hu,⟨I,Cq R.ft,R.tx,R.er,R.dn⟩,Q',rfl⟩
 have same:jB W.ex (UZ (V.ref (ad .b)) H):=⟨H,ad,W,rfl,hm,hu,⟨by
  have:=vn Q.f R (.inl rfl)
  have e:setForm W.s (-1)=W.s:=by have:=R.fm;unfold setForm;refine el (this ..) rfl
  rw[e]at this;exact this,R.ft,R.tx,R.er,R.dn⟩,Q.le (by decide),rfl⟩
 rcases fo with _|_|_|fo
 ·refine er (decide_eq_false (by decide) ..) (er (if_neg (by decide) ..) (er (aT ..) (er (decide_eq_false (by decide) ..) (er (aK ..) (er (if_neg (by decide) ..) ?_)))))
  exact same
 ·refine er (decide_eq_true (by decide) ..) (er (if_pos rfl ..) (er (tA Q.v ..) ?_))
  dsimp only
  refine er (Ih ..) (el (xZ ..) ?_)
  refine gj (P:=jB W.ex) (tW (n:=n+1) (c:=900) Q (name:=S "form") (space:=S "html") (as:=[]) (by simp)) λH1 a b Q1=>?_
  refine ex1_2 (t0 (cF (n+3)) Q1 (W.s.names.length:Nat)) λH2 Q2 e2=>?_
  refine er (e2 ..) (er (aT ..) (er (decide_eq_false (by decide) ..) (er (aK ..) (er (if_neg (by decide) ..) ?_))))
  have hf1:aD (S "form")=true:=by kernel_rfl
  have hf2:aD (S "html")=true:=by kernel_rfl
  have I:=Tw Q.f R hn
  refine⟨H2,ad,W.up (setForm (bF W.s (S "form") (S "html") []) (W.s.names.length:Nat)) a b,rfl,hm,hu,⟨I,Cq (Ck (as:=[]) Q.f R.ft hf1 hf2 (λp hp=>by cases hp)),Cj (name:=S "form") (space:=S "html") (as:=[]) R.tx,?_,?_⟩,Q2,rfl⟩
  ·exact(rf (space:=S "html") (name:=S "form") (as:=[]) Q.f hn).er.trans R.er
  ·exact(rf (space:=S "html") (name:=S "form") (as:=[]) Q.f hn).dn.trans R.dn
 ·refine er (decide_eq_false (by decide) ..) (er (if_neg (by decide) ..) (er (aT ..) (er (decide_eq_true (by decide) ..) (er (aO ..) (er (ol hw ..) ?_)))))
  cases hmem:aj (S "html"::r) (S "form")with
  |false=>refine er (aK ..) (er (if_neg (by decide) ..) ?_);exact same
  |true=>
   refine ex1_2 (Co hmem) λj hj hj2=>?_
   have hjl:j<W.s.items.length:=by refine er (R.le ..) ?_;exact(List.getElem?_eq_some_iff.mp hj2).1
   refine er (aO ..) (er (if_pos rfl ..) (er (bP Q.v ..) (er (dj Q.v ..) (er (bO hw tj rfl ..) ?_))))
   refine er (Cn hw hj (eC ‹_›) ..) (er (iQ Q.v Q.f (U8 hjl) ..) ?_)
   refine ex1_2 (t0 (cF (n+3)) Q (W.s.items[j]:Nat)) λH2 Q2 e2=>?_
   refine er (e2 ..) ?_
   refine key (Q2.le (by decide)) (vn Q.f R (.inr ⟨j,S "form",?_,by exact VP _,hj2,rfl⟩))
   refine er (U8 hjl ..) ?_;simp
 ·assumption
end
section
variable{H:Hp}{ad:Ad}{W:Wd}{cl:Cl}{n c:Nat}{f:V->K}{g:Bool->K}{kk:V->K}
theorem Vw.x(Q:Vw c H ad W){k:Nat}{o:O}(h:Fr H ad W k o):Vw c H ad (W.x k o):=⟨Q.v.xpush h,Q.f,Q.la,Q.lc,Q.rn,Q.re,Q.ri,Q.ra⟩
theorem Cr{a m N L j:Nat}(h:L<=N)(hj:j<L):a+m*(N-j)=(a+m*(N-(j+1)))+m:=by
 have e:N-j=N-(j+1)+1:=(Nat.succ_pred_eq_of_pos (Nat.sub_pos_of_lt (Vq hj h))).symm
 rw[e,Nat.mul_succ,X7]
theorem oH(B:BV H ad W){i k:Nat}{o:O}(h:W.ex[i]?=some (k,o)):H[k]?=some o:=by
 have:=B.get (.ex i) o (td h)
 rw[qa h]at this;exact this
theorem TG(kw:Nat){ws:List Str}{fo:Nat}{E:List (Nat×O)}(hE:E[1]?=some (kw,U ws))(hex:W.ex=E)(Q:Vw 930 H ad W)(hs:W.s=s0)(hu:W.u=none)(hm:W.modes=[])(Wo:dU 8 ws)(hf:fo<3):
  jB E (UX (ce (.ref kw)) (λit37=>cE false it37 (ca (TT (cF (n+3))) 23 fz.scope (ba fz.body [3])) (λvars=>bB (TT (cF (n+3))) 24 fz.scope fz.body 4 vars bH bI) (j8 (some (.ref kw)) (some (.int (fo:Nat))) (some (.ref (ad .b))) (some (.ref (ad .t))) (some (.int 0)) .none .none .none)) H):=by
 have hl8:=Wo.le
 have hpool:∀w∈ws,w∈mt:=λw hw=>by
  refine ex1_2 (Wo.hd) λr e hr=>?_
  rw[e]at hw
  rcases List.mem_cons.mp hw with rfl|h
  ·exact U3 ..
  ·exact U7 _ (hr w h)
 refine qj (P:=jB E) (λj vars H'=>∃s a b up o1 o2 o3,Vw (906+3*(8-j)) H' ad (W.up s a b)/\Rd s up (ws.take j)/\j<=ws.length/\vars=(j8 (some (.ref kw)) (some (.int (fo:Nat))) (some (.ref (ad .b))) (some (.ref (ad .t))) (some (.int (up:Nat))) o1 o2 o3))
  (xs:=ws.map .str) ?_ ?_ ?_ ⟨s0,W.aA,W.cA,0,_,_,_,?_,by refine er (List.take_zero ..) ?_;exact To,V5 _,rfl⟩
 ·intro j vars H' hI1
  refine ex7_2 hI1 λs a b up o1 o2 o3 Q' _=>?_
  exact oH (i:=1) Q'.v (by show W.ex[1]?=_;refine er (hex ..) ?_;exact hE)
 ·intro j v vars H' kn hv hI3 hk
  refine ex7_4 hI3 λs a b up o1 o2 o3 Q' R hj zq4=>?_
  subst zq4
  refine er (Oh ..) ?_
  rw[Vh,VA]at hv
  refine ex1_2 (hv) λw hw zq2=>?_;subst zq2
  have hjl:=(List.getElem?_eq_some_iff.mp hw).1
  have hc:906+3*(8-j)=(906+3*(8-(j+1)))+3:=Cr hl8 hjl
  rw[hc]at Q'
  have hwp:=hpool w (Vb hw)
  refine TD (n:=n) (P:=jB E) (kn:=λx5 x7=>kn (j8 (some (.ref kw)) (some (.int (fo:Nat))) (some (.ref (ad .b))) (some (.ref (ad .t))) (some x7) (some (.str w)) (some x5) (some x7))) Q' hwp R.up (by omega) λH'' x5 a2 b2 Q2=>?_
  refine hk _ _ ⟨_,a2,b2,s.names.length,_,_,_,Q2,?_,hjl,rfl⟩
  refine er (Wa ..) (er (hw ..) ?_)
  exact Tv Q'.f R hwp (Vm (show s.names.length+2<=s.names.length+(906+3*(8-(j+1))+3) by omega) Q'.rn)
 ·intro vars H' hI6
  refine ex7_4 hI6 λs a b up o1 o2 o3 Q' R hj zq7=>?_
  subst zq7
  refine er (Oi ..) ?_
  rw[Vk,VX]at R
  have hw:H'[kw]?=some (U ws):=oH (i:=1) Q'.v (by show W.ex[1]?=_;refine er (hex ..) ?_;exact hE)
  have:=TF (n:=n) (fo:=fo) (Q'.le (d:=902) (by omega)) hu hm hw Wo R hf
  refine el (hex ..) ?_
  exact this
 ·have:W.up s0 W.aA W.cA=W:=by refine el (hs ..) ?_;rfl
  refine er (this ..) ?_;exact Q
theorem TH{ws:List Str}{kN kw:Nat}{oN:O}{fo:Nat}(hN:H[kN]?=some oN)(hw:H[kw]?=some (U ws))(hne:kw≠kN)(Wo:dU 8 ws)(hf:fo<3):jB [(kN,oN),(kw,U ws)] (cF (n+4) 775 [.ref kw,.int (fo:Nat)] H):=by
 refine er (Og ..) ?_
 unfold y4
 have h0:(H++[O.dict [] (some 0)])[H.length]?=some (.dict [] (some 0)):=by simp
 have hl:[((V.str (S "in head")),(.fn 747)),((.str (S "in template")),(.fn 754)),((.str (S "after body")),(.fn 761)),((.str (S "foreign content")),(V.fn 768))].length<=15:=by decide
 refine er (cH ..) (er (qI h0 (by kernel_rfl) hl ..) ?_)
 have h1:(H++[O.dict [] (some 0)]).set H.length (O.dict [((V.str (S "in head")),(.fn 747)),((.str (S "in template")),(.fn 754)),((.str (S "after body")),(.fn 761)),((.str (S "foreign content")),(V.fn 768))] (some 4))=H++[dF]:=by
  refine er (Vy _ _ (Vf _) ..) (er (VZ ..) ?_);rfl
 have h2:((H++[O.dict [] (some 0)]).set H.length (O.dict [((V.str (S "in head")),(.fn 747)),((.str (S "in template")),(.fn 754)),((.str (S "after body")),(.fn 761)),((.str (S "foreign content")),(V.fn 768))] (some [((V.str (S "in head")),(V.fn 747)),((.str (S "in template")),(.fn 754)),((.str (S "after body")),(.fn 761)),((.str (S "foreign content")),(V.fn 768))].length)))=H++[dF]:=h1
 refine er (h2 ..) ?_
 have e0:gZ (TT (cF (n+3))) mK [.ref H.length]=gZ (TT (cF (n+3))) mK [.ref (H.length+0)]:=rfl
 refine er (e0 ..) (er (q_ (c:=mK) (L:=[dF]) (Td (n:=n)) ..) ?_)
 have f1:=Ch hN
 have f2:=(Ch hw).x (q2:=oN) hne.symm
 have Q:Vw 930 (H++kH H.length) (kI H.length) (((W0 H.length).x kN oN).x kw (U ws)):=((Ti (by decide)).x f1).x f2
 have e1:(V.ref (H.length+[dF].length))= .ref (kI H.length .b):=rfl
 refine er (e1 ..) (er (eM Q.v ..) ?_)
 exact TG kw (by rfl) rfl Q rfl rfl rfl Wo hf
end
section
variable{H L:Hp}{ad ad':Ad}{W W':Wd}{cl:Cl}{n c:Nat}{f:V->K}{g:Bool->K}{kk:V->K}
theorem TI{LR:List (Rl×O)}(B:BV H ad W)(old:∀r,(cont ad' W' r).isSome=true->(cont ad W r=cont ad' W' r/\bj ad W r=bj ad' W' r)∨∃p o,LR[p]?=some (r,o)/\cont ad' W' r=some o/\bj ad' W' r=H.length+p):BV (H++LR.map (·.2)) ad' W':=by
 refine⟨λr o hc=>?_,λr r' hr hr' e=>?_⟩
 ·rcases old r (by refine er (hc ..) ?_;rfl)with⟨h1,h2⟩|⟨p,o',h1,h2,h3⟩
  ·have:=B.get r o (h1.trans hc)
   simp only[←h2,U4 (List.getElem?_eq_some_iff.mp this).1]
   exact this
  ·rw[hc]at h2;cases h2
   refine er (h3 ..) (er (Vd (Va _ _) ..) (er (Vz ..) (er (Vh ..) (er (h1 ..) ?_))));rfl
 ·rcases old r hr with⟨h1,h2⟩|⟨p,o',h1,h2,h3⟩<;>rcases old r' hr' with⟨g1,g2⟩|⟨p',o'',g1,g2,g3⟩
  ·exact B.inj r r' (by refine er (h1 ..) ?_;exact hr) (by refine er (g1 ..) ?_;exact hr') (by refine er (h2 ..) (er (g2 ..) ?_);exact e)
  ·have:=B.lt (r:=r) (by refine er (h1 ..) ?_;exact hr)
   rw[h2,e,g3]at this;omega
  ·have:=B.lt (r:=r') (by refine er (g1 ..) ?_;exact hr')
   rw[g2,←e,h3]at this;omega
  ·simp only[h3,g3]at e
   have:p=p':=by lia
   subst this
   replace g1:=Vu (We (h1)) g1
   cases g1;rfl
set_option backward.match.sparseCases false in
noncomputable def fj(ad:Ad)(k:Nat):Ad:=λr=>match r with
 | .modes=>k
 |r=>ad r
theorem Cs(hu:W.u=none){k:Nat}{ms:List Str}{r:Rl}(h1:r≠ .modes)(h2:r≠ .b):cont (fj ad k) {W with modes:=ms} r=cont ad W r/\bj (fj ad k) {W with modes:=ms} r=bj ad W r:=by
 cases r
 case modes=>exact absurd rfl h1
 case b=>exact absurd rfl h2
 case d=>exact⟨(congrArg (Vc (eY (fj ad k) W.oA)) hu).trans (congrArg (Vc (eY ad W.oA)) hu).symm,rfl⟩
 all_goals exact⟨rfl,rfl⟩
theorem TJ(B:BV H ad W)(hu:W.u=none){k:Nat}{ms:List Str}(h:Fr H ad W k (U ms)):BV (H.set (ad .b) (nu (fj ad k) W.s)) (fj ad k) {W with modes:=ms}:=by
 have hb:ad .b≠k:=h.2 .b rfl
 have is:∀r,r≠ .modes->r≠ .b->(cont (fj ad k) {W with modes:=ms} r).isSome=true->(cont ad W r).isSome=true/\bj (fj ad k) {W with modes:=ms} r=bj ad W r:=λr h1 h2 h=>by
  refine ai (Cs (ad:=ad) (k:=k) (ms:=ms) hu h1 h2) λe1 e2=>?_
  exact⟨by refine el (e1 ..) ?_;exact h,e2⟩
 have lt:=B.lt (r:= .b) rfl
 have ne:∀r,r≠ .b->(cont ad W r).isSome=true->bj ad W r≠ad .b:=λr h1 h2 e=>h1 (B.inj r .b h2 rfl e)
 have full:∀r,(cont (fj ad k) {W with modes:=ms} r).isSome=true->(r= .modes/\bj (fj ad k) {W with modes:=ms} r=k)∨((cont ad W r).isSome=true/\bj (fj ad k) {W with modes:=ms} r=bj ad W r):=λr hr=>by
  by_cases h1:r= .modes
  ·subst h1;exact .inl ⟨rfl,rfl⟩
  ·by_cases h2:r= .b
   ·subst h2;exact .inr ⟨rfl,rfl⟩
   ·exact .inr (is r h1 h2 hr)
 refine⟨λr o hc=>?_,λr r' hr hr' e=>?_⟩
 ·by_cases h1:r= .modes
  ·subst h1
   obtain rfl:=Option.some.inj hc
   show(H.set (ad .b) _)[k]?=_
   refine er (Vn hb ..) ?_;exact h.1
  ·by_cases h2:r= .b
   ·subst h2
    obtain rfl:=Option.some.inj hc
    exact Vl lt
   ·refine ai (Cs (ad:=ad) (k:=k) (ms:=ms) hu h1 h2) λe1 e2=>?_
    replace hc:=Vu (We (e1)) hc
    refine er (e2 ..) (er (Vn λz=>ne r h2 (by refine er (hc ..) ?_;rfl) z.symm ..) ?_)
    exact B.get r o hc
 ·rcases full r hr with⟨h1,h2⟩|⟨h1,h2⟩<;>rcases full r' hr' with⟨g1,g2⟩|⟨g1,g2⟩
  ·simp only[h1,g1]
  ·rw[h2,g2]at e;exact absurd e.symm (h.2 r' g1)
  ·rw[h2,g2]at e;exact absurd e (h.2 r h1)
  ·rw[h2,g2]at e;exact B.inj r r' h1 g1 e
theorem TK(cl:Cl)(Q:Vw c H ad W)(hu:W.u=none){k:Nat}{ms:List Str}(h:Fr H ad W k (U ms)):∃H',Vw c H' (fj ad k) {W with modes:=ms}/\∀(f:Unit->K),UX (a_ (.ref (ad .b)) (S "modes") (.ref k) (TT cl)) f H=f () H':=
 ⟨H.set (ad .b) (nu (fj ad k) W.s),⟨TJ Q.v hu h,Q.f,Q.la,Q.lc,Q.rn,Q.re,Q.ri,Q.ra⟩,λf=>lF (Q.v.get .b _ rfl) (by kernel_rfl)⟩
theorem mu{k:Nat}{xs:List V}(h:H[k]?=some (.list xs))(hl:xs.length<=100000):UX (dK (.ref k)) f (H++L)=f (.ref (H.length+L.length)) (H++(L++[.list xs])):=by
 have h':(H++L)[k]?=some (.list xs):=by refine er (U4 (List.getElem?_eq_some_iff.mp h).1 ..) ?_;exact h
 refine aq ((fJ (f:=λxs=>if aV xs.length then aF (.list xs)else UY) h').trans ((congrFun (if_pos (decide_eq_true hl)) (H++L)).trans ?_))
 unfold aF
 refine er (Vs ..) (er (U9 ..) rfl)
theorem TL{k:Nat}{es:List (Nat×Nat)}{ep:Option Nat}(h:H[k]?=some (.dict (es.map bS) ep))(hl:es.length<=1000):UX (mz (.ref k)) f (H++L)=f (.ref (H.length+L.length)) (H++(L++[.dict (es.map bS) .none])):=by
 have h':(H++L)[k]?=some (.dict (es.map bS) ep):=by refine er (U4 (List.getElem?_eq_some_iff.mp h).1 ..) ?_;exact h
 delta mz ed
 refine aq ((aq (cj h')).trans ?_)
 have:(aV (es.map bS).length&&(es.map bS).all λe=>V.isKeyInt e.1)=true:=by
  unfold aV
  simp only[U2]
  exact⟨by simp;exact nD ‹_›,by simp[bS,V.isKeyInt]⟩
 refine(congrFun (if_pos this) (H++L)).trans ?_
 unfold aF
 refine er (Vs ..) (er (U9 ..) rfl)
noncomputable def fk(b i:Nat)(os:List (List V)):Hp:=aS ((Vr i).map λm=>b+1+m)::(os.take i).map .list
theorem Ct{j:Nat}{as:List Nat}{os:List (List V)}{kk:K}(hj:H[j]?=some (aS as))(hlen:os.length=as.length)(each:∀(i a:Nat) (o:List V),as[i]?=some a->os[i]?=some o->H[a]?=some (.list o))(hl:∀o∈os,o.length<=100000)(hN:as.length<=1000):
  ∀n i,i<=as.length->as.length<n+i->eE (b8 (.live j)) (λv k=>UX (dK v) λx=>k x) (λ_ k=>k true) (H.length+L.length) kk n i (H++(L++fk (H.length+L.length) i os))=kk (H++(L++fk (H.length+L.length) as.length os))
 |0,i,h1,h2=>by omega
 |n+1,i,h1,h2=>by
  unfold eE
  have hj':∀G,(H++G)[j]?=some (aS as):=λG=>by refine er (U4 (List.getElem?_eq_some_iff.mp hj).1 ..) ?_;exact hj
  refine er (aq (tH (hj' _)) ..) ?_
  by_cases hi:i<as.length
  ·have hio:i<os.length:=by exact nR ‹_› ‹_›
   have ea:=each i as[i] os[i] (U8 hi) (U8 hio)
   have hol:=hl os[i] (VO hio)
   refine er (Vh ..) (er (U8 hi ..) ?_)
   dsimp only[WU]
   refine er (if_pos rfl ..) (er (mu ea hol ..) ?_)
   have hacc:(H++(L++fk (H.length+L.length) i os++[O.list os[i]]))[H.length+L.length]?=some (aS ((Vr i).map λm=>H.length+L.length+1+m)):=by
    refine er (Vd (Va _ _) ..) (er (Vz ..) (er (U9 ..) (er (Vd (Vf _) ..) (er (VZ ..) ?_))));rfl
   refine er (aq (cj hacc) ..) ?_
   unfold aS
   have hf:aV (((Vr i).map λm=>H.length+L.length+1+m).map V.ref).length=true:=by unfold aV;simp;exact nI ‹_› ‹_›
   simp only[hf,if_true]
   have hset:c_ (H.length+L.length) (.list (((Vr i).map λm=>H.length+L.length+1+m).map V.ref++[.ref (H.length+(L++fk (H.length+L.length) i os).length)])) (H++(L++fk (H.length+L.length) i os++[O.list os[i]]))=some ((),H++(L++fk (H.length+L.length) (i+1) os)):=by
    unfold c_
    refine er (Vy _ _ (Va _ _) ..) (er (Vz ..) (er (U9 ..) (er (Vy _ _ (Vf _) ..) (er (VZ ..) ?_))))
    have e1:(L++fk (H.length+L.length) i os).length=L.length+(1+i):=by
     unfold fk
     refine er (Vs ..) (er (Wh ..) (er (Vk ..) (er (Wy ..) ?_)));rw[Wk (WI hio),XC 1 i]
    refine er (e1 ..) ?_
    unfold fk aS
    refine er (WA ..) (er (WL ..) (er (Xj ..) (er (VW ..) (er (VW ..) (er (Wa ..) (er (U8 hio ..) (er (VW ..) ?_)))))))
    simp[X7]
   refine er (aq hset ..) ?_
   exact Ct hj hlen each hl hN n (i+1) ‹_› (by omega)
  ·have:i=as.length:=by exact CO ‹_› ‹_›
   subst this
   refine er (Vh ..) (er (Vp (Vf _) ..) ?_)
   rfl
theorem Cu{j:Nat}{as:List Nat}{os:List (List V)}(hj:H[j]?=some (aS as))(hlen:os.length=as.length)(each:∀(i a:Nat) (o:List V),as[i]?=some a->os[i]?=some o->H[a]?=some (.list o))(hl:∀o∈os,o.length<=100000)(hN:as.length<=1000):
  UX (ce (.ref j)) (λit=>cg it (λv k=>UX (dK v) λx=>k x) (λ_ k=>k true) f) (H++L)=f (.ref (H.length+L.length)) (H++(L++fk (H.length+L.length) as.length os)):=by
 have hj':∀G,(H++G)[j]?=some (aS as):=λG=>by refine er (U4 (List.getElem?_eq_some_iff.mp hj).1 ..) ?_;exact hj
 refine Vu (tG (hj' _)) ?_
 unfold cg
 refine er (if_pos (show f9 (.live j)=true from rfl) ..) ?_
 have:jL (.live j) (H++L)=some (as.length,H++L):=by
  refine(fJ (f:=λxs=>UZ xs.length) (hj' _)).trans ?_
  show some ((as.map V.ref).length,_)=_
  refine er (Vk ..) rfl
 refine er (aq this ..) (er (dW ..) ?_)
 have:=Ct (L:=L) (kk:=f (.ref (H.length+L.length))) hj hlen each hl hN (as.length+1) 0 (V5 _) (Vf _)
 exact this
end
set_option backward.match.sparseCases false in
noncomputable def eN(ad:Ad)(h N:Nat):Ad:=λr=>match r with
 | .d=>h| .dnames=>h+2| .dspaces=>h+3| .dattrs=>h+4| .dparents=>h+(5+N)| .dchildren=>h+(6+N)
 | .derrors=>h+(7+(N+N))| .dcontents=>h+(8+(N+N))| .dkinds=>h+(9+(N+N))
 |r=>ad r
noncomputable def eO(h N:Nat):List Nat:=(Vr N).map λm=>h+4+1+m
noncomputable def ec(h N:Nat):List Nat:=(Vr N).map λm=>h+(6+N)+1+m
noncomputable def iX(ad:Ad)(h N:Nat)(s:BS):List (Rl×O):=[(.d,eY (eN ad h N) (h+1) (bu s (S "in body"))),(.dopen,ay s.items),(.dnames,U s.names),(.dspaces,U s.spaces),(.dattrs,aS (eO h N))]++((Vr N).map (λi=>(Rl.dat i,bm (bN s i)))++
 ([(.dparents,cz s.parents),(.dchildren,aS (ec h N))]++((Vr N).map (λi=>(Rl.dch i,ay (aJ s i)))++[(.derrors,.list s.errors),(.dcontents,.dict (s.contents.map bS) .none),(.dkinds,U s.kinds)])))
section
variable{H L:Hp}{ad ad':Ad}{W W':Wd}{cl:Cl}{n c N:Nat}{f:V->K}{g:Bool->K}{kk:V->K}
set_option tactic.hygienic true in
theorem TM(hu:W.u=none){h:Nat}{u:BS}{r:Rl}(hr:(cont ad W r).isSome=true):cont ad W r=cont (eN ad h N) (W.dup u (h+1) (eO h N) (ec h N)) r/\bj ad W r=bj (eN ad h N) (W.dup u (h+1) (eO h N) (ec h N)) r:=by
 obtain⟨s,u0,ms,ex,oA,aA,cA,uA,uC⟩:=W
 obtain rfl:u0=none:=hu
 cases r
 case d=>exact Bool.noConfusion hr
 case dopen=>exact Bool.noConfusion hr
 case dnames=>exact Bool.noConfusion hr
 case dspaces=>exact Bool.noConfusion hr
 case dattrs=>exact Bool.noConfusion hr
 case dparents=>exact Bool.noConfusion hr
 case dchildren=>exact Bool.noConfusion hr
 case derrors=>exact Bool.noConfusion hr
 case dcontents=>exact Bool.noConfusion hr
 case dkinds=>exact Bool.noConfusion hr
 case dat i=>exact Bool.noConfusion hr
 case dch i=>exact Bool.noConfusion hr
 all_goals exact⟨rfl,rfl⟩
theorem mv{α:Type}{F:Nat->α}{i:Nat}(h:i<N):((Vr N).map F)[i]?=some (F i):=by
 refine er (Vh ..) (er (XA h ..) ?_);rfl
set_option tactic.hygienic true in
theorem TN(B:BV H ad W)(F:Wf W.s)(hu:W.u=none)(hN:W.s.names.length=N):BV (H++(iX ad H.length N W.s).map (·.2)) (eN ad H.length N) (W.dup (bu W.s (S "in body")) (H.length+1) (eO H.length N) (ec H.length N)):=by
 refine TI B λr hr=>?_
 have new:∀p o,(iX ad H.length N W.s)[p]?=some (r,o)->cont (eN ad H.length N) (W.dup (bu W.s (S "in body")) (H.length+1) (eO H.length N) (ec H.length N)) r=some o->bj (eN ad H.length N) (W.dup (bu W.s (S "in body")) (H.length+1) (eO H.length N) (ec H.length N)) r=H.length+p->(cont ad W r=cont (eN ad H.length N) (W.dup (bu W.s (S "in body")) (H.length+1) (eO H.length N) (ec H.length N)) r/\bj ad W r=bj (eN ad H.length N) (W.dup (bu W.s (S "in body")) (H.length+1) (eO H.length N) (ec H.length N)) r)∨∃p o,(iX ad H.length N W.s)[p]?=some (r,o)/\cont (eN ad H.length N) (W.dup (bu W.s (S "in body")) (H.length+1) (eO H.length N) (ec H.length N)) r=some o/\bj (eN ad H.length N) (W.dup (bu W.s (S "in body")) (H.length+1) (eO H.length N) (ec H.length N)) r=H.length+p:=λp o h1 h2 h3=> .inr ⟨p,o,h1,h2,h3⟩
 have t1:∀q,(iX ad H.length N W.s)[5+N+q]?=([(Rl.dparents,cz W.s.parents),(Rl.dchildren,aS (ec H.length N))]++((Vr N).map (λi=>(Rl.dch i,ay (aJ W.s i)))++[(Rl.derrors,O.list W.s.errors),(.dcontents,.dict (W.s.contents.map bS) .none),(.dkinds,U W.s.kinds)]))[q]?:=λq=>by
  delta iX
  refine er (Vd (by simp;lia) ..) (er (Vd (by simp;lia) ..) ?_)
  congr 1
  simp;lia
 have t2:∀q,(iX ad H.length N W.s)[7+(N+N)+q]?=([(Rl.derrors,O.list W.s.errors),(.dcontents,.dict (W.s.contents.map bS) .none),(.dkinds,U W.s.kinds)])[q]?:=λq=>by
  refine er ((show 7+(N+N)+q=5+N+(2+N+q) by lia) ..) (er (t1 ..) (er (Vd (by simp;lia) ..) (er (Vd (by simp;lia) ..) ?_)))
  congr 1
  simp;lia
 cases r
 case d=>exact new 0 _ rfl rfl rfl
 case dopen=>exact new 1 _ rfl rfl rfl
 case dnames=>exact new 2 _ rfl rfl rfl
 case dspaces=>exact new 3 _ rfl rfl rfl
 case dattrs=>exact new 4 _ rfl rfl rfl
 case dparents=>exact new (5+N) _ (t1 0) rfl rfl
 case dchildren=>exact new (6+N) (aS (ec H.length N)) (by have:=t1 1;refine er ((show 6+N=5+N+1 by lia) ..) ?_;exact this) rfl rfl
 case derrors=>exact new (7+(N+N)) _ (t2 0) rfl rfl
 case dcontents=>exact new (8+(N+N)) (.dict (W.s.contents.map bS) .none) (by have:=t2 1;refine er ((show 8+(N+N)=7+(N+N)+1 by lia) ..) ?_;exact this) rfl rfl
 case dkinds=>exact new (9+(N+N)) (U W.s.kinds) (by have:=t2 2;refine er ((show 9+(N+N)=7+(N+N)+2 by lia) ..) ?_;exact this) rfl rfl
 case dat i=>
  have hi:i<N:=by
   have:(W.s.attrs[i]?.map bm).isSome=true:=hr
   simp only[V1]at this
   obtain⟨x,hx⟩:=Option.isSome_iff_exists.mp this
   have:=(List.getElem?_eq_some_iff.mp hx).1
   rw[F.la,hN]at this;exact this
  have hia:i<W.s.attrs.length:=by refine er (F.la ..) (er (hN ..) ?_);exact hi
  refine new (5+i) (bm (bN W.s i)) ?_ ?_ ?_
  ·delta iX
   refine er (Vd (by simp) ..) (er (U4 (by simp;assumption) ..) ?_)
   refine er ((show 5+i-_=i by simp) ..) ?_
   exact mv hi
  ·show W.s.attrs[i]?.map bm=_
   delta bN
   refine er (U8 hia ..) (er (U1 ..) (er (U8 hia ..) ?_));rfl
  ·show(eO H.length N).getD i 0=_
   delta eO
   simp only[U1,mv hi]
   show H.length+4+1+i=_
   lia
 case dch i=>
  have hi:i<N:=by
   have:(W.s.children[i]?.map ay).isSome=true:=hr
   simp only[V1]at this
   obtain⟨x,hx⟩:=Option.isSome_iff_exists.mp this
   have:=(List.getElem?_eq_some_iff.mp hx).1
   rw[F.lc,hN]at this;exact this
  have hia:i<W.s.children.length:=by refine er (F.lc ..) (er (hN ..) ?_);exact hi
  refine new (7+N+i) (ay (aJ W.s i)) ?_ ?_ ?_
  ·refine er ((show 7+N+i=5+N+(2+i) by lia) ..) (er (t1 ..) (er (Vd (by simp) ..) (er (U4 (by simp;assumption) ..) ?_)))
   refine er ((show 2+i-_=i by simp) ..) ?_
   exact mv hi
  ·show W.s.children[i]?.map ay=_
   delta aJ
   refine er (U8 hia ..) (er (U1 ..) (er (U8 hia ..) ?_));rfl
  ·show(ec H.length N).getD i 0=_
   delta ec
   simp only[U1,mv hi]
   show H.length+(6+N)+1+i=_
   lia
 all_goals exact .inl (TM hu hr)
end
section
variable{H L:Hp}{ad ad':Ad}{W W':Wd}{cl:Cl}{n c N:Nat}{f:V->K}{g:Bool->K}{kk:V->K}
theorem Cv{α β:Type}{l:List α}{F:α->β}{G:Nat->β}(h:∀(i:Nat) (x:α),l[i]?=some x->F x=G i):l.map F=(Vr l.length).map G:=by
 refine Xe λi=>?_
 by_cases hi:i<l.length
 ·simp only[mv hi,Vh,U8 hi]
  exact congrArg some (h i _ (U8 hi))
 ·rw[Vp (by simp;exact Nat.not_lt.mp ‹_›),Vp (by simp;exact Nat.not_lt.mp ‹_›)]
theorem TO{b:Nat}{s:BS}(F:Wf s):fk b s.names.length (s.attrs.map λl=>l.map bz)=aS ((Vr s.names.length).map λm=>b+1+m)::(Vr s.names.length).map λi=>bm (bN s i):=by
 unfold fk
 rw[Wq (by simp[F.la]),Wg,←F.la]
 congr 1
 refine Cv λi x hx=>?_
 unfold bN
 rw[U1,hx];rfl
theorem TP{b:Nat}{s:BS}(F:Wf s):fk b s.names.length (s.children.map λl=>l.map λi=> .int (i:Nat))=aS ((Vr s.names.length).map λm=>b+1+m)::(Vr s.names.length).map λi=>ay (aJ s i):=by
 unfold fk
 rw[Wq (by simp[F.lc]),Wg,←F.lc]
 congr 1
 refine Cv λi x hx=>?_
 unfold aJ
 rw[U1,hx];rfl
theorem TQ(Q:Vw c H ad W)(er:W.s.errors=[])(dn:W.s.done=false):cF (n+1) 780 [.ref (ad .b)] H=some (.ref H.length,H++(iX ad H.length W.s.names.length W.s).map (·.2)):=by
 have F:=Q.f
 have bn:=F.bn
 have B:=λL=>Q.v.app L
 rw[Oj]
 unfold y5
 rw[eM Q.v,cH,bP (B _),dj (B _),mu (dQ Q.v) (by simp;have:=F.il;exact nD ‹_›)]
 rw[gM (B _),mu (nz Q.v) (by simp;exact nD ‹_›)]
 rw[gL (B _),mu (ny Q.v) (by simp[F.ls];exact nD ‹_›),nS (B _)]
 rw[Cu (os:=W.s.attrs.map λl=>l.map bz) (nC Q.v) (by simp[F.la,Q.la]) (λi a o h1 h2=>by
  rw[Vh,VA]at h2
  refine ex1_2 (h2) λl hl zq2=>?_;subst zq2
  have:=Q.v.get (.at_ i) (bm l) (congrArg (Vc bm) hl)
  rw[show bj ad W (.at_ i)=a from Vu (U1 ..) (congrArg (λz=>Yt z 0) h1)]at this
  exact this) (λo ho=>by
  refine ex1_2 (List.mem_map.mp ho) λl hl zq2=>?_;subst zq2
  have:=Q.ra l hl
  simp;exact nB ‹_›) (by rw[Q.la];exact bn)]
 rw[iP (B _),mu (kg Q.v) (by simp[F.lp];exact nD ‹_›),lH (B _)]
 rw[Cu (os:=W.s.children.map λl=>l.map λi=> .int (i:Nat)) (nL Q.v) (by simp[F.lc,Q.lc]) (λi a o h1 h2=>by
  rw[Vh,VA]at h2
  refine ex1_2 (h2) λl hl zq2=>?_;subst zq2
  have:=Q.v.get (.ch i) (ay l) (congrArg (Vc ay) hl)
  rw[show bj ad W (.ch i)=a from Vu (U1 ..) (congrArg (λz=>Yt z 0) h1)]at this
  exact this) (λo ho=>by
  refine ex1_2 (List.mem_map.mp ho) λl hl zq2=>?_;subst zq2
  have:=F.ck l hl
  simp;exact nI ‹_› ‹_›) (by rw[Q.lc];exact bn)]
 rw[dW,nP (B _),tv (B _),lI (B _),TL (jf Q.v) (by have:=F.cn;exact nI ‹_› ‹_›),qg (B _),mu (nx Q.v) (by simp[F.lk];exact nD ‹_›)]
 simp only[Q.la,Q.lc,TO F,TP F]
 generalize hd0:O.dict [] (some 0)=d0
 generalize hN:W.s.names.length=N at*
 simp only[Vs,Wh,V8,Vk,XE,U9,WA,WW]
 subst hd0
 rw[qI (by simp) (by kernel_rfl) (by simp),Vy _ _ (Vf _),VZ,WL]
 refine congrArg some (XI rfl ?_)
 show H++_=H++_
 congr 1
 unfold iX
 rw[er,←dn]
 simp only[VW,Vi,WT,Wg,WA,WW]
 rw[show N+(N+(0+1+1)+1+1)+1+1+1+1+1=9+(N+N) by lia,show N+(N+(0+1)+1+1)+1+1+1+1+1=8+(N+N) by lia,show N+(N+1+1)+1+1+1+1+1=7+(N+N) by lia,show N+(0+1)+1+1+1+1+1=6+N by lia,show N+1+1+1+1+1=5+N by omega]
 rfl
theorem TR(Q:Vw c H ad W)(hu:W.u=none)(er:W.s.errors=[])(dn:W.s.done=false):∃H' W',W'.s=W.s/\W'.modes=W.modes/\W'.ex=W.ex/\Vw c H' (eN ad H.length W.s.names.length) W'/\Dw c H' (eN ad H.length W.s.names.length) W' (bu W.s (S "in body"))/\cF (n+1) 780 [.ref (ad .b)] H=some (.ref H.length,H'):=by
 have B:=TN Q.v Q.f hu rfl
 refine⟨_,W.dup (bu W.s (S "in body")) (H.length+1) (eO H.length W.s.names.length) (ec H.length W.s.names.length),rfl,rfl,rfl,⟨B,Q.f,Q.la,Q.lc,Q.rn,Q.re,Q.ri,Q.ra⟩,⟨B,rfl,Q.f.keep,by show(eO _ _).length=_;simp[eO,bu],by show(ec _ _).length=_;simp[ec,bu],Q.rn,Q.re,Q.ri,Q.ra⟩,TQ Q er dn⟩
theorem TS{u:BS}(Q:Vw (c+8) H ad W)(D:Dw (c+8) H ad W u)(hu:bu u (S "in body")=bu W.s (S "in body"))(hc:c<=900){w:Str}{as:List (Str×Str)}(P:uN (bu W.s (S "in body")) w as W.modes):dT c ad W (gv (bu W.s (S "in body")) w as W.modes) (cF (n+9) 874 [.ref (ad .b),.ref (ad .d),.str w,.tup (as.map bz)] H):=by
 rw[RN,tz Q.v]
 refine cR (P:=dT c ad W _) (uc (n:=n+7) Q).fl λH1 a b Q1=>?_
 have D1:=D.ofV Q1
 refine ex1_2 (uj D1 (S "in body")) λH2 D2 e2=>?_
 rw[hu]at D2
 have Q2:=Q1.ofD D2
 rw[e2,RE P.wf]
 exact RG (RO (n:=n) (c:=c) Q2 D2 hc P)
end
section
variable{s s':BS}{w name:Str}{as:List (Str×Str)}{modes:List Str}
theorem rh(T:Tx s){b:Bool}:Tx (bG b s w):=by
 unfold bG
 split<;>exact T
theorem TU(T:Tx s){i:Nat}:Tx (bQ s i name as):=λt ht=>by
 rcases List.mem_append.mp (show t∈s.texts++[S ""]from ht)with h|h
 ·exact T t h
 ·exact List.mem_singleton.mp h
theorem TV(T:Tx s):Tx (iU s name):=by
 simp only[kE]
 split
 ·unfold ip
  split
  ·exact T
  ·split
   ·exact T
   ·split
    ·exact T
    ·exact rh (s:=setForm s (-1)) T
 ·unfold d9
  split
  ·split
   ·unfold iq
    split
    ·exact TU (s:=aN s (S "unexpected-end-tag")) T
    ·exact T
   ·exact T
  ·exact rh T
theorem vp(T:Tx s):Tx (dS s):=by
 unfold dS
 split
 ·exact rh T
 ·exact T
theorem TW(T:Tx s):Tx (fc s name):=by
 unfold fc
 split
 ·exact vp T
 ·split
  ·split
   ·exact vp T
   ·exact vp T
  ·exact T
theorem TX(T:Tx s):Tx (gp s modes):=by
 unfold gp
 split
 ·exact T
 ·exact rh T
theorem TY(T:Tx s):Tx (jx s name as):=by
 unfold jx
 split
 ·exact T
 ·split
  ·exact T
  ·split
   ·exact T
   ·split
    ·intro t ht
     rcases List.mem_append.mp (show t∈s.texts++[S ""]from ht)with h|h
     ·exact T t h
     ·exact List.mem_singleton.mp h
    ·exact T
theorem TZ(I:Inv s)(F:Wf s)(X:bh s)(T:Tx s)(hw:w∈Tg)(ha:d_ as):Tx (gv s w as modes):=by
 have ag:=(ve (modes:=modes) I F X hw ha).1
 unfold gv at ag⊢
 unfold oB at ag
 by_cases h1:w=S "eof"
 ·refine er (if_pos h1 ..) ?_;exact TX T
 ·rw[if_neg h1]at ag⊢
  rw[if_neg h1]at ag
  by_cases h2:w0 w=S "<"
  ·rw[if_pos h2]at ag⊢
   rw[if_pos h2]at ag
   refine el (ag ..) ?_;exact TY T
  ·rw[if_neg h2]at ag⊢
   rw[if_neg h2]at ag
   cases h3:aj [S "body",S "html",S "template"] (cv w)with
   |true=>refine er (if_pos rfl ..) ?_;exact TW T
   |false=>
    rw[h3,if_neg (by decide),if_neg (by decide)]at ag
    refine er (if_neg (by decide) ..) (el (ag ..) ?_);exact TV T
end
section
variable{H L:Hp}{ad ad':Ad}{W W':Wd}{cl:Cl}{n c N:Nat}{f:V->K}{g:Bool->K}{kk:V->K}
theorem Cw{j k:Nat}{xs:List V}(h:H[j]?=some (.list xs))(h2:H[k]?=some (.list xs))(hx:∀x∈xs,dm 7 x=true):UX (af .NotEq (.ref j) (.ref k)) g H=g false H:=by
 have hs:(V.toD H 8 (.ref j)).isSome=true:=by
  refine er (fX h ..) (er (V1 ..) ?_)
  exact l9 λx hm=>oz 7 x (hx x hm)
 have he:V.toD H 8 (.ref k)=V.toD H 8 (.ref j):=by refine er (fX h ..) (er (fX h2 ..) rfl)
 obtain⟨d,hd⟩:=Option.isSome_iff_exists.mp hs
 have ev:=PySem.SeqAt.eqv_refl d (uL 8 _ d hd)
 exact aq (m:=i1 (.ref j) (.ref k)) ((AF h h2 hd (he.trans hd)).trans (by refine er (ev ..) ?_;rfl))
theorem T3{j k:Nat}{a b:Option Nat}(h:H[j]?=some (.dict [] a))(h2:H[k]?=some (.dict [] b)):UX (af .NotEq (.ref j) (.ref k)) g H=g false H:=by
 refine aq (m:=i1 (.ref j) (.ref k)) ?_
 delta i1 ed
 exact(aq (cj h)).trans (aq (cj h2))
theorem T4{j m:Nat}{y:V}(h:H[j]?=some (.list [y]))(hm:m<=1000):UX (ax .Mult (.ref j) (.int (m:Nat))) f H=f (.ref H.length) (H++[.list (VE m y)]):=by
 refine aq ((fJ (f:=λxs=>eS xs λy=>if 0<=(m:Int)/\(m:Int)<=100000 then aF (.list (VE (m:Int).toNat y))else UY) h).trans ?_)
 exact congrFun (if_pos (by lia)) H
theorem T5{k:Nat}{xs:List V}{body:V->Z->(Z->K)->(Z->K)->K}{kk:Z->K}{vars:Z}(Inv:Nat->Z->Hp->Prop){P:Option (V×Hp)->Prop}(h:∀i vars H,Inv i vars H->H[k]?=some (.list xs))
  (step:∀i v vars H kn,xs[i]?=some v->Inv i vars H->(∀vars' H',Inv (i+1) vars' H'->P (kn vars' H'))->P (body (.tup [.int i,v]) vars kn kk H))
  (fin:∀vars H,Inv xs.length vars H->P (kk vars H)) (h0:Inv 0 vars H):P (mF (.ref k) (λit=>cE true it body kk vars) H):=by
 have hk:=h _ _ _ h0
 have e1:mF (.ref k) (λit=>cE true it body kk vars) H=cE true (.enum k) body kk vars H:=by
  exact fJ (f:=λ_=>(λit=>cE true it body kk vars) (.enum k)) hk
 have e2:cE true (.enum k) body kk vars H=dr (b8 (.enum k)) body kk (xs.length+1) 0 vars H:=by
  show UX (jL (.enum k)) (λn=>dr (b8 (.enum k)) body kk (n+1) 0 vars) H=_
  refine aq ?_
  exact fJ (f:=λxs=>UZ xs.length) hk
 simp only[e1,e2]
 have hl:(xs.zipIdx.map λp=>V.tup [.int (p.2:Nat),p.1]).length=xs.length:=by simp
 have key:=qi (next:=b8 (.enum k)) (body:=body) (kk:=kk) (xs.zipIdx.map λp=>V.tup [.int (p.2:Nat),p.1]) Inv P (λi vars H hI=>by
  refine(fJ (f:=λxs=>UZ ((xs[i]?).map λv=>V.tup [.int i,v])) (h i vars H hI)).trans ?_
  have:(xs.zipIdx.map λp=>V.tup [.int (p.2:Nat),p.1])[i]?=(xs[i]?).map λv=> .tup [.int (i:Nat),v]:=by
   simp only[Vh,Xs]
   cases xs[i]?<;>simp
  refine er (this ..) ?_;rfl) (λi v vars H kn hv hI hk2=>by
  simp only[Vh,Xs]at hv
  cases hx:xs[i]? with
  |none=>rw[hx]at hv;exact ak hv
  |some y=>
   rw[hx]at hv
   simp at hv
   refine el (hv ..) ?_
   exact step i y vars H kn hx hI hk2) (λvars H hI=>fin vars H (hl▸hI)) (xs.length+1) 0 vars H h0 (V5 _) (by refine er (hl ..) ?_;exact Vf _)
 exact key
theorem Cy{xs:List V}{i:Nat}{v:V}(h:xs[i]?=some v)(hl:xs.length<=1000):UX (aa (.tup xs) (.int (i:Nat))) f H=f v H:=by
 have hlt:=(List.getElem?_eq_some_iff.mp h).1
 refine aq (nv (oF (oP ‹_› ‹_›)) ?_ h)
 unfold eQ
 refine er (if_pos (VP _) ..) (er (if_pos (nZ ‹_›) ..) ?_);simp
end
noncomputable def rj:List (Str×Str×Nat×Nat×Nat):=[(S "html body ul li span p",S "/li /p /dl eof",0,0,0),(S "html body li ol dd p",S "/li /dd /h2 /body",1,0,1),(S "html body h1 h3 rt",S "/h3 /h2 /html <html",0,0,0),(S "html body form div p",S "/form /form /div <meta",2,0,0),(S "html body form td p svg:g",S "/form /p <body <frameset",2,0,0),(S "html body template form option",S "/form <html <body eof",1,1,0),(S "html body span svg:p",S "/html <frameset /body /html",0,0,0),(S "html frameset li p",S "<body /li <frameset /template",1,1,0),(S "html",S "<body <frameset <html eof",0,0,1)]
noncomputable def vq(p:Str×Str×Nat×Nat×Nat):V:= .tup [.str p.1,.str p.2.1,.int (p.2.2.1:Nat),.int (p.2.2.2.1:Nat),.int (p.2.2.2.2:Nat)]
theorem T6:rj.all (λp=>aD p.1&&aD p.2.1&&(decide ((Txt.words p.1).head?=some (S "html"))&&(Txt.words p.1).tail.all (aj dI)&&decide ((Txt.words p.1).length<=6))&&((Txt.words p.2.1).all (aj Tg)&&decide ((Txt.words p.2.1).length<=4)))=true:=by kernel_rfl
noncomputable def oK:List (List (Str×Str)):=[[(S "id",S "x"),(S "lang",S "l")],[(S "lang",S "m"),(S "dir",S "d"),(S "id",S "y")],[]]
noncomputable def gU:V:= .tup (oK.map λas=> .tup (as.map bz))
theorem T7:oK.all (λas=>decide (as.length<=3)&&as.all λp=>aD p.1&&aD p.2)=true:=by kernel_rfl
noncomputable def rk(r:Option (V×Hp)):Prop:=∃H',r=some (.bool true,H')
section
variable{H:Hp}{ad:Ad}{W:Wd}{cl:Cl}{n c:Nat}{f:V->K}{g:Bool->K}{kk:V->K}{u:BS}
theorem T8:cF (n+1) 726 [] H=some (.tup (rj.map vq),H):=by
 refine er (Ob ..) ?_;rfl
theorem T9{k:Nat}{p:Str×Str×Nat×Nat×Nat}(h:rj[k]?=some p):aD p.1=true/\aD p.2.1=true/\dU 6 (Txt.words p.1)/\(∀w∈Txt.words p.2.1,w∈Tg)/\(Txt.words p.2.1).length<=4:=by
 have:=List.all_eq_true.mp T6 p (Vb h)
 simp only[U2,decide_eq_true_eq]at this
 refine bZ λgP gh=>?_
 obtain⟨⟨⟨h1,h2⟩,⟨h3,h4⟩,h5⟩,h6,h7⟩:=this
 refine gh ?_;clear gh gP
 refine⟨h1,h2,⟨?_,h5⟩,λw hw=>md (List.all_eq_true.mp h6 w hw),h7⟩
 generalize Txt.words p.1=ws at*
 cases ws with
 |nil=>exact ak h3
 |cons a r=>
  have:a=S "html":=by simpa using h3
  exact⟨r,by refine er (this ..) rfl,λw hw=>md (List.all_eq_true.mp h4 w hw)⟩
theorem T_{r:Nat}(h:r<3):∃as,oK[r]?=some as/\as.length<=3/\d_ as:=by
 have hl:r<oK.length:=h
 have:=List.all_eq_true.mp T7 oK[r] (VO hl)
 simp only[U2,decide_eq_true_eq]at this
 refine⟨_,U8 hl,this.1,λp hp=>?_⟩
 have:=List.all_eq_true.mp this.2 p hp
 simpa using this
noncomputable def vt(c:Nat)(ad:Ad)(W:Wd)(s:BS)(H':Hp):Prop:=∃a b o a' b',Vw c H' ad ((W.up s a b).dup s o a' b')/\Dw c H' ad ((W.up s a b).dup s o a' b') s/\Tx s
def Cz(cl:Cl)(xs:List Int)(names rows kv jv w b d:V)(stop go:V->V->K):K:=(UX (ax .Mult (.int 7) kv) λx37=>UX (ax .Add x37 (.int 3)) λx38=>UX (ax .Add x38 jv) λx39=>UX (cl 719 [.frz xs,x39]) λx36=>ao (TT cl) names (S "index") (λk41=>k41 [w]) λx40=>UX (ax .Add x40 x36) λx42=>UX (bw names) λx43=>UX (ax .Mod x42 x43) λx44=>UX (aa names x44) λx45=>UX (bw names) λx47=>UX (ax .FloorDiv x36 x47) λx48=>UX (ax .Add x48 jv) λx49=>UX (ax .Add x49 kv) λx50=>UX (ax .Mod x50 (.int 3)) λx51=>UX (aa rows x51) λx52=>UX (cl 874 [b,d,x45,x52]) λx46=>UX (truthy x46) λt53=>if(!t53)=true then(UZ (.bool false))else(UX (af .Eq x45 (.str (S "eof"))) λt54=>if t54=true then(stop x45 x36)else(go x45 x36)))
theorem Ua{P:Option (V×Hp)->Prop}{stop go:V->V->K}{xs:List Int}{k j kN:Nat}{w:Str}(Q:Vw (c+8) H ad W)(D:Dw (c+8) H ad W u)(hu:bu u (S "in body")=bu W.s (S "in body"))(I:Inv W.s)(T:bh W.s)(X:Tx W.s)(hc:c<=900)(hm:∀x∈W.modes,aD x=true)(hml:W.modes.length<=1000)
  (hk:k<=8) (hj:j<=10) (hw:w∈Tg) (hN:W.ex[0]?=some (kN,U Tg)) (hx:xs.length<=1000)
  (hgo:∀H' s x y,vt c ad W s H'->Inv s->bh s->P (go x y H')) (hstop:∀H' s x y,vt c ad W s H'->P (stop x y H')):
  P (Cz (cF (n+9)) xs (.ref kN) gU (.int (k:Nat)) (.int (j:Nat)) (.str w) (.ref (ad .b)) (.ref (ad .d)) stop go H):=by
 have hn:=oH Q.v hN
 have hTl:Tg.length=40:=rfl
 unfold Cz
 have hmul:((7:Int)*(k:Nat))=((7*k:Nat):Int):=by push_cast;rfl
 have hadd:(((7*k:Nat):Int)+3)=((7*k+3:Nat):Int):=by push_cast;rfl
 have hadd2:(((7*k+3:Nat):Int)+(j:Nat))=((7*k+3+j:Nat):Int):=by push_cast;rfl
 refine er (vg (by decide) (oF (nD ‹_›)) ..) (er (hmul ..) (er (dR ..) (er (hadd ..) (er (dR ..) (er (hadd2 ..) (er (aq (vf (n:=n+8) hx (by lia)) ..) ?_))))))
 refine ex1_2 (Co (l:=Tg) (x:=w) (List.any_eq_true.mpr ⟨w,hw,decide_eq_true rfl⟩)) λj0 hj0 _=>?_
 simp only[bO hn tj rfl,Cn hn hj0 (by refine er (hTl ..) ?_;decide),dR,gO hn (by refine er (hTl ..) ?_;decide)]
 refine ex1_2 (mi (a:=(j0:Int)+digit xs (7*k+3+j)) (b:=Tg.length) (by refine er (hTl ..) ?_;exact Wu _)) λr1 hr1 hr1l=>?_
 refine er (gT (by refine er (hTl ..) ?_;decide) ..) (er (hr1 ..) (er (lY hn hr1l (by refine er (hTl ..) ?_;decide) ..) (er (gO hn (by refine er (hTl ..) ?_;decide) ..) (er (mh (by refine er (hTl ..) ?_;decide) (by refine er (hTl ..) ?_;decide) ..) (er (dR ..) (er (dR ..) ?_))))))
 refine ex1_2 (mi (a:=(digit xs (7*k+3+j)).fdiv (Tg.length:Nat)+(j:Nat)+(k:Nat)) (b:=3) (Wu _)) λr2 hr2 hr2l=>?_
 refine er (gT (by decide) ..) (er ((show(3:Int)=((3:Nat):Int)from rfl) ..) (er (hr2 ..) ?_))
 refine ex1_3 (T_ hr2l) λas has hal haf=>?_
 unfold gU
 refine er (Cy (v:= .tup (as.map bz)) (by refine er (Vh ..) (er (has ..) ?_);rfl) (by decide) ..) ?_
 have hwm:Tg.getD r1 (S "")∈Tg:=by refine er (U1 ..) (er (U8 hr1l ..) ?_);exact VO _
 generalize Tg.getD r1 (S "")=w2 at*
 have I':=BW (w:=S "in body") I Q.f
 have F':Wf (bu W.s (S "in body")):=Q.f.keep
 have T':bh (bu W.s (S "in body")):=uZ T (by kernel_rfl)
 have X':Tx (bu W.s (S "in body")):=X
 have pre:=SL (modes:=W.modes) I' F' T' hwm haf hal hm hml
 refine bK (ve (modes:=W.modes) I' F' T' hwm haf) λ_ fs is=>?_
 have xs':=TZ (modes:=W.modes) I' F' T' X' hwm haf
 refine ex6_3 (TS (n:=n) Q D hu hc pre) λH' a b o a' b' Q' D' e=>?_
 refine er (aq e ..) (er (aP ..) ?_)
 refine er (if_neg (by decide) ..) (er (aM ..) ?_)
 have ok:vt c ad W (gv (bu W.s (S "in body")) w2 as W.modes) H':=⟨a,b,o,a',b',Q',D',xs'⟩
 by_cases he:w2=S "eof"
 ·refine er (decide_eq_true he ..) (er (if_pos rfl ..) ?_)
  exact hstop H' _ _ _ ok
 ·refine er (decide_eq_false he ..) (er (if_neg (by decide) ..) ?_)
  exact hgo H' _ _ _ ok (is he) fs
end
section
variable{H:Hp}{ad:Ad}{W:Wd}{cl:Cl}{n c:Nat}{f:V->K}{g:Bool->K}{kk:V->K}{u:BS}
theorem Ub{a b:Int}(h:a=b):(!decide (a=b))=false:=by refine er (decide_eq_true h ..) ?_;rfl
theorem Uc{P:Option (V×Hp)->Prop}{next:K}{c':Nat}(Q:Vw c H ad W)(D:Dw c' H ad W u)(hun:u.names.length=W.s.names.length)(X:Tx W.s){head:Int}{m:Nat}(hml:((m:Int)+head.fdiv 3).fmod 3=(W.modes.length:Nat))(hmm:W.modes.length<=1000)(hn:∀G,P (next (H++G))):
  P ((jp (λ(t56:Bool)=>(if t56=true then(UZ (.bool false))else(jp (λ(t58:Bool)=>(if t58=true then(UZ (.bool false))else next:K)) λj57=>UX (ab (.ref (ad .b)) (S "modes") (TT cl)) λx60=>UX (bw x60) λx59=>UX (ax .FloorDiv (.int head) (.int 3)) λx61=>UX (ax .Add (.int (m:Nat)) x61) λx62=>UX (ax .Mod x62 (.int 3)) λx63=>UX (af .NotEq x59 x63) λt64=>aC t64 (j57 true) (UX (ab (.ref (ad .b)) (S "wish") (TT cl)) λx65=>UX (af .NotEq x65 (.str (S ""))) λt66=>aC t66 (j57 true) (UX (ab (.ref (ad .b)) (S "original") (TT cl)) λx67=>UX (af .NotEq x67 (.str (S ""))) λt68=>aC t68 (j57 true) (j57 false)))):K)) λj55=>UX (ab (.ref (ad .b)) (S "owners") (TT cl)) λx69=>UX (aF (.dict [] (some 0))) λo70=>UX (af .NotEq x69 o70) λt71=>aC t71 (j55 true) (UX (ab (.ref (ad .b)) (S "formatting") (TT cl)) λx72=>UX (ab x72 (S "items") (TT cl)) λx73=>UX (aF (.list [])) λx74=>UX (af .NotEq x73 x74) λt75=>aC t75 (j55 true) (UX (ab (.ref (ad .b)) (S "tree") (TT cl)) λx76=>UX (ab x76 (S "texts") (TT cl)) λx77=>UX (aF (.list [.str (S "")])) λx78=>UX (aa (.ref (ad .d)) (.str (S "names"))) λx80=>UX (bw x80) λx79=>UX (ax .Mult x78 x79) λx81=>UX (af .NotEq x77 x81) λt82=>aC t82 (j55 true) (j55 false))):K) H):=by
 unfold jp
 dsimp only
 have bn:=Q.f.bn
 have B1:=Q.v.app [O.dict [] (some 0)]
 refine er (O3 Q.v ..) (er (cH ..) (er (T3 (OZ B1) bl ..) (er (aK ..) (er (O1 B1 ..) (er (O7 B1 ..) ?_)))))
 have B2:=B1.app [O.list []]
 refine er (cH ..) (er (Cw (OY B2) bl (λx hx=>by cases hx) ..) (er (aK ..) (er (eM B2 ..) (er (zu B2 ..) ?_))))
 have B3:=B2.app [O.list [.str (S "")]]
 have D3:=((D.app [O.dict [] (some 0)]).app [O.list []]).app [O.list [.str (S "")]]
 refine er (cH ..) (er (uf D3 ..) (er (gO (qA D3) (nQ ‹_› ‹_›) ..) (er (T4 bl (nQ ‹_› ‹_›) ..) ?_)))
 have B4:=B3.app [O.list (VE u.names.length (.str (S "")))]
 have ht:W.s.texts.map V.str=VE u.names.length (.str (S "")):=by
  rw[List.eq_replicate_iff]
  refine⟨by refine er (Vk ..) (er (Q.f.lt ..) (er (hun ..) rfl)),λb hb=>?_⟩
  refine ex1_2 (List.mem_map.mp hb) λt h1 zq2=>?_;subst zq2
  refine er (X t h1 ..) rfl
 have hg:=tq B4
 unfold U at hg
 rw[ht]at hg
 refine er (Cw hg bl (λx hx=>by refine er (List.eq_of_mem_replicate hx ..) ?_;show aD (S "")=true;kernel_rfl) ..) (er (aK ..) (er (if_neg (by decide) ..) (er (tu B4 ..) ?_)))
 refine er (gO (tr B4) hmm ..) (er (mh (by decide) (by decide) ..) (er (dR ..) (er (gT (by decide) ..) (er (fM ..) (er (hml ..) (er (Ub rfl ..) (er (aK ..) (er (O5 B4 ..) (er (gg ..) (er (decide_eq_true rfl ..) (er (U6 ..) (er (aK ..) (er (O2 B4 ..) (er (gg ..) (er (decide_eq_true rfl ..) (er (U6 ..) (er (aK ..) (er (if_neg (by decide) ..) ?_))))))))))))))))))
 refine er (U9 ..) (er (U9 ..) (er (U9 ..) ?_))
 exact hn _
theorem Dw.x(D:Dw c H ad W u){k:Nat}{o:O}(h:Fr H ad W k o):Dw c H ad (W.x k o) u:=⟨D.v.xpush h,D.hu,D.f,D.la,D.lc,D.rn,D.re,D.ri,D.ra⟩
theorem Ud{P:Option (V×Hp)->Prop}{xs:List Int}{k kN mo:Nat}{head:Int}{tags:Str}{a5 a9 a13:V}{kn kb:Z->K}(Q:Vw 860 H ad W)(D:Dw 860 H ad W u)(hu:bu u (S "in body")=bu W.s (S "in body"))(I:Inv W.s)(T:bh W.s)(X:Tx W.s)(hm:∀x∈W.modes,aD x=true)(hmm:W.modes.length<=1000)(hml:((mo:Int)+head.fdiv 3).fmod 3=(W.modes.length:Nat))
  (hk:k<=8) (hN:W.ex[0]?=some (kN,U Tg)) (hx:xs.length<=1000) (hf:aD tags=true) (hw:∀w∈Txt.words tags,w∈Tg) (hl:(Txt.words tags).length<=4) {dO bD dP:Option V}
  (next:∀H' o1 o2 o3,H'[kN]?=some (U Tg)->P (kn (dN (some (.frz xs)) (some (.ref kN)) (some gU) (some (.int (k:Nat))) (some a5) (some (.str tags)) (some a9) (some (.int (mo:Nat))) (some a13) (some (.int head)) (some (.ref (ad .b))) (some (.ref (ad .d))) o1 o2 o3) H')):
  P ((ao (TT (cF (n+9))) (.str tags) (S "split") (λk85=>k85 []) λx84=>mF x84 λit83=>cE true it83 (ca (TT (cF (n+9))) 22 aU.scope (ba aU.body [2,0,6])) (λvars=>bB (TT (cF (n+9))) 23 aU.scope (lx (ba aU.body [2]) 0) 7 vars kn kb) (dN (some (.frz xs)) (some (.ref kN)) (some gU) (some (.int (k:Nat))) (some a5) (some (.str tags)) (some a9) (some (.int (mo:Nat))) (some a13) (some (.int head)) (some (.ref (ad .b))) (some (.ref (ad .d))) dO bD dP)) H):=by
 generalize ht:Txt.words tags=tl at*
 refine er (js hf ht ..) ?_
 refine ai (Q.v.fresh (U tl)) λB1 F1=>?_
 have Q1:=(Q.app [U tl]).x F1
 have D1:=(D.app [U tl]).x F1
 generalize H++[U tl]=H1 at*
 generalize H.length=kt at*
 have hN1:(W.x kt (U tl)).ex[0]?=some (kN,U Tg):=by
  show(W.ex++[(kt,U tl)])[0]?=_
  refine er (U4 (List.getElem?_eq_some_iff.mp hN).1 ..) ?_;exact hN
 have hT1:(W.x kt (U tl)).ex[W.ex.length]?=some (kt,U tl):=by
  show(W.ex++[(kt,U tl)])[W.ex.length]?=_
  simp
 have m1:(W.x kt (U tl)).modes=W.modes:=rfl
 have s1:(W.x kt (U tl)).s=W.s:=rfl
 generalize W.x kt (U tl)=W1 at*
 rw[←s1]at hu I T X
 rw[←m1]at hm hmm hml
 clear F1 B1 Q D hN s1 m1
 have fin:∀(s u:BS) (a b a' b':List Nat) (o c:Nat) (o1 o2 o3:Option V) (H':Hp),Vw c H' ad ((W1.up s a b).dup u o a' b')->Dw c H' ad ((W1.up s a b).dup u o a' b') u->u.names.length=s.names.length->Tx s->P (bB (TT (cF (n+9))) 23 aU.scope (lx (ba aU.body [2]) 0) 7 (dN (some (.frz xs)) (some (.ref kN)) (some gU) (some (.int (k:Nat))) (some a5) (some (.str tags)) (some a9) (some (.int (mo:Nat))) (some a13) (some (.int head)) (some (.ref (ad .b))) (some (.ref (ad .d))) o1 o2 o3) kn kb H'):=λs u a b a' b' o c o1 o2 o3 H' Q' D' hun X'=>by
  refine er (ON ..) ?_
  refine Uc Q' D' hun X' hml hmm λG=>next _ _ _ _ (oH (Q'.v.app G) (i:=0) hN1)
 refine T5 (P:=P) (xs:=tl.map .str) (λj vars H'=>∃(s u:BS) (a b a' b':List Nat) (o:Nat) (o1 o2 o3:Option V),Vw (828+8*(4-j)) H' ad ((W1.up s a b).dup u o a' b')/\Dw (828+8*(4-j)) H' ad ((W1.up s a b).dup u o a' b') u/\bu u (S "in body")=bu s (S "in body")/\Inv s/\bh s/\Tx s/\vars=(dN (some (.frz xs)) (some (.ref kN)) (some gU) (some (.int (k:Nat))) (some a5) (some (.str tags)) (some a9) (some (.int (mo:Nat))) (some a13) (some (.int head)) (some (.ref (ad .b))) (some (.ref (ad .d))) o1 o2 o3)) ?_ ?_ ?_ ?_
 ·intro j vars H' hI1
  refine ex10_2 hI1 λs u' a b a' b' o o1 o2 o3 Q' _=>?_
  exact oH (i:=W.ex.length) Q'.v hT1
 ·intro j v vars H' kn' hv hI3 hk2
  refine ex10_7 hI3 λs u' a b a' b' o o1 o2 o3 Q' D' hu' I' T' X' zq4=>?_
  subst zq4
  refine er (OM ..) ?_
  simp only[dZ,cO,eT]
  rw[Vh,VA]at hv
  refine ex1_2 (hv) λw hwj zq2=>?_;subst zq2
  have hjl:=(List.getElem?_eq_some_iff.mp hwj).1
  have hc:828+8*(4-j)=(828+8*(4-(j+1)))+8:=Cr (by assumption) hjl
  rw[hc]at Q' D'
  refine Ua (n:=n) (P:=P) (W:=(W1.up s a b).dup u' o a' b') (stop:=λx45 x36=>bB (TT (cF (n+9))) 23 aU.scope (lx (ba aU.body [2]) 0) 7 (dN (some (.frz xs)) (some (.ref kN)) (some gU) (some (.int (k:Nat))) (some a5) (some (.str tags)) (some a9) (some (.int (mo:Nat))) (some a13) (some (.int head)) (some (.ref (ad .b))) (some (.ref (ad .d))) (some (.int (j:Nat))) (some x45) (some x36)) kn kb) (go:=λx45 x36=>kn' (dN (some (.frz xs)) (some (.ref kN)) (some gU) (some (.int (k:Nat))) (some a5) (some (.str tags)) (some a9) (some (.int (mo:Nat))) (some a13) (some (.int head)) (some (.ref (ad .b))) (some (.ref (ad .d))) (some (.int (j:Nat))) (some x45) (some x36))) Q' D' hu' I' T' X' (by omega) hm hmm hk (oP ‹_› ‹_›) (hw w (Vb hwj)) hN1 hx ?_ ?_
  ·intro H2 s2 x y hI6 I2 T2
   refine ex5_3 hI6 λa2 b2 o2 a3 b3 Q2 D2 X2=>?_
   exact hk2 _ _ ⟨s2,s2,a2,b2,a3,b3,o2,_,_,_,Q2,D2,rfl,I2,T2,X2,rfl⟩
  ·intro H2 s2 x y hI8
   refine ex5_3 hI8 λa2 b2 o2 a3 b3 Q2 D2 X2=>?_
   exact fin s2 s2 a2 b2 a3 b3 o2 _ _ _ _ H2 Q2 D2 rfl X2
 ·intro vars H' hI10
  refine ex10_7 hI10 λs u' a b a' b' o o1 o2 o3 Q' D' hu' I' T' X' zq11=>?_
  subst zq11
  exact fin s u' a b a' b' o _ _ _ _ H' Q' D' (show(bu u' (S "in body")).names.length=(bu s (S "in body")).names.length by refine er (hu' ..) rfl) X'
 ·refine⟨W1.s,u,W1.aA,W1.cA,W1.uA,W1.uC,W1.oA,dO,bD,dP,?_,?_,hu,I,T,X,rfl⟩
  ·have:(W1.up W1.s W1.aA W1.cA).dup u W1.oA W1.uA W1.uC=W1:=im D1
   refine er (this ..) ?_;exact Q1
  ·have:(W1.up W1.s W1.aA W1.cA).dup u W1.oA W1.uA W1.uC=W1:=im D1
   refine er (this ..) ?_;exact D1
end
section
variable{H:Hp}{ad:Ad}{W:Wd}{cl:Cl}{n c:Nat}{f:V->K}{g:Bool->K}{kk:V->K}{u:BS}
noncomputable def gV:List Str:=[S "in template",S "in body"]
theorem Ue:gV.all aD=true:=by kernel_rfl
theorem Uf{P:Option (V×Hp)->Prop}{xs:List Int}{k kN:Nat}{kn kb:Z->K}{o1 o2 o3 o4 o5 o6 o7 o8 o9 o10 o11 o12:Option V}(hk:k<9)(hx:xs.length<=1000)(hN:H[kN]?=some (U Tg))
  (next:∀H' o1 o2 o3 o4 o5 o6 o7 o8 o9 o10 o11 o12,H'[kN]?=some (U Tg)->P (kn (dN (some (.frz xs)) (some (.ref kN)) (some gU) o1 o2 o3 o4 o5 o6 o7 o8 o9 o10 o11 o12) H')):
  P (ca (TT (cF (n+9))) 23 aU.scope (ba aU.body [2]) (.int (k:Nat)) (dN (some (.frz xs)) (some (.ref kN)) (some gU) o1 o2 o3 o4 o5 o6 o7 o8 o9 o10 o11 o12) kn kb H):=by
 refine er (OL ..) ?_
 obtain⟨p,hp⟩:∃p,rj[k]?=some p:=⟨_,U8 hk⟩
 refine vz (T9 hp) λh1 h2 h3 h4 h5=>?_
 refine er (aq (T8 (n:=n+8)) ..) (er (Cy (v:=vq p) (by refine er (Vh ..) (er (hp ..) ?_);rfl) (by decide) ..) ?_)
 unfold vq
 simp only[dZ,cO,eT]
 have hmul:((7:Int)*(k:Nat))=((7*k:Nat):Int):=by push_cast;rfl
 refine er (vg (by decide) (oF (iZ ‹_›)) ..) (er (hmul ..) (er (aq (vf (n:=n+8) hx (by omega)) ..) ?_))
 refine ex1_2 (S7 (n:=n+7) (H:=H) hx (k:=k) (iZ ‹_›) h1 rfl h3) λws Wo al=>?_
 refine fW (P:=P) al λG kw hkw=>?_
 have hN1:(H++G)[kN]?=some (U Tg):=by refine er (U4 (List.getElem?_eq_some_iff.mp hN).1 ..) ?_;exact hN
 have hne:kw≠kN:=λe=>by
  rw[e,hN1]at hkw
  refine ex1_2 (Wo.hd) λr e2 _=>?_
  rw[e2]at hkw
  injection hkw with e3
  injection e3 with e4
  injection e4 with e5
  exact absurd (V.str.inj e5) (by decide+kernel)
 refine ex1_2 (mi (a:=(p.2.2.1:Int)+digit xs (7*k)) (b:=3) (Wu _)) λfo hfo hfl=>?_
 refine er (dR ..) (er (gT (by decide) ..) (er ((show(3:Int)=((3:Nat):Int)from rfl) ..) (er (hfo ..) ?_)))
 refine ex3_6 (TH (n:=n+5) hN1 hkw hne Wo hfl) λH1 ad W hex hmo hu R Q e=>?_
 refine er (aq e ..) (er (cH ..) ?_)
 have Q1:=Q.app [U gV]
 have ht:(H1++[U gV])[H1.length]?=some (U gV):=bl
 refine er ((show O.list [(V.str (S "in template")),.str (S "in body")]=U gV from rfl) ..) ?_
 generalize H1.length=k2 at*
 generalize H1++[U gV]=H2 at*
 refine ex1_2 (mi (a:=(p.2.2.2.1:Int)+(digit xs (7*k)).fdiv 3) (b:=3) (nU ‹_›)) λmo hmo2 hml=>?_
 rw[show((3:Nat):Int)=3 from rfl]at hmo2⊢
 refine er (mh (by decide) (by decide) ..) (er (dR ..) (er (gT (by decide) ..) (er (hmo2 ..) (er (q5 ht (iZ ‹_›) (by decide) ..) ?_))))
 refine ai (Q1.v.fresh (U (gV.take mo))) λB3 F3=>?_
 have Q3:=Q1.app [U (gV.take mo)]
 refine ex1_2 (TK (cF (n+9)) Q3 hu F3) λH4 Q4 e4=>?_
 refine er (e4 ..) (er ((show(V.ref (ad .b))= .ref (fj ad H2.length .b)from rfl) ..) ?_)
 refine er (mh (by decide) (by decide) ..) (er (dR ..) (er (gT (by decide) ..) (er (aT ..) ?_)))
 generalize fj ad H2.length=ad4 at*
 generalize hW4:{W with modes:=gV.take mo}=W4 at*
 have s4:W4.s=W.s:=by refine el (hW4 ..) rfl
 have m4:W4.modes=gV.take mo:=by refine el (hW4 ..) rfl
 have x4:W4.ex=W.ex:=by refine el (hW4 ..) rfl
 have u4:W4.u=none:=by refine el (hW4 ..) ?_;exact hu
 rw[←s4]at R
 refine ex1_2 (Ao (cF (n+9)) Q4 (decide (((p.2.2.2.2:Int)+(digit xs (7*k)).fdiv 9).fmod 2=0))) λH5 Q5 e5=>?_
 refine er (e5 ..) ?_
 generalize decide (((p.2.2.2.2:Int)+(digit xs (7*k)).fdiv 9).fmod 2=0)=okb at*
 refine ex2_6 (TR (n:=n+8) Q5 u4 R.er R.dn) λH6 W6 s6 m6 x6 Q6 D6 e6=>?_
 refine er (aq e6 ..) (er ((show(V.ref (ad4 .b))= .ref (eN ad4 H5.length (W4.up (gk W4.s okb) W4.aA W4.cA).s.names.length .b)from rfl) ..) (er ((show(V.ref H5.length)= .ref (eN ad4 H5.length (W4.up (gk W4.s okb) W4.aA W4.cA).s.names.length .d)from rfl) ..) ?_))
 generalize eN ad4 H5.length (W4.up (gk W4.s okb) W4.aA W4.cA).s.names.length=ad6 at*
 have s6':W6.s=gk W4.s okb:=s6
 have m6':W6.modes=gV.take mo:=m6.trans m4
 have x6':W6.ex=[(kN,U Tg),(kw,U ws)]:=(x6.trans x4).trans hex
 have l6:W6.modes.length=mo:=by refine er (m6' ..) (er (Wy ..) ?_);show min mo 2=mo;omega
 refine Ud (n:=n) (P:=P) (W:=W6) (Q6.le (by decide)) (D6.le (by decide)) ?_ ?_ ?_ ?_ ?_ ?_ ?_ (iZ ‹_›) (by refine er (x6' ..) ?_;rfl) hx h2 h4 h5 ?_
 ·refine er (s6' ..) ?_;rfl
 ·refine er (s6' ..) ?_;exact BX R.iv Q4.f
 ·refine er (s6' ..) ?_;exact⟨R.ft.kn,R.ft.sn,R.ft.nn,R.ft.an,R.ft.en,R.ft.mn,R.ft.cu⟩
 ·refine er (s6' ..) ?_;exact R.tx
 ·refine er (m6' ..) ?_
  intro x hx2
  exact List.all_eq_true.mp Ue x (VH hx2)
 ·refine er (l6 ..) ?_;exact iZ ‹_›
 ·refine er (l6 ..) ?_;exact hmo2
 ·intro H' q1 q2 q3 h
  exact next H' _ _ _ _ _ _ _ _ _ _ _ _ h
theorem Ug{xs:List Int}(hx:xs.length<=1000):rk (cF (n+10) 881 [.frz xs] H):=by
 refine er (OK ..) ?_
 unfold zh
 refine fW (P:=rk) (SM (n:=n+8)) λG kN hN=>?_
 refine er ((show(9:Int)=((9:Nat):Int)from rfl) ..) (er (uu (by decide) ..) ?_)
 refine lR (P:=rk) (λj vars H'=>H'[kN]?=some (U Tg)/\∃o1 o2 o3 o4 o5 o6 o7 o8 o9 o10 o11 o12,vars=(dN (some (.frz xs)) (some (.ref kN)) (some gU) o1 o2 o3 o4 o5 o6 o7 o8 o9 o10 o11 o12)) ?_ ?_ ⟨hN,_,_,_,_,_,_,_,_,_,_,_,_,rfl⟩
 ·rintro j v vars H' kn hv ⟨hN',o1,o2,o3,o4,o5,o6,o7,o8,o9,o10,o11,o12,rfl⟩ hk
  have hj:j<9:=by have:=(List.getElem?_eq_some_iff.mp hv).1;simpa using this
  rw[mv hj]at hv
  injection hv with hv
  subst hv
  exact Uf (n:=n) (P:=rk) hj hx hN' λH2 _ _ _ _ _ _ _ _ _ _ _ _ h2=>hk _ _ ⟨h2,_,_,_,_,_,_,_,_,_,_,_,_,rfl⟩
 ·rintro vars H' ⟨hN',o1,o2,o3,o4,o5,o6,o7,o8,o9,o10,o11,o12,rfl⟩
  refine er (OO ..) ?_
  exact⟨H',rfl⟩
end
theorem CB{a:Addr}{o:Obj}:∀{K:Frag},K.lookup a=some o->(a,o)∈K
 |[],e=>by cases e
 |(b,q)::r,e=>by
  rw[Vg]at e
  by_cases hb:a=b
  ·subst hb
   simp at e
   subst e
   exact U3 ..
  ·have:(a==b)=false:=by simpa using hb
   rw[this]at e
   exact U7 _ (CB e)
theorem Uh{h:Heap}{as:List Addr}:(iI h.get? as).In h:=λa o e=>by
 refine bZ λgP gh=>?_
 obtain⟨b,_,hb⟩:=List.mem_filterMap.mp (CB e)
 obtain⟨q,hq,e2⟩:=Option.map_eq_some_iff.mp hb
 cases e2
 refine gh ?_;clear gh gP
 exact hq
theorem rm{α:Type}{a:Str}{o:α}:∀{K:List (Str×α)},K.lookup a=some o->(a,o)∈K
 |[],e=>by cases e
 |(b,q)::r,e=>by
  rw[Vg]at e
  by_cases hb:a=b
  ·subst hb
   simp at e
   subst e
   exact U3 ..
  ·have:(a==b)=false:=by simpa using hb
   rw[this]at e
   exact U7 _ (rm e)
theorem jC{a b:Option (Option Value)}(h:iJ a b=true):a=b:=of_decide_eq_true h
theorem Ui:fB.all (λn=>decide (bootBuiltins n=some (if n=Str.ofString "len"then .builtin "len"else .type n.toString)))=true:=by decide+kernel
theorem CC{K:Frag}{c:cX}(h:rQ K c=true):rU K c:=by
 unfold rQ at h
 simp only[U2,WB]at h
 refine bZ λgP gh=>?_
 obtain⟨⟨⟨⟨⟨⟨⟨⟨h1,h2⟩,h3⟩,h4⟩,h5⟩,h6⟩,h7⟩,h8⟩,h9⟩:=h
 refine gh ?_;clear gh gP
 refine⟨h1,jC h2,h3,h4,jC h5,h6,λn f hn=>?_,λn hn=>?_,h7⟩
 ·obtain⟨⟨⟨a,b⟩,c'⟩,d⟩:=h8 (n,f) (rm hn)
  exact⟨a,jC b,c',d⟩
 ·obtain⟨y,hy,e⟩:=List.any_eq_true.mp hn
  have:=of_decide_eq_true e
  subst this
  obtain⟨⟨a,b⟩,c'⟩:=h9 y hy
  exact⟨a,jC b,jC c'⟩
theorem Uj{K:Frag}(h:pg K=true):rV K gz eH:=by
 unfold pg at h
 simp only[U2,WB]at h
 obtain⟨⟨h1,h2⟩,h3⟩:=h
 refine⟨λn a hn=>?_,λn c hn=>?_,λc hc=>CC (h2 c hc).2,λn hn=>⟨jC (h3 n hn),of_decide_eq_true (List.all_eq_true.mp Ui n hn)⟩⟩
 ·obtain⟨a1,a2⟩:=h1 (n,a) (rm hn)
  exact⟨jC a1,a2⟩
 ·obtain⟨a1,a2⟩:=h2 (n,c) (rm hn)
  exact⟨jC a1,CC a2⟩
theorem Uk{x:Value}(h:f_ x=1):x= .none:=by cases x<;>first|rfl|exact Nat.noConfusion h|exact absurd h (by simp[f_])
theorem Ul{x:Value}(h:f_ x=3):∃t,x= .int (vM x) t:=by cases x<;>first|exact⟨_,rfl⟩|exact absurd h (by simp[f_])
theorem Um{x:Value}(h:f_ x=4):∃t,x= .str (vN x) t:=by cases x<;>first|exact⟨_,rfl⟩|exact absurd h (by simp[f_])
theorem Un{x:Value}(h:f_ x=5):x= .ref (vO x):=by cases x<;>first|rfl|exact Nat.noConfusion h|exact absurd h (by simp[f_])
theorem fT{P:Prop}(h:false=true):P:=Bool.noConfusion h
set_option tactic.hygienic true in
theorem Uo{K:Frag}{a:Addr}(h:(match K.lookup a with
  |some ⟨.type t,.none,.seq xs _,sl⟩=>t=="tuple"&&xs.size==0&&sl.size==0
  |_=>false)=true):∃n,K.lookup a=some ⟨.type "tuple",.none,.seq #[] n, #[]⟩:=by
 split at h
 ·rename_i t xs n sl e
  simp only[U2,beq_iff_eq]at h
  refine bZ λgP gh=>?_
  obtain⟨⟨h1,h2⟩,h3⟩:=h
  have e1:xs= #[]:=Wn h2
  have e2:sl= #[]:=Wn h3
  subst h1 e1 e2
  refine gh ?_;clear gh gP
  exact⟨n,e⟩
 ·exact fT h
theorem Up{K:Frag}{v:V}{x:Value}(h:vP K v x=true):VR K [] [] v x:=by
 cases v with
 |none=>refine er (Uk (eq_of_beq h) ..) ?_;exact .none
 |bool a=>refine er (of_decide_eq_true h ..) ?_;exact .bool a
 |int a=>
  have h2:=Bool.and_eq_true_iff.mp h
  refine ex1_1 (Ul (eq_of_beq h2.1)) λt e=>?_
  refine er (e ..) (el (of_decide_eq_true h2.2 ..) ?_);exact .int a t
 |str a=>
  have h2:=Bool.and_eq_true_iff.mp h
  refine ex1_1 (Um (eq_of_beq h2.1)) λt e=>?_
  refine er (e ..) (el (of_decide_eq_true h2.2 ..) ?_);exact .str a t
 |tup xs=>
  cases xs with
  |cons y ys=>exact fT h
  |nil=>
   have h2:=Bool.and_eq_true_iff.mp h
   refine ex1_1 (Uo h2.2) λn e=>?_
   refine er (Un (eq_of_beq h2.1) ..) ?_
   exact .tup (items:=[]) (.inr ⟨n,e⟩) .nil
 |ref k=>exact fT h
 |fn a=>exact fT h
 |frz xs=>exact fT h
theorem CE{K:Frag}:∀{ds:List V}{xs:List Value},pe K ds xs=true->VRs K [] [] ds xs
 |[],[],_=> .nil
 |a::as,b::bs,h=>by
  obtain⟨h1,h2⟩:=Bool.and_eq_true_iff.mp h
  exact .cons (Up h1) (CE h2)
 |[],_::_,h=>by cases h
 |_::_,[],h=>by cases h
set_option tactic.hygienic true in
theorem Uq{K:Frag}{dV:Value}{ds:List V}(h:vQ K dV ds=true):xA K dV ds:=by
 cases dV<;>first|(cases h;done)|skip
 ·have:ds=[]:=by simpa using(show ds.isEmpty=true from h)
  exact .inl ⟨rfl,this⟩
 ·rename_i T
  replace h:(match K.lookup T with
   |some ⟨.type t,.none,.seq xs _,sl⟩=>t=="tuple"&&sl.size==0&&pe K ds xs.toList
   |_=>false)=true:=h
  split at h
  ·rename_i t xs n sl e
   simp only[U2,beq_iff_eq]at h
   refine bZ λgP gh=>?_
   obtain⟨⟨h1,h2⟩,h3⟩:=h
   have e2:sl= #[]:=Wn h2
   subst h1 e2
   refine gh ?_;clear gh gP
   exact .inr ⟨T,xs.toList,n,rfl,e,CE h3⟩
  ·exact absurd h (by decide)
theorem Ur{A0 A1 A2 A3 A4 A5 A6 A7:Type}{a0 b0:A0}{a1 b1:A1}{a2 b2:A2}{a3 b3:A3}{a4 b4:A4}{a5 b5:A5}{a6 b6:A6}{a7 b7:A7}(h:some (a0,a1,a2,a3,a4,a5,a6,a7)=some (b0,b1,b2,b3,b4,b5,b6,b7)):a0=b0/\a1=b1/\a2=b2/\a3=b3/\a4=b4/\a5=b5/\a6=b6/\a7=b7:=by
 have h:=Option.some.inj h
 exact⟨congrArg (λx=>x.1) h,congrArg (λx=>x.2.1) h,congrArg (λx=>x.2.2.1) h,congrArg (λx=>x.2.2.2.1) h,congrArg (λx=>x.2.2.2.2.1) h,congrArg (λx=>x.2.2.2.2.2.1) h,congrArg (λx=>x.2.2.2.2.2.2.1) h,congrArg (λx=>x.2.2.2.2.2.2.2) h⟩
set_option tactic.hygienic true in
theorem Us{K:Frag}{f:aE}(h1:pd K f=mL f)(h2:pf K f=true):pV K f:=by
 unfold pd mL at h1
 unfold pf at h2
 split at h1
 ·rename_i oc od fd osl e
  rw[e]at h2
  have c:=Bool.and_eq_true_iff.mp h2
  have i:=Ur h1
  refine⟨⟨oc,od,osl,fd.defaults,fd.kwdefaults,fd.doc,fd.pyModule,fd.annotations,fd.code,fd.closureTuple,?_,c.1,Uq c.2⟩,by unfold keepIn;dsimp only;refine er (e ..) rfl⟩
  simp only[e,←i.1,←i.2.1,←i.2.2.1,←i.2.2.2.2.1]
  refine congrArg (λq=>some (⟨oc,od,Data.func q,osl⟩:Obj)) ?_
  have g:=i.2.2.2.2.2
  show fd={name:=fd.name,qualname:=fd.qualname,params:=fd.params,body:= .stmts f.body,scope:=fd.scope,globals:=mainGlobals,closure:=[],defaults:=fd.defaults,kwdefaults:=fd.kwdefaults,doc:=fd.doc,pyModule:=fd.pyModule,annotations:=fd.annotations,code:=fd.code,closureTuple:=fd.closureTuple,builtins:=builtinsNs}
  simp only[←i.2.2.2.1,←g.1,←g.2.1,←g.2.2]
 ·exact ak h1
structure Ut(K:Frag):Prop where
 ko:rV K gz eH
 fn:∀f∈eI,pV K f
 mo:∃o,K.lookup sysModules=some o
noncomputable def oM(h:Heap):Prop:=∃K:Frag,K.In h/\∀x o,Ut (K++[(x,o)])
theorem Uu{h:Heap}{as:List Addr}(e:mM (iI h.get? as)=mN):oM h:=by
 refine⟨iI h.get? as,Uh,λx o=>?_⟩
 have ex:vR (iI h.get? as++[(x,o)])=(eI.map mL,true):=congrFun (congrFun e x) o
 generalize iI h.get? as++[(x,o)]=K at ex
 have e1:eI.map (pd K)=eI.map mL:=congrArg Xr ex
 have e2:(eI.all (pf K)&&pg K&&(K.lookup sysModules).isSome)=true:=congrArg Xq ex
 obtain⟨e3,m⟩:=Bool.and_eq_true_iff.mp e2
 obtain⟨a,b⟩:=Bool.and_eq_true_iff.mp e3
 exact⟨Uj b,λf hf=>Us (List.map_inj_left.mp e1 f hf) (List.all_eq_true.mp a f hf),Option.isSome_iff_exists.mp m⟩
theorem Uv{h h':Heap}(y:oM h)(k:∀b o,h.get? b=some o->h'.get? b=some o):oM h':=let⟨K,a,b⟩:=y;⟨K,λx o e=>k x o (a x o e),b⟩
theorem Uw(s:SharedT):s.abs.heap.get?=mP s:=by
 funext a
 unfold mP
 show(absHeap s.tree s.n s.life).get? a=_
 unfold Heap.get?
 refine er (absHeap_at ..) ?_
 by_cases h:a<s.n
 ·refine er (if_pos h ..) (er ((show XV a s.n=true from Nat.ble_eq_true_of_le h) ..) ?_)
  generalize (s.tree.get a).getD default=o
  obtain⟨c,d,dt,sl⟩:=o
  cases dt<;>rfl
 ·rw[if_neg h,show XV a s.n=false by
   cases e:XV a s.n with
   |false=>rfl
   |true=>exact absurd (Nat.le_of_ble_eq_true e) h]
def rp(s:Shared):=mM (iI s.heap.get? pc)
def rq(_:World):=mN
theorem Ux:∀(w:World) (os:OsState),segRun treeTable pw w 11 eg 1 2 (g7 w.params os).abs (blockOf jO jP d4 gA g8)=some (.next,(g7 w.params os).abs,d4,gA):=λw os=>by kernel_rfl
theorem Uy(w:World)(s:Shared):topRun treeTable pw w 11 eg 2 s ⟨doneF .next,d4,ph,g8⟩=some s:=by kernel_rfl
theorem Uz:∀P:Params,((boot_heap P).isNs mainGlobals&&(Xg ([]:List GenState)).size==0,(boot_heap P).objs.size,(boot_heap P).nsMap mainGlobals "__annotations__")=(true,11,eg):=λP=>by kernel_rfl
theorem UA:∀w:World,(fencedOpening treeTable pw w 6100).map (λs=>(s.heap,s.gens,s.drawn,s.toks))=some (boot_heap w.params,Xg [],boot_drawn,boot_toks):=boot_open (by rfl) (by rfl) (λs=>rfl)
theorem UB{A B C D E:Type}{a a':A}{b b':B}{c c':C}{d d':D}{e e':E}(h:(a,b,c,d,e)=(a',b',c',d',e')):a=a'/\b=b'/\c=c'/\d=d'/\e=e':=by
 injection h with v1 v2
 injection v2 with v2 v3
 injection v3 with v3 v4
 injection v4 with v4 v5
 exact⟨v1,v2,v3,v4,v5⟩
theorem k1{w:World}{os:OsState}{T:SharedT}(hr':segRunT treeTable pw w 11 eg 1 6000 (g7 w.params os) (piecesOf jO jP d4 gA g8)=some (.next,T,d4,ph)):topRun treeTable pw w 11 eg (6000+2) (g7 w.params os).abs (restOf jO jP d4 gA g8)=some T.abs:=by
 have r2:=piece_app (rest:=[]) (N:=2) (segRun_of hr') (piece_nil (Uy w T.abs))
 exact r2
theorem k2{w:World}{os:OsState}{T:SharedT}(r2:topRun treeTable pw w 11 eg (6000+2) (g7 w.params os).abs (restOf jO jP d4 gA g8)=some T.abs):topRun treeTable pw w 11 eg (2+(6000+2)) (g7 w.params os).abs ⟨denote treeTable d4,d4,gA,g8⟩=some T.abs:=piece_block (Ux w os) r2
theorem k3{w:World}{os:OsState}{T:SharedT}(r3:topRun treeTable pw w 11 eg (2+(6000+2)) (g7 w.params os).abs ⟨denote treeTable d4,d4,gA,g8⟩=some T.abs):topRun treeTable pw w 11 eg (12+(2+(6000+2))) (mO w.params os) (topStub pw)=some T.abs:=go_top (Eu w os) r3
theorem k4{w:World}{os:OsState}{T:SharedT}(r4:topRun treeTable pw w 11 eg (12+(2+(6000+2))) (mO w.params os) (topStub pw)=some T.abs):topRun treeTable pw w 11 eg 6100 (mO w.params os) (topStub pw)=some T.abs:=topRun_mono 84 _ _ _ _ r4
theorem k5{w:World}{os:OsState}{T:SharedT}(r6:topRun treeTable pw w 11 eg 6100 (mO w.params os) (topStub pw)=some T.abs)(q1:(staticsOk k_ (boot_heap w.params) T.abs.heap&&namesBound pw T.abs.heap&&gensDone T.abs&&laidKept (boot_heap w.params) T.abs.heap)=true):topFrom treeTable pw w 6100 ⟨boot_heap w.params,Xg [],boot_drawn,boot_toks,os⟩=some T.abs:=by
 obtain⟨z1,z2,z3⟩:_/\_/\_:=by simpa only[Prod.mk.injEq]using Uz w.params
 unfold topFrom
 refine er (z1 ..) (er (z2 ..) (er (z3 ..) ?_))
 have r6':topRun treeTable pw w 11 eg 6100 ⟨boot_heap w.params,Xg [],boot_drawn,boot_toks,os⟩ (topStub pw)=some T.abs:=r6
 refine er (r6' ..) ?_
 show(match staticsOk k_ (boot_heap w.params) T.abs.heap&&namesBound pw T.abs.heap&&gensDone T.abs&&laidKept (boot_heap w.params) T.abs.heap with|true=>_|false=>_)=_
 refine er (q1 ..) rfl
theorem k0(w:World)(os:OsState):∃T:SharedT,segRunT treeTable pw w 11 eg 1 6000 (g7 w.params os) (piecesOf jO jP d4 gA g8)=some (.next,T,d4,ph)/\pj w.params T.abs=(true,openGood eJ gB)/\mM (iI (mP T) pc)=mN:=by
 refine bZ λgP gh=>?_
 obtain⟨⟨fl,T,c,p'⟩,hr,hv⟩:=Option.map_eq_some_iff.mp (Ew w os)
 refine vz (UB hv) λv1 v2 v3 v4 v5=>?_
 refine gh ?_;clear gh gP
 refine⟨T,?_,v4,v5⟩
 refine er (PySem.W.Fast.te10110043849684766642 ..) (er (hr ..) ?_)
 exact congrArg some (XI v1 (XI rfl (XI v2 v3)))
theorem k6{P:Params}{T:SharedT}(h:pj P T.abs=(true,openGood eJ gB)):(staticsOk k_ (boot_heap P) T.abs.heap&&namesBound pw T.abs.heap&&gensDone T.abs&&laidKept (boot_heap P) T.abs.heap)=true:=congrArg Xr h
theorem k7{P:Params}{T:SharedT}(h:pj P T.abs=(true,openGood eJ gB)):openSeen eJ gB k_ pi true T.abs=openGood eJ gB:=by
 refine er (PySem.W.Fast.te4187177175401517315 ..) ?_
 exact congrArg Xq h
theorem UC{α β:Type}{a a':α}{b b':β}(h1:a=a')(h2:b=b'):some (a,b)=some (a',b'):=by refine er (h1 ..) (er (h2 ..) rfl)
theorem k8{T:SharedT}(h:mM (iI (mP T) pc)=mN)(w:World):rp T.abs=rq w:=by
 unfold rp rq
 refine er (Uw ..) ?_
 exact h
theorem UD:LeftO pw eJ gB pi rp rq 6100:=λw=>by
 obtain⟨⟨h,gs,d,k,os⟩,e,e'⟩:=Option.map_eq_some_iff.mp (UA w)
 obtain⟨rfl,rfl,rfl,rfl⟩:h=boot_heap w.params/\gs=Xg []/\d=boot_drawn/\k=boot_toks:=by simpa using e'
 refine ex1_3 (k0 w os) λT a1 a2 a3=>?_
 have t:=k5 (k4 (k3 (k2 (k1 a1)))) (k6 a2)
 unfold openEnds
 refine er (e ..) (er (XJ ..) (er (t ..) (er (WU ..) ?_)))
 exact UC (k7 a2) (k8 a3 w)
noncomputable abbrev dX:OpenRow:=rl.row
noncomputable def vu(_:Str->Option Value)(_:Heap):Prop:=True
noncomputable def vw(_:World)(h:Heap):Prop:=oM h
theorem CF:(defOf eJ (Str.ofString "law")).isSome=true:=by decide+kernel
def f0:DefRec×List (Str×Expr):=(defOf eJ (Str.ofString "law")).get CF
theorem CG:defOf eJ dX.name=some (f0.1,f0.2):=(Option.some_get CF).symm
theorem UE:dX.prog.theDef dX.name=some (f0.1.params,f0.1.body,f0.1.scope):=by kernel_rfl
theorem UF:kwWritten? f0.1.params.kwonlyargs f0.1.params.kw_defaults=some f0.2:=by kernel_rfl
theorem UG:(chainsOk eJ&&opensWell dX.prog&&(frees dX.toRowW&&dX.within.isEmpty))=true:=by decide+kernel
theorem UH:dX.prog.bare:=⟨rfl,rfl,rfl,rfl,rfl,by decide+kernel⟩
theorem UI:dX.toRowW.promised:=⟨[.list []],by decide+kernel,by decide+kernel⟩
theorem UJ:∀s:Shared,RecFacts dX.records s.heap:=λs=>recFacts_of (R:=[]) (s:=s) rfl
theorem UK(said:dX.wellSaid=true)(call:WalkO eJ gB vu vw dX.toRowW f0.1 f0.2 λf vs=>PySem.call f vs):dX.Holds:=
 holds_open (r:=dX) (q:=eJ) (loose:=gB) (Xt:=pi) (XP:=vu) (Yf:=rp) (Ya:=rq) (YP:=vw) (N:=6100) UD (λw s e=>Uu e) (λw h h' y k=>Uv y k) (λ_ _=>trivial) (λ_ _ _ _ _=>trivial) CG UE UF (λs _=>UJ s) rfl said UG UH UI call
theorem UL{ds:List WData}(h:dX.pre.holds [] {args:=[.list ds]}=true):ds.length<=63:=by
 by_cases hl:(63:Int)<ds.length
 ·exfalso
  have e:less? (WData.int 63) (WData.int ds.length)=some (decide ((63:Int)<ds.length)):=rfl
  simp[dX,rl,OpenLaw.row,OpenLaw.pre,PySem.Challenge.rw_nt0618_01,WTm.holds,WTm.value,e,hl]at h
 ·lia
theorem UM{args:List WData}(h:dX.toRowW.claim.pre args=true):∃ds:List WData,args=[.list ds]/\WShape.hasItems [] ds .int=true/\ds.length<=63:=by
 refine ai (pre_splitW h) λh1 h2=>?_
 refine ex2_3 (hasAllW_cons h1) λd r zq2 h3 h4=>?_;subst zq2
 refine ex1_2 (hasW_list h3) λds zq1 h5=>?_;subst zq1
 have:=hasAllW_nil h4
 subst this
 exact⟨ds,rfl,h5,UL h2⟩
theorem CH{cl:Str->Option Addr}{h:Heap}:∀{ds:List WData}{vs:List Value}{as:List Addr},WShape.hasItems [] ds .int=true->ReadsAllW [] cl h vs ds as->∃ns,IntsAre vs ns/\ns.length=ds.length
 |[],_,_,_,h2=>by cases h2;exact⟨[],.nil,rfl⟩
 |d::ds,_,_,h1,h2=>by
  cases h2 with
  |cons r1 r2=>
   refine ex1_1 (hasW_int (hasItemsW_at h1 d (U3 ..))) λi hi=>?_
   subst hi
   have h1':WShape.hasItems [] ds .int=true:=by
    simp only[WShape.hasItems,U2]at h1
    exact h1.2
   refine ex1_2 (CH h1' r2) λns a b=>?_
   cases r1
   exact⟨i::ns,.cons _ _ a,by simp[b]⟩
theorem rr{a:Addr}:∀{K L:Frag},(K++L).lookup a=(K.lookup a).or (L.lookup a)
 |[],L=>by simp
 |(b,o)::K,L=>by
  refine er (WA ..) (er (Vg ..) (er (Vg ..) ?_))
  cases a==b with
  |true=>rfl
  |false=>exact rr
theorem UN:m_ 881=some aU:=by kernel_rfl
theorem CJ:aU∈eI:=VJ UN
theorem UO:aU.params.args.map (·.arg)=[Str.ofString "script"]:=by kernel_rfl
theorem UP:aU.scope.names.all (λy=>decide (y.2≠ .cell)&&decide (y.2≠ .free))=true:=by kernel_rfl
theorem CK:aU.scope.names.lookup (Str.ofString "script")=some .local:=by kernel_rfl
noncomputable def rt:Prop:=∀xs:List Int,xs.length<=1000->∃H',cF 10 881 [.frz xs] []=some (.bool true,H')
theorem UQ(law:rt){xs:List Int}(h:xs.length<=1000):∃H',eF (lv (TT (cF 9)) 24) aU.scope aU.body (kZ aU.scope [(Str.ofString "script",.frz xs)]) (λ_=>UZ .none) (λ_=>UY) []=some (.bool true,H'):=by
 refine ex1_1 (law xs h) λH' e=>?_
 refine⟨H',?_⟩
 replace e:(match m_ 881 with|some f=>iA (TT (cF 9)) f [.frz xs]| .none=>(UY:K)) []=some (.bool true,H'):=e
 replace e:iA (TT (cF 9)) aU [.frz xs] []=some (.bool true,H'):=e
 unfold iA at e
 exact e
theorem UR(law:rt){w:World}{s:Shared}{mg mb:Str->Option Value}(hg:s.heap.Ns mainGlobals mg)(hb:s.heap.Ns builtinsNs mb)(hl:s.heap.NoLimit)(hbi:∀x:Str,x≠"__name__"->mb x=bootBuiltins x)(y:oM s.heap){x:Addr}{o:Obj}{vs:Array Value}{n:Nat}{ns:List Int}
  (ho:s.heap.get? x=some o) (hc:o.cls= .type "list") (hd:o.data= .seq vs n) (hi:IntsAre vs.toList ns) (hlen:ns.length<=1000) {R:Result->Shared->Prop}
  (hR:∀s':Shared,(∀b o,s.heap.get? b=some o->s'.heap.get? b=some o)->s'.gens=s.gens->s'.os=s.os->R (.ok (.ret (.bool true))) s'):codeAny (model pw w) callerA (.call (.ref 881) ⟨[.ref x],[]⟩) R s:=by
 refine bZ λgP gh=>?_
 refine ex1_2 (y) λK0 X0 all=>?_
 have KA:=all x o
 have hX:(K0++[(x,o)]:Frag).In s.heap:=λa q e=>by
  replace e:=Vu (We (rr)) e
  cases h0:K0.lookup a with
  |some q'=>rw[h0]at e;cases e;exact X0 a q h0
  |none=>
   rw[h0]at e
   replace e:([(x,o)]:Frag).lookup a=some q:=e
   simp only[Vg]at e
   by_cases hax:a=x
   ·subst hax;simp at e;refine el (e ..) ?_;exact ho
   ·have:(a==x)=false:=by simpa using hax
    rw[this]at e;exact ak e
 have hx:(K0++[(x,o)]:Frag).lookup x=some o:=by
  refine Vu (rr) ?_
  cases h0:K0.lookup x with
  |some q=>have:=X0 x q h0;rw[ho]at this;cases this;rfl
  |none=>simp
 generalize (K0++[(x,o)]:Frag)=K at*
 obtain⟨oc,dd,dt,sl⟩:=o
 simp only at hc hd
 subst hc hd
 have fi:=KA.fn aU CJ
 have fo:pW aU:=xH (List.all_eq_true.mp xI aU CJ)
 refine bZ λgP gh=>?_
 obtain⟨oc,od,osl,dV,kV,doc,pm,an,cdv,ct,hof,hcd,hD⟩:=fi.ex
 refine gh ?_;clear gh gP
 have hdv:∀(M:Model) (A:Around) (E:Value->Shared->Prop) (Q:Option (Array Value)->Shared->Prop),(∀o:Option (Array Value),(o.getD #[]).toList=[]->Q o s)->wpAny M A (seqItems? dV) Q E s:=by
  rcases hD with⟨rfl,_⟩|⟨T0,items,n,rfl,hl,hs⟩
  ·exact λM A E Q hq=>wpAny_pure (hq none rfl)
  ·have hs':VRs K [] [] [] items:=hs
   cases hs'
   exact λM A E Q hq=>wpAny_seqItems (hX _ _ hl) rfl (hq _ rfl)
 have hbind:=xz (s:=s) (fd:=fnX aU.name aU.qual aU.params aU.body aU.scope [] dV kV doc pm an cdv ct) (vs:=[.ref x]) (ds:=[]) fo.po UO fo.kw fo.va fo.ka (by simp) hdv (by simp) (by simp) (by simp)
 have nc:∀y∈aU.scope.names,y.2≠ .cell/\y.2≠ .free:=λy hy=>by
  have:=List.all_eq_true.mp UP y hy
  simp only[U2]at this
  exact⟨of_decide_eq_true this.1,of_decide_eq_true this.2⟩
 refine ex1_1 (UQ law hlen) λH' he=>?_
 refine gh ?_;clear gh gP
 refine codeAny_call_def (fd:=fnX aU.name aU.qual aU.params aU.body aU.scope [] dV kV doc pm an cdv ct) (body:=aU.body) (binds:=[(Str.ofString "script",.ref x)]) (by decide) (hX _ _ hof) rfl hl (codeRec_of hX hcd) rfl hbind (λy hy=>(nc y hy).1) (λy hy=>by refine er (List.mem_singleton.mp hy ..) ?_;exact CK) (λh₀ hns hk=>?_) fo.co fo.ge fo.ki
 generalize henv:callEnv (fnX aU.name aU.qual aU.params aU.body aU.scope [] dV kV doc pm an cdv ct) s.heap.objs.size 881=env
 have e1:env.globals=mainGlobals:=by refine el (henv ..) ?_;rfl
 have e2:env.builtins=builtinsNs:=by refine el (henv ..) ?_;rfl
 have e3:env.scope.kind= .function:=by refine el (henv ..) ?_;exact fo.ki
 have e4:∀x k,aU.scope.names.lookup x=some k->env.kindOf x=some k:=λx k h=>by refine el (henv ..) ?_;exact h
 have e5:env.frame=some s.heap.objs.size:=by refine el (henv ..) ?_;rfl
 have e6:env.locals=s.heap.objs.size:=by refine el (henv ..) ?_;rfl
 have e7:env.cells=[]:=by refine el (henv ..) ?_;rfl
 let c:Cx:={prog:=pw,w:=w,A:=callerA.deeper env,A₀:=callerA,base:=s.heap,outer:=[],fenv:=env,L:=s.heap.objs.size,h₀:=s.heap,K:=K,mg:=mg,mb:=mb,g:=s.gens,d:=s.drawn,o:=s.os}
 have O:c.Ok (TT (cF 9)):=by
  refine ex1_1 (KA.mo) λom hm=>?_
  exact⟨below_caller _,hX,hg,hb,hl,hbi,Around.frames_deeper rfl,e5,e3,rfl,⟨om,hX _ _ hm⟩,by show callerA.units+3<=9700;decide,KA.ko⟩
 have W0:j9 c:=⟨O.cast rfl rfl,KA.fn⟩
 have calls:hF c (TT (cF 9)):=xG (xJ 9) W0 (by show callerA.depth+1+5*9+3<=950;decide) (by show callerA.units+3+20*9+10<=9000;decide)
 refine kJ (sE O calls 24) λ_ _ hs _=>?_
 have S1:St c (λy=>[(Str.ofString "script",Value.ref x)].reverse.lookup y) [] [] [] {s with heap:=h₀,toks:=s.toks+1}:=⟨⟨hns,hk,Vf _⟩,λp hp=>(nomatch hp),⟨rfl,λk o p h=>by simp at h,λj k p q _ h=>by simp at h,XY⟩,rfl,rfl,rfl⟩
 have A1:At c env aU.scope (λy=>[(Str.ofString "script",Value.ref x)].reverse.lookup y) [] [] [] {s with heap:=h₀,toks:=s.toks+1} (kZ aU.scope [(Str.ofString "script",.frz ns)]):=by
  refine⟨S1,⟨e1,e2,e3,λx h=>e4 x _ h,λx h=>h.imp (e4 x _) (e4 x _),λx h=>e4 x _ h⟩,λz v hz=>?_,λz hz=>?_⟩
  ·unfold ef at hz
   split at hz
   ·rename_i hlk
    simp only[U2]at hlk
    rw[xF _ _ _ hlk.1,Vg]at hz
    by_cases hzs:z=Str.ofString "script"
    ·subst hzs
     simp at hz
     subst hz
     exact⟨.ref x,.frz (items:=vs.toList) (n:=n) (dd:=dd) (sl:=sl) hx hi,.inl ⟨e4 _ _ CK,e6,rfl⟩⟩
    ·have:(z==Str.ofString "script")=false:=by simpa using hzs
     rw[this]at hz;exact ak hz
   ·exact ak hz
  ·exfalso
   rcases m7 hz with h|h
   ·exact(nc _ (hO h)).1 rfl
   ·exact(nc _ (hO h)).2 rfl
 have FO:eV c env aU.scope []:=⟨e6,λx y a h=>(by rw[e7]at h;exact ak h),λx a h=>(by rw[e7]at h;exact ak h),λx h=>e4 x _ h⟩
 refine wpAny_mono (jY hs FO aU.body _ A1 (λa ha=>(nomatch ha)) he) (λfl s' q=>?_) λ_ _ x=>x
 cases fl with
 |next=>
  obtain⟨m',vars',H',ρ',nw',A',_,e⟩:=q
  cases bW e
 |brk=>obtain⟨m',vars',H',ρ',nw',A',_,e⟩:=q;exact ak e
 |cont=>exact q.elim
 |ret v=>
  obtain⟨m',ρ',nw',hvr,S',_⟩:=q
  have zq:=lb hvr;subst zq
  exact hR s' S'.fr.keep S'.g S'.o
theorem US(ds:List WData):dX.toRowW.claim.post [.list ds] (.bool true) [.list ds]=true:=by kernel_rfl
theorem UT{K0:Frag}{h:Heap}{x:Addr}{o:Obj}(X0:K0.In h)(ho:h.get? x=some o):(K0++[(x,o)]:Frag).In h:=λa q e=>by
 replace e:=Vu (We (rr)) e
 cases h0:K0.lookup a with
 |some q'=>rw[h0]at e;cases e;exact X0 a q h0
 |none=>
  rw[h0]at e
  replace e:([(x,o)]:Frag).lookup a=some q:=e
  simp only[Vg]at e
  by_cases hax:a=x
  ·subst hax;simp at e;refine el (e ..) ?_;exact ho
  ·have:(a==x)=false:=by simpa using hax
   rw[this]at e;cases e
theorem UU:gz.lookup (Str.ofString "law")=some 881:=by kernel_rfl
theorem UV(law:rt):WalkO eJ gB vu vw dX.toRowW f0.1 f0.2 λf vs=>PySem.call f vs:=by
 intro w s₀ s₁ mg mb G Y a o pm cd doc dV kV ho hd hcd hD hmg hgens args vals as hpre hlay hrd hwl hlow
 refine bZ λgP gh=>?_
 refine ex1_2 (id Y) λK0 X0 all=>?_
 have e1:=mg_of (UT X0 ho) G.T.g ((all a o).ko.fn _ _ UU).1
 have hn:f0.1.name=Str.ofString "law":=defOf_name CG
 simp only[hn,e1]at hmg
 cases hmg
 refine ex1_3 (UM hpre) λds zq1 hi hlen=>?_;subst zq1
 refine gh ?_;clear gh gP
 cases hrd with
 |cons r1 r2=>
  cases r2
  cases r1 with
  |list h1 h2 h3 h4=>
   refine ex1_2 (CH hi h4) λns hns hl=>?_
   exact wpAny_call (UR law G.T.g G.T.b G.T.nolimit G.T.builtins Y h1 h2 h3 hns (nQ ‹_› ‹_›) λs' k g os=>GoodW.toG ⟨.inl ⟨.bool true,.bool true,[],rfl,λcls=>rfl,.bool true,US ds,λ_=>⟨XY,λa ha=>(nomatch ha)⟩⟩,k,os,g.trans hgens⟩)
theorem UW:rt:=λxs h=>Ug (n:=0) h
end Mine
theorem PySem.Challenge.cw_nt0618_01_holds : PySem.Challenge.rw_nt0618_01.Holds :=
 PySem.W.holds_law Mine.En λsaid=>Mine.UK said (Mine.UV Mine.UW)
